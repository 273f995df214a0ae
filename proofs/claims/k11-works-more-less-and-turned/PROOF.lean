import PyProof.Rows.All
import Wide.All
import OpenK.AllK
import Wide.FinOn
import HandS.ForMost
import HandS.ForExc
import HandS.Wide
import HandS.WideMore
import HandS.ExcIs
import HandS.ExcOwn
import HandS.Property
import HandS.More
import HandS.Small
import HandS.Deep
import HandS.TupAny
import HandS.SortInts
import HandS.Conv
import HandS.Text
import HandS.Lambda
import HandS.IsInst
import HandS.SortRule
import HandS.TupLen
import HandS.Zip
import PyProof.ReprRoads
import HandS.Flt
import HandS.Ends
import HandS.Words
import HandS.SetFor
import HandS.TupSets
import PyProof.InstNe
import HandS.TryMany
import PyProof.ReprLen
import PySem.Challenge.RW_planetlocks_k11_works_more_less_and_turn
set_option Elab.async false
set_option linter.all false
set_option maxRecDepth 100000
namespace Vm
open PySem PySem.Spec PyProof.Rows L2
/-- isinstance's answer between two classes of the text -/
theorem kit_sub {K : PySem.W.Frag} {a b : Addr} {r : Bool} (hd : PySem.W.hasDictIn K b = true) (ht : PySem.W.typeIn K (.ref b) = some (.type "type")) (hs : PySem.W.subIn K (.ref a) (.ref b) = some r) (hr : r = false → a ≠ b) : PySem.W.kitOne K (.ref a) (.ref b) = some r := by
  obtain ⟨cd, hc, _⟩ := PySem.W.any_some hd
  have two : ((PySem.W.clsIn K b).isSome && PySem.W.typeIn K (.ref b) == some (.type "type")) = true := by rw [hc, ht]; rfl
  unfold PySem.W.kitOne
  by_cases h : (Value.ref a == Value.ref b) = true
  · rw [if_pos h]
    cases r with
    | true => rfl
    | false => exact absurd (Value.ref.inj (beq_iff_eq.mp h)) (hr rfl)
  · rw [if_neg h]
    show (if ((PySem.W.clsIn K b).isSome && PySem.W.typeIn K (.ref b) == some (.type "type")) = true then PySem.W.subIn K (.ref a) (.ref b) else none) = _
    rw [if_pos two, hs]
/-- an error's object, no longer in the air -/
def ErO (cls : Value) (d : Option Addr) (a : Addr) : HO := .ext fun h => ∃ (o : Obj) (vs : Array Value), h.get? a = some o ∧ Zc cls d o ∧ o.data = .fields vs
section
variable {X : Cx} {pins : List (Addr × Obj)} {σ : L2.St} {H : Hp} {s : Shared}
/-- what is kept is told of from now on -/
theorem inv_held {a : Addr} {o : Obj} {cls : Value} {d : Option Addr} {vs : Array Value} (I : Inv X pins σ H s) (there : s.heap.get? a = some o) (z : Zc cls d o) (fl : o.data = .fields vs) (na : H a = none) (nl : a ≠ X.env.locals) (new : X.s_0.heap.get? a = none)
    (np : ∀ p ∈ X.pn ++ pins, p.1 ≠ a) : Inv X pins σ (upd H a (ErO cls d a)) s := by
  have other : ∀ {b : Addr}, b ≠ a → upd H a (ErO cls d a) b = H b := fun hb => upd_ne hb
  have was : ∀ {b : Addr} {u : HO}, H b = some u → upd H a (ErO cls d a) b = some u := fun {b u} e => by
    rw [upd_ne (ne_of_none e na)]; exact e
  constructor
  case ok => exact I.ok
  case os => exact I.os
  case bare => exact I.bare
  case loc => exact I.loc
  case cell => exact I.cell
  case len => exact I.len
  case free => rw [other (Ne.symm nl)]; exact I.free
  case freeC =>
    intro x c e
    obtain ⟨v, ob, h1, h2⟩ := I.cell x c e
    have hne : c ≠ a := fun z2 => by
      rw [z2, there] at h1
      cases h1
      rw [fl] at h2
      cases h2
    rw [other hne]
    exact I.freeC x c e
  case pin =>
    intro p hp
    obtain ⟨h1, h2, h3⟩ := I.pin p hp
    exact ⟨h1, by rw [other (np p hp)]; exact h2, h3⟩
  case base =>
    constructor
    case keep => exact I.base.keep
    case slot => exact I.base.slot
    case there => exact I.base.there
    case free =>
      intro b u e h0 hx
      have hne : b ≠ a := fun z2 => by rw [z2, new] at e; cases e
      rw [other hne]
      exact I.base.free b u e h0 hx
    case tups => exact fun b xs e => was (I.base.tups b xs e)
    case frzs => exact fun b u v e => was (I.base.frzs b u v e)
    case tbls =>
      intro b ps e
      obtain ⟨m, q⟩ := I.base.tbls b ps e
      exact ⟨m, was q⟩
  case hok =>
    intro b u e
    by_cases hb : b = a
    · rw [hb, upd_same] at e
      cases e
      rw [hb]
      exact ⟨⟨o, vs, there, z, fl⟩, ⟨o, there⟩, fun _ _ ⟨o2, v2, q, r⟩ k => ⟨o2, v2, k o2 q, r⟩⟩
    · rw [other hb] at e
      exact (I.hok b u e).stay (fun _ _ _ q => q) (fun _ q => was q) fun _ _ q => was q
end
/-- what such a clause wishes: the error is kept behind the suite -/
def wKept (K : PySem.W.Frag) (c : Value) (i : Nat) (ts : Addr → Value → Option Addr → TS) (Wout : WX) (D : Ends) : WX := fun cls d σ H =>
  ∃ b, PySem.W.exmOne K cls c = some b ∧ (b = false → Wout cls d σ H) ∧
    (b = true → ∀ a, H a = none → ts a cls d
      { nx := fun σ' H' => D.nx (σ'.set i none) (upd H' a (ErO cls d a)), rt := fun v H' => D.rt v (upd H' a (ErO cls d a)), bk := fun σ' H' => D.bk (σ'.set i none) (upd H' a (ErO cls d a)), ct := fun σ' H' => D.ct (σ'.set i none) (upd H' a (ErO cls d a)) }
      (σ.set i (some (.ref a))) H)
section
variable {X : Cx} {x n : Str} {c : Value} {i : Nat} {bd rest : List Stmt} {st : Stmt} {p1 p2 p3 : Pos} {tb : WX → TS} {ts : Addr → Value → Option Addr → TS} {Wout : WX}
theorem ps_try_kept (hx : X.ex = []) (hs : X.stack = X.env :: X.outer) (hf : X.env.frame = some X.env.locals) (hN : X.N.Nodup) (hi : X.N[i]? = some n) (hln : X.env.kindOf n = some .local) (hc : Names X x c) (tk : Takes X Wout)
    (hb : ∀ (W : WX) (pn : List (Addr × Obj)) (xe : Value → Shared → Prop), Takes (X.tr pn xe) W → PassesOwn (model X.prog X.w) X.A X.env xe → PSs (X.tr pn xe) bd (tb W))
    (hsu : ∀ (a : Addr) (ob : Obj) (cls : Value) (d : Option Addr) (pn : List (Addr × Obj)), Zc cls d ob → (∃ vs, ob.data = .fields vs) → PSs (X.suite a ((a, ob) :: pn)) (st :: rest) (ts a cls d)) :
    PS X (.Try bd [.ExceptHandler (some (.Name x p1)) (some n) (st :: rest) p2] [] [] p3) (fun D σ H => tb (wKept X.K c i ts Wout D) D σ H) := by
  constructor
  intro pins s σ H D I want
  have ok := I.ok
  have fr0 : X.A.frames = some (X.env :: X.outer) := by rw [ok.frames, hs]
  have back : ∀ {f : Flow} {s1 : Shared}, SP (X.tr (X.pn ++ pins) (fun e s₁ => wpAny (model X.prog X.w) X.A (noteFrame e X.env) (fun _ s₂ => wpAny (model X.prog X.w) X.A (setFlight e none) (fun _ s₃ =>
      wpAny (model X.prog X.w) X.A (handleBy e X.env [.ExceptHandler (some (.Name x p1)) (some n) (st :: rest) p2]) (SP X pins D) X.xe s₃) X.xe s₂) X.xe s₁)) [] D f s1 → SP X pins D f s1 := by
    intro f s1 q
    cases f with
    | ret u => obtain ⟨v, σ1, H1, J, r, q⟩ := q; exact ⟨v, σ1, H1, J.ofTry ok, r, q⟩
    | next => obtain ⟨σ1, H1, J, q⟩ := q; exact ⟨σ1, H1, J.ofTry ok, q⟩
    | brk => obtain ⟨σ1, H1, J, q⟩ := q; exact ⟨σ1, H1, J.ofTry ok, q⟩
    | cont => obtain ⟨σ1, H1, J, q⟩ := q; exact ⟨σ1, H1, J.ofTry ok, q⟩
  refine wpAny_Try_except (wpAny_mono ((hb (wKept X.K c i ts Wout D) (X.pn ++ pins) _ (fun u s' caught => ?_) PassesOwn.looking).run [] s σ H D (I.toTry _) want) (fun f s1 q => ?_) fun _ _ q => q)
  case refine_2 =>
    cases f with
    | next => exact wpAny_execs_nil (back (f := .next) q)
    | brk => exact back (f := .brk) q
    | cont => exact back (f := .cont) q
    | ret u => exact back (f := .ret u) q
  case refine_1 =>
    obtain ⟨a, B, sI, pins', σ1, H1, cls, d, rfl, J0, nb, up, sky, na, os, ag, b, exm, no, yes⟩ := caught
    have J : Inv X pins σ1 H1 sI := J0.ofTry ok
    rw [hs] at sky
    refine Sky.land Zc.steady fr0 hf sky fun h3 fl3 up3 => ?_
    obtain ⟨ob3, vs3, get3, z3, f3⟩ := fl3.there
    have ground : ∀ {h : Heap}, HandSPX.FlyingZ B (X.env :: X.outer) a (Zc cls d) h → sI.heap.UpToSlots h → Inv X pins σ1 H1 { s' with heap := h } := fun fl u => J.landed nb fl.1 u os ag
    have J3 := ground fl3 (up.trans up3)
    have out : a ∉ frs (X.env :: X.outer) := fun hm => by
      obtain ⟨_, o2, e2, hnf⟩ := fl3.2.2.1.mem hm
      rw [get3] at e2
      cases e2
      exact hnf _ f3
    have nL : a ≠ X.env.locals := fun z => out (List.mem_filterMap.mpr ⟨X.env, List.mem_cons_self, by rw [hf, z]⟩)
    have nF : a ∉ X.fs := fun hm => by
      obtain ⟨e, he, q⟩ := List.mem_filterMap.mp hm
      exact out (List.mem_filterMap.mpr ⟨e, List.mem_cons_of_mem _ he, q⟩)
    have noI : sI.heap.get? a = none := by
      cases e : sI.heap.get? a with
      | none => rfl
      | some o2 =>
        have e2 := nb a o2 e (by rw [hs]; exact out)
        rw [fl3.2.1] at e2
        cases e2
    have no0 : X.s_0.heap.get? a = none := by
      cases e : X.s_0.heap.get? a with
      | none => rfl
      | some o2 =>
        obtain ⟨o3, e3⟩ := J.base.there a o2 e (by rw [hx]; exact List.not_mem_nil)
        rw [noI] at e3
        cases e3
    have noP : ∀ p ∈ X.pn ++ pins, p.1 ≠ a := fun p hp z => by
      have e := (J.pin p hp).1
      rw [z, noI] at e
      cases e
    have S3 := J3.suite get3 f3 na nL nF
    refine wpAny_handleBy_cons (codeAny_handlers_test ?_) (by intro q; cases q)
    have ty : PySem.W.Looks (model X.prog X.w) h3 (typeOf (.ref a)) cls := fun A Q E s k q => wpAny_typeOf_ref (k _ _ get3) (by rw [z3.1]; exact q)
    have fits := PySem.W.exm_one (M := model X.prog X.w) J3.kIn ty exm
    have named : ∀ {Q : Value → Shared → Prop} {E : Value → Shared → Prop}, Q c { s' with heap := h3 } → wpAny (model X.prog X.w) (X.A.mark (some (.ref a))) (eval (.Name x p1) X.env) Q E { s' with heap := h3 } := fun {Q E} q => by
      obtain ⟨hg, hdbg, hm | ⟨hm, hv, hnn⟩⟩ := hc
      · exact ld_glob (X := X.suite a ((a, ob3) :: (X.pn ++ pins))) S3 hg hm q hdbg
      · exact ld_blt (X := X.suite a ((a, ob3) :: (X.pn ++ pins))) S3 hg hm hv q hnn hdbg
    refine named (fits.here ?_)
    cases b with
    | true =>
      refine codeAny_handlers_suite_as (HandSPX.lands_againZ fl3 fun h4 fl4 up4 => ?_)
      have J4 := ground fl4 ((up.trans up3).trans up4)
      obtain ⟨ob4, vs4, get4, z4, f4⟩ := fl4.there
      refine store_ok (X := X.suite a ((a, ob4) :: (X.pn ++ pins))) (v := .ref a) (J4.suite get4 f4 na nL nF) hN hi (.inl hln) rfl (fun s5 S5 => ?_) (.inr hln)
      refine wpAny_mono ((hsu a ob4 cls d (X.pn ++ pins) z4 ⟨_, f4⟩).run [] s5 _ H1 _ S5 (yes rfl a na)) (fun f s6 q6 => ?_) (fun _ _ z => False.elim z)
      have after : ∀ {σ6 : L2.St} {H6 : Hp} {Q : Shared → Prop}, Inv (X.suite a ((a, ob4) :: (X.pn ++ pins))) [] σ6 H6 s6 → (∀ s7, Inv X pins (σ6.set i none) (upd H6 a (ErO cls d a)) s7 → Q s7) →
          wpAny (model X.prog X.w) X.A (do bindName X.env n .none; unbindBehindTheSuite X.env n p2) (fun _ s7 => Q s7) X.xe s6 := fun {σ6 H6 Q} S6 hq => by
        obtain ⟨g1, g2, _⟩ := S6.pin (a, ob4) (List.mem_append.mpr (.inl List.mem_cons_self))
        exact gone_ok (inv_held (S6.unsuite ok) g1 z4 f4 g2 nL no0 noP) hN hi hln hq
      cases f with
      | ret u => obtain ⟨v6, σ6, H6, S6, r6, q6⟩ := q6; exact after S6 fun s7 J7 => ⟨_, _, _, J7, r6, q6⟩
      | next => obtain ⟨σ6, H6, S6, q6⟩ := q6; exact after S6 fun s7 J7 => ⟨_, _, J7, q6⟩
      | brk => obtain ⟨σ6, H6, S6, q6⟩ := q6; exact after S6 fun s7 J7 => ⟨_, _, J7, q6⟩
      | cont => obtain ⟨σ6, H6, S6, q6⟩ := q6; exact after S6 fun s7 J7 => ⟨_, _, J7, q6⟩
    | false =>
      refine wpAny_handleBy_nil ?_
      obtain ⟨k1, k2, k3, ob, vs, T, oT, ts', he, hz, hd, h1, hr⟩ := id fl3
      unfold PySem.passOn
      refine wpAny_bind (wpAny_field he hd h1 ?_)
      rw [if_neg (by simp)]
      have on : wpAny (model X.prog X.w) X.A (setFlight (.ref a) X.env.frame) (fun _ s4 => wpAny (model X.prog X.w) X.A (throw (.ref a) : Sem Flow) (SP X pins D) X.xe s4) X.xe { s' with heap := h3 } := by
        rw [hf]
        refine HandSPX.setFlight_upZ fl3 fun h4 hh4 up4 => wpAny_throw (tk _ _ ⟨a, B, sI, pins, σ1, H1, cls, d, rfl, J, nb, (up.trans up3).trans up4, ?_, na, os, ag, no rfl⟩)
        exact .inr (.inr (by rw [hs]; exact hh4))
      first
        | exact wpAny_bind (wpAny_pure (wpAny_bind on))
        | exact wpAny_bind on
end
section
variable {X : Cx}
/-- isinstance of a kept error -/
theorem call_isKept : CallR X (.builtin "isinstance") (fun xs H Q => ∃ (a C D : Addr) (b : Bool), xs = [.ref a, .ref C] ∧ H a = some (ErO (.ref D) none a) ∧ ExcC X.K D ∧ PySem.W.kitOne X.K (.ref D) (.ref C) = some b ∧ Q (.bl b) H) := by
  intro pins s σ H xs us Q I r h
  obtain ⟨a, C, D, b, rfl, ha, E, kit, q⟩ := h
  obtain ⟨u1, u2, rfl, r1, r2⟩ := vals2 r
  cases (show u1 = Value.ref a from r1)
  cases (show u2 = Value.ref C from r2)
  obtain ⟨⟨ob, vs, e, ⟨z1, z2⟩, f⟩, _⟩ := (show ObjOk X.prog X.w H s.heap a (ErO (.ref D) none a) from I.hok a _ ha)
  have J : PySem.W.InstAt s.heap a ob D none := by
    obtain ⟨oc, od, oda, osl⟩ := ob
    dsimp only at z1 z2 f
    subst z1 z2 f
    exact ⟨e, rfl, rfl, trivial⟩
  exact PySem.W.kia_one (PySem.W.handS_kitx_exc E.hg E.hk E.hs E.hd E.ha E.hn E.ht E.hm) I.kIn J kit (fun z => nomatch z) fun tk => ⟨.bl b, H, I.tok tk, rfl, q⟩
end
end Vm

namespace Vm
open PySem PySem.Spec L2

/-- data: what values stand for. scr: the law's own list, that is never changed. lst t: a list; t says that it may be somebody's who changes it later. ref: a cell of the memory -/
inductive D where
  | non | bl (b : Bool) | int (i : Int) | str (s : Str)
  | tup (xs : List D)
  | lst (t : Bool) (xs : List D)
  | dic (t : Bool) (ks vs : List D)
  | obj (c : Nat) (ks : List Str) (vs : List D)
  | err (c : Nat) (ks : List Str) (vs : List D)
  | ref (n : Nat)
  | scr (xs : List D)

/-- a cell: a list, a dict, an object that is changed -/
inductive Cell where
  | lst (xs : List D)
  | dic (ks vs : List D)
  | ins (c : Nat) (ks : List Str) (vs : List D)
  | lck (ks vs : List D)
  | nest (rows : List (List D))

mutual
/-- no cell stands in it -/
def free : D → Bool
  | .tup xs => frees xs
  | .lst _ xs => frees xs
  | .scr xs => frees xs
  | .dic _ _ vs => frees vs
  | .obj _ _ vs => frees vs
  | .err _ _ vs => frees vs
  | .ref _ => false
  | .non => true
  | .bl _ => true
  | .int _ => true
  | .str _ => true
def frees : List D → Bool
  | [] => true
  | d :: ds => free d && frees ds
end
def Cell.fr : Cell → Bool
  | .lst xs => frees xs
  | .dic _ vs => frees vs
  | .ins _ _ vs => frees vs
  | .lck _ vs => frees vs
  | .nest rows => rows.all frees
@[simp] theorem free_ints (ns : List Int) : frees (ns.map D.int) = true := by
  induction ns with
  | nil => rfl
  | cons n ns ih => show (true && frees (ns.map D.int)) = true; rw [ih]; rfl
theorem frees_append (xs ys : List D) : frees (xs ++ ys) = (frees xs && frees ys) := by
  induction xs with
  | nil => rfl
  | cons x xs ih => show (free x && frees (xs ++ ys)) = _; rw [ih]; show _ = ((free x && frees xs) && frees ys); rw [Bool.and_assoc]
theorem frees_iff (xs : List D) : frees xs = true ↔ ∀ x ∈ xs, free x = true := by
  induction xs with
  | nil => exact ⟨fun _ _ h => (nomatch h), fun _ => rfl⟩
  | cons x xs ih =>
    show (free x && frees xs) = true ↔ _
    rw [Bool.and_eq_true, ih]
    exact ⟨fun h y hy => (List.mem_cons.mp hy).elim (fun e => e ▸ h.1) (h.2 y), fun h => ⟨h x (List.mem_cons_self), fun y hy => h y (List.mem_cons_of_mem _ hy)⟩⟩

abbrev Mem := List Cell
abbrev Env := List (Option D)

/-- an outcome: a value and the memory, an error (its class, its fields), or no word -/
inductive R (A : Type) where
  | ok (a : A) (m : Mem)
  | exn (c : Nat) (ks : List Str) (vs : List D) (m : Mem)
  | bad

namespace R
def bind {A B : Type} (r : R A) (f : A → Mem → R B) : R B := match r with
  | .ok a m => f a m
  | .exn c ks vs m => .exn c ks vs m
  | .bad => .bad
/-- what is wanted of an outcome -/
def Post {A : Type} (r : R A) (P : A → Mem → Prop) (E : Nat → List Str → List D → Mem → Prop) : Prop := match r with
  | .ok a m => P a m
  | .exn c ks vs m => E c ks vs m
  | .bad => False
theorem Post.bind {A B : Type} {r : R A} {f : A → Mem → R B} {P : B → Mem → Prop} {E : Nat → List Str → List D → Mem → Prop} (h : (r.bind f).Post P E) : r.Post (fun a m => (f a m).Post P E) E := by
  cases r <;> exact h
theorem Post.mono {A : Type} {r : R A} {P P' : A → Mem → Prop} {E E' : Nat → List Str → List D → Mem → Prop} (h : r.Post P E) (f : ∀ a m, P a m → P' a m) (g : ∀ c ks vs m, E c ks vs m → E' c ks vs m) : r.Post P' E' := by
  cases r with
  | ok a m => exact f _ _ h
  | exn c ks vs m => exact g _ _ _ _ h
  | bad => exact h
@[simp] theorem ok_bind {A B : Type} (a : A) (m : Mem) (f : A → Mem → R B) : (R.ok a m).bind f = f a m := rfl
@[simp] theorem exn_bind {A B : Type} (c : Nat) (ks : List Str) (vs : List D) (m : Mem) (f : A → Mem → R B) : (R.exn c ks vs m : R A).bind f = .exn c ks vs m := rfl
@[simp] theorem bad_bind {A B : Type} (f : A → Mem → R B) : (R.bad : R A).bind f = .bad := rfl
/-- a value that must be there -/
def opt {A : Type} (o : Option A) (m : Mem) : R A := match o with
  | some a => .ok a m
  | none => .bad
theorem Post.opt {A : Type} {o : Option A} {m : Mem} {P : A → Mem → Prop} {E : Nat → List Str → List D → Mem → Prop} (h : (R.opt o m).Post P E) : ∃ a, o = some a ∧ P a m := by
  cases o with
  | none => exact False.elim h
  | some a => exact ⟨a, rfl, h⟩
@[simp] theorem opt_some {A : Type} (a : A) (m : Mem) : R.opt (some a) m = .ok a m := rfl
@[simp] theorem opt_none {A : Type} (m : Mem) : (R.opt none m : R A) = .bad := rfl
end R

/-- the callees, by their numbers -/
abbrev Cal := Nat → List D → Mem → R D
/-- what an expression, a test, a list of expressions does -/
abbrev Den := Cal → Env → Mem → R D
abbrev DenB := Cal → Env → Mem → R Bool
abbrev Dens := Cal → Env → Mem → R (List D)

/-- G: objects that never change; B: those that do not change for now; F: all that must stay as it is; mu: where the cells stand; ca: the classes; lk: dicts that a loop walks; nu: where the lists within the cells stand -/
structure Wd where
  G : Hp
  B : Hp
  F : Hp
  mu : List Addr
  ca : Nat → Addr
  lk : List Addr
  nu : List (List Addr)

def isDi : HO → Bool
  | .dK _ => true
  | .dT _ => true
  | _ => false

/-- a key of a dict as data -/
def keyD : Key → D
  | .inl i => .int i
  | .inr x => .str x
/-- a dict's object, by its keys (as data; ahead of them the kind: tuples as keys or not) and values -/
inductive DicO : HO → List D → List V → Prop
  | k (kvs : List (Key × V)) : DicO (.dK kvs) (.bl false :: kvs.map fun p => keyD p.1) (kvs.map (·.2))
  | t (kvs : List (List Key × V)) : DicO (.dT kvs) (.bl true :: kvs.map fun p => .tup (p.1.map keyD)) (kvs.map (·.2))

mutual
/-- the value stands for the data -/
inductive Rep (K : PySem.W.Frag) (w : Wd) : D → V → Prop
  | non : Rep K w .non .non
  | bl (b : Bool) : Rep K w (.bl b) (.bl b)
  | int (i : Int) : Rep K w (.int i) (.int i)
  | str (s : Str) : Rep K w (.str s) (.str s)
  | tup {xs : List D} {a : Addr} {vs : List V} (h : w.G a = some (.tup vs)) (r : Reps K w xs vs) : Rep K w (.tup xs) (.ref a)
  | lst {t : Bool} {xs : List D} {a : Addr} {vs : List V} (h : (if t = true then w.B else w.G) a = some (.lst vs)) (r : Reps K w xs vs) : Rep K w (.lst t xs) (.ref a)
  | dic {t : Bool} {ks xs : List D} {a : Addr} {o : HO} {vs : List V} (h : (if t = true then w.B else w.G) a = some o) (q : DicO o ks vs) (r : Reps K w xs vs) : Rep K w (.dic t ks xs) (.ref a)
  | obj {c : Nat} {ks : List Str} {xs : List D} {a dx : Addr} {vs : List V} (h : w.G a = some (.ins (w.ca c) dx (ks.zip vs))) (hl : ks.length = vs.length) (r : Reps K w xs vs) : Rep K w (.obj c ks xs) (.ref a)
  | ref {n : Nat} {a : Addr} (h : w.mu[n]? = some a) : Rep K w (.ref n) (.ref a)
  | scr {xs : List D} {a : Addr} {vs : List V} (h : SqL K w.G a vs) (r : Reps K w xs vs) : Rep K w (.scr xs) (.ref a)
  | err {c : Nat} {a : Addr} (h : w.G a = some (ErO (.ref (w.ca c)) none a)) : Rep K w (.err c [] []) (.ref a)
inductive Reps (K : PySem.W.Frag) (w : Wd) : List D → List V → Prop
  | nil : Reps K w [] []
  | cons {d : D} {v : V} {ds : List D} {vs : List V} (h : Rep K w d v) (t : Reps K w ds vs) : Reps K w (d :: ds) (v :: vs)
end

structure Wd.Le (w w' : Wd) : Prop where
  g : ∀ a o, w.G a = some o → w'.G a = some o
  b : ∀ a o, w.B a = some o → w'.B a = some o
  r : ∀ a o, w.F a = some o → w'.F a = some o
  f : ∀ a, w'.G a ≠ none → w.G a ≠ none ∨ w.F a = none
  f2 : ∀ a, w'.B a ≠ none → w.B a ≠ none ∨ w.F a = none
  m : ∃ more, w'.mu = w.mu ++ more
  c : w'.ca = w.ca
  k : w'.lk = w.lk
theorem Wd.Le.refl (w : Wd) : w.Le w := ⟨fun _ _ h => h, fun _ _ h => h, fun _ _ h => h, fun _ h => .inl h, fun _ h => .inl h, ⟨[], by simp⟩, rfl, rfl⟩
theorem none_up {A : Hp} {B : Hp} (h : ∀ a o, A a = some o → B a = some o) {a : Addr} (e : B a = none) : A a = none := by
  cases q : A a with
  | none => rfl
  | some o => rw [h a o q] at e; cases e
theorem Wd.Le.trans {w w1 w2 : Wd} (a : w.Le w1) (b : w1.Le w2) : w.Le w2 := by
  refine ⟨fun x o h => b.g x o (a.g x o h), fun x o h => b.b x o (a.b x o h), fun x o h => b.r x o (a.r x o h), fun x h => ?_, fun x h => ?_, ?_, b.c.trans a.c, b.k.trans a.k⟩
  · rcases b.f x h with h1 | h1
    · exact a.f x h1
    · exact .inr (none_up a.r h1)
  · rcases b.f2 x h with h1 | h1
    · exact a.f2 x h1
    · exact .inr (none_up a.r h1)
  · obtain ⟨m1, e1⟩ := a.m
    obtain ⟨m2, e2⟩ := b.m
    exact ⟨m1 ++ m2, by rw [e2, e1, List.append_assoc]⟩
theorem Wd.Le.at {w w' : Wd} (h : w.Le w') {n : Nat} {a : Addr} (e : w.mu[n]? = some a) : w'.mu[n]? = some a := by
  obtain ⟨m, q⟩ := h.m
  rw [q, List.getElem?_append_left (List.getElem?_eq_some_iff.mp e).1]
  exact e

theorem SqL.up {K : PySem.W.Frag} {H H' : Hp} (k : ∀ a o, H a = some o → H' a = some o) {a : Addr} {xs : List V} (h : SqL K H a xs) : SqL K H' a xs := by
  rcases h with (h | ⟨o, h⟩) | h
  · exact .inl (.inl (k _ _ h))
  · exact .inl (.inr ⟨o, k _ _ h⟩)
  · exact .inr h
theorem SqT.up {K : PySem.W.Frag} {H H' : Hp} (k : ∀ a o, H a = some o → H' a = some o) {a : Addr} {xs : List V} (h : SqT K H a xs) : SqT K H' a xs := by
  rcases h with (h | ⟨o, h⟩) | h
  · exact .inl (.inl (k _ _ h))
  · exact .inl (.inr ⟨o, k _ _ h⟩)
  · exact .inr h

section
variable {K : PySem.W.Frag} {w w' : Wd}
theorem free_cons {d : D} {ds : List D} (h : frees (d :: ds) = true) : free d = true ∧ frees ds = true := Bool.and_eq_true_iff.mp (show (free d && frees ds) = true from h)
/-- data without cells do not lean on where the cells stand -/
theorem Rep.off (hg : ∀ a o, w.G a = some o → w'.G a = some o) (hb : ∀ a o, w.B a = some o → w'.B a = some o) (hc : w'.ca = w.ca) {d : D} {v : V} (h : Rep K w d v) : free d = true → Rep K w' d v :=
  Rep.rec (motive_1 := fun d v _ => free d = true → Rep K w' d v) (motive_2 := fun ds vs _ => frees ds = true → Reps K w' ds vs)
    (fun _ => .non) (fun b _ => .bl b) (fun i _ => .int i) (fun s _ => .str s)
    (fun h _ r f => .tup (hg _ _ h) (r f))
    (fun {t _ _ _} h _ r f => .lst (by cases t with | true => exact hb _ _ h | false => exact hg _ _ h) (r f))
    (fun {t _ _ _ _ _} h q _ r f => .dic (by cases t with | true => exact hb _ _ h | false => exact hg _ _ h) q (r f))
    (fun h hl _ r f => .obj (by rw [hc]; exact hg _ _ h) hl (r f))
    (fun h f => by cases f) (fun h _ r f => .scr (SqL.up hg h) (r f)) (fun h _ => .err (by rw [hc]; exact hg _ _ h)) (fun _ => .nil) (fun _ _ h t f => .cons (h (free_cons f).1) (t (free_cons f).2)) h
theorem Reps.off (hg : ∀ a o, w.G a = some o → w'.G a = some o) (hb : ∀ a o, w.B a = some o → w'.B a = some o) (hc : w'.ca = w.ca) : ∀ {ds : List D} {vs : List V}, Reps K w ds vs → frees ds = true → Reps K w' ds vs
  | _, _, .nil, _ => .nil
  | _, _, .cons h t, f => .cons (h.off hg hb hc (free_cons f).1) (Reps.off hg hb hc t (free_cons f).2)
theorem Rep.up (l : w.Le w') {d : D} {v : V} (h : Rep K w d v) : Rep K w' d v :=
  Rep.rec (motive_1 := fun d v _ => Rep K w' d v) (motive_2 := fun ds vs _ => Reps K w' ds vs)
    .non (fun b => .bl b) (fun i => .int i) (fun s => .str s)
    (fun h _ r => .tup (l.g _ _ h) r)
    (fun {t _ _ _} h _ r => .lst (by cases t with | true => exact l.b _ _ h | false => exact l.g _ _ h) r)
    (fun {t _ _ _ _ _} h q _ r => .dic (by cases t with | true => exact l.b _ _ h | false => exact l.g _ _ h) q r)
    (fun h hl _ r => .obj (by rw [l.c]; exact l.g _ _ h) hl r)
    (fun h => .ref (l.at h)) (fun h _ r => .scr (SqL.up l.g h) r) (fun h => .err (by rw [l.c]; exact l.g _ _ h)) .nil (fun _ _ h t => .cons h t) h
theorem Reps.up (l : w.Le w') : ∀ {ds : List D} {vs : List V}, Reps K w ds vs → Reps K w' ds vs
  | _, _, .nil => .nil
  | _, _, .cons h t => .cons (h.up l) (Reps.up l t)
theorem Reps.length : ∀ {ds : List D} {vs : List V}, Reps K w ds vs → ds.length = vs.length
  | _, _, .nil => rfl
  | _, _, .cons _ t => by rw [List.length_cons, List.length_cons, Reps.length t]
theorem Reps.get : ∀ {ds : List D} {vs : List V} {i : Nat} {d : D}, Reps K w ds vs → ds[i]? = some d → ∃ v, vs[i]? = some v ∧ Rep K w d v
  | _, _, _, _, .nil, e => by simp at e
  | _, _, 0, _, .cons h _, e => by simp at e; subst e; exact ⟨_, rfl, h⟩
  | _, _, i + 1, d, .cons _ t, e => by
    obtain ⟨v, h1, h2⟩ := Reps.get (i := i) (d := d) t (by simpa using e)
    exact ⟨v, by simpa using h1, h2⟩
theorem Reps.append : ∀ {ds es : List D} {vs us : List V}, Reps K w ds vs → Reps K w es us → Reps K w (ds ++ es) (vs ++ us)
  | _, _, _, _, .nil, s => s
  | _, _, _, _, .cons h t, s => .cons h (Reps.append t s)
theorem Reps.take : ∀ {ds : List D} {vs : List V} (n : Nat), Reps K w ds vs → Reps K w (ds.take n) (vs.take n)
  | _, _, 0, _ => by simp; exact .nil
  | _, _, _ + 1, .nil => .nil
  | _, _, n + 1, .cons h t => .cons h (Reps.take n t)
theorem Reps.drop : ∀ {ds : List D} {vs : List V} (n : Nat), Reps K w ds vs → Reps K w (ds.drop n) (vs.drop n)
  | _, _, 0, r => r
  | _, _, _ + 1, .nil => .nil
  | _, _, n + 1, .cons _ t => Reps.drop n t
theorem Reps.set {d : D} {v : V} (r : Rep K w d v) : ∀ {ds : List D} {vs : List V} (i : Nat), Reps K w ds vs → Reps K w (ds.set i d) (vs.set i v)
  | _, _, _, .nil => .nil
  | _, _, 0, .cons _ t => .cons r t
  | _, _, i + 1, .cons q t => .cons q (Reps.set r i t)
theorem Reps.reverse {ds : List D} {vs : List V} (h : Reps K w ds vs) : Reps K w ds.reverse vs.reverse := by
  induction ds generalizing vs with
  | nil => cases h; exact .nil
  | cons d ds ih =>
    cases h with
    | cons h t => rw [List.reverse_cons, List.reverse_cons]; exact (ih t).append (.cons h .nil)
theorem Reps.eraseIdx : ∀ {ds : List D} {vs : List V} (i : Nat), Reps K w ds vs → Reps K w (ds.eraseIdx i) (vs.eraseIdx i)
  | _, _, _, .nil => .nil
  | _, _, 0, .cons _ t => t
  | _, _, i + 1, .cons q t => .cons q (Reps.eraseIdx i t)
theorem Reps.ints : ∀ (ns : List Int), Reps K w (ns.map D.int) (ns.map V.int)
  | [] => .nil
  | n :: ns => .cons (.int n) (Reps.ints ns)
theorem Reps.ints_of : ∀ {ns : List Int} {vs : List V}, Reps K w (ns.map D.int) vs → vs = ns.map V.int
  | [], _, h => by
    rw [List.map_nil] at h
    cases h; rfl
  | n :: ns, _, h => by
    rw [List.map_cons] at h
    cases h with
    | cons h t =>
      cases h
      rw [Reps.ints_of t]; rfl
end

/-- what stands at a cell -/
inductive CellR (K : PySem.W.Frag) (w : Wd) (H : Hp) (a : Addr) : List Addr → Cell → Prop
  | lst {xs : List D} {vs : List V} (h : H a = some (.lst vs)) (r : Reps K w xs vs) : CellR K w H a [] (.lst xs)
  | dic {ks xs : List D} {o : HO} {vs : List V} (h : H a = some o) (q : DicO o ks vs) (r : Reps K w xs vs) : CellR K w H a [] (.dic ks xs)
  | ins {c : Nat} {ks : List Str} {xs : List D} {dx : Addr} {vs : List V} (h : H a = some (.ins (w.ca c) dx (ks.zip vs))) (hl : ks.length = vs.length) (r : Reps K w xs vs) : CellR K w H a [] (.ins c ks xs)
  | lck {ks xs : List D} {ob : Obj} {o : HO} {vs : List V} (h : H a = some (.frz ob o)) (q : DicO o ks vs) (r : Reps K w xs vs) : CellR K w H a [] (.lck ks xs)
  | nest {rows : List (List D)} {bs : List Addr} (h : H a = some (.lst (bs.map V.ref))) (r : Paired (fun row b => ∃ vs, H b = some (.lst vs) ∧ Reps K w row vs) rows bs) : CellR K w H a bs (.nest rows)

/-- the heap is as the world and the memory say -/
structure Rel (K : PySem.W.Frag) (w : Wd) (M : Mem) (H : Hp) : Prop where
  gb : ∀ a o, w.G a = some o → w.B a = some o
  bf : ∀ a o, w.B a = some o → w.F a = some o
  bh : ∀ a o, w.F a = some o → a ∉ w.lk → H a = some o
  bl : ∀ a o, w.F a = some o → a ∈ w.lk → isDi o = true ∧ ∃ ob, H a = some (.frz ob o)
  lkB : ∀ {a}, a ∈ w.lk → w.F a ≠ none
  len : w.mu.length = M.length
  len2 : w.nu.length = M.length
  nd : (w.mu ++ w.nu.flatten).Nodup
  off : ∀ a ∈ w.mu, w.F a = none
  off2 : ∀ a ∈ w.nu.flatten, w.F a = none
  fr : ∀ c ∈ M, c.fr = true
  cell : ∀ (n : Nat) (c : Cell) (a : Addr) (bs : List Addr), M[n]? = some c → w.mu[n]? = some a → w.nu[n]? = some bs → CellR K w H a bs c

/-- the slots hold what the data's slots say -/
structure Slots (K : PySem.W.Frag) (w : Wd) (ρ : Env) (σ : St) : Prop where
  len : ρ.length = σ.length
  get : ∀ (i : Nat) (d : D), ρ[i]? = some (some d) → ∃ v, σ[i]? = some (some v) ∧ Rep K w d v
theorem Slots.up {K : PySem.W.Frag} {w w' : Wd} {ρ : Env} {σ : St} (l : w.Le w') (h : Slots K w ρ σ) : Slots K w' ρ σ :=
  ⟨h.len, fun i d e => let ⟨v, h1, h2⟩ := h.get i d e; ⟨v, h1, h2.up l⟩⟩
theorem Slots.set {K : PySem.W.Frag} {w : Wd} {ρ : Env} {σ : St} (h : Slots K w ρ σ) (i : Nat) {d : D} {v : V} (r : Rep K w d v) : Slots K w (ρ.set i (some d)) (σ.set i (some v)) := by
  refine ⟨by rw [List.length_set, List.length_set]; exact h.len, fun j d' e => ?_⟩
  by_cases hj : i = j
  · subst hj
    by_cases hi : i < ρ.length
    · rw [List.getElem?_set_self hi] at e
      cases e
      exact ⟨v, List.getElem?_set_self (by rw [← h.len]; exact hi), r⟩
    · rw [List.getElem?_eq_none (by rw [List.length_set]; omega)] at e
      cases e
  · rw [List.getElem?_set_ne hj] at e
    obtain ⟨u, h1, h2⟩ := h.get j d' e
    exact ⟨u, by rw [List.getElem?_set_ne hj]; exact h1, h2⟩

section
variable {K : PySem.W.Frag} {w : Wd} {M : Mem} {H : Hp}
theorem Rel.fn (R : Rel K w M H) {a : Addr} {o : HO} (h : w.F a = some o) (n : isDi o = false) : H a = some o := by
  by_cases k : a ∈ w.lk
  · rw [(R.bl a o h k).1] at n; cases n
  · exact R.bh a o h k
theorem Rel.bn (R : Rel K w M H) {a : Addr} {o : HO} (h : w.B a = some o) (n : isDi o = false) : H a = some o := R.fn (R.bf a o h) n
theorem Rel.there (R : Rel K w M H) {a : Addr} {o : HO} (h : w.F a = some o) : H a ≠ none := by
  by_cases k : a ∈ w.lk
  · obtain ⟨_, ob, e⟩ := R.bl a o h k
    rw [e]; intro z; cases z
  · rw [R.bh a o h k]; intro z; cases z
theorem Rel.lst (R : Rel K w M H) {t : Bool} {a : Addr} {vs : List V} (h : (if t = true then w.B else w.G) a = some (.lst vs)) : H a = some (.lst vs) := by
  cases t with
  | true => exact R.bn h rfl
  | false => exact R.bn (R.gb _ _ h) rfl
theorem Rel.sqL (R : Rel K w M H) {a : Addr} {vs : List V} (h : SqL K w.G a vs) : SqL K H a vs := by
  rcases h with (h | ⟨o, h⟩) | h
  · exact .inl (.inl (R.bn (R.gb _ _ h) rfl))
  · exact .inl (.inr ⟨o, R.bn (R.gb _ _ h) rfl⟩)
  · exact .inr h
theorem Rel.tup (R : Rel K w M H) {a : Addr} {vs : List V} (h : w.G a = some (.tup vs)) : H a = some (.tup vs) := R.bn (R.gb _ _ h) rfl
theorem Rel.ins (R : Rel K w M H) {a C dx : Addr} {fs : List (Str × V)} (h : w.G a = some (.ins C dx fs)) : H a = some (.ins C dx fs) := R.bn (R.gb _ _ h) rfl
theorem Rel.noneG (R : Rel K w M H) {p : Addr} (hp : H p = none) : w.F p = none ∧ w.B p = none ∧ w.G p = none := by
  have hF : w.F p = none := by
    cases q : w.F p with
    | none => rfl
    | some o => exact absurd hp (R.there q)
  have hB := none_up R.bf hF
  exact ⟨hF, hB, none_up R.gb hB⟩
theorem some_ne {α : Type} {o : Option α} {x : α} (h : o = some x) : o ≠ none := fun z => by rw [h] at z; cases z
theorem no_mem {P : Addr → Prop} : ∀ b ∈ ([] : List Addr), P b := fun _ z => absurd z List.not_mem_nil
theorem CellR.there {a : Addr} {bs : List Addr} {c : Cell} (h : CellR K w H a bs c) : H a ≠ none ∧ ∀ b ∈ bs, H b ≠ none := by
  cases h with
  | lst h _ => exact ⟨some_ne h, no_mem⟩
  | dic h _ _ => exact ⟨some_ne h, no_mem⟩
  | ins h _ _ => exact ⟨some_ne h, no_mem⟩
  | lck h _ _ => exact ⟨some_ne h, no_mem⟩
  | nest h r =>
    refine ⟨some_ne h, ?_⟩
    clear h
    induction r with
    | nil => exact no_mem
    | cons p t ih =>
      intro b hb
      rcases List.mem_cons.mp hb with rfl | hb
      · obtain ⟨vs, e, _⟩ := p
        exact some_ne e
      · exact ih b hb
theorem Rel.at (R : Rel K w M H) {n : Nat} {a : Addr} (e : w.mu[n]? = some a) : ∃ c bs, M[n]? = some c ∧ w.nu[n]? = some bs ∧ CellR K w H a bs c := by
  have hn := (List.getElem?_eq_some_iff.mp e).1
  have h1 : n < M.length := by rw [← R.len]; exact hn
  have h2 : n < w.nu.length := by rw [R.len2]; exact h1
  exact ⟨_, _, List.getElem?_eq_getElem h1, List.getElem?_eq_getElem h2, R.cell n _ a _ (List.getElem?_eq_getElem h1) e (List.getElem?_eq_getElem h2)⟩
theorem Rel.notMu (R : Rel K w M H) {p : Addr} (hp : H p = none) : p ∉ w.mu ∧ p ∉ w.nu.flatten := by
  refine ⟨fun hm => ?_, fun hm => ?_⟩
  · obtain ⟨n, hn, e⟩ := List.getElem_of_mem hm
    obtain ⟨c, bs, _, _, z⟩ := R.at (n := n) (a := p) (by rw [List.getElem?_eq_getElem hn, e])
    exact z.there.1 hp
  · obtain ⟨bs, hbs, hb⟩ := List.mem_flatten.mp hm
    obtain ⟨n, hn, e⟩ := List.getElem_of_mem hbs
    have h2 : n < w.mu.length := by rw [R.len, ← R.len2]; exact hn
    obtain ⟨c, bs', _, e2, z⟩ := R.at (n := n) (a := w.mu[n]) (List.getElem?_eq_getElem h2)
    rw [List.getElem?_eq_getElem hn, e] at e2
    cases e2
    exact z.there.2 p hb hp
theorem CellR.up {w' : Wd} {H' : Hp} {a : Addr} {bs : List Addr} {c : Cell} (l : w.Le w') (e : H' a = H a) (e2 : ∀ b ∈ bs, H' b = H b) (h : CellR K w H a bs c) : CellR K w' H' a bs c := by
  cases h with
  | lst h r => exact .lst (by rw [e]; exact h) (r.up l)
  | dic h q r => exact .dic (by rw [e]; exact h) q (r.up l)
  | ins h hl r => exact .ins (by rw [e, l.c]; exact h) hl (r.up l)
  | lck h q r => exact .lck (by rw [e]; exact h) q (r.up l)
  | nest h r =>
    refine .nest (by rw [e]; exact h) ?_
    clear h
    induction r with
    | nil => exact .nil
    | cons p t ih =>
      obtain ⟨vs, e1, r1⟩ := p
      exact .cons ⟨vs, by rw [e2 _ List.mem_cons_self]; exact e1, r1.up l⟩ (ih fun b hb => e2 b (List.mem_cons_of_mem _ hb))
theorem mem_flat {l : List (List Addr)} {n : Nat} {bs : List Addr} {b : Addr} (h : l[n]? = some bs) (hb : b ∈ bs) : b ∈ l.flatten := List.mem_flatten.mpr ⟨bs, List.mem_of_getElem? h, hb⟩
/-- the world with one more object that never changes -/
abbrev Wd.add (w : Wd) (p : Addr) (o : HO) : Wd := { w with G := upd w.G p o, B := upd w.B p o, F := upd w.F p o }
theorem upd_le {A : Hp} {p : Addr} {o : HO} (hp : A p = none) (a : Addr) (u : HO) (e : A a = some u) : upd A p o a = some u := by
  rw [upd_ne (ne_of_none e hp)]; exact e
theorem upd_new {A : Hp} {p a : Addr} {o : HO} (e : upd A p o a ≠ none) : A a ≠ none ∨ a = p := by
  by_cases h : a = p
  · exact .inr h
  · rw [upd_ne h] at e; exact .inl e
theorem upd_sub {A B : Hp} {p : Addr} {o : HO} (h : ∀ a u, A a = some u → B a = some u) (a : Addr) (u : HO) (e : upd A p o a = some u) : upd B p o a = some u := by
  by_cases q : a = p
  · subst q; rw [upd_same] at e ⊢; exact e
  · rw [upd_ne q] at e ⊢; exact h a u e
theorem Rel.addLe (R : Rel K w M H) {p : Addr} {o : HO} (hp : H p = none) : w.Le (w.add p o) := by
  obtain ⟨hF, hB, hG⟩ := R.noneG hp
  refine ⟨upd_le hG, upd_le hB, upd_le hF, fun a e => ?_, fun a e => ?_, ⟨[], by simp [Wd.add]⟩, rfl, rfl⟩
  · exact (upd_new (A := w.G) e).imp id fun h => by rw [h]; exact hF
  · exact (upd_new (A := w.B) e).imp id fun h => by rw [h]; exact hF
theorem Rel.add (R : Rel K w M H) {p : Addr} {o : HO} (hp : H p = none) : Rel K (w.add p o) M (upd H p o) := by
  obtain ⟨nm, nn⟩ := R.notMu hp
  have nF := (R.noneG hp).1
  refine ⟨upd_sub R.gb, upd_sub R.bf, fun a u e hk => ?_, fun a u e hk => ?_, fun {a} ha => ?_, R.len, R.len2, R.nd, fun a ha => ?_, fun a ha => ?_, R.fr, fun n c a bs h1 h2 h3 => ?_⟩
  · have e : upd w.F p o a = some u := e
    by_cases h : a = p
    · subst h; rw [upd_same] at e ⊢; exact e
    · rw [upd_ne h] at e ⊢; exact R.bh a u e hk
  · have hk : a ∈ w.lk := hk
    have h : a ≠ p := fun z => R.lkB (by rw [← z]; exact hk) nF
    have e : upd w.F p o a = some u := e
    rw [upd_ne h] at e
    obtain ⟨d, ob, q⟩ := R.bl a u e hk
    exact ⟨d, ob, by rw [upd_ne h]; exact q⟩
  · have h : a ≠ p := fun z => R.lkB (by rw [← z]; exact ha) nF
    show upd w.F p o a ≠ none
    rw [upd_ne h]; exact R.lkB ha
  · show upd w.F p o a = none
    rw [upd_ne (fun z => nm (by rw [← z]; exact ha))]; exact R.off a ha
  · show upd w.F p o a = none
    rw [upd_ne (fun z => nn (by rw [← z]; exact ha))]; exact R.off2 a ha
  · have h : a ≠ p := fun z => nm (by rw [← z]; exact List.mem_of_getElem? h2)
    exact (R.cell n c a bs h1 h2 h3).up (R.addLe hp) (upd_ne h) fun b hb => upd_ne fun z => nn (by rw [← z]; exact mem_flat h3 hb)
end
end Vm

namespace Vm
open PySem PySem.Spec L2

def WE (X : Cx) (e : Expr) : TE := fun σ H Q => ∀ pins s, Inv X pins σ H s → wpAny (model X.prog X.w) X.A (eval e X.env) (EP X pins σ Q) X.xe s
def WT (X : Cx) (e : Expr) : TT := fun σ H Q => ∀ pins s, Inv X pins σ H s → wpAny (model X.prog X.w) X.A (isTrue e X.env (eval e X.env)) (TP X pins σ Q) X.xe s
def WW (X : Cx) (e : Expr) : TT := fun σ H Q => ∀ whole pins s, Inv X pins σ H s → wpAny (model X.prog X.w) X.A (isTrue e X.env whole) (TP X pins σ Q) X.xe s
def WA (X : Cx) (es : List Expr) : TA := fun σ H Q => ∀ pos pins s, Inv X pins σ H s → wpAny (model X.prog X.w) X.A (spliced (backTo pos (starEach es X.env))) (AP X pins σ Q) X.xe s
def WS (X : Cx) (st : Stmt) : TS := fun D σ H => ∀ pins s, Inv X pins σ H s → wpAny (model X.prog X.w) X.A (exec st X.env) (SP X pins D) X.xe s
def WSs (X : Cx) (st : List Stmt) : TS := fun D σ H => ∀ pins s, Inv X pins σ H s → wpAny (model X.prog X.w) X.A (execs st X.env) (SP X pins D) X.xe s
section
variable {X : Cx} {e : Expr} {es : List Expr} {st : Stmt} {sts : List Stmt}
theorem pe_we : PE X e (WE X e) := ⟨fun pins s _ _ _ I h => h pins s I⟩
theorem pt_wt : PT X e (WT X e) := ⟨fun pins s _ _ _ I h => h pins s I⟩
theorem pw_ww : PW X e (WW X e) := ⟨fun wh pins s _ _ _ I h => h wh pins s I⟩
theorem pa_wa : PA X es (WA X es) := ⟨fun pos pins s _ _ _ I h => h pos pins s I⟩
theorem ps_ws : PS X st (WS X st) := ⟨fun pins s _ _ _ I h => h pins s I⟩
theorem pss_ws : PSs X sts (WSs X sts) := ⟨fun pins s _ _ _ I h => h pins s I⟩
theorem WE.of {t : TE} (h : PE X e t) {σ : L2.St} {H : Hp} {Q : VK} (q : t σ H Q) : WE X e σ H Q := fun pins s I => h.run pins s σ H Q I q
theorem WT.of {t : TT} (h : PT X e t) {σ : L2.St} {H : Hp} {Q : Bool → Hp → Prop} (q : t σ H Q) : WT X e σ H Q := fun pins s I => h.run pins s σ H Q I q
theorem WW.of {t : TT} (h : PW X e t) {σ : L2.St} {H : Hp} {Q : Bool → Hp → Prop} (q : t σ H Q) : WW X e σ H Q := fun wh pins s I => h.run wh pins s σ H Q I q
theorem WA.of {t : TA} (h : PA X es t) {σ : L2.St} {H : Hp} {Q : List V → Hp → Prop} (q : t σ H Q) : WA X es σ H Q := fun pos pins s I => h.run pos pins s σ H Q I q
theorem WS.of {t : TS} (h : PS X st t) {σ : L2.St} {H : Hp} {D : Ends} (q : t D σ H) : WS X st D σ H := fun pins s I => h.run pins s σ H D I q
theorem WSs.of {t : TS} (h : PSs X sts t) {σ : L2.St} {H : Hp} {D : Ends} (q : t D σ H) : WSs X sts D σ H := fun pins s I => h.run pins s σ H D I q
end

structure FnG (P : Program) (w : World) (K : PySem.W.Frag) (mg : Str → Option Value) (base : Heap) (k : Nat) (f : Addr) (fd : FuncData) (ps : List Str) (sp : Sp) : Prop where
  len : ∀ vs H Q E, sp vs H Q E → vs.length = ps.length
  run : ∀ (A : Around) (outer : List PySem.Env) (s : Shared) (H : Hp) (args : Args) (us : List Value) (vs : List V) (Q : VK) (E : XK), Room k A → A.guards = some [] → Env0 P w K mg base A outer s H →
    BindsTo s fd args (ps.zip us) → Vals vs us → sp vs H Q E → codeAny (model P w) A (.call (.ref f) args) (CR (L2.CX P w) outer P w H s Q E) s
theorem FnG.mono {P : Program} {w : World} {K : PySem.W.Frag} {mg : Str → Option Value} {base : Heap} {j k : Nat} {f : Addr} {fd : FuncData} {ps : List Str} {sp : Sp} (F : FnG P w K mg base j f fd ps sp) (h : j ≤ k) :
    FnG P w K mg base k f fd ps sp := ⟨F.len, fun A outer s H args us vs Q E hr => F.run A outer s H args us vs Q E (hr.mono h)⟩
theorem FnG.imp {P : Program} {w : World} {K : PySem.W.Frag} {mg : Str → Option Value} {base : Heap} {k : Nat} {f : Addr} {fd : FuncData} {ps : List Str} {sp sp' : Sp} (F : FnG P w K mg base k f fd ps sp)
    (h : ∀ vs H Q E, sp' vs H Q E → sp vs H Q E) : FnG P w K mg base k f fd ps sp' :=
  ⟨fun vs H Q E q => F.len vs H Q E (h _ _ _ _ q), fun A outer s H args us vs Q E hr hg he hb hv hs => F.run A outer s H args us vs Q E hr hg he hb hv (h _ _ _ _ hs)⟩

/-- a def of the text by its body -/
theorem fnG_of {P : Program} {w : World} {K : PySem.W.Frag} {mg : Str → Option Value} {base : Heap} {k : Nat} {x qual : Str} {st : Stmt} {f : Addr} {fd : FuncData} {N ps : List Str} {sp : Sp}
    (F : Fun K x qual st f fd) (S : FnScope N ps (defScope st)) (len : ∀ vs H Q E, sp vs H Q E → vs.length = ps.length)
    (body : ∀ (cdv : Value) (A : Around) (outer : List PySem.Env) (s : Shared) (H : Hp) (vs : List V) (Q : VK) (E : XK), A.guards = some [] → Room k (A.deeper (PyProof.Rows.envOfC qual (defScope st) s.heap.objs.size f cdv)) → sp vs H Q E →
      WSs (cxOf (L2.CX P w) P w K mg base N qual (defScope st) f cdv A outer s H E) (defBody st) { nx := fun _ H' => Q .non H', rt := Q } (L2.start N vs) H) :
    FnG P w K mg base (k + 1) f fd ps sp := by
  obtain ⟨oc, od, kV, doc, pm, an, cdv, ct, osl, rfl, lk, hcd⟩ := F.ex
  refine ⟨len, fun A outer s H args us vs Q E hr hg e0 hb rv hsp => ?_⟩
  have keepB : ∀ b o, base.get? b = some o → s.heap.get? b = some o := fun b o e => (e0.bs b o e).1
  have KX : K.In s.heap := e0.mod.kin.keeps keepB
  refine codeAny_call_function hr.depth (KX _ _ lk) rfl S.co S.gen rfl (PySem.W.codeRec_of KX hcd) (hb _ _ _ _ ?_)
  have kinds : ∀ y ∈ ps.zip us, (defScope st).names.lookup y.1 = some .local ∨ ((defScope st).names.lookup y.1 = some .cell ∧ ((cellsFrom (s.heap.objs.size + 1) (defScope st).names []).lookup y.1).isSome = true) := by
    rintro ⟨n, v⟩ hy
    rcases S.par n (List.of_mem_zip hy).1 with q | q
    · exact Or.inl q
    · exact Or.inr ⟨q, PySem.W.cellsFrom_some _ _ _ (Or.inl q)⟩
  refine wpAny_newFunctionEnv_cells S.kind kinds fun env he s1 x1 => ?_
  subst he
  refine ⟨(e0.mod.nolimit.keeps keepB).keeps x1.toInCall.keep, codeAny_func ?_⟩
  have I0 := inv_start (CX := L2.CX P w) (E := E) (cd := cdv) (qual := qual) S hr.hd e0 (len _ _ _ _ hsp) rv x1
  refine wpAny_mono (body cdv A outer s H vs Q E hg (hr.deeper _) hsp [] s1 I0) ?_ fun e s' q => q
  intro fl s' q
  cases fl with
  | ret u =>
    obtain ⟨v, σ', H', J, r1, q1⟩ := q
    exact ⟨v, H', J.os, J.bare, J.base, J.hok, r1, q1⟩
  | next =>
    obtain ⟨σ', H', J, q1⟩ := q
    exact ⟨V.non, H', J.os, J.bare, J.base, J.hok, rfl, q1⟩
  | brk => exact (q.elim fun _ z => z.elim fun _ z => z.2).elim
  | cont => exact (q.elim fun _ z => z.elim fun _ z => z.2).elim

section
variable {X : Cx} {k : Nat} {f : Addr} {fd : FuncData} {ps : List Str} {sp : Sp} {ds : List Value} {dvs : List V} {W : WX} {σ : L2.St}
/-- the callee runs; what it raises is wished for at the caller's slots -/
theorem runG {pins : List (Addr × Obj)} {H : Hp} {s : Shared} {Q : VK} {us : List Value} {vs : List V} (F : FnG X.prog X.w X.K X.mg X.base k f fd ps sp) (hr : Room k X.A) (hg : X.A.guards = some []) (hb : Binds X.K fd ps []) (tk : Takes X W)
    (I : Inv X pins σ H s) (r : Vals vs us) (h : sp vs H Q fun c d H' => W c d σ H') : wpAny (model X.prog X.w) X.A (call (.ref f) us) (EP X pins σ Q) X.xe s := by
  have hl : us.length = ps.length := by rw [← r.length]; exact F.len _ _ _ _ h
  have hb' : BindsTo s fd ⟨us, []⟩ (ps.zip us) := by
    have z := hb s us I.kIn (by rw [List.append_nil]; exact hl)
    rw [List.append_nil] at z
    exact z
  refine wpAny_call (codeAny_mono (F.run X.A X.stack s H ⟨us, []⟩ us vs Q _ hr hg I.env0 hb' r h) fun rs s' q => ?_)
  match rs, q with
  | .error e, q => exact tk e s' (XE.of_call I (fun _ _ _ z => z) q)
  | .ok (.ret u), q => exact I.after q
  | .ok .next, q => exact q.elim
  | .ok .brk, q => exact q.elim
  | .ok .cont, q => exact q.elim
variable {x : Str} {p pos : Pos} {e : Expr} {es : List Expr}
/-- f(e, ..) -/
theorem we_call {H : Hp} {Q : VK} (F : FnG X.prog X.w X.K X.mg X.base k f fd ps sp) (hr : Room k X.A) (hg : X.A.guards = some []) (tk : Takes X W) (hgl : Gl X x) (hm : X.mg x = some (.ref f)) (hk : PySem.W.keepIn X.K (.ref f) = true) (hb : Binds X.K fd ps [])
    (hdb : (x == ("__debug__" : Str)) = false) (he : starEach (e :: es) X.env = (false, eval e X.env) :: starEach es X.env) (hpl : (backTo pos (starEach es X.env)).any (·.1) = false)
    (h : WA X (e :: es) σ H fun vs H1 => sp vs H1 Q fun c d H' => W c d σ H') : WE X (.Call (.Name x p) (e :: es) [] pos) σ H Q := by
  intro pins s I
  refine wpAny_Call_Name_kw (ld_glob I hgl hm ?_ hdb)
  refine PySem.W.callWith_K (h₀ := X.base) I.ok.mod.kin hk ?_ he hpl
  refine thn (h pos pins s I) fun us s1 ⟨vs, H1, I1, r, q⟩ => ⟨I1.kIn, runG F hr hg hb tk I1 r q⟩
theorem we_call0 {H : Hp} {Q : VK} (F : FnG X.prog X.w X.K X.mg X.base k f fd ps sp) (hr : Room k X.A) (hg : X.A.guards = some []) (tk : Takes X W) (hgl : Gl X x) (hm : X.mg x = some (.ref f)) (hk : PySem.W.keepIn X.K (.ref f) = true) (hb : Binds X.K fd ps [])
    (hdb : (x == ("__debug__" : Str)) = false) (h : sp [] H Q fun c d H' => W c d σ H') : WE X (.Call (.Name x p) [] [] pos) σ H Q := by
  intro pins s I
  refine wpAny_Call_Name_kw (ld_glob I hgl hm ?_ hdb)
  exact PySem.W.callWith_K0 I.kIn hk (runG (us := []) F hr hg hb tk I .nil h)
end
end Vm

namespace Vm
open PySem PySem.Spec L2

/-- a def of the text that may be called by its name: its number, its parameters; pure: what it is handed is only read -/
structure FnE where
  name : Str
  id : Nat
  ps : List Str
  pure : Bool
  kws : List (Nat × List Str × List Nat) := []
/-- the keywords' values behind the others, in the parameters' order -/
def arr {α : Type} (ix : List Nat) (us ws : List α) : List α := us ++ ix.filterMap (ws[·]?)
/-- how the def takes a call with so many values and these keywords -/
def KB (fd : FuncData) (ps : List Str) (kw : Nat × List Str × List Nat) : Prop := ∀ us ws : List Value, us.length = kw.1 → ws.length = kw.2.1.length → bindArgs fd ⟨us, kw.2.1.zip ws⟩ = pure (ps.zip (arr kw.2.2 us ws))
/-- a def of a class of the text: its name there, its number, its parameters -/
structure MtE where
  nm : Str
  id : Nat
  ps : List Str
/-- a class of the text: its number, the attributes that its objects may have, its __init__, its properties, its methods -/
structure ClE where
  name : Str
  id : Nat
  fld : List Str
  ini : List MtE
  prp : List MtE
  mth : List MtE
structure Tab where
  fns : List FnE
  blt : List Str
  ers : List (Str × Nat) := []
  sub : List (Nat × Nat × Bool) := []
  cls : List ClE := []
  con : List (Str × List (Str × Int)) := []
/-- what is known of a class of the text -/
structure ClF (Fn : MtE → Addr → Prop) (K : PySem.W.Frag) (mg : Str → Option Value) (C : Addr) (c : ClE) : Prop where
  nm : mg c.name = some (.ref C)
  kp : PySem.W.keepIn K (.ref C) = true
  cl : Cls K C
  na : ∀ f ∈ c.fld, NoAttr K C f
  ini : ∀ m ∈ c.ini, ∃ f, Mk K C f ∧ Fn m f
  prp : ∀ m ∈ c.prp, ∃ p f, PropOf K C m.nm p f ∧ Fn m f
  mth : ∀ m ∈ c.mth, ∃ f, Meth K C m.nm f ∧ Fn m f
  ia : PySem.W.findIn K (.ref C) "__class__" = some (some (.builtin "object.__class__"))
  ig : PySem.W.specialIn K (.builtin "object.__class__") "__get__" = some (some (.builtin "getset_descriptor.__get__"))
  it : PySem.W.takesIn K (.builtin "object.__class__") = some true
  im : PySem.W.mroIn K C (.type "object") = some true
  sf : PySem.W.selfFirst K C = true
  ty : PySem.W.typeIn K (.ref C) = some (.type "type")
  ne : ∀ m ∈ c.mth, m.nm = "__eq__" → PySem.W.findIn K (.ref C) "__ne__" = some (some (.builtin "object.__ne__"))
theorem ClF.imp {Fn Fn' : MtE → Addr → Prop} {K : PySem.W.Frag} {mg : Str → Option Value} {C : Addr} {c : ClE} (h : ∀ m f, Fn m f → Fn' m f) (q : ClF Fn K mg C c) : ClF Fn' K mg C c :=
  ⟨q.nm, q.kp, q.cl, q.na, fun m hm => let ⟨f, a, b⟩ := q.ini m hm; ⟨f, a, h _ _ b⟩, fun m hm => let ⟨p, f, a, b⟩ := q.prp m hm; ⟨p, f, a, h _ _ b⟩, fun m hm => let ⟨f, a, b⟩ := q.mth m hm; ⟨f, a, h _ _ b⟩, q.ia, q.ig, q.it, q.im, q.sf, q.ty, q.ne⟩
/-- a written dict from texts to numbers -/
def ConF (K : PySem.W.Frag) (W : World) (mg : Str → Option Value) (e : Str × List (Str × Int)) : Prop := ∃ (d : Addr) (es : Array DictEntry) (n : Nat), mg e.1 = some (.ref d) ∧ KDict K W d es n ∧ ∀ s : Str, match e.2.lookup s with
  | some i => ∃ t, PySem.W.nsIn K d s = some (some (.int i t))
  | none => PySem.W.nsIn K d s = some none
/-- what is known of an error class of the text -/
structure ErC (K : PySem.W.Frag) (C : Addr) : Prop where
  kp : PySem.W.keepIn K (.ref C) = true
  bs : PySem.W.subIn K (.ref C) (.type "BaseException") = some true
  ty : PySem.W.typeIn K (.ref C) = some (.type "type")
  ex : PySem.W.excIn K C [.type "ValueError", .type "Exception", .type "BaseException", .type "object"] "ValueError.__new__" = true
  cc : ExcC K C
/-- the classes of the text, by their numbers -/
structure ErF (T : Tab) (ca : Nat → Addr) (K : PySem.W.Frag) (mg : Str → Option Value) : Prop where
  at_ : ∀ e ∈ T.ers, mg e.1 = some (.ref (ca e.2)) ∧ ErC K (ca e.2)
  sub : ∀ p ∈ T.sub, PySem.W.exmOne K (.ref (ca p.1)) (.ref (ca p.2.1)) = some p.2.2 ∧ PySem.W.kitOne K (.ref (ca p.1)) (.ref (ca p.2.1)) = some p.2.2 ∧ ErC K (ca p.1)
structure Cfg where
  T : Tab
  N : List Str
  sc : Scope
  fnc : Str → Bool := fun _ => true
  top : Bool := true
abbrev Cfg.look (C : Cfg) (x : Str) : Option NameKind := C.sc.names.lookup x

/-- an exception's own dict -/
def ErrR (K : PySem.W.Frag) (w : Wd) (dd : Option Addr) (ks : List Str) (vs : List D) : Prop :=
  (ks = [] ∧ vs = [] ∧ dd = none) ∨ (ks ≠ [] ∧ ∃ dx fvs, dd = some dx ∧ w.G dx = some (.xd (ks.zip fvs)) ∧ ks.length = fvs.length ∧ Reps K w vs fvs)

/-- what is wanted of an outcome, seen from a world -/
def Gd {A B : Type} (K : PySem.W.Frag) (w : Wd) (W : WX) (σ : L2.St) (rel : Wd → A → B → Prop) (Q : B → Hp → Prop) (r : R A) : Prop := match r with
  | .ok d M => ∀ w' H b, w.Le w' → Rel K w' M H → rel w' d b → Q b H
  | .exn c ks vs M => ∀ w' H dd, w.Le w' → Rel K w' M H → ErrR K w' dd ks vs → W (.ref (w'.ca c)) dd σ H
  | .bad => False
section
variable {A B A' B' : Type} {K : PySem.W.Frag} {w : Wd} {W : WX} {σ : L2.St} {rel : Wd → A → B → Prop} {rel' : Wd → A' → B' → Prop} {Q : B → Hp → Prop} {Q' : B' → Hp → Prop}
theorem Gd.up {r : R A} {w' : Wd} (h : Gd K w W σ rel Q r) (l : w.Le w') : Gd K w' W σ rel Q r := by
  cases r with
  | ok d M => exact fun w2 H b l2 => h w2 H b (l.trans l2)
  | exn c ks vs M => exact fun w2 H dd l2 => h w2 H dd (l.trans l2)
  | bad => exact h
theorem Gd.bind {r : R A'} {f : A' → Mem → R A} (h : Gd K w W σ rel Q (r.bind f)) (k : ∀ d M w' H b, w.Le w' → Rel K w' M H → rel' w' d b → Gd K w' W σ rel Q (f d M) → Q' b H) : Gd K w W σ rel' Q' r := by
  cases r with
  | ok d M => exact fun w' H b l R q => k d M w' H b l R q (Gd.up (show Gd K w W σ rel Q (f d M) from h) l)
  | exn c ks vs M => exact h
  | bad => exact h
end

/-- a promise of the number i: it does what cal says -/
def spF (K : PySem.W.Frag) (ca : Nat → Addr) (cal : Cal) (i : Nat) (n : Nat) : Sp := fun vs H Q E => ∃ (w : Wd) (M : Mem) (ds : List D), w.ca = ca ∧ Rel K w M H ∧ Reps K w ds vs ∧ ds.length = n ∧
  Gd K w (fun c d _ H' => E c d H') [] (Rep K) Q (cal i ds M)

structure GX (T : Tab) (ca : Nat → Addr) (cal : Cal) (k : Nat) (P : Program) (W : World) (K : PySem.W.Frag) (mg : Str → Option Value) (base : Heap) : Prop where
  fns : ∀ e ∈ T.fns, ∃ (f : Addr) (fd : FuncData), mg e.name = some (.ref f) ∧ PySem.W.keepIn K (.ref f) = true ∧ FnG P W K mg base k f fd e.ps (spF K ca cal e.id e.ps.length) ∧ Binds K fd e.ps [] ∧ ∀ kw ∈ e.kws, KB fd e.ps kw
  blt : ∀ x ∈ T.blt, mg x = none
  ers : ErF T ca K mg
  cls : ∀ c ∈ T.cls, ClF (fun m f => ∃ fd : FuncData, FnG P W K mg base k f fd m.ps (spF K ca cal m.id m.ps.length) ∧ Binds K fd m.ps []) K mg (ca c.id) c
  con : ∀ e ∈ T.con, ConF K W mg e

structure XOk (C : Cfg) (ca : Nat → Addr) (cal : Cal) (k : Nat) (X : Cx) : Prop where
  N : X.N = C.N
  nd : C.N.Nodup
  sc : X.env.scope = C.sc
  calm : X.calm = true
  fn : ∀ x, C.fnc x = true → X.fn x = true
  room : Room (k + 1) X.A
  gd : X.A.guards = some []
  gx : GX C.T ca cal k X.prog X.w X.K X.mg X.base
  po : PassesOwn (model X.prog X.w) X.A X.env X.xe
  inF : C.top = true → X.ex = [] ∧ X.stack = X.env :: X.outer ∧ X.env.frame = some X.env.locals

/-- here and now -/
structure Now (C : Cfg) (ca : Nat → Addr) (cal : Cal) (k : Nat) (X : Cx) (W : WX) (w : Wd) (ρ : Env) (M : Mem) (σ : L2.St) (H : Hp) : Prop where
  ok : XOk C ca cal k X
  tk : Takes X W
  ca : w.ca = ca
  rel : Rel X.K w M H
  sl : Slots X.K w ρ σ
section
variable {C : Cfg} {ca : Nat → Addr} {cal : Cal} {k : Nat} {X : Cx} {W : WX} {w w' : Wd} {ρ : Env} {M M' : Mem} {σ : L2.St} {H H' : Hp}
theorem Now.up (n : Now C ca cal k X W w ρ M σ H) (l : w.Le w') (R : Rel X.K w' M' H') : Now C ca cal k X W w' ρ M' σ H' := ⟨n.ok, n.tk, l.c.trans n.ca, R, n.sl.up l⟩
theorem Now.kind (n : Now C ca cal k X W w ρ M σ H) (x : Str) : X.env.kindOf x = C.look x := by
  show X.env.scope.names.lookup x = _
  rw [n.ok.sc]
end

/-- the expression does what f says -/
def SE (C : Cfg) (e : Expr) (f : Den) : Prop := ∀ {ca : Nat → Addr} {cal : Cal} {k : Nat} {X : Cx} {W : WX} {w : Wd} {ρ : Env} {M : Mem} {σ : L2.St} {H : Hp} {Q : VK},
  Now C ca cal k X W w ρ M σ H → Gd X.K w W σ (Rep X.K) Q (f cal ρ M) → WE X e σ H Q
def ST (C : Cfg) (e : Expr) (f : DenB) : Prop := ∀ {ca : Nat → Addr} {cal : Cal} {k : Nat} {X : Cx} {W : WX} {w : Wd} {ρ : Env} {M : Mem} {σ : L2.St} {H : Hp} {Q : Bool → Hp → Prop},
  Now C ca cal k X W w ρ M σ H → Gd X.K w W σ (fun _ a b => a = b) Q (f cal ρ M) → WT X e σ H Q
def SW (C : Cfg) (e : Expr) (f : DenB) : Prop := ∀ {ca : Nat → Addr} {cal : Cal} {k : Nat} {X : Cx} {W : WX} {w : Wd} {ρ : Env} {M : Mem} {σ : L2.St} {H : Hp} {Q : Bool → Hp → Prop},
  Now C ca cal k X W w ρ M σ H → Gd X.K w W σ (fun _ a b => a = b) Q (f cal ρ M) → WW X e σ H Q
def SA (C : Cfg) (es : List Expr) (f : Dens) : Prop := ∀ {ca : Nat → Addr} {cal : Cal} {k : Nat} {X : Cx} {W : WX} {w : Wd} {ρ : Env} {M : Mem} {σ : L2.St} {H : Hp} {Q : List V → Hp → Prop},
  Now C ca cal k X W w ρ M σ H → Gd X.K w W σ (Reps X.K) Q (f cal ρ M) → WA X es σ H Q

def slot : Env → Nat → Option D
  | [], _ => none
  | d :: _, 0 => d
  | _ :: r, n + 1 => slot r n
theorem slot_eq : ∀ (ρ : Env) (i : Nat), slot ρ i = (ρ[i]?).join
  | [], _ => by simp [slot]
  | d :: _, 0 => by simp [slot]
  | _ :: r, n + 1 => by simp [slot, slot_eq r n]
def cVar (i : Nat) : Den := fun _ ρ M => R.opt (slot ρ i) M
def cC (d : D) : Den := fun _ _ M => .ok d M
section
variable {C : Cfg} {pos : Pos}
theorem Gd.ok {A B : Type} {K : PySem.W.Frag} {w : Wd} {W : WX} {σ : L2.St} {rel : Wd → A → B → Prop} {Q : B → Hp → Prop} {d : A} {M : Mem} (h : Gd K w W σ rel Q (.ok d M)) {H : Hp} {b : B} (R : Rel K w M H) (r : rel w d b) : Q b H := h w H b (.refl w) R r
theorem Gd.opt {A B : Type} {K : PySem.W.Frag} {w : Wd} {W : WX} {σ : L2.St} {rel : Wd → A → B → Prop} {Q : B → Hp → Prop} {o : Option A} {M : Mem} (h : Gd K w W σ rel Q (R.opt o M)) : ∃ d, o = some d ∧ Gd K w W σ rel Q (.ok d M) := by
  cases o with
  | none => exact False.elim h
  | some d => exact ⟨d, rfl, h⟩
theorem se_var {x : Str} {i : Nat} (hi : C.N[i]? = some x) (hv : C.look x = some .local ∨ C.look x = some .cell ∨ C.look x = some .free) (hd : (x == ("__debug__" : Str)) = false) (hcd : (x == ("__classdict__" : Str)) = false) : SE C (.Name x pos) (cVar i) := by
  intro ca cal k X W w ρ M σ H Q n g
  obtain ⟨d, e, g⟩ := Gd.opt (show Gd X.K w W σ (Rep X.K) Q (R.opt (slot ρ i) M) from g)
  rw [slot_eq] at e
  obtain ⟨v, hv1, hr⟩ := n.sl.get i d (by
    cases h : ρ[i]? with
    | none => rw [h] at e; cases e
    | some o => rw [h] at e; rw [show o = some d from e])
  refine WE.of (pe_var (i := i) (by rw [n.ok.N]; exact hi) ?_ hd hcd) ⟨v, hv1, g.ok n.rel hr⟩
  unfold Vis
  rw [n.ok.sc]
  exact hv
theorem se_int {i : Int} {j : Nat} : SE C (.Constant (.int i) j pos) (cC (.int i)) := fun n g => WE.of pe_int (Gd.ok g n.rel (.int i))
theorem se_str {i : Str} {j : Nat} : SE C (.Constant (.str i) j pos) (cC (.str i)) := fun n g => WE.of pe_str (Gd.ok g n.rel (.str i))
theorem se_bl {i : Bool} {j : Nat} : SE C (.Constant (.bool i) j pos) (cC (.bl i)) := fun n g => WE.of pe_bl (Gd.ok g n.rel (.bl i))
theorem se_non {j : Nat} : SE C (.Constant .none j pos) (cC .non) := fun n g => WE.of pe_non (Gd.ok g n.rel .non)
end

/-- a cell as it lies -/
def viewC (n : Nat) : Option Cell → D
  | some (.lst xs) => .lst true xs
  | some (.dic ks vs) => .dic true ks vs
  | _ => .ref n
def view (M : Mem) : D → D
  | .ref n => viewC n M[n]?
  | d => d
theorem view_cases (M : Mem) (d : D) : view M d = d ∨ (∃ n xs, d = .ref n ∧ M[n]? = some (.lst xs) ∧ view M d = .lst true xs) ∨ (∃ n ks vs, d = .ref n ∧ M[n]? = some (.dic ks vs) ∧ view M d = .dic true ks vs) := by
  cases d with
  | ref n =>
    show viewC n M[n]? = _ ∨ _
    cases h : M[n]? with
    | none => exact .inl rfl
    | some c =>
      cases c with
      | lst xs => exact .inr (.inl ⟨n, xs, rfl, h, by show viewC n M[n]? = _; rw [h]; rfl⟩)
      | dic ks vs => exact .inr (.inr ⟨n, ks, vs, rfl, h, by show viewC n M[n]? = _; rw [h]; rfl⟩)
      | ins c ks vs => exact .inl rfl
      | lck ks vs => exact .inl rfl
      | nest rows => exact .inl rfl
  | _ => exact .inl rfl
section
variable {K : PySem.W.Frag} {w : Wd} {M : Mem} {H : Hp} {d : D} {v : V}
/-- a list that is read: what lies at the address -/
theorem Rel.list (R : Rel K w M H) {t : Bool} {xs : List D} (h : Rep K w d v) (e : view M d = .lst t xs) : ∃ a vs, v = .ref a ∧ H a = some (.lst vs) ∧ Reps K w xs vs := by
  rcases view_cases M d with q | ⟨n, ys, rfl, q, q2⟩ | ⟨n, ks, vs, rfl, q, q2⟩
  · rw [q] at e
    subst e
    cases h with
    | lst h r => exact ⟨_, _, rfl, R.lst h, r⟩
  · rw [q2] at e
    cases e
    cases h with
    | ref h =>
      obtain ⟨c, bs, e1, e2, z⟩ := R.at h
      rw [q] at e1
      cases e1
      cases z with
      | lst h2 r => exact ⟨_, _, rfl, h2, r⟩
  · rw [q2] at e; cases e
theorem view_tup {xs : List D} (e : view M d = .tup xs) : d = .tup xs := by
  rcases view_cases M d with q | ⟨n, ys, rfl, q, q2⟩ | ⟨n, ks, vs, rfl, q, q2⟩
  · rw [q] at e; exact e
  · rw [q2] at e; cases e
  · rw [q2] at e; cases e
theorem Rel.tuple (R : Rel K w M H) {xs : List D} (h : Rep K w d v) (e : view M d = .tup xs) : ∃ a vs, v = .ref a ∧ H a = some (.tup vs) ∧ Reps K w xs vs := by
  have q := view_tup e
  subst q
  cases h with
  | tup h r => exact ⟨_, _, rfl, R.tup h, r⟩
theorem view_int {i : Int} (h : Rep K w d v) (e : view M d = .int i) : v = .int i := by
  rcases view_cases M d with q | ⟨n, ys, rfl, q, q2⟩ | ⟨n, ks, vs, rfl, q, q2⟩
  · rw [q] at e; subst e; cases h; rfl
  · rw [q2] at e; cases e
  · rw [q2] at e; cases e
theorem view_str {i : Str} (h : Rep K w d v) (e : view M d = .str i) : v = .str i := by
  rcases view_cases M d with q | ⟨n, ys, rfl, q, q2⟩ | ⟨n, ks, vs, rfl, q, q2⟩
  · rw [q] at e; subst e; cases h; rfl
  · rw [q2] at e; cases e
  · rw [q2] at e; cases e
theorem view_bl {i : Bool} (h : Rep K w d v) (e : view M d = .bl i) : v = .bl i := by
  rcases view_cases M d with q | ⟨n, ys, rfl, q, q2⟩ | ⟨n, ks, vs, rfl, q, q2⟩
  · rw [q] at e; subst e; cases h; rfl
  · rw [q2] at e; cases e
  · rw [q2] at e; cases e
@[simp] theorem view_int' (i : Int) : view M (.int i) = .int i := rfl
@[simp] theorem view_str' (i : Str) : view M (.str i) = .str i := rfl
@[simp] theorem view_bl' (i : Bool) : view M (.bl i) = .bl i := rfl
@[simp] theorem view_non' : view M .non = .non := rfl
@[simp] theorem view_tup' (xs : List D) : view M (.tup xs) = .tup xs := rfl
@[simp] theorem view_lst' (t : Bool) (xs : List D) : view M (.lst t xs) = .lst t xs := rfl
@[simp] theorem view_dic' (t : Bool) (ks xs : List D) : view M (.dic t ks xs) = .dic t ks xs := rfl
@[simp] theorem view_obj' (c : Nat) (ks : List Str) (xs : List D) : view M (.obj c ks xs) = .obj c ks xs := rfl
@[simp] theorem view_scr' (xs : List D) : view M (.scr xs) = .scr xs := rfl
theorem view_ref' (n : Nat) : view M (.ref n) = viewC n M[n]? := rfl
@[simp] theorem viewC_lst (n : Nat) (xs : List D) : viewC n (some (.lst xs)) = .lst true xs := rfl
@[simp] theorem viewC_dic (n : Nat) (ks xs : List D) : viewC n (some (.dic ks xs)) = .dic true ks xs := rfl
end

/-- f of two values leads to Q -/
def OpW (X : Cx) (f : Value → Value → Sem Value) : R2 := fun x y H Q => ∀ pins s σ v u, Inv X pins σ H s → RelV x v → RelV y u → wpAny (model X.prog X.w) X.A (f v u) (EP X pins σ Q) X.xe s
theorem opR_w {X : Cx} {f : Value → Value → Sem Value} : OpR X f (OpW X f) := fun pins s σ H x y v u Q I rx ry h => h pins s σ v u I rx ry
theorem OpW.of {X : Cx} {f : Value → Value → Sem Value} {r : R2} (h : OpR X f r) {x y : V} {H : Hp} {Q : VK} (q : r x y H Q) : OpW X f x y H Q := fun pins s σ v u I rx ry => h pins s σ H x y v u Q I rx ry q

def cBin (g : D → D → Option D) (a b : Den) : Den := fun cal ρ M => (a cal ρ M).bind fun x M1 => (b cal ρ M1).bind fun y M2 => R.opt (g (view M2 x) (view M2 y)) M2
/-- f does what g says -/
def OpS (f : Value → Value → Sem Value) (g : D → D → Option D) : Prop := ∀ {C : Cfg} {ca : Nat → Addr} {cal : Cal} {k : Nat} {X : Cx} {W : WX} {w : Wd} {ρ : Env} {M : Mem} {σ : L2.St} {H : Hp} {Q : VK} {x y d : D} {vx vy : V},
  Now C ca cal k X W w ρ M σ H → Rep X.K w x vx → Rep X.K w y vy → g (view M x) (view M y) = some d → (∀ w' H' v, w.Le w' → Rel X.K w' M H' → Rep X.K w' d v → Q v H') → OpW X f vx vy H Q
section
variable {C : Cfg} {pos : Pos} {a b : Expr} {f g : Den}
theorem Gd.opt' {K : PySem.W.Frag} {w : Wd} {W : WX} {σ : L2.St} {Q : VK} {o : Option D} {M : Mem} (h : Gd K w W σ (Rep K) Q (R.opt o M)) : ∃ d, o = some d ∧ ∀ w' H' v, w.Le w' → Rel K w' M H' → Rep K w' d v → Q v H' := by
  obtain ⟨d, e, g⟩ := Gd.opt h
  exact ⟨d, e, g⟩
theorem se_bin {op : Operator} {h : D → D → Option D} (ho : OpS (binaryOp op) h) (ha : SE C a f) (hb : SE C b g) : SE C (.BinOp a op b pos) (cBin h f g) := by
  intro ca cal k X W w ρ M σ H Q n q
  refine WE.of (pe_op opR_w pe_we pe_we) ?_
  refine ha n (Gd.bind q fun x M1 w1 H1 vx l1 R1 r1 q1 => ?_)
  refine hb (n.up l1 R1) (Gd.bind q1 fun y M2 w2 H2 vy l2 R2 r2 q2 => ?_)
  obtain ⟨d, e, q3⟩ := Gd.opt' q2
  exact ho ((n.up l1 R1).up l2 R2) (r1.up l2) r2 e q3
end

def big : Nat := sizeLine
def addD : D → D → Option D
  | .int i, .int j => some (.int (i + j))
  | .str a, .str b => if a.length + b.length ≤ sizeLine then some (.str (a ++ b)) else none
  | .lst _ xs, .lst _ ys => if xs.length + ys.length ≤ sizeLine then some (.lst false (xs ++ ys)) else none
  | .tup xs, .tup ys => if xs.length + ys.length ≤ sizeLine ∧ xs ≠ [] then some (.tup (xs ++ ys)) else none
  | _, _ => none
theorem addD_inv {x y d : D} (h : addD x y = some d) : (∃ i j, x = .int i ∧ y = .int j ∧ d = .int (i + j)) ∨ (∃ a b, x = .str a ∧ y = .str b ∧ a.length + b.length ≤ sizeLine ∧ d = .str (a ++ b)) ∨
    (∃ t u xs ys, x = .lst t xs ∧ y = .lst u ys ∧ xs.length + ys.length ≤ sizeLine ∧ d = .lst false (xs ++ ys)) ∨ (∃ xs ys, x = .tup xs ∧ y = .tup ys ∧ (xs.length + ys.length ≤ sizeLine ∧ xs ≠ []) ∧ d = .tup (xs ++ ys)) := by
  unfold addD at h
  split at h
  · exact .inl ⟨_, _, rfl, rfl, (Option.some.inj h).symm⟩
  · split at h
    · exact .inr (.inl ⟨_, _, rfl, rfl, by assumption, (Option.some.inj h).symm⟩)
    · cases h
  · split at h
    · exact .inr (.inr (.inl ⟨_, _, _, _, rfl, rfl, by assumption, (Option.some.inj h).symm⟩))
    · cases h
  · split at h
    · exact .inr (.inr (.inr ⟨_, _, rfl, rfl, by assumption, (Option.some.inj h).symm⟩))
    · cases h
  · cases h
theorem ops_add : OpS (binaryOp .Add) addD := by
  intro C ca cal k X W w ρ M σ H Q x y d vx vy n rx ry e q
  rcases addD_inv e with ⟨i, j, e1, e2, rfl⟩ | ⟨i, j, e1, e2, hz, rfl⟩ | ⟨t, u, xs, ys, e1, e2, hz, rfl⟩ | ⟨xs, ys, e1, e2, ⟨hz, hn⟩, rfl⟩
  · rw [view_int rx e1, view_int ry e2]
    exact OpW.of op_add ⟨i, j, rfl, rfl, q w H _ (.refl w) n.rel (.int _)⟩
  · rw [view_str rx e1, view_str ry e2]
    exact OpW.of op_add_str ⟨i, j, rfl, rfl, hz, q w H _ (.refl w) n.rel (.str _)⟩
  · obtain ⟨a, vs, rfl, h1, r1⟩ := n.rel.list rx e1
    obtain ⟨b, us, rfl, h2, r2⟩ := n.rel.list ry e2
    refine OpW.of op_cat ⟨a, b, vs, us, rfl, rfl, h1, h2, by rw [← r1.length, ← r2.length]; exact hz, fun p hp => ?_⟩
    have l := n.rel.addLe (o := .lst (vs ++ us)) hp
    exact q _ _ _ l (n.rel.add hp) (.lst (t := false) upd_same ((r1.append r2).up l))
  · obtain ⟨a, vs, rfl, h1, r1⟩ := n.rel.tuple rx e1
    obtain ⟨b, us, rfl, h2, r2⟩ := n.rel.tuple ry e2
    have hx := view_tup e1
    have hy := view_tup e2
    subst hx hy
    have hvs : vs ≠ [] := fun z => hn (by have := r1.length; rw [z] at this; exact List.length_eq_zero_iff.mp this)
    refine OpW.of op_catT ⟨a, b, vs, us, rfl, rfl, SqT.of h1, SqT.of h2, hvs, by rw [← r1.length, ← r2.length]; exact hz, fun z => ?_, fun _ p hp => ?_⟩
    · have z2 : ys = [] := by
        have := r2.length
        rw [z] at this
        exact List.length_eq_zero_iff.mp this
      subst z2
      rw [List.append_nil] at q
      exact q w H _ (.refl w) n.rel rx
    · have l := n.rel.addLe (o := .tup (vs ++ us)) hp
      exact q _ _ _ l (n.rel.add hp) (.tup upd_same ((r1.append r2).up l))
def intD (g : Int → Int → Option D) : D → D → Option D
  | .int i, .int j => g i j
  | _, _ => none
theorem intD_inv {g : Int → Int → Option D} {x y d : D} (h : intD g x y = some d) : ∃ i j, x = .int i ∧ y = .int j ∧ g i j = some d := by
  unfold intD at h
  split at h
  · exact ⟨_, _, rfl, rfl, h⟩
  · cases h
/-- an operator upon two ints -/
theorem ops_int {f : Value → Value → Sem Value} {P : Int → Int → Prop} [∀ i j, Decidable (P i j)] {g : Int → Int → D} (hd : ∀ i j K w, ∃ v, Rep K w (g i j) v ∧ ∀ X : Cx, OpR X f fun x y H Q => ∃ i' j', x = .int i' ∧ y = .int j' ∧ i' = i ∧ j' = j ∧ P i j ∧ Q v H) :
    OpS f (intD fun i j => if P i j then some (g i j) else none) := by
  intro C ca cal k X W w ρ M σ H Q x y d vx vy n rx ry e q
  obtain ⟨i, j, e1, e2, e3⟩ := intD_inv e
  rw [view_int rx e1, view_int ry e2]
  by_cases hp : P i j
  · rw [if_pos hp] at e3
    cases e3
    obtain ⟨v, hv, ho⟩ := hd i j X.K w
    exact OpW.of (ho X) ⟨i, j, rfl, rfl, rfl, rfl, hp, q w H _ (.refl w) n.rel hv⟩
  · rw [if_neg hp] at e3; cases e3
def subD : D → D → Option D := intD fun i j => if True then some (.int (i - j)) else none
theorem ops_sub : OpS (binaryOp .Sub) subD := ops_int fun i j K w => ⟨_, .int _, fun X => fun pins s σ H x y v u Q I rx ry h => by
  obtain ⟨i', j', e1, e2, rfl, rfl, _, q⟩ := h
  exact op_sub pins s σ H x y v u Q I rx ry ⟨i', j', e1, e2, q⟩⟩
def mulOk (i j : Int) : Prop := (i.natAbs < 2 ^ 64 ∨ j.natAbs < 2 ^ 64) ∨ i.natAbs.log2 + j.natAbs.log2 < 1000000
instance (i j : Int) : Decidable (mulOk i j) := by unfold mulOk; infer_instance
def mulD : D → D → Option D := intD fun i j => if mulOk i j then some (.int (i * j)) else none
theorem ops_mul : OpS (binaryOp .Mult) mulD := ops_int fun i j K w => ⟨_, .int _, fun X => fun pins s σ H x y v u Q I rx ry h => by
  obtain ⟨i', j', e1, e2, rfl, rfl, hp, q⟩ := h
  rcases hp with hp | hp
  · exact op_mul pins s σ H x y v u Q I rx ry ⟨i', j', e1, e2, by unfold CMul; rcases hp with hp | hp; exact .inl (by omega); exact .inr (by omega), q⟩
  · exact op_mulW pins s σ H x y v u Q I rx ry ⟨i', j', e1, e2, hp, q⟩⟩
def divOk (j : Int) : Prop := (j ≠ 0 ∧ j.natAbs < 1073741824) ∨ (0 < j ∧ j.natAbs.log2 < 9000)
instance (j : Int) : Decidable (divOk j) := by unfold divOk; infer_instance
def divD : D → D → Option D := intD fun i j => if divOk j then some (.int (i.fdiv j)) else none
theorem ops_div : OpS (binaryOp .FloorDiv) divD := ops_int fun i j K w => ⟨_, .int _, fun X => fun pins s σ H x y v u Q I rx ry h => by
  obtain ⟨i', j', e1, e2, rfl, rfl, hp, q⟩ := h
  rcases hp with hp | hp
  · exact op_fdivN pins s σ H x y v u Q I rx ry ⟨i', j', e1, e2, hp, q⟩
  · exact op_fdivW pins s σ H x y v u Q I rx ry ⟨i', j', e1, e2, hp, by show Q (V.int (i' / j')) H; rw [← Int.fdiv_eq_ediv_of_nonneg _ (Int.le_of_lt hp.1)]; exact q⟩⟩
def modD : D → D → Option D := intD fun i j => if j ≠ 0 then some (.int (i.fmod j)) else none
theorem ops_mod : OpS (binaryOp .Mod) modD := ops_int fun i j K w => ⟨_, .int _, fun X => fun pins s σ H x y v u Q I rx ry h => by
  obtain ⟨i', j', e1, e2, rfl, rfl, hp, q⟩ := h
  exact op_modN pins s σ H x y v u Q I rx ry ⟨i', j', e1, e2, hp, q⟩⟩
def powOk (i j : Int) : Prop := 0 ≤ j ∧ j ≤ 1000000 ∧ i.natAbs < 2 ^ 64
instance (i j : Int) : Decidable (powOk i j) := by unfold powOk; infer_instance
def powD : D → D → Option D := intD fun i j => if powOk i j then some (.int (i ^ j.toNat)) else none
theorem ops_pow : OpS (binaryOp .Pow) powD := ops_int fun i j K w => ⟨_, .int _, fun X => fun pins s σ H x y v u Q I rx ry h => by
  obtain ⟨i', j', e1, e2, rfl, rfl, hp, q⟩ := h
  exact op_pow pins s σ H x y v u Q I rx ry ⟨i', j', e1, e2, hp, q⟩⟩
def shlD : D → D → Option D := intD fun i j => if powOk i j then some (.int (i * 2 ^ j.toNat)) else none
theorem ops_shl : OpS (binaryOp .LShift) shlD := ops_int fun i j K w => ⟨_, .int _, fun X => fun pins s σ H x y v u Q I rx ry h => by
  obtain ⟨i', j', e1, e2, rfl, rfl, hp, q⟩ := h
  exact op_shl pins s σ H x y v u Q I rx ry ⟨i', j', e1, e2, hp, q⟩⟩
def shrD : D → D → Option D := intD fun i j => if 0 ≤ j then some (.int (i / 2 ^ j.toNat)) else none
theorem ops_shr : OpS (binaryOp .RShift) shrD := ops_int fun i j K w => ⟨_, .int _, fun X => fun pins s σ H x y v u Q I rx ry h => by
  obtain ⟨i', j', e1, e2, rfl, rfl, hp, q⟩ := h
  exact op_shr pins s σ H x y v u Q I rx ry ⟨i', j', e1, e2, hp, q⟩⟩
def andD : D → D → Option D := intD fun i j => if True then some (.int (Builtin.bitAnd i j)) else none
theorem ops_and : OpS (binaryOp .BitAnd) andD := ops_int fun i j K w => ⟨_, .int _, fun X => fun pins s σ H x y v u Q I rx ry h => by
  obtain ⟨i', j', e1, e2, rfl, rfl, hp, q⟩ := h
  exact op_and pins s σ H x y v u Q I rx ry ⟨i', j', e1, e2, q⟩⟩
def cNeg (a : Den) : Den := fun cal ρ M => (a cal ρ M).bind fun x M1 => match x with
  | .int i => .ok (.int (-i)) M1
  | _ => .bad
theorem se_neg {C : Cfg} {pos : Pos} {a : Expr} {f : Den} (ha : SE C a f) : SE C (.UnaryOp .USub a pos) (cNeg f) := by
  intro ca cal k X W w ρ M σ H Q n q
  refine WE.of (pe_un un_neg pe_we) ?_
  refine ha n (Gd.bind q fun x M1 w1 H1 vx l1 R1 r1 q1 => ?_)
  cases r1 with
  | int i => exact ⟨i, rfl, Gd.ok q1 R1 (.int _)⟩
  | _ => exact False.elim q1
end Vm

namespace Vm
open PySem PySem.Spec L2
def keyK : D → Option Key
  | .int i => some (.inl i)
  | .str s => some (.inr s)
  | _ => none
def keysK : List D → Option (List Key)
  | [] => some []
  | d :: ds => match keyK d, keysK ds with
    | some k, some ks => some (k :: ks)
    | _, _ => none
/-- a key as the dict of a kind (q: tuples) has it -/
def keyQ (q : Bool) (y : D) : Option D := match q, y with
  | false, y => (keyK y).map keyD
  | true, .tup xs => (keysK xs).map fun ks => .tup (ks.map keyD)
  | true, _ => none
open Classical in
noncomputable def lookD : List D → List D → D → Option D
  | k :: ks, v :: vs, y => if k = y then some v else lookD ks vs y
  | _, _, _ => none
open Classical in
noncomputable def swapD : List D → List D → D → D → List D
  | k :: ks, v :: vs, y, d => (if k = y then d else v) :: swapD ks vs y d
  | _, _, _, _ => []
open Classical in
noncomputable def putD (ks vs : List D) (y d : D) : List D × List D := if y ∈ ks then (ks, swapD ks vs y d) else (ks ++ [y], vs ++ [d])
/-- what a dict's data say of a key: no word, or whether and what -/
noncomputable def dget (ks vs : List D) (y : D) : Option (Option D) := match ks with
  | .bl q :: ks => (keyQ q y).map fun k => lookD ks vs k
  | _ => none
theorem keyD_inj {a b : Key} (h : keyD a = keyD b) : a = b := by
  cases a <;> cases b <;> simp [keyD] at h <;> rw [h]
theorem keysD_inj : ∀ {a b : List Key}, a.map keyD = b.map keyD → a = b
  | [], [], _ => rfl
  | [], _ :: _, h => by cases h
  | _ :: _, [], h => by cases h
  | x :: a, y :: b, h => by
    rw [List.map_cons, List.map_cons] at h
    obtain ⟨h1, h2⟩ := List.cons.inj h
    rw [keyD_inj h1, keysD_inj h2]
theorem keyK_is {K : PySem.W.Frag} {w : Wd} {d : D} {v : V} {k : Key} (r : Rep K w d v) (h : keyK d = some k) : v = kV k ∧ d = keyD k := by
  cases r <;> cases h <;> exact ⟨rfl, rfl⟩
theorem keysK_is {K : PySem.W.Frag} {w : Wd} : ∀ {ds : List D} {vs : List V} {ks : List Key}, Reps K w ds vs → keysK ds = some ks → vs = ks.map kV ∧ ds = ks.map keyD
  | _, _, _, .nil, h => by cases h; exact ⟨rfl, rfl⟩
  | _, _, ks, .cons r t, h => by
    unfold keysK at h
    split at h
    · rename_i k ks' h1 h2
      cases h
      obtain ⟨a1, a2⟩ := keyK_is r h1
      obtain ⟨b1, b2⟩ := keysK_is t h2
      exact ⟨by rw [a1, b1]; rfl, by rw [a2, b2]; rfl⟩
    · cases h
section
open Classical
variable {κ : Type} [DecidableEq κ] {K : PySem.W.Frag} {w : Wd}
theorem look_is (f : κ → D) (hf : ∀ a b, f a = f b → a = b) (k : κ) : ∀ {kvs : List (κ × V)} {ds : List D}, Reps K w ds (kvs.map (·.2)) →
    (valV kvs k = none ∧ lookD (kvs.map fun p => f p.1) ds (f k) = none) ∨ ∃ v d, valV kvs k = some v ∧ lookD (kvs.map fun p => f p.1) ds (f k) = some d ∧ Rep K w d v
  | [], _, r => .inl ⟨rfl, by cases r; rfl⟩
  | p :: kvs, _, .cons (d := d) (ds := ds) h t => by
    by_cases e : p.1 = k
    · refine .inr ⟨p.2, d, valV_pos e, ?_, h⟩
      show (if f p.1 = f k then some d else _) = _
      rw [if_pos (by rw [e])]
    · rw [valV_neg e]
      have e2 : lookD (List.map (fun p => f p.1) (p :: kvs)) (d :: ds) (f k) = lookD (kvs.map fun p => f p.1) ds (f k) := if_neg (c := f p.1 = f k) fun z => e (hf _ _ z)
      rw [e2]
      exact look_is f hf k t
theorem mem_is (f : κ → D) (hf : ∀ a b, f a = f b → a = b) (k : κ) (kvs : List (κ × V)) : f k ∈ (kvs.map fun p => f p.1) ↔ (kvs.any fun kv => decide (kv.1 = k)) = true := by
  rw [List.any_eq_true, List.mem_map]
  constructor
  · rintro ⟨p, hp, e⟩
    exact ⟨p, hp, decide_eq_true (hf _ _ e)⟩
  · rintro ⟨p, hp, e⟩
    exact ⟨p, hp, by rw [of_decide_eq_true e]⟩
theorem swap_is (f : κ → D) (hf : ∀ a b, f a = f b → a = b) (k : κ) {d : D} {v : V} (r : Rep K w d v) : ∀ {kvs : List (κ × V)} {ds : List D}, Reps K w ds (kvs.map (·.2)) →
    Reps K w (swapD (kvs.map fun p => f p.1) ds (f k) d) ((kvs.map fun kv => if kv.1 = k then (kv.1, v) else kv).map (·.2))
  | [], _, t => by cases t; exact .nil
  | p :: kvs, _, .cons (d := e) h t => by
    have ih := swap_is f hf k r t
    show Reps K w ((if f p.1 = f k then d else e) :: _) ((if p.1 = k then (p.1, v) else p).2 :: _)
    refine .cons ?_ ih
    by_cases q : p.1 = k
    · rw [if_pos (by rw [q]), if_pos q]; exact r
    · rw [if_neg (fun z => q (hf _ _ z)), if_neg q]; exact h
theorem put_is (f : κ → D) (hf : ∀ a b, f a = f b → a = b) (k : κ) {d : D} {v : V} (r : Rep K w d v) {kvs : List (κ × V)} {ds : List D} (t : Reps K w ds (kvs.map (·.2))) :
    (putD (kvs.map fun p => f p.1) ds (f k) d).1 = ((putK kvs k v).map fun p => f p.1) ∧ Reps K w (putD (kvs.map fun p => f p.1) ds (f k) d).2 ((putK kvs k v).map (·.2)) := by
  unfold putD putK
  by_cases h : (kvs.any fun kv => decide (kv.1 = k)) = true
  · rw [if_pos h, if_pos ((mem_is f hf k kvs).mpr h)]
    refine ⟨?_, swap_is f hf k r t⟩
    rw [List.map_map]
    refine List.map_congr_left fun p _ => ?_
    show f p.1 = f (if p.1 = k then (p.1, v) else p).1
    split <;> rfl
  · rw [if_neg h, if_neg (fun z => h ((mem_is f hf k kvs).mp z)), List.map_append, List.map_append]
    exact ⟨rfl, t.append (.cons r .nil)⟩
end
section
variable {K : PySem.W.Frag} {w : Wd} {M : Mem} {H : Hp}
/-- a dict that is read -/
theorem Rel.dict (R : Rel K w M H) {d : D} {v : V} {t : Bool} {ks xs : List D} (r : Rep K w d v) (e : view M d = .dic t ks xs) : ∃ a o vs, v = .ref a ∧ Rd H a o ∧ DicO o ks vs ∧ Reps K w xs vs := by
  rcases view_cases M d with z | ⟨n, ys, rfl, q, q2⟩ | ⟨n, ks', vs', rfl, q, q2⟩
  · rw [z] at e
    subst e
    cases r with
    | @dic t _ _ a o vs h q r =>
      have hF : w.F a = some o := by
        cases t with
        | true => exact R.bf _ _ h
        | false => exact R.bf _ _ (R.gb _ _ h)
      refine ⟨a, o, vs, rfl, ?_, q, r⟩
      by_cases hk : a ∈ w.lk
      · exact .inr (R.bl a o hF hk).2
      · exact .inl (R.bh a o hF hk)
  · rw [q2] at e; cases e
  · rw [q2] at e
    cases e
    cases r with
    | ref h =>
      obtain ⟨c, bs, e1, e2, z⟩ := R.at h
      rw [q] at e1
      cases e1
      cases z with
      | dic h2 qd rs => exact ⟨_, _, _, rfl, .inl h2, qd, rs⟩
/-- what a dict holds at a key -/
theorem Rel.dget (R : Rel K w M H) {d y : D} {v u : V} {t : Bool} {ks xs : List D} {o : Option D} (r : Rep K w d v) (e : view M d = .dic t ks xs) (ry : Rep K w y u) (g : Vm.dget ks xs (view M y) = some o) :
    ∃ a ov, v = .ref a ∧ DGet H a u ov ∧ ((o = none ∧ ov = none) ∨ ∃ d' v', o = some d' ∧ ov = some v' ∧ Rep K w d' v') := by
  obtain ⟨a, ob, vs, rfl, hr, q, rs⟩ := R.dict r e
  cases q with
  | k kvs =>
    obtain ⟨k', h1, h2⟩ := Option.map_eq_some_iff.mp (show (keyQ false (view M y)).map _ = some o from g)
    obtain ⟨k, h3, rfl⟩ := Option.map_eq_some_iff.mp (show (keyK (view M y)).map keyD = some k' from h1)
    have hy : u = kV k := by
      cases hv : view M y with
      | int i => rw [hv] at h3; cases h3; rw [view_int ry hv]; rfl
      | str i => rw [hv] at h3; cases h3; rw [view_str ry hv]; rfl
      | _ => rw [hv] at h3; cases h3
    refine ⟨a, _, rfl, .inl ⟨kvs, k, hr, hy, rfl⟩, ?_⟩
    rcases look_is keyD (fun _ _ => keyD_inj) k rs with ⟨a1, a2⟩ | ⟨v', d', a1, a2, a3⟩
    · exact .inl ⟨by rw [← h2]; exact a2, a1⟩
    · exact .inr ⟨d', v', by rw [← h2]; exact a2, a1, a3⟩
  | t kvs =>
    obtain ⟨k', h1, h2⟩ := Option.map_eq_some_iff.mp (show (keyQ true (view M y)).map _ = some o from g)
    cases hv : view M y with
    | tup zs =>
      rw [hv] at h1
      obtain ⟨k, h3, rfl⟩ := Option.map_eq_some_iff.mp (show (keysK zs).map (fun ks => D.tup (ks.map keyD)) = some k' from h1)
      obtain ⟨b, us, rfl, hb, ru⟩ := R.tuple ry hv
      obtain ⟨e1, e2⟩ := keysK_is ru h3
      subst e1
      refine ⟨a, _, rfl, .inr ⟨kvs, k, b, hr, rfl, hb, rfl⟩, ?_⟩
      rcases look_is (fun k : List Key => D.tup (k.map keyD)) (fun _ _ z => keysD_inj (D.tup.inj z)) k rs with ⟨a1, a2⟩ | ⟨v', d', a1, a2, a3⟩
      · exact .inl ⟨by rw [← h2]; exact a2, a1⟩
      · exact .inr ⟨d', v', by rw [← h2]; exact a2, a1, a3⟩
    | _ => rw [hv] at h1; cases h1
end
end Vm

namespace Vm
open PySem PySem.Spec L2

mutual
def toP : D → Option PyData
  | .non => some .none
  | .bl b => some (.bool b)
  | .int i => some (.int i)
  | .str s => some (.str s)
  | .tup xs => (toPs xs).map .tuple
  | .lst _ xs => (toPs xs).map .list
  | .scr _ => none
  | .dic _ _ _ => none
  | .obj _ _ _ => none
  | .err _ _ _ => none
  | .ref _ => none
def toPs : List D → Option (List PyData)
  | [] => some []
  | d :: ds => match toP d, toPs ds with
    | some p, some ps => some (p :: ps)
    | _, _ => none
end
theorem toPs_cons {d : D} {ds : List D} {ps : List PyData} (h : toPs (d :: ds) = some ps) : ∃ p qs, toP d = some p ∧ toPs ds = some qs ∧ ps = p :: qs := by
  unfold toPs at h
  split at h
  · exact ⟨_, _, by assumption, by assumption, (Option.some.inj h).symm⟩
  · cases h
section
variable {K : PySem.W.Frag} {w : Wd} {M : Mem} {H : Hp}
theorem Rel.dp (R : Rel K w M H) {d : D} {v : V} (h : Rep K w d v) : ∀ {p : PyData}, toP d = some p → Dp K H v p :=
  Rep.rec (motive_1 := fun d v _ => ∀ {p : PyData}, toP d = some p → Dp K H v p) (motive_2 := fun ds vs _ => ∀ {ps : List PyData}, toPs ds = some ps → DpAll K H vs ps)
    (fun e => by unfold toP at e; cases e; exact .non) (fun b _ e => by unfold toP at e; cases e; exact .bl b) (fun b _ e => by unfold toP at e; cases e; exact .int b) (fun b _ e => by unfold toP at e; cases e; exact .str b)
    (fun {xs a vs} h _ ih p e => by
      unfold toP at e
      obtain ⟨ps, e1, e2⟩ := Option.map_eq_some_iff.mp e
      subst e2
      exact .tup (SqT.of (R.tup h)) (ih e1))
    (fun {t xs a vs} h _ ih p e => by
      unfold toP at e
      obtain ⟨ps, e1, e2⟩ := Option.map_eq_some_iff.mp e
      subst e2
      exact .lst (SqL.of (R.lst h)) (ih e1))
    (fun _ _ _ _ _ e => by unfold toP at e; cases e) (fun _ _ _ _ _ e => by unfold toP at e; cases e) (fun _ _ e => by unfold toP at e; cases e) (fun _ _ _ _ e => by unfold toP at e; cases e) (fun _ _ e => by unfold toP at e; cases e)
    (fun e => by unfold toPs at e; cases e; exact .nil)
    (fun _ _ i1 i2 ps e => by
      obtain ⟨p, qs, e1, e2, rfl⟩ := toPs_cons e
      exact .cons (i1 e1) (i2 e2)) h
theorem Reps.dps (R : Rel K w M H) : ∀ {ds : List D} {vs : List V} {ps : List PyData}, Reps K w ds vs → toPs ds = some ps → DpAll K H vs ps
  | _, _, _, .nil, e => by unfold toPs at e; cases e; exact .nil
  | _, _, _, .cons h t, e => by
    obtain ⟨p, qs, e1, e2, rfl⟩ := toPs_cons e
    exact .cons (R.dp h e1) (Reps.dps R t e2)
/-- a cell too -/
theorem Rel.dpv (R : Rel K w M H) {d : D} {v : V} (h : Rep K w d v) {p : PyData} (e : toP (view M d) = some p) : Dp K H v p := by
  rcases view_cases M d with q | ⟨n, ys, rfl, q, q2⟩ | ⟨n, ks, vs, rfl, q, q2⟩
  · rw [q] at e; exact R.dp h e
  · obtain ⟨a, vs, rfl, h1, r⟩ := R.list h q2
    rw [q2] at e
    unfold toP at e
    obtain ⟨ps, e1, e2⟩ := Option.map_eq_some_iff.mp e
    subst e2
    exact .lst (SqL.of h1) (Reps.dps R r e1)
  · rw [q2] at e; unfold toP at e; cases e
end

def eqB (x y : D) : Option Bool := match toP x, toP y with
  | some p, some q => if SeqAt.shaped p = true ∧ SeqAt.shaped q = true then some (PyData.eqv p q) else none
  | _, _ => none
theorem eqB_inv {x y : D} {b : Bool} (h : eqB x y = some b) : ∃ p q, toP x = some p ∧ toP y = some q ∧ (SeqAt.shaped p = true ∧ SeqAt.shaped q = true) ∧ b = PyData.eqv p q := by
  unfold eqB at h
  split at h
  · split at h
    · exact ⟨_, _, by assumption, by assumption, by assumption, (Option.some.inj h).symm⟩
    · cases h
  · cases h
def ltB : D → D → Option Bool
  | .int i, .int j => some (decide (i < j))
  | .tup xs, .tup ys => match intsOf xs, intsOf ys with
    | some ns, some ms => some (HT.lexLt ns ms)
    | _, _ => none
  | _, _ => none
where intsOf : List D → Option (List Int)
  | [] => some []
  | .int i :: r => (intsOf r).map (i :: ·)
  | _ :: _ => none
abbrev intsOf := ltB.intsOf
theorem intsOf_map (ns : List Int) : intsOf (ns.map D.int) = some ns := by
  induction ns with
  | nil => rfl
  | cons n ns ih => show (intsOf (ns.map D.int)).map (n :: ·) = _; rw [ih]; rfl
theorem intsOf_inv : ∀ {xs : List D} {ns : List Int}, intsOf xs = some ns → xs = ns.map D.int
  | [], ns, h => by cases h; rfl
  | x :: r, ns, h => by
    cases x with
    | int i =>
      have h : (intsOf r).map (i :: ·) = some ns := h
      obtain ⟨ms, e1, e2⟩ := Option.map_eq_some_iff.mp h
      subst e2
      rw [intsOf_inv e1]; rfl
    | _ => cases h
noncomputable def memB (x y : D) : Option Bool := match y with
  | .dic _ ks vs => (dget ks vs x).map Option.isSome
  | .lst _ ys => match toP x, toPs ys with
    | some p, some q => if SeqAt.shaped p = true ∧ SeqAt.shaped (.list q) = true then some (q.any fun z => PyData.eqv z p) else none
    | _, _ => none
  | .tup ys => match toP x, toPs ys with
    | some p, some q => if SeqAt.shaped p = true ∧ SeqAt.shaped (.tuple q) = true then some (q.any fun z => PyData.eqv z p) else none
    | _, _ => none
  | _ => none
theorem memB_inv {x y : D} {b : Bool} (h : memB x y = some b) :
    (∃ t ys p q, y = .lst t ys ∧ toP x = some p ∧ toPs ys = some q ∧ (SeqAt.shaped p = true ∧ SeqAt.shaped (.list q) = true) ∧ b = q.any fun z => PyData.eqv z p) ∨
    (∃ ys p q, y = .tup ys ∧ toP x = some p ∧ toPs ys = some q ∧ (SeqAt.shaped p = true ∧ SeqAt.shaped (.tuple q) = true) ∧ b = q.any fun z => PyData.eqv z p) ∨
    (∃ t ks vs o, y = .dic t ks vs ∧ dget ks vs x = some o ∧ b = o.isSome) := by
  unfold memB at h
  split at h
  · obtain ⟨o, h1, h2⟩ := Option.map_eq_some_iff.mp h
    exact .inr (.inr ⟨_, _, _, _, rfl, h1, h2.symm⟩)
  · split at h
    · split at h
      · exact .inl ⟨_, _, _, _, rfl, by assumption, by assumption, by assumption, (Option.some.inj h).symm⟩
      · cases h
    · cases h
  · split at h
    · split at h
      · exact .inr (.inl ⟨_, _, _, rfl, by assumption, by assumption, by assumption, (Option.some.inj h).symm⟩)
      · cases h
    · cases h
  · cases h
/-- a comparison's data -/
noncomputable def cmpB (op : CmpOp) (x y : D) : Option Bool := match op with
  | .Eq => eqB x y
  | .NotEq => (eqB x y).map (!·)
  | .Lt => ltB x y
  | .LtE => match x, y with
    | .int i, .int j => some (decide (i ≤ j))
    | _, _ => none
  | .Gt => match x, y with
    | .int i, .int j => some (decide (j < i))
    | _, _ => none
  | .GtE => match x, y with
    | .int i, .int j => some (decide (j ≤ i))
    | _, _ => none
  | .Is => match y with
    | .non => some (match x with | .non => true | _ => false)
    | _ => none
  | .IsNot => match y with
    | .non => some (match x with | .non => false | _ => true)
    | _ => none
  | .In => memB x y
  | .NotIn => (memB x y).map (!·)
noncomputable def cmpD (op : CmpOp) (x y : D) : Option D := (cmpB op x y).map .bl

theorem Now.u65 {C : Cfg} {ca : Nat → Addr} {cal : Cal} {k : Nat} {X : Cx} {W : WX} {w : Wd} {ρ : Env} {M : Mem} {σ : L2.St} {H : Hp} (n : Now C ca cal k X W w ρ M σ H) : X.A.units + 65 < cLine := by
  have := n.ok.room.un
  omega

theorem op_inT {X : Cx} (hu : X.A.units + 65 < cLine) : OpR X (compareOp .In) fun x y H Q => ∃ d ds, Dp X.K H x d ∧ Dp X.K H y (.tuple ds) ∧ SeqAt.shaped d = true ∧ SeqAt.shaped (.tuple ds) = true ∧ Q (.bl (ds.any fun z => PyData.eqv z d)) H := by
  intro pins s σ H x y v u Q I rx ry h
  obtain ⟨d, ds, h1, h2, s1, s2, q⟩ := h
  obtain ⟨as, r1⟩ := Dp.reads I d x v h1 rx
  obtain ⟨bs, r2⟩ := Dp.reads I (.tuple ds) y u h2 ry
  exact SeqAt.in_tuple_reads r2 r1 (SeqAt.canLay_of_shaped s2) (SeqAt.canLay_of_shaped s1) (by
    have z := SeqAt.depth_of_shaped s1
    have := Nat.min_le_right (PyData.depthAll ds) d.depth
    omega) ⟨.bl _, H, I, rfl, q⟩
theorem op_notInT {X : Cx} (hu : X.A.units + 65 < cLine) : OpR X (compareOp .NotIn) fun x y H Q => ∃ d ds, Dp X.K H x d ∧ Dp X.K H y (.tuple ds) ∧ SeqAt.shaped d = true ∧ SeqAt.shaped (.tuple ds) = true ∧ Q (.bl (!ds.any fun z => PyData.eqv z d)) H := by
  intro pins s σ H x y v u Q I rx ry h
  obtain ⟨d, ds, h1, h2, s1, s2, q⟩ := h
  obtain ⟨as, r1⟩ := Dp.reads I d x v h1 rx
  obtain ⟨bs, r2⟩ := Dp.reads I (.tuple ds) y u h2 ry
  exact SeqAt.notIn_tuple_reads r2 r1 (SeqAt.canLay_of_shaped s2) (SeqAt.canLay_of_shaped s1) (by
    have z := SeqAt.depth_of_shaped s1
    have := Nat.min_le_right (PyData.depthAll ds) d.depth
    omega) ⟨.bl _, H, I, rfl, q⟩
theorem cmpD_inv {op : CmpOp} {x y d : D} (h : cmpD op x y = some d) : ∃ b, cmpB op x y = some b ∧ d = .bl b := by
  obtain ⟨b, e1, e2⟩ := Option.map_eq_some_iff.mp h
  exact ⟨b, e1, e2.symm⟩
theorem Rel.lstDp {K : PySem.W.Frag} {w : Wd} {M : Mem} {H : Hp} (R : Rel K w M H) {d : D} {v : V} {t : Bool} {ys : List D} {q : List PyData} (h : Rep K w d v) (e : view M d = .lst t ys) (e2 : toPs ys = some q) : Dp K H v (.list q) := by
  obtain ⟨a, vs, rfl, h1, r⟩ := R.list h e
  exact .lst (SqL.of h1) (Reps.dps R r e2)
theorem Rel.tupDp {K : PySem.W.Frag} {w : Wd} {M : Mem} {H : Hp} (R : Rel K w M H) {d : D} {v : V} {ys : List D} {q : List PyData} (h : Rep K w d v) (e : view M d = .tup ys) (e2 : toPs ys = some q) : Dp K H v (.tuple q) := by
  obtain ⟨a, vs, rfl, h1, r⟩ := R.tuple h e
  exact .tup (SqT.of h1) (Reps.dps R r e2)
theorem view_non {K : PySem.W.Frag} {w : Wd} {M : Mem} {d : D} {v : V} (h : Rep K w d v) (e : view M d = .non) : v = .non := by
  rcases view_cases M d with q | ⟨n, ys, rfl, q, q2⟩ | ⟨n, ks, vs, rfl, q, q2⟩
  · rw [q] at e; subst e; cases h; rfl
  · rw [q2] at e; cases e
  · rw [q2] at e; cases e
theorem isNon {K : PySem.W.Frag} {w : Wd} {M : Mem} {d : D} {v : V} (h : Rep K w d v) : decide (v = .non) = (match view M d with | .non => true | _ => false) := by
  rcases view_cases M d with q | ⟨n, ys, rfl, q, q2⟩ | ⟨n, ks, vs, rfl, q, q2⟩
  · rw [q]
    cases h <;> rfl
  · rw [q2]; cases h; rfl
  · rw [q2]; cases h; rfl
theorem two_ints {K : PySem.W.Frag} {w : Wd} {M : Mem} {x y : D} {vx vy : V} {i j : Int} (rx : Rep K w x vx) (ry : Rep K w y vy) (e1 : view M x = .int i) (e2 : view M y = .int j) : vx = .int i ∧ vy = .int j := ⟨view_int rx e1, view_int ry e2⟩
theorem op_inDi {X : Cx} (hu : X.A.units + 1 < cLine) : OpR X (compareOp .In) fun x y H Q => ∃ a o, y = .ref a ∧ DGet H a x o ∧ Q (.bl o.isSome) H := by
  intro pins s σ H x y v u Q I rx ry h
  obtain ⟨a, o, rfl, g, q⟩ := h
  cases ry
  exact d_in hu I g rx fun s' I' => ⟨.bl _, H, I', rfl, q⟩
theorem op_notInDi {X : Cx} (hu : X.A.units + 1 < cLine) : OpR X (compareOp .NotIn) fun x y H Q => ∃ a o, y = .ref a ∧ DGet H a x o ∧ Q (.bl (!o.isSome)) H := by
  intro pins s σ H x y v u Q I rx ry h
  obtain ⟨a, o, rfl, g, q⟩ := h
  cases ry
  exact d_notIn hu I g rx fun s' I' => ⟨.bl _, H, I', rfl, q⟩
theorem same_some {K : PySem.W.Frag} {w : Wd} {o : Option D} {ov : Option V} (h : (o = none ∧ ov = none) ∨ ∃ d v, o = some d ∧ ov = some v ∧ Rep K w d v) : ov.isSome = o.isSome := by
  rcases h with ⟨rfl, rfl⟩ | ⟨d, v, rfl, rfl, _⟩ <;> rfl
theorem ops_cmp (op : CmpOp) : OpS (compareOp op) (cmpD op) := by
  intro C ca cal k X W w ρ M σ H Q x y d vx vy n rx ry e q
  obtain ⟨b, eb, rfl⟩ := cmpD_inv e
  clear e
  have fin : Q (.bl b) H := q w H _ (.refl w) n.rel (.bl b)
  have hu := n.u65
  cases op with
  | Eq =>
    obtain ⟨p, p2, e1, e2, ⟨s1, s2⟩, rfl⟩ := eqB_inv (show eqB (view M x) (view M y) = some b from eb)
    exact OpW.of (op_eqD (by omega)) ⟨p, p2, n.rel.dpv rx e1, n.rel.dpv ry e2, s1, s2, fin⟩
  | NotEq =>
    obtain ⟨b', e', rfl⟩ := Option.map_eq_some_iff.mp (show (eqB (view M x) (view M y)).map (!·) = some b from eb)
    obtain ⟨p, p2, e1, e2, ⟨s1, s2⟩, rfl⟩ := eqB_inv e'
    exact OpW.of (op_neD (by omega)) ⟨p, p2, n.rel.dpv rx e1, n.rel.dpv ry e2, s1, s2, fin⟩
  | Lt =>
    have e : ltB (view M x) (view M y) = some b := eb
    unfold ltB at e
    split at e
    · rename_i i j e1 e2
      obtain ⟨rfl, rfl⟩ := two_ints rx ry e1 e2
      cases e
      exact OpW.of op_lt ⟨i, j, rfl, rfl, fin⟩
    · rename_i xs ys e1 e2
      split at e
      · rename_i ns ms h1 h2
        cases e
        obtain ⟨a1, v1, rfl, g1, r1⟩ := n.rel.tuple rx e1
        obtain ⟨a2, v2, rfl, g2, r2⟩ := n.rel.tuple ry e2
        rw [intsOf_inv h1] at r1
        rw [intsOf_inv h2] at r2
        have z1 := r1.ints_of
        have z2 := r2.ints_of
        subst z1 z2
        exact OpW.of (op_ltT (by omega)) ⟨a1, a2, ns, ms, rfl, rfl, SqT.of g1, SqT.of g2, fin⟩
      · cases e
    · cases e
  | LtE =>
    have e : (match view M x, view M y with | .int i, .int j => some (decide (i ≤ j)) | _, _ => none) = some b := eb
    split at e
    · rename_i i j e1 e2
      obtain ⟨rfl, rfl⟩ := two_ints rx ry e1 e2
      cases e
      exact OpW.of op_le ⟨i, j, rfl, rfl, fin⟩
    · cases e
  | Gt =>
    have e : (match view M x, view M y with | .int i, .int j => some (decide (j < i)) | _, _ => none) = some b := eb
    split at e
    · rename_i i j e1 e2
      obtain ⟨rfl, rfl⟩ := two_ints rx ry e1 e2
      cases e
      exact OpW.of op_gt ⟨i, j, rfl, rfl, fin⟩
    · cases e
  | GtE =>
    have e : (match view M x, view M y with | .int i, .int j => some (decide (j ≤ i)) | _, _ => none) = some b := eb
    split at e
    · rename_i i j e1 e2
      obtain ⟨rfl, rfl⟩ := two_ints rx ry e1 e2
      cases e
      exact OpW.of op_ge ⟨i, j, rfl, rfl, fin⟩
    · cases e
  | Is =>
    have e : (match view M y with | .non => some (match view M x with | .non => true | _ => false) | _ => none) = some b := eb
    split at e
    · rename_i e2
      have e' := Option.some.inj e
      subst e'
      have := view_non ry e2
      subst this
      exact OpW.of op_isN ⟨rfl, by rw [isNon (M := M) rx]; exact fin⟩
    · cases e
  | IsNot =>
    have e : (match view M y with | .non => some (match view M x with | .non => false | _ => true) | _ => none) = some b := eb
    split at e
    · rename_i e2
      have e' := Option.some.inj e
      subst e'
      have := view_non ry e2
      subst this
      refine OpW.of op_notN ⟨rfl, ?_⟩
      rw [isNon (M := M) rx]
      have z : (!(match view M x with | .non => true | _ => false)) = (match view M x with | .non => false | _ => true) := by cases view M x <;> rfl
      rw [z]; exact fin
    · cases e
  | In =>
    rcases memB_inv (show memB (view M x) (view M y) = some b from eb) with ⟨t, ys, p, ps, e1, e2, e3, ⟨s1, s2⟩, rfl⟩ | ⟨ys, p, ps, e1, e2, e3, ⟨s1, s2⟩, rfl⟩ | ⟨t, ks, vs, o, e1, e2, rfl⟩
    · exact OpW.of (op_inD hu) ⟨p, ps, n.rel.dpv rx e2, n.rel.lstDp ry e1 e3, s1, s2, fin⟩
    · exact OpW.of (op_inT hu) ⟨p, ps, n.rel.dpv rx e2, n.rel.tupDp ry e1 e3, s1, s2, fin⟩
    · obtain ⟨a, ov, rfl, g, hh⟩ := n.rel.dget ry e1 rx e2
      exact OpW.of (op_inDi (by omega)) ⟨a, ov, rfl, g, by rw [same_some hh]; exact fin⟩
  | NotIn =>
    obtain ⟨b', e', rfl⟩ := Option.map_eq_some_iff.mp (show (memB (view M x) (view M y)).map (!·) = some b from eb)
    rcases memB_inv e' with ⟨t, ys, p, ps, e1, e2, e3, ⟨s1, s2⟩, rfl⟩ | ⟨ys, p, ps, e1, e2, e3, ⟨s1, s2⟩, rfl⟩ | ⟨t, ks, vs, o, e1, e2, rfl⟩
    · exact OpW.of (op_notInD hu) ⟨p, ps, n.rel.dpv rx e2, n.rel.lstDp ry e1 e3, s1, s2, fin⟩
    · exact OpW.of (op_notInT hu) ⟨p, ps, n.rel.dpv rx e2, n.rel.tupDp ry e1 e3, s1, s2, fin⟩
    · obtain ⟨a, ov, rfl, g, hh⟩ := n.rel.dget ry e1 rx e2
      exact OpW.of (op_notInDi (by omega)) ⟨a, ov, rfl, g, by rw [same_some hh]; exact fin⟩
section
variable {C : Cfg} {pos : Pos} {a b c : Expr} {f g h : Den}
theorem se_cmp {op : CmpOp} (ha : SE C a f) (hb : SE C b g) (hm : behindInMarks op b = false) : SE C (.Compare a [op] [b] pos) (cBin (cmpD op) f g) := by
  intro ca cal k X W w ρ M σ H Q n q
  refine WE.of (pe_cmpR opR_w pe_we pe_we hm) ?_
  refine ha n (Gd.bind q fun x M1 w1 H1 vx l1 R1 r1 q1 => ?_)
  refine hb (n.up l1 R1) (Gd.bind q1 fun y M2 w2 H2 vy l2 R2 r2 q2 => ?_)
  obtain ⟨d, e, q3⟩ := Gd.opt' q2
  exact ops_cmp op ((n.up l1 R1).up l2 R2) (r1.up l2) r2 e q3
noncomputable def tCmp (op : CmpOp) (f g : Den) : DenB := fun cal ρ M => (f cal ρ M).bind fun x M1 => (g cal ρ M1).bind fun y M2 => R.opt (cmpB op (view M2 x) (view M2 y)) M2
theorem st_cmp {op : CmpOp} (ha : SE C a f) (hb : SE C b g) (hm : behindInMarks op b = false) : ST C (.Compare a [op] [b] pos) (tCmp op f g) := by
  intro ca cal k X W w ρ M σ H Q n q
  refine WT.of (pt_cmpR opR_w pe_we pe_we hm) ?_
  refine ha n (Gd.bind q fun x M1 w1 H1 vx l1 R1 r1 q1 => ?_)
  refine hb (n.up l1 R1) (Gd.bind q1 fun y M2 w2 H2 vy l2 R2 r2 q2 => ?_)
  obtain ⟨t, e, q3⟩ := Gd.opt q2
  refine ops_cmp op ((n.up l1 R1).up l2 R2) (r1.up l2) r2 (show cmpD op (view M2 x) (view M2 y) = some (.bl t) by unfold cmpD; rw [e]; rfl) fun w' H' v l3 R3 r3 => ?_
  cases r3
  exact ⟨t, rfl, q3 w' H' t l3 R3 rfl⟩
/-- expressions whose truth is that of their value -/
def plainT : Expr → Bool
  | .UnaryOp .Not _ _ => false
  | .BoolOp _ _ _ => false
  | .IfExp _ _ _ _ => false
  | .Compare _ _ _ _ => false
  | _ => true
theorem plainT_is {e : Expr} (h : plainT e = true) (env : PySem.Env) (whole : Sem Value) : isTrue e env whole = (do let v ← whole; standAt e.pos; holding [v] (truthy v)) := by
  cases e with
  | UnaryOp op x p => cases op <;> first | rfl | cases h
  | BoolOp _ _ _ => cases h
  | IfExp _ _ _ _ => cases h
  | Compare _ _ _ _ => cases h
  | _ => rfl
/-- truth -/
def truB : D → Option Bool
  | .non => some false
  | .bl b => some b
  | .int i => some (i != 0)
  | .str s => if s.length ≤ sizeLine then some ((s.length : Int) != 0) else none
  | .lst _ xs => some (!xs.isEmpty)
  | .tup xs => some (!xs.isEmpty)
  | _ => none
def tTru (f : Den) : DenB := fun cal ρ M => (f cal ρ M).bind fun d M1 => R.opt (truB (view M1 d)) M1
theorem isEmpty_reps {K : PySem.W.Frag} {w : Wd} {xs : List D} {vs : List V} (r : Reps K w xs vs) : xs.isEmpty = vs.isEmpty := by cases r <;> rfl
theorem truB_of {K : PySem.W.Frag} {w : Wd} {M : Mem} {H : Hp} (R : Rel K w M H) {d : D} {v : V} {b : Bool} (h : Rep K w d v) (e : truB (view M d) = some b) : TruV K v H b := by
  unfold truB at e
  split at e
  · rename_i e1; rw [view_non h e1]; cases e; rfl
  · rename_i e1; rw [view_bl h e1]; cases e; rfl
  · rename_i e1; rw [view_int h e1]; cases e; rfl
  · rename_i e1
    rw [view_str h e1]
    split at e
    · cases e; exact ⟨by assumption, rfl⟩
    · cases e
  · rename_i e1
    obtain ⟨a, vs, rfl, h1, r⟩ := R.list h e1
    cases e
    exact .inl ⟨vs, SqL.of h1, by rw [isEmpty_reps r]⟩
  · rename_i e1
    obtain ⟨a, vs, rfl, h1, r⟩ := R.tuple h e1
    cases e
    exact .inr (.inl ⟨vs, SqT.of h1, by rw [isEmpty_reps r]⟩)
  · cases e
theorem st_plain (ha : SE C a f) (hp : plainT a = true) : ST C a (tTru f) := by
  intro ca cal k X W w ρ M σ H Q n q
  refine WT.of (pt_truth pe_we fun whole => plainT_is hp X.env whole) ?_
  refine ha n (Gd.bind q fun x M1 w1 H1 vx l1 R1 r1 q1 => ?_)
  obtain ⟨b, e, q2⟩ := Gd.opt q1
  exact ⟨b, truB_of R1 r1 e, q2.ok R1 rfl⟩
def tNot (f : DenB) : DenB := fun cal ρ M => (f cal ρ M).bind fun b M1 => .ok (!b) M1
theorem st_not {f : DenB} (ha : ST C a f) : ST C (.UnaryOp .Not a pos) (tNot f) := by
  intro ca cal k X W w ρ M σ H Q n q
  refine WT.of (pt_not pt_wt) ?_
  refine ha n (Gd.bind q fun x M1 w1 H1 vx l1 R1 r1 q1 => ?_)
  subst r1
  exact q1.ok R1 rfl
def tAnd (f g : DenB) : DenB := fun cal ρ M => (f cal ρ M).bind fun b M1 => if b = true then g cal ρ M1 else .ok false M1
def tOr (f g : DenB) : DenB := fun cal ρ M => (f cal ρ M).bind fun b M1 => if b = true then .ok true M1 else g cal ρ M1
theorem sw_and1 {f : DenB} (ha : ST C a f) : SW C (.BoolOp .And [a] pos) f := fun n q => WW.of (pw_and1 pt_wt) (ha n q)
theorem sw_or1 {f : DenB} (ha : ST C a f) : SW C (.BoolOp .Or [a] pos) f := fun n q => WW.of (pw_or1 pt_wt) (ha n q)
theorem sw_and {f g : DenB} {rest : List Expr} (ha : ST C a f) (hb : SW C (.BoolOp .And (b :: rest) pos) g) : SW C (.BoolOp .And (a :: b :: rest) pos) (tAnd f g) := by
  intro ca cal k X W w ρ M σ H Q n q
  refine WW.of (pw_and pt_wt pw_ww) ?_
  refine ha n (Gd.bind q fun x M1 w1 H1 vx l1 R1 r1 q1 => ?_)
  subst r1
  cases x with
  | true => exact hb (n.up l1 R1) q1
  | false => exact q1.ok R1 rfl
theorem sw_or {f g : DenB} {rest : List Expr} (ha : ST C a f) (hb : SW C (.BoolOp .Or (b :: rest) pos) g) : SW C (.BoolOp .Or (a :: b :: rest) pos) (tOr f g) := by
  intro ca cal k X W w ρ M σ H Q n q
  refine WW.of (pw_or pt_wt pw_ww) ?_
  refine ha n (Gd.bind q fun x M1 w1 H1 vx l1 R1 r1 q1 => ?_)
  subst r1
  cases x with
  | true => exact q1.ok R1 rfl
  | false => exact hb (n.up l1 R1) q1
theorem st_w {f : DenB} (h : SW C a f) : ST C a f := fun n q => WT.of (PW.pt pw_ww) (h n q)
/-- as values: truths alone -/
def cAnd (f g : Den) : Den := fun cal ρ M => (f cal ρ M).bind fun d M1 => match d with
  | .bl true => g cal ρ M1
  | .bl false => .ok (.bl false) M1
  | _ => .bad
def cOr (f g : Den) : Den := fun cal ρ M => (f cal ρ M).bind fun d M1 => match d with
  | .bl true => .ok (.bl true) M1
  | .bl false => g cal ρ M1
  | _ => .bad
def cNot (f : Den) : Den := fun cal ρ M => (f cal ρ M).bind fun d M1 => match d with
  | .bl b => .ok (.bl (!b)) M1
  | _ => .bad
theorem se_one {op : BoolOp} (ha : SE C a f) : SE C (.BoolOp op [a] pos) f := fun n q => WE.of (pe_one pe_we) (ha n q)
theorem se_and {rest : List Expr} (ha : SE C a f) (hb : SE C (.BoolOp .And (b :: rest) pos) g) : SE C (.BoolOp .And (a :: b :: rest) pos) (cAnd f g) := by
  intro ca cal k X W w ρ M σ H Q n q
  refine WE.of (pe_and pe_we pe_we) ?_
  refine ha n (Gd.bind q fun x M1 w1 H1 vx l1 R1 r1 q1 => ?_)
  cases r1 with
  | bl t => cases t with
    | true => exact ⟨true, rfl, hb (n.up l1 R1) q1⟩
    | false => exact ⟨false, rfl, Gd.ok q1 R1 (.bl false)⟩
  | _ => exact False.elim q1
theorem se_or {rest : List Expr} (ha : SE C a f) (hb : SE C (.BoolOp .Or (b :: rest) pos) g) : SE C (.BoolOp .Or (a :: b :: rest) pos) (cOr f g) := by
  intro ca cal k X W w ρ M σ H Q n q
  refine WE.of (pe_or pe_we pe_we) ?_
  refine ha n (Gd.bind q fun x M1 w1 H1 vx l1 R1 r1 q1 => ?_)
  cases r1 with
  | bl t => cases t with
    | true => exact ⟨true, rfl, Gd.ok q1 R1 (.bl true)⟩
    | false => exact ⟨false, rfl, hb (n.up l1 R1) q1⟩
  | _ => exact False.elim q1
theorem se_not (ha : SE C a f) : SE C (.UnaryOp .Not a pos) (cNot f) := by
  intro ca cal k X W w ρ M σ H Q n q
  refine WE.of (pe_not pe_we) ?_
  refine ha n (Gd.bind q fun x M1 w1 H1 vx l1 R1 r1 q1 => ?_)
  cases r1 with
  | bl t => exact ⟨t, rfl, Gd.ok q1 R1 (.bl _)⟩
  | _ => exact False.elim q1
def cIf (t : DenB) (f g : Den) : Den := fun cal ρ M => (t cal ρ M).bind fun b M1 => if b = true then f cal ρ M1 else g cal ρ M1
theorem se_if {t : DenB} (hc : ST C c t) (ha : SE C a f) (hb : SE C b g) : SE C (.IfExp c a b pos) (cIf t f g) := by
  intro ca cal k X W w ρ M σ H Q n q
  refine WE.of (pe_ifExp pt_wt pe_we pe_we) ?_
  refine hc n (Gd.bind q fun x M1 w1 H1 vx l1 R1 r1 q1 => ?_)
  subst r1
  cases x with
  | true => exact ha (n.up l1 R1) q1
  | false => exact hb (n.up l1 R1) q1
/-- a op b op' c -/
noncomputable def cChain (op op' : CmpOp) (f g h : Den) : Den := fun cal ρ M => (f cal ρ M).bind fun x M1 => (g cal ρ M1).bind fun y M2 => (R.opt (cmpB op (view M2 x) (view M2 y)) M2).bind fun t M3 =>
  if t = true then (h cal ρ M3).bind fun z M4 => R.opt (cmpD op' (view M4 y) (view M4 z)) M4 else .ok (.bl false) M3
theorem Gd.chain {W : WX} {σ : L2.St} {Q : VK} {op op' : CmpOp} {C : Cfg} {ca : Nat → Addr} {cal : Cal} {k : Nat} {X : Cx} {w : Wd} {ρ : Env} {M : Mem} {H : Hp} (ha : SE C a f) (hb : SE C b g) (hc : SE C c h)
    (n : Now C ca cal k X W w ρ M σ H) (q : Gd X.K w W σ (Rep X.K) Q (cChain op op' f g h cal ρ M)) : tChain (OpW X (compareOp op)) (OpW X (compareOp op')) (WE X a) (WE X b) (WE X c) σ H Q := by
  refine ha n (Gd.bind q fun x M1 w1 H1 vx l1 R1 r1 q1 => ?_)
  refine hb (n.up l1 R1) (Gd.bind q1 fun y M2 w2 H2 vy l2 R2 r2 q2 => ?_)
  have n2 := (n.up l1 R1).up l2 R2
  cases e : cmpB op (view M2 x) (view M2 y) with
  | none => rw [e] at q2; exact False.elim q2
  | some t =>
    rw [e] at q2
    refine ops_cmp op n2 (r1.up l2) r2 (show cmpD op (view M2 x) (view M2 y) = some (.bl t) by unfold cmpD; rw [e]; rfl) fun w3 H3 v l3 R3 r3 => ?_
    cases r3
    refine ⟨t, rfl, ?_⟩
    have q3 := q2.up l3
    cases t with
    | false => exact Gd.ok q3 R3 (.bl false)
    | true =>
      refine hc (n2.up l3 R3) (Gd.bind q3 fun z M4 w4 H4 vz l4 R4 r4 q4 => ?_)
      obtain ⟨d, e4, q5⟩ := Gd.opt' q4
      exact ops_cmp op' ((n2.up l3 R3).up l4 R4) ((r2.up l3).up l4) r4 e4 q5
theorem se_chain {op op' : CmpOp} (ha : SE C a f) (hb : SE C b g) (hc : SE C c h) (hm : lastMarks [op, op'] [b, c] = false) : SE C (.Compare a [op, op'] [b, c] pos) (cChain op op' f g h) :=
  fun n q => WE.of (pe_chain opR_w opR_w pe_we pe_we pe_we hm) (Gd.chain ha hb hc n q)
noncomputable def tChn (op op' : CmpOp) (f g h : Den) : DenB := fun cal ρ M => (f cal ρ M).bind fun x M1 => (g cal ρ M1).bind fun y M2 => (R.opt (cmpB op (view M2 x) (view M2 y)) M2).bind fun t M3 =>
  if t = true then (h cal ρ M3).bind fun z M4 => R.opt (cmpB op' (view M4 y) (view M4 z)) M4 else .ok false M3
theorem st_chain {op op' : CmpOp} (ha : SE C a f) (hb : SE C b g) (hc : SE C c h) (hm : lastMarks [op, op'] [b, c] = false) : ST C (.Compare a [op, op'] [b, c] pos) (tChn op op' f g h) := by
  intro ca cal k X W w ρ M σ H Q n q
  refine WT.of (pt_chain opR_w opR_w pe_we pe_we pe_we hm) ?_
  refine ha n (Gd.bind q fun x M1 w1 H1 vx l1 R1 r1 q1 => ?_)
  refine hb (n.up l1 R1) (Gd.bind q1 fun y M2 w2 H2 vy l2 R2 r2 q2 => ?_)
  have n2 := (n.up l1 R1).up l2 R2
  cases e : cmpB op (view M2 x) (view M2 y) with
  | none => rw [e] at q2; exact False.elim q2
  | some t =>
    rw [e] at q2
    refine ops_cmp op n2 (r1.up l2) r2 (show cmpD op (view M2 x) (view M2 y) = some (.bl t) by unfold cmpD; rw [e]; rfl) fun w3 H3 v l3 R3 r3 => ?_
    cases r3
    refine ⟨t, rfl, ?_⟩
    have q3 := Gd.up q2 l3
    cases t with
    | false => exact ⟨false, rfl, Gd.ok q3 R3 rfl⟩
    | true =>
      refine hc (n2.up l3 R3) (Gd.bind q3 fun z M4 w4 H4 vz l4 R4 r4 q4 => ?_)
      obtain ⟨t', e4, q5⟩ := Gd.opt q4
      refine ops_cmp op' ((n2.up l3 R3).up l4 R4) ((r2.up l3).up l4) r4 (show cmpD op' (view M4 y) (view M4 z) = some (.bl t') by unfold cmpD; rw [e4]; rfl) fun w5 H5 v l5 R5 r5 => ?_
      cases r5
      exact ⟨t', rfl, q5 w5 H5 t' l5 R5 rfl⟩
end
end Vm

namespace Vm
open PySem PySem.Spec L2

abbrev Wd.cel (w : Wd) (p : Addr) (bs : List Addr) : Wd := { w with mu := w.mu ++ [p], nu := w.nu ++ [bs] }
def newC (c : Cell) (M : Mem) : R D := if c.fr = true then .ok (.ref M.length) (M ++ [c]) else .bad
def newL (bx : Bool) (xs : List D) (M : Mem) : R D := if bx = true then newC (.lst xs) M else .ok (.lst false xs) M
section
variable {K : PySem.W.Frag} {w : Wd} {M : Mem} {H : Hp}
theorem Rel.celLe (w : Wd) (p : Addr) (bs : List Addr) : w.Le (w.cel p bs) := ⟨fun _ _ h => h, fun _ _ h => h, fun _ _ h => h, fun _ h => .inl h, fun _ h => .inl h, ⟨[p], rfl⟩, rfl, rfl⟩
theorem last_of {α : Type} {l : List α} {x y : α} {n : Nat} (h : (l ++ [x])[n]? = some y) (hn : ¬ n < l.length) : n = l.length ∧ y = x := by
  have h1 := (List.getElem?_eq_some_iff.mp h).1
  rw [List.length_append, List.length_singleton] at h1
  have e : n = l.length := by omega
  subst e
  rw [List.getElem?_concat_length] at h
  exact ⟨rfl, (Option.some.inj h).symm⟩
/-- a new object that is a cell -/
theorem Rel.cel (R : Rel K w M H) {p : Addr} {o : HO} {c : Cell} (hp : H p = none) (hf : c.fr = true) (hc : CellR K (w.cel p []) (upd H p o) p [] c) : Rel K (w.cel p []) (M ++ [c]) (upd H p o) := by
  obtain ⟨nm, nn⟩ := R.notMu hp
  have nB := (R.noneG hp).1
  have hl := R.len
  have hl2 := R.len2
  have flat : (w.nu ++ [([] : List Addr)]).flatten = w.nu.flatten := by simp
  refine ⟨R.gb, R.bf, fun a u e hk => ?_, fun a u e hk => ?_, R.lkB, ?_, ?_, ?_, fun a ha => ?_, fun a ha => ?_, fun c' hc' => ?_, fun n c' a bs h1 h2 h3 => ?_⟩
  · have h : a ≠ p := fun z => by subst z; rw [nB] at e; cases e
    rw [upd_ne h]; exact R.bh a u e hk
  · have h : a ≠ p := fun z => by subst z; rw [nB] at e; cases e
    obtain ⟨d, ob, q⟩ := R.bl a u e hk
    exact ⟨d, ob, by rw [upd_ne h]; exact q⟩
  · rw [List.length_append, List.length_append, R.len]; rfl
  · rw [List.length_append, List.length_append, R.len2]; rfl
  · show (w.mu ++ [p] ++ (w.nu ++ [([] : List Addr)]).flatten).Nodup
    rw [flat, List.append_assoc, List.singleton_append]
    have z := R.nd
    rw [List.nodup_append] at z ⊢
    refine ⟨z.1, List.nodup_cons.mpr ⟨nn, z.2.1⟩, fun x hx y hy => ?_⟩
    rcases List.mem_cons.mp hy with rfl | hy
    · exact fun q => nm (q ▸ hx)
    · exact z.2.2 x hx y hy
  · rcases List.mem_append.mp ha with h | h
    · exact R.off a h
    · rw [List.mem_singleton.mp h]; exact nB
  · rw [show (w.cel p []).nu.flatten = w.nu.flatten from flat] at ha
    exact R.off2 a ha
  · rcases List.mem_append.mp hc' with h | h
    · exact R.fr c' h
    · rw [List.mem_singleton.mp h]; exact hf
  · by_cases hn : n < w.mu.length
    · rw [List.getElem?_append_left hn] at h2
      rw [List.getElem?_append_left (by rw [← hl]; exact hn)] at h1
      rw [List.getElem?_append_left (by rw [hl2, ← hl]; exact hn)] at h3
      have h : a ≠ p := fun z => nm (by rw [← z]; exact List.mem_of_getElem? h2)
      exact (R.cell n c' a bs h1 h2 h3).up (Rel.celLe w p []) (upd_ne h) fun b hb => upd_ne fun z => nn (by rw [← z]; exact mem_flat h3 hb)
    · obtain ⟨_, rfl⟩ := last_of h2 hn
      obtain ⟨_, rfl⟩ := last_of h1 (by rw [← hl]; exact hn)
      obtain ⟨_, rfl⟩ := last_of h3 (by rw [hl2, ← hl]; exact hn)
      exact hc
theorem Gd.newC {W : WX} {σ : L2.St} {Q : VK} {c : Cell} (g : Gd K w W σ (Rep K) Q (newC c M)) (R : Rel K w M H) {p : Addr} {o : HO} (hp : H p = none) (hc : CellR K w (upd H p o) p [] c) : Q (.ref p) (upd H p o) := by
  unfold Vm.newC at g
  by_cases hf : c.fr = true
  · rw [if_pos hf] at g
    have l := Rel.celLe w p []
    refine g (w.cel p []) _ _ l (R.cel hp hf (hc.up l rfl fun _ _ => rfl)) (.ref ?_)
    rw [← R.len]
    exact List.getElem?_concat_length ..
  · rw [if_neg hf] at g; exact False.elim g
theorem Gd.newL {W : WX} {σ : L2.St} {Q : VK} {bx : Bool} {xs : List D} (g : Gd K w W σ (Rep K) Q (newL bx xs M)) (R : Rel K w M H) {vs : List V} (r : Reps K w xs vs) {p : Addr} (hp : H p = none) : Q (.ref p) (upd H p (.lst vs)) := by
  cases bx with
  | true => exact Gd.newC (show Gd K w W σ (Rep K) Q (Vm.newC (.lst xs) M) from g) R hp (.lst upd_same r)
  | false =>
    have l := R.addLe (o := .lst vs) hp
    exact g _ _ _ l (R.add hp) (.lst (t := false) upd_same (r.up l))
theorem Gd.newT {W : WX} {σ : L2.St} {Q : VK} {xs : List D} (g : Gd K w W σ (Rep K) Q (R.ok (.tup xs) M)) (R : Rel K w M H) {vs : List V} (r : Reps K w xs vs) {p : Addr} (hp : H p = none) : Q (.ref p) (upd H p (.tup vs)) := by
  have l := R.addLe (o := .tup vs) hp
  exact g _ _ _ l (R.add hp) (.tup upd_same (r.up l))
end

def aNil : Dens := fun _ _ M => .ok [] M
def aCons (f : Den) (g : Dens) : Dens := fun cal ρ M => (f cal ρ M).bind fun d M1 => (g cal ρ M1).bind fun ds M2 => .ok (d :: ds) M2
def noStar : Expr → Bool
  | .Starred _ _ => false
  | _ => true
theorem starEach_cons {e : Expr} (h : noStar e = true) (es : List Expr) (env : PySem.Env) : starEach (e :: es) env = (false, eval e env) :: starEach es env := by
  cases e with
  | Starred _ _ => cases h
  | _ => rfl
theorem starEach_any {es : List Expr} (h : es.all noStar = true) (env : PySem.Env) (pos : Pos) : (backTo pos (starEach es env)).any (·.1) = false := by
  induction es with
  | nil => rfl
  | cons e es ih =>
    rw [List.all_cons, Bool.and_eq_true] at h
    rw [starEach_cons h.1]
    show (false || (backTo pos (starEach es env)).any (·.1)) = false
    rw [ih h.2]; rfl
section
variable {C : Cfg} {pos : Pos} {a b e : Expr} {es : List Expr} {f g : Den} {fs : Dens}
theorem sa_nil : SA C [] aNil := fun n q => WA.of pa_nil (Gd.ok q n.rel .nil)
theorem sa_cons (hs : noStar e = true) (ha : SE C e f) (hb : SA C es fs) : SA C (e :: es) (aCons f fs) := by
  intro ca cal k X W w ρ M σ H Q n q
  refine WA.of (pa_cons pe_we pa_wa (starEach_cons hs es X.env)) ?_
  refine ha n (Gd.bind q fun x M1 w1 H1 vx l1 R1 r1 q1 => ?_)
  refine hb (n.up l1 R1) (Gd.bind q1 fun y M2 w2 H2 vy l2 R2 r2 q2 => ?_)
  exact Gd.ok q2 R2 (.cons (r1.up l2) r2)
def cTup (fs : Dens) : Den := fun cal ρ M => (fs cal ρ M).bind fun ds M1 => if ds.length ≤ sizeLine then .ok (.tup ds) M1 else .bad
theorem se_tup {j : Nat} (ha : SA C es fs) : SE C (.Tuple es j pos) (cTup fs) := by
  intro ca cal k X W w ρ M σ H Q n q
  refine WE.of (pe_tup pa_wa) ?_
  refine ha n (Gd.bind q fun ds M1 w1 H1 vs l1 R1 r1 q1 => ?_)
  by_cases h : ds.length ≤ sizeLine
  · rw [if_pos h] at q1
    exact ⟨by rw [← r1.length]; exact h, fun p hp => Gd.newT q1 R1 r1 hp⟩
  · rw [if_neg h] at q1; exact False.elim q1
def cLst (bx : Bool) (fs : Dens) : Den := fun cal ρ M => (fs cal ρ M).bind fun ds M1 => if ds.length ≤ sizeLine then newL bx ds M1 else .bad
theorem se_lst {bx : Bool} (ha : SA C es fs) : SE C (.List es pos) (cLst bx fs) := by
  intro ca cal k X W w ρ M σ H Q n q
  refine WE.of (pe_lst pa_wa) ?_
  refine ha n (Gd.bind q fun ds M1 w1 H1 vs l1 R1 r1 q1 => ?_)
  by_cases h : ds.length ≤ sizeLine
  · rw [if_pos h] at q1
    exact ⟨by rw [← r1.length]; exact h, fun p hp => Gd.newL q1 R1 r1 hp⟩
  · rw [if_neg h] at q1; exact False.elim q1
/-- list + list, the new one as data or as a cell -/
def cCat (f g : Den) : Den := fun cal ρ M => (f cal ρ M).bind fun x M1 => (g cal ρ M1).bind fun y M2 => match view M2 x, view M2 y with
  | .lst _ xs, .lst _ ys => if xs.length + ys.length ≤ sizeLine then newL true (xs ++ ys) M2 else .bad
  | _, _ => .bad
theorem se_cat (ha : SE C a f) (hb : SE C b g) : SE C (.BinOp a .Add b pos) (cCat f g) := by
  intro ca cal k X W w ρ M σ H Q n q
  refine WE.of (pe_op opR_w pe_we pe_we) ?_
  refine ha n (Gd.bind q fun x M1 w1 H1 vx l1 R1 r1 q1 => ?_)
  refine hb (n.up l1 R1) (Gd.bind q1 fun y M2 w2 H2 vy l2 R2 r2 q2 => ?_)
  have n2 := (n.up l1 R1).up l2 R2
  split at q2
  · rename_i t xs u ys e1 e2
    split at q2
    · rename_i hz
      obtain ⟨a1, v1, rfl, g1, s1⟩ := R2.list (r1.up l2) e1
      obtain ⟨a2, v2, rfl, g2, s2⟩ := R2.list r2 e2
      exact OpW.of op_cat ⟨a1, a2, v1, v2, rfl, rfl, g1, g2, by rw [← s1.length, ← s2.length]; exact hz, fun p hp => Gd.newL q2 R2 (s1.append s2) hp⟩
    · exact False.elim q2
  · exact False.elim q2

/-- the item at a place of any sign -/
def atD : List D → Int → Option D := atI
noncomputable def ixD : D → D → Option D
  | .lst _ xs, .int i => atD xs i
  | .tup xs, .int i => atD xs i
  | .str z, .int i => if z.length ≤ sizeLine then (atI z.cps.toList i).map fun c => .str ⟨#[c]⟩ else none
  | .dic _ ks vs, y => match dget ks vs y with
    | some o => o
    | none => none
  | _, _ => none
theorem Reps.at {K : PySem.W.Frag} {w : Wd} {xs : List D} {vs : List V} {i : Int} {d : D} (r : Reps K w xs vs) (h : atD xs i = some d) : ∃ v, atI vs i = some v ∧ Rep K w d v := by
  unfold atD atI at *
  rw [← r.length]
  cases e : ixN xs.length i with
  | none => rw [e] at h; cases h
  | some j =>
    rw [e] at h
    obtain ⟨v, h1, h2⟩ := r.get (i := j) (d := d) h
    exact ⟨v, h1, h2⟩
/-- a subscript by values -/
def IxW (X : Cx) : R2 := fun x y H Q => ∀ (value slice : Expr) pins s σ v u, Inv X pins σ H s → RelV x v → RelV y u → subscripted slice false v u = operate [v, u] (getItem v u) → wpAny (model X.prog X.w) X.A (PyProof.Rows.subscriptTail value slice v u) (EP X pins σ Q) X.xe s
theorem ixR_w {X : Cx} : IxR X (IxW X) := fun value slice pins s σ H x y v u Q I rx ry h hs => h value slice pins s σ v u I rx ry hs
theorem IxW.of {X : Cx} {r : R2} (h : IxR X r) {x y : V} {H : Hp} {Q : VK} (q : r x y H Q) : IxW X x y H Q := fun value slice pins s σ v u I rx ry hs => h value slice pins s σ H x y v u Q I rx ry q hs
def plainIx : Expr → Bool
  | .Slice _ _ _ _ => false
  | _ => true
theorem plainIx_is {b : Expr} (h : plainIx b = true) : PlainIx b := by
  cases b with
  | Slice _ _ _ _ => cases h
  | _ => exact fun _ _ => rfl
/-- d[y], there -/
theorem ix_dic {X : Cx} (hu : X.A.units + 1 < cLine) : IxR X (fun x y H Q => ∃ a v, x = .ref a ∧ DGet H a y (some v) ∧ Q v H) := by
  intro value slice pins s σ H x y v u Q I rx ry h hs
  obtain ⟨a, z, rfl, g, q⟩ := h
  cases rx
  have hT := dict_typeIs I g
  unfold PyProof.Rows.subscriptTail
  refine wpAny_bind ?_
  rw [getitemInPython_of_ne hT.not_modules]
  refine wpAny_bind (wpAny_specialOf hT PySem.F.slot_dict_getitem.lookup ?_)
  have fin : wpAny (model X.prog X.w) X.A (subscripted slice false (.ref a) u) (fun r s₃ => wpAny (model X.prog X.w) X.A (letTemporaryGo value (.ref a) r >>= fun _ => pure r) (EP X pins σ Q) X.xe s₃) X.xe s := by
    rw [hs]
    refine wpAny_operating (wpAny_mono (d_getItem hu I g ry fun w' s3 I3 rw' => (⟨z, H, I3, rw', q⟩ : EP X pins σ Q w' s3)) (fun r s₃ h₃ => wpAny_bind (wpAny_letTemporaryGo (wpAny_pure h₃))) fun _ _ x => x)
  first
    | exact wpAny_pure (wpAny_bind fin)
    | exact wpAny_bind (wpAny_pure (wpAny_bind fin))
    | exact wpAny_bind fin
theorem ixD_ok {X : Cx} {w : Wd} {M : Mem} {H : Hp} {Q : VK} {x y d : D} {vx vy : V} (hu : X.A.units + 1 < cLine) (R : Rel X.K w M H) (rx : Rep X.K w x vx) (ry : Rep X.K w y vy) (e : ixD (view M x) (view M y) = some d) (q : ∀ v, Rep X.K w d v → Q v H) : IxW X vx vy H Q := by
  unfold ixD at e
  split at e
  · rename_i t xs i e1 e2
    obtain ⟨a, vs, rfl, h1, r⟩ := R.list rx e1
    rw [view_int ry e2]
    obtain ⟨v, h2, r2⟩ := r.at e
    exact IxW.of ix_list ⟨a, vs, i, v, rfl, rfl, SqL.of h1, h2, q v r2⟩
  · rename_i xs i e1 e2
    obtain ⟨a, vs, rfl, h1, r⟩ := R.tuple rx e1
    rw [view_int ry e2]
    obtain ⟨v, h2, r2⟩ := r.at e
    exact IxW.of ix_tup ⟨a, vs, i, v, rfl, rfl, SqT.of h1, h2, q v r2⟩
  · rename_i z i e1 e2
    rw [view_str rx e1, view_int ry e2]
    split at e
    · rename_i hz
      obtain ⟨c, h1, h2⟩ := Option.map_eq_some_iff.mp e
      subst h2
      exact IxW.of ix_str ⟨z, i, c, rfl, rfl, hz, h1, q _ (.str _)⟩
    · cases e
  · rename_i t ks vs e1
    split at e
    · rename_i o eo
      subst e
      obtain ⟨a, ov, rfl, g, hh⟩ := R.dget rx e1 ry eo
      rcases hh with ⟨z, _⟩ | ⟨d', v', z1, rfl, r⟩
      · cases z
      · cases z1
        exact IxW.of (ix_dic hu) ⟨a, v', rfl, g, q v' r⟩
    · cases e
  · cases e
noncomputable def cIx (f g : Den) : Den := cBin ixD f g
theorem se_ix (hp : plainIx b = true) (ha : SE C a f) (hb : SE C b g) : SE C (.Subscript a b pos) (cIx f g) := by
  intro ca cal k X W w ρ M σ H Q n q
  refine WE.of (pe_ix ixR_w pe_we pe_we (plainIx_is hp)) ?_
  refine ha n (Gd.bind q fun x M1 w1 H1 vx l1 R1 r1 q1 => ?_)
  refine hb (n.up l1 R1) (Gd.bind q1 fun y M2 w2 H2 vy l2 R2 r2 q2 => ?_)
  obtain ⟨d, e, q3⟩ := Gd.opt' q2
  exact ixD_ok (by have := n.ok.room.un; omega) R2 (r1.up l2) r2 e fun v r => q3 w2 H2 v (.refl w2) R2 r

def cutD (xs : List D) (lo hi : Option Int) : List D := (xs.drop (HT.sIx xs.length 0 lo)).take (HT.sIx xs.length xs.length hi - HT.sIx xs.length 0 lo)
theorem Reps.cut {K : PySem.W.Frag} {w : Wd} {xs : List D} {vs : List V} (r : Reps K w xs vs) (lo hi : Option Int) : Reps K w (cutD xs lo hi) (cutV vs lo hi) := by
  unfold cutD cutV
  rw [← r.length]
  exact (r.drop _).take _
/-- the bounds of a slice -/
abbrev DenO := Cal → Env → Mem → R (Option Int)
def oNone : DenO := fun _ _ M => .ok none M
def oSome (f : Den) : DenO := fun cal ρ M => (f cal ρ M).bind fun d M1 => match d with
  | .int i => .ok (some i) M1
  | _ => .bad
def SO (C : Cfg) (e : Option Expr) (f : DenO) : Prop := ∀ {ca : Nat → Addr} {cal : Cal} {k : Nat} {X : Cx} {W : WX} {w : Wd} {ρ : Env} {M : Mem} {σ : L2.St} {H : Hp} {Q : Option Int → Hp → Prop},
  Now C ca cal k X W w ρ M σ H → Gd X.K w W σ (fun _ a b => a = b) Q (f cal ρ M) → ∀ pins s, Inv X pins σ H s → wpAny (model X.prog X.w) X.A (evalPart e X.env) (fun u s' => ∃ o H', Inv X pins σ H' s' ∧ IsPart u o ∧ Q o H') X.xe s
theorem so_none : SO C none oNone := fun n q pins s I => (po_none).run pins s _ _ _ I (Gd.ok q n.rel rfl)
theorem so_some (ha : SE C a f) : SO C (some a) (oSome f) := by
  intro ca cal k X W w ρ M σ H Q n q pins s I
  refine (po_some pe_we).run pins s _ _ _ I ?_
  refine ha n (Gd.bind q fun x M1 w1 H1 vx l1 R1 r1 q1 => ?_)
  cases r1 with
  | int i => exact ⟨i, rfl, Gd.ok q1 R1 rfl⟩
  | _ => exact False.elim q1
/-- what a slice gives -/
def slD (bx : Bool) (d : D) (lo hi : Option Int) (M : Mem) : R D := match d with
  | .lst _ xs => newL bx (cutD xs lo hi) M
  | .scr xs => newL bx (cutD xs lo hi) M
  | .tup xs => .ok (.tup (cutD xs lo hi)) M
  | .str z => if z.length ≤ sizeLine then .ok (.str (cutS z lo hi)) M else .bad
  | _ => .bad
def cSl (bx : Bool) (f : Den) (g h : DenO) : Den := fun cal ρ M => (f cal ρ M).bind fun x M1 => (g cal ρ M1).bind fun lo M2 => (h cal ρ M2).bind fun hi M3 => slD bx (view M3 x) lo hi M3
def SlW (X : Cx) : V → Option Int → Option Int → Hp → VK → Prop := fun x lo hi H Q => ∀ pins s σ v vl vu sl, Inv X pins σ H s → RelV x v → s.heap.IsSliceOf sl vl vu .none → IsPart vl lo → IsPart vu hi →
    ∃ T id, typeLookup (.type T) "__getitem__" = pure (some (.builtin id)) ∧ s.TypeIs v T ∧ wpAny (model X.prog X.w) X.A (getItem v (.ref sl)) (EP X pins σ Q) X.xe s
theorem slR_w {X : Cx} : SlR X (SlW X) := fun pins s σ H x v vl vu lo hi sl Q I rx hs pl pu h => h pins s σ v vl vu sl I rx hs pl pu
theorem SlW.of {X : Cx} {r : V → Option Int → Option Int → Hp → VK → Prop} (h : SlR X r) {x : V} {lo hi : Option Int} {H : Hp} {Q : VK} (q : r x lo hi H Q) : SlW X x lo hi H Q := fun pins s σ v vl vu sl I rx hs pl pu => h pins s σ H x v vl vu lo hi sl Q I rx hs pl pu q
theorem se_slice {bx : Bool} {lo hi : Option Expr} {p2 : Pos} {g h : DenO} (ha : SE C a f) (hl : SO C lo g) (hh : SO C hi h) : SE C (.Subscript a (.Slice lo hi none p2) pos) (cSl bx f g h) := by
  intro ca cal k X W w ρ M σ H Q n q
  have pl : PO X lo (fun σ H Q => ∀ pins s, Inv X pins σ H s → wpAny (model X.prog X.w) X.A (evalPart lo X.env) (fun u s' => ∃ o H', Inv X pins σ H' s' ∧ IsPart u o ∧ Q o H') X.xe s) := ⟨fun pins s σ H Q I h => h pins s I⟩
  have ph : PO X hi (fun σ H Q => ∀ pins s, Inv X pins σ H s → wpAny (model X.prog X.w) X.A (evalPart hi X.env) (fun u s' => ∃ o H', Inv X pins σ H' s' ∧ IsPart u o ∧ Q o H') X.xe s) := ⟨fun pins s σ H Q I h => h pins s I⟩
  refine WE.of (pe_slice slR_w pe_we pl ph) ?_
  refine ha n (Gd.bind q fun x M1 w1 H1 vx l1 R1 r1 q1 => ?_)
  refine hl (n.up l1 R1) (Gd.bind q1 fun o1 M2 w2 H2 o1' l2 R2 r2 q2 => ?_)
  subst r2
  refine hh ((n.up l1 R1).up l2 R2) (Gd.bind q2 fun o2 M3 w3 H3 o2' l3 R3 r3 q3 => ?_)
  subst r3
  have rx := (r1.up l2).up l3
  unfold slD at q3
  split at q3
  · rename_i t xs e1
    obtain ⟨a1, v1, rfl, g1, s1⟩ := R3.list rx e1
    exact SlW.of sl_list ⟨a1, v1, rfl, SqL.of g1, fun p hp => Gd.newL q3 R3 (s1.cut o1 o2) hp⟩
  · rename_i xs e1
    have ex : x = .scr xs := by
      rcases view_cases M3 x with z | ⟨_, _, _, _, z⟩ | ⟨_, _, _, _, _, z⟩
      · rw [z] at e1; exact e1
      · rw [z] at e1; cases e1
      · rw [z] at e1; cases e1
    subst ex
    cases rx with
    | scr h s1 => exact SlW.of sl_list ⟨_, _, rfl, R3.sqL h, fun p hp => Gd.newL q3 R3 (s1.cut o1 o2) hp⟩
  · rename_i xs e1
    obtain ⟨a1, v1, rfl, g1, s1⟩ := R3.tuple rx e1
    have ex := view_tup e1
    subst ex
    refine SlW.of sl_tupA ⟨a1, v1, rfl, SqT.of g1, fun hw => ?_, fun _ p hp => Gd.newT q3 R3 (s1.cut o1 o2) hp⟩
    have e3 : cutD xs o1 o2 = xs := by
      unfold cutD
      rw [s1.length, hw.1, hw.2, ← s1.length]
      simp
    rw [e3] at q3
    exact Gd.ok q3 R3 rx
  · rename_i z e1
    rw [view_str rx e1]
    split at q3
    · rename_i hz
      exact SlW.of sl_str ⟨z, rfl, hz, Gd.ok q3 R3 (.str _)⟩
    · exact False.elim q3
  · exact False.elim q3
end

def CallW (X : Cx) (f : Value) : List V → Hp → VK → Prop := fun vs H Q => ∀ pins s σ us, Inv X pins σ H s → Vals vs us → wpAny (model X.prog X.w) X.A (call f us) (EP X pins σ Q) X.xe s
theorem callR_w {X : Cx} {f : Value} : CallR X f (CallW X f) := fun pins s σ H xs us Q I r h => h pins s σ us I r
theorem CallW.of {X : Cx} {f : Value} {r : List V → Hp → VK → Prop} (h : CallR X f r) {vs : List V} {H : Hp} {Q : VK} (q : r vs H Q) : CallW X f vs H Q := fun pins s σ us I rv => h pins s σ H vs us Q I rv q
/-- f does with the values what g says -/
def CallS (f : Value) (g : List D → Mem → R D) : Prop := ∀ {C : Cfg} {ca : Nat → Addr} {cal : Cal} {k : Nat} {X : Cx} {W : WX} {w : Wd} {ρ : Env} {M : Mem} {σ : L2.St} {H : Hp} {Q : VK} {ds : List D} {vs : List V},
  Now C ca cal k X W w ρ M σ H → Reps X.K w ds vs → Gd X.K w W σ (Rep X.K) Q (g ds M) → CallW X f vs H Q
def cBlt (g : List D → Mem → R D) (fs : Dens) : Den := fun cal ρ M => (fs cal ρ M).bind fun ds M1 => g (ds.map (view M1)) M1
def dunder (x : Str) : Bool := decide (x ≠ "__name__") && decide ((x == ("__debug__" : Str)) = false)
section
variable {C : Cfg} {pos p : Pos} {e : Expr} {es : List Expr} {fs : Dens} {x : Str} {g : List D → Mem → R D}
def CallV (f : Value) (g : List D → Mem → R D) : Prop := ∀ {C : Cfg} {ca : Nat → Addr} {cal : Cal} {k : Nat} {X : Cx} {W : WX} {w : Wd} {ρ : Env} {M : Mem} {σ : L2.St} {H : Hp} {Q : VK} {ds : List D} {vs : List V},
  Now C ca cal k X W w ρ M σ H → Reps X.K w ds vs → Gd X.K w W σ (Rep X.K) Q (g (ds.map (view M)) M) → CallW X f vs H Q
theorem gl_of {ca : Nat → Addr} {cal : Cal} {k : Nat} {X : Cx} {W : WX} {w : Wd} {ρ : Env} {M : Mem} {σ : L2.St} {H : Hp} (n : Now C ca cal k X W w ρ M σ H) (hl : C.look x = some .globalImplicit) : Gl X x := by
  unfold Gl
  rw [n.kind]; exact hl
theorem se_bltB {id : String} (hc : CallV (.builtin id) g) (hl : C.look x = some .globalImplicit) (hb : x ∈ C.T.blt) (hv : bootBuiltins x = some (.builtin id)) (hd : dunder x = true) (hs : (e :: es).all noStar = true) (ha : SA C (e :: es) fs) :
    SE C (.Call (.Name x p) (e :: es) [] pos) (cBlt g fs) := by
  intro ca cal k X W w ρ M σ H Q n q
  have hd' := hd
  unfold dunder at hd'
  simp only [Bool.and_eq_true, decide_eq_true_eq] at hd'
  rw [List.all_cons, Bool.and_eq_true] at hs
  refine WE.of (pe_callB callR_w (gl_of n hl) (n.ok.gx.blt x hb) hv pa_wa hd'.1 hd'.2 (starEach_cons hs.1 es X.env) (starEach_any hs.2 X.env pos)) ?_
  exact ha n (Gd.bind q fun ds M1 w1 H1 vs l1 R1 r1 q1 => hc (n.up l1 R1) r1 q1)
theorem se_bltT {T : String} (hc : CallV (.type T) g) (hl : C.look x = some .globalImplicit) (hb : x ∈ C.T.blt) (hv : bootBuiltins x = some (.type T)) (hd : dunder x = true) (hs : (e :: es).all noStar = true) (ha : SA C (e :: es) fs) :
    SE C (.Call (.Name x p) (e :: es) [] pos) (cBlt g fs) := by
  intro ca cal k X W w ρ M σ H Q n q
  have hd' := hd
  unfold dunder at hd'
  simp only [Bool.and_eq_true, decide_eq_true_eq] at hd'
  rw [List.all_cons, Bool.and_eq_true] at hs
  refine WE.of (pe_callTy callR_w (gl_of n hl) (n.ok.gx.blt x hb) hv pa_wa hd'.1 hd'.2 (starEach_cons hs.1 es X.env) (starEach_any hs.2 X.env pos)) ?_
  exact ha n (Gd.bind q fun ds M1 w1 H1 vs l1 R1 r1 q1 => hc (n.up l1 R1) r1 q1)
end
end Vm

namespace Vm
open PySem PySem.Spec L2

/-- how a statement ends -/
inductive Fl where
  | nx | bk | ct | rt (d : D)
inductive SR where
  | ok (f : Fl) (ρ : Env) (M : Mem)
  | exn (c : Nat) (ks : List Str) (vs : List D) (ρ : Env) (M : Mem)
  | bad
abbrev SDen := Cal → Env → Mem → SR
/-- an expression's outcome within a statement -/
def SR.of {A : Type} (r : R A) (ρ : Env) (f : A → Mem → SR) : SR := match r with
  | .ok a M => f a M
  | .exn c ks vs M => .exn c ks vs ρ M
  | .bad => .bad
def SR.seq (r : SR) (f : Env → Mem → SR) : SR := match r with
  | .ok .nx ρ M => f ρ M
  | .ok fl ρ M => .ok fl ρ M
  | .exn c ks vs ρ M => .exn c ks vs ρ M
  | .bad => .bad
@[simp] theorem SR.of_ok {A : Type} (a : A) (M : Mem) (ρ : Env) (f : A → Mem → SR) : SR.of (.ok a M) ρ f = f a M := rfl
@[simp] theorem SR.of_exn {A : Type} (c : Nat) (ks : List Str) (vs : List D) (M : Mem) (ρ : Env) (f : A → Mem → SR) : SR.of (.exn c ks vs M) ρ f = .exn c ks vs ρ M := rfl
@[simp] theorem SR.of_bad {A : Type} (ρ : Env) (f : A → Mem → SR) : SR.of (.bad : R A) ρ f = .bad := rfl
@[simp] theorem SR.seq_nx (ρ : Env) (M : Mem) (f : Env → Mem → SR) : SR.seq (.ok .nx ρ M) f = f ρ M := rfl
@[simp] theorem SR.seq_rt (d : D) (ρ : Env) (M : Mem) (f : Env → Mem → SR) : SR.seq (.ok (.rt d) ρ M) f = .ok (.rt d) ρ M := rfl
@[simp] theorem SR.seq_bk (ρ : Env) (M : Mem) (f : Env → Mem → SR) : SR.seq (.ok .bk ρ M) f = .ok .bk ρ M := rfl
@[simp] theorem SR.seq_ct (ρ : Env) (M : Mem) (f : Env → Mem → SR) : SR.seq (.ok .ct ρ M) f = .ok .ct ρ M := rfl
@[simp] theorem SR.seq_exn (c : Nat) (ks : List Str) (vs : List D) (ρ : Env) (M : Mem) (f : Env → Mem → SR) : SR.seq (.exn c ks vs ρ M) f = .exn c ks vs ρ M := rfl
@[simp] theorem SR.seq_bad (f : Env → Mem → SR) : SR.seq .bad f = .bad := rfl

def GdS (K : PySem.W.Frag) (w : Wd) (D : Ends) (W : WX) (r : SR) : Prop := match r with
  | .ok .nx ρ M => ∀ w' σ H, w.Le w' → Rel K w' M H → Slots K w' ρ σ → D.nx σ H
  | .ok .bk ρ M => ∀ w' σ H, w.Le w' → Rel K w' M H → Slots K w' ρ σ → D.bk σ H
  | .ok .ct ρ M => ∀ w' σ H, w.Le w' → Rel K w' M H → Slots K w' ρ σ → D.ct σ H
  | .ok (.rt d) ρ M => ∀ w' H v, w.Le w' → Rel K w' M H → Rep K w' d v → D.rt v H
  | .exn c ks vs ρ M => ∀ w' σ H dd, w.Le w' → Rel K w' M H → Slots K w' ρ σ → ErrR K w' dd ks vs → W (.ref (w'.ca c)) dd σ H
  | .bad => False
section
variable {K : PySem.W.Frag} {w w' : Wd} {D D' : Ends} {W : WX}
theorem GdS.up {r : SR} (h : GdS K w D W r) (l : w.Le w') : GdS K w' D W r := by
  match r, h with
  | .ok .nx ρ M, h => exact fun w2 σ H l2 => h w2 σ H (l.trans l2)
  | .ok .bk ρ M, h => exact fun w2 σ H l2 => h w2 σ H (l.trans l2)
  | .ok .ct ρ M, h => exact fun w2 σ H l2 => h w2 σ H (l.trans l2)
  | .ok (.rt d) ρ M, h => exact fun w2 H v l2 => h w2 H v (l.trans l2)
  | .exn c ks vs ρ M, h => exact fun w2 σ H dd l2 => h w2 σ H dd (l.trans l2)
theorem GdS.of {A B : Type} {rel : Wd → A → B → Prop} {Q : B → Hp → Prop} {σ : L2.St} {ρ : Env} {r : R A} {f : A → Mem → SR} (h : GdS K w D W (SR.of r ρ f)) (sl : Slots K w ρ σ)
    (k : ∀ a M w' H b, w.Le w' → Rel K w' M H → rel w' a b → GdS K w' D W (f a M) → Q b H) : Gd K w W σ rel Q r := by
  cases r with
  | ok a M => exact fun w' H b l R q => k a M w' H b l R q (GdS.up (show GdS K w D W (f a M) from h) l)
  | exn c ks vs M => exact fun w' H dd l R e => (show GdS K w D W (.exn c ks vs ρ M) from h) w' σ H dd l R (sl.up l) e
  | bad => exact h
end
/-- the statement does what g says -/
def SS (C : Cfg) (st : Stmt) (g : SDen) : Prop := ∀ {ca : Nat → Addr} {cal : Cal} {k : Nat} {X : Cx} {W : WX} {w : Wd} {ρ : Env} {M : Mem} {σ : L2.St} {H : Hp} {D : Ends},
  Now C ca cal k X W w ρ M σ H → GdS X.K w D W (g cal ρ M) → WS X st D σ H
def SSs (C : Cfg) (st : List Stmt) (g : SDen) : Prop := ∀ {ca : Nat → Addr} {cal : Cal} {k : Nat} {X : Cx} {W : WX} {w : Wd} {ρ : Env} {M : Mem} {σ : L2.St} {H : Hp} {D : Ends},
  Now C ca cal k X W w ρ M σ H → GdS X.K w D W (g cal ρ M) → WSs X st D σ H

def sNil : SDen := fun _ ρ M => .ok .nx ρ M
def sSeq (f g : SDen) : SDen := fun cal ρ M => (f cal ρ M).seq (g cal)
def sBrk : SDen := fun _ ρ M => .ok .bk ρ M
def sCnt : SDen := fun _ ρ M => .ok .ct ρ M
def sExpr (f : Den) : SDen := fun cal ρ M => SR.of (f cal ρ M) ρ fun _ M1 => .ok .nx ρ M1
def sRet (f : Den) : SDen := fun cal ρ M => SR.of (f cal ρ M) ρ fun d M1 => .ok (.rt d) ρ M1
def sRetN : SDen := fun _ ρ M => .ok (.rt .non) ρ M
def sSet (i : Nat) (f : Den) : SDen := fun cal ρ M => SR.of (f cal ρ M) ρ fun d M1 => .ok .nx (ρ.set i (some d)) M1
def sIf (t : DenB) (f g : SDen) : SDen := fun cal ρ M => SR.of (t cal ρ M) ρ fun b M1 => if b = true then f cal ρ M1 else g cal ρ M1
/-- expressions that a store needn't look at -/
def noComp : Expr → Bool
  | .ListComp _ _ _ _ => false
  | .SetComp _ _ _ _ => false
  | .DictComp _ _ _ _ _ => false
  | _ => true
theorem noComp_is {e : Expr} (h : noComp e = true) (t : Option Expr) (l : Nat) (env : PySem.Env) : swapsWith e t l env = pure false := by
  cases e <;> first | rfl | cases h
section
variable {C : Cfg} {pos : Pos} {e c : Expr} {st : Stmt} {sts as bs : List Stmt} {f : Den} {g h : SDen} {t : DenB}
theorem ss_nil : SSs C [] sNil := fun n q => WSs.of pss_nil (q _ _ _ (.refl _) n.rel n.sl)
theorem Now.step {ca : Nat → Addr} {cal : Cal} {k : Nat} {X : Cx} {W : WX} {w w' : Wd} {ρ ρ' : Env} {M M' : Mem} {σ σ' : L2.St} {H H' : Hp} (n : Now C ca cal k X W w ρ M σ H) (l : w.Le w') (R : Rel X.K w' M' H') (s : Slots X.K w' ρ' σ') :
    Now C ca cal k X W w' ρ' M' σ' H' := ⟨n.ok, n.tk, l.c.trans n.ca, R, s⟩
theorem ss_cons (h1 : SS C st g) (h2 : SSs C sts h) : SSs C (st :: sts) (sSeq g h) := by
  intro ca cal k X W w ρ M σ H D n q
  refine WSs.of (pss_cons ps_ws pss_ws) ?_
  refine h1 n ?_
  have q : GdS X.K w D W ((g cal ρ M).seq (h cal)) := q
  cases hr : g cal ρ M with
  | bad => rw [hr] at q; exact q
  | exn c ks vs ρ' M' => rw [hr] at q; exact q
  | ok fl ρ' M' =>
    rw [hr] at q
    cases fl with
    | nx => exact fun w' σ' H' l R s => h2 (n.step l R s) (GdS.up (show GdS X.K w D W (h cal ρ' M') from q) l)
    | bk => exact q
    | ct => exact q
    | rt d => exact q
theorem ss_one (h1 : SS C st g) : SSs C [st] g := fun n q => WSs.of (pss_one ps_ws) (h1 n q)
theorem ss_pass : SS C (.Pass pos) sNil := fun n q => WS.of ps_pass (q _ _ _ (.refl _) n.rel n.sl)
theorem ss_brk : SS C (.Break pos) sBrk := fun n q => WS.of ps_break (q _ _ _ (.refl _) n.rel n.sl)
theorem ss_cnt : SS C (.Continue pos) sCnt := fun n q => WS.of ps_continue (q _ _ _ (.refl _) n.rel n.sl)
theorem ss_doc {x : Str} {j : Nat} {pos' : Pos} : SS C (.Expr (.Constant (.str x) j pos) pos') sNil := fun n q => WS.of ps_doc (q _ _ _ (.refl _) n.rel n.sl)
theorem ss_expr (hs : noComp e = true) (he : SE C e f) : SS C (.Expr e pos) (sExpr f) := by
  intro ca cal k X W w ρ M σ H D n q
  refine WS.of (ps_expr pe_we (noComp_is hs _ _ _)) ?_
  exact he n (GdS.of q n.sl fun d M1 w1 H1 v l1 R1 r1 q1 => q1 _ _ _ (.refl _) R1 (n.sl.up l1))
theorem ss_ret (he : SE C e f) : SS C (.Return (some e) pos) (sRet f) := by
  intro ca cal k X W w ρ M σ H D n q
  refine WS.of (ps_ret pe_we) ?_
  exact he n (GdS.of q n.sl fun d M1 w1 H1 v l1 R1 r1 q1 => q1 _ _ _ (.refl _) R1 r1)
theorem ss_retN : SS C (.Return none pos) sRetN := fun n q => WS.of ps_retN (q _ _ _ (.refl _) n.rel .non)
theorem ss_if (hc : ST C c t) (ha : SSs C as g) (hb : SSs C bs h) : SS C (.If c as bs pos) (sIf t g h) := by
  intro ca cal k X W w ρ M σ H D n q
  refine WS.of (ps_if pt_wt pss_ws pss_ws) ?_
  refine hc n (GdS.of q n.sl fun b M1 w1 H1 v l1 R1 r1 q1 => ?_)
  subst r1
  cases b with
  | true => exact ha (n.up l1 R1) q1
  | false => exact hb (n.up l1 R1) q1
/-- names that may be stored here -/
def Cfg.stor (C : Cfg) (x : Str) : Bool := match C.look x with
  | some .local => true
  | some .cell => C.fnc x
  | _ => false
theorem loc_of {ca : Nat → Addr} {cal : Cal} {k : Nat} {X : Cx} {W : WX} {w : Wd} {ρ : Env} {M : Mem} {σ : L2.St} {H : Hp} (n : Now C ca cal k X W w ρ M σ H) {x : Str} (hl : C.stor x = true) :
    L2.Loc X.env.scope x ∧ (X.fn x = true ∨ X.env.scope.names.lookup x = some .local) := by
  unfold L2.Loc
  rw [n.ok.sc]
  unfold Cfg.stor at hl
  split at hl
  · rename_i h; exact ⟨.inl h, .inr h⟩
  · rename_i h; exact ⟨.inr h, .inl (n.ok.fn x hl)⟩
  · cases hl
theorem ss_set {x : Str} {i : Nat} {p : Pos} (hi : C.N[i]? = some x) (hl : C.stor x = true) (hs : noComp e = true) (he : SE C e f) : SS C (.Assign [.Name x p] e pos) (sSet i f) := by
  intro ca cal k X W w ρ M σ H D n q
  obtain ⟨h1, h2⟩ := loc_of n hl
  refine WS.of (ps_set (i := i) (by rw [n.ok.N]; exact n.ok.nd) (by rw [n.ok.N]; exact hi) h1 pe_we (noComp_is hs _ _ _) h2) ?_
  exact he n (GdS.of q n.sl fun d M1 w1 H1 v l1 R1 r1 q1 => q1 _ _ _ (.refl _) R1 ((n.sl.up l1).set i r1))

/-- the slots that a target stores, and what they hold behind it -/
structure Tgt where
  ix : List Nat
  go : D → Env → Option Env
def gNm (i : Nat) : Tgt := ⟨[i], fun d ρ => some (ρ.set i (some d))⟩
def Keeps (ix : List Nat) (σ σ' : L2.St) : Prop := σ'.length = σ.length ∧ ∀ j, j ∉ ix → σ'[j]? = σ[j]?
theorem Keeps.refl (ix : List Nat) (σ : L2.St) : Keeps ix σ σ := ⟨rfl, fun _ _ => rfl⟩
theorem Keeps.set (i : Nat) (σ : L2.St) (v : Option V) : Keeps [i] σ (σ.set i v) := ⟨List.length_set, fun j hj => List.getElem?_set_ne fun e => hj (by simp [e])⟩
theorem Keeps.trans {ix jx : List Nat} {σ σ1 σ2 : L2.St} (a : Keeps ix σ σ1) (b : Keeps jx σ1 σ2) : Keeps (ix ++ jx) σ σ2 :=
  ⟨b.1.trans a.1, fun j hj => (b.2 j fun h => hj (List.mem_append_right _ h)).trans (a.2 j fun h => hj (List.mem_append_left _ h))⟩
def GW (X : Cx) (tg : Expr) : TG := fun v σ H Q => ∀ pins s u, Inv X pins σ H s → RelV v u → wpAny (model X.prog X.w) X.A (assign tg X.env u) (fun _ s' => ∃ σ' H', Inv X pins σ' H' s' ∧ Q σ' H') X.xe s
theorem pg_gw {X : Cx} {tg : Expr} : PG X tg (GW X tg) := ⟨fun pins s σ H v u Q I r h => h pins s u I r⟩
theorem GW.of {X : Cx} {tg : Expr} {t : TG} (h : PG X tg t) {v : V} {σ : L2.St} {H : Hp} {Q : L2.St → Hp → Prop} (q : t v σ H Q) : GW X tg v σ H Q := fun pins s u I r => h.run pins s σ H v u Q I r q
/-- the target takes the data as t says (nothing else changes) -/
def SG (C : Cfg) (tg : Expr) (t : Tgt) : Prop := ∀ {ca : Nat → Addr} {cal : Cal} {k : Nat} {X : Cx} {W : WX} {w : Wd} {ρ ρ' : Env} {M : Mem} {σ : L2.St} {H : Hp} {d : D} {v : V} {Q : L2.St → Hp → Prop},
  Now C ca cal k X W w ρ M σ H → Rep X.K w d v → t.go d ρ = some ρ' → (∀ σ', Slots X.K w ρ' σ' → Keeps t.ix σ σ' → Q σ' H) → GW X tg v σ H Q
theorem sg_name {x : Str} {i : Nat} {p : Pos} (hi : C.N[i]? = some x) (hl : C.stor x = true) : SG C (.Name x p) (gNm i) := by
  intro ca cal k X W w ρ ρ' M σ H d v Q n r e q
  obtain ⟨h1, h2⟩ := loc_of n hl
  cases e
  exact GW.of (pg_name (i := i) (by rw [n.ok.N]; exact n.ok.nd) (by rw [n.ok.N]; exact hi) h1 h2) (q _ (n.sl.set i r) (Keeps.set i σ _))
/-- several targets -/
structure Tgts where
  ix : List Nat
  go : List D → Env → Option Env
def gN0 : Tgts := ⟨[], fun ds ρ => match ds with
  | [] => some ρ
  | _ => none⟩
def gNs (t : Tgt) (u : Tgts) : Tgts := ⟨t.ix ++ u.ix, fun ds ρ => match ds with
  | d :: r => (t.go d ρ).bind (u.go r)
  | [] => none⟩
def gTp (n : Nat) (u : Tgts) : Tgt := ⟨u.ix, fun d ρ => match d with
  | .tup ds => if ds.length = n then u.go ds ρ else none
  | _ => none⟩
def GWs (X : Cx) (ts : List Expr) : TGs := fun vs σ H Q => ∀ pins s us, Inv X pins σ H s → Vals vs us → wpAny (model X.prog X.w) X.A (assignInOrder ((assignEach ts X.env).map (·.2)) us) (fun _ s' => ∃ σ' H', Inv X pins σ' H' s' ∧ Q σ' H') X.xe s
theorem pgs_gws {X : Cx} {ts : List Expr} : PGs X ts (GWs X ts) := ⟨fun pins s σ H vs us Q I r h => h pins s us I r⟩
theorem GWs.of {X : Cx} {ts : List Expr} {t : TGs} (h : PGs X ts t) {vs : List V} {σ : L2.St} {H : Hp} {Q : L2.St → Hp → Prop} (q : t vs σ H Q) : GWs X ts vs σ H Q := fun pins s us I r => h.run pins s σ H vs us Q I r q
def SGs (C : Cfg) (ts : List Expr) (t : Tgts) : Prop := ∀ {ca : Nat → Addr} {cal : Cal} {k : Nat} {X : Cx} {W : WX} {w : Wd} {ρ ρ' : Env} {M : Mem} {σ : L2.St} {H : Hp} {ds : List D} {vs : List V} {Q : L2.St → Hp → Prop},
  Now C ca cal k X W w ρ M σ H → Reps X.K w ds vs → t.go ds ρ = some ρ' → (∀ σ', Slots X.K w ρ' σ' → Keeps t.ix σ σ' → Q σ' H) → GWs X ts vs σ H Q
theorem sgs_nil : SGs C [] gN0 := by
  intro ca cal k X W w ρ ρ' M σ H ds vs Q n r e q
  cases r with
  | nil => cases e; exact GWs.of pgs_nil ⟨rfl, q _ n.sl (Keeps.refl _ _)⟩
  | cons _ _ => cases e
theorem assignEach_cons {e : Expr} (h : noStar e = true) (es : List Expr) (env : PySem.Env) : assignEach (e :: es) env = (false, assign e env) :: assignEach es env := by
  cases e with
  | Starred _ _ => cases h
  | _ => rfl
theorem assignEach_len (env : PySem.Env) : ∀ {es : List Expr}, es.all noStar = true → (assignEach es env).length = es.length ∧ (assignEach es env).findIdx? (·.1) = none
  | [], _ => ⟨rfl, rfl⟩
  | e :: es, h => by
    rw [List.all_cons, Bool.and_eq_true] at h
    obtain ⟨h1, h2⟩ := assignEach_len env h.2
    rw [assignEach_cons h.1]
    refine ⟨by rw [List.length_cons, List.length_cons, h1], ?_⟩
    rw [List.findIdx?_cons, h2]
    rfl
theorem sgs_cons {tg : Expr} {ts : List Expr} {t : Tgt} {u : Tgts} (hs : noStar tg = true) (h1 : SG C tg t) (h2 : SGs C ts u) : SGs C (tg :: ts) (gNs t u) := by
  intro ca cal k X W w ρ ρ' M σ H ds vs Q n r e q
  cases r with
  | nil => cases e
  | cons h tl =>
    rename_i d v ds vs
    obtain ⟨ρ1, e1, e2⟩ := Option.bind_eq_some_iff.mp (show (t.go d ρ).bind (u.go ds) = some ρ' from e)
    refine GWs.of (pgs_cons pg_gw pgs_gws (by rw [assignEach_cons hs]; rfl)) ⟨v, vs, rfl, ?_⟩
    exact h1 n h e1 fun σ1 s1 k1 => h2 (n.step (.refl w) n.rel s1) tl e2 fun σ2 s2 k2 => q σ2 s2 (k1.trans k2)
theorem sg_tup {ts : List Expr} {j : Nat} {p : Pos} {u : Tgts} (hs : ts.all noStar = true) (h : SGs C ts u) : SG C (.Tuple ts j p) (gTp ts.length u) := by
  intro ca cal k X W w ρ ρ' M σ H d v Q n r e q
  cases r with
  | tup hG rs =>
    rename_i xs a vs
    have e : (if xs.length = ts.length then u.go xs ρ else none) = some ρ' := e
    split at e
    · rename_i hl
      refine fun pins s uu I rv => ?_
      obtain ⟨h1, h2⟩ := assignEach_len X.env hs
      exact (pg_tup (n := ts.length) n.ok.calm pgs_gws h1 h2).run pins s σ H _ uu Q I rv ⟨a, vs, rfl, SqT.of (n.rel.tup hG), by rw [← rs.length]; exact hl, h n rs e q⟩
    · cases e
  | _ => cases e
theorem noComp_sole {e : Expr} (h : noComp e = true) (t : Expr) (l : Nat) (env : PySem.Env) : swapsWithSole [t] e l env = pure false := noComp_is h (some t) l env
/-- target = value -/
def sAsg (t : Tgt) (f : Den) : SDen := fun cal ρ M => SR.of (f cal ρ M) ρ fun d M1 => match t.go d ρ with
  | some ρ' => .ok .nx ρ' M1
  | none => .bad
def noTup : Expr → Bool
  | .Tuple _ _ _ => false
  | _ => true
theorem noSwap_is {tg e : Expr} (h : noTup e = true) (env : PySem.Env) : swappedStores [tg] e env = pure none := by
  unfold swappedStores
  cases e with
  | Tuple _ _ _ => cases h
  | _ => cases tg <;> rfl
theorem ss_asg {tg : Expr} {t : Tgt} (hs : noComp e = true) (hn : noTup e = true) (hst : noStar tg = true) (ht : SG C tg t) (he : SE C e f) : SS C (.Assign [tg] e pos) (sAsg t f) := by
  intro ca cal k X W w ρ M σ H D n q
  refine WS.of (ps_asg pe_we pg_gw (noComp_sole hs _ _ _) (noSwap_is hn X.env) (by rw [assignEach_cons hst]; rfl)) ?_
  refine he n (GdS.of q n.sl fun d M1 w1 H1 v l1 R1 r1 q1 => ?_)
  cases e1 : t.go d ρ with
  | none => rw [e1] at q1; exact False.elim q1
  | some ρ' =>
    rw [e1] at q1
    exact ht (n.up l1 R1) r1 e1 fun σ' s' _ => q1 w1 σ' H1 (.refl _) R1 s'
/-- a, b = x, y: the names of this def's own -/
def sPar (i j : Nat) (f g : Den) : SDen := fun cal ρ M => SR.of (f cal ρ M) ρ fun d M1 => SR.of (g cal ρ M1) ρ fun d' M2 => .ok .nx ((ρ.set i (some d)).set j (some d')) M2
theorem ss_par {x y : Str} {i j : Nat} {px py pt pt2 : Pos} {kt k2 : Nat} {a b : Expr} {f g : Den} (hi : C.N[i]? = some x) (hj : C.N[j]? = some y) (hij : i ≠ j) (hx : C.look x = some .local) (hy : C.look y = some .local)
    (hna : noStar a = true) (hnb : noStar b = true) (hline : (py.line == px.line) = true) (hne : (y == x) = false) (hk : C.sc.kind = .function) (hfold : (foldedForSure 8 a && foldedForSure 8 b) = false) (hcon : (constantsAlone 8 a && constantsAlone 8 b) = false)
    (ha : SE C a f) (hb : SE C b g) : SS C (.Assign [.Tuple [.Name x px, .Name y py] kt pt] (.Tuple [a, b] k2 pt2) pos) (sPar i j f g) := by
  intro ca cal k X W w ρ M σ H D n q
  have kx : X.env.kindOf x = some .local := by rw [n.kind]; exact hx
  have ky : X.env.kindOf y = some .local := by rw [n.kind]; exact hy
  have hblk : X.env.blockKind = .function := by unfold PySem.Env.blockKind; rw [n.ok.sc, hk]; rfl
  have hsw : swappedStores [.Tuple [.Name x px, .Name y py] kt pt] (.Tuple [a, b] k2 pt2) X.env = pure (some [x, y]) := by
    have s1 : ([a, b].any fun | .Starred .. => true | _ => false) = false := by
      cases a <;> first | (cases hna; done) | (cases b <;> first | (cases hnb; done) | rfl)
    have s2 : ([a, b].all (foldedForSure 8)) = false := by simpa using hfold
    have s3 : ([a, b].all (constantsAlone 8)) = false := by simpa using hcon
    unfold swappedStores
    have hxy : ¬ y = x := fun z => by rw [z] at hne; simp at hne
    simp only [hblk, kx, ky, s2, s3, List.head?_cons, Option.map_some, Option.getD_some, Expr.pos, List.filterMap_cons, List.filterMap_nil, beq_self_eq_true, Bool.true_and, hline, if_true, Bool.and_self, List.length_cons, List.length_nil, List.eraseDups, List.eraseDupsBy]
    simp [s1, List.eraseDupsBy.loop, hxy, hne]
    intro hh
    exfalso
    rcases hh with hh | hh
    · cases a <;> simp_all [noStar]
    · cases b <;> simp_all [noStar]
  refine WS.of (ps_par n.ok.calm (by rw [n.ok.N]; exact n.ok.nd) (i := i) (j := j) (by rw [n.ok.N]; exact hi) (by rw [n.ok.N]; exact hj) hij (by rw [n.ok.sc]; exact hx) (by rw [n.ok.sc]; exact hy)
    (pa_cons pe_we (pa_cons pe_we pa_nil (starEach_cons hnb [] X.env)) (starEach_cons hna [b] X.env)) hsw) ?_
  refine ha n (GdS.of q n.sl fun d M1 w1 H1 v l1 R1 r1 q1 => ?_)
  refine hb (n.up l1 R1) (GdS.of q1 (n.sl.up l1) fun d' M2 w2 H2 v' l2 R2 r2 q2 => ?_)
  exact ⟨v, v', rfl, q2 w2 _ H2 (.refl _) R2 ((((n.sl.up l1).up l2).set i (r1.up l2)).set j r2)⟩
end

/-- the memory with another cell -/
def putC (M : Mem) (n : Nat) (c : Cell) : Mem := M.set n c
section
variable {K : PySem.W.Frag} {w : Wd} {M : Mem} {H : Hp}
theorem nodup_get {α : Type} {l : List α} (h : l.Nodup) {i j : Nat} {a : α} (e1 : l[i]? = some a) (e2 : l[j]? = some a) : i = j := by
  obtain ⟨h1, q1⟩ := List.getElem?_eq_some_iff.mp e1
  obtain ⟨h2, q2⟩ := List.getElem?_eq_some_iff.mp e2
  exact (List.getElem_inj h).mp (q1.trans q2.symm)
/-- a cell's object is written -/
theorem Rel.put (R : Rel K w M H) {n : Nat} {a : Addr} {o : HO} {c : Cell} (ea : w.mu[n]? = some a) (hn : w.nu[n]? = some []) (hf : c.fr = true) (hc : CellR K w (upd H a o) a [] c) : Rel K w (M.set n c) (upd H a o) := by
  obtain ⟨c0, bs0, e0, e1, z0⟩ := R.at ea
  have nB : w.F a = none := R.off a (List.mem_of_getElem? ea)
  have ndm : w.mu.Nodup := (List.nodup_append.mp R.nd).1
  have hM : n < M.length := (List.getElem?_eq_some_iff.mp e0).1
  refine ⟨R.gb, R.bf, fun x u e hk => ?_, fun x u e hk => ?_, R.lkB, by rw [List.length_set]; exact R.len, by rw [List.length_set]; exact R.len2, R.nd, R.off, R.off2, fun c' hc' => ?_, fun m c' x bs h1 h2 h3 => ?_⟩
  · have h : x ≠ a := fun z => by subst z; rw [nB] at e; cases e
    rw [upd_ne h]; exact R.bh x u e hk
  · have h : x ≠ a := fun z => by subst z; rw [nB] at e; cases e
    obtain ⟨d, ob, q⟩ := R.bl x u e hk
    exact ⟨d, ob, by rw [upd_ne h]; exact q⟩
  · rcases List.mem_or_eq_of_mem_set hc' with h | h
    · exact R.fr c' h
    · rw [h]; exact hf
  · by_cases hm : m = n
    · subst hm
      rw [ea] at h2; cases h2
      rw [hn] at h3; cases h3
      rw [List.getElem?_set_self hM] at h1
      cases h1
      exact hc
    · rw [List.getElem?_set_ne (Ne.symm hm)] at h1
      have hx : x ≠ a := fun z => hm (nodup_get ndm h2 (by rw [z]; exact ea))
      have am : a ∈ w.mu := List.mem_of_getElem? ea
      refine (R.cell m c' x bs h1 h2 h3).up (.refl w) (upd_ne hx) fun b hb => upd_ne fun z => ?_
      exact (List.nodup_append.mp R.nd).2.2 a am b (mem_flat h3 hb) z.symm
theorem Rel.cellL (R : Rel K w M H) {n : Nat} {v : V} {xs : List D} (r : Rep K w (.ref n) v) (e : M[n]? = some (.lst xs)) : ∃ a vs, v = .ref a ∧ w.mu[n]? = some a ∧ w.nu[n]? = some [] ∧ H a = some (.lst vs) ∧ Reps K w xs vs := by
  cases r with
  | ref h =>
    obtain ⟨c, bs, e1, e2, z⟩ := R.at h
    rw [e] at e1
    cases e1
    cases z with
    | lst h2 r => exact ⟨_, _, rfl, h, e2, h2, r⟩
theorem Rel.putL (R : Rel K w M H) {n : Nat} {a : Addr} {xs ys : List D} {us : List V} (ea : w.mu[n]? = some a) (en : w.nu[n]? = some []) (e : M[n]? = some (.lst xs)) (hf : frees ys = true) (r : Reps K w ys us) : Rel K w (M.set n (.lst ys)) (upd H a (.lst us)) :=
  R.put ea en hf (.lst upd_same r)
end
/-- a dict's data behind a store -/
noncomputable def dput (ks vs : List D) (y d : D) : Option (List D × List D) := match ks with
  | .bl q :: ks => if vs.length < sizeLine then (keyQ q y).map fun k => (.bl q :: (putD ks vs k d).1, (putD ks vs k d).2) else none
  | _ => none
theorem Rel.dput {K : PySem.W.Frag} {w : Wd} {M : Mem} {H : Hp} (R : Rel K w M H) {n : Nat} {o v u : V} {ks vs ks' vs' : List D} {y d : D} (ro : Rep K w (.ref n) o) (em : M[n]? = some (.dic ks vs)) (ry : Rep K w y u) (rd : Rep K w d v) (h : Vm.dput ks vs y d = some (ks', vs')) (hf : frees vs' = true) :
    ∃ a H', o = .ref a ∧ DPut H a u v H' ∧ Rel K w (M.set n (.dic ks' vs')) H' := by
  cases ro with
  | @ref _ a ha =>
    obtain ⟨c, bs, e1, e2, z⟩ := R.at ha
    rw [em] at e1
    cases e1
    cases z with
    | dic h2 q rs =>
      cases q with
      | k kvs =>
        have hl := rs.length
        rw [List.length_map] at hl
        unfold Vm.dput at h
        simp only at h
        split at h
        · rename_i hz
          obtain ⟨k', h3, h4⟩ := Option.map_eq_some_iff.mp h
          obtain ⟨k, h5, rfl⟩ := Option.map_eq_some_iff.mp (show (keyK y).map keyD = some k' from h3)
          obtain ⟨rfl, rfl⟩ := keyK_is ry h5
          obtain ⟨p1, p2⟩ := put_is keyD (fun _ _ => keyD_inj) k rd rs
          cases h4
          refine ⟨a, _, rfl, DPut.k h2 (by omega), R.put ha e2 hf (.dic upd_same ?_ p2)⟩
          rw [p1]
          exact .k _
        · cases h
      | t kvs =>
        have hl := rs.length
        rw [List.length_map] at hl
        unfold Vm.dput at h
        simp only at h
        split at h
        · rename_i hz
          obtain ⟨k', h3, h4⟩ := Option.map_eq_some_iff.mp h
          cases ry with
          | @tup zs b us hb ru =>
            obtain ⟨k, h5, rfl⟩ := Option.map_eq_some_iff.mp (show (keysK zs).map (fun ks => D.tup (ks.map keyD)) = some k' from h3)
            obtain ⟨rfl, rfl⟩ := keysK_is ru h5
            obtain ⟨p1, p2⟩ := put_is (fun k : List Key => D.tup (k.map keyD)) (fun _ _ z => keysD_inj (D.tup.inj z)) k rd rs
            cases h4
            refine ⟨a, _, rfl, DPut.t h2 (R.tup hb) (by omega), R.put ha e2 hf (.dic upd_same ?_ p2)⟩
            rw [p1]
            exact .t _
          | _ => cases h3
        · cases h
/-- x[i] = e, x a list or a dict that is a cell -/
noncomputable def setD (o i v : D) (M : Mem) : Option Mem := match o with
  | .ref n => match M[n]? with
    | some (.lst xs) => match i with
      | .int k => match ixN xs.length k with
        | some j => if free v = true then some (M.set n (.lst (xs.set j v))) else none
        | none => none
      | _ => none
    | some (.dic ks vs) => match dput ks vs i v with
      | some (ks', vs') => if frees vs' = true then some (M.set n (.dic ks' vs')) else none
      | none => none
    | _ => none
  | _ => none
theorem setD_inv {o i v : D} {M M' : Mem} (h : setD o i v M = some M') : (∃ n k xs j, o = .ref n ∧ i = .int k ∧ M[n]? = some (.lst xs) ∧ ixN xs.length k = some j ∧ free v = true ∧ M' = M.set n (.lst (xs.set j v))) ∨
    ∃ n ks vs ks' vs', o = .ref n ∧ M[n]? = some (.dic ks vs) ∧ dput ks vs i v = some (ks', vs') ∧ frees vs' = true ∧ M' = M.set n (.dic ks' vs') := by
  unfold setD at h
  split at h
  · split at h
    · split at h
      · split at h
        · split at h
          · exact .inl ⟨_, _, _, _, rfl, rfl, by assumption, by assumption, by assumption, (Option.some.inj h).symm⟩
          · cases h
        · cases h
      · cases h
    · split at h
      · split at h
        · exact .inr ⟨_, _, _, _, _, rfl, by assumption, by assumption, by assumption, (Option.some.inj h).symm⟩
        · cases h
      · cases h
    · cases h
  · cases h
theorem frees_set {xs : List D} {v : D} (h : frees xs = true) (hv : free v = true) (j : Nat) : frees (xs.set j v) = true := by
  rw [frees_iff] at *
  intro x hx
  rcases List.mem_or_eq_of_mem_set hx with z | z
  · exact h x z
  · rw [z]; exact hv
noncomputable def sSetIx (fo fi fv : Den) : SDen := fun cal ρ M => SR.of (fv cal ρ M) ρ fun v M1 => SR.of (fo cal ρ M1) ρ fun o M2 => SR.of (fi cal ρ M2) ρ fun i M3 => match setD o i v M3 with
  | some M4 => .ok .nx ρ M4
  | none => .bad
section
variable {C : Cfg} {pos : Pos} {o i e : Expr} {fo fi fv : Den}
def SetW (X : Cx) : TSet := fun o i v H Q => ∀ pins s σ ov iv u, Inv X pins σ H s → RelV o ov → RelV i iv → RelV v u → wpAny (model X.prog X.w) X.A (setItem ov iv u) (fun _ s' => ∃ H', Inv X pins σ H' s' ∧ Q H') X.xe s
theorem pset_w {X : Cx} : PSet X (SetW X) := fun pins s σ H o i v ov iv u Q I ro ri rv h => h pins s σ ov iv u I ro ri rv
theorem SetW.of {X : Cx} {t : TSet} (h : PSet X t) {o i v : V} {H : Hp} {Q : Hp → Prop} (q : t o i v H Q) : SetW X o i v H Q := fun pins s σ ov iv u I ro ri rv => h pins s σ H o i v ov iv u Q I ro ri rv q
theorem plainTg_is {o i : Expr} {p : Pos} (h : plainIx i = true) (env : PySem.Env) (v : Value) : assign (.Subscript o i p) env v = (do
      let ov ← holding [v] (eval o env)
      let iv ← holding [v, ov] (eval i env)
      standAt p
      holding [v, ov, iv] (setItem ov iv v)
      release [v, ov, iv] []) := by
  cases i with
  | Slice _ _ _ _ => cases h
  | _ => rfl
theorem ss_setix {p : Pos} (hp : plainIx i = true) (hs : noComp e = true) (hn : noTup e = true) (ho : SE C o fo) (hi : SE C i fi) (he : SE C e fv) : SS C (.Assign [.Subscript o i p] e pos) (sSetIx fo fi fv) := by
  intro ca cal k X W w ρ M σ H D n q
  refine WS.of (ps_asg pe_we (pg_sub pe_we pe_we pset_w (fun _ => plainTg_is hp X.env _)) (noComp_sole hs _ _ _) (noSwap_is hn X.env) rfl) ?_
  refine he n (GdS.of q n.sl fun v M1 w1 H1 vv l1 R1 r1 q1 => ?_)
  have n1 := n.up l1 R1
  refine ho n1 (GdS.of q1 n1.sl fun ov M2 w2 H2 vo l2 R2 r2 q2 => ?_)
  have n2 := n1.up l2 R2
  refine hi n2 (GdS.of q2 n2.sl fun iv M3 w3 H3 vi l3 R3 r3 q3 => ?_)
  have n3 := n2.up l3 R3
  cases e1 : setD ov iv v M3 with
  | none => rw [e1] at q3; exact False.elim q3
  | some M4 =>
    rw [e1] at q3
    rcases setD_inv e1 with ⟨m, kk, xs, j, rfl, rfl, em, ej, hf, rfl⟩ | ⟨m, ks, vs, ks', vs', rfl, em, ed, hf, rfl⟩
    · obtain ⟨a, vs, rfl, ea, en, hH, rs⟩ := R3.cellL (r2.up l3) em
      cases r3
      refine SetW.of set_list ⟨a, vs, kk, j, rfl, rfl, hH, by rw [← rs.length]; exact ej, ?_⟩
      have hfx : frees xs = true := R3.fr _ (List.mem_of_getElem? em)
      exact q3 w3 σ _ (.refl _) (R3.putL ea en em (frees_set hfx hf j) (rs.set ((r1.up l2).up l3) j)) n3.sl
    · obtain ⟨a, H', rfl, dp, R'⟩ := R3.dput (r2.up l3) em r3 ((r1.up l2).up l3) ed hf
      exact SetW.of (set_dict (by have := n.ok.room.un; omega)) ⟨a, H', rfl, dp, q3 w3 σ _ (.refl _) R' n3.sl⟩
end
open Classical in
/-- for: the items one after the other; chk: the list that is walked is still as it was -/
noncomputable def forL (chk : Mem → Prop) (t : Tgt) (body : SDen) : List D → SDen
  | [] => fun _ ρ M => if chk M then .ok .nx ρ M else .bad
  | d :: ds => fun cal ρ M => if chk M then match t.go d ρ with
    | none => .bad
    | some ρ1 => match body cal ρ1 M with
      | .ok .nx ρ2 M2 => forL chk t body ds cal ρ2 M2
      | .ok .ct ρ2 M2 => forL chk t body ds cal ρ2 M2
      | .ok .bk ρ2 M2 => .ok .nx ρ2 M2
      | .ok (.rt d) ρ2 M2 => .ok (.rt d) ρ2 M2
      | .exn c ks vs ρ2 M2 => .exn c ks vs ρ2 M2
      | .bad => .bad
    else .bad
/-- while: at most so many turns -/
def whileL (c : DenB) (body : SDen) : Nat → SDen
  | 0 => fun _ _ _ => .bad
  | n + 1 => fun cal ρ M => SR.of (c cal ρ M) ρ fun b M1 => if b = true then match body cal ρ M1 with
      | .ok .nx ρ2 M2 => whileL c body n cal ρ2 M2
      | .ok .ct ρ2 M2 => whileL c body n cal ρ2 M2
      | .ok .bk ρ2 M2 => .ok .nx ρ2 M2
      | .ok (.rt d) ρ2 M2 => .ok (.rt d) ρ2 M2
      | .exn c ks vs ρ2 M2 => .exn c ks vs ρ2 M2
      | .bad => .bad
    else .ok .nx ρ M1
section
variable {C : Cfg} {pos : Pos} {c tg it : Expr} {bs : List Stmt} {tc : DenB} {body : SDen} {t : Tgt}
theorem ss_while (fuel : Nat) (hc : ST C c tc) (hb : SSs C bs body) : SS C (.While c bs [] pos) (whileL tc body fuel) := by
  intro ca cal k X W w ρ M σ H D n q
  refine WS.of (ps_while n.ok.po pt_wt pss_ws) ⟨fun m σ' H' => ∃ w' ρ' M', Now C ca cal k X W w' ρ' M' σ' H' ∧ GdS X.K w' D W (whileL tc body m cal ρ' M'), ⟨fuel, w, ρ, M, n, q⟩, ?_⟩
  rintro m σ' H' ⟨w', ρ', M', n', q'⟩
  cases m with
  | zero => exact False.elim q'
  | succ m =>
    refine hc n' (GdS.of q' n'.sl fun b M1 w1 H1 v l1 R1 r1 q1 => ?_)
    subst r1
    have n1 := n'.up l1 R1
    cases b with
    | false => exact q1 w1 σ' H1 (.refl _) R1 n1.sl
    | true =>
      refine ⟨fun σ2 H2 => ∃ w2 ρ2 M2, Now C ca cal k X W w2 ρ2 M2 σ2 H2 ∧ GdS X.K w2 D W (whileL tc body m cal ρ2 M2), fun σ2 H2 ⟨w2, ρ2, M2, n2, q2⟩ => ⟨m, Nat.lt_succ_self m, w2, ρ2, M2, n2, q2⟩, ?_⟩
      refine hb n1 ?_
      have q1 : GdS X.K w1 D W (match body cal ρ' M1 with
        | .ok .nx ρ2 M2 => whileL tc body m cal ρ2 M2
        | .ok .ct ρ2 M2 => whileL tc body m cal ρ2 M2
        | .ok .bk ρ2 M2 => .ok .nx ρ2 M2
        | .ok (.rt d) ρ2 M2 => .ok (.rt d) ρ2 M2
        | .exn c ks vs ρ2 M2 => .exn c ks vs ρ2 M2
        | .bad => .bad) := q1
      split at q1 <;> rename_i hr <;> rw [hr]
      · exact fun w2 σ2 H2 l2 R2 s2 => ⟨w2, _, _, n1.step l2 R2 s2, q1.up l2⟩
      · exact fun w2 σ2 H2 l2 R2 s2 => ⟨w2, _, _, n1.step l2 R2 s2, q1.up l2⟩
      · exact q1
      · exact q1
      · exact q1
      · exact q1
/-- what a for walks: the items; chk says that they still stand -/
structure Src where
  ds : List D
  chk : Mem → Prop
abbrev DenI := Cal → Env → Mem → R Src
/-- the iterator J yields these items -/
structure Yields (K : PySem.W.Frag) (w : Wd) (J : It) (S : Src) : Prop where
  stop : ∀ {i : Nat} {w' : Wd} {M : Mem} {H : Hp}, w.Le w' → Rel K w' M H → S.chk M → S.ds.length ≤ i → J.stop i H
  go : ∀ {i : Nat} {w' : Wd} {M : Mem} {H : Hp}, w.Le w' → Rel K w' M H → S.chk M → i < S.ds.length → J.go i H
  yld : ∀ {i : Nat} {w' : Wd} {M : Mem} {H H' : Hp} {x : V} {d : D}, w.Le w' → Rel K w' M H → S.chk M → S.ds[i]? = some d → J.yld i H x H' → ∃ w2, w'.Le w2 ∧ Rel K w2 M H' ∧ Rep K w2 d x
def IW (X : Cx) (tg it : Expr) : TI := fun σ H R => ∀ pins s, Inv X pins σ H s → wpAny (model X.prog X.w) X.A (eval it X.env) (fun v s1 => wpAny (model X.prog X.w) X.A (pyIter v) (PIE X pins σ tg R) X.xe s1) X.xe s
theorem pi_iw {X : Cx} {tg it : Expr} : PI X tg it (IW X tg it) := ⟨fun pins s σ H R I h => h pins s I⟩
theorem IW.of {X : Cx} {tg it : Expr} {t : TI} (h : PI X tg it t) {σ : L2.St} {H : Hp} {R : It → Hp → Prop} (q : t σ H R) : IW X tg it σ H R := fun pins s I => h.run pins s σ H R I q
/-- the iterable gives these items -/
def SI (C : Cfg) (tg it : Expr) (f : DenI) : Prop := ∀ {ca : Nat → Addr} {cal : Cal} {k : Nat} {X : Cx} {W : WX} {w : Wd} {ρ : Env} {M : Mem} {σ : L2.St} {H : Hp} {Q : It → Hp → Prop},
  Now C ca cal k X W w ρ M σ H → Gd X.K w W σ (fun w' S J => Yields X.K w' J S) Q (f cal ρ M) → IW X tg it σ H Q
noncomputable def sFor (t : Tgt) (f : DenI) (body : SDen) : SDen := fun cal ρ M => SR.of (f cal ρ M) ρ fun S M1 => forL S.chk t body S.ds cal ρ M1
def noSet : Expr → Bool
  | .Set _ _ _ => false
  | _ => true
theorem noSet_is {e : Expr} (h : noSet e = true) (env : PySem.Env) (x : Value) : foldedSetIterable e env x = pure x := by
  cases e with
  | Set _ _ _ => cases h
  | _ => rfl
theorem ss_for {f : DenI} (hs : noSet it = true) (hi : SI C tg it f) (ht : SG C tg t) (hb : SSs C bs body) : SS C (.For tg it bs [] pos) (sFor t f body) := by
  intro ca cal k X W w ρ M σ H D n q
  refine WS.of (ps_for n.ok.po n.ok.calm pi_iw pg_gw pss_ws (noSet_is hs X.env)) ?_
  refine hi n (GdS.of q n.sl fun S M1 w1 H1 J l1 R1 Y q1 => ?_)
  have n1 := n.up l1 R1
  refine ⟨fun i m σ' H' => m = S.ds.length - i ∧ ∃ w' ρ' M', w1.Le w' ∧ Now C ca cal k X W w' ρ' M' σ' H' ∧ GdS X.K w' D W (forL S.chk t body (S.ds.drop i) cal ρ' M'), ⟨_, rfl, w1, ρ, M1, .refl _, n1, by rw [List.drop_zero]; exact q1⟩, ?_⟩
  rintro i m σ' H' ⟨rfl, w', ρ', M', l', n', q'⟩
  by_cases hlt : i < S.ds.length
  · have ed : S.ds.drop i = S.ds[i] :: S.ds.drop (i + 1) := (List.drop_eq_getElem_cons hlt)
    rw [ed] at q'
    unfold forL at q'
    by_cases hk : S.chk M'
    · rw [if_pos hk] at q'
      cases et : t.go S.ds[i] ρ' with
      | none => rw [et] at q'; exact False.elim q'
      | some ρ1 =>
        rw [et] at q'
        refine .inr ⟨Y.go l' n'.rel hk hlt, fun σ2 H2 => ∃ w2 ρ2 M2, w1.Le w2 ∧ Now C ca cal k X W w2 ρ2 M2 σ2 H2 ∧ GdS X.K w2 D W (forL S.chk t body (S.ds.drop (i + 1)) cal ρ2 M2),
          fun σ2 H2 ⟨w2, ρ2, M2, l2, n2, q2⟩ => ⟨S.ds.length - (i + 1), by omega, rfl, w2, ρ2, M2, l2, n2, q2⟩, fun x H2 hy => ?_⟩
        obtain ⟨w2, l2, R2, rx⟩ := Y.yld l' n'.rel hk (List.getElem?_eq_getElem hlt) hy
        have n2 := n'.up l2 R2
        refine ht n2 rx et fun σ3 s3 _ => ?_
        have n3 := n2.step (.refl w2) R2 s3
        refine hb n3 ?_
        have q2 := GdS.up q' l2
        have q2 : GdS X.K w2 D W (match body cal ρ1 M' with
          | .ok .nx ρ2 M2 => forL S.chk t body (S.ds.drop (i + 1)) cal ρ2 M2
          | .ok .ct ρ2 M2 => forL S.chk t body (S.ds.drop (i + 1)) cal ρ2 M2
          | .ok .bk ρ2 M2 => .ok .nx ρ2 M2
          | .ok (.rt d) ρ2 M2 => .ok (.rt d) ρ2 M2
          | .exn c ks vs ρ2 M2 => .exn c ks vs ρ2 M2
          | .bad => .bad) := q2
        split at q2 <;> rename_i hr <;> rw [hr]
        · exact fun w4 σ4 H4 l4 R4 s4 => ⟨w4, _, _, (l'.trans l2).trans l4, n3.step l4 R4 s4, q2.up l4⟩
        · exact fun w4 σ4 H4 l4 R4 s4 => ⟨w4, _, _, (l'.trans l2).trans l4, n3.step l4 R4 s4, q2.up l4⟩
        · exact q2
        · exact q2
        · exact q2
        · exact q2
    · rw [if_neg hk] at q'; exact False.elim q'
  · rw [List.drop_eq_nil_of_le (by omega)] at q'
    unfold forL at q'
    by_cases hk : S.chk M'
    · rw [if_pos hk] at q'
      exact .inl ⟨Y.stop l' n'.rel hk (by omega), q' w' σ' H' (.refl _) n'.rel n'.sl⟩
    · rw [if_neg hk] at q'; exact False.elim q'
def rgOk (j : Int) : Prop := -(2 ^ 62) ≤ j ∧ j < 2 ^ 62
instance (j : Int) : Decidable (rgOk j) := by unfold rgOk; infer_instance
def rgOk2 (i j : Int) : Prop := -(2 ^ 62) ≤ i ∧ i < 2 ^ 62 ∧ -(2 ^ 62) ≤ j ∧ j < 2 ^ 62
instance (i j : Int) : Decidable (rgOk2 i j) := by unfold rgOk2; infer_instance
theorem rgOk_of {j : Int} (h1 : -1000000000 ≤ j) (h2 : j ≤ 1000000000) : rgOk j := ⟨by omega, by omega⟩
theorem rgOk2_of {i j : Int} (h1 : -1000000000 ≤ i) (h2 : i ≤ 1000000000) (h3 : -1000000000 ≤ j) (h4 : j ≤ 1000000000) : rgOk2 i j := ⟨by omega, by omega, by omega, by omega⟩
/-- a range by ones -/
def iRg1 (fs : Dens) : DenI := fun cal ρ M => (fs cal ρ M).bind fun ds M1 => match ds with
  | [.int j] => if rgOk j then .ok ⟨(List.range j.toNat).map fun i => .int (i : Nat), fun _ => True⟩ M1 else .bad
  | _ => .bad
def iRg2 (fs : Dens) : DenI := fun cal ρ M => (fs cal ρ M).bind fun ds M1 => match ds with
  | [.int i, .int j] => if rgOk2 i j then .ok ⟨(List.range (j - i).toNat).map fun m => .int (i + (m : Nat)), fun _ => True⟩ M1 else .bad
  | _ => .bad
theorem yields_range {K : PySem.W.Frag} {w : Wd} (lo : Int) (m : Nat) : Yields K w (Itr lo m) ⟨(List.range m).map fun i => .int (lo + (i : Nat)), fun _ => True⟩ where
  stop := fun {i w' M H} _ _ _ h => by simpa [Itr] using h
  go := fun {i w' M H} _ _ _ h => by simpa [Itr] using h
  yld := fun {i w' M H H' x d} l R _ h y => by
    obtain ⟨e, rfl⟩ := (show H' = H ∧ x = V.int (lo + (i : Nat)) from y)
    subst e
    rw [List.getElem?_map] at h
    obtain ⟨j, e1, e2⟩ := Option.map_eq_some_iff.mp h
    obtain ⟨h1, e3⟩ := List.getElem?_eq_some_iff.mp e1
    rw [List.getElem_range] at e3
    subst e2 e3
    exact ⟨w', .refl _, R, .int _⟩
theorem si_rg1 {a : Expr} {p : Pos} {fs : Dens} (hl : C.look "range" = some .globalImplicit) (hb : ("range" : Str) ∈ C.T.blt) (hs : noStar a = true) (ha : SA C [a] fs) : SI C tg (.Call (.Name "range" p) [a] [] pos) (iRg1 fs) := by
  intro ca cal k X W w ρ M σ H Q n q
  refine IW.of (pi_range1 (gl_of n hl) (n.ok.gx.blt _ hb) pa_wa (by rw [starEach_cons hs]; rfl)) ?_
  refine ha n (Gd.bind q fun ds M1 w1 H1 vs l1 R1 r1 q1 => ?_)
  match ds, r1, q1 with
  | [.int j], .cons (.int _) .nil, q1 =>
    by_cases h : rgOk j
    · have q1 : Gd X.K w1 W σ (fun w' S J => Yields X.K w' J S) Q (if rgOk j then .ok ⟨(List.range j.toNat).map fun i => .int (i : Nat), fun _ => True⟩ M1 else .bad) := q1
      rw [if_pos h] at q1
      have Y := yields_range (K := X.K) (w := w1) 0 j.toNat
      simp only [Int.zero_add] at Y
      exact ⟨j, rfl, h.1, h.2, Gd.ok q1 R1 Y⟩
    · have q1 : Gd X.K w1 W σ (fun w' S J => Yields X.K w' J S) Q (if rgOk j then .ok ⟨(List.range j.toNat).map fun i => .int (i : Nat), fun _ => True⟩ M1 else .bad) := q1
      rw [if_neg h] at q1; exact False.elim q1
theorem si_rg2 {a b : Expr} {p : Pos} {fs : Dens} (hl : C.look "range" = some .globalImplicit) (hb : ("range" : Str) ∈ C.T.blt) (hs : noStar a = true) (hs2 : noStar b = true) (ha : SA C [a, b] fs) : SI C tg (.Call (.Name "range" p) [a, b] [] pos) (iRg2 fs) := by
  intro ca cal k X W w ρ M σ H Q n q
  have e2 : starEach [b] X.env = [(false, eval b X.env)] := by rw [starEach_cons hs2]; rfl
  refine IW.of (pi_range2 (gl_of n hl) (n.ok.gx.blt _ hb) pa_wa (by rw [starEach_cons hs, e2]) e2) ?_
  refine ha n (Gd.bind q fun ds M1 w1 H1 vs l1 R1 r1 q1 => ?_)
  match ds, r1, q1 with
  | [.int i, .int j], .cons (.int _) (.cons (.int _) .nil), q1 =>
    have q1 : Gd X.K w1 W σ (fun w' S J => Yields X.K w' J S) Q (if rgOk2 i j then .ok ⟨(List.range (j - i).toNat).map fun m => .int (i + (m : Nat)), fun _ => True⟩ M1 else .bad) := q1
    by_cases h : rgOk2 i j
    · rw [if_pos h] at q1
      exact ⟨i, j, rfl, h, Gd.ok q1 R1 (yields_range i (j - i).toNat)⟩
    · rw [if_neg h] at q1; exact False.elim q1
/-- a list or a tuple -/
def srcD (M : Mem) (d : D) : Option Src := match d with
  | .lst _ xs => some ⟨xs, fun _ => True⟩
  | .scr xs => some ⟨xs, fun _ => True⟩
  | .tup xs => some ⟨xs, fun _ => True⟩
  | .ref n => match M[n]? with
    | some (.lst xs) => some ⟨xs, fun M' => M'[n]? = some (.lst xs)⟩
    | _ => none
  | _ => none
def iSeq (f : Den) : DenI := fun cal ρ M => (f cal ρ M).bind fun d M1 => R.opt (srcD M1 d) M1
theorem sqL_inj {K : PySem.W.Frag} {H : Hp} {a : Addr} {vs : List V} (h : H a = some (.lst vs)) {X : Cx} : SqL K H a vs := SqL.of h
/-- a list that stands at an address as long as chk holds -/
theorem yields_list {X : Cx} {w : Wd} {a : Addr} {xs : List D} {chk : Mem → Prop} (h : ∀ {w' : Wd} {M : Mem} {H : Hp}, w.Le w' → Rel X.K w' M H → chk M → ∃ vs, SqL X.K H a vs ∧ Reps X.K w' xs vs) : Yields X.K w (Itl X.K a) ⟨xs, chk⟩ where
  stop := fun {i w' M H} l R c hi => by
    obtain ⟨vs, h1, r⟩ := h l R c
    exact ⟨vs, h1, by rw [← r.length]; exact hi⟩
  go := fun {i w' M H} l R c hi => by
    obtain ⟨vs, h1, r⟩ := h l R c
    obtain ⟨v, h2, _⟩ := r.get (i := i) (List.getElem?_eq_getElem hi)
    exact ⟨vs, v, h1, h2⟩
  yld := fun {i w' M H H' x d} l R c e y => by
    obtain ⟨e1, y1⟩ := (show H' = H ∧ ∀ xs, SqL X.K H a xs → xs[i]? = some x from y)
    subst e1
    obtain ⟨vs, h1, r⟩ := h l R c
    obtain ⟨v, h2, r2⟩ := r.get e
    have := y1 vs h1
    rw [h2] at this
    cases this
    exact ⟨w', .refl _, R, r2⟩
theorem yields_tup {X : Cx} {w : Wd} {a : Addr} {xs : List D} (h : ∀ {w' : Wd} {M : Mem} {H : Hp}, w.Le w' → Rel X.K w' M H → ∃ vs, SqT X.K H a vs ∧ Reps X.K w' xs vs) : Yields X.K w (Itt X.K a) ⟨xs, fun _ => True⟩ where
  stop := fun {i w' M H} l R c hi => by
    obtain ⟨vs, h1, r⟩ := h l R
    exact ⟨vs, h1, by rw [← r.length]; exact hi⟩
  go := fun {i w' M H} l R c hi => by
    obtain ⟨vs, h1, r⟩ := h l R
    obtain ⟨v, h2, _⟩ := r.get (i := i) (List.getElem?_eq_getElem hi)
    exact ⟨vs, v, h1, h2⟩
  yld := fun {i w' M H H' x d} l R c e y => by
    obtain ⟨e1, y1⟩ := (show H' = H ∧ ∀ xs, SqT X.K H a xs → xs[i]? = some x from y)
    subst e1
    obtain ⟨vs, h1, r⟩ := h l R
    obtain ⟨v, h2, r2⟩ := r.get e
    have := y1 vs h1
    rw [h2] at this
    cases this
    exact ⟨w', .refl _, R, r2⟩
theorem Gd.bindE {A B A' B' : Type} {K : PySem.W.Frag} {w : Wd} {W : WX} {σ : L2.St} {rel : Wd → A → B → Prop} {rel' : Wd → A' → B' → Prop} {Q : B → Hp → Prop} {Q' : B' → Hp → Prop} {r : R A'} {f : A' → Mem → R A} (h : Gd K w W σ rel Q (r.bind f))
    (k : ∀ d M w' H b, r = .ok d M → w.Le w' → Rel K w' M H → rel' w' d b → Gd K w' W σ rel Q (f d M) → Q' b H) : Gd K w W σ rel' Q' r := by
  cases r with
  | ok d M => exact fun w' H b l R q => k d M w' H b rfl l R q (Gd.up (show Gd K w W σ rel Q (f d M) from h) l)
  | exn c ks vs M => exact h
  | bad => exact h
theorem si_seq {f : Den} (he : SE C it f) : SI C tg it (iSeq f) := by
  intro ca cal k X W w ρ M σ H Q n q
  by_cases ht : ∃ xs M1, f cal ρ M = .ok (.tup xs) M1
  · obtain ⟨xs, M1', e⟩ := ht
    refine IW.of (pi_tup pe_we) ?_
    refine he n (Gd.bindE q fun d M1 w1 H1 v er l1 R1 r1 q1 => ?_)
    rw [e] at er
    cases er
    cases r1 with
    | tup h r =>
      refine ⟨_, rfl, ⟨_, SqT.of (R1.tup h)⟩, Gd.ok q1 R1 (yields_tup fun {w' M H} l R => ?_)⟩
      exact ⟨_, SqT.of (R.tup (l.g _ _ h)), r.up l⟩
  · refine IW.of (pi_list pe_we) ?_
    refine he n (Gd.bindE q fun d M1 w1 H1 v er l1 R1 r1 q1 => ?_)
    obtain ⟨S, e, q2⟩ := Gd.opt q1
    cases r1 with
    | tup h r => exact absurd ⟨_, _, er⟩ ht
    | lst h r =>
      cases e
      refine ⟨_, rfl, ⟨_, SqL.of (R1.lst h)⟩, q2.ok R1 (yields_list fun {w' M H} l R _ => ?_)⟩
      rename_i t _ _ _ _
      exact ⟨_, SqL.of (R.lst (t := t) (by cases t with | true => exact l.b _ _ h | false => exact l.g _ _ h)), r.up l⟩
    | scr h r =>
      cases e
      exact ⟨_, rfl, ⟨_, R1.sqL h⟩, q2.ok R1 (yields_list fun {w' M H} l R _ => ⟨_, R.sqL (SqL.up l.g h), r.up l⟩)⟩
    | @ref m a h =>
      have e : (match M1[m]? with | some (.lst xs) => some ⟨xs, fun M' => M'[m]? = some (.lst xs)⟩ | _ => none) = some S := e
      split at e
      · rename_i xs em
        cases e
        obtain ⟨a', vs, e1, ea, en, hH, rs⟩ := R1.cellL (.ref h) em
        cases e1
        refine ⟨_, rfl, ⟨_, SqL.of hH⟩, q2.ok R1 (yields_list fun {w' M H} l R c => ?_)⟩
        obtain ⟨a2, us, e2, ea2, en2, hH2, rs2⟩ := R.cellL (.ref (l.at h)) c
        cases e2
        exact ⟨_, SqL.of hH2, rs2⟩
      · cases e
    | _ => cases e
end
end Vm

namespace Vm
open PySem PySem.Spec L2

structure Loose (w : Wd) (p : Addr) : Prop where
  f : w.F p = none
  m : p ∉ w.mu
  n : p ∉ w.nu.flatten
  k : p ∉ w.lk
abbrev Wd.frm (w : Wd) (p : Addr) (o : HO) : Wd := { w with F := upd w.F p o }
abbrev Wd.unf (w : Wd) (p : Addr) : Wd := { w with F := fun a => if a = p then none else w.F a }
section
variable {K : PySem.W.Frag} {w w' : Wd} {M M' : Mem} {H H' : Hp} {p : Addr} {o : HO}
theorem Rel.noF (R : Rel K w M H) (h : w.F p = none) : w.B p = none ∧ w.G p = none := by
  have hB := none_up R.bf h
  exact ⟨hB, none_up R.gb hB⟩
theorem Rel.loose (R : Rel K w M H) (h : H p = none) : Loose w p :=
  ⟨(R.noneG h).1, (R.notMu h).1, (R.notMu h).2, fun z => R.lkB z (R.noneG h).1⟩
theorem Rel.wr (R : Rel K w M H) (l : Loose w p) : Rel K w M (upd H p o) := by
  have nF : ∀ {a u}, w.F a = some u → a ≠ p := fun {a u} e z => by rw [z, l.f] at e; cases e
  refine ⟨R.gb, R.bf, fun a u e hk => ?_, fun a u e hk => ?_, R.lkB, R.len, R.len2, R.nd, R.off, R.off2, R.fr, fun n c a bs h1 h2 h3 => ?_⟩
  · rw [upd_ne (nF e)]; exact R.bh a u e hk
  · obtain ⟨d, ob, q⟩ := R.bl a u e hk
    exact ⟨d, ob, by rw [upd_ne (nF e)]; exact q⟩
  · exact (R.cell n c a bs h1 h2 h3).up (.refl w) (upd_ne fun z => l.m (by rw [← z]; exact List.mem_of_getElem? h2)) fun b hb => upd_ne fun z => l.n (by rw [← z]; exact mem_flat h3 hb)
theorem frmLe (l : Loose w p) : w.Le (w.frm p o) := ⟨fun _ _ h => h, fun _ _ h => h, upd_le l.f, fun _ h => .inl h, fun _ h => .inl h, ⟨[], by simp⟩, rfl, rfl⟩
theorem Rel.frm (R : Rel K w M H) (l : Loose w p) (h : H p = some o) : Rel K (w.frm p o) M H := by
  obtain ⟨nB, nG⟩ := R.noF l.f
  refine ⟨R.gb, fun a u e => ?_, fun a u e hk => ?_, fun a u e hk => ?_, fun {a} ha => ?_, R.len, R.len2, R.nd, fun a ha => ?_, fun a ha => ?_, R.fr, fun n c a bs h1 h2 h3 => (R.cell n c a bs h1 h2 h3).up (frmLe l) rfl fun _ _ => rfl⟩
  · show upd w.F p o a = some u
    rw [upd_ne fun z => by rw [z, nB] at e; cases e]
    exact R.bf a u e
  · have e : upd w.F p o a = some u := e
    by_cases z : a = p
    · subst z; rw [upd_same] at e; rw [h, e]
    · rw [upd_ne z] at e; exact R.bh a u e hk
  · have e : upd w.F p o a = some u := e
    have z : a ≠ p := fun z => l.k (by rw [← z]; exact hk)
    rw [upd_ne z] at e
    exact R.bl a u e hk
  · show upd w.F p o a ≠ none
    rw [upd_ne fun z => l.k (by rw [← z]; exact ha)]
    exact R.lkB ha
  · show upd w.F p o a = none
    rw [upd_ne fun z => l.m (by rw [← z]; exact ha)]
    exact R.off a ha
  · show upd w.F p o a = none
    rw [upd_ne fun z => l.n (by rw [← z]; exact ha)]
    exact R.off2 a ha
theorem unf_ne {a : Addr} (h : a ≠ p) : (w.unf p).F a = w.F a := if_neg h
theorem unf_same : (w.unf p).F p = none := if_pos rfl
/-- the frame is taken away again -/
theorem Rel.unfrm (l : (w.frm p o).Le w') (R : Rel K w M H) (R' : Rel K w' M' H') (f : Loose w p) : H' p = some o ∧ Loose (w'.unf p) p ∧ Rel K (w'.unf p) M' H' ∧ w.Le (w'.unf p) := by
  have hF : w'.F p = some o := l.r p o upd_same
  have hk : p ∉ w'.lk := by rw [l.k]; exact f.k
  obtain ⟨nB, nG⟩ := R.noF f.f
  have nG' : w'.G p = none := by
    cases e : w'.G p with
    | none => rfl
    | some u =>
      rcases l.f p (by rw [e]; intro z; cases z) with z | z
      · exact absurd nG z
      · rw [show (w.frm p o).F p = some o from upd_same] at z; cases z
  have nB' : w'.B p = none := by
    cases e : w'.B p with
    | none => rfl
    | some u =>
      rcases l.f2 p (by rw [e]; intro z; cases z) with z | z
      · exact absurd nB z
      · rw [show (w.frm p o).F p = some o from upd_same] at z; cases z
  have nm : p ∉ w'.mu := fun z => by rw [R'.off p z] at hF; cases hF
  have nn : p ∉ w'.nu.flatten := fun z => by rw [R'.off2 p z] at hF; cases hF
  refine ⟨R'.bh p o hF hk, ⟨unf_same, nm, nn, hk⟩, ⟨R'.gb, fun a u e => ?_, fun a u e q => ?_, fun a u e q => ?_, fun {a} ha => ?_, R'.len, R'.len2, R'.nd, fun a ha => ?_, fun a ha => ?_, R'.fr, fun n c a bs h1 h2 h3 => ?_⟩, ⟨l.g, l.b, fun a u e => ?_, fun a e => ?_, fun a e => ?_, l.m, l.c, l.k⟩⟩
  · rw [unf_ne fun z => by rw [z, nB'] at e; cases e]; exact R'.bf a u e
  · have z : a ≠ p := fun z => by rw [z, unf_same] at e; cases e
    rw [unf_ne z] at e; exact R'.bh a u e q
  · have z : a ≠ p := fun z => by rw [z, unf_same] at e; cases e
    rw [unf_ne z] at e; exact R'.bl a u e q
  · have z : a ≠ p := fun z => hk (by rw [← z]; exact ha)
    rw [unf_ne z]; exact R'.lkB ha
  · rw [unf_ne fun z => nm (by rw [← z]; exact ha)]; exact R'.off a ha
  · rw [unf_ne fun z => nn (by rw [← z]; exact ha)]; exact R'.off2 a ha
  · have q := R'.cell n c a bs h1 h2 h3
    cases q with
    | lst h r => exact .lst h (Reps.off (w := w') (w' := w'.unf p) (fun _ _ h => h) (fun _ _ h => h) rfl r (R'.fr _ (List.mem_of_getElem? h1)))
    | dic h q r => exact .dic h q (Reps.off (w := w') (w' := w'.unf p) (fun _ _ h => h) (fun _ _ h => h) rfl r (R'.fr _ (List.mem_of_getElem? h1)))
    | ins h hl r => exact .ins h hl (Reps.off (w := w') (w' := w'.unf p) (fun _ _ h => h) (fun _ _ h => h) rfl r (R'.fr _ (List.mem_of_getElem? h1)))
    | lck h q r => exact .lck h q (Reps.off (w := w') (w' := w'.unf p) (fun _ _ h => h) (fun _ _ h => h) rfl r (R'.fr _ (List.mem_of_getElem? h1)))
    | nest h r =>
      have hfr : ∀ row ∈ _, frees row = true := List.all_eq_true.mp (show _ from R'.fr _ (List.mem_of_getElem? h1))
      refine .nest h ?_
      clear h h1 h2 h3
      induction r with
      | nil => exact .nil
      | cons q t ih =>
        obtain ⟨vs, e1, r1⟩ := q
        exact .cons ⟨vs, e1, Reps.off (w := w') (w' := w'.unf p) (fun _ _ h => h) (fun _ _ h => h) rfl r1 (hfr _ List.mem_cons_self)⟩ (ih fun row hr => hfr row (List.mem_cons_of_mem _ hr))
  · have z : a ≠ p := fun z => by rw [z, f.f] at e; cases e
    rw [unf_ne z]; exact l.r a u (by show upd w.F p o a = _; rw [upd_ne z]; exact e)
  · rcases l.f a e with h | h
    · exact .inl h
    · by_cases z : a = p
      · exact .inr (by rw [z]; exact f.f)
      · rw [show (w.frm p o).F a = w.F a from upd_ne z] at h; exact .inr h
  · rcases l.f2 a e with h | h
    · exact .inl h
    · by_cases z : a = p
      · exact .inr (by rw [z]; exact f.f)
      · rw [show (w.frm p o).F a = w.F a from upd_ne z] at h; exact .inr h
/-- only where the objects stand counts -/
theorem Rep.sim (hg : w'.G = w.G) (hb : w'.B = w.B) (hm : w'.mu = w.mu) (hc : w'.ca = w.ca) {d : D} {v : V} (h : Rep K w d v) : Rep K w' d v := by
  induction h using Rep.rec (motive_2 := fun ds vs _ => Reps K w' ds vs) with
  | non => exact .non
  | bl b => exact .bl b
  | int i => exact .int i
  | str s => exact .str s
  | tup h _ r => exact .tup (by rw [hg]; exact h) r
  | lst h _ r => exact .lst (by rw [hg, hb]; exact h) r
  | dic h q _ r => exact .dic (by rw [hg, hb]; exact h) q r
  | obj h hl _ r => exact .obj (by rw [hg, hc]; exact h) hl r
  | ref h => exact .ref (by rw [hm]; exact h)
  | scr h _ r => exact .scr (by rw [hg]; exact h) r
  | err h => exact .err (by rw [hg, hc]; exact h)
  | nil => exact .nil
  | cons _ _ h t => exact .cons h t
theorem Reps.sim (hg : w'.G = w.G) (hb : w'.B = w.B) (hm : w'.mu = w.mu) (hc : w'.ca = w.ca) : ∀ {ds : List D} {vs : List V}, Reps K w ds vs → Reps K w' ds vs
  | _, _, .nil => .nil
  | _, _, .cons h t => .cons (h.sim hg hb hm hc) (Reps.sim hg hb hm hc t)
theorem Rel.adoptLe (R : Rel K w M H) (l : Loose w p) : w.Le (w.add p o) := by
  obtain ⟨hB, hG⟩ := R.noF l.f
  refine ⟨upd_le hG, upd_le hB, upd_le l.f, fun a e => ?_, fun a e => ?_, ⟨[], by simp [Wd.add]⟩, rfl, rfl⟩
  · exact (upd_new (A := w.G) e).imp id fun h => by rw [h]; exact l.f
  · exact (upd_new (A := w.B) e).imp id fun h => by rw [h]; exact l.f
/-- an object that stands already is said never to change -/
theorem Rel.adopt (R : Rel K w M H) (l : Loose w p) (h : H p = some o) : Rel K (w.add p o) M H := by
  refine ⟨upd_sub R.gb, upd_sub R.bf, fun a u e hk => ?_, fun a u e hk => ?_, fun {a} ha => ?_, R.len, R.len2, R.nd, fun a ha => ?_, fun a ha => ?_, R.fr, fun n c a bs h1 h2 h3 => (R.cell n c a bs h1 h2 h3).up (R.adoptLe l) rfl fun _ _ => rfl⟩
  · have e : upd w.F p o a = some u := e
    by_cases z : a = p
    · subst z; rw [upd_same] at e; rw [h, e]
    · rw [upd_ne z] at e; exact R.bh a u e hk
  · have e : upd w.F p o a = some u := e
    have z : a ≠ p := fun z => l.k (by rw [← z]; exact hk)
    rw [upd_ne z] at e
    exact R.bl a u e hk
  · show upd w.F p o a ≠ none
    rw [upd_ne fun z => l.k (by rw [← z]; exact ha)]
    exact R.lkB ha
  · show upd w.F p o a = none
    rw [upd_ne fun z => l.m (by rw [← z]; exact ha)]
    exact R.off a ha
  · show upd w.F p o a = none
    rw [upd_ne fun z => l.n (by rw [← z]; exact ha)]
    exact R.off2 a ha
/-- an object that stands already becomes a cell -/
theorem Rel.celA (R : Rel K w M H) (l : Loose w p) {c : Cell} (hf : c.fr = true) (hc : CellR K (w.cel p []) H p [] c) : Rel K (w.cel p []) (M ++ [c]) H := by
  have hl := R.len
  have hl2 := R.len2
  have flat : (w.nu ++ [([] : List Addr)]).flatten = w.nu.flatten := by simp
  refine ⟨R.gb, R.bf, R.bh, R.bl, R.lkB, ?_, ?_, ?_, fun a ha => ?_, fun a ha => ?_, fun c' hc' => ?_, fun n c' a bs h1 h2 h3 => ?_⟩
  · rw [List.length_append, List.length_append, R.len]; rfl
  · rw [List.length_append, List.length_append, R.len2]; rfl
  · show (w.mu ++ [p] ++ (w.nu ++ [([] : List Addr)]).flatten).Nodup
    rw [flat, List.append_assoc, List.singleton_append]
    have z := R.nd
    rw [List.nodup_append] at z ⊢
    refine ⟨z.1, List.nodup_cons.mpr ⟨l.n, z.2.1⟩, fun x hx y hy => ?_⟩
    rcases List.mem_cons.mp hy with rfl | hy
    · exact fun q => l.m (q ▸ hx)
    · exact z.2.2 x hx y hy
  · rcases List.mem_append.mp ha with h | h
    · exact R.off a h
    · rw [List.mem_singleton.mp h]; exact l.f
  · rw [show (w.cel p []).nu.flatten = w.nu.flatten from flat] at ha
    exact R.off2 a ha
  · rcases List.mem_append.mp hc' with h | h
    · exact R.fr c' h
    · rw [List.mem_singleton.mp h]; exact hf
  · by_cases hn : n < w.mu.length
    · rw [List.getElem?_append_left hn] at h2
      rw [List.getElem?_append_left (by rw [← hl]; exact hn)] at h1
      rw [List.getElem?_append_left (by rw [hl2, ← hl]; exact hn)] at h3
      exact (R.cell n c' a bs h1 h2 h3).up (Rel.celLe w p []) rfl fun _ _ => rfl
    · obtain ⟨_, rfl⟩ := last_of h2 hn
      obtain ⟨_, rfl⟩ := last_of h1 (by rw [← hl]; exact hn)
      obtain ⟨_, rfl⟩ := last_of h3 (by rw [hl2, ← hl]; exact hn)
      exact hc
/-- a list that stands already: data, or a cell -/
theorem Gd.newLA {W : WX} {σ : L2.St} {Q : VK} {bx : Bool} {xs : List D} (g : Gd K w W σ (Rep K) Q (Vm.newL bx xs M)) (R : Rel K w M H) (l : Loose w p) {vs : List V} (r : Reps K w xs vs) (h : H p = some (.lst vs)) : Q (.ref p) H := by
  cases bx with
  | true =>
    have g : Gd K w W σ (Rep K) Q (Vm.newC (.lst xs) M) := g
    unfold Vm.newC at g
    by_cases hf : (Cell.lst xs).fr = true
    · rw [if_pos hf] at g
      have le := Rel.celLe w p []
      refine g (w.cel p []) _ _ le (R.celA l hf (.lst h (r.up le))) (.ref ?_)
      rw [← R.len]
      exact List.getElem?_concat_length ..
    · rw [if_neg hf] at g; exact False.elim g
  | false =>
    have le := R.adoptLe (o := .lst vs) l
    exact g _ _ _ le (R.adopt l h) (.lst (t := false) upd_same (r.up le))
end

theorem R.bind_assoc {A B E : Type} (r : R A) (f : A → Mem → R B) (g : B → Mem → R E) : (r.bind f).bind g = r.bind fun a m => (f a m).bind g := by cases r <;> rfl
/-- nothing is raised -/
def R.noX {A : Type} (r : R A) : R A := match r with
  | .ok a m => .ok a m
  | _ => .bad
@[simp] theorem R.noX_ok {A : Type} (a : A) (m : Mem) : (R.ok a m).noX = .ok a m := rfl
/-- an environment without the slots of a comprehension's own names -/
def wipeD (ρ : Env) : List Nat → Env
  | [] => ρ
  | v :: vs => (wipeD ρ vs).set v none
open Classical in
noncomputable def compL (chk : Mem → Prop) (t : Tgt) (c : DenB) (e : Den) : List D → Cal → Env → Mem → R (List D)
  | [], _, _, M => if chk M then .ok [] M else .bad
  | d :: ds, cal, ρ, M => if chk M then match t.go d ρ with
    | none => .bad
    | some ρ1 => (c cal ρ1 M).noX.bind fun b M1 => if b = true then (e cal ρ1 M1).noX.bind fun y M2 => (compL chk t c e ds cal ρ M2).bind fun ys M3 => .ok (y :: ys) M3
      else compL chk t c e ds cal ρ M1
    else .bad
noncomputable def cLc (bx : Bool) (own : List Nat) (f : DenI) (t : Tgt) (c : DenB) (e : Den) : Den := fun cal ρ M => (f cal ρ M).bind fun S M1 => if S.ds.length ≤ sizeLine then
  (compL S.chk t c e S.ds cal (wipeD ρ own) M1).bind fun ys M2 => newL bx ys M2 else .bad
def tYesD : DenB := fun _ _ M => .ok true M

section
variable {K : PySem.W.Frag} {w : Wd}
theorem Slots.wipe {ρ : Env} {σ : L2.St} (s : Slots K w ρ σ) : ∀ vs : List Nat, Slots K w (wipeD ρ vs) (wipe σ vs)
  | [] => s
  | v :: vs => by
    have ih := s.wipe vs
    refine ⟨by unfold wipeD L2.wipe; rw [List.length_set, List.length_set]; exact ih.len, fun i d e => ?_⟩
    unfold wipeD at e
    unfold L2.wipe
    by_cases h : v = i
    · subst h
      by_cases hi : v < (wipeD ρ vs).length
      · rw [List.getElem?_set_self hi] at e; cases e
      · rw [List.getElem?_eq_none (by rw [List.length_set]; omega)] at e; cases e
    · rw [List.getElem?_set_ne h] at e ⊢
      exact ih.get i d e
theorem wipe_get (σ : L2.St) (i : Nat) : ∀ vs : List Nat, (L2.wipe σ vs)[i]? = if i ∈ vs then (σ[i]?).map fun _ => none else σ[i]?
  | [] => by simp [L2.wipe]
  | v :: vs => by
    unfold L2.wipe
    by_cases h : v = i
    · subst h
      rw [if_pos List.mem_cons_self]
      by_cases hv : v < σ.length
      · rw [List.getElem?_set_self (by rw [wipe_length]; exact hv), List.getElem?_eq_getElem hv]; rfl
      · rw [List.getElem?_eq_none (by rw [List.length_set, wipe_length]; omega), List.getElem?_eq_none (by omega)]; rfl
    · rw [List.getElem?_set_ne h, wipe_get σ i vs]
      have : (i ∈ v :: vs) ↔ i ∈ vs := by
        rw [List.mem_cons]
        exact ⟨fun z => z.resolve_left (Ne.symm h), .inr⟩
      simp only [this]
theorem wipe_keeps {σ σ' : L2.St} {ix vs : List Nat} (h : ∀ i ∈ ix, i ∈ vs) (k : Keeps ix (L2.wipe σ vs) σ') : L2.wipe σ' vs = L2.wipe σ vs := by
  apply List.ext_getElem?
  intro i
  rw [wipe_get σ' i vs, wipe_get σ i vs]
  by_cases hi : i ∈ vs
  · rw [if_pos hi, if_pos hi]
    have hl : σ'.length = σ.length := by rw [k.1, wipe_length]
    by_cases q : i < σ.length
    · rw [List.getElem?_eq_getElem q, List.getElem?_eq_getElem (by omega)]; rfl
    · rw [List.getElem?_eq_none (by omega), List.getElem?_eq_none (by omega)]
  · rw [if_neg hi, if_neg hi, k.2 i fun z => hi (h i z), wipe_get σ i vs, if_neg hi]
end
/-- the context of a comprehension's block -/
abbrev Cfg.blk (C : Cfg) (scope : Scope) : Cfg := { C with sc := relS scope C.sc, fnc := fun x => scope.names.lookup x == some .cell, top := false }
def blkOk (N : List Str) (sc scope : Scope) (own : List (Str × Nat)) : Bool :=
  decide (scope.kind = .function) && scope.names.all (fun y => decide (scope.names.lookup y.1 = some y.2)) && own.all (fun p => decide (N[p.2]? = some p.1)) &&
  scope.names.all (fun y => decide (y.2 ≠ .free) || decide (sc.names.lookup y.1 = some .cell) || decide (sc.names.lookup y.1 = some .free)) &&
  scope.names.all (fun y => decide (y.2 ≠ .local) && decide (y.2 ≠ .cell) || decide (y.1 ∈ own.map (·.1)) || decide (y.1 ∉ N))
theorem blkOk_is {N : List Str} {sc scope : Scope} {own : List (Str × Nat)} (h : blkOk N sc scope own = true) : BlkOk N sc scope own := by
  unfold blkOk at h
  simp only [Bool.and_eq_true, List.all_eq_true, Bool.or_eq_true, decide_eq_true_eq] at h
  obtain ⟨⟨⟨⟨h1, h2⟩, h3⟩, h4⟩, h5⟩ := h
  refine ⟨h1, h2, h3, fun y hy e => ?_, fun y hy e => ?_⟩
  · rcases h4 y hy with (z | z) | z
    · exact absurd e z
    · exact .inl z
    · exact .inr z
  · rcases h5 y hy with (z | z) | z
    · rcases e with e | e
      · exact absurd e z.1
      · exact absurd e z.2
    · exact .inl z
    · exact .inr z
/-- the tests of a clause -/
def WC (X : Cx) (ifs : List Expr) : TT := fun σ H Q => ∀ pins s, Inv X pins σ H s → wpAny (model X.prog X.w) X.A (forIn ifs true fun c r => if r = true then do let ok ← isTrue c X.env (eval c X.env); pure (ForInStep.yield ok) else pure (ForInStep.yield r)) (TP X pins σ Q) X.xe s
theorem WC.of {X : Cx} {ifs : List Expr} {t : TT} (h : PTs X ifs t) {σ : L2.St} {H : Hp} {Q : Bool → Hp → Prop} (q : t σ H Q) : WC X ifs σ H Q := fun pins s I => h.run pins s σ H Q I q
def SC (C : Cfg) (ifs : List Expr) (f : DenB) : Prop := ∀ {ca : Nat → Addr} {cal : Cal} {k : Nat} {X : Cx} {W : WX} {w : Wd} {ρ : Env} {M : Mem} {σ : L2.St} {H : Hp} {Q : Bool → Hp → Prop},
  Now C ca cal k X W w ρ M σ H → Gd X.K w W σ (fun _ a b => a = b) Q (f cal ρ M) → WC X ifs σ H Q
section
variable {C : Cfg} {pos : Pos} {c e tg it : Expr} {fc : DenB} {fe : Den} {fi : DenI} {t : Tgt} {ifs : List Expr} {scope : Scope} {own : List (Str × Nat)}
theorem sc_nil : SC C [] tYesD := fun n q => WC.of pts_nil (Gd.ok q n.rel rfl)
theorem sc_one (h : ST C c fc) : SC C [c] fc := fun n q => WC.of (pts_one pt_wt) (h n q)
theorem Gd.noX {A B : Type} {K : PySem.W.Frag} {w : Wd} {W W' : WX} {σ σ' : L2.St} {rel : Wd → A → B → Prop} {Q : B → Hp → Prop} {r : R A} (h : Gd K w W σ rel Q r.noX) : Gd K w W' σ' rel Q r := by
  cases r with
  | ok a m => exact h
  | exn _ _ _ _ => exact False.elim h
  | bad => exact h
theorem Gd.noX' {A B : Type} {K : PySem.W.Frag} {w : Wd} {W W' : WX} {σ σ' : L2.St} {rel : Wd → A → B → Prop} {Q : B → Hp → Prop} {r : R A} (h : Gd K w W σ rel Q r.noX) : Gd K w W' σ' rel Q r.noX := by
  cases r with
  | ok a m => exact h
  | exn _ _ _ _ => exact False.elim h
  | bad => exact h
theorem Gd.bindX {A B A' B' : Type} {K : PySem.W.Frag} {w w0 : Wd} {W W' : WX} {σ σ' : L2.St} {rel : Wd → A → B → Prop} {rel' : Wd → A' → B' → Prop} {Q : B → Hp → Prop} {Q' : B' → Hp → Prop} {r : R A'} {f : A' → Mem → R A} (h : Gd K w0 W σ rel Q (r.noX.bind f))
    (k : ∀ d M w' H b, w.Le w' → Rel K w' M H → rel' w' d b → Gd K w0 W σ rel Q (f d M) → Q' b H) : Gd K w W' σ' rel' Q' r := by
  cases r with
  | ok d M => exact fun w' H b l R q => k d M w' H b l R q (show Gd K w0 W σ rel Q (f d M) from h)
  | exn c ks vs M => exact False.elim h
  | bad => exact False.elim h
theorem blk_now {ca : Nat → Addr} {cal : Cal} {k : Nat} {X : Cx} {W : WX} {w : Wd} {ρ : Env} {M : Mem} {σ σ' : L2.St} {H : Hp} {w1 : Wd} {M1 : Mem} {H1 : Hp} {ρ' : Env} (n : Now C ca cal k X W w ρ M σ H) (scope : Scope) (s : Shared) (H0 : Hp) (A : Addr) (cl : List (Str × Addr)) (fp : List Addr)
    (hc : w1.ca = ca) (R1 : Rel X.K w1 M1 H1) (sl : Slots X.K w1 ρ' σ') : Now (C.blk scope) ca cal k (X.blk s H0 scope (compEnvC scope cl A X.env) fp) (fun _ _ _ _ => False) w1 ρ' M1 σ' H1 := by
  refine ⟨⟨n.ok.N, n.ok.nd, ?_, n.ok.calm, fun x hx => hx, n.ok.room, n.ok.gd, ⟨n.ok.gx.fns, n.ok.gx.blt, n.ok.gx.ers, n.ok.gx.cls, n.ok.gx.con⟩, PassesOwn.never, fun z => nomatch z⟩, takes0, hc, R1, sl⟩
  show relS scope X.env.scope = relS scope C.sc
  rw [n.ok.sc]
/-- what holds in every block of the scope -/
abbrev GB (X : Cx) (scope : Scope) (tg : Expr) : TG := fun v σ H Q => ∀ (s : Shared) (H0 : Hp) (A : Addr) (cl : List (Str × Addr)) (fp : List Addr), GW (X.blk s H0 scope (compEnvC scope cl A X.env) fp) tg v σ H Q
abbrev CB (X : Cx) (scope : Scope) (ifs : List Expr) : TT := fun σ H Q => ∀ (s : Shared) (H0 : Hp) (A : Addr) (cl : List (Str × Addr)) (fp : List Addr), WC (X.blk s H0 scope (compEnvC scope cl A X.env) fp) ifs σ H Q
abbrev EB (X : Cx) (scope : Scope) (e : Expr) : TE := fun σ H Q => ∀ (s : Shared) (H0 : Hp) (A : Addr) (cl : List (Str × Addr)) (fp : List Addr), WE (X.blk s H0 scope (compEnvC scope cl A X.env) fp) e σ H Q
theorem lc_turns {bx : Bool} {ca : Nat → Addr} {cal : Cal} {k : Nat} {X : Cx} {W : WX} {w : Wd} {ρ : Env} {M : Mem} {σ : L2.St} {H : Hp} {Q : VK}
    (hix : t.ix.all (fun i => (own.map (·.2)).contains i) = true) (hi : SI C tg it fi) (ht : SG (C.blk scope) tg t) (hc : SC (C.blk scope) ifs fc) (he : SE (C.blk scope) e fe)
    (n : Now C ca cal k X W w ρ M σ H) (q : Gd X.K w W σ (Rep X.K) Q (cLc bx (own.map (·.2)) fi t fc fe cal ρ M)) :
    tLc (IW X tg it) (GB X scope tg) (CB X scope ifs) (EB X scope e) (own.map (·.2)) σ H Q := by
  generalize hv : own.map (·.2) = vs at *
  have hix' : ∀ i ∈ t.ix, i ∈ vs := fun i h => by simpa using List.all_eq_true.mp hix i h
  refine hi n (Gd.bind q fun S M1 w1 H1 J l1 R1 Y q1 => fun D hD => ?_)
  have hz : S.ds.length ≤ sizeLine := Classical.byContradiction fun hz => by rw [if_neg hz] at q1; exact q1
  rw [if_pos hz] at q1
  have lo := R1.loose hD
  let Inv' : Nat → Hp → Prop := fun i H => ∃ w' M' acc us, w1.Le w' ∧ Rel X.K w' M' H ∧ Loose w' D ∧ H D = some (.lst us) ∧ Reps X.K w' acc us ∧ acc.length ≤ i ∧
    Gd X.K w' W σ (Rep X.K) Q ((compL S.chk t fc fe (S.ds.drop i) cal (wipeD ρ vs) M').bind fun ys M3 => newL bx (acc ++ ys) M3)
  refine ⟨fun i m H => m = S.ds.length - i ∧ Inv' i H, ⟨S.ds.length, rfl, w1, M1, [], [], .refl _, R1.wr lo, lo, upd_same, .nil, Nat.le_refl _, by rw [List.drop_zero]; exact q1⟩, ?_⟩
  rintro i m H' ⟨rfl, w', M', acc, us, l', R', lo', hD', ra, hacc, q'⟩
  by_cases hlt : i < S.ds.length
  · have ed : S.ds.drop i = S.ds[i] :: S.ds.drop (i + 1) := (List.drop_eq_getElem_cons hlt)
    rw [ed] at q'
    unfold compL at q'
    have hk : S.chk M' := Classical.byContradiction fun hk => by rw [if_neg hk] at q'; exact q'
    rw [if_pos hk] at q'
    cases et : t.go S.ds[i] (wipeD ρ vs) with
    | none => rw [et] at q'; exact False.elim q'
    | some ρ1 =>
      rw [et] at q'
      refine .inr ⟨Y.go l' R' hk hlt, fun H2 => Inv' (i + 1) H2, fun H2 p => ⟨S.ds.length - (i + 1), by omega, rfl, p⟩, fun x H2 hy => ?_⟩
      -- the new list is framed for the turn
      have Rf := R'.frm lo' hD'
      have lf : w'.Le (w'.frm D (.lst us)) := frmLe lo'
      obtain ⟨w2, l2, R2, rx⟩ := Y.yld (l'.trans lf) Rf hk (List.getElem?_eq_getElem hlt) hy
      have s2 : Slots X.K w2 (wipeD ρ vs) (L2.wipe σ vs) := (n.sl.wipe vs).up ((l1.trans (l'.trans lf)).trans l2)
      have cw2 : w2.ca = ca := (((l1.trans (l'.trans lf)).trans l2).c).trans n.ca
      have wk : ∀ {σ2 : L2.St}, Keeps t.ix (L2.wipe σ vs) σ2 → L2.wipe σ2 vs = L2.wipe σ vs := fun k => wipe_keeps hix' k
      intro s0 H0 A0 cl0 fp0
      have nb := blk_now n scope s0 H0 A0 cl0 fp0 cw2 R2 s2
      refine ht nb rx et fun σ3 s3 k3 => ⟨wk k3, ?_⟩
      intro s0' H0' A0' cl0' fp0'
      have nb3 := blk_now n scope s0' H0' A0' cl0' fp0' cw2 R2 s3
      rw [R.bind_assoc] at q'
      refine hc nb3 (Gd.bindX q' fun b M3 w3 H3 b' l3 R3 rb q3 => ?_)
      subst rb
      have lf3 : (w'.frm D (.lst us)).Le w3 := l2.trans l3
      cases b with
      | false =>
        obtain ⟨h3, lo3, Ru, lu⟩ := Rel.unfrm lf3 R' R3 lo'
        have q4 : Gd X.K w' W σ (Rep X.K) Q ((compL S.chk t fc fe (S.ds.drop (i + 1)) cal (wipeD ρ vs) M3).bind fun ys M3 => newL bx (acc ++ ys) M3) := by simpa using q3
        exact ⟨w3.unf D, M3, acc, us, l'.trans lu, Ru, lo3, h3, ra.up lu, by omega, Gd.up q4 lu⟩
      | true =>
        intro s0 H0 A0 cl0 fp0
        have nb4 := blk_now n scope s0 H0 A0 cl0 fp0 (l3.c.trans cw2) R3 (s3.up l3)
        have q3 : Gd X.K w' W σ (Rep X.K) Q (((fe cal ρ1 M3).noX.bind fun y M2 => (compL S.chk t fc fe (S.ds.drop (i + 1)) cal (wipeD ρ vs) M2).bind fun ys M3 => R.ok (y :: ys) M3).bind fun ys M3 => newL bx (acc ++ ys) M3) := by simpa using q3
        rw [R.bind_assoc] at q3
        refine he nb4 (Gd.bindX q3 fun y M4 w4 H4 vy l4 R4 ry q4 => ?_)
        have lf4 : (w'.frm D (.lst us)).Le w4 := lf3.trans l4
        obtain ⟨h4, lo4, Ru, lu⟩ := Rel.unfrm lf4 R' R4 lo'
        have ra4 : Reps X.K (w4.unf D) acc us := ra.up lu
        refine ⟨us, h4, by rw [← ra.length]; omega, w4.unf D, M4, acc ++ [y], us ++ [vy], l'.trans lu, Ru.wr lo4, lo4, upd_same, ra4.append (.cons (Rep.sim (w := w4) (w' := w4.unf D) rfl rfl rfl rfl ry) .nil), by rw [List.length_append]; simp; omega, ?_⟩
        rw [R.bind_assoc] at q4
        simp only [R.ok_bind] at q4
        have := Gd.up q4 lu
        simpa using this
  · rw [List.drop_eq_nil_of_le (by omega)] at q'
    unfold compL at q'
    by_cases hk : S.chk M'
    · rw [if_pos hk] at q'
      refine .inl ⟨Y.stop l' R' hk (by omega), ?_⟩
      rw [R.ok_bind, List.append_nil] at q'
      exact Gd.newLA q' R' lo' ra hD'
    · rw [if_neg hk] at q'; exact False.elim q'
end
end Vm

namespace Vm
open PySem PySem.Spec L2

section
variable {K : PySem.W.Frag} {w w' : Wd} {M M' : Mem} {H H' : Hp}
theorem CellR.move {a : Addr} {bs : List Addr} {c : Cell} (hg : ∀ a o, w.G a = some o → w'.G a = some o) (hb : ∀ a o, w.B a = some o → w'.B a = some o) (hc : w'.ca = w.ca) (hf : c.fr = true) (e : H' a = H a) (e2 : ∀ b ∈ bs, H' b = H b) (h : CellR K w H a bs c) : CellR K w' H' a bs c := by
  cases h with
  | lst h r => exact .lst (by rw [e]; exact h) (Reps.off hg hb hc r hf)
  | dic h q r => exact .dic (by rw [e]; exact h) q (Reps.off hg hb hc r hf)
  | ins h hl r => exact .ins (by rw [e, hc]; exact h) hl (Reps.off hg hb hc r hf)
  | lck h q r => exact .lck (by rw [e]; exact h) q (Reps.off hg hb hc r hf)
  | nest h r =>
    have hfr : ∀ row ∈ _, frees row = true := List.all_eq_true.mp (show _ from hf)
    refine .nest (by rw [e]; exact h) ?_
    clear h hf
    induction r with
    | nil => exact .nil
    | cons q t ih =>
      obtain ⟨vs, e1, r1⟩ := q
      exact .cons ⟨vs, by rw [e2 _ List.mem_cons_self]; exact e1, Reps.off hg hb hc r1 (hfr _ List.mem_cons_self)⟩ (ih (fun b hb => e2 b (List.mem_cons_of_mem _ hb)) fun row hr => hfr row (List.mem_cons_of_mem _ hr))
theorem subl_flat {α : Type} {l1 l2 : List (List α)} (h : l1.Sublist l2) : l1.flatten.Sublist l2.flatten := by
  induction h with
  | slnil => exact List.Sublist.refl _
  | cons a _ ih => exact ih.trans (List.sublist_append_right a _)
  | cons_cons a _ ih => exact List.Sublist.append (List.Sublist.refl a) ih
/-- the first n, and the m-th -/
def pick {α : Type} (n m : Nat) (l : List α) : List α := l.take n ++ (l[m]?).toList
theorem pick_sub {α : Type} {n m : Nat} {l : List α} (h : n ≤ m) : (pick n m l).Sublist l := by
  have e : l = l.take n ++ l.drop n := (List.take_append_drop n l).symm
  unfold pick
  conv => rhs; rw [e]
  refine List.Sublist.append (List.Sublist.refl _) ?_
  cases q : l[m]? with
  | none => exact List.nil_sublist _
  | some x =>
    refine List.singleton_sublist.mpr ?_
    refine List.mem_of_getElem? (i := m - n) ?_
    rw [List.getElem?_drop, show n + (m - n) = m by omega]
    exact q
theorem pick_length {α : Type} {n m : Nat} {l : List α} (h : n ≤ l.length) : (pick n m l).length = n + (if m < l.length then 1 else 0) := by
  unfold pick
  rw [List.length_append, List.length_take, Nat.min_eq_left h]
  by_cases q : m < l.length
  · rw [List.getElem?_eq_getElem q, if_pos q]; rfl
  · rw [List.getElem?_eq_none (by omega), if_neg q]; rfl
theorem pick_get {α : Type} {n m i : Nat} {l : List α} {x : α} (h : n ≤ l.length) (e : (pick n m l)[i]? = some x) : l[if i < n then i else m]? = some x := by
  unfold pick at e
  by_cases hi : i < n
  · rw [if_pos hi]
    rw [List.getElem?_append_left (by rw [List.length_take]; omega), List.getElem?_take, if_pos hi] at e
    exact e
  · rw [if_neg hi]
    rw [List.getElem?_append_right (by rw [List.length_take]; omega), List.length_take, Nat.min_eq_left h] at e
    cases q : l[m]? with
    | none => rw [q] at e; simp at e
    | some y =>
      rw [q] at e
      have hh := (List.getElem?_eq_some_iff.mp e).1
      have : i - n = 0 := by simp at hh; omega
      rw [this] at e
      simpa using e
abbrev Wd.pick (w : Wd) (n m : Nat) : Wd := { w with mu := Vm.pick n m w.mu, nu := Vm.pick n m w.nu }
theorem Rel.pick (R : Rel K w M H) {n m : Nat} (hn : n ≤ M.length) (hm : n ≤ m) : Rel K (w.pick n m) (Vm.pick n m M) H := by
  have l1 := R.len
  have l2 := R.len2
  refine ⟨R.gb, R.bf, R.bh, R.bl, R.lkB, ?_, ?_, ?_, fun a ha => R.off a ((pick_sub hm).mem ha), fun a ha => R.off2 a ?_, fun c hc => R.fr c ((pick_sub hm).mem hc), fun i c a bs h1 h2 h3 => ?_⟩
  · show (Vm.pick n m w.mu).length = (Vm.pick n m M).length
    rw [pick_length (by omega), pick_length hn, l1]
  · show (Vm.pick n m w.nu).length = (Vm.pick n m M).length
    rw [pick_length (by omega), pick_length hn, l2]
  · exact R.nd.sublist (List.Sublist.append (pick_sub hm) (subl_flat (pick_sub hm)))
  · exact (subl_flat (pick_sub hm)).mem ha
  · have q1 := pick_get hn h1
    have q2 := pick_get (by omega) h2
    have q3 := pick_get (by omega) h3
    exact CellR.move (w := w) (w' := w.pick n m) (fun _ _ h => h) (fun _ _ h => h) rfl (R.fr c (List.mem_of_getElem? q1)) rfl (fun _ _ => rfl) (R.cell _ c a bs q1 q2 q3)
theorem pickLe {n m : Nat} (l : w.Le w') (hn : n = w.mu.length) : w.Le (w'.pick n m) := by
  obtain ⟨more, e⟩ := l.m
  refine ⟨l.g, l.b, l.r, l.f, l.f2, ⟨((w'.mu)[m]?).toList, ?_⟩, l.c, l.k⟩
  show (w'.mu.take n ++ _) = _
  rw [e, hn, List.take_left]
theorem pick_same {α : Type} {n m : Nat} {l : List α} (h1 : l.length ≤ n) (h2 : n ≤ m) : pick n m l = l := by
  unfold pick
  rw [List.take_of_length_le h1, List.getElem?_eq_none (by omega)]
  exact List.append_nil l
theorem pick_take {α : Type} {n m : Nat} {l : List α} (h : l.length ≤ m) : pick n m l = l.take n := by
  unfold pick
  rw [List.getElem?_eq_none h]
  exact List.append_nil _
end

def startD (N : List Str) (ds : List D) : Env := ds.map some ++ List.replicate (N.length - ds.length) none
/-- what a body's end is to the caller: the callee's own cells are left behind, but for the one that it gives -/
def finD (n : Nat) : SR → R D
  | .ok .nx _ M => .ok .non (M.take n)
  | .ok (.rt (.ref m)) _ M => if m < n then .ok (.ref m) (M.take n) else match M[m]? with
    | some c => .ok (.ref n) (M.take n ++ [c])
    | none => .bad
  | .ok (.rt d) _ M => if M.length ≤ n then .ok d M else if free d = true then .ok d (M.take n) else .bad
  | .exn c ks vs _ M => if M.length ≤ n then .exn c ks vs M else if frees vs = true then .exn c ks vs (M.take n) else .bad
  | _ => .bad
def fnD (N : List Str) (body : SDen) : List D → Mem → Cal → R D := fun ds M cal => finD M.length (body cal (startD N ds) M)
section
variable {K : PySem.W.Frag} {w : Wd} {M : Mem} {H : Hp}
theorem Reps.start {N : List Str} {ds : List D} {vs : List V} (r : Reps K w ds vs) : Slots K w (startD N ds) (L2.start N vs) := by
  have hl := r.length
  refine ⟨by unfold startD L2.start; simp only [List.length_append, List.length_map, List.length_replicate, hl], fun i d e => ?_⟩
  unfold startD at e
  unfold L2.start
  by_cases h : i < ds.length
  · rw [List.getElem?_append_left (by rw [List.length_map]; exact h), List.getElem?_map] at e
    rw [List.getElem?_append_left (by rw [List.length_map, ← hl]; exact h), List.getElem?_map]
    rw [List.getElem?_eq_getElem h] at e
    obtain ⟨v, h1, h2⟩ := r.get (i := i) (d := d) (by rw [List.getElem?_eq_getElem h]; simpa using e)
    exact ⟨v, by rw [h1]; rfl, h2⟩
  · rw [List.getElem?_append_right (by rw [List.length_map]; omega)] at e
    obtain ⟨_, q⟩ := List.getElem?_eq_some_iff.mp e
    rw [List.getElem_replicate] at q
    cases q
theorem Rep.cut {w' : Wd} {n m : Nat} {d : D} {v : V} (r : Rep K w' d v) (hf : free d = true) : Rep K (w'.pick n m) d v := Rep.off (w := w') (w' := w'.pick n m) (fun _ _ h => h) (fun _ _ h => h) rfl r hf
theorem Reps.cut' {w' : Wd} {n m : Nat} {ds : List D} {vs : List V} (r : Reps K w' ds vs) (hf : frees ds = true) : Reps K (w'.pick n m) ds vs := Reps.off (w := w') (w' := w'.pick n m) (fun _ _ h => h) (fun _ _ h => h) rfl r hf
theorem ErrR.cut {w' : Wd} {n m : Nat} {ks : List Str} {vs : List D} {dd : Option Addr} (hf : frees vs = true) (r : ErrR K w' dd ks vs) : ErrR K (w'.pick n m) dd ks vs := by
  rcases r with r | ⟨h0, dx, fvs, h1, h2, h3, h4⟩
  · exact .inl r
  · exact .inr ⟨h0, dx, fvs, h1, h2, h3, h4.cut' hf⟩
theorem Gd.fin {E : XK} {Q : VK} (R0 : Rel K w M H) {r : SR} (g : Gd K w (fun c d _ H' => E c d H') [] (Rep K) Q (finD M.length r)) :
    GdS K w { nx := fun _ H' => Q .non H', rt := Q } (fun c d _ H' => E c d H') r := by
  have hlen := R0.len
  have hn : ∀ {w' : Wd} {M' : Mem} {H' : Hp}, w.Le w' → Rel K w' M' H' → M.length ≤ M'.length := fun {w' M' H'} l R => by
    obtain ⟨more, e⟩ := l.m
    rw [← R.len, e, List.length_append, hlen]
    omega
  have other : ∀ (d : D) (ρ : Env) (M1 : Mem), Gd K w (fun c d _ H' => E c d H') [] (Rep K) Q (if M1.length ≤ M.length then .ok d M1 else if free d = true then .ok d (M1.take M.length) else .bad) →
      GdS K w { nx := fun _ H' => Q .non H', rt := Q } (fun c d _ H' => E c d H') (.ok (.rt d) ρ M1) := by
    intro d ρ M1 g w' H' v l R r
    have hle := hn l R
    by_cases h : M1.length ≤ M.length
    · rw [if_pos h] at g
      exact g w' H' v l R r
    · rw [if_neg h] at g
      by_cases hf : free d = true
      · rw [if_pos hf] at g
        have g : ∀ w' H b, w.Le w' → Rel K w' (M1.take M.length) H → Rep K w' d b → Q b H := g
        have e := pick_take (n := M.length) (m := M1.length) (l := M1) (Nat.le_refl _)
        rw [← e] at g
        exact g (w'.pick M.length M1.length) H' v (pickLe l hlen.symm) (R.pick hle hle) (r.cut hf)
      · rw [if_neg hf] at g; exact False.elim g
  cases r with
  | bad => exact g
  | exn c ks vs ρ M1 =>
    intro w' σ' H' dd l R s er
    have hle := hn l R
    have g : Gd K w (fun c d _ H' => E c d H') [] (Rep K) Q (if M1.length ≤ M.length then .exn c ks vs M1 else if frees vs = true then .exn c ks vs (M1.take M.length) else .bad) := g
    by_cases h : M1.length ≤ M.length
    · rw [if_pos h] at g
      exact g w' H' dd l R er
    · rw [if_neg h] at g
      by_cases hf : frees vs = true
      · rw [if_pos hf] at g
        have g : ∀ w' H dd, w.Le w' → Rel K w' (M1.take M.length) H → ErrR K w' dd ks vs → E (.ref (w'.ca c)) dd H := g
        have e := pick_take (n := M.length) (m := M1.length) (l := M1) (Nat.le_refl _)
        rw [← e] at g
        exact g (w'.pick M.length M1.length) H' dd (pickLe l hlen.symm) (R.pick hle hle) (er.cut hf)
      · rw [if_neg hf] at g; exact False.elim g
  | ok fl ρ M1 =>
    cases fl with
    | bk => exact False.elim g
    | ct => exact False.elim g
    | nx =>
      intro w' σ' H' l R s
      have hle := hn l R
      have g : ∀ w' H b, w.Le w' → Rel K w' (M1.take M.length) H → Rep K w' .non b → Q b H := g
      have e := pick_take (n := M.length) (m := M1.length) (l := M1) (Nat.le_refl _)
      rw [← e] at g
      exact g (w'.pick M.length M1.length) H' .non (pickLe l hlen.symm) (R.pick hle hle) .non
    | rt d =>
      cases d with
      | ref m =>
        intro w' H' v l R r
        have hle := hn l R
        have g : Gd K w (fun c d _ H' => E c d H') [] (Rep K) Q (if m < M.length then .ok (.ref m) (M1.take M.length) else match M1[m]? with | some c => .ok (.ref M.length) (M1.take M.length ++ [c]) | none => .bad) := g
        by_cases hm : m < M.length
        · rw [if_pos hm] at g
          have g : ∀ w' H b, w.Le w' → Rel K w' (M1.take M.length) H → Rep K w' (.ref m) b → Q b H := g
          have e := pick_take (n := M.length) (m := M1.length) (l := M1) (Nat.le_refl _)
          rw [← e] at g
          refine g (w'.pick M.length M1.length) H' v (pickLe l hlen.symm) (R.pick hle hle) ?_
          cases r with
          | ref h =>
            refine .ref ?_
            show (w'.mu.take M.length ++ _)[m]? = _
            have q := R.len
            rw [List.getElem?_append_left (by rw [List.length_take]; omega), List.getElem?_take, if_pos hm]
            exact h
        · rw [if_neg hm] at g
          cases r with
          | @ref _ a h =>
            have q := R.len
            have hlt : m < M1.length := by
              have := (List.getElem?_eq_some_iff.mp h).1
              omega
            rw [List.getElem?_eq_getElem hlt] at g
            have g : ∀ w' H b, w.Le w' → Rel K w' (M1.take M.length ++ [M1[m]]) H → Rep K w' (.ref M.length) b → Q b H := g
            have e : pick M.length m M1 = M1.take M.length ++ [M1[m]] := by unfold pick; rw [List.getElem?_eq_getElem hlt]; rfl
            rw [← e] at g
            refine g (w'.pick M.length m) H' _ (pickLe l hlen.symm) (R.pick hle (by omega)) (.ref ?_)
            show (w'.mu.take M.length ++ (w'.mu[m]?).toList)[M.length]? = _
            rw [h, List.getElem?_append_right (by rw [List.length_take]; omega), List.length_take, Nat.min_eq_left (by omega), Nat.sub_self]
            rfl
      | _ => exact other _ ρ M1 g
end
/-- a def's promise -/
theorem fn_ok {P : Program} {wo : World} {K : PySem.W.Frag} {mg : Str → Option Value} {base : Heap} {T : Tab} {ca : Nat → Addr} {cal : Cal} {k : Nat} {x qual : Str} {st : Stmt} {f : Addr} {fd : FuncData} {N ps : List Str} {body : SDen}
    (gx : GX T ca cal k P wo K mg base) (F : Fun K x qual st f fd) (S : FnScope N ps (defScope st)) (hb : SSs { T := T, N := N, sc := defScope st } (defBody st) body) :
    FnG P wo K mg base (k + 2) f fd ps (fun vs H Q E => ∃ (w : Wd) (M : Mem) (ds : List D), w.ca = ca ∧ Rel K w M H ∧ Reps K w ds vs ∧ ds.length = ps.length ∧ Gd K w (fun c d _ H' => E c d H') [] (Rep K) Q (fnD N body ds M cal)) := by
  refine fnG_of F S (fun vs H Q E ⟨w, M, ds, _, _, r, hl, _⟩ => by rw [← r.length]; exact hl) fun cdv A outer s H vs Q E hg hr ⟨w, M, ds, hca, R, r, hl, g⟩ => ?_
  refine hb (W := fun c d _ H' => E c d H') (w := w) (M := M) (ρ := startD N ds) ⟨⟨rfl, S.nd, rfl, rfl, fun _ _ => rfl, hr, hg, gx, ?_, fun _ => ⟨rfl, rfl, rfl⟩⟩, ?_, hca, R, r.start⟩ (Gd.fin R g)
  · exact passes_of (X := cxOf (L2.CX P wo) P wo K mg base N qual (defScope st) f cdv A outer s H E) (K := fun e s'' => L2.CX P wo outer H s E e s'') (E₁ := fun e' s'' => L2.CX P wo outer H s E e' s'') rfl
  · exact takes_of (X := cxOf (L2.CX P wo) P wo K mg base N qual (defScope st) f cdv A outer s H E) rfl rfl rfl (E₁ := fun e' s'' => L2.CX P wo outer H s E e' s'') rfl

abbrev Tbl := Nat → Option (List Str × SDen)
def callN (t : Tbl) : Nat → Cal
  | 0 => fun _ _ _ => .bad
  | k + 1 => fun i ds M => match t i with
    | some (N, body) => fnD N body ds M (callN t k)
    | none => .bad
/-- what is known of a def of the text -/
structure FnI (P : Program) (K : PySem.W.Frag) (mg : Str → Option Value) (T : Tab) (t : Tbl) (e : FnE) : Prop where
  ex : ∃ (f : Addr) (fd : FuncData) (qual : Str) (st : Stmt) (N : List Str) (body : SDen), mg e.name = some (.ref f) ∧ PySem.W.keepIn K (.ref f) = true ∧ (∀ us : List Value, us.length = e.ps.length → bindArgs fd ⟨us, []⟩ = pure (e.ps.zip us)) ∧ (∀ kw ∈ e.kws, KB fd e.ps kw) ∧ Fun K e.name qual st f fd ∧ FnScope N e.ps (defScope st) ∧
    SSs { T := T, N := N, sc := defScope st } (defBody st) body ∧ t e.id = some (N, body)
/-- .. of a class -/
def FnS (K : PySem.W.Frag) (T : Tab) (t : Tbl) (m : MtE) (f : Addr) : Prop := ∃ (fd : FuncData) (qual : Str) (st : Stmt) (N : List Str) (body : SDen), (∀ us : List Value, us.length = m.ps.length → bindArgs fd ⟨us, []⟩ = pure (m.ps.zip us)) ∧ Fun K m.nm qual st f fd ∧ FnScope N m.ps (defScope st) ∧
  SSs { T := T, N := N, sc := defScope st } (defBody st) body ∧ t m.id = some (N, body)
/-- what is known of the text's errors, classes, written dicts -/
structure TxF (T : Tab) (ca : Nat → Addr) (t : Tbl) (W : World) (K : PySem.W.Frag) (mg : Str → Option Value) : Prop where
  ers : ErF T ca K mg
  cls : ∀ c ∈ T.cls, ClF (FnS K T t) K mg (ca c.id) c
  con : ∀ e ∈ T.con, ConF K W mg e
theorem gx_all {P : Program} {wo : World} {K : PySem.W.Frag} {mg : Str → Option Value} {base : Heap} {T : Tab} {ca : Nat → Addr} {t : Tbl} (hf : ∀ e ∈ T.fns, FnI P K mg T t e) (hb : ∀ x ∈ T.blt, mg x = none) (hE : TxF T ca t wo K mg) : ∀ k, GX T ca (callN t k) (2 * k) P wo K mg base
  | 0 => by
    have no : ∀ {f : Addr} {fd : FuncData} {ps : List Str} {i : Nat}, FnG P wo K mg base 0 f fd ps (spF K ca (callN t 0) i ps.length) := fun {f fd ps i} => by
      refine ⟨fun vs H Q E ⟨w, M, ds, _, _, r, hl, _⟩ => by rw [← r.length]; exact hl, fun A outer s H args us vs Q E _ _ _ _ _ hs => ?_⟩
      obtain ⟨w, M, ds, _, _, _, _, g⟩ := hs
      exact False.elim g
    refine ⟨fun e he => ?_, hb, hE.ers, fun c hc => (hE.cls c hc).imp fun m f ⟨fd, qual, st, N, body, h3, _⟩ => ⟨fd, no, .all h3⟩, hE.con⟩
    obtain ⟨f, fd, qual, st, N, body, h1, h2, h3, h4, _⟩ := (hf e he).ex
    exact ⟨f, fd, h1, h2, no, .all h3, h4⟩
  | k + 1 => by
    have go : ∀ {f : Addr} {fd : FuncData} {ps : List Str} {i : Nat} {x qual : Str} {st : Stmt} {N : List Str} {body : SDen}, Fun K x qual st f fd → FnScope N ps (defScope st) → SSs { T := T, N := N, sc := defScope st } (defBody st) body → t i = some (N, body) →
        FnG P wo K mg base (2 * k + 2) f fd ps (spF K ca (callN t (k + 1)) i ps.length) := fun {f fd ps i x qual st N body} hF hS hB ht => by
      refine (fn_ok (gx_all hf hb hE k) hF hS hB).imp fun vs H Q E ⟨w, M, ds, e1, e2, e3, e4, g⟩ => ⟨w, M, ds, e1, e2, e3, e4, ?_⟩
      have q : callN t (k + 1) i ds M = fnD N body ds M (callN t k) := by
        show (match t i with | some (N, body) => fnD N body ds M (callN t k) | none => .bad) = _
        rw [ht]
      rw [q] at g
      exact g
    refine ⟨fun e he => ?_, hb, hE.ers, fun c hc => (hE.cls c hc).imp fun m f ⟨fd, qual, st, N, body, h3, hF, hS, hB, ht⟩ => ⟨fd, go hF hS hB ht, .all h3⟩, hE.con⟩
    obtain ⟨f, fd, qual, st, N, body, h1, h2, h3, h4, hF, hS, hB, ht⟩ := (hf e he).ex
    exact ⟨f, fd, h1, h2, go hF hS hB ht, .all h3, h4⟩

def cCall (i n : Nat) (fs : Dens) : Den := fun cal ρ M => (fs cal ρ M).bind fun ds M1 => if ds.length = n then cal i ds M1 else .bad
section
variable {C : Cfg} {pos p : Pos} {e : Expr} {es : List Expr} {fs : Dens} {f : Den} {ent : FnE}
theorem ent_call {ca : Nat → Addr} {cal : Cal} {k : Nat} {X : Cx} {W : WX} {w : Wd} {ρ : Env} {M : Mem} {σ : L2.St} {H : Hp} {Q : VK} {ds : List D} {vs : List V} (n : Now C ca cal k X W w ρ M σ H) (r : Reps X.K w ds vs) (hl : ds.length = ent.ps.length)
    (q : Gd X.K w W σ (Rep X.K) Q (cal ent.id ds M)) : spF X.K ca cal ent.id ent.ps.length vs H Q fun c d H' => W c d σ H' := by
  refine ⟨w, M, ds, n.ca, n.rel, r, hl, ?_⟩
  cases hr : cal ent.id ds M with
  | ok d M' => rw [hr] at q; exact q
  | exn c ks vs M' => rw [hr] at q; exact q
  | bad => rw [hr] at q; exact q
theorem room_call {ca : Nat → Addr} {cal : Cal} {k : Nat} {X : Cx} {W : WX} {w : Wd} {ρ : Env} {M : Mem} {σ : L2.St} {H : Hp} (n : Now C ca cal k X W w ρ M σ H) : Room k X.A := n.ok.room.mono (Nat.le_succ k)
theorem se_call (hin : ent ∈ C.T.fns) (hl : C.look ent.name = some .globalImplicit) (hdb : (ent.name == ("__debug__" : Str)) = false) (hs : (e :: es).all noStar = true) (ha : SA C (e :: es) fs) :
    SE C (.Call (.Name ent.name p) (e :: es) [] pos) (cCall ent.id ent.ps.length fs) := by
  intro ca cal k X W w ρ M σ H Q n q
  obtain ⟨f, fd, h1, h2, h3, h4, _⟩ := n.ok.gx.fns ent hin
  rw [List.all_cons, Bool.and_eq_true] at hs
  refine we_call h3 (room_call n) n.ok.gd n.tk (gl_of n hl) h1 h2 h4 hdb (starEach_cons hs.1 es X.env) (starEach_any hs.2 X.env pos) ?_
  refine ha n (Gd.bind q fun ds M1 w1 H1 vs l1 R1 r1 q1 => ?_)
  by_cases h : ds.length = ent.ps.length
  · rw [if_pos h] at q1
    exact ent_call (n.up l1 R1) r1 h q1
  · rw [if_neg h] at q1; exact False.elim q1
theorem se_call0 (hin : ent ∈ C.T.fns) (hl : C.look ent.name = some .globalImplicit) (hdb : (ent.name == ("__debug__" : Str)) = false) : SE C (.Call (.Name ent.name p) [] [] pos) (cCall ent.id ent.ps.length aNil) := by
  intro ca cal k X W w ρ M σ H Q n q
  obtain ⟨f, fd, h1, h2, h3, h4, _⟩ := n.ok.gx.fns ent hin
  refine we_call0 h3 (room_call n) n.ok.gd n.tk (gl_of n hl) h1 h2 h4 hdb ?_
  have q : Gd X.K w W σ (Rep X.K) Q (if ([] : List D).length = ent.ps.length then cal ent.id [] M else .bad) := q
  by_cases h : ([] : List D).length = ent.ps.length
  · rw [if_pos h] at q
    exact ent_call n .nil h q
  · rw [if_neg h] at q; exact False.elim q

def frz (n : Nat) (d : D) (M : Mem) : R D := match d with
  | .ref m => if m = n ∧ M.length = n + 1 then (match M[n]? with
    | some (.lst xs) => .ok (.lst false xs) (M.take n)
    | _ => .ok d M) else .ok d M
  | _ => .ok d M
def cFrz (f : Den) : Den := fun cal ρ M => (f cal ρ M).bind fun d M1 => frz M.length d M1
theorem Gd.frz {K : PySem.W.Frag} {w0 w : Wd} {M0 M : Mem} {H0 H : Hp} {W : WX} {σ : L2.St} {Q : VK} {d : D} {v : V} (R0 : Rel K w0 M0 H0) (l : w0.Le w) (R : Rel K w M H) (r : Rep K w d v) (g : Gd K w0 W σ (Rep K) Q (Vm.frz M0.length d M)) : Q v H := by
  have same : Gd K w0 W σ (Rep K) Q (.ok d M) → Q v H := fun g => g w H v l R r
  unfold Vm.frz at g
  split at g
  · rename_i m
    split at g
    · rename_i h
      obtain ⟨rfl, h⟩ := h
      split at g
      · rename_i xs em
        obtain ⟨a, vs, rfl, ea, en, hH, rs⟩ := R.cellL r em
        have hle : M0.length ≤ M.length := by omega
        have e := pick_take (n := M0.length) (m := M.length) (l := M) (Nat.le_refl _)
        have Rp := R.pick (n := M0.length) (m := M.length) hle hle
        rw [e] at Rp
        have lp := pickLe (n := M0.length) (m := M.length) l R0.len.symm
        have hq := R.len
        have em2 : (w.pick M0.length M.length).mu = w.mu.take M0.length := pick_take (by omega)
        have en2 : (w.pick M0.length M.length).nu = w.nu.take M0.length := pick_take (by have := R.len2; omega)
        have nd := R.nd
        have lo : Loose (w.pick M0.length M.length) a := by
          refine ⟨R.off a (List.mem_of_getElem? ea), ?_, ?_, fun z => ?_⟩
          · rw [em2]
            intro z
            obtain ⟨i, hi, ei⟩ := List.getElem_of_mem z
            rw [List.length_take] at hi
            rw [List.getElem_take] at ei
            have := nodup_get (List.nodup_append.mp nd).1 ea (show w.mu[i]? = some a by rw [List.getElem?_eq_getElem (by omega), ei])
            omega
          · rw [en2]
            intro z
            have z2 : a ∈ w.nu.flatten := (subl_flat (List.take_sublist _ _)).mem z
            exact (List.nodup_append.mp nd).2.2 a (List.mem_of_getElem? ea) a z2 rfl
          · exact R.lkB z (R.off a (List.mem_of_getElem? ea))
        have g : ∀ w' H b, w0.Le w' → Rel K w' (M.take M0.length) H → Rep K w' (.lst false xs) b → Q b H := g
        have hfr : frees xs = true := R.fr _ (List.mem_of_getElem? em)
        have la := Rp.adoptLe (o := .lst vs) lo
        exact g _ H _ (lp.trans la) (Rp.adopt lo hH) (.lst (t := false) upd_same ((rs.cut' hfr).up la))
      · exact same g
    · exact same g
  · exact same g
theorem se_frz (ha : SE C e f) : SE C e (cFrz f) := by
  intro ca cal k X W w ρ M σ H Q n q
  refine ha n ?_
  have q : Gd X.K w W σ (Rep X.K) Q ((f cal ρ M).bind fun d M1 => frz M.length d M1) := q
  cases hr : f cal ρ M with
  | ok d M1 =>
    rw [hr] at q
    exact fun w' H' b l R r => Gd.frz n.rel l R r q
  | exn c ks vs M' => rw [hr] at q; exact q
  | bad => rw [hr] at q; exact q
end
end Vm

namespace Vm
open PySem PySem.Spec L2

mutual
def clean : D → Bool
  | .tup xs => cleans xs
  | .lst t xs => !t && cleans xs
  | .scr xs => cleans xs
  | .dic t _ vs => !t && cleans vs
  | .obj _ _ vs => cleans vs
  | .err _ _ vs => cleans vs
  | .ref _ => false
  | .non => true
  | .bl _ => true
  | .int _ => true
  | .str _ => true
def cleans : List D → Bool
  | [] => true
  | d :: ds => clean d && cleans ds
end
theorem clean_cons {d : D} {ds : List D} (h : cleans (d :: ds) = true) : clean d = true ∧ cleans ds = true := Bool.and_eq_true_iff.mp (show (clean d && cleans ds) = true from h)
section
variable {K : PySem.W.Frag} {w w' : Wd} {M M' : Mem} {H H' : Hp}
theorem Rep.cln (hg : ∀ a o, w.G a = some o → w'.G a = some o) (hc : w'.ca = w.ca) {d : D} {v : V} (h : Rep K w d v) : clean d = true → Rep K w' d v :=
  Rep.rec (motive_1 := fun d v _ => clean d = true → Rep K w' d v) (motive_2 := fun ds vs _ => cleans ds = true → Reps K w' ds vs)
    (fun _ => .non) (fun b _ => .bl b) (fun i _ => .int i) (fun s _ => .str s)
    (fun h _ r f => .tup (hg _ _ h) (r f))
    (fun {t _ _ _} h _ r f => by
      cases t with
      | true => exact absurd (show false = true from f) (by decide)
      | false => exact .lst (t := false) (hg _ _ h) (r f))
    (fun {t _ _ _ _ _} h q _ r f => by
      cases t with
      | true => exact absurd (show false = true from f) (by decide)
      | false => exact .dic (t := false) (hg _ _ h) q (r f))
    (fun h hl _ r f => .obj (by rw [hc]; exact hg _ _ h) hl (r f))
    (fun h f => by cases f) (fun h _ r f => .scr (SqL.up hg h) (r f)) (fun h _ => .err (by rw [hc]; exact hg _ _ h)) (fun _ => .nil) (fun _ _ h t f => .cons (h (clean_cons f).1) (t (clean_cons f).2)) h
theorem Reps.cln (hg : ∀ a o, w.G a = some o → w'.G a = some o) (hc : w'.ca = w.ca) : ∀ {ds : List D} {vs : List V}, Reps K w ds vs → cleans ds = true → Reps K w' ds vs
  | _, _, .nil, _ => .nil
  | _, _, .cons h t, f => .cons (h.cln hg hc (clean_cons f).1) (Reps.cln hg hc t (clean_cons f).2)

abbrev own (w : Wd) (a : Addr) : Prop := a ∈ w.mu ∨ a ∈ w.nu.flatten
noncomputable abbrev Wd.bor (w : Wd) (H : Hp) : Wd := { w with B := fun a => open Classical in if own w a then H a else w.B a, F := fun a => open Classical in if own w a then H a else w.F a, mu := [], nu := [] }
theorem bor_in {a : Addr} (h : own w a) : (w.bor H).B a = H a ∧ (w.bor H).F a = H a := ⟨if_pos h, if_pos h⟩
theorem bor_out {a : Addr} (h : ¬ own w a) : (w.bor H).B a = w.B a ∧ (w.bor H).F a = w.F a := ⟨if_neg h, if_neg h⟩
theorem Rel.ownF (R : Rel K w M H) {a : Addr} (h : own w a) : w.F a = none := h.elim (R.off a) (R.off2 a)
theorem Rel.outF (R : Rel K w M H) {a : Addr} {o : HO} (h : w.F a = some o) : ¬ own w a := fun z => by rw [R.ownF z] at h; cases h
theorem Rel.ownH (R : Rel K w M H) {a : Addr} (h : own w a) : H a ≠ none := by
  rcases h with h | h
  · exact fun z => (R.notMu z).1 h
  · exact fun z => (R.notMu z).2 h
theorem Rel.bor (R : Rel K w M H) : Rel K (w.bor H) [] H := by
  refine ⟨fun a o e => ?_, fun a o e => ?_, fun a o e hk => ?_, fun a o e hk => ?_, fun {a} ha => ?_, rfl, rfl, List.nodup_nil, fun a ha => ?_, fun a ha => ?_, fun c hc => ?_, fun n c a bs h1 h2 h3 => ?_⟩
  · have n := R.outF (R.bf a o (R.gb a o e))
    rw [(bor_out n).1]; exact R.gb a o e
  · by_cases h : own w a
    · rw [(bor_in h).1] at e; rw [(bor_in h).2]; exact e
    · rw [(bor_out h).1] at e; rw [(bor_out h).2]; exact R.bf a o e
  · by_cases h : own w a
    · rw [(bor_in h).2] at e; exact e
    · rw [(bor_out h).2] at e; exact R.bh a o e hk
  · have hk : a ∈ w.lk := hk
    by_cases h : own w a
    · exact absurd (R.ownF h) (R.lkB hk)
    · rw [(bor_out h).2] at e; exact R.bl a o e hk
  · have ha : a ∈ w.lk := ha
    have h : ¬ own w a := fun z => R.lkB ha (R.ownF z)
    rw [(bor_out h).2]; exact R.lkB ha
  · exact absurd ha List.not_mem_nil
  · exact absurd ha List.not_mem_nil
  · exact absurd hc List.not_mem_nil
  · simp at h1
theorem Rel.borB (R : Rel K w M H) {a : Addr} {o : HO} (e : w.B a = some o) : (w.bor H).B a = some o := by
  rw [(bor_out (R.outF (R.bf a o e))).1]; exact e
theorem Rel.borRep (R : Rel K w M H) {d : D} {v : V} (r : Rep K w d v) (hf : free (view M d) = true) : Rep K (w.bor H) (view M d) v := by
  rcases view_cases M d with q | ⟨n, xs, rfl, q, q2⟩ | ⟨n, ks, vs, rfl, q, q2⟩
  · rw [q] at hf ⊢
    exact Rep.off (w := w) (w' := w.bor H) (fun _ _ h => h) (fun _ _ h => R.borB h) rfl r hf
  · rw [q2]
    obtain ⟨a, us, rfl, ea, en, hH, rs⟩ := R.cellL r q
    have hfr : frees xs = true := R.fr _ (List.mem_of_getElem? q)
    exact .lst (t := true) (by show (w.bor H).B a = _; rw [(bor_in (.inl (List.mem_of_getElem? ea))).1]; exact hH) (Reps.off (w := w) (w' := w.bor H) (fun _ _ h => h) (fun _ _ h => R.borB h) rfl rs hfr)
  · rw [q2]
    cases r with
    | ref h =>
      obtain ⟨c, bs, e1, e2, z⟩ := R.at h
      rw [q] at e1
      cases e1
      cases z with
      | dic h2 qd rs =>
        have hfr : frees vs = true := R.fr _ (List.mem_of_getElem? q)
        exact .dic (t := true) (by show (w.bor H).B _ = _; rw [(bor_in (.inl (List.mem_of_getElem? h))).1]; exact h2) qd (Reps.off (w := w) (w' := w.bor H) (fun _ _ h => h) (fun _ _ h => R.borB h) rfl rs hfr)
theorem Rel.borReps (R : Rel K w M H) : ∀ {ds : List D} {vs : List V}, Reps K w ds vs → frees (ds.map (view M)) = true → Reps K (w.bor H) (ds.map (view M)) vs
  | _, _, .nil, _ => .nil
  | _, _, .cons h t, f => .cons (R.borRep h (free_cons f).1) (Rel.borReps R t (free_cons f).2)
/-- back again -/
noncomputable abbrev Wd.ret (w w' : Wd) : Wd := { w' with B := fun a => match w'.G a with | some o => some o | none => w.B a, F := fun a => open Classical in if own w a then none else w'.F a, mu := w.mu, nu := w.nu }
theorem ret_in {a : Addr} (h : own w a) : (w.ret w').F a = none := if_pos h
theorem ret_out {a : Addr} (h : ¬ own w a) : (w.ret w').F a = w'.F a := if_neg h
theorem Rel.ret (R : Rel K w M H) (l : (w.bor H).Le w') (R' : Rel K w' M' H') : Rel K (w.ret w') M H' ∧ w.Le (w.ret w') := by
  have hlk : w'.lk = w.lk := l.k
  have hca : w'.ca = w.ca := l.c
  have gOut : ∀ {a}, w'.G a ≠ none → ¬ own w a := fun {a} e z => by
    rcases l.f a e with h | h
    · have : w.G a ≠ none := h
      cases q : w.G a with
      | none => exact this q
      | some o => exact R.outF (R.bf a o (R.gb a o q)) z
    · rw [(bor_in z).2] at h
      exact R.ownH z h
  have same : ∀ {a}, own w a → H' a = H a := fun {a} z => by
    cases q : H a with
    | none => exact absurd q (R.ownH z)
    | some o =>
      have e : w'.F a = some o := l.r a o (by rw [(bor_in z).2]; exact q)
      exact R'.bh a o e (by rw [hlk]; exact fun k => R.lkB k (R.ownF z))
  have bUp : ∀ a o, w.B a = some o → (w.ret w').B a = some o := fun a o e => by
    show (match w'.G a with | some o => some o | none => w.B a) = _
    cases q : w'.G a with
    | none => exact e
    | some o' =>
      have h1 := R'.bf a o' (R'.gb a o' q)
      have h2 := R'.bf a o (l.b a o (R.borB e))
      rw [h1] at h2
      exact h2
  have le : w.Le (w.ret w') := by
    refine ⟨l.g, bUp, fun a o e => ?_, fun a e => ?_, fun a e => ?_, ⟨[], by simp⟩, hca, hlk⟩
    · have z := R.outF e
      rw [ret_out z]
      exact l.r a o (by rw [(bor_out z).2]; exact e)
    · have z := gOut e
      rcases l.f a e with h | h
      · exact .inl h
      · rw [(bor_out z).2] at h; exact .inr h
    · have e : (match w'.G a with | some o => some o | none => w.B a) ≠ none := e
      cases q : w'.G a with
      | none => rw [q] at e; exact .inl e
      | some o =>
        have z := gOut (a := a) (by rw [q]; intro k; cases k)
        rcases l.f a (by rw [q]; intro k; cases k) with h | h
        · cases q2 : w.G a with
          | none => exact absurd q2 h
          | some o2 => exact .inl (by rw [R.gb a o2 q2]; intro k; cases k)
        · rw [(bor_out z).2] at h; exact .inr h
  refine ⟨⟨fun a o e => ?_, fun a o e => ?_, fun a o e hk => ?_, fun a o e hk => ?_, fun {a} ha => ?_, R.len, R.len2, R.nd, fun a ha => ret_in (.inl ha), fun a ha => ret_in (.inr ha), R.fr, fun n c a bs h1 h2 h3 => ?_⟩, le⟩
  · show (match w'.G a with | some o => some o | none => w.B a) = _
    rw [show w'.G a = some o from e]
  · have e : (match w'.G a with | some o => some o | none => w.B a) = some o := e
    cases q : w'.G a with
    | none =>
      rw [q] at e
      have z := R.outF (R.bf a o e)
      rw [ret_out z]
      exact R'.bf a o (l.b a o (R.borB e))
    | some o' =>
      rw [q] at e
      cases e
      rw [ret_out (gOut (by rw [q]; intro k; cases k))]
      exact R'.bf a _ (R'.gb a _ q)
  · have z : ¬ own w a := fun z => by rw [ret_in z] at e; cases e
    rw [ret_out z] at e
    exact R'.bh a o e hk
  · have z : ¬ own w a := fun z => by rw [ret_in z] at e; cases e
    rw [ret_out z] at e
    exact R'.bl a o e hk
  · have z : ¬ own w a := fun z => R.lkB (by rw [← hlk]; exact ha) (R.ownF z)
    rw [ret_out z]
    exact R'.lkB ha
  · exact CellR.move (w := w) (w' := w.ret w') l.g bUp hca (R.fr c (List.mem_of_getElem? h1)) (same (.inl (List.mem_of_getElem? h2))) (fun b hb => same (.inr (mem_flat h3 hb))) (R.cell n c a bs h1 h2 h3)
end
/-- a call of a def that only reads its arguments: what it gives, beside the caller's memory -/
def lift (M : Mem) : R D → R D
  | .ok d [] => if clean d = true then .ok d M else .bad
  | .ok (.ref 0) [.lst xs] => if cleans xs = true then .ok (.ref M.length) (M ++ [.lst xs]) else .bad
  | .exn c ks vs _ => if cleans vs = true then .exn c ks vs M else .bad
  | _ => .bad
def cPure (i n : Nat) (fs : Dens) : Den := fun cal ρ M => (fs cal ρ M).bind fun ds M1 => if ds.length = n ∧ frees (ds.map (view M1)) = true then lift M1 (cal i (ds.map (view M1)) []) else .bad
mutual
theorem free_of_clean : ∀ {d : D}, clean d = true → free d = true
  | .tup xs, h => frees_of_cleans (ds := xs) h
  | .lst t xs, h => frees_of_cleans (ds := xs) (Bool.and_eq_true_iff.mp (show (!t && cleans xs) = true from h)).2
  | .scr xs, h => frees_of_cleans (ds := xs) h
  | .dic t ks vs, h => frees_of_cleans (ds := vs) (Bool.and_eq_true_iff.mp (show (!t && cleans vs) = true from h)).2
  | .obj c ks vs, h => frees_of_cleans (ds := vs) h
  | .err c ks vs, h => frees_of_cleans (ds := vs) h
  | .ref _, h => by cases h
  | .non, _ => rfl
  | .bl _, _ => rfl
  | .int _, _ => rfl
  | .str _, _ => rfl
theorem frees_of_cleans : ∀ {ds : List D}, cleans ds = true → frees ds = true
  | [], _ => rfl
  | d :: ds, h => Bool.and_eq_true_iff.mpr ⟨free_of_clean (clean_cons h).1, frees_of_cleans (clean_cons h).2⟩
end
theorem Gd.lift {K : PySem.W.Frag} {w : Wd} {M : Mem} {H : Hp} {W : WX} {σ : L2.St} {Q : VK} {r : R D} (R : Rel K w M H) (g : Gd K w W σ (Rep K) Q (Vm.lift M r)) : Gd K (w.bor H) W σ (Rep K) Q r := by
  unfold Vm.lift at g
  split at g
  · rename_i d
    split at g
    · rename_i hc
      intro w' H' v l R' r
      obtain ⟨R2, l2⟩ := R.ret l R'
      exact g (w.ret w') H' v l2 R2 (Rep.cln (w := w') (w' := w.ret w') (fun _ _ h => h) rfl r hc)
    · exact False.elim g
  · rename_i xs
    split at g
    · rename_i hc
      intro w' H' v l R' r
      obtain ⟨R2, l2⟩ := R.ret l R'
      obtain ⟨a, vs, rfl, ea, en, hH, rs⟩ := R'.cellL r rfl
      have hF : w'.F a = none := R'.off a (List.mem_of_getElem? ea)
      have hno : ¬ own w a := fun z => by
        cases q : H a with
        | none => exact R.ownH z q
        | some o =>
          have e : w'.F a = some o := l.r a o (by rw [(bor_in z).2]; exact q)
          rw [hF] at e; cases e
      have lo : Loose (w.ret w') a := ⟨by rw [ret_out hno]; exact hF, fun z => hno (.inl z), fun z => hno (.inr z), fun z => R'.lkB z hF⟩
      have le := Rel.celLe (w.ret w') a []
      refine g ((w.ret w').cel a []) H' _ (l2.trans le) (R2.celA lo (frees_of_cleans hc) (.lst hH ?_)) (.ref ?_)
      · exact Reps.cln (w := w') (w' := (w.ret w').cel a []) (fun _ _ h => h) rfl rs hc
      · show (w.mu ++ [a])[M.length]? = _
        rw [← R.len]
        exact List.getElem?_concat_length ..
    · exact False.elim g
  · rename_i c ks vs M'
    split at g
    · rename_i hc
      intro w' H' dd l R' er
      obtain ⟨R2, l2⟩ := R.ret l R'
      refine g (w.ret w') H' dd l2 R2 ?_
      rcases er with e | ⟨h0, dx, fvs, h1, h2, h3, h4⟩
      · exact .inl e
      · exact .inr ⟨h0, dx, fvs, h1, h2, h3, Reps.cln (w := w') (w' := w.ret w') (fun _ _ h => h) rfl h4 hc⟩
    · exact False.elim g
  · exact False.elim g
section
variable {C : Cfg} {pos p : Pos} {e : Expr} {es : List Expr} {fs : Dens} {f : Den} {ent : FnE}
theorem se_pure (hin : ent ∈ C.T.fns) (hl : C.look ent.name = some .globalImplicit) (hdb : (ent.name == ("__debug__" : Str)) = false) (hs : (e :: es).all noStar = true) (ha : SA C (e :: es) fs) :
    SE C (.Call (.Name ent.name p) (e :: es) [] pos) (cPure ent.id ent.ps.length fs) := by
  intro ca cal k X W w ρ M σ H Q n q
  obtain ⟨f, fd, h1, h2, h3, h4, _⟩ := n.ok.gx.fns ent hin
  rw [List.all_cons, Bool.and_eq_true] at hs
  refine we_call h3 (room_call n) n.ok.gd n.tk (gl_of n hl) h1 h2 h4 hdb (starEach_cons hs.1 es X.env) (starEach_any hs.2 X.env pos) ?_
  refine ha n (Gd.bind q fun ds M1 w1 H1 vs l1 R1 r1 q1 => ?_)
  by_cases h : ds.length = ent.ps.length ∧ frees (ds.map (view M1)) = true
  · rw [if_pos h] at q1
    have g := Gd.lift R1 q1
    refine ⟨w1.bor H1, [], ds.map (view M1), l1.c.trans n.ca, R1.bor, R1.borReps r1 h.2, by rw [List.length_map]; exact h.1, ?_⟩
    cases hr : cal ent.id (ds.map (view M1)) [] with
    | ok d M' => rw [hr] at g; exact g
    | exn c ks vs M' => rw [hr] at g; exact g
    | bad => rw [hr] at g; exact g
  · rw [if_neg h] at q1; exact False.elim q1

variable {c elt tg it : Expr} {fc : DenB} {fe : Den} {fi : DenI} {t : Tgt} {ifs : List Expr} {scope : Scope} {ow : List (Str × Nat)}
theorem se_lc {bx : Bool} (hs : noSet it = true) (hb : blkOk C.N C.sc scope ow = true) (hix : t.ix.all (fun i => (ow.map (·.2)).contains i) = true) (hi : SI C tg it fi) (ht : SG (C.blk scope) tg t) (hc : SC (C.blk scope) ifs fc) (he : SE (C.blk scope) elt fe) :
    SE C (.ListComp elt [⟨tg, it, ifs, 0⟩] scope pos) (cLc bx (ow.map (·.2)) fi t fc fe) := by
  intro ca cal k X W w ρ M σ H Q n q
  refine WE.of (pe_lc n.ok.calm (by rw [n.ok.N]; exact n.ok.nd) (g := GB X scope tg) (tt := CB X scope ifs) (te := EB X scope elt) pi_iw (own := ow) (by rw [n.ok.N, n.ok.sc]; exact blkOk_is hb)
    (fun s H C cl fp => ⟨fun pins s' σ H v u Q I r h => h s _ C cl fp pins s' u I r⟩) (fun s H C cl fp => ⟨fun pins s' σ H Q I h => h s _ C cl fp pins s' I⟩) (fun s H C cl fp => ⟨fun pins s' σ H Q I h => h s _ C cl fp pins s' I⟩) (noSet_is hs X.env)) ?_
  exact lc_turns hix hi ht hc he n q
/-- whether a comprehension that is stored is held back until the store -/
def swB (C : Cfg) (scope : Scope) (y : Str) (py pos : Pos) : Bool := decide (C.look y = some .local) && (py.line == pos.line) && !(scope.names.any fun (n, k) => n == y && (k == .local || k == .cell))
theorem ss_setlc {bx : Bool} {x : Str} {i : Nat} {p2 p3 : Pos} (hi0 : C.N[i]? = some x) (hl : C.stor x = true) (hk : C.sc.kind = .function) (hs : noSet it = true) (hb : blkOk C.N C.sc scope ow = true) (hix : t.ix.all (fun i => (ow.map (·.2)).contains i) = true)
    (hi : SI C tg it fi) (ht : SG (C.blk scope) tg t) (hc : SC (C.blk scope) ifs fc) (he : SE (C.blk scope) elt fe) :
    SS C (.Assign [.Name x p2] (.ListComp elt [⟨tg, it, ifs, 0⟩] scope pos) p3) (sSet i (cLc bx (ow.map (·.2)) fi t fc fe)) := by
  intro ca cal k X W w ρ M σ H D n q
  have kind : X.env.scope.kind = .function := by rw [n.ok.sc]; exact hk
  have kx : X.env.kindOf x = C.look x := n.kind x
  have hblk : X.env.blockKind = .function := by unfold PySem.Env.blockKind; rw [kind]; rfl
  by_cases hsw : swB C scope x p2 pos = true
  · unfold swB at hsw
    simp only [Bool.and_eq_true, decide_eq_true_eq, Bool.not_eq_true'] at hsw
    obtain ⟨⟨h1, h2⟩, h3⟩ := hsw
    have hx : X.env.scope.names.lookup x = some .local := by rw [n.ok.sc]; exact h1
    refine WS.of (ps_setLc (i := i) n.ok.calm (by rw [n.ok.N]; exact n.ok.nd) (by rw [n.ok.N]; exact hi0) hx (sw_true kind hx h2 h3) (g := GB X scope tg) (tt := CB X scope ifs) (te := EB X scope elt) pi_iw (own := ow) (by rw [n.ok.N, n.ok.sc]; exact blkOk_is hb)
      (fun s H C cl fp => ⟨fun pins s' σ H v u Q I r h => h s _ C cl fp pins s' u I r⟩) (fun s H C cl fp => ⟨fun pins s' σ H Q I h => h s _ C cl fp pins s' I⟩) (fun s H C cl fp => ⟨fun pins s' σ H Q I h => h s _ C cl fp pins s' I⟩) (noSet_is hs X.env)) ?_
    refine lc_turns hix hi ht hc he n (GdS.of q n.sl fun d M1 w1 H1 v l1 R1 r1 q1 => ?_)
    exact q1 _ _ _ (.refl _) R1 ((n.sl.up l1).set i r1)
  · have hno : swapsWith (.ListComp elt [⟨tg, it, ifs, 0⟩] scope pos) (some (.Name x p2)) p3.line X.env = pure false := by
      have hf : swB C scope x p2 pos = false := by simpa using hsw
      unfold swB at hf
      unfold swapsWith
      simp only [hblk, kx, Expr.pos, beq_self_eq_true, Bool.true_and]
      have : (C.look x == some NameKind.local) = decide (C.look x = some .local) := by
        by_cases z : C.look x = some .local
        · rw [z]; rfl
        · rw [decide_eq_false z]; exact beq_false_of_ne z
      rw [this, hf]
    obtain ⟨h1, h2⟩ := loc_of n hl
    refine WS.of (ps_set (i := i) (by rw [n.ok.N]; exact n.ok.nd) (by rw [n.ok.N]; exact hi0) h1 pe_we hno h2) ?_
    exact se_lc hs hb hix hi ht hc he n (GdS.of q n.sl fun d M1 w1 H1 v l1 R1 r1 q1 => q1 _ _ _ (.refl _) R1 ((n.sl.up l1).set i r1))
end
end Vm

namespace Vm
open PySem PySem.Spec L2

/-- what a method of a list does: the receiver's items and the arguments give the value and the new items -/
abbrev MthD := List D → List D → Option (D × List D)
def mtD (g : MthD) (o : D) (ds : List D) (M : Mem) : R D := match o with
  | .ref n => match M[n]? with
    | some (.lst xs) => match g xs ds with
      | some (d, ys) => if frees ys = true then .ok d (M.set n (.lst ys)) else .bad
      | none => .bad
    | _ => .bad
  | _ => .bad
theorem mtD_inv {g : MthD} {o : D} {ds : List D} {M : Mem} {K : PySem.W.Frag} {w : Wd} {W : WX} {σ : L2.St} {Q : VK} (h : Gd K w W σ (Rep K) Q (mtD g o ds M)) : ∃ n xs d ys, o = .ref n ∧ M[n]? = some (.lst xs) ∧ g xs ds = some (d, ys) ∧ frees ys = true ∧ Gd K w W σ (Rep K) Q (.ok d (M.set n (.lst ys))) := by
  unfold mtD at h
  split at h
  · split at h
    · split at h
      · split at h
        · exact ⟨_, _, _, _, rfl, by assumption, by assumption, by assumption, h⟩
        · exact False.elim h
      · exact False.elim h
    · exact False.elim h
  · exact False.elim h
/-- the method id does what g says -/
def MtS (id : String) (g : MthD) : Prop := ∀ {X : Cx} {w : Wd} {H : Hp} {Q : VK} {a : Addr} {xs ds ys : List D} {vs us : List V} {d : D}, H a = some (.lst vs) → Reps X.K w xs vs → Reps X.K w ds us → g xs ds = some (d, ys) →
  (∀ ws v, Reps X.K w ys ws → Rep X.K w d v → Q v (upd H a (.lst ws))) → ∃ r : V → List V → Hp → VK → Prop, MtR X id r ∧ r (.ref a) us H Q
def isL (o : D) (M : Mem) : Bool := match o with
  | .ref n => match M[n]? with
    | some (.lst _) => true
    | _ => false
  | _ => false
def cMt (g : MthD) (f : Den) (fs : Dens) : Den := fun cal ρ M => (f cal ρ M).bind fun o M1 => if isL o M1 = true then (fs cal ρ M1).bind fun ds M2 => mtD g o ds M2 else .bad
theorem isL_inv {o : D} {M : Mem} (h : isL o M = true) : ∃ n xs, o = .ref n ∧ M[n]? = some (.lst xs) := by
  unfold isL at h
  split at h
  · split at h
    · exact ⟨_, _, rfl, by assumption⟩
    · cases h
  · cases h
def MtW (X : Cx) (id : String) : V → List V → Hp → VK → Prop := fun x xs H Q => ∀ pins s σ v us, Inv X pins σ H s → RelV x v → Vals xs us → wpAny (model X.prog X.w) X.A (call (.builtin id) (v :: us)) (EP X pins σ Q) X.xe s
theorem mt_w {X : Cx} {id : String} : MtR X id (MtW X id) := fun pins s σ H x xs v us Q I rx rxs h => h pins s σ v us I rx rxs
theorem MtW.of {X : Cx} {id : String} {r : V → List V → Hp → VK → Prop} (h : MtR X id r) {x : V} {xs : List V} {H : Hp} {Q : VK} (q : r x xs H Q) : MtW X id x xs H Q := fun pins s σ v us I rx rxs => h pins s σ H x xs v us Q I rx rxs q
def plainBase : Expr → Bool
  | .Call (.Name _ _) [] [] _ => false
  | _ => true
theorem plainBase_is {o : Expr} (h : plainBase o = true) (x : Str) (env : PySem.Env) (t : Sem Value) : attributeBase o x env t = t := by
  unfold attributeBase
  split
  · cases h
  · rfl
theorem starEach_plain {es : List Expr} (h : es.all noStar = true) (env : PySem.Env) (pos : Pos) : (backTo pos (starEach es env)).all (fun x => !x.1) = true := by
  induction es with
  | nil => rfl
  | cons e es ih =>
    rw [List.all_cons, Bool.and_eq_true] at h
    rw [starEach_cons h.1]
    show (true && (backTo pos (starEach es env)).all (fun x => !x.1)) = true
    rw [ih h.2]; rfl
section
variable {C : Cfg} {pos p ap : Pos} {o e : Expr} {es : List Expr} {fs : Dens} {f : Den} {name : Str} {id : String} {g : MthD}
theorem tyV_list {X : Cx} {a : Addr} {H : Hp} {vs : List V} (h : H a = some (.lst vs)) : tyV X.K "list" (.ref a) H := .inl ⟨rfl, vs, SqL.of h⟩
theorem se_mt (pa : PlainAttrs "list") (sl : Slot "list" name id) (hty : typeOf (.builtin id) = pure (.type "method_descriptor")) (hm : MtS id g) (hb : plainBase o = true) (hs : (e :: es).all noStar = true) (hn : decide ((e :: es).length < 29) = true) (hl : (ap.endLine == pos.line) = true)
    (ho : SE C o f) (ha : SA C (e :: es) fs) : SE C (.Call (.Attribute o name ap) (e :: es) [] pos) (cMt g f fs) := by
  intro ca cal k X W w ρ M σ H Q n q
  have hs' := hs
  rw [List.all_cons, Bool.and_eq_true] at hs'
  have few : ((backTo pos (starEach (e :: es) X.env)).all (fun x => !x.1) && (backToKw pos (keywordEach [] X.env)).all (fun x => x.1.isSome)
      && decide ((e :: es).length + ([] : List Keyword).length + (if ([] : List Keyword).isEmpty then 0 else 1) < 30)) = true := by
    rw [starEach_plain hs]
    have h0 := of_decide_eq_true hn
    show (true && true && decide ((e :: es).length + 0 + 0 < 30)) = true
    rw [decide_eq_true (by omega)]; rfl
  refine WE.of (pe_bm pa sl hty (mt_w (X := X)) pe_we pa_wa (plainBase_is hb _ _ _) few hl (starEach_cons hs'.1 es X.env) (starEach_any hs'.2 X.env pos)) ?_
  refine ho n (Gd.bind q fun x M1 w1 H1 vx l1 R1 r1 q1 => ?_)
  have hL : isL x M1 = true := Classical.byContradiction fun z => by rw [if_neg z] at q1; exact q1
  rw [if_pos hL] at q1
  obtain ⟨m0, xs0, rfl, em0⟩ := isL_inv hL
  obtain ⟨a0, vs0, rfl, _, _, hH0, _⟩ := R1.cellL r1 em0
  refine ⟨tyV_list hH0, ha (n.up l1 R1) (Gd.bind q1 fun ds M2 w2 H2 us l2 R2 r2 q2 => ?_)⟩
  · obtain ⟨m, xs, d, ys, e0, em, eg, hf, q3⟩ := mtD_inv q2
    cases e0
    obtain ⟨a, vs, e1, ea, en, hH, rs⟩ := R2.cellL (r1.up l2) em
    cases e1
    obtain ⟨r, h1, h2⟩ := hm (X := X) (w := w2) hH rs r2 eg (Q := Q) fun ws v h3 h4 => by
      exact Gd.ok q3 (R2.putL ea en em hf h3) h4
    exact MtW.of h1 h2
theorem se_mt0 (pa : PlainAttrs "list") (sl : Slot "list" name id) (hty : typeOf (.builtin id) = pure (.type "method_descriptor")) (hm : MtS id g) (hb : plainBase o = true) (hl : (ap.endLine == pos.line) = true)
    (ho : SE C o f) : SE C (.Call (.Attribute o name ap) [] [] pos) (cMt g f aNil) := by
  intro ca cal k X W w ρ M σ H Q n q
  refine WE.of (pe_bm0 pa sl hty (mt_w (X := X)) pe_we (plainBase_is hb _ _ _) hl) ?_
  refine ho n (Gd.bind q fun x M1 w1 H1 vx l1 R1 r1 q1 => ?_)
  have hL : isL x M1 = true := Classical.byContradiction fun z => by rw [if_neg z] at q1; exact q1
  rw [if_pos hL] at q1
  obtain ⟨m0, xs0, rfl, em0⟩ := isL_inv hL
  obtain ⟨a0, vs0, rfl, ea, en, hH0, rs⟩ := R1.cellL r1 em0
  refine ⟨tyV_list hH0, ?_⟩
  obtain ⟨m, xs, d, ys, e0, em, eg, hf, q3⟩ := mtD_inv (show Gd X.K w1 W σ (Rep X.K) Q (mtD g (.ref m0) [] M1) from q1)
  cases e0
  rw [em0] at em
  cases em
  obtain ⟨r, h1, h2⟩ := hm (X := X) (w := w1) hH0 rs (.nil) eg (Q := Q) fun ws v h3 h4 => Gd.ok q3 (R1.putL ea en em0 hf h3) h4
  exact MtW.of h1 h2
end
def mAppend : MthD := fun xs ds => match ds with
  | [d] => if xs.length < sizeLine then some (.non, xs ++ [d]) else none
  | _ => none
theorem mts_append : MtS "list.append" mAppend := by
  intro X w H Q a xs ds ys vs us d hH rs rd e q
  match ds, rd, e with
  | [x], .cons rx .nil, e =>
    have e : (if xs.length < sizeLine then some (D.non, xs ++ [x]) else none) = some (d, ys) := e
    split at e
    · rename_i hz
      cases e
      exact ⟨rAppend, mt_append, a, vs, _, rfl, rfl, hH, by rw [← rs.length]; exact hz, q _ _ (rs.append (.cons rx .nil)) .non⟩
    · cases e
def mPop : MthD := fun xs ds => match ds with
  | [] => match xs[xs.length - 1]? with
    | some d => some (d, xs.dropLast)
    | none => none
  | _ => none
theorem Reps.dropLast {K : PySem.W.Frag} {w : Wd} {ds : List D} {vs : List V} (h : Reps K w ds vs) : Reps K w ds.dropLast vs.dropLast := by
  rw [List.dropLast_eq_take, List.dropLast_eq_take, h.length]
  exact h.take _
theorem mts_pop : MtS "list.pop" mPop := by
  intro X w H Q a xs ds ys vs us d hH rs rd e q
  match ds, rd, e with
  | [], .nil, e =>
    have e : (match xs[xs.length - 1]? with | some d => some (d, xs.dropLast) | none => none) = some (d, ys) := e
    split at e
    · rename_i d' he
      cases e
      obtain ⟨v, h1, h2⟩ := rs.get he
      exact ⟨rPop, mt_pop, a, vs, v, rfl, rfl, hH, by rw [← rs.length]; exact h1, q _ _ rs.dropLast h2⟩
    · cases e
def mReverse : MthD := fun xs ds => match ds with
  | [] => some (.non, xs.reverse)
  | _ => none
theorem mts_reverse : MtS "list.reverse" mReverse := by
  intro X w H Q a xs ds ys vs us d hH rs rd e q
  match ds, rd, e with
  | [], .nil, e =>
    cases e
    exact ⟨rReverse, mt_reverse, a, vs, rfl, rfl, hH, q _ _ rs.reverse .non⟩
def mClear : MthD := fun xs ds => match ds with
  | [] => some (.non, [])
  | _ => none
theorem mts_clear : MtS "list.clear" mClear := by
  intro X w H Q a xs ds ys vs us d hH rs rd e q
  match ds, rd, e with
  | [], .nil, e =>
    cases e
    exact ⟨rClear, mt_clear, a, vs, rfl, rfl, hH, q _ _ .nil .non⟩

section
variable {K : PySem.W.Frag} {w : Wd} {M : Mem} {H : Hp}
theorem one_of {x : D} : ∀ {ds : List D} {vs : List V}, Reps K w ds vs → ds.map (view M) = [x] → ∃ d v, vs = [v] ∧ Rep K w d v ∧ view M d = x
  | [_], _, .cons h .nil, e => by simp at e; exact ⟨_, _, rfl, h, e⟩
  | _ :: _ :: _, _, .cons _ (.cons _ _), e => by simp at e
theorem two_of {x y : D} : ∀ {ds : List D} {vs : List V}, Reps K w ds vs → ds.map (view M) = [x, y] → ∃ d v e u, vs = [v, u] ∧ Rep K w d v ∧ Rep K w e u ∧ view M d = x ∧ view M e = y
  | [_, _], _, .cons h (.cons h2 .nil), e => by simp at e; exact ⟨_, _, _, _, rfl, h, h2, e.1, e.2⟩
  | [_], _, .cons _ .nil, e => by simp at e
  | _ :: _ :: _ :: _, _, .cons _ (.cons _ (.cons _ _)), e => by simp at e
theorem three_of {x y z : D} : ∀ {ds : List D} {vs : List V}, Reps K w ds vs → ds.map (view M) = [x, y, z] → ∃ d v e u f t, vs = [v, u, t] ∧ Rep K w d v ∧ Rep K w e u ∧ Rep K w f t ∧ view M d = x ∧ view M e = y ∧ view M f = z
  | [_, _, _], _, .cons h (.cons h2 (.cons h3 .nil)), e => by simp at e; exact ⟨_, _, _, _, _, _, rfl, h, h2, h3, e.1, e.2.1, e.2.2⟩
  | [_, _], _, .cons _ (.cons _ .nil), e => by simp at e
  | [_], _, .cons _ .nil, e => by simp at e
  | _ :: _ :: _ :: _ :: _, _, .cons _ (.cons _ (.cons _ (.cons _ _))), e => by simp at e
theorem view_scr {d : D} {v : V} {xs : List D} (e : view M d = .scr xs) : d = .scr xs := by
  rcases view_cases M d with z | ⟨_, _, _, _, z⟩ | ⟨_, _, _, _, _, z⟩
  · rw [z] at e; exact e
  · rw [z] at e; cases e
  · rw [z] at e; cases e
theorem Rel.scr (R : Rel K w M H) {d : D} {v : V} {xs : List D} (r : Rep K w d v) (e : view M d = .scr xs) : ∃ a vs, v = .ref a ∧ SqL K H a vs ∧ Reps K w xs vs := by
  have := view_scr (v := v) e
  subst this
  cases r with
  | scr h r => exact ⟨_, _, rfl, R.sqL h, r⟩
/-- items of a list, a tuple -/
def itemsD : D → Option (List D)
  | .lst _ xs => some xs
  | .scr xs => some xs
  | .tup xs => some xs
  | _ => none
theorem Rel.items (R : Rel K w M H) {d : D} {v : V} {xs : List D} (r : Rep K w d v) (e : itemsD (view M d) = some xs) : ∃ a vs, v = .ref a ∧ (SqL K H a vs ∨ SqT K H a vs) ∧ Reps K w xs vs := by
  unfold itemsD at e
  split at e
  · rename_i e1; cases e; obtain ⟨a, vs, h1, h2, h3⟩ := R.list r e1; exact ⟨a, vs, h1, .inl (SqL.of h2), h3⟩
  · rename_i e1; cases e; obtain ⟨a, vs, h1, h2, h3⟩ := R.scr r e1; exact ⟨a, vs, h1, .inl h2, h3⟩
  · rename_i e1; cases e; obtain ⟨a, vs, h1, h2, h3⟩ := R.tuple r e1; exact ⟨a, vs, h1, .inr (SqT.of h2), h3⟩
  · cases e
/-- items of a list -/
def itemsL : D → Option (List D)
  | .lst _ xs => some xs
  | .scr xs => some xs
  | _ => none
theorem Rel.itemsL (R : Rel K w M H) {d : D} {v : V} {xs : List D} (r : Rep K w d v) (e : Vm.itemsL (view M d) = some xs) : ∃ a vs, v = .ref a ∧ SqL K H a vs ∧ Reps K w xs vs := by
  unfold Vm.itemsL at e
  split at e
  · rename_i e1; cases e; obtain ⟨a, vs, h1, h2, h3⟩ := R.list r e1; exact ⟨a, vs, h1, SqL.of h2, h3⟩
  · rename_i e1; cases e; obtain ⟨a, vs, h1, h2, h3⟩ := R.scr r e1; exact ⟨a, vs, h1, h2, h3⟩
  · cases e
end
abbrev BltD := List D → Mem → R D
def bLen : BltD := fun ds M => match ds with
  | [.str z] => if z.length ≤ sizeLine then .ok (.int z.length) M else .bad
  | [d] => match itemsD d with
    | some xs => .ok (.int xs.length) M
    | none => .bad
  | _ => .bad
theorem cv_len : CallV (.builtin "len") bLen := by
  intro C ca cal k X W w ρ M σ H Q ds vs n r g
  unfold bLen at g
  split at g
  · rename_i z e
    obtain ⟨d, v, rfl, rd, ev⟩ := one_of r e
    rw [view_str rd ev]
    split at g
    · rename_i hz
      exact CallW.of call_len ⟨.str z, z.length, rfl, ⟨hz, rfl⟩, Gd.ok g n.rel (.int _)⟩
    · exact False.elim g
  · rename_i x _ e
    obtain ⟨d, v, rfl, rd, ev⟩ := one_of r e
    split at g
    · rename_i xs ei
      rw [← ev] at ei
      obtain ⟨a, us, rfl, hs, rs⟩ := n.rel.items rd ei
      refine CallW.of call_len ⟨.ref a, us.length, rfl, ?_, by rw [← rs.length]; exact Gd.ok g n.rel (.int _)⟩
      exact hs.imp (fun h => ⟨us, h, rfl⟩) (fun h => ⟨us, h, rfl⟩)
    · exact False.elim g
  · exact False.elim g

def bAbs : BltD := fun ds M => match ds with
  | [.int i] => .ok (.int (if i < 0 then -i else i)) M
  | _ => .bad
theorem cv_abs : CallV (.builtin "abs") bAbs := by
  intro C ca cal k X W w ρ M σ H Q ds vs n r g
  unfold bAbs at g
  split at g
  · rename_i i e
    obtain ⟨d, v, rfl, rd, ev⟩ := one_of r e
    rw [view_int rd ev]
    exact CallW.of call_abs ⟨i, rfl, Gd.ok g n.rel (.int _)⟩
  · exact False.elim g
/-- the ints of a list that isn't empty: the largest, the smallest -/
def maxI : List Int → Int
  | [] => 0
  | x :: xs => xs.foldl max x
def minI : List Int → Int
  | [] => 0
  | x :: xs => xs.foldl min x
theorem foldl_max_le : ∀ (xs : List Int) (a : Int), a ≤ xs.foldl max a ∧ (∀ y ∈ xs, y ≤ xs.foldl max a) ∧ (xs.foldl max a = a ∨ xs.foldl max a ∈ xs)
  | [], a => ⟨Int.le_refl _, fun _ h => absurd h List.not_mem_nil, .inl rfl⟩
  | x :: xs, a => by
    obtain ⟨h1, h2, h3⟩ := foldl_max_le xs (max a x)
    refine ⟨by show a ≤ xs.foldl max (max a x); omega, fun y hy => ?_, ?_⟩
    · rcases List.mem_cons.mp hy with rfl | hy
      · show y ≤ xs.foldl max (max a y); omega
      · exact h2 y hy
    · show xs.foldl max (max a x) = a ∨ xs.foldl max (max a x) ∈ x :: xs
      rcases h3 with h3 | h3
      · rw [h3]
        rcases Int.le_total a x with h | h
        · right; rw [Int.max_eq_right h]; exact List.mem_cons_self
        · left; exact Int.max_eq_left h
      · right; exact List.mem_cons_of_mem _ h3
theorem foldl_min_le : ∀ (xs : List Int) (a : Int), xs.foldl min a ≤ a ∧ (∀ y ∈ xs, xs.foldl min a ≤ y) ∧ (xs.foldl min a = a ∨ xs.foldl min a ∈ xs)
  | [], a => ⟨Int.le_refl _, fun _ h => absurd h List.not_mem_nil, .inl rfl⟩
  | x :: xs, a => by
    obtain ⟨h1, h2, h3⟩ := foldl_min_le xs (min a x)
    refine ⟨by show xs.foldl min (min a x) ≤ a; omega, fun y hy => ?_, ?_⟩
    · rcases List.mem_cons.mp hy with rfl | hy
      · show xs.foldl min (min a y) ≤ y; omega
      · exact h2 y hy
    · show xs.foldl min (min a x) = a ∨ xs.foldl min (min a x) ∈ x :: xs
      rcases h3 with h3 | h3
      · rw [h3]
        rcases Int.le_total a x with h | h
        · left; exact Int.min_eq_left h
        · right; rw [Int.min_eq_right h]; exact List.mem_cons_self
      · right; exact List.mem_cons_of_mem _ h3
theorem maxI_is {ns : List Int} {m : Int} (h : m ∈ ns) (g : ∀ y ∈ ns, y ≤ m) : maxI ns = m := by
  cases ns with
  | nil => exact absurd h List.not_mem_nil
  | cons x xs =>
    obtain ⟨h1, h2, h3⟩ := foldl_max_le xs x
    have a : m ≤ xs.foldl max x := by
      rcases List.mem_cons.mp h with rfl | h
      · exact h1
      · exact h2 m h
    have b : xs.foldl max x ≤ m := by
      rcases h3 with h3 | h3
      · rw [h3]; exact g x List.mem_cons_self
      · exact g _ (List.mem_cons_of_mem _ h3)
    show xs.foldl max x = m
    omega
theorem minI_is {ns : List Int} {m : Int} (h : m ∈ ns) (g : ∀ y ∈ ns, m ≤ y) : minI ns = m := by
  cases ns with
  | nil => exact absurd h List.not_mem_nil
  | cons x xs =>
    obtain ⟨h1, h2, h3⟩ := foldl_min_le xs x
    have a : xs.foldl min x ≤ m := by
      rcases List.mem_cons.mp h with rfl | h
      · exact h1
      · exact h2 m h
    have b : m ≤ xs.foldl min x := by
      rcases h3 with h3 | h3
      · rw [h3]; exact g x List.mem_cons_self
      · exact g _ (List.mem_cons_of_mem _ h3)
    show xs.foldl min x = m
    omega
def bMax : BltD := fun ds M => match ds with
  | [.int i, .int j] => .ok (.int (if j > i then j else i)) M
  | [d] => match itemsL d with
    | some xs => match intsOf xs with
      | some (n :: ns) => .ok (.int (maxI (n :: ns))) M
      | _ => .bad
    | none => .bad
  | _ => .bad
def min3I (i j k : Int) : Int := if k < (if j < i then j else i) then k else (if j < i then j else i)
def bMin : BltD := fun ds M => match ds with
  | [.int i, .int j] => .ok (.int (if j < i then j else i)) M
  | [.int i, .int j, .int k] => .ok (.int (min3I i j k)) M
  | [d] => match itemsL d with
    | some xs => match intsOf xs with
      | some (n :: ns) => .ok (.int (minI (n :: ns))) M
      | _ => .bad
    | none => .bad
  | _ => .bad
theorem ints_vs {K : PySem.W.Frag} {w : Wd} {xs : List D} {us : List V} {ns : List Int} (e : intsOf xs = some ns) (r : Reps K w xs us) : us = ns.map V.int := by
  rw [intsOf_inv e] at r
  exact r.ints_of
theorem cv_max : CallV (.builtin "max") bMax := by
  intro C ca cal k X W w ρ M σ H Q ds vs n r g
  unfold bMax at g
  split at g
  · rename_i i j e
    obtain ⟨d, v, d', u, rfl, rd, rd', ev, ev'⟩ := two_of r e
    rw [view_int rd ev, view_int rd' ev']
    exact CallW.of (call_max2 n.ok.calm) ⟨i, j, rfl, Gd.ok g n.rel (.int _)⟩
  · rename_i x e
    obtain ⟨d, v, rfl, rd, ev⟩ := one_of r e
    split at g
    · rename_i xs ei
      rw [← ev] at ei
      obtain ⟨a, us, rfl, hs, rs⟩ := n.rel.itemsL rd ei
      split at g
      · rename_i m ms em
        have := ints_vs em rs
        subst this
        refine CallW.of (cr_max n.ok.calm) ⟨a, m :: ms, rfl, hs, by simp, fun y h1 h2 => ?_⟩
        rw [maxI_is h1 h2] at g
        exact Gd.ok g n.rel (.int _)
      · exact False.elim g
    · exact False.elim g
  · exact False.elim g
theorem cv_min : CallV (.builtin "min") bMin := by
  intro C ca cal k X W w ρ M σ H Q ds vs n r g
  unfold bMin at g
  split at g
  · rename_i i j e
    obtain ⟨d, v, d', u, rfl, rd, rd', ev, ev'⟩ := two_of r e
    rw [view_int rd ev, view_int rd' ev']
    exact CallW.of (call_min2 n.ok.calm) ⟨i, j, rfl, Gd.ok g n.rel (.int _)⟩
  · rename_i i j k e
    obtain ⟨d, v, d', u, d2, t, rfl, rd, rd', rd2, ev, ev', ev2⟩ := three_of r e
    rw [view_int rd ev, view_int rd' ev', view_int rd2 ev2]
    refine CallW.of (call_min3Nu n.ok.calm) ⟨.int i, .int j, .int k, .int (min3I i j k), rfl, ?_, Gd.ok g n.rel (.int _)⟩
    unfold nuMin3 nuMin2 min3I
    show (Option.map (fun c => if c = true then V.int j else V.int i) (some (decide (j < i)))).bind _ = _
    by_cases h1 : j < i
    · rw [decide_eq_true h1, if_pos h1]
      show Option.map (fun c => if c = true then V.int k else V.int j) (some (decide (k < j))) = _
      by_cases h2 : k < j
      · rw [decide_eq_true h2, if_pos h2]; rfl
      · rw [decide_eq_false h2, if_neg h2]; rfl
    · rw [decide_eq_false h1, if_neg h1]
      show Option.map (fun c => if c = true then V.int k else V.int i) (some (decide (k < i))) = _
      by_cases h2 : k < i
      · rw [decide_eq_true h2, if_pos h2]; rfl
      · rw [decide_eq_false h2, if_neg h2]; rfl
  · rename_i x e
    obtain ⟨d, v, rfl, rd, ev⟩ := one_of r e
    split at g
    · rename_i xs ei
      rw [← ev] at ei
      obtain ⟨a, us, rfl, hs, rs⟩ := n.rel.itemsL rd ei
      split at g
      · rename_i m ms em
        have := ints_vs em rs
        subst this
        refine CallW.of (cr_min n.ok.calm) ⟨a, m :: ms, rfl, hs, by simp, fun y h1 h2 => ?_⟩
        rw [minI_is h1 h2] at g
        exact Gd.ok g n.rel (.int _)
      · exact False.elim g
    · exact False.elim g
  · exact False.elim g
def bSum : BltD := fun ds M => match ds with
  | [d] => match itemsL d with
    | some xs => match intsOf xs with
      | some ns => .ok (.int ns.sum) M
      | _ => .bad
    | none => .bad
  | _ => .bad
theorem cv_sum : CallV (.builtin "sum") bSum := by
  intro C ca cal k X W w ρ M σ H Q ds vs n r g
  unfold bSum at g
  split at g
  · rename_i x e
    obtain ⟨d, v, rfl, rd, ev⟩ := one_of r e
    split at g
    · rename_i xs ei
      rw [← ev] at ei
      obtain ⟨a, us, rfl, hs, rs⟩ := n.rel.itemsL rd ei
      split at g
      · rename_i ms em
        have := ints_vs em rs
        subst this
        exact CallW.of (cr_sum n.ok.calm) ⟨a, ms, rfl, hs, Gd.ok g n.rel (.int _)⟩
      · exact False.elim g
    · exact False.elim g
  · exact False.elim g
def blsOf : List D → Option (List Bool)
  | [] => some []
  | .bl i :: r => (blsOf r).map (i :: ·)
  | _ => none
theorem bls_vs {K : PySem.W.Frag} {w : Wd} : ∀ {xs : List D} {us : List V} {ns : List Bool}, blsOf xs = some ns → Reps K w xs us → us = ns.map V.bl
  | [], _, _, e, r => by cases e; cases r; rfl
  | x :: r, us, ns, e, rs => by
    unfold blsOf at e
    split at e
    · rename_i h; cases h
    · rename_i i r' h
      obtain ⟨h1, h2⟩ := List.cons.inj h
      subst h1 h2
      obtain ⟨ms, h3, h4⟩ := Option.map_eq_some_iff.mp e
      subst h4
      cases rs with
      | cons a b =>
        cases a
        rw [bls_vs h3 b]; rfl
    · cases e
@[simp] theorem blsOf_map : ∀ ns : List Bool, blsOf (ns.map D.bl) = some ns
  | [] => rfl
  | n :: ns => by show (blsOf (ns.map D.bl)).map (n :: ·) = _; rw [blsOf_map ns]; rfl
def bAll : BltD := fun ds M => match ds with
  | [d] => match itemsL d with
    | some xs => match blsOf xs with
      | some ns => .ok (.bl (ns.all id)) M
      | _ => .bad
    | none => .bad
  | _ => .bad
def bAny : BltD := fun ds M => match ds with
  | [d] => match itemsL d with
    | some xs => match blsOf xs with
      | some ns => .ok (.bl (ns.any id)) M
      | _ => .bad
    | none => .bad
  | _ => .bad
theorem cv_all : CallV (.builtin "all") bAll := by
  intro C ca cal k X W w ρ M σ H Q ds vs n r g
  unfold bAll at g
  split at g
  · rename_i x e
    obtain ⟨d, v, rfl, rd, ev⟩ := one_of r e
    split at g
    · rename_i xs ei
      rw [← ev] at ei
      obtain ⟨a, us, rfl, hs, rs⟩ := n.rel.itemsL rd ei
      split at g
      · rename_i ms em
        have := bls_vs em rs
        subst this
        exact CallW.of (cr_all n.ok.calm) ⟨a, ms, rfl, hs, Gd.ok g n.rel (.bl _)⟩
      · exact False.elim g
    · exact False.elim g
  · exact False.elim g
theorem cv_any : CallV (.builtin "any") bAny := by
  intro C ca cal k X W w ρ M σ H Q ds vs n r g
  unfold bAny at g
  split at g
  · rename_i x e
    obtain ⟨d, v, rfl, rd, ev⟩ := one_of r e
    split at g
    · rename_i xs ei
      rw [← ev] at ei
      obtain ⟨a, us, rfl, hs, rs⟩ := n.rel.itemsL rd ei
      split at g
      · rename_i ms em
        have := bls_vs em rs
        subst this
        exact CallW.of (cr_any n.ok.calm) ⟨a, ms, rfl, hs, Gd.ok g n.rel (.bl _)⟩
      · exact False.elim g
    · exact False.elim g
  · exact False.elim g
def bInt : BltD := fun ds M => match ds with
  | [.int i] => .ok (.int i) M
  | [.bl b] => .ok (.int (if b then 1 else 0)) M
  | _ => .bad
theorem cv_int : CallV (.type "int") bInt := by
  intro C ca cal k X W w ρ M σ H Q ds vs n r g
  unfold bInt at g
  split at g
  · rename_i i e
    obtain ⟨d, v, rfl, rd, ev⟩ := one_of r e
    rw [view_int rd ev]
    exact CallW.of call_int1 (.inl ⟨i, rfl, Gd.ok g n.rel (.int _)⟩)
  · rename_i i e
    obtain ⟨d, v, rfl, rd, ev⟩ := one_of r e
    rw [view_bl rd ev]
    exact CallW.of call_int1 (.inr ⟨i, rfl, Gd.ok g n.rel (.int _)⟩)
  · exact False.elim g
def bStr : BltD := fun ds M => match ds with
  | [.int i] => if i.natAbs.log2 < 1920 then .ok (.str (toString i)) M else .bad
  | _ => .bad
theorem cv_str : CallV (.type "str") bStr := by
  intro C ca cal k X W w ρ M σ H Q ds vs n r g
  unfold bStr at g
  split at g
  · rename_i i e
    obtain ⟨d, v, rfl, rd, ev⟩ := one_of r e
    rw [view_int rd ev]
    split at g
    · rename_i hz
      exact CallW.of call_str_int ⟨i, rfl, hz, Gd.ok g n.rel (.str _)⟩
    · exact False.elim g
  · exact False.elim g
def bList (bx : Bool) : BltD := fun ds M => match ds with
  | [d] => match itemsD d with
    | some xs => newL bx xs M
    | none => .bad
  | _ => .bad
theorem cv_list {bx : Bool} : CallV (.type "list") (bList bx) := by
  intro C ca cal k X W w ρ M σ H Q ds vs n r g
  unfold bList at g
  split at g
  · rename_i x e
    obtain ⟨d, v, rfl, rd, ev⟩ := one_of r e
    split at g
    · rename_i xs ei
      rw [← ev] at ei
      obtain ⟨a, us, rfl, hs, rs⟩ := n.rel.items rd ei
      exact CallW.of call_list_of ⟨a, us, rfl, hs, fun l hl => Gd.newL g n.rel rs hl⟩
    · exact False.elim g
  · exact False.elim g
/-- ints in order -/
def insI (x : Int) : List Int → List Int
  | [] => [x]
  | y :: ys => if x ≤ y then x :: y :: ys else y :: insI x ys
def sortI : List Int → List Int
  | [] => []
  | x :: xs => insI x (sortI xs)
theorem insI_perm (x : Int) : ∀ ys : List Int, (insI x ys).Perm (x :: ys)
  | [] => .refl _
  | y :: ys => by
    unfold insI
    split
    · exact .refl _
    · exact ((insI_perm x ys).cons y).trans (.swap x y ys)
theorem sortI_perm : ∀ xs : List Int, (sortI xs).Perm xs
  | [] => .refl _
  | x :: xs => (insI_perm x (sortI xs)).trans ((sortI_perm xs).cons x)
theorem insI_sorted (x : Int) : ∀ {ys : List Int}, ys.Pairwise (· ≤ ·) → (insI x ys).Pairwise (· ≤ ·)
  | [], _ => by simp [insI]
  | y :: ys, h => by
    obtain ⟨h1, h2⟩ := List.pairwise_cons.mp h
    unfold insI
    split
    · rename_i hxy
      refine List.pairwise_cons.mpr ⟨fun z hz => ?_, h⟩
      rcases List.mem_cons.mp hz with rfl | hz
      · exact hxy
      · have := h1 z hz; omega
    · rename_i hxy
      refine List.pairwise_cons.mpr ⟨fun z hz => ?_, insI_sorted x h2⟩
      rcases List.mem_cons.mp ((insI_perm x ys).mem_iff.mp hz) with rfl | hz
      · omega
      · exact h1 z hz
theorem sortI_sorted : ∀ xs : List Int, (sortI xs).Pairwise (· ≤ ·)
  | [] => .nil
  | x :: xs => insI_sorted x (sortI_sorted xs)
theorem sorted_eq : ∀ {xs ys : List Int}, xs.Perm ys → xs.Pairwise (· ≤ ·) → ys.Pairwise (· ≤ ·) → xs = ys := by
  intro xs ys h hx hy
  exact h.eq_of_pairwise (fun a b _ _ h1 h2 => Int.le_antisymm h1 h2) hx hy
def pairD (p : Int × Int) : D := .tup [.int p.1, .int p.2]
def pairsOf : List D → Option (List (Int × Int))
  | [] => some []
  | .tup [.int a, .int b] :: r => (pairsOf r).map ((a, b) :: ·)
  | _ => none
theorem pairsOf_inv : ∀ {xs : List D} {ps : List (Int × Int)}, pairsOf xs = some ps → xs = ps.map pairD
  | [], _, e => by cases e; rfl
  | x :: r, ps, e => by
    unfold pairsOf at e
    split at e
    · rename_i h; cases h
    · rename_i a b r' h
      obtain ⟨h1, h2⟩ := List.cons.inj h
      subst h1 h2
      obtain ⟨ms, h3, h4⟩ := Option.map_eq_some_iff.mp e
      subst h4
      rw [pairsOf_inv h3]; rfl
    · cases e
theorem pairsOf_map : ∀ ps : List (Int × Int), pairsOf (ps.map pairD) = some ps
  | [] => rfl
  | p :: ps => by show (pairsOf (ps.map pairD)).map ((p.1, p.2) :: ·) = _; rw [pairsOf_map ps]; rfl
def leP (p q : Int × Int) : Prop := p.1 < q.1 ∨ (p.1 = q.1 ∧ p.2 ≤ q.2)
instance (p q : Int × Int) : Decidable (leP p q) := by unfold leP; infer_instance
def insP (x : Int × Int) : List (Int × Int) → List (Int × Int)
  | [] => [x]
  | y :: ys => if leP x y then x :: y :: ys else y :: insP x ys
def sortP : List (Int × Int) → List (Int × Int)
  | [] => []
  | x :: xs => insP x (sortP xs)
theorem insP_perm (x : Int × Int) : ∀ ys : List (Int × Int), (insP x ys).Perm (x :: ys)
  | [] => .refl _
  | y :: ys => by
    unfold insP
    split
    · exact .refl _
    · exact ((insP_perm x ys).cons y).trans (.swap x y ys)
theorem sortP_perm : ∀ xs : List (Int × Int), (sortP xs).Perm xs
  | [] => .refl _
  | x :: xs => (insP_perm x (sortP xs)).trans ((sortP_perm xs).cons x)
theorem insP_sorted (x : Int × Int) : ∀ {ys : List (Int × Int)}, ys.Pairwise leP → (insP x ys).Pairwise leP
  | [], _ => by simp [insP]
  | y :: ys, h => by
    obtain ⟨g1, g2⟩ := List.pairwise_cons.mp h
    unfold insP
    split
    · rename_i hxy
      refine List.pairwise_cons.mpr ⟨fun z hz => ?_, h⟩
      rcases List.mem_cons.mp hz with rfl | hz
      · exact hxy
      · have := g1 z hz
        unfold leP at *
        omega
    · rename_i hxy
      refine List.pairwise_cons.mpr ⟨fun z hz => ?_, insP_sorted x g2⟩
      rcases List.mem_cons.mp ((insP_perm x ys).mem_iff.mp hz) with rfl | hz
      · unfold leP at *; omega
      · exact g1 z hz
theorem sortP_sorted : ∀ xs : List (Int × Int), (sortP xs).Pairwise leP
  | [] => .nil
  | x :: xs => insP_sorted x (sortP_sorted xs)
theorem sortedP_eq {xs ys : List (Int × Int)} (h : xs.Perm ys) (hx : xs.Pairwise leP) (hy : ys.Pairwise leP) : xs = ys :=
  h.eq_of_pairwise (fun a b _ _ p q => by unfold leP at p q; exact Prod.ext (by omega) (by omega)) hx hy
open Classical in
/-- the ints of a pair that stands in the heap -/
noncomputable def pairAt (H : Hp) (x : V) : Int × Int := if h : ∃ p : Int × Int, ∃ t, x = V.ref t ∧ H t = some (.tup [.int p.1, .int p.2]) then h.choose else (0, 0)
theorem pairAt_is {H : Hp} {t : Addr} {p : Int × Int} (h : H t = some (.tup [.int p.1, .int p.2])) : pairAt H (.ref t) = p := by
  have hh : ∃ p : Int × Int, ∃ t', V.ref t = V.ref t' ∧ H t' = some (.tup [.int p.1, .int p.2]) := ⟨p, t, rfl, h⟩
  unfold pairAt
  rw [dif_pos hh]
  obtain ⟨t', e, h2⟩ := hh.choose_spec
  cases e
  rw [h] at h2
  injection h2 with h2
  injection h2 with h2
  injection h2 with a1 a2
  injection a2 with a2 _
  injection a1 with a1
  injection a2 with a2
  exact Prod.ext a1.symm a2.symm
theorem pair_rep {K : PySem.W.Frag} {w : Wd} {M : Mem} {H : Hp} (R : Rel K w M H) {p : Int × Int} {v : V} (r : Rep K w (pairD p) v) : ∃ t, v = .ref t ∧ H t = some (.tup [.int p.1, .int p.2]) := by
  cases r with
  | tup h rs =>
    cases rs with
    | cons a b => cases a; cases b with
      | cons a b => cases a; cases b; exact ⟨_, rfl, R.tup h⟩
theorem pairs_at {K : PySem.W.Frag} {w : Wd} {M : Mem} {H : Hp} (R : Rel K w M H) : ∀ {ps : List (Int × Int)} {vs : List V}, Reps K w (ps.map pairD) vs → vs.map (pairAt H) = ps ∧ ∀ v ∈ vs, Rep K w (pairD (pairAt H v)) v ∧ ∃ t, v = V.ref t ∧ H t = some (.tup [.int (pairAt H v).1, .int (pairAt H v).2])
  | [], _, r => by cases r; exact ⟨rfl, fun _ h => absurd h List.not_mem_nil⟩
  | p :: ps, _, .cons h t => by
    obtain ⟨a1, a2⟩ := pairs_at R t
    obtain ⟨u, rfl, hu⟩ := pair_rep R h
    have e := pairAt_is hu
    refine ⟨by rw [List.map_cons, a1, e], fun v hv => ?_⟩
    rcases List.mem_cons.mp hv with rfl | hv
    · rw [e]; exact ⟨h, u, rfl, hu⟩
    · exact a2 v hv
theorem reps_of_each {K : PySem.W.Frag} {w : Wd} (f : V → D) : ∀ {vs : List V}, (∀ v ∈ vs, Rep K w (f v) v) → Reps K w (vs.map f) vs
  | [], _ => .nil
  | v :: vs, h => .cons (h v List.mem_cons_self) (reps_of_each f fun u hu => h u (List.mem_cons_of_mem _ hu))
def bSorted (bx : Bool) : BltD := fun ds M => match ds with
  | [d] => match itemsL d with
    | some xs => match intsOf xs with
      | some ns => newL bx ((sortI ns).map D.int) M
      | none => match pairsOf xs with
        | some ps => newL bx ((sortP ps).map pairD) M
        | none => .bad
    | none => .bad
  | _ => .bad
theorem cv_sorted {bx : Bool} : CallV (.builtin "sorted") (bSorted bx) := by
  intro C ca cal k X W w ρ M σ H Q ds vs n r g
  unfold bSorted at g
  split at g
  · rename_i x e
    obtain ⟨d, v, rfl, rd, ev⟩ := one_of r e
    split at g
    · rename_i xs ei
      rw [← ev] at ei
      obtain ⟨a, us, rfl, hs, rs⟩ := n.rel.itemsL rd ei
      split at g
      · rename_i ms em
        have := ints_vs em rs
        subst this
        refine CallW.of cr_sortedI ⟨a, ms, rfl, hs, fun ns' p h1 h2 hp => ?_⟩
        have e2 : ns' = sortI ms := sorted_eq (h1.trans (sortI_perm ms).symm) h2 (sortI_sorted ms)
        subst e2
        exact Gd.newL g n.rel (Reps.ints _) hp
      · split at g
        · rename_i ps ep
          have ex := pairsOf_inv ep
          rw [ex] at rs
          obtain ⟨a1, a2⟩ := pairs_at n.rel rs
          refine CallW.of cr_sortedPO ⟨a, us, pairAt H, rfl, hs, fun x hx => (a2 x hx).2, fun ys q h1 h2 hq => ?_⟩
          have pm := h2.perm
          have ry : Reps X.K w (ys.map fun v => pairD (pairAt H v)) ys := reps_of_each _ fun v hv => (a2 v (pm.mem_iff.mp hv)).1
          have e2 : ys.map (pairAt H) = sortP ps := by
            refine sortedP_eq ?_ ?_ (sortP_sorted ps)
            · have := pm.map (pairAt H)
              rw [a1] at this
              exact this.trans (sortP_perm ps).symm
            · refine List.pairwise_map.mpr (h1.imp fun {x y} h => ?_)
              have := SrtO.lexB_no.mp h
              unfold leP
              omega
          have e3 : (ys.map fun v => pairD (pairAt H v)) = (sortP ps).map pairD := by rw [← e2, List.map_map]; rfl
          rw [e3] at ry
          exact Gd.newL g n.rel ry hq
        · exact False.elim g
    · exact False.elim g
  · exact False.elim g
end Vm

namespace Vm
open PySem PySem.Spec L2

def shownD (p : PyData) : Bool := p.showable && decide (p.shown.length ≤ sizeLine) && !p.hasDict && decide (p.depth < 100)
def bRepr : BltD := fun ds M => match ds with
  | [d] => match toP d with
    | some p => if shownD p = true then .ok (.str p.shown) M else .bad
    | none => .bad
  | _ => .bad
theorem repr_call {X : Cx} {v : V} {p : PyData} {H : Hp} {Q : VK} (hg : X.A.guards = some []) (hu : X.A.units + 101 < cLine) (hd : Dp X.K H v p) (hs : shownD p = true) (q : Q (.str p.shown) H) : CallW X (.builtin "repr") [v] H Q := by
  intro pins s σ us I rv
  obtain ⟨u, rfl, ru⟩ := vals1 rv
  unfold shownD at hs
  simp only [Bool.and_eq_true, decide_eq_true_eq, Bool.not_eq_true'] at hs
  obtain ⟨⟨⟨h1, h2⟩, h3⟩, h4⟩ := hs
  have fin : ∀ (h' : Heap) (t : Tok) (tk : Nat), (∀ b o, s.heap.get? b = some o → h'.get? b = some o) → EP X pins σ Q (.str p.shown t) { s with heap := h', toks := tk } := fun h' t tk hk =>
    ⟨.str p.shown, H, I.kept hk, ⟨t, rfl⟩, q⟩
  obtain ⟨as, r⟩ := Dp.reads I p v u hd ru
  have no : p.hasDict = true → sysModules ∉ as := fun z => by rw [h3] at z; cases z
  cases hd with
  | non =>
    cases ru
    exact P.repr_of_none (fin s.heap _ _ fun _ _ h => h)
  | bl b =>
    cases ru
    exact P.repr_of_bool (fin s.heap _ _ fun _ _ h => h)
  | int i =>
    obtain ⟨t, rfl⟩ := ru
    refine P.repr_of_int (of_decide_eq_true h1) ?_
    have e : PyData.shown (.int i) = Str.ofString (toString i) := by unfold PyData.shown; rfl
    exact ⟨.str (Str.ofString (toString i)), H, I.tok _, ⟨_, rfl⟩, by rw [← e]; exact q⟩
  | str x =>
    obtain ⟨t, rfl⟩ := ru
    exact P.repr_of_str (fin s.heap _ _ fun _ _ h => h) h2
  | lst h1' h2' =>
    cases ru
    exact repr_of_reads' r h1 no hg (by omega) (fun _ _ h => h) fin h2
  | tup h1' h2' =>
    cases ru
    exact repr_of_reads' r h1 no hg (by omega) (fun _ _ h => h) fin h2
theorem cv_repr : CallV (.builtin "repr") bRepr := by
  intro C ca cal k X W w ρ M σ H Q ds vs n r g
  unfold bRepr at g
  split at g
  · rename_i x e
    obtain ⟨d, v, rfl, rd, ev⟩ := one_of r e
    split at g
    · rename_i p ep
      split at g
      · rename_i hs
        refine repr_call n.ok.gd ?_ (n.rel.dpv rd (by rw [ev]; exact ep)) hs (Gd.ok g n.rel (.str _))
        have := n.ok.room.un
        omega
      · exact False.elim g
    · exact False.elim g
  · exact False.elim g

def tyN : D → Option String
  | .non => some "NoneType"
  | .bl _ => some "bool"
  | .int _ => some "int"
  | .str _ => some "str"
  | .tup _ => some "tuple"
  | .lst _ _ => some "list"
  | _ => none
def isTab : List (String × String × Bool) := (["NoneType", "bool", "int", "str", "tuple", "list"].flatMap fun a => ["bool", "int", "str", "tuple", "list", "dict"].map fun b => (a, b, a == b || (a == "bool" && b == "int")))
theorem isTab_ok : ∀ p ∈ isTab, kitB p.1 p.2.1 = some p.2.2 := by decide +kernel
def isB (T : String) (d : D) : Option Bool := match tyN d with
  | some a => (isTab.find? fun p => p.1 == a && p.2.1 == T).map (·.2.2)
  | none => none
theorem isB_kit {K : PySem.W.Frag} {T : String} {d : D} {b : Bool} (h : isB T d = some b) : ∃ a, tyN d = some a ∧ PySem.W.kitOne K (.type a) (.type T) = some b := by
  unfold isB at h
  split at h
  · rename_i a ea
    obtain ⟨p, h1, h2⟩ := Option.map_eq_some_iff.mp h
    have q := List.find?_some h1
    simp only [Bool.and_eq_true, beq_iff_eq] at q
    have z := isTab_ok p (List.mem_of_find?_eq_some h1)
    rw [q.1, q.2, h2] at z
    exact ⟨a, ea, kit_ty z⟩
  · cases h
theorem Rel.tyX {K : PySem.W.Frag} {w : Wd} {M : Mem} {H : Hp} (R : Rel K w M H) {d : D} {v : V} {a : String} (r : Rep K w d v) (h : tyN (view M d) = some a) : TyX K H v (.type a) := by
  unfold tyN at h
  split at h
  · rename_i e; cases h; rw [view_non r e]; exact .base .non
  · rename_i e; cases h; rw [view_bl r e]; exact .base (.bl _)
  · rename_i e; cases h; rw [view_int r e]; exact .base (.int _)
  · rename_i e; cases h; rw [view_str r e]; exact .base (.str _)
  · rename_i e; cases h; obtain ⟨x, vs, rfl, h1, _⟩ := R.tuple r e; exact .base (.tup h1)
  · rename_i e; cases h; obtain ⟨x, vs, rfl, h1, _⟩ := R.list r e; exact .base (.lst h1)
  · cases h
def cIs (T : String) (f : Den) : Den := fun cal ρ M => (f cal ρ M).bind fun d M1 => R.opt ((isB T (view M1 d)).map D.bl) M1
section
variable {C : Cfg} {pos p p2 : Pos} {e a b : Expr} {f g : Den} {T : String} {x : Str} {fs : Dens}
theorem se_is (hl : C.look "isinstance" = some .globalImplicit) (hb : ("isinstance" : Str) ∈ C.T.blt) (hl2 : C.look x = some .globalImplicit) (hb2 : x ∈ C.T.blt) (hv : bootBuiltins x = some (.type T)) (hd : dunder x = true) (hs : noStar e = true) (ha : SE C e f) :
    SE C (.Call (.Name "isinstance" p) [e, .Name x p2] [] pos) (cIs T f) := by
  intro ca cal k X W w ρ M σ H Q n q
  unfold dunder at hd
  simp only [Bool.and_eq_true, decide_eq_true_eq] at hd
  refine WE.of (pe_callB callR_w (gl_of n hl) (n.ok.gx.blt _ hb) (show bootBuiltins ("isinstance" : Str) = some (.builtin "isinstance") by decide +kernel) (pa_cons pe_we (pa_cons (pe_bltn (v := .ty T) (gl_of n hl2) (n.ok.gx.blt x hb2) hv (by first | rfl | exact rfl) hd.1 hd.2) pa_nil rfl) (starEach_cons hs _ X.env)) (by decide) (by decide) (starEach_cons hs _ X.env) rfl) ?_
  refine ha n (Gd.bind q fun d M1 w1 H1 v l1 R1 r1 q1 => ?_)
  obtain ⟨d2, e2, q2⟩ := Gd.opt' q1
  obtain ⟨bb, e3, rfl⟩ := Option.map_eq_some_iff.mp e2
  obtain ⟨t, ht, hk⟩ := isB_kit (K := X.K) e3
  exact CallW.of call_isi ⟨v, .ty T, .type t, .type T, bb, rfl, .ty T, R1.tyX r1 ht, hk, q2 w1 H1 _ (.refl _) R1 (.bl bb)⟩

def rgD (lo hi : Int) : List D := (List.range (hi - lo).toNat).map fun i => .int (lo + (i : Nat))
def lsOk (n : Int) : Prop := -(2 ^ 62) ≤ n ∧ n < 2 ^ 62 ∧ n.toNat ≤ 2 ^ 24
instance (n : Int) : Decidable (lsOk n) := by unfold lsOk; infer_instance
def lsOk2 (n m : Int) : Prop := -(2 ^ 62) ≤ n ∧ n < 2 ^ 62 ∧ -(2 ^ 62) ≤ m ∧ m < 2 ^ 62 ∧ (m - n).toNat ≤ 2 ^ 24
instance (n m : Int) : Decidable (lsOk2 n m) := by unfold lsOk2; infer_instance
theorem lsOk_of {j : Int} (h1 : -1000000 ≤ j) (h2 : j ≤ 1000000) : lsOk j := ⟨by omega, by omega, by omega⟩
theorem lsOk2_of {i j : Int} (h1 : -1000000 ≤ i) (h2 : i ≤ 1000000) (h3 : -1000000 ≤ j) (h4 : j ≤ 1000000) : lsOk2 i j := ⟨by omega, by omega, by omega, by omega, by omega⟩
def cLsRg1 (bx : Bool) (f : Den) : Den := fun cal ρ M => (f cal ρ M).bind fun d M1 => match d with
  | .int n => if lsOk n then newL bx (rgD 0 n) M1 else .bad
  | _ => .bad
def cLsRg2 (bx : Bool) (f g : Den) : Den := fun cal ρ M => (f cal ρ M).bind fun d M1 => (g cal ρ M1).bind fun d2 M2 => match d, d2 with
  | .int n, .int m => if lsOk2 n m then newL bx (rgD n m) M2 else .bad
  | _, _ => .bad
theorem reps_rg {K : PySem.W.Frag} {w : Wd} (a b : Int) : Reps K w (rgD a b) (rgV a b) := by
  unfold rgD rgV
  induction List.range (b - a).toNat with
  | nil => exact .nil
  | cons i r ih => exact .cons (.int _) ih
theorem se_lsrg1 {bx : Bool} {p3 pos2 : Pos} (hl : C.look "list" = some .globalImplicit) (hb : ("list" : Str) ∈ C.T.blt) (hl2 : C.look "range" = some .globalImplicit) (hb2 : ("range" : Str) ∈ C.T.blt) (hs : noStar a = true) (ha : SE C a f) :
    SE C (.Call (.Name "list" p) [.Call (.Name "range" p3) [a] [] pos2] [] pos) (cLsRg1 bx f) := by
  intro ca cal k X W w ρ M σ H Q n q
  refine WE.of (pe_listRg n.ok.calm (gl_of n hl) (n.ok.gx.blt _ hb) (prg_1 (gl_of n hl2) (n.ok.gx.blt _ hb2) pe_we (starEach_cons hs _ X.env)) rfl) ?_
  refine ha n (Gd.bind q fun d M1 w1 H1 v l1 R1 r1 q1 => ?_)
  cases r1 with
  | int i =>
    have q1 : Gd X.K w1 W σ (Rep X.K) Q (if lsOk i then newL bx (rgD 0 i) M1 else .bad) := q1
    by_cases h : lsOk i
    · rw [if_pos h] at q1
      exact ⟨i, rfl, ⟨by decide, by decide, h.1, h.2.1, by rw [Int.sub_zero]; exact h.2.2⟩, fun l hl => Gd.newL q1 R1 (reps_rg 0 i) hl⟩
    · rw [if_neg h] at q1; exact False.elim q1
  | _ => exact False.elim q1
theorem se_lsrg2 {bx : Bool} {p3 pos2 : Pos} (hl : C.look "list" = some .globalImplicit) (hb : ("list" : Str) ∈ C.T.blt) (hl2 : C.look "range" = some .globalImplicit) (hb2 : ("range" : Str) ∈ C.T.blt) (hs : noStar a = true) (hs2 : noStar b = true) (ha : SE C a f) (hg : SE C b g) :
    SE C (.Call (.Name "list" p) [.Call (.Name "range" p3) [a, b] [] pos2] [] pos) (cLsRg2 bx f g) := by
  intro ca cal k X W w ρ M σ H Q n q
  refine WE.of (pe_listRg n.ok.calm (gl_of n hl) (n.ok.gx.blt _ hb) (prg_2 (gl_of n hl2) (n.ok.gx.blt _ hb2) pe_we pe_we (starEach_cons hs _ X.env) (starEach_cons hs2 _ X.env) (by rw [starEach_cons hs2]; rfl)) rfl) ?_
  refine ha n (Gd.bind q fun d M1 w1 H1 v l1 R1 r1 q1 => ?_)
  refine hg (n.up l1 R1) (Gd.bind q1 fun d2 M2 w2 H2 v2 l2 R2 r2 q2 => ?_)
  cases r1 with
  | int i =>
    cases r2 with
    | int j =>
      have q2 : Gd X.K w2 W σ (Rep X.K) Q (if lsOk2 i j then newL bx (rgD i j) M2 else .bad) := q2
      by_cases h : lsOk2 i j
      · rw [if_pos h] at q2
        exact ⟨i, j, rfl, rfl, h, fun l hl => Gd.newL q2 R2 (reps_rg i j) hl⟩
      · rw [if_neg h] at q2; exact False.elim q2
    | _ => exact False.elim q2
  | _ => exact False.elim q2

def noNest : D → Bool
  | .ref _ => false
  | _ => true
def iEn (f : Den) : DenI := fun cal ρ M => (f cal ρ M).bind fun d M1 => match srcD M1 d with
  | some S => match d with
    | .tup _ => .bad
    | _ => .ok ⟨(List.range S.ds.length).zipWith (fun i x => .tup [.int (i : Nat), x]) S.ds, S.chk⟩ M1
  | none => .bad
theorem yields_enum {X : Cx} {w : Wd} {a : Addr} {xs : List D} {chk : Mem → Prop} (h : ∀ {w' : Wd} {M : Mem} {H : Hp}, w.Le w' → Rel X.K w' M H → chk M → ∃ vs, SqL X.K H a vs ∧ Reps X.K w' xs vs) :
    Yields X.K w (Ite X.K a) ⟨(List.range xs.length).zipWith (fun i x => .tup [.int (i : Nat), x]) xs, chk⟩ where
  stop := fun {i w' M H} l R c hi => by
    obtain ⟨vs, h1, r⟩ := h l R c
    rw [List.length_zipWith, List.length_range, Nat.min_self] at hi
    exact ⟨vs, h1, by rw [← r.length]; exact hi⟩
  go := fun {i w' M H} l R c hi => by
    rw [List.length_zipWith, List.length_range, Nat.min_self] at hi
    obtain ⟨vs, h1, r⟩ := h l R c
    obtain ⟨v, h2, _⟩ := r.get (i := i) (List.getElem?_eq_getElem hi)
    exact ⟨vs, v, h1, h2⟩
  yld := fun {i w' M H H' x d} l R c e y => by
    obtain ⟨T, u, rfl, hT, rfl, y1⟩ := (show ∃ T x', x = .ref T ∧ H T = none ∧ H' = upd H T (.tup [.int (i : Nat), x']) ∧ ∀ xs, SqL X.K H a xs → xs[i]? = some x' from y)
    obtain ⟨vs, h1, r⟩ := h l R c
    rw [List.getElem?_zipWith] at e
    have hi : i < xs.length := by
      refine Classical.byContradiction fun hn => ?_
      rw [List.getElem?_eq_none (l := xs) (by omega)] at e
      cases q : (List.range xs.length)[i]? <;> rw [q] at e <;> cases e
    rw [List.getElem?_eq_getElem hi, List.getElem?_range hi] at e
    cases e
    obtain ⟨v, h2, r2⟩ := r.get (i := i) (List.getElem?_eq_getElem hi)
    have := y1 vs h1
    rw [h2] at this
    cases this
    have le := R.addLe (o := .tup [.int (i : Nat), u]) hT
    exact ⟨_, le, R.add hT, .tup upd_same (.cons (.int _) (.cons (r2.up le) .nil))⟩
/-- a source that is a list: where it stands -/
theorem src_list {X : Cx} {w : Wd} {M : Mem} {H : Hp} {d : D} {v : V} {S : Src} (R : Rel X.K w M H) (r : Rep X.K w d v) (e : srcD M d = some S) (hn : ∀ xs, d ≠ .tup xs) :
    ∃ a, v = .ref a ∧ (∃ vs, SqL X.K H a vs) ∧ S.chk M ∧ ∀ {w' : Wd} {M' : Mem} {H' : Hp}, w.Le w' → Rel X.K w' M' H' → S.chk M' → ∃ vs, SqL X.K H' a vs ∧ Reps X.K w' S.ds vs := by
  cases r with
  | tup h r => exact absurd rfl (hn _)
  | lst h r =>
    cases e
    rename_i t _ _ _
    refine ⟨_, rfl, ⟨_, SqL.of (R.lst h)⟩, trivial, fun {w' M' H'} l R' _ => ⟨_, SqL.of (R'.lst (t := t) (by cases t with | true => exact l.b _ _ h | false => exact l.g _ _ h)), r.up l⟩⟩
  | scr h r =>
    cases e
    exact ⟨_, rfl, ⟨_, R.sqL h⟩, trivial, fun {w' M' H'} l R' _ => ⟨_, R'.sqL (SqL.up l.g h), r.up l⟩⟩
  | @ref m a h =>
    have e : (match M[m]? with | some (.lst xs) => some ⟨xs, fun M' => M'[m]? = some (.lst xs)⟩ | _ => none) = some S := e
    split at e
    · rename_i xs em
      cases e
      obtain ⟨a', vs, e1, ea, en, hH, rs⟩ := R.cellL (.ref h) em
      cases e1
      refine ⟨_, rfl, ⟨_, SqL.of hH⟩, em, fun {w' M' H'} l R' c => ?_⟩
      obtain ⟨a2, us, e2, ea2, en2, hH2, rs2⟩ := R'.cellL (.ref (l.at h)) c
      cases e2
      exact ⟨_, SqL.of hH2, rs2⟩
    · cases e
  | _ => cases e
theorem si_en {elts : List Expr} {kk : Nat} {tpos : Pos} (hl : C.look "enumerate" = some .globalImplicit) (hb : ("enumerate" : Str) ∈ C.T.blt) (hs : noStar e = true) (he : SE C e f) :
    SI C (.Tuple elts kk tpos) (.Call (.Name "enumerate" p) [e] [] pos) (iEn f) := by
  intro ca cal k X W w ρ M σ H Q n q
  refine IW.of (pi_enum (gl_of n hl) (n.ok.gx.blt _ hb) (pa_cons pe_we pa_nil (starEach_cons hs _ X.env)) (by rw [starEach_cons hs]; rfl)) ?_
  refine he n (Gd.bind q fun d M1 w1 H1 v l1 R1 r1 q1 => ?_)
  have hS : ∃ S, srcD M1 d = some S ∧ (∀ xs, d ≠ .tup xs) ∧ Gd X.K w1 W σ (fun w' S J => Yields X.K w' J S) Q (.ok ⟨(List.range S.ds.length).zipWith (fun i x => .tup [.int (i : Nat), x]) S.ds, S.chk⟩ M1) := by
    cases hS : srcD M1 d with
    | none => simp only [hS] at q1; exact False.elim q1
    | some S =>
      simp only [hS] at q1
      refine ⟨S, rfl, fun xs z => ?_, ?_⟩
      · subst z; exact q1
      · cases d <;> first | exact q1 | exact False.elim q1
  obtain ⟨S, e1, e2, q2⟩ := hS
  obtain ⟨a, rfl, ⟨vs, hq⟩, _, hY⟩ := src_list R1 r1 e1 e2
  exact ⟨a, vs, rfl, hq, Gd.ok q2 R1 (yields_enum hY)⟩

end

theorem vals_arr {vs zs : List V} {us ws : List Value} (r : Vals vs us) (rz : Vals zs ws) (ix : List Nat) : Vals (arr ix vs zs) (arr ix us ws) := by
  refine r.append ?_
  induction ix with
  | nil => exact .nil
  | cons i ix ih =>
    rw [List.filterMap_cons, List.filterMap_cons]
    have hl := rz.length
    by_cases hi : i < zs.length
    · obtain ⟨u, h1, h2⟩ := rz.get (List.getElem?_eq_getElem hi)
      rw [h1, List.getElem?_eq_getElem hi]
      exact .cons h2 ih
    · rw [List.getElem?_eq_none (by omega), List.getElem?_eq_none (by omega)]
      exact ih
theorem reps_arr {K : PySem.W.Frag} {w : Wd} {ds es : List D} {vs zs : List V} (r : Reps K w ds vs) (rz : Reps K w es zs) (ix : List Nat) : Reps K w (arr ix ds es) (arr ix vs zs) := by
  refine r.append ?_
  induction ix with
  | nil => exact .nil
  | cons i ix ih =>
    rw [List.filterMap_cons, List.filterMap_cons]
    have hl := rz.length
    by_cases hi : i < es.length
    · obtain ⟨u, h1, h2⟩ := rz.get (List.getElem?_eq_getElem hi)
      rw [h1, List.getElem?_eq_getElem hi]
      exact .cons h2 ih
    · rw [List.getElem?_eq_none (by omega), List.getElem?_eq_none (by omega)]
      exact ih
section
variable {X : Cx} {k : Nat} {f : Addr} {fd : FuncData} {ps : List Str} {sp : Sp} {W : WX} {σ : L2.St} {kw : Nat × List Str × List Nat}
theorem runGK {pins : List (Addr × Obj)} {H : Hp} {s : Shared} {Q : VK} {us ws : List Value} {vs zs : List V} (F : FnG X.prog X.w X.K X.mg X.base k f fd ps sp) (hr : Room k X.A) (hg : X.A.guards = some []) (hb : KB fd ps kw) (hu : us.length = kw.1) (hw : ws.length = kw.2.1.length) (tk : Takes X W)
    (I : Inv X pins σ H s) (r : Vals vs us) (rz : Vals zs ws) (h : sp (arr kw.2.2 vs zs) H Q fun c d H' => W c d σ H') : wpAny (model X.prog X.w) X.A (call (.ref f) us (kw.2.1.zip ws)) (EP X pins σ Q) X.xe s := by
  refine wpAny_call (codeAny_mono (F.run X.A X.stack s H ⟨us, kw.2.1.zip ws⟩ (arr kw.2.2 us ws) _ Q _ hr hg I.env0 (.of_eq (hb us ws hu hw)) (vals_arr r rz kw.2.2) h) fun rs s' q => ?_)
  match rs, q with
  | .error e, q => exact tk e s' (XE.of_call I (fun _ _ _ z => z) q)
  | .ok (.ret u), q => exact I.after q
  | .ok .next, q => exact q.elim
  | .ok .brk, q => exact q.elim
  | .ok .cont, q => exact q.elim
end
/-- the keywords' names and values -/
def kwN : List Keyword → Option (List Str)
  | [] => some []
  | ⟨some x, _, _⟩ :: r => (kwN r).map (x :: ·)
  | _ => none
def kwE : List Keyword → List Expr
  | [] => []
  | ⟨_, e, _⟩ :: r => e :: kwE r
theorem kwN_is {kws : List Keyword} {ks : List Str} (env : PySem.Env) (pos : Pos) (h : kwN kws = some ks) :
    (backToKw pos (keywordEach kws env)).all (·.1.isSome) = true ∧ (backToKw pos (keywordEach kws env)).filterMap (·.1) = ks ∧ (backToKw pos (keywordEach kws env)).any (·.1.isNone) = false := by
  induction kws generalizing ks with
  | nil => cases h; exact ⟨rfl, rfl, rfl⟩
  | cons k r ih =>
    obtain ⟨nm, e, p⟩ := k
    cases nm with
    | none => cases h
    | some x =>
      obtain ⟨ks', h1, rfl⟩ := Option.map_eq_some_iff.mp (show (kwN r).map (x :: ·) = some ks from h)
      obtain ⟨a, b, c⟩ := ih h1
      refine ⟨by show (true && (backToKw pos (keywordEach r env)).all (·.1.isSome)) = true; rw [a]; rfl, ?_, by show (false || (backToKw pos (keywordEach r env)).any (·.1.isNone)) = false; rw [c]; rfl⟩
      show x :: (backToKw pos (keywordEach r env)).filterMap (·.1) = x :: ks'
      rw [b]
/-- keywords' values from the left -/
def WK (X : Cx) (kws : List Keyword) : TA := fun σ H Q => ∀ pos pins s, Inv X pins σ H s → wpAny (model X.prog X.w) X.A (evalAll ((backToKw pos (keywordEach kws X.env)).map (·.2))) (AP X pins σ Q) X.xe s
theorem WK.of {X : Cx} {kws : List Keyword} {t : TA} (h : PK X kws t) {σ : L2.St} {H : Hp} {Q : List V → Hp → Prop} (q : t σ H Q) : WK X kws σ H Q := fun pos pins s I => h.run pos pins s σ H Q I q
theorem pk_wk {X : Cx} {kws : List Keyword} : PK X kws (WK X kws) := ⟨fun pos pins s _ _ _ I h => h pos pins s I⟩
def SK (C : Cfg) (kws : List Keyword) (f : Dens) : Prop := ∀ {ca : Nat → Addr} {cal : Cal} {k : Nat} {X : Cx} {W : WX} {w : Wd} {ρ : Env} {M : Mem} {σ : L2.St} {H : Hp} {Q : List V → Hp → Prop},
  Now C ca cal k X W w ρ M σ H → Gd X.K w W σ (Reps X.K) Q (f cal ρ M) → WK X kws σ H Q
/-- all values in the parameters' order -/
def aKw (np nk : Nat) (ix : List Nat) (fs gs : Dens) : Dens := fun cal ρ M => (fs cal ρ M).bind fun ds M1 => (gs cal ρ M1).bind fun es M2 => if ds.length = np ∧ es.length = nk then .ok (arr ix ds es) M2 else .bad
section
variable {C : Cfg} {pos p : Pos} {e : Expr} {es : List Expr} {fs gs : Dens} {f : Den} {ent : FnE} {kws : List Keyword} {kw : Nat × List Str × List Nat}
theorem sk_nil : SK C [] aNil := fun n q => WK.of pk_nil (Gd.ok q n.rel .nil)
theorem sk_cons {nm : Option Str} {kp : Pos} (ha : SE C e f) (hb : SK C kws fs) : SK C (⟨nm, e, kp⟩ :: kws) (aCons f fs) := by
  intro ca cal k X W w ρ M σ H Q n q
  refine WK.of (pk_cons pe_we pk_wk) ?_
  refine ha n (Gd.bind q fun x M1 w1 H1 vx l1 R1 r1 q1 => ?_)
  refine hb (n.up l1 R1) (Gd.bind q1 fun y M2 w2 H2 vy l2 R2 r2 q2 => ?_)
  exact Gd.ok q2 R2 (.cons (r1.up l2) r2)
/-- the call itself, by what is done with the values -/
theorem kw_call {ca : Nat → Addr} {cal : Cal} {k : Nat} {X : Cx} {W : WX} {w : Wd} {ρ : Env} {M : Mem} {σ : L2.St} {H : Hp} {Q : VK} (hin : ent ∈ C.T.fns) (hkw : kw ∈ ent.kws) (hl : C.look ent.name = some .globalImplicit) (hdb : (ent.name == ("__debug__" : Str)) = false)
    (hs : es.all noStar = true) (hn : kwN kws = some kw.2.1) (n : Now C ca cal k X W w ρ M σ H)
    (h : WA X es σ H fun vs H1 => WK X kws σ H1 fun zs H2 => vs.length = kw.1 ∧ zs.length = kw.2.1.length ∧ spF X.K ca cal ent.id ent.ps.length (arr kw.2.2 vs zs) H2 Q fun c d H' => W c d σ H') : WE X (.Call (.Name ent.name p) es kws pos) σ H Q := by
  intro pins s I
  obtain ⟨f, fd, h1, h2, h3, h4, h5⟩ := n.ok.gx.fns ent hin
  obtain ⟨k1, k2, k3⟩ := kwN_is X.env pos hn
  refine wpAny_Call_Name_kw (ld_glob I (gl_of n hl) h1 ?_ hdb)
  cases es with
  | nil =>
    refine PySem.W.callWith_KW0 (h₀ := X.base) I.ok.mod.kin h2 k1 ?_ (by rw [k3]; rfl)
    have h' := h pos pins s I
    have h' : wpAny (model X.prog X.w) X.A (spliced []) (AP X pins σ _) X.xe s := h'
    intro Γ pp hΓ
    obtain ⟨vs, H1, I1, rv, q⟩ := h' Γ pp hΓ
    refine thn (q pos pins s I1) (fun ws s2 ⟨zs, H2, I2, rz, q1, q2, q3⟩ => ⟨I2.kIn, ?_⟩) Γ pp hΓ
    rw [k2]
    exact runGK (us := []) h3 (room_call n) n.ok.gd (h5 kw hkw) (by rw [← q1, rv.length]) (by rw [← q2, rz.length]) n.tk I2 rv rz q3
  | cons e es =>
    rw [List.all_cons, Bool.and_eq_true] at hs
    refine PySem.W.callWith_KW (h₀ := X.base) I.ok.mod.kin h2 k1 (thn (h pos pins s I) fun us s1 ⟨vs, H1, I1, rv, q⟩ => ?_) (by rw [k3, starEach_any (es := e :: es) (by rw [List.all_cons, hs.1, hs.2]; rfl) X.env pos]; rfl) (starEach_cons hs.1 es X.env)
    refine thn (q pos pins s1 I1) fun ws s2 ⟨zs, H2, I2, rz, q1, q2, q3⟩ => ⟨I2.kIn, ?_⟩
    rw [k2]
    exact runGK (us := us) h3 (room_call n) n.ok.gd (h5 kw hkw) (by rw [← q1, rv.length]) (by rw [← q2, rz.length]) n.tk I2 rv rz q3
theorem se_callK (hin : ent ∈ C.T.fns) (hkw : kw ∈ ent.kws) (hl : C.look ent.name = some .globalImplicit) (hdb : (ent.name == ("__debug__" : Str)) = false) (hs : es.all noStar = true) (hn : kwN kws = some kw.2.1) (ha : SA C es fs) (hk : SK C kws gs) :
    SE C (.Call (.Name ent.name p) es kws pos) (cCall ent.id ent.ps.length (aKw kw.1 kw.2.1.length kw.2.2 fs gs)) := by
  intro ca cal k X W w ρ M σ H Q n q
  refine kw_call hin hkw hl hdb hs hn n ?_
  have q : Gd X.K w W σ (Rep X.K) Q (((fs cal ρ M).bind fun ds M1 => (gs cal ρ M1).bind fun es M2 => if ds.length = kw.1 ∧ es.length = kw.2.1.length then R.ok (arr kw.2.2 ds es) M2 else .bad).bind fun ds M1 => if ds.length = ent.ps.length then cal ent.id ds M1 else .bad) := q
  rw [R.bind_assoc] at q
  refine ha n (Gd.bind q fun ds M1 w1 H1 vs l1 R1 r1 q1 => ?_)
  rw [R.bind_assoc] at q1
  refine hk (n.up l1 R1) (Gd.bind q1 fun zs M2 w2 H2 us l2 R2 r2 q2 => ?_)
  by_cases h : ds.length = kw.1 ∧ zs.length = kw.2.1.length
  · rw [if_pos h, R.ok_bind] at q2
    refine ⟨by rw [← r1.length]; exact h.1, by rw [← r2.length]; exact h.2, ?_⟩
    by_cases h' : (arr kw.2.2 ds zs).length = ent.ps.length
    · rw [if_pos h'] at q2
      exact ent_call ((n.up l1 R1).up l2 R2) (reps_arr (r1.up l2) r2 _) h' q2
    · rw [if_neg h'] at q2; exact False.elim q2
  · rw [if_neg h] at q2; exact False.elim q2
theorem se_pureK (hin : ent ∈ C.T.fns) (hkw : kw ∈ ent.kws) (hl : C.look ent.name = some .globalImplicit) (hdb : (ent.name == ("__debug__" : Str)) = false) (hs : es.all noStar = true) (hn : kwN kws = some kw.2.1) (ha : SA C es fs) (hk : SK C kws gs) :
    SE C (.Call (.Name ent.name p) es kws pos) (cPure ent.id ent.ps.length (aKw kw.1 kw.2.1.length kw.2.2 fs gs)) := by
  intro ca cal k X W w ρ M σ H Q n q
  refine kw_call hin hkw hl hdb hs hn n ?_
  have q : Gd X.K w W σ (Rep X.K) Q (((fs cal ρ M).bind fun ds M1 => (gs cal ρ M1).bind fun es M2 => if ds.length = kw.1 ∧ es.length = kw.2.1.length then R.ok (arr kw.2.2 ds es) M2 else .bad).bind fun ds M1 => if ds.length = ent.ps.length ∧ frees (ds.map (view M1)) = true then lift M1 (cal ent.id (ds.map (view M1)) []) else .bad) := q
  rw [R.bind_assoc] at q
  refine ha n (Gd.bind q fun ds M1 w1 H1 vs l1 R1 r1 q1 => ?_)
  rw [R.bind_assoc] at q1
  refine hk (n.up l1 R1) (Gd.bind q1 fun zs M2 w2 H2 us l2 R2 r2 q2 => ?_)
  by_cases h : ds.length = kw.1 ∧ zs.length = kw.2.1.length
  · rw [if_pos h, R.ok_bind] at q2
    refine ⟨by rw [← r1.length]; exact h.1, by rw [← r2.length]; exact h.2, ?_⟩
    generalize hxs : arr kw.2.2 ds zs = xs at q2
    have r3 : Reps X.K w2 xs (arr kw.2.2 vs us) := by rw [← hxs]; exact reps_arr (r1.up l2) r2 _
    by_cases h' : xs.length = ent.ps.length ∧ frees (xs.map (view M2)) = true
    · rw [if_pos h'] at q2
      have g := Gd.lift R2 q2
      refine ⟨w2.bor H2, [], xs.map (view M2), (l2.c.trans l1.c).trans n.ca, R2.bor, R2.borReps r3 h'.2, by rw [List.length_map]; exact h'.1, ?_⟩
      cases hr : cal ent.id (xs.map (view M2)) [] with
      | ok d M' => rw [hr] at g; exact g
      | exn c ks vs M' => rw [hr] at g; exact g
      | bad => rw [hr] at g; exact g
    · rw [if_neg h'] at q2; exact False.elim q2
  · rw [if_neg h] at q2; exact False.elim q2
end
end Vm

namespace Vm
open PySem PySem.Spec PyProof.Rows L2
theorem law_callG {P : Program} {w : World} {K : PySem.W.Frag} {mg mb : Str → Option Value} {k : Nat} {fa a : Addr} {fd : FuncData} {x : Str} {sp : Sp} {t1 : Shared} {vs : List Value} {ns : List Int}
    (KX : K.In t1.heap) (hns : t1.heap.Ns mainGlobals mg) (hb : t1.heap.Ns builtinsNs mb) (hbb : ∀ x : Str, x ≠ "__name__" → mb x = bootBuiltins x) (hlim : t1.heap.NoLimit) (hg : t1.gens = #[])
    (ha : t1.heap.get? a = some { cls := .type "list", data := .seq vs.toArray }) (hi : IntsAre vs ns) (hlen : ns.length ≤ sizeLine) (hr : Room k callerA)
    (F : ∀ base : Heap, K.In base → base.Ns mainGlobals mg → FnG P w K mg base k fa fd [x] sp) (hbind : ∀ (s : Shared) (u : Value), BindsTo s fd ⟨[u], []⟩ [(x, u)])
    (hsp : ∀ J : Hp, Only J → SqL K J a (ns.map V.int) → sp [.ref a] J (fun v _ => v = .bl true) fun _ _ _ => False) :
    codeAny (model P w) callerA (.call (.ref fa) ⟨[.ref a], []⟩) (fun r s' => r = .ok (.ret (.bool true)) ∧ OldK t1.heap s'.heap ∧ s'.os = t1.os ∧ AllBare s'.gens) t1 := by
  have rv := vals_ints hi
  have lenV := hi.length
  -- from an abstract heap in which nothing but the script may be tracked
  have core : ∀ J : Hp, Only J → SqL K J a (ns.map V.int) → HOk P w J t1.heap → (∀ b, J b ≠ none → b = a) → (J a ≠ none → K.lookup a = none) →
      codeAny (model P w) callerA (.call (.ref fa) ⟨[.ref a], []⟩) (fun r s' => r = .ok (.ret (.bool true)) ∧ OldK t1.heap s'.heap ∧ s'.os = t1.os ∧ AllBare s'.gens) t1 := by
    intro J jO jS jok jA jK
    have base_of : ∀ {b : Addr} {ob : Obj}, t1.heap.get? b = some ob → J b = none → (hidT t1.heap J).get? b = some ob := fun e n => hidT_get e n
    have noA : ∀ {b : Addr} {ob : Obj} {es : Array DictEntry} {ep : Nat}, t1.heap.get? b = some ob → ob.data = .dict es ep → J b = none := fun {b ob es ep} e d => by
      cases qq : J b with
      | none => rfl
      | some u =>
        have ee : b = a := jA b (by rw [qq]; simp)
        subst ee
        rw [ha] at e; cases e
        exact nomatch (show Data.seq vs.toArray _ = Data.dict es ep from d)
    have nsK : ∀ {b : Addr} {m : Str → Option Value}, t1.heap.Ns b m → (hidT t1.heap J).Ns b m := fun {b m} ⟨ob, es, ep, e, d, r⟩ => ⟨ob, es, ep, base_of e (noA e d), d, r⟩
    have hKb : K.In (hidT t1.heap J) := fun b ob e => base_of (KX b ob e) (by
      cases qq : J b with
      | none => rfl
      | some u =>
        have ee : b = a := jA b (by rw [qq]; simp)
        subst ee
        rw [jK (by rw [qq]; simp)] at e; cases e)
    have hM : Mod K mg (hidT t1.heap J) := ⟨hKb, nsK hns, ⟨mb, nsK hb, hbb⟩, let ⟨mc, h1, h2⟩ := hlim; ⟨mc, nsK h1, h2⟩⟩
    have e0 : Env0 P w K mg (hidT t1.heap J) callerA [] t1 J := ⟨rfl, hM, fun b ob e => of_hidT e, Nat.le_of_eq (hidT_size _ _), trivial, fun b hb => absurd (show b ∈ ([] : List Addr) from hb) (by simp), jok, .of_eq hg⟩
    refine codeAny_mono ((F _ hKb (nsK hns)).run callerA [] t1 J ⟨[.ref a], []⟩ [.ref a] [.ref a] _ _ hr rfl e0 (hbind t1 (.ref a)) (.cons rfl .nil) (hsp J jO jS)) fun r s' h => ?_
    cases r with
    | error e =>
      obtain ⟨_, _, _, _, _, _, _, _, _, _, _, _, _, z⟩ := (show L2.CX P w [] J t1 (fun _ _ _ => False) e s' from h)
    | ok fl =>
      cases fl with
      | next => exact False.elim h
      | brk => exact False.elim h
      | cont => exact False.elim h
      | ret u =>
        obtain ⟨v, J', os, bare, un, jok', r', qq⟩ := h
        have qq' : v = .bl true := qq
        subst qq'
        obtain rfl : u = Value.bool true := r'
        refine ⟨rfl, OldK.of_keep fun b ob e => ?_, os, bare⟩
        cases qq : J b with
        | none => exact un.keep b ob e qq (by intro z; exact absurd (show b ∈ ([] : List Addr) from z) (by simp)) (by simp)
        | some u =>
          rcases jO b with z | ⟨ob, xs, z⟩
          · rw [qq] at z; cases z
          · have z2 := un.frzs b ob _ z
            obtain ⟨e1, _⟩ := jok b _ z
            obtain ⟨e2, _⟩ := jok' b _ z2
            rw [e] at e1; cases e1
            exact e2
  cases hk : K.lookup a with
  | some ob =>
    -- the script is one of the module's own objects
    have e := KX a ob hk
    rw [ha] at e
    cases e
    refine core (fun _ => none) (fun _ => .inl rfl) (.inr ⟨_, vs.toArray, _, hk, rfl, rfl, rfl, by rw [List.size_toArray, lenV]; exact hlen, by simpa using rv⟩) (fun b u z => by have zz : (none : Option HO) = some u := z; cases zz) (fun b z => absurd rfl z) fun z => absurd rfl z
  | none =>
    refine core (fun b => if b = a then some (.frz { cls := .type "list", data := .seq vs.toArray } (.lst (ns.map V.int))) else none) (fun b => ?_) (.inl (.inr ⟨{ cls := .type "list", data := .seq vs.toArray }, if_pos rfl⟩)) (fun b u z => ?_) (fun b z => ?_) fun _ => hk
    · by_cases hb : b = a
      · exact .inr ⟨_, _, if_pos hb⟩
      · exact .inl (if_neg hb)
    · by_cases hb : b = a
      · have zz := (if_pos hb).symm.trans z
        cases zz
        subst hb
        exact ⟨ha, by rw [List.length_map]; exact hlen, vs, _, rv, ha⟩
      · have zz := (if_neg hb).symm.trans z
        cases zz
    · by_cases hb : b = a
      · exact hb
      · exact absurd (if_neg hb) z

/-- the world before the law runs: what stands in the script's heap never changes -/
def wd0 (H : Hp) (ca : Nat → Addr) : Wd := { G := H, B := H, F := H, mu := [], ca := ca, lk := [], nu := [] }
theorem rel0 {K : PySem.W.Frag} {H : Hp} {ca : Nat → Addr} : Rel K (wd0 H ca) [] H :=
  ⟨fun _ _ h => h, fun _ _ h => h, fun _ _ h _ => h, fun _ _ _ h => absurd h List.not_mem_nil, fun h => absurd h List.not_mem_nil, rfl, rfl, List.nodup_nil, fun _ h => absurd h List.not_mem_nil, fun _ h => absurd h List.not_mem_nil, fun _ h => absurd h List.not_mem_nil, fun _ _ _ _ h => by simp at h⟩
/-- the goal that the head leaves: the law's def among the table's, and what it computes -/
theorem walkG {l : PySem.W.OpenLaw} {n k : Nat} {q : Program} {loose : List Str} {XP : (Str → Option Value) → Heap → Prop} {YP : World → Heap → Prop} {d : DefRec} {K : Params → PySem.W.Frag} {T : Tab} {t : Tbl} {e : FnE} {x : Str}
    (hn : l.most = some n) (hn2 : n ≤ sizeLine) (hdf : d.params.defaults = []) (hr : Room (2 * k + 2) callerA) (hY : ∀ (w : World) (h : Heap), YP w h → (K w.params).In h) (he : e ∈ T.fns) (hnm : e.name = d.name) (hps : e.ps = [x])
    (F : ∀ (w : World) (mg : Str → Option Value) (h : Heap), (K w.params).In h → h.Ns mainGlobals mg → ∃ ca : Nat → Addr, (∀ e ∈ T.fns, FnI l.prog (K w.params) mg T t e) ∧ (∀ x ∈ T.blt, mg x = none) ∧ TxF T ca t w (K w.params) mg)
    (hsp : ∀ ns : List Int, ns.length ≤ n → ∃ M, callN t (k + 1) e.id [.scr (ns.map D.int)] [] = .ok (.bl true) M) : PySem.W.WalkO q loose XP YP l.row.toRowW d [] (fun f vs => PySem.call f vs) := by
  refine Att.attach_call hn hdf fun w s₀ s₁ mg mb fa o pm cd doc a vs ns G Y ho hd hcd hmg hobj hints hlen hg => ?_
  have KX := hY w _ Y
  obtain ⟨ca, hF, hB, hE⟩ := F w mg _ KX G.T.g
  obtain ⟨f, fd, qual, st, N, body, h1, h2, h3, _, hFun, hSc, hBd, ht⟩ := (hF e he).ex
  have ef : f = fa := by
    rw [hnm, hmg] at h1
    cases h1; rfl
  subst ef
  refine law_callG (fd := fd) (x := x) KX G.T.g G.T.b G.T.builtins G.T.nolimit hg hobj hints (Nat.le_trans hlen hn2) hr
    (fun base hb hns => by have z := fn_ok (gx_all (P := l.prog) (wo := w) (base := base) (ca := ca) hF hB hE k) hFun hSc hBd; rw [hps] at z; exact z) (fun s u => ?_) fun H hO hS => ?_
  · have z := h3 [u] (by rw [hps]; rfl)
    rw [hps] at z
    exact .of_eq z
  · obtain ⟨M, hM⟩ := hsp ns hlen
    refine ⟨wd0 H ca, [], [.scr (ns.map D.int)], rfl, rel0, .cons (.scr hS (Reps.ints ns)) .nil, by rfl, ?_⟩
    have q : callN t (k + 1) e.id [.scr (ns.map D.int)] [] = fnD N body [.scr (ns.map D.int)] [] (callN t k) := by
      show (match t e.id with | some (N, body) => fnD N body [.scr (ns.map D.int)] [] (callN t k) | none => .bad) = _
      rw [ht]
    rw [← q, hM]
    intro w' H' b _ _ r
    cases r
    rfl

theorem kb_of {K : PySem.W.Frag} {x qual : Str} {st : Stmt} {f : Addr} {fd : FuncData} {ps : List Str} {kw : Nat × List Str × List Nat} (F : Fun K x qual st f fd)
    (h : ∀ (kV doc pm : Value) (an : Option Addr) (cdv ct : Value) (us ws : List Value), us.length = kw.1 → ws.length = kw.2.1.length → bindArgs (PySem.W.fnOf x qual (defArgs st) (defBody st) (defScope st) .none kV doc pm an cdv ct) ⟨us, kw.2.1.zip ws⟩ = pure (ps.zip (arr kw.2.2 us ws))) : KB fd ps kw := by
  obtain ⟨oc, od, kV, doc, pm, an, cdv, ct, osl, rfl, lk, hcd⟩ := F.ex
  exact h kV doc pm an cdv ct
theorem ba_of {K : PySem.W.Frag} {x qual : Str} {st : Stmt} {f : Addr} {fd : FuncData} {ps : List Str} (F : Fun K x qual st f fd)
    (h : ∀ (kV doc pm : Value) (an : Option Addr) (cdv ct : Value) (us : List Value), us.length = ps.length → bindArgs (PySem.W.fnOf x qual (defArgs st) (defBody st) (defScope st) .none kV doc pm an cdv ct) ⟨us, []⟩ = pure (ps.zip us)) :
    ∀ us : List Value, us.length = ps.length → bindArgs fd ⟨us, []⟩ = pure (ps.zip us) := by
  obtain ⟨oc, od, kV, doc, pm, an, cdv, ct, osl, rfl, lk, hcd⟩ := F.ex
  exact h kV doc pm an cdv ct
/-- one def of the table, from what the head's tool finds -/
theorem fnI_of {P : Program} {K : PySem.W.Frag} {mg : Str → Option Value} {h : Heap} {T : Tab} {t : Tbl} {e : FnE} {st : Stmt} {N : List Str} {body : SDen} {f : Addr} {oc : Value} {od an : Option Addr} {osl : Array (Option Value)} {kV doc pm cdv ct : Value}
    (X : K.In h) (G : h.Ns mainGlobals mg) (S : FnScope N e.ps (defScope st)) (hb : SSs { T := T, N := N, sc := defScope st } (defBody st) body) (ht : t e.id = some (N, body))
    (hba : ∀ (kV doc pm : Value) (an : Option Addr) (cdv ct : Value) (us : List Value), us.length = e.ps.length → bindArgs (PySem.W.fnOf e.name e.name (defArgs st) (defBody st) (defScope st) .none kV doc pm an cdv ct) ⟨us, []⟩ = pure (e.ps.zip us))
    (hkb : ∀ kw ∈ e.kws, ∀ (kV doc pm : Value) (an : Option Addr) (cdv ct : Value) (us ws : List Value), us.length = kw.1 → ws.length = kw.2.1.length → bindArgs (PySem.W.fnOf e.name e.name (defArgs st) (defBody st) (defScope st) .none kV doc pm an cdv ct) ⟨us, kw.2.1.zip ws⟩ = pure (e.ps.zip (arr kw.2.2 us ws)))
    (a1 : PySem.W.nsIn K mainGlobals e.name = some (some (.ref f))) (l1 : K.lookup f = some ⟨oc, od, .func (PySem.W.fnOf e.name e.name (defArgs st) (defBody st) (defScope st) .none kV doc pm an cdv ct), osl⟩) (c1 : PySem.W.codeIn K cdv e.name = true) (k1 : PySem.W.keepIn K (.ref f) = true) : FnI P K mg T t e :=
  ⟨⟨f, _, e.name, st, N, body, PySem.W.mg_of X G a1, k1, ba_of (fun_mk l1 c1 k1) hba, fun kw hk => kb_of (fun_mk l1 c1 k1) (hkb kw hk), fun_mk l1 c1 k1, S, hb, ht⟩⟩
/-- one def of a class -/
theorem fnS_of {K : PySem.W.Frag} {T : Tab} {t : Tbl} {m : MtE} {qual : Str} {st : Stmt} {N : List Str} {body : SDen} {f : Addr} {oc : Value} {od an : Option Addr} {osl : Array (Option Value)} {kV doc pm cdv ct : Value}
    (S : FnScope N m.ps (defScope st)) (hb : SSs { T := T, N := N, sc := defScope st } (defBody st) body) (ht : t m.id = some (N, body))
    (hba : ∀ (kV doc pm : Value) (an : Option Addr) (cdv ct : Value) (us : List Value), us.length = m.ps.length → bindArgs (PySem.W.fnOf m.nm qual (defArgs st) (defBody st) (defScope st) .none kV doc pm an cdv ct) ⟨us, []⟩ = pure (m.ps.zip us))
    (l1 : K.lookup f = some ⟨oc, od, .func (PySem.W.fnOf m.nm qual (defArgs st) (defBody st) (defScope st) .none kV doc pm an cdv ct), osl⟩) (c1 : PySem.W.codeIn K cdv qual = true) (k1 : PySem.W.keepIn K (.ref f) = true) : FnS K T t m f :=
  ⟨_, qual, st, N, body, ba_of (fun_mk l1 c1 k1) hba, fun_mk l1 c1 k1, S, hb, ht⟩
end Vm

namespace Vm
open PySem PySem.Spec L2
def okV (C : Cfg) (x : Str) (i : Nat) : Bool := decide (C.N[i]? = some x) && (decide (C.look x = some .local) || decide (C.look x = some .cell) || decide (C.look x = some .free)) && !(x == ("__debug__" : Str)) && !(x == ("__classdict__" : Str))
def okG (C : Cfg) (x : Str) : Bool := decide (C.look x = some .globalImplicit) && !(x == ("__debug__" : Str))
def okB (C : Cfg) (x : Str) : Bool := decide (C.look x = some .globalImplicit) && decide (x ∈ C.T.blt)
def okS (C : Cfg) (x : Str) (i : Nat) : Bool := decide (C.N[i]? = some x) && C.stor x
theorem okG_is {C : Cfg} {x : Str} (h : okG C x = true) : C.look x = some .globalImplicit ∧ (x == ("__debug__" : Str)) = false := by
  unfold okG at h
  simp only [Bool.and_eq_true, decide_eq_true_eq, Bool.not_eq_true'] at h
  exact h
theorem okB_is {C : Cfg} {x : Str} (h : okB C x = true) : C.look x = some .globalImplicit ∧ x ∈ C.T.blt := by
  unfold okB at h
  simp only [Bool.and_eq_true, decide_eq_true_eq] at h
  exact h
theorem okS_is {C : Cfg} {x : Str} {i : Nat} (h : okS C x i = true) : C.N[i]? = some x ∧ C.stor x = true := by
  unfold okS at h
  simp only [Bool.and_eq_true, decide_eq_true_eq] at h
  exact h
section
variable {C : Cfg} {pos p p2 p3 : Pos} {e a b : Expr} {es : List Expr} {f g : Den} {fs gs : Dens} {x y : Str} {i j : Nat} {ent : FnE} {kws : List Keyword} {kw : Nat × List Str × List Nat} {it tg elt : Expr} {fi : DenI} {t : Tgt} {ifs : List Expr} {fc : DenB} {fe : Den} {scope : Scope} {ow : List (Str × Nat)}
theorem e_v (i : Nat) (h : okV C x i = true) : SE C (.Name x pos) (cVar i) := by
  unfold okV at h
  simp only [Bool.and_eq_true, decide_eq_true_eq, Bool.or_eq_true, Bool.not_eq_true'] at h
  obtain ⟨⟨⟨h1, h2⟩, h3⟩, h4⟩ := h
  exact se_var h1 (by rcases h2 with (h | h) | h; exact .inl h; exact .inr (.inl h); exact .inr (.inr h)) h3 h4
theorem s_set (i : Nat) (h : okS C x i = true) (hs : noComp e = true) (he : SE C e f) : SS C (.Assign [.Name x p] e pos) (sSet i f) := ss_set (okS_is h).1 (okS_is h).2 hs he
theorem g_nm (i : Nat) (h : okS C x i = true) : SG C (.Name x p) (gNm i) := sg_name (okS_is h).1 (okS_is h).2
theorem s_lc {bx : Bool} (i : Nat) (ow : List (Str × Nat)) (h : okS C x i = true) (hk : decide (C.sc.kind = .function) = true) (hs : noSet it = true) (hb : blkOk C.N C.sc scope ow = true) (hix : t.ix.all (fun i => (ow.map (·.2)).contains i) = true)
    (hi : SI C tg it fi) (ht : SG (C.blk scope) tg t) (hc : SC (C.blk scope) ifs fc) (he : SE (C.blk scope) elt fe) :
    SS C (.Assign [.Name x p2] (.ListComp elt [⟨tg, it, ifs, 0⟩] scope pos) p3) (sSet i (cLc bx (ow.map (·.2)) fi t fc fe)) := ss_setlc (okS_is h).1 (okS_is h).2 (of_decide_eq_true hk) hs hb hix hi ht hc he
theorem e_lc {bx : Bool} (ow : List (Str × Nat)) (hs : noSet it = true) (hb : blkOk C.N C.sc scope ow = true) (hix : t.ix.all (fun i => (ow.map (·.2)).contains i) = true) (hi : SI C tg it fi) (ht : SG (C.blk scope) tg t) (hc : SC (C.blk scope) ifs fc) (he : SE (C.blk scope) elt fe) :
    SE C (.ListComp elt [⟨tg, it, ifs, 0⟩] scope pos) (cLc bx (ow.map (·.2)) fi t fc fe) := se_lc hs hb hix hi ht hc he
theorem e_call (hin : ent ∈ C.T.fns) (h : okG C ent.name = true) (hs : (e :: es).all noStar = true) (ha : SA C (e :: es) fs) : SE C (.Call (.Name ent.name p) (e :: es) [] pos) (cCall ent.id ent.ps.length fs) := se_call hin (okG_is h).1 (okG_is h).2 hs ha
theorem e_call0 (hin : ent ∈ C.T.fns) (h : okG C ent.name = true) : SE C (.Call (.Name ent.name p) [] [] pos) (cCall ent.id ent.ps.length aNil) := se_call0 hin (okG_is h).1 (okG_is h).2
theorem e_pure (hin : ent ∈ C.T.fns) (h : okG C ent.name = true) (hs : (e :: es).all noStar = true) (ha : SA C (e :: es) fs) : SE C (.Call (.Name ent.name p) (e :: es) [] pos) (cPure ent.id ent.ps.length fs) := se_pure hin (okG_is h).1 (okG_is h).2 hs ha
theorem e_callK (kw : Nat × List Str × List Nat) (hin : ent ∈ C.T.fns) (hkw : kw ∈ ent.kws) (h : okG C ent.name = true) (hs : es.all noStar = true) (hn : decide (kwN kws = some kw.2.1) = true) (ha : SA C es fs) (hk : SK C kws gs) :
    SE C (.Call (.Name ent.name p) es kws pos) (cCall ent.id ent.ps.length (aKw kw.1 kw.2.1.length kw.2.2 fs gs)) := se_callK hin hkw (okG_is h).1 (okG_is h).2 hs (of_decide_eq_true hn) ha hk
theorem e_pureK (kw : Nat × List Str × List Nat) (hin : ent ∈ C.T.fns) (hkw : kw ∈ ent.kws) (h : okG C ent.name = true) (hs : es.all noStar = true) (hn : decide (kwN kws = some kw.2.1) = true) (ha : SA C es fs) (hk : SK C kws gs) :
    SE C (.Call (.Name ent.name p) es kws pos) (cPure ent.id ent.ps.length (aKw kw.1 kw.2.1.length kw.2.2 fs gs)) := se_pureK hin hkw (okG_is h).1 (okG_is h).2 hs (of_decide_eq_true hn) ha hk
theorem dk_len : dunder "len" = true := by decide +kernel
theorem dk_abs : dunder "abs" = true := by decide +kernel
theorem dk_max : dunder "max" = true := by decide +kernel
theorem dk_min : dunder "min" = true := by decide +kernel
theorem dk_sum : dunder "sum" = true := by decide +kernel
theorem dk_all : dunder "all" = true := by decide +kernel
theorem dk_any : dunder "any" = true := by decide +kernel
theorem dk_int : dunder "int" = true := by decide +kernel
theorem dk_str : dunder "str" = true := by decide +kernel
theorem dk_list : dunder "list" = true := by decide +kernel
theorem dk_sorted : dunder "sorted" = true := by decide +kernel
theorem dk_repr : dunder "repr" = true := by decide +kernel
theorem bo_len : bootBuiltins "len" = some (.builtin "len") := by decide +kernel
theorem bo_abs : bootBuiltins "abs" = some (.builtin "abs") := by decide +kernel
theorem bo_max : bootBuiltins "max" = some (.builtin "max") := by decide +kernel
theorem bo_min : bootBuiltins "min" = some (.builtin "min") := by decide +kernel
theorem bo_sum : bootBuiltins "sum" = some (.builtin "sum") := by decide +kernel
theorem bo_all : bootBuiltins "all" = some (.builtin "all") := by decide +kernel
theorem bo_any : bootBuiltins "any" = some (.builtin "any") := by decide +kernel
theorem bo_sorted : bootBuiltins "sorted" = some (.builtin "sorted") := by decide +kernel
theorem bo_repr : bootBuiltins "repr" = some (.builtin "repr") := by decide +kernel
theorem bo_int : bootBuiltins "int" = some (.type "int") := by decide +kernel
theorem bo_str : bootBuiltins "str" = some (.type "str") := by decide +kernel
theorem bo_list : bootBuiltins "list" = some (.type "list") := by decide +kernel
theorem bo_tuple : bootBuiltins "tuple" = some (.type "tuple") := by decide +kernel
theorem bo_bool : bootBuiltins "bool" = some (.type "bool") := by decide +kernel
theorem bo_dict : bootBuiltins "dict" = some (.type "dict") := by decide +kernel
theorem dk_tuple : dunder "tuple" = true := by decide +kernel
theorem dk_bool : dunder "bool" = true := by decide +kernel
theorem dk_dict : dunder "dict" = true := by decide +kernel
theorem b_len (h : okB C "len" = true) (hs : (e :: es).all noStar = true) (ha : SA C (e :: es) fs) : SE C (.Call (.Name "len" p) (e :: es) [] pos) (cBlt bLen fs) := se_bltB cv_len (okB_is h).1 (okB_is h).2 bo_len dk_len hs ha
theorem b_abs (h : okB C "abs" = true) (hs : (e :: es).all noStar = true) (ha : SA C (e :: es) fs) : SE C (.Call (.Name "abs" p) (e :: es) [] pos) (cBlt bAbs fs) := se_bltB cv_abs (okB_is h).1 (okB_is h).2 bo_abs dk_abs hs ha
theorem b_max (h : okB C "max" = true) (hs : (e :: es).all noStar = true) (ha : SA C (e :: es) fs) : SE C (.Call (.Name "max" p) (e :: es) [] pos) (cBlt bMax fs) := se_bltB cv_max (okB_is h).1 (okB_is h).2 bo_max dk_max hs ha
theorem b_min (h : okB C "min" = true) (hs : (e :: es).all noStar = true) (ha : SA C (e :: es) fs) : SE C (.Call (.Name "min" p) (e :: es) [] pos) (cBlt bMin fs) := se_bltB cv_min (okB_is h).1 (okB_is h).2 bo_min dk_min hs ha
theorem b_sum (h : okB C "sum" = true) (hs : (e :: es).all noStar = true) (ha : SA C (e :: es) fs) : SE C (.Call (.Name "sum" p) (e :: es) [] pos) (cBlt bSum fs) := se_bltB cv_sum (okB_is h).1 (okB_is h).2 bo_sum dk_sum hs ha
theorem b_all (h : okB C "all" = true) (hs : (e :: es).all noStar = true) (ha : SA C (e :: es) fs) : SE C (.Call (.Name "all" p) (e :: es) [] pos) (cBlt bAll fs) := se_bltB cv_all (okB_is h).1 (okB_is h).2 bo_all dk_all hs ha
theorem b_any (h : okB C "any" = true) (hs : (e :: es).all noStar = true) (ha : SA C (e :: es) fs) : SE C (.Call (.Name "any" p) (e :: es) [] pos) (cBlt bAny fs) := se_bltB cv_any (okB_is h).1 (okB_is h).2 bo_any dk_any hs ha
theorem b_sorted {bx : Bool} (h : okB C "sorted" = true) (hs : (e :: es).all noStar = true) (ha : SA C (e :: es) fs) : SE C (.Call (.Name "sorted" p) (e :: es) [] pos) (cBlt (bSorted bx) fs) := se_bltB cv_sorted (okB_is h).1 (okB_is h).2 bo_sorted dk_sorted hs ha
theorem b_repr (h : okB C "repr" = true) (hs : (e :: es).all noStar = true) (ha : SA C (e :: es) fs) : SE C (.Call (.Name "repr" p) (e :: es) [] pos) (cBlt bRepr fs) := se_bltB cv_repr (okB_is h).1 (okB_is h).2 bo_repr dk_repr hs ha
theorem b_int (h : okB C "int" = true) (hs : (e :: es).all noStar = true) (ha : SA C (e :: es) fs) : SE C (.Call (.Name "int" p) (e :: es) [] pos) (cBlt bInt fs) := se_bltT cv_int (okB_is h).1 (okB_is h).2 bo_int dk_int hs ha
theorem b_str (h : okB C "str" = true) (hs : (e :: es).all noStar = true) (ha : SA C (e :: es) fs) : SE C (.Call (.Name "str" p) (e :: es) [] pos) (cBlt bStr fs) := se_bltT cv_str (okB_is h).1 (okB_is h).2 bo_str dk_str hs ha
theorem b_list {bx : Bool} (h : okB C "list" = true) (hs : (e :: es).all noStar = true) (ha : SA C (e :: es) fs) : SE C (.Call (.Name "list" p) (e :: es) [] pos) (cBlt (bList bx) fs) := se_bltT cv_list (okB_is h).1 (okB_is h).2 bo_list dk_list hs ha
theorem b_is_int (h : okB C "isinstance" = true) (h2 : okB C "int" = true) (hs : noStar e = true) (ha : SE C e f) : SE C (.Call (.Name "isinstance" p) [e, .Name "int" p2] [] pos) (cIs "int" f) := se_is (okB_is h).1 (okB_is h).2 (okB_is h2).1 (okB_is h2).2 bo_int dk_int hs ha
theorem b_is_bool (h : okB C "isinstance" = true) (h2 : okB C "bool" = true) (hs : noStar e = true) (ha : SE C e f) : SE C (.Call (.Name "isinstance" p) [e, .Name "bool" p2] [] pos) (cIs "bool" f) := se_is (okB_is h).1 (okB_is h).2 (okB_is h2).1 (okB_is h2).2 bo_bool dk_bool hs ha
theorem b_is_str (h : okB C "isinstance" = true) (h2 : okB C "str" = true) (hs : noStar e = true) (ha : SE C e f) : SE C (.Call (.Name "isinstance" p) [e, .Name "str" p2] [] pos) (cIs "str" f) := se_is (okB_is h).1 (okB_is h).2 (okB_is h2).1 (okB_is h2).2 bo_str dk_str hs ha
theorem b_is_tuple (h : okB C "isinstance" = true) (h2 : okB C "tuple" = true) (hs : noStar e = true) (ha : SE C e f) : SE C (.Call (.Name "isinstance" p) [e, .Name "tuple" p2] [] pos) (cIs "tuple" f) := se_is (okB_is h).1 (okB_is h).2 (okB_is h2).1 (okB_is h2).2 bo_tuple dk_tuple hs ha
theorem b_is_list (h : okB C "isinstance" = true) (h2 : okB C "list" = true) (hs : noStar e = true) (ha : SE C e f) : SE C (.Call (.Name "isinstance" p) [e, .Name "list" p2] [] pos) (cIs "list" f) := se_is (okB_is h).1 (okB_is h).2 (okB_is h2).1 (okB_is h2).2 bo_list dk_list hs ha
theorem b_is_dict (h : okB C "isinstance" = true) (h2 : okB C "dict" = true) (hs : noStar e = true) (ha : SE C e f) : SE C (.Call (.Name "isinstance" p) [e, .Name "dict" p2] [] pos) (cIs "dict" f) := se_is (okB_is h).1 (okB_is h).2 (okB_is h2).1 (okB_is h2).2 bo_dict dk_dict hs ha
theorem b_lsrg1 {bx : Bool} (h : okB C "list" = true) (h2 : okB C "range" = true) (hs : noStar a = true) (ha : SE C a f) : SE C (.Call (.Name "list" p) [.Call (.Name "range" p2) [a] [] p3] [] pos) (cLsRg1 bx f) := se_lsrg1 (okB_is h).1 (okB_is h).2 (okB_is h2).1 (okB_is h2).2 hs ha
theorem b_lsrg2 {bx : Bool} (h : okB C "list" = true) (h2 : okB C "range" = true) (hs : noStar a = true) (hs2 : noStar b = true) (ha : SE C a f) (hb : SE C b g) : SE C (.Call (.Name "list" p) [.Call (.Name "range" p2) [a, b] [] p3] [] pos) (cLsRg2 bx f g) := se_lsrg2 (okB_is h).1 (okB_is h).2 (okB_is h2).1 (okB_is h2).2 hs hs2 ha hb
theorem i_rg1 (h : okB C "range" = true) (hs : noStar a = true) (ha : SA C [a] fs) : SI C tg (.Call (.Name "range" p) [a] [] pos) (iRg1 fs) := si_rg1 (okB_is h).1 (okB_is h).2 hs ha
theorem i_rg2 (h : okB C "range" = true) (hs : noStar a = true) (hs2 : noStar b = true) (ha : SA C [a, b] fs) : SI C tg (.Call (.Name "range" p) [a, b] [] pos) (iRg2 fs) := si_rg2 (okB_is h).1 (okB_is h).2 hs hs2 ha
theorem i_en {elts : List Expr} {kk : Nat} {tpos : Pos} (h : okB C "enumerate" = true) (hs : noStar e = true) (he : SE C e f) : SI C (.Tuple elts kk tpos) (.Call (.Name "enumerate" p) [e] [] pos) (iEn f) := si_en (okB_is h).1 (okB_is h).2 hs he
variable {o : Expr} {ap : Pos}
theorem m_append (hb : plainBase o = true) (hs : (e :: es).all noStar = true) (hn : decide ((e :: es).length < 29) = true) (hl : (ap.endLine == pos.line) = true) (ho : SE C o f) (ha : SA C (e :: es) fs) : SE C (.Call (.Attribute o "append" ap) (e :: es) [] pos) (cMt mAppend f fs) :=
  se_mt PySem.F.plainAttrs_list PySem.F.slot_list_append PySem.F.type_list_append mts_append hb hs hn hl ho ha
theorem m_pop0 (hb : plainBase o = true) (hl : (ap.endLine == pos.line) = true) (ho : SE C o f) : SE C (.Call (.Attribute o "pop" ap) [] [] pos) (cMt mPop f aNil) := se_mt0 PySem.F.plainAttrs_list PySem.F.slot_list_pop PySem.F.type_list_pop mts_pop hb hl ho
theorem m_reverse (hb : plainBase o = true) (hl : (ap.endLine == pos.line) = true) (ho : SE C o f) : SE C (.Call (.Attribute o "reverse" ap) [] [] pos) (cMt mReverse f aNil) := se_mt0 PySem.F.plainAttrs_list PySem.F.slot_list_reverse PySem.F.type_list_reverse mts_reverse hb hl ho
theorem m_clear (hb : plainBase o = true) (hl : (ap.endLine == pos.line) = true) (ho : SE C o f) : SE C (.Call (.Attribute o "clear" ap) [] [] pos) (cMt mClear f aNil) := se_mt0 PySem.F.plainAttrs_list PySem.F.slot_list_clear PySem.F.type_list_clear mts_clear hb hl ho
end
def cBad : Den := fun _ _ _ => .bad
def tBad : DenB := fun _ _ _ => .bad
def sBad : SDen := fun _ _ _ => .bad
def gBad : Tgt := ⟨[], fun _ _ => none⟩
section
variable {C : Cfg} {e : Expr} {st : Stmt}
theorem e_bad : SE C e cBad := fun _ q => False.elim q
theorem t_bad : ST C e tBad := fun _ q => False.elim q
theorem s_bad : SS C st sBad := fun _ q => False.elim q
theorem g_bad : SG C e gBad := fun _ _ h _ => nomatch h
end
end Vm

namespace Vm
open PySem PySem.Spec L2
section
variable {K : PySem.W.Frag} {w : Wd} {M : Mem} {H : Hp}
theorem Gd.newCA {W : WX} {σ : L2.St} {Q : VK} {c : Cell} (g : Gd K w W σ (Rep K) Q (Vm.newC c M)) (R : Rel K w M H) {p : Addr} (l : Loose w p) (hc : CellR K w H p [] c) : Q (.ref p) H := by
  unfold Vm.newC at g
  by_cases hf : c.fr = true
  · rw [if_pos hf] at g
    have le := Rel.celLe w p []
    refine g (w.cel p []) _ _ le (R.celA l hf (hc.up le rfl fun _ _ => rfl)) (.ref ?_)
    rw [← R.len]
    exact List.getElem?_concat_length ..
  · rw [if_neg hf] at g; exact False.elim g
end
theorem Gd.bind0 {A B A' B' : Type} {K : PySem.W.Frag} {w w0 : Wd} {W : WX} {σ : L2.St} {rel : Wd → A → B → Prop} {rel' : Wd → A' → B' → Prop} {Q : B → Hp → Prop} {Q' : B' → Hp → Prop} {r : R A'} {f : A' → Mem → R A} (h : Gd K w0 W σ rel Q (r.bind f)) (l0 : w0.Le w)
    (k : ∀ d M w' H b, w.Le w' → Rel K w' M H → rel' w' d b → Gd K w0 W σ rel Q (f d M) → Q' b H) : Gd K w W σ rel' Q' r := by
  cases r with
  | ok d M => exact fun w' H b l R q => k d M w' H b l R q (show Gd K w0 W σ rel Q (f d M) from h)
  | exn c ks vs M => exact Gd.up (show Gd K w0 W σ rel' Q' (.exn c ks vs M) from h) l0
  | bad => exact h
/-- {}: q: its keys will be tuples -/
def cDnew (q : Bool) : Den := fun _ _ M => newC (.dic [.bl q] []) M
/-- {k: v} -/
def cDisp1 (f g : Den) : Den := fun cal ρ M => (f cal ρ M).bind fun y M1 => (g cal ρ M1).bind fun d M2 => match keyK y with
  | some k => newC (.dic [.bl false, keyD k] [d]) M2
  | none => .bad
/-- name += e, name -= e: ints -/
def sAug (i : Nat) (h : Int → Int → Int) (f : Den) : SDen := fun cal ρ M => match slot ρ i with
  | some (.int a) => SR.of (f cal ρ M) ρ fun d M1 => match d with
    | .int b => .ok .nx (ρ.set i (some (.int (h a b)))) M1
    | _ => .bad
  | _ => .bad
section
variable {C : Cfg} {pos p p2 ap : Pos} {e o a b : Expr} {es : List Expr} {f g : Den} {fs : Dens} {x : Str} {i : Nat}
theorem e_dnew (q : Bool) : SE C (.Dict [] [] pos) (cDnew q) := by
  intro ca cal k X W w ρ M σ H Q n g
  cases q with
  | false => exact WE.of pe_dnewK fun p hp => Gd.newC g n.rel hp (.dic upd_same (.k []) .nil)
  | true => exact WE.of pe_dnewT fun p hp => Gd.newC g n.rel hp (.dic upd_same (.t []) .nil)
theorem e_disp1 (ha : SE C a f) (hb : SE C b g) : SE C (.Dict [some a] [b] pos) (cDisp1 f g) := by
  intro ca cal k X W w ρ M σ H Q n q
  refine WE.of (pe_disp (pps_cons pe_we pe_we pps_nil) rfl rfl (by simp) (by simp)) fun p hp => ?_
  have lo := n.rel.loose hp
  have R0 := n.rel.wr (o := .dK []) lo
  have Rf := R0.frm lo upd_same
  have lf : w.Le (w.frm p (.dK [])) := frmLe lo
  refine ha (n.up lf Rf) (Gd.bind0 q lf fun y M1 w1 H1 vy l1 R1 r1 q1 => ?_)
  refine hb ((n.up lf Rf).up l1 R1) (Gd.bind0 q1 (lf.trans l1) fun d M2 w2 H2 vd l2 R2 r2 q2 => ?_)
  cases hk : keyK y with
  | none => rw [hk] at q2; exact False.elim q2
  | some kk =>
    rw [hk] at q2
    obtain ⟨rfl, rfl⟩ := keyK_is (r1.up l2) hk
    obtain ⟨h3, lo3, Ru, lu⟩ := Rel.unfrm (l1.trans l2) n.rel R2 lo
    refine ⟨h3, [(kk, vd)], rfl, by simp, ?_⟩
    have q3 := Gd.up q2 lu
    refine Gd.newCA q3 (Ru.wr lo3) lo3 (.dic upd_same (.k [(kk, vd)]) (.cons (Rep.sim (w := w2) (w' := w2.unf p) rfl rfl rfl rfl r2) .nil))
theorem s_aug (i : Nat) {op : Operator} {h : Int → Int → Int} (hp : ∀ X : Cx, PIp X op (ipI h)) (hk : okS C x i = true) (he : SE C e f) : SS C (.AugAssign (.Name x p) op e pos) (sAug i h f) := by
  intro ca cal k X W w ρ M σ H DD n q
  obtain ⟨h1, h2⟩ := loc_of n (okS_is hk).2
  refine WS.of (ps_aug (i := i) (by rw [n.ok.N]; exact n.ok.nd) (by rw [n.ok.N]; exact (okS_is hk).1) h1 pe_we (hp X) h2) ?_
  unfold sAug at q
  cases hs : slot ρ i with
  | none => rw [hs] at q; exact False.elim q
  | some d0 =>
    rw [hs] at q
    cases d0 with
    | int a0 =>
      rw [slot_eq] at hs
      obtain ⟨v, hv, hr⟩ := n.sl.get i (.int a0) (by
        cases hh : ρ[i]? with
        | none => rw [hh] at hs; cases hs
        | some o => rw [hh] at hs; rw [show o = some (D.int a0) from hs])
      cases hr
      refine ⟨.int a0, hv, he n (GdS.of q n.sl fun d M1 w1 H1 v l1 R1 r1 q1 => ?_)⟩
      cases r1 with
      | int b0 => exact ⟨a0, b0, rfl, rfl, q1 w1 _ H1 (.refl _) R1 ((n.sl.up l1).set i (.int _))⟩
      | _ => exact False.elim q1
    | _ => exact False.elim q
theorem a_add (X : Cx) : PIp X .Add (ipI fun i j => i + j) := ip_add
theorem a_sub (X : Cx) : PIp X .Sub (ipI fun i j => i - j) := ip_sub
def bTuple : BltD := fun ds M => match ds with
  | [.tup xs] => .ok (.tup xs) M
  | [d] => match itemsL d with
    | some xs => .ok (.tup xs) M
    | none => .bad
  | _ => .bad
theorem cv_tuple : CallV (.type "tuple") bTuple := by
  intro C ca cal k X W w ρ M σ H Q ds vs n r g
  have go : ∀ {v : V}, kTup X.K v H Q → CallW X (.type "tuple") [v] H Q := fun {v} hk pins s σ us I rv => by
    obtain ⟨u, rfl, ru⟩ := vals1 rv
    exact rl_tuple pins s σ H v u Q I ru hk
  unfold bTuple at g
  split at g
  · rename_i xs e
    obtain ⟨d, v, rfl, rd, ev⟩ := one_of r e
    have ed := view_tup ev
    subst ed
    cases rd with
    | tup h rs => exact go (.inr ⟨_, _, rfl, SqT.of (n.rel.tup h), Gd.ok g n.rel (.tup h rs)⟩)
  · rename_i y _ e
    obtain ⟨d, v, rfl, rd, ev⟩ := one_of r e
    split at g
    · rename_i xs ei
      rw [← ev] at ei
      obtain ⟨a, us, rfl, hs, rs⟩ := n.rel.itemsL rd ei
      exact go (.inl ⟨a, us, rfl, hs, fun q hq => Gd.newT g n.rel rs hq⟩)
    · exact False.elim g
  · exact False.elim g
theorem b_tuple (h : okB C "tuple" = true) (hs : (e :: es).all noStar = true) (ha : SA C (e :: es) fs) : SE C (.Call (.Name "tuple" p) (e :: es) [] pos) (cBlt bTuple fs) := se_bltT cv_tuple (okB_is h).1 (okB_is h).2 bo_tuple dk_tuple hs ha
def popOk (i : Int) : Prop := -(2 ^ 63) ≤ i ∧ i < 2 ^ 63
instance (i : Int) : Decidable (popOk i) := by unfold popOk; infer_instance
theorem popOk_of {j : Int} (h1 : -1000000000 ≤ j) (h2 : j ≤ 1000000000) : popOk j := ⟨by omega, by omega⟩
def mPopAt : MthD := fun xs ds => match ds with
  | [.int i] => if popOk i then match seqIndex? i xs.length with
    | some k => match xs[k]? with
      | some d => some (d, xs.eraseIdx k)
      | none => none
    | none => none else none
  | _ => none
theorem mts_popAt : MtS "list.pop" mPopAt := by
  intro X w H Q a xs ds ys vs us d hH rs rd e q
  match ds, rd, e with
  | [.int i], .cons (.int _) .nil, e =>
    unfold mPopAt at e
    simp only at e
    split at e
    · rename_i hz
      split at e
      · rename_i k hk
        split at e
        · rename_i d' hd
          cases e
          obtain ⟨v, h1, h2⟩ := rs.get hd
          exact ⟨rPopAt, mt_popAt, a, vs, i, k, v, rfl, rfl, hH, hz.1, hz.2, by rw [← rs.length]; exact hk, h1, q _ _ (rs.eraseIdx k) h2⟩
        · cases e
      · cases e
    · cases e
theorem m_popAt (hb : plainBase o = true) (hs : (e :: es).all noStar = true) (hn : decide ((e :: es).length < 29) = true) (hl : (ap.endLine == pos.line) = true) (ho : SE C o f) (ha : SA C (e :: es) fs) : SE C (.Call (.Attribute o "pop" ap) (e :: es) [] pos) (cMt mPopAt f fs) :=
  se_mt PySem.F.plainAttrs_list PySem.F.slot_list_pop PySem.F.type_list_pop mts_popAt hb hs hn hl ho ha
end
end Vm

namespace Vm
open PySem PySem.Spec PyProof.Rows L2
section
variable {X : Cx} {x : Str} {d : Addr} {es : Array DictEntry} {n : Nat} {e f : Expr} {te tf : TE} {p apos cpos : Pos}
def tKGet (K : PySem.W.Frag) (d : Addr) (te tf : TE) : TE := fun σ H Q => te σ H fun y H1 => tf σ H1 fun z H2 => ∃ (k : Str) (r : Option Value), y = .str k ∧ PySem.W.nsIn K d k = some r ∧ (∀ u0, r = some u0 → ∃ v0, RelV v0 u0 ∧ Q v0 H2) ∧ (r = none → Q z H2)
theorem pe_kget (D : KDict X.K X.w d es n) (hg : Gl X x) (hm : X.mg x = some (.ref d)) (hdb : (x == ("__debug__" : Str)) = false) (he : PE X e te) (hf : PE X f tf) (m : M2 X (.Name x p) "get" apos e f cpos) :
    PE X (.Call (.Attribute (.Name x p) "get" apos) [e, f] [] cpos) (tKGet X.K d te tf) := by
  refine ⟨fun pins s σ H Q I h => ?_⟩
  have named : PE X (.Name x p) (tC (.ref d)) := pe_glob hg hm rfl hdb
  refine wpAny_Call_method m.base m.few m.line PySem.F.plainAttrs_dict PySem.F.slot_dict_get PySem.F.type_dict_get (thn (named.run pins s σ H (fun v H1 => v = .ref d ∧ tKGet X.K d te tf σ H1 Q) I ⟨rfl, h⟩) fun u s1 ⟨v, H1, I1, rx, ev, q⟩ => ?_)
  subst ev
  obtain rfl : u = Value.ref d := rx
  refine ⟨kd_type D I1, fun b eb => ?_, ?_⟩
  · cases eb
    exact ⟨_, I1.kIn _ _ D.at_, rfl⟩
  rw [m.trees]
  refine Calls.callWith_builtin rfl (Calls.evalArgs_plain (Calls.spliced_cons (thn (he.run pins s1 σ H1 _ I1 q) fun iv s2 ⟨y, H2, I2, ry, q2⟩ => Calls.spliced_cons (thn (hf.run pins s2 σ H2 _ I2 q2) fun fv s3 ⟨z, H3, I3, rz, k, r, ey, hr, yes, no⟩ => Calls.spliced_nil ?_))))
  subst ey
  obtain ⟨tk, rfl⟩ := (show ∃ t, iv = Value.str k t from ry)
  have mp := PySem.W.mapOf_K (prog := X.prog) (w := X.w) I3.kIn D.at_ D.lit
  refine call_meetsIn PySem.F.slot_dict_get mp.typeIs PySem.F.entry_dict_get (PySem.F.args_dict_get_3 _ _ _) (meets_dict_get_default (PySem.strKind X.prog X.w) d (PySem.strKind_is X.prog X.w k tk) D.low fv) ⟨_, mp, ?_⟩
  rw [PySem.W.find_K D.at_ hr]
  cases r with
  | none => exact ⟨z, H3, I3.tok _, rz, no rfl⟩
  | some u0 =>
    obtain ⟨v0, r0, q0⟩ := yes u0 rfl
    exact ⟨v0, H3, I3.tok _, r0, q0⟩
def tLenSetT (K : PySem.W.Frag) (ta : TE) : TE := fun σ H Q => ta σ H fun x H1 => ∃ (l : Addr) (ns : List Int), x = V.ref l ∧ SqT K H1 l (ns.map V.int) ∧ ns.length ≤ 1000 ∧ ns.Nodup ∧ Q (.int ns.length) H1
theorem pe_lenSetT {a : Expr} {ta : TE} {p p2 q pos : Pos} (hc : X.calm = true) (hg : Gl X "len") (hm : X.mg "len" = none) (hg2 : Gl X "set") (hm2 : X.mg "set" = none) (ha : PE X a ta) (na : starEach [a] X.env = (false, eval a X.env) :: starEach [] X.env) (n2 : starEach [.Call (.Name "set" p2) [a] [] q] X.env = (false, eval (.Call (.Name "set" p2) [a] [] q) X.env) :: starEach [] X.env) :
    PE X (.Call (.Name "len" p) [.Call (.Name "set" p2) [a] [] q] [] pos) (tLenSetT X.K ta) := by
  constructor
  intro pins s σ H Q I h
  refine Call_ (ld_blt I hg hm PySem.boot_len (PyProof.Rows.callWith_builtin1 (PyProof.Rows.args_cons (Call_ (ld_blt I hg2 hm2 PyProof.Rows.boot_set (PyProof.Rows.callWith_type1 (PyProof.Rows.args_cons (thn (ha.run pins s σ H _ I h) fun v s1 got => PyProof.Rows.args_nil ?_) na) na rfl))) n2) n2 rfl))
  obtain ⟨y, H1, I1, r1, l, ns, rfl, hq, h1, hnd, q1⟩ := got
  cases r1
  obtain ⟨its, rv, pt, hz⟩ := I1.tuple hq
  refine call_set_tupI ns (I1.ok.hd hc) (show s1.heap.IsTuple l its.toArray from pt) (show IntsAre its.toArray.toList ns from ints_of_vals rv) (by unfold scanBound; omega) fun h' tk c R1 hcn k => ?_
  obtain ⟨o, es, ep, tb, ho, hex, hdt, g, nd, mem, hb, hf, hn, _, _⟩ := R1
  have sz : es.size = ns.length := by
    have e1 : (es.toList.map keyOf).length = es.size := by rw [List.length_map, Array.length_toList]
    rw [← e1]
    refine Nat.le_antisymm (List.Nodup.length_le_of_subset nd fun j hj => ?_) (List.Nodup.length_le_of_subset hnd fun j hj => ?_)
    · exact of_decide_eq_true ((mem j).mpr hj)
    · exact (mem j).mp (decide_eq_true hj)
  refine PyProof.Rows.args_nil ?_
  have I2 : Inv X pins σ H1 { s1 with heap := h', toks := tk } := I1.kept k
  refine call_len_set ho hex hdt hf (by omega) ⟨.int ns.length, H1, I2.tok _, ⟨_, by rw [sz]⟩, q1⟩
end
end Vm

namespace Vm
open PySem PySem.W PySem.Calls PyProof.Rows Builtin
section
variable {prog : Program} {w : World} {A : Around} {E : Value → Shared → Prop} {s : Shared} {K : Frag} {x C L f : Addr} {h₀ : Heap} {m : Str → Option Value} {ox : Obj} {od : Option Obj} {b tb : Value}
theorem tryNe_K {Q : Value → Shared → Prop} (hu : A.units + 1 < cLine) (F : Fr h₀ L s.heap m) (X₀ : K.In h₀) (I : InstAt s.heap x ox C od) (hne : findIn K (.ref C) "__ne__" = some (some (.builtin "object.__ne__"))) (hob : subIn K (.ref C) (.type "object") = some true)
    (hs : findIn K (.ref C) "__eq__" = some (some (.ref f))) (hf : isFn K (.ref f) = true)
    (h : wpAny (model prog w) A.in1 (call (.ref f) [.ref x, b]) (fun v s' => ∃ bb, v = .bool bb ∧ Q (.bool (!bb)) s') E s) : wpAny (model prog w) A (tryCompare (.ref x) "__ne__" b) (fun r s' => ∃ v, r = some v ∧ Q v s') E s := by
  have X := X₀.keeps F.keep
  have fin : wpAny (model prog w) A (call (.builtin "object.__ne__") ([.ref x] ++ [b]) >>= fun v => pure (some v)) (fun r s' => ∃ v, r = some v ∧ (v = .notImplemented → False) ∧ Q v s') E s := by
    refine wpAny_bind (wpAny_call (codeAny_call_builtin PySem.F.cmp_object.ne.plain PySem.F.cmpEntry_ne (check_slot PySem.F.cmpKind_ne PySem.F.cmpSplit_ne (I.type.andThen (looks_subIn X hob)) (PySem.F.cmpArgs_ne _ _) ?_)))
    unfold Builtin.«object.__ne__»
    refine wpAny_bind (m := slotArgs "__ne__" 1 _) (wpAny_pure ?_)
    refine wpAny_bind (wpAny_cRoomFor (A := A.in1) hu ?_)
    refine wpAny_bind (m := callSpecialIfBound? (.ref x) (Str.ofString "__eq__") [b]) (ifBound_K X I hs hf (wpAny_mono h (fun v s' hv => ?_) fun _ _ e => e))
    obtain ⟨bb, rfl, q⟩ := hv
    refine wpAny_bind (m := truthy (.bool bb)) (wpAny_truthy_bool ?_)
    exact wpAny_pure (wpAny_pure ⟨_, rfl, (fun z => nomatch z), q⟩)
  unfold tryCompare
  refine wpAny_bind ?_
  simp only [callSpecialIfBound?, bindSpecialIfBound?]
  refine wpAny_holding (wpAny_bind (wpAny_bind (wpAny_bind (I.type.here ((looks_findIn X hne).here ?_)))))
  simp only [PySem.F.cmp_object.ne.bind]
  refine wpAny_bind (wpAny_askSetting (wpAny_ite ?_))
  have fin2 : wpAny (model prog w) A (call (.builtin "object.__ne__") ([.ref x] ++ [b]) >>= fun v => pure (some v)) (fun r s' => wpAny (model prog w) A (match r with
      | some .notImplemented => pure none
      | none => pure none
      | some v => pure (some v)) (fun r s' => ∃ v, r = some v ∧ Q v s') E s') E s := wpAny_mono fin (fun r s' hr => by
    obtain ⟨v, rfl, hv, q⟩ := hr
    cases v <;> first | exact absurd rfl hv | exact wpAny_pure ⟨_, rfl, q⟩) fun _ _ e => e
  split
  · exact wpAny_bind (wpAny_pure (wpAny_pure (by exact fin2)))
  · exact wpAny_tryCatch (wpAny_bind (wpAny_pure (wpAny_pure (by exact fin2))))
theorem ne_K {Q : Value → Shared → Prop} (hu : A.units + 1 < cLine) (F : Fr h₀ L s.heap m) (X₀ : K.In h₀) (I : InstAt s.heap x ox C od) (hb : Looks (model prog w) s.heap (typeOf b) tb) (hn : notFirst K C tb = true)
    (hne : findIn K (.ref C) "__ne__" = some (some (.builtin "object.__ne__"))) (hob : subIn K (.ref C) (.type "object") = some true) (hs : findIn K (.ref C) "__eq__" = some (some (.ref f))) (hf : isFn K (.ref f) = true)
    (h : wpAny (model prog w) A.in1 (call (.ref f) [.ref x, b]) (fun v s' => ∃ bb, v = .bool bb ∧ Q (.bool (!bb)) s') E s) : wpAny (model prog w) A (richCompare .NotEq (.ref x) b) Q E s := by
  have X := X₀.keeps F.keep
  have one := tryNe_K (b := b) hu F X₀ I hne hob hs hf h
  unfold richCompare
  simp only [oneThing_ref]
  refine wpAny_holding (wpAny_bind (wpAny_cRoomFor (by omega) ?_))
  rw [cmpInfo_NotEq]
  dsimp only
  refine wpAny_bind (I.type.here (wpAny_bind (hb.here ?_)))
  split
  · rename_i q
    have e : subIn K tb (.ref C) = some false := by
      rcases Bool.or_eq_true_iff.mp hn with e | e
      · rw [beq_iff_eq.mp e] at q; simp at q
      · exact beq_iff_eq.mp e
    refine wpAny_bind ((looks_subIn X e).here ?_)
    simp only [Bool.false_eq_true, if_false]
    refine wpAny_bind (wpAny_mono one (fun r s' z => ?_) fun _ _ e => e)
    obtain ⟨v, rfl, hq⟩ := z
    exact wpAny_pure hq
  · refine wpAny_bind (wpAny_pure ?_)
    simp only [Bool.false_eq_true, if_false]
    refine wpAny_bind (wpAny_mono one (fun r s' z => ?_) fun _ _ e => e)
    obtain ⟨v, rfl, hq⟩ := z
    exact wpAny_pure hq
end
end Vm

namespace Vm
open PySem PySem.Spec L2
def subL (l : List (Nat × Nat × Bool)) (i j : Nat) : Option Bool := (l.find? fun p => p.1 == i && p.2.1 == j).map (·.2.2)
theorem subL_mem {l : List (Nat × Nat × Bool)} {i j : Nat} {b : Bool} (h : subL l i j = some b) : (i, j, b) ∈ l := by
  obtain ⟨p, h1, h2⟩ := Option.map_eq_some_iff.mp h
  have h3 := List.find?_some h1
  rw [Bool.and_eq_true, beq_iff_eq, beq_iff_eq] at h3
  obtain ⟨p1, p2, p3⟩ := p
  have e1 : p1 = i := h3.1
  have e2 : p2 = j := h3.2
  have e3 : p3 = b := h2
  rw [← e1, ← e2, ← e3]
  exact List.mem_of_find?_eq_some h1
def sRaise (c : Nat) : SDen := fun _ ρ M => .exn c [] [] ρ M
/-- what is caught is kept in the slot ic; i is the clause's own name -/
def catchK (l : List (Nat × Nat × Bool)) (c i ic : Nat) : SR → SR
  | .exn c' [] [] ρ' M' => match subL l c' c with
    | some true => .ok .nx (((ρ'.set i (some (.err c' [] []))).set ic (some (.err c' [] []))).set i none) M'
    | some false => .exn c' [] [] ρ' M'
    | none => .bad
  | .exn _ _ _ _ _ => .bad
  | r => r
def sTryK (l : List (Nat × Nat × Bool)) (bd : SDen) (c i ic : Nat) : SDen := fun cal ρ M => catchK l c i ic (bd cal ρ M)
def cIsE (l : List (Nat × Nat × Bool)) (j : Nat) (f : Den) : Den := fun cal ρ M => (f cal ρ M).bind fun d M1 => match d with
  | .err c _ _ => R.opt ((subL l c j).map D.bl) M1
  | _ => .bad
theorem Slots.unset {K : PySem.W.Frag} {w : Wd} {ρ : Env} {σ : L2.St} (h : Slots K w ρ σ) (i : Nat) : Slots K w (ρ.set i none) (σ.set i none) := by
  refine ⟨by rw [List.length_set, List.length_set]; exact h.len, fun j d e => ?_⟩
  by_cases hj : i = j
  · subst hj
    by_cases hi : i < ρ.length
    · rw [List.getElem?_set_self hi] at e
      cases e
    · rw [List.getElem?_eq_none (by rw [List.length_set]; omega)] at e
      cases e
  · rw [List.getElem?_set_ne hj] at e
    obtain ⟨u, h1, h2⟩ := h.get j d e
    exact ⟨u, by rw [List.getElem?_set_ne hj]; exact h1, h2⟩
section
variable {C : Cfg} {pos p p2 p3 p4 p5 p6 p7 : Pos} {e : Expr} {f : Den} {x y z m : Str} {c i ic j jj : Nat} {bd : List Stmt} {g : SDen}
theorem s_raise (hin : (x, c) ∈ C.T.ers) (h : okG C x = true) : SS C (.Raise (some (.Call (.Name x p) [.Constant (.str m) jj p2] [] p3)) none pos) (sRaise c) := by
  intro ca cal k X W w ρ M σ H D n q
  obtain ⟨hl, hdb⟩ := okG_is h
  obtain ⟨gC, E⟩ := n.ok.gx.ers.at_ _ hin
  refine WS.of (ps_raise n.ok.calm n.tk (pmk_own PySem.F.excBase_ValueError E.ex gC E.kp (raises_own E.bs E.ty) (gl_of n hl) hdb)) ?_
  have q : ∀ w' σ H dd, w.Le w' → Rel X.K w' M H → Slots X.K w' ρ σ → ErrR X.K w' dd [] [] → W (.ref (w'.ca c)) dd σ H := q
  have z := q w σ H none (.refl w) n.rel n.sl (.inl ⟨rfl, rfl, rfl⟩)
  rw [n.ca] at z
  exact z
theorem s_tryK (i ic : Nat) (hin : (x, c) ∈ C.T.ers) (h : okG C x = true) (hi : okV C y i = true) (hy : decide (C.look y = some .local) = true) (hz : okS C z ic = true) (ht : C.top = true) (hb : SSs C bd g) :
    SS C (.Try bd [.ExceptHandler (some (.Name x p)) (some y) [.Assign [.Name z p2] (.Name y p3) p4] p5] [] [] pos) (sTryK C.T.sub g c i ic) := by
  intro ca cal k X W w ρ M σ H D n q
  obtain ⟨hl, hdb⟩ := okG_is h
  obtain ⟨gC, E⟩ := n.ok.gx.ers.at_ _ hin
  obtain ⟨t1, t2, t3⟩ := n.ok.inF ht
  have hyl : C.look y = some .local := of_decide_eq_true hy
  unfold okV at hi
  simp only [Bool.and_eq_true, decide_eq_true_eq, Bool.or_eq_true, Bool.not_eq_true'] at hi
  obtain ⟨⟨⟨v1, v2⟩, v3⟩, v4⟩ := hi
  have nd : X.N.Nodup := by rw [n.ok.N]; exact n.ok.nd
  have hiN : X.N[i]? = some y := by rw [n.ok.N]; exact v1
  have hzN : X.N[ic]? = some z := by rw [n.ok.N]; exact (okS_is hz).1
  have ky : X.env.kindOf y = some .local := by rw [n.kind]; exact hyl
  obtain ⟨lz1, lz2⟩ := loc_of n (okS_is hz).2
  have vis : Vis X.env.scope y := by unfold Vis; rw [n.ok.sc]; exact .inl hyl
  refine WS.of (ps_try_kept (i := i) (c := .ref (ca c)) (Wout := W) (tb := fun W' => fun D σ H => ∀ (pn : List (Addr × Obj)) (xe : Value → Shared → Prop), Takes (X.tr pn xe) W' → PassesOwn (model X.prog X.w) X.A X.env xe → WSs (X.tr pn xe) bd D σ H)
    (ts := fun _ _ _ => fun D σ H => σ.length = X.N.length → ∃ v, σ[i]? = some (some v) ∧ D.nx (σ.set ic (some v)) H) t1 t2 t3 nd hiN ky ⟨gl_of n hl, hdb, .inl gC⟩ n.tk
    (fun W' pn xe tk po => ⟨fun pins s σ H D I h => h pn xe tk po pins s I⟩) (fun a ob cls d pn zc fl => ⟨fun pins s σ H D I h => ?_⟩)) ?_
  · obtain ⟨v, hv, hn⟩ := h I.len
    exact (pss_one (ps_set (X := X.suite a ((a, ob) :: pn)) (i := ic) nd hzN lz1 (pe_var (i := i) hiN vis v3 v4) rfl lz2)).run pins s σ H D I ⟨v, hv, hn⟩
  · intro pn xe tk po
    have n2 : Now C ca cal k (X.tr pn xe) (wKept X.K (.ref (ca c)) i (fun _ _ _ => fun D σ H => σ.length = X.N.length → ∃ v, σ[i]? = some (some v) ∧ D.nx (σ.set ic (some v)) H) W D) w ρ M σ H :=
      ⟨⟨n.ok.N, n.ok.nd, n.ok.sc, n.ok.calm, n.ok.fn, n.ok.room, n.ok.gd, n.ok.gx, po, n.ok.inF⟩, tk, n.ca, n.rel, n.sl⟩
    refine hb n2 ?_
    have q : GdS X.K w D W (catchK C.T.sub c i ic (g cal ρ M)) := q
    cases hr : g cal ρ M with
    | bad => rw [hr] at q; exact q
    | ok fl ρ' M' => rw [hr] at q; cases fl <;> exact q
    | exn c' ks vs ρ' M' =>
      rw [hr] at q
      match ks, vs, q with
      | _ :: _, _, q => exact False.elim q
      | [], _ :: _, q => exact False.elim q
      | [], [], q =>
        have q : GdS X.K w D W (match subL C.T.sub c' c with
          | some true => .ok .nx (((ρ'.set i (some (.err c' [] []))).set ic (some (.err c' [] []))).set i none) M'
          | some false => .exn c' [] [] ρ' M'
          | none => .bad) := q
        intro w' σ' H' dd l R sl er
        have hca : w'.ca = ca := l.c.trans n.ca
        have hd : dd = none := by
          rcases er with ⟨_, _, e⟩ | ⟨e, _⟩
          · exact e
          · exact absurd rfl e
        subst hd
        cases hs : subL C.T.sub c' c with
        | none => rw [hs] at q; exact False.elim q
        | some b =>
          rw [hs] at q
          obtain ⟨k1, k2, k3⟩ := n.ok.gx.ers.sub _ (subL_mem hs)
          refine ⟨b, by rw [hca]; exact k1, fun hb => ?_, fun hb a na => ?_⟩
          · subst hb
            exact q w' σ' H' none l R sl er
          · subst hb
            intro hlen
            rw [List.length_set] at hlen
            have hlt : i < σ'.length := by rw [hlen]; exact (List.getElem?_eq_some_iff.mp hiN).1
            refine ⟨.ref a, List.getElem?_set_self hlt, ?_⟩
            have le := R.addLe (o := ErO (.ref (w'.ca c')) none a) na
            have Rn := R.add (o := ErO (.ref (w'.ca c')) none a) na
            have rp : Rep X.K (w'.add a (ErO (.ref (w'.ca c')) none a)) (.err c' [] []) (.ref a) := .err upd_same
            exact q _ _ _ (l.trans le) Rn ((((sl.up le).set i rp).set ic rp).unset i)
theorem e_isE (hin : (x, j) ∈ C.T.ers) (h : okG C x = true) (h2 : okB C "isinstance" = true) (hs : noStar e = true) (he : SE C e f) : SE C (.Call (.Name "isinstance" p) [e, .Name x p2] [] pos) (cIsE C.T.sub j f) := by
  intro ca cal k X W w ρ M σ H Q n q
  obtain ⟨hl, hdb⟩ := okG_is h
  obtain ⟨gC, E⟩ := n.ok.gx.ers.at_ _ hin
  refine WE.of (pe_callB call_isKept (gl_of n (okB_is h2).1) (n.ok.gx.blt _ (okB_is h2).2) (show bootBuiltins ("isinstance" : Str) = some (.builtin "isinstance") by decide +kernel) (pa_cons pe_we (pa_cons (pe_glob (v := .ref (ca j)) (gl_of n hl) gC rfl hdb) pa_nil rfl) (starEach_cons hs _ X.env)) (by decide) (by decide) (starEach_cons hs _ X.env) rfl) ?_
  refine he n (Gd.bind q fun d M1 w1 H1 v l1 R1 r1 q1 => ?_)
  cases r1 with
  | @err c' a hG =>
    obtain ⟨d2, e2, q2⟩ := Gd.opt' q1
    obtain ⟨b, e3, rfl⟩ := Option.map_eq_some_iff.mp e2
    obtain ⟨k1, k2, k3⟩ := n.ok.gx.ers.sub _ (subL_mem e3)
    have hca : w1.ca = ca := l1.c.trans n.ca
    rw [hca] at hG
    exact ⟨a, ca j, ca c', b, rfl, R1.bn (R1.gb _ _ hG) rfl, k3.cc, k2, q2 w1 H1 _ (.refl _) R1 (.bl b)⟩
  | _ => exact False.elim q1
end
end Vm

namespace Vm
open PySem PySem.Spec L2
def putKs (f : Str) : List Str → List Str
  | [] => [f]
  | k :: ks => if k = f then k :: ks else k :: putKs f ks
def putVs {A : Type} (f : Str) (y : A) : List Str → List A → List A
  | k :: ks, v :: vs => if k = f then y :: vs else v :: putVs f y ks vs
  | _, _ => [y]
def fldD {A : Type} (f : Str) : List Str → List A → Option A
  | k :: ks, v :: vs => if f = k then some v else fldD f ks vs
  | _, _ => none
theorem putF_zip (f : Str) (y : V) : ∀ {ks : List Str} {vs : List V}, ks.length = vs.length → putF f y (ks.zip vs) = (putKs f ks).zip (putVs f y ks vs)
  | [], [], _ => rfl
  | k :: ks, v :: vs, h => by
    show (if k = f then (k, y) :: ks.zip vs else (k, v) :: putF f y (ks.zip vs)) = _
    unfold putKs putVs
    by_cases z : k = f
    · rw [if_pos z, if_pos z, if_pos z]; rfl
    · rw [if_neg z, if_neg z, if_neg z, putF_zip f y (by simpa using h)]; rfl
  | [], _ :: _, h => by cases h
  | _ :: _, [], h => by cases h
theorem putKs_len (f : Str) (y : V) : ∀ {ks : List Str} {vs : List V}, ks.length = vs.length → (putKs f ks).length = (putVs f y ks vs).length
  | [], [], _ => rfl
  | k :: ks, v :: vs, h => by
    unfold putKs putVs
    by_cases z : k = f
    · rw [if_pos z, if_pos z]; exact h
    · rw [if_neg z, if_neg z, List.length_cons, List.length_cons, putKs_len f y (by simpa using h)]
  | [], _ :: _, h => by cases h
  | _ :: _, [], h => by cases h
theorem lookup_zip (f : Str) : ∀ {ks : List Str} {vs : List V}, (ks.zip vs).lookup f = fldD f ks vs
  | [], vs => by cases vs <;> rfl
  | _ :: _, [] => rfl
  | k :: ks, v :: vs => by
    show (match f == k with | true => some v | false => (ks.zip vs).lookup f) = _
    unfold fldD
    by_cases z : f = k
    · rw [if_pos z, beq_iff_eq.mpr z]
    · rw [if_neg z, beq_false_of_ne z]; exact lookup_zip f
section
variable {K : PySem.W.Frag} {w : Wd} {M : Mem} {H : Hp}
theorem Reps.putVs (f : Str) {d : D} {v : V} (r : Rep K w d v) : ∀ {ks : List Str} {ds : List D} {vs : List V}, Reps K w ds vs → Reps K w (putVs f d ks ds) (Vm.putVs f v ks vs)
  | [], ds, vs, h => by cases h <;> exact .cons r .nil
  | _ :: _, _, _, .nil => .cons r .nil
  | k :: ks, _, _, .cons h t => by
    unfold Vm.putVs
    by_cases z : k = f
    · rw [if_pos z, if_pos z]; exact .cons r t
    · rw [if_neg z, if_neg z]; exact .cons h (Reps.putVs f r t)
theorem frees_putVs (f : Str) {d : D} (hd : free d = true) : ∀ {ks : List Str} {ds : List D}, frees ds = true → frees (putVs f d ks ds) = true
  | [], ds, h => by cases ds <;> exact Bool.and_eq_true_iff.mpr ⟨hd, rfl⟩
  | _ :: _, [], _ => Bool.and_eq_true_iff.mpr ⟨hd, rfl⟩
  | k :: ks, x :: xs, h => by
    unfold putVs
    by_cases z : k = f
    · rw [if_pos z]; exact Bool.and_eq_true_iff.mpr ⟨hd, (free_cons h).2⟩
    · rw [if_neg z]; exact Bool.and_eq_true_iff.mpr ⟨(free_cons h).1, frees_putVs f hd (free_cons h).2⟩
theorem Reps.fld (f : Str) {d : D} : ∀ {ks : List Str} {ds : List D} {vs : List V}, Reps K w ds vs → fldD f ks ds = some d → ∃ v, fldD f ks vs = some v ∧ Rep K w d v
  | [], ds, vs, h, e => by cases ds <;> cases e
  | _ :: _, _, _, .nil, e => by cases e
  | k :: ks, _, _, .cons h t, e => by
    unfold fldD at e ⊢
    by_cases z : f = k
    · rw [if_pos z] at e ⊢; cases e; exact ⟨_, rfl, h⟩
    · rw [if_neg z] at e ⊢; exact Reps.fld f t e
/-- an object of the class c: its attributes -/
def insD (M : Mem) (c : Nat) : D → Option (List Str × List D)
  | .obj c' ks vs => if c' = c then some (ks, vs) else none
  | .ref n => match M[n]? with
    | some (.ins c' ks vs) => if c' = c then some (ks, vs) else none
    | _ => none
  | _ => none
theorem Rel.insA (R : Rel K w M H) {d : D} {v : V} {c : Nat} {ks : List Str} {ds : List D} (r : Rep K w d v) (e : insD M c d = some (ks, ds)) : ∃ a dx vs, v = .ref a ∧ H a = some (.ins (w.ca c) dx (ks.zip vs)) ∧ ks.length = vs.length ∧ Reps K w ds vs := by
  cases r with
  | @obj c' ks' xs a dx vs h hl r =>
    have e : (if c' = c then some (ks', xs) else none) = some (ks, ds) := e
    by_cases z : c' = c
    · rw [if_pos z] at e; cases e; subst z
      exact ⟨a, dx, vs, rfl, R.ins h, hl, r⟩
    · rw [if_neg z] at e; cases e
  | @ref n a h =>
    obtain ⟨cc, bs, e1, e2, z⟩ := R.at h
    have e : (match M[n]? with | some (.ins c' ks vs) => if c' = c then some (ks, vs) else none | _ => none) = some (ks, ds) := e
    rw [e1] at e
    cases z with
    | @ins c' ks' xs dx vs h1 hl r =>
      have e : (if c' = c then some (ks', xs) else none) = some (ks, ds) := e
      by_cases z : c' = c
      · rw [if_pos z] at e; cases e; subst z
        exact ⟨a, dx, vs, rfl, h1, hl, r⟩
      · rw [if_neg z] at e; cases e
    | _ => cases e
  | _ => cases e
end
def cFld (c : Nat) (f : Str) (o : Den) : Den := fun cal ρ M => (o cal ρ M).bind fun x M1 => R.opt ((insD M1 c x).bind fun p => fldD f p.1 p.2) M1
def sFld (c : Nat) (f : Str) (o g : Den) : SDen := fun cal ρ M => SR.of (g cal ρ M) ρ fun y M1 => SR.of (o cal ρ M1) ρ fun x M2 => match x with
  | .ref n => match M2[n]? with
    | some (.ins c' ks vs) => if c' = c ∧ free y = true ∧ ks.length < 1000 then .ok .nx ρ (M2.set n (.ins c (putKs f ks) (putVs f y ks vs))) else .bad
    | _ => .bad
  | _ => .bad
section
variable {C : Cfg} {pos p p2 : Pos} {o e : Expr} {es : List Expr} {g h : Den} {fs : Dens} {f : Str} {ce : ClE} {me : MtE}
theorem e_fld (hin : ce ∈ C.T.cls) (hf : decide (f ∈ ce.fld) = true) (hb : plainBase o = true) (ho : SE C o g) : SE C (.Attribute o f pos) (cFld ce.id f g) := by
  intro ca cal k X W w ρ M σ H Q n q
  refine WE.of (pe_fld pe_we (plainBase_is hb _ _ _)) ?_
  refine ho n (Gd.bind q fun x M1 w1 H1 vx l1 R1 r1 q1 => ?_)
  obtain ⟨d, e1, q2⟩ := Gd.opt' q1
  obtain ⟨⟨ks, ds⟩, e2, e3⟩ := Option.bind_eq_some_iff.mp e1
  obtain ⟨a, dx, vs, rfl, hH, hl, rs⟩ := R1.insA r1 e2
  have CF := n.ok.gx.cls ce hin
  have hca : w1.ca = ca := l1.c.trans n.ca
  obtain ⟨v, h1, h2⟩ := rs.fld f e3
  exact ⟨a, w1.ca ce.id, dx, _, v, rfl, hH, by rw [hca]; exact CF.cl, by rw [hca]; exact CF.na f (of_decide_eq_true hf), by rw [lookup_zip]; exact h1, q2 w1 H1 v (.refl _) R1 h2⟩
theorem s_fld (hin : ce ∈ C.T.cls) (hf : decide (f ∈ ce.fld) = true) (hs : noComp e = true) (ho : SE C o g) (he : SE C e h) : SS C (.Assign [.Attribute o f p] e pos) (sFld ce.id f g h) := by
  intro ca cal k X W w ρ M σ H D n q
  refine WS.of (ps_fld pe_we pe_we (noComp_is hs _ _ _)) ?_
  refine he n (GdS.of q n.sl fun y M1 w1 H1 vy l1 R1 r1 q1 => ?_)
  have n1 := n.up l1 R1
  refine ho n1 (GdS.of q1 n1.sl fun x M2 w2 H2 vx l2 R2 r2 q2 => ?_)
  have n2 := n1.up l2 R2
  have CF := n.ok.gx.cls ce hin
  have hca : w2.ca = ca := n2.ca
  cases r2 with
  | @ref m a hm =>
    have q2 : GdS X.K w2 D W (match M2[m]? with
      | some (.ins c' ks vs) => if c' = ce.id ∧ free y = true ∧ ks.length < 1000 then .ok .nx ρ (M2.set m (.ins ce.id (putKs f ks) (putVs f y ks vs))) else .bad
      | _ => .bad) := q2
    obtain ⟨cc, bs, e1, e2, z⟩ := R2.at hm
    rw [e1] at q2
    cases z with
    | @ins c' ks ds dx vs hH hl rs =>
      have q4 : GdS X.K w2 D W (if c' = ce.id ∧ free y = true ∧ ks.length < 1000 then .ok .nx ρ (M2.set m (.ins ce.id (putKs f ks) (putVs f y ks ds))) else .bad) := q2
      by_cases hc : c' = ce.id ∧ free y = true ∧ ks.length < 1000
      · rw [if_pos hc] at q4
        obtain ⟨rfl, hy, hn⟩ := hc
        refine ⟨a, w2.ca ce.id, dx, _, rfl, hH, by rw [hca]; exact CF.cl, by rw [hca]; exact CF.na f (of_decide_eq_true hf), by rw [List.length_zip, ← hl, Nat.min_self]; exact hn, ?_⟩
        have hfr : frees ds = true := R2.fr _ (List.mem_of_getElem? e1)
        rw [putF_zip f vy hl]
        exact q4 w2 σ _ (.refl _) (R2.put hm e2 (frees_putVs f hy hfr) (.ins upd_same (putKs_len f vy hl) (rs.putVs f (r1.up l2)))) n2.sl
      · rw [if_neg hc] at q4; exact False.elim q4
    | _ => exact False.elim q2
  | _ => exact False.elim q2
end
def cNew (c i n : Nat) (fs : Dens) : Den := fun cal ρ M => (fs cal ρ M).bind fun ds M1 => if ds.length + 1 = n ∧ frees (ds.map (view M1)) = true then
    match cal i (.ref 0 :: ds.map (view M1)) [.ins c [] []] with
    | .ok .non [.ins c' ks vs] => if c' = c ∧ cleans vs = true then .ok (.obj c ks vs) M1 else .bad
    | .exn c' ks vs _ => if cleans vs = true then .exn c' ks vs M1 else .bad
    | _ => .bad
  else .bad
section
variable {X : Cx} {k : Nat} {f : Addr} {fd : FuncData} {ps : List Str} {sp : Sp} {W : WX} {σ : L2.St} {C : Addr}
theorem runMake {pins : List (Addr × Obj)} {H : Hp} {s : Shared} {Q : VK} {us : List Value} {vs : List V} (MK : Mk X.K C f) (F : FnG X.prog X.w X.K X.mg X.base k f fd ps sp) (hr : Room (k + 1) X.A) (hg : X.A.guards = some []) (hb : Binds X.K fd ps []) (tk : Takes X W)
    (I : Inv X pins σ H s) (r : Vals vs us)
    (h : ∀ x dx, H x = none → H dx = none → dx ≠ x → sp (.ref x :: vs) (upd (upd H dx (.own x)) x (.ins C dx [])) (fun v H2 => v = .non ∧ Q (.ref x) H2) fun c d H' => W c d σ H') :
    wpAny (model X.prog X.w) X.A (call (.ref C) us) (EP X pins σ Q) X.xe s := by
  have hq := h (s.heap.objs.size + 1) s.heap.objs.size (I.hok.fresh (Nat.le_succ _)) (I.hok.fresh (Nat.le_refl _)) (Nat.ne_of_lt (Nat.lt_succ_self _))
  have I2 := Inv.made (C := C) I
  have r2 : Vals (V.ref (s.heap.objs.size + 1) :: vs) (Value.ref (s.heap.objs.size + 1) :: us) := .cons rfl r
  have hl : (Value.ref (s.heap.objs.size + 1) :: us).length = ps.length := by rw [← r2.length]; exact F.len _ _ _ _ hq
  have hb' : BindsTo { s with heap := (s.heap.push PySem.W.emptyDict).push (PySem.W.instObj C s.heap.objs.size) } fd ⟨Value.ref (s.heap.objs.size + 1) :: us, []⟩ (ps.zip (Value.ref (s.heap.objs.size + 1) :: us)) := by
    have z := hb { s with heap := (s.heap.push PySem.W.emptyDict).push (PySem.W.instObj C s.heap.objs.size) } (Value.ref (s.heap.objs.size + 1) :: us) I2.kIn (by rw [List.append_nil]; exact hl)
    rw [List.append_nil] at z
    exact z
  refine wpAny_call (make_map (f := f) I.kIn MK.makes MK.init (beq_iff_eq.mp MK.fn) (codeAny_mono (F.run _ X.stack _ _ ⟨Value.ref (s.heap.objs.size + 1) :: us, []⟩ (Value.ref (s.heap.objs.size + 1) :: us) _ _ _ (hr.make C us [])
    (by first | exact hg | simpa [Around.under, Code.isGuard, guardIds] using hg) (I2.env0.make C us []) hb' r2 hq) fun r s' hq' => ?_))
  cases r with
  | error e => exact tk e s' (XE.of_call I2 (fun _ _ _ z => z) hq')
  | ok fl =>
    cases fl with
    | ret u =>
      obtain ⟨v, H', I3, rv, ev, q3⟩ := I2.after hq'
      subst ev
      exact ⟨rv, ⟨V.ref (s.heap.objs.size + 1), H', I3, rfl, q3⟩⟩
    | next => exact False.elim hq'
    | brk => exact False.elim hq'
    | cont => exact False.elim hq'
end
section
variable {X : Cx} {k : Nat} {f : Addr} {fd : FuncData} {ps : List Str} {sp : Sp} {W : WX} {σ : L2.St} {Cl : Addr} {x : Str} {p pos : Pos} {e : Expr} {es : List Expr}
/-- C(e, ..) -/
theorem we_new {H : Hp} {Q : VK} (MK : Mk X.K Cl f) (F : FnG X.prog X.w X.K X.mg X.base k f fd ps sp) (hr : Room (k + 1) X.A) (hg : X.A.guards = some []) (hb : Binds X.K fd ps []) (tk : Takes X W) (hgl : Gl X x) (hm : X.mg x = some (.ref Cl))
    (hdb : (x == ("__debug__" : Str)) = false) (he : starEach (e :: es) X.env = (false, eval e X.env) :: starEach es X.env) (hpl : (backTo pos (starEach es X.env)).any (·.1) = false)
    (h : WA X (e :: es) σ H fun vs H1 => ∀ x dx, H1 x = none → H1 dx = none → dx ≠ x → sp (.ref x :: vs) (upd (upd H1 dx (.own x)) x (.ins Cl dx [])) (fun v H2 => v = .non ∧ Q (.ref x) H2) fun c d H' => W c d σ H') : WE X (.Call (.Name x p) (e :: es) [] pos) σ H Q := by
  intro pins s I
  refine wpAny_Call_Name_kw (ld_glob I hgl hm ?_ hdb)
  refine PySem.W.callWith_K (h₀ := X.base) I.ok.mod.kin MK.kp ?_ he hpl
  exact thn (h pos pins s I) fun us s1 ⟨vs, H1, I1, r, q⟩ => ⟨I1.kIn, runMake MK F hr hg hb tk I1 r q⟩
end
/-- what is handed to an __init__, and what becomes of the object -/
theorem new_run {K : PySem.W.Frag} {ca : Nat → Addr} {cal : Cal} {W : WX} {σ : L2.St} {Q : VK} {w1 : Wd} {M1 : Mem} {H1 : Hp} {ds : List D} {vs : List V} {c i n : Nat} (hca : w1.ca = ca) (R1 : Rel K w1 M1 H1) (r1 : Reps K w1 ds vs)
    (q1 : Gd K w1 W σ (Rep K) Q (if ds.length + 1 = n ∧ frees (ds.map (view M1)) = true then
      match cal i (.ref 0 :: ds.map (view M1)) [.ins c [] []] with
      | .ok .non [.ins c' ks vs] => if c' = c ∧ cleans vs = true then .ok (.obj c ks vs) M1 else .bad
      | .exn c' ks vs _ => if cleans vs = true then .exn c' ks vs M1 else .bad
      | _ => .bad
    else .bad)) : ∀ x dx, H1 x = none → H1 dx = none → dx ≠ x →
      spF K ca cal i n (.ref x :: vs) (upd (upd H1 dx (.own x)) x (.ins (ca c) dx [])) (fun v H2 => v = .non ∧ Q (.ref x) H2) fun c d H' => W c d σ H' := by
  intro x dx hx hdx hne
  by_cases hc : ds.length + 1 = n ∧ frees (ds.map (view M1)) = true
  · rw [if_pos hc] at q1
    have la := R1.addLe (o := .own x) hdx
    have Ra := R1.add (o := .own x) hdx
    have hx2 : upd H1 dx (.own x) x = none := by rw [upd_ne (Ne.symm hne)]; exact hx
    have lo := Ra.loose hx2
    have Rw := Ra.wr (o := .ins (ca c) dx []) lo
    have hH2 : upd (upd H1 dx (.own x)) x (.ins (ca c) dx []) x = some (.ins (ca c) dx []) := upd_same
    generalize upd (upd H1 dx (.own x)) x (.ins (ca c) dx []) = H2 at Rw hH2 ⊢
    generalize hwa : w1.add dx (.own x) = wa at Rw lo la Ra
    have hcaa : wa.ca = ca := by rw [← hwa]; exact hca
    have Rb := Rw.bor
    have hown : ¬ own wa x := fun z => z.elim lo.m lo.n
    have lob : Loose (wa.bor H2) x := ⟨by rw [(bor_out hown).2]; exact lo.f, List.not_mem_nil, by simp, lo.k⟩
    have lc := Rel.celLe (wa.bor H2) x []
    have hcell : CellR K ((wa.bor H2).cel x []) H2 x [] (.ins c [] []) := .ins (vs := []) (dx := dx) (by rw [hH2, ← hcaa]; rfl) rfl .nil
    have Rc := Rb.celA lob rfl hcell
    have hr1 : Reps K wa ds vs := r1.up la
    refine ⟨(wa.bor H2).cel x [], [] ++ [.ins c [] []], .ref 0 :: ds.map (view M1), hcaa, Rc, .cons (.ref rfl) ((Rw.borReps hr1 hc.2).up lc), by rw [List.length_cons, List.length_map]; exact hc.1, ?_⟩
    show Gd K ((wa.bor H2).cel x []) _ _ _ _ (cal i (.ref 0 :: ds.map (view M1)) [.ins c [] []])
    generalize cal i (.ref 0 :: ds.map (view M1)) [.ins c [] []] = r at q1 ⊢
    split at q1
    · rename_i c' ks us
      by_cases hcc : c' = c ∧ cleans us = true
      · rw [if_pos hcc] at q1
        obtain ⟨rfl, hcl⟩ := hcc
        intro w' H' b l R' rb
        cases rb
        refine ⟨rfl, ?_⟩
        obtain ⟨R4, l4⟩ := Rw.ret (lc.trans l) R'
        have ea : w'.mu[0]? = some x := l.at (n := 0) rfl
        obtain ⟨cc, bs, e1, e2, z⟩ := R'.at ea
        cases e1
        cases z with
        | @ins _ _ _ dx' zs hH hl rs =>
          have hF : w'.F x = none := R'.off x (List.mem_of_getElem? ea)
          have lo2 : Loose (wa.ret w') x := ⟨by rw [ret_out hown]; exact hF, lo.m, lo.n, fun z => R'.lkB z hF⟩
          have l5 := R4.adoptLe (o := .ins (w'.ca c') dx' (ks.zip zs)) lo2
          have R5 := R4.adopt lo2 hH
          exact q1 _ H' _ ((la.trans l4).trans l5) R5 (.obj (dx := dx') upd_same hl ((Reps.cln (w := w') (w' := wa.ret w') (fun _ _ h => h) rfl rs hcl).up l5))
      · rw [if_neg hcc] at q1; exact False.elim q1
    · rename_i c' ks us M'
      by_cases hcl : cleans us = true
      · rw [if_pos hcl] at q1
        intro w' H' dd l R' er
        obtain ⟨R4, l4⟩ := Rw.ret (lc.trans l) R'
        refine q1 (wa.ret w') H' dd (la.trans l4) R4 ?_
        rcases er with e | ⟨h0, dx, fvs, h1, h2, h3, h4⟩
        · exact .inl e
        · exact .inr ⟨h0, dx, fvs, h1, h2, h3, Reps.cln (w := w') (w' := wa.ret w') (fun _ _ h => h) rfl h4 hcl⟩
      · rw [if_neg hcl] at q1; exact False.elim q1
    · exact False.elim q1
  · rw [if_neg hc] at q1; exact False.elim q1
section
variable {C : Cfg} {pos p p2 : Pos} {o e : Expr} {es : List Expr} {g h : Den} {fs gs : Dens} {f : Str} {ce : ClE} {me : MtE} {kws : List Keyword} {kw : Nat × List Str × List Nat}
theorem e_new (hin : ce ∈ C.T.cls) (hm : me ∈ ce.ini) (hk : okG C ce.name = true) (hs : (e :: es).all noStar = true) (ha : SA C (e :: es) fs) :
    SE C (.Call (.Name ce.name p) (e :: es) [] pos) (cNew ce.id me.id me.ps.length fs) := by
  intro ca cal k X W w ρ M σ H Q n q
  have CF := n.ok.gx.cls ce hin
  obtain ⟨f, MK, fd, F, hb⟩ := CF.ini me hm
  obtain ⟨hl, hdb⟩ := okG_is hk
  rw [List.all_cons, Bool.and_eq_true] at hs
  refine we_new MK F n.ok.room n.ok.gd hb n.tk (gl_of n hl) CF.nm hdb (starEach_cons hs.1 es X.env) (starEach_any hs.2 X.env pos) ?_
  refine ha n (Gd.bind q fun ds M1 w1 H1 vs l1 R1 r1 q1 => ?_)
  exact new_run (l1.c.trans n.ca) R1 r1 q1
end
/-- a def of the class c is asked: x is only read -/
def askO (c i : Nat) (x : D) (M : Mem) : Cal → R D := fun cal => match x with
  | .obj c' ks vs => if c' = c ∧ frees vs = true then (lift M (cal i [.obj c' ks vs] [])).noX else .bad
  | _ => .bad
def cProp (c i : Nat) (o : Den) : Den := fun cal ρ M => (o cal ρ M).bind fun x M1 => askO c i x M1 cal
def lenOk (d : D) : Bool := match d with
  | .int i => decide (0 ≤ i) && decide (i < 2 ^ 63)
  | _ => false
def cLenO (c i : Nat) (o : Den) : Den := fun cal ρ M => (o cal ρ M).bind fun x M1 => (askO c i x M1 cal).bind fun d M2 => if lenOk d = true then .ok d M2 else .bad
section
variable {X : Cx} {k : Nat} {p g a dx Cl : Addr} {fs : List (Str × V)} {f : Str} {fd : FuncData} {ps : List Str} {sp : Sp} {pins : List (Addr × Obj)} {σ : L2.St} {H : Hp} {s : Shared} {Q : VK}
theorem call1 {A : Around} (I : Inv X pins σ H s) (e0 : Env0 X.prog X.w X.K X.mg X.base A X.stack s H) (F : FnG X.prog X.w X.K X.mg X.base k g fd ps sp) (hr : Room k A) (hg : A.guards = some []) (hb : Binds X.K fd ps []) (h : sp [.ref a] H Q fun _ _ _ => False) :
    codeAny (model X.prog X.w) A (.call (.ref g) ⟨[.ref a], []⟩) (fun r s' => ∃ u, r = .ok (.ret u) ∧ EP X pins σ Q u s') s := by
  have hl : ([Value.ref a] : List Value).length = ps.length := by rw [← F.len _ _ _ _ h]; rfl
  have hb' : BindsTo s fd ⟨[.ref a], []⟩ (ps.zip [.ref a]) := by
    have z := hb s [.ref a] I.kIn (by rw [List.append_nil]; exact hl)
    rw [List.append_nil] at z
    exact z
  refine codeAny_mono (F.run A X.stack s H ⟨[.ref a], []⟩ [.ref a] [.ref a] Q _ hr hg e0 hb' (.cons rfl .nil) h) fun r s' hq => ?_
  cases r with
  | error er =>
    obtain ⟨_, _, _, _, _, _, _, _, _, _, _, _, _, z⟩ := (show L2.CX X.prog X.w X.stack H s (fun _ _ _ => False) er s' from hq)
  | ok fl =>
    cases fl with
    | ret u => exact ⟨u, rfl, I.after hq⟩
    | next => exact False.elim hq
    | brk => exact False.elim hq
    | cont => exact False.elim hq
/-- e.f, a property -/
theorem pe_propG {e : Expr} {ta : TE} {pos : Pos} (he : PE X e ta) (c : Cls X.K Cl) (hp : PropOf X.K Cl f p g) (F : FnG X.prog X.w X.K X.mg X.base k g fd ps sp) (hr : Room (k + 1) X.A) (hg : X.A.guards = some []) (hb : Binds X.K fd ps [])
    (hab : attributeBase e f X.env (eval e X.env) = eval e X.env) : PE X (.Attribute e f pos) (fun σ H Q => ta σ H fun x H1 => ∃ a dx fs, x = .ref a ∧ H1 a = some (.ins Cl dx fs) ∧ sp [.ref a] H1 Q fun _ _ _ => False) := by
  refine ⟨fun pins s σ H Q I h => ?_⟩
  refine attr_of hab (thn (he.run pins s σ H _ I h) fun u s1 ⟨x, H1, I1, rx, a, dx, fs, ex, ea, q⟩ => ?_)
  subst ex
  obtain rfl : u = Value.ref a := rx
  obtain ⟨mA, O, _, _, _, _⟩ := ins_get I1.hok ea
  obtain ⟨od, J, _⟩ := O.look
  obtain ⟨rest, hrec⟩ := hp.rec_
  have I2 := I1.tok (s1.toks + 1)
  have hc : (PySem.W.clsIn X.K Cl).isSome = true := by
    obtain ⟨cd, hc, _⟩ := PySem.W.any_some c.hd
    rw [hc]
    rfl
  refine PySem.W.get_bind I1.kIn J (PySem.W.plainGet_of (c.get f)).1 (PySem.W.findObj_data hc hp.at_ hp.get hp.tak) (PySem.W.plainGet_of (c.get f)).2 (wpAny_call (PySem.W.prop_get (s := { s1 with toks := s1.toks + 1 }) I1.kIn hrec ?_))
  refine codeAny_mono (call1 (A := X.A.in1) I2 I2.env0.in1 F hr.in1 hg hb q) fun r s' hq => ?_
  obtain ⟨u, rfl, v, H', I3, rv, q3⟩ := hq
  show wpAny _ _ (handedOut u) _ _ _
  rw [PySem.W.handedOut_of (handed_of rv)]
  exact wpAny_pure ⟨v, H', I3, rv, q3⟩
/-- len(x) by the class's own __len__ -/
theorem call_lenO (c : Cls X.K Cl) (m : Meth X.K Cl "__len__" g) (F : FnG X.prog X.w X.K X.mg X.base k g fd ps sp) (hr : Room (k + 1) X.A) (hg : X.A.guards = some []) (hb : Binds X.K fd ps []) :
    CallR X (.builtin "len") (fun xs H Q => ∃ a dx fs, xs = [.ref a] ∧ H a = some (.ins Cl dx fs) ∧ sp [.ref a] H (fun v H' => ∃ i : Int, v = .int i ∧ 0 ≤ i ∧ i < 2 ^ 63 ∧ Q v H') fun _ _ _ => False) := by
  intro pins s σ H xs us Q I r h
  obtain ⟨a, dx, fs, rfl, ea, q⟩ := h
  obtain ⟨u, rfl, ru⟩ := vals1 r
  obtain rfl : u = Value.ref a := ru
  obtain ⟨mA, O, _, _, _, _⟩ := ins_get I.hok ea
  obtain ⟨od, J, _⟩ := O.look
  obtain ⟨mm, hF⟩ := I.fr
  refine PySem.W.len_K hF I.ok.mod.kin J m.at_ m.fn (wpAny_call (codeAny_mono (call1 (A := X.A.in1) I I.env0.in1 F hr.in1 hg hb q) fun r s' hq => ?_))
  obtain ⟨u, rfl, v, H', I3, rv, i, rfl, h0, h1, q3⟩ := hq
  obtain ⟨t, rfl⟩ := (show ∃ t, u = Value.int i t from rv)
  exact ⟨⟨h0, h1⟩, .int i, H', I3.tok _, ⟨_, rfl⟩, q3⟩
end
theorem Gd.ask {K : PySem.W.Frag} {w : Wd} {M : Mem} {H : Hp} {W W' : WX} {σ σ' : L2.St} {Q : VK} {c i : Nat} {x : D} {v : V} {cal : Cal} (R : Rel K w M H) (r : Rep K w x v) (g : Gd K w W σ (Rep K) Q (askO c i x M cal)) :
    ∃ ks vs, x = .obj c ks vs ∧ Reps K (w.bor H) [x] [v] ∧ Gd K (w.bor H) W' σ' (Rep K) Q (cal i [x] []) := by
  cases x with
  | obj c' ks vs =>
    have g2 : Gd K w W σ (Rep K) Q (if c' = c ∧ frees vs = true then (Vm.lift M (cal i [.obj c' ks vs] [])).noX else .bad) := g
    by_cases h : c' = c ∧ frees vs = true
    · rw [if_pos h] at g2
      obtain ⟨rfl, hf⟩ := h
      exact ⟨ks, vs, rfl, R.borReps (ds := [.obj c' ks vs]) (.cons r .nil) (by show (frees vs && true) = true; rw [hf]; rfl), Gd.lift R (Gd.noX g2)⟩
    · rw [if_neg h] at g2; exact False.elim g2
  | _ => exact False.elim g
section
variable {C : Cfg} {pos p p2 : Pos} {o e : Expr} {es : List Expr} {g h : Den} {fs gs : Dens} {f : Str} {ce : ClE} {me : MtE}
theorem spF_ask {K : PySem.W.Frag} {ca : Nat → Addr} {cal : Cal} {w : Wd} {M : Mem} {H : Hp} {W : WX} {σ : L2.St} {Q : VK} {c i : Nat} {x : D} {v : V} (hca : w.ca = ca) (R : Rel K w M H) (r : Rep K w x v) (g : Gd K w W σ (Rep K) Q (askO c i x M cal)) :
    ∃ a dx fs, v = .ref a ∧ H a = some (.ins (ca c) dx fs) ∧ spF K ca cal i 1 [.ref a] H Q fun _ _ _ => False := by
  obtain ⟨ks, vs, rfl, hr, g'⟩ := Gd.ask (W' := fun _ _ _ _ => False) (σ' := []) R r g
  cases r with
  | @obj _ _ _ a dx us h hl rs => exact ⟨a, dx, ks.zip us, rfl, by rw [← hca]; exact R.ins h, w.bor H, [], _, hca, R.bor, hr, rfl, g'⟩
theorem e_prop (hin : ce ∈ C.T.cls) (hm : me ∈ ce.prp) (hps : me.ps.length = 1) (hb : plainBase o = true) (ho : SE C o g) : SE C (.Attribute o me.nm pos) (cProp ce.id me.id g) := by
  intro ca cal k X W w ρ M σ H Q n q
  have CF := n.ok.gx.cls ce hin
  obtain ⟨pp, f, PO, fd, F, hbi⟩ := CF.prp me hm
  refine WE.of (pe_propG pe_we CF.cl PO F n.ok.room n.ok.gd hbi (plainBase_is hb _ _ _)) ?_
  refine ho n (Gd.bind q fun x M1 w1 H1 vx l1 R1 r1 q1 => ?_)
  rw [hps]
  exact spF_ask (l1.c.trans n.ca) R1 r1 q1
theorem e_lenO (hin : ce ∈ C.T.cls) (hm : me ∈ ce.mth) (hnm : me.nm = "__len__") (hps : me.ps.length = 1) (h2 : okB C "len" = true) (hs : noStar e = true) (ho : SE C e g) : SE C (.Call (.Name "len" p) [e] [] pos) (cLenO ce.id me.id g) := by
  intro ca cal k X W w ρ M σ H Q n q
  have CF := n.ok.gx.cls ce hin
  obtain ⟨f, MT, fd, F, hbi⟩ := CF.mth me hm
  rw [hnm] at MT
  refine WE.of (pe_callB (call_lenO CF.cl MT F n.ok.room n.ok.gd hbi) (gl_of n (okB_is h2).1) (n.ok.gx.blt _ (okB_is h2).2) (show bootBuiltins ("len" : Str) = some (.builtin "len") by decide +kernel) (pa_cons pe_we pa_nil (starEach_cons hs _ X.env)) (by decide) (by decide) (starEach_cons hs _ X.env) rfl) ?_
  refine ho n (Gd.bind q fun x M1 w1 H1 vx l1 R1 r1 q1 => ?_)
  obtain ⟨a, dx, fs, rfl, ha, hsp⟩ := spF_ask (Q := fun v H' => ∃ i : Int, v = .int i ∧ 0 ≤ i ∧ i < 2 ^ 63 ∧ Q v H') (l1.c.trans n.ca) R1 r1 (Gd.bind q1 fun d M2 w2 H2 v l2 R2 r2 q2 => by
    by_cases hd : lenOk d = true
    · rw [if_pos hd] at q2
      cases d with
      | int i =>
        cases r2
        have hd : (decide (0 ≤ i) && decide (i < 2 ^ 63)) = true := hd
        rw [Bool.and_eq_true, decide_eq_true_eq, decide_eq_true_eq] at hd
        exact ⟨i, rfl, hd.1, hd.2, Gd.ok q2 R2 (.int i)⟩
      | _ => cases hd
    · rw [if_neg hd] at q2; exact False.elim q2)
  rw [hps]
  exact ⟨a, dx, fs, rfl, ha, hsp⟩
end
def isC (c : Nat) (d : D) : Option Bool := match d with
  | .obj c' _ _ => if c' = c then some true else none
  | d => match tyN d with
    | some _ => some false
    | none => none
def cIsC (c : Nat) (f : Den) : Den := fun cal ρ M => (f cal ρ M).bind fun d M1 => R.opt ((isC c (view M1 d)).map D.bl) M1
def noRef : Value → Bool
  | .ref _ => false
  | _ => true
theorem noRef_all {l : List Value} (h : l.all noRef = true) (a : Addr) : l.contains (.ref a) = false := by
  induction l with
  | nil => rfl
  | cons v l ih =>
    rw [List.all_cons, Bool.and_eq_true] at h
    rw [List.contains_cons, ih h.2, Bool.or_false]
    cases v with
    | ref b => exact Bool.noConfusion (show false = true from h.1)
    | _ => rfl
theorem mro_tab : ∀ T ∈ (["NoneType", "bool", "int", "str", "tuple", "list"] : List String), ∃ l, fastBuiltinMro T = some l ∧ l.all noRef = true := by
  intro T hT
  simp only [List.mem_cons, List.not_mem_nil, or_false] at hT
  rcases hT with rfl | rfl | rfl | rfl | rfl | rfl <;> exact ⟨_, rfl, by decide +kernel⟩
theorem tyN_mem {d : D} {a : String} (h : tyN d = some a) : a ∈ (["NoneType", "bool", "int", "str", "tuple", "list"] : List String) := by
  unfold tyN at h
  split at h <;> cases h <;> decide
theorem kit_not {K : PySem.W.Frag} {b : Addr} {T : String} (hd : PySem.W.hasDictIn K b = true) (ht : PySem.W.typeIn K (.ref b) = some (.type "type")) (hT : T ∈ (["NoneType", "bool", "int", "str", "tuple", "list"] : List String)) : PySem.W.kitOne K (.type T) (.ref b) = some false := by
  obtain ⟨cd, hc, _⟩ := PySem.W.any_some hd
  have two : ((PySem.W.clsIn K b).isSome && PySem.W.typeIn K (.ref b) == some (.type "type")) = true := by rw [hc, ht]; rfl
  obtain ⟨l, hl, hn⟩ := mro_tab T hT
  unfold PySem.W.kitOne
  rw [if_neg (show ¬ (Value.type T == Value.ref b) = true from fun z => Value.noConfusion (beq_iff_eq.mp z))]
  show (if ((PySem.W.clsIn K b).isSome && PySem.W.typeIn K (.ref b) == some (.type "type")) = true then PySem.W.subIn K (.type T) (.ref b) else none) = _
  rw [if_pos two]
  show (fastBuiltinMro T).map (·.contains (.ref b)) = _
  rw [hl]
  show some (l.contains (.ref b)) = _
  rw [noRef_all hn]
theorem isC_kit {K : PySem.W.Frag} {w : Wd} {M : Mem} {H : Hp} {mg : Str → Option Value} {Fn : MtE → Addr → Prop} {ce : ClE} {d : D} {v : V} {b : Bool} (R : Rel K w M H) (r : Rep K w d v) (CF : ClF Fn K mg (w.ca ce.id) ce) (h : isC ce.id (view M d) = some b) :
    ∃ t, TyX K H v t ∧ PySem.W.kitOne K t (.ref (w.ca ce.id)) = some b := by
  rcases view_cases M d with q | ⟨n, ys, rfl, q, q2⟩ | ⟨n, ks, vs, rfl, q, q2⟩
  · rw [q] at h
    cases r with
    | @obj c' ks xs a dx vs hG hl rs =>
      have h : (if c' = ce.id then some true else none) = some b := h
      by_cases z : c' = ce.id
      · rw [if_pos z] at h
        cases h
        subst z
        refine ⟨_, .base (.ins (R.ins hG) CF.cl CF.ia CF.ig CF.it CF.im), ?_⟩
        unfold PySem.W.kitOne
        rw [if_pos (beq_iff_eq.mpr rfl)]
      · rw [if_neg z] at h; cases h
    | non => cases h; exact ⟨_, R.tyX (d := .non) .non rfl, kit_not CF.cl.hd CF.ty (by decide)⟩
    | bl b' => cases h; exact ⟨_, R.tyX (d := .bl b') (.bl b') rfl, kit_not CF.cl.hd CF.ty (by decide)⟩
    | int i => cases h; exact ⟨_, R.tyX (d := .int i) (.int i) rfl, kit_not CF.cl.hd CF.ty (by decide)⟩
    | str s => cases h; exact ⟨_, R.tyX (d := .str s) (.str s) rfl, kit_not CF.cl.hd CF.ty (by decide)⟩
    | tup h1 h2 => cases h; exact ⟨_, R.tyX (.tup h1 h2) rfl, kit_not CF.cl.hd CF.ty (by decide)⟩
    | lst h1 h2 => cases h; exact ⟨_, R.tyX (.lst h1 h2) rfl, kit_not CF.cl.hd CF.ty (by decide)⟩
    | _ => cases h
  · rw [q2] at h
    cases h
    exact ⟨_, R.tyX r (by rw [q2]; rfl), kit_not CF.cl.hd CF.ty (by decide)⟩
  · rw [q2] at h; cases h
section
variable {C : Cfg} {pos p p2 : Pos} {o e : Expr} {es : List Expr} {g h : Den} {fs gs : Dens} {f : Str} {ce : ClE} {me : MtE}
theorem e_isC (hin : ce ∈ C.T.cls) (hk : okG C ce.name = true) (h2 : okB C "isinstance" = true) (hs : noStar e = true) (he : SE C e g) : SE C (.Call (.Name "isinstance" p) [e, .Name ce.name p2] [] pos) (cIsC ce.id g) := by
  intro ca cal k X W w ρ M σ H Q n q
  have CF := n.ok.gx.cls ce hin
  obtain ⟨hl, hdb⟩ := okG_is hk
  refine WE.of (pe_callB call_isi (gl_of n (okB_is h2).1) (n.ok.gx.blt _ (okB_is h2).2) (show bootBuiltins ("isinstance" : Str) = some (.builtin "isinstance") by decide +kernel) (pa_cons pe_we (pa_cons (pe_glob (v := .ref (ca ce.id)) (gl_of n hl) CF.nm rfl hdb) pa_nil rfl) (starEach_cons hs _ X.env)) (by decide) (by decide) (starEach_cons hs _ X.env) rfl) ?_
  refine he n (Gd.bind q fun d M1 w1 H1 v l1 R1 r1 q1 => ?_)
  obtain ⟨d2, e2, q2⟩ := Gd.opt' q1
  obtain ⟨bb, e3, rfl⟩ := Option.map_eq_some_iff.mp e2
  have hca : w1.ca = ca := l1.c.trans n.ca
  obtain ⟨t, ht, hkk⟩ := isC_kit R1 r1 (ce := ce) (by rw [hca]; exact CF) e3
  rw [hca] at hkk
  exact ⟨v, .ref (ca ce.id), t, .ref (ca ce.id), bb, rfl, .own _, ht, hkk, q2 w1 H1 _ (.refl _) R1 (.bl bb)⟩
end
end Vm

namespace Vm
open PySem PySem.Spec L2
inductive Act where
  | set (i : Nat) (d : D)
  | ret (d : D)
  | nop
/-- constants -/
inductive CoV : D → V → Prop
  | non : CoV .non .non
  | bl (b : Bool) : CoV (.bl b) (.bl b)
  | int (i : Int) : CoV (.int i) (.int i)
  | str (s : Str) : CoV (.str s) (.str s)
theorem CoV.rep {K : PySem.W.Frag} {w : Wd} {d : D} {v : V} (h : CoV d v) : Rep K w d v := by
  cases h with
  | non => exact .non
  | bl b => exact .bl b
  | int i => exact .int i
  | str s => exact .str s
inductive CoE : Expr → D → Prop
  | non {j : Nat} {p : Pos} : CoE (.Constant .none j p) .non
  | bl {b : Bool} {j : Nat} {p : Pos} : CoE (.Constant (.bool b) j p) (.bl b)
  | int {i : Int} {j : Nat} {p : Pos} : CoE (.Constant (.int i) j p) (.int i)
  | str {s : Str} {j : Nat} {p : Pos} : CoE (.Constant (.str s) j p) (.str s)
  | neg {i : Int} {j : Nat} {p p2 : Pos} : CoE (.UnaryOp .USub (.Constant (.int i) j p) p2) (.int (-i))
theorem CoE.pe {X : Cx} {e : Expr} {d : D} (h : CoE e d) : ∃ v, CoV d v ∧ PE X e (tC v) ∧ noComp e = true := by
  cases h with
  | non => exact ⟨_, .non, pe_non, rfl⟩
  | bl => exact ⟨_, .bl _, pe_bl, rfl⟩
  | int => exact ⟨_, .int _, pe_int, rfl⟩
  | str => exact ⟨_, .str _, pe_str, rfl⟩
  | @neg i j p p2 => exact ⟨_, .int _, ⟨fun pins s σ H Q I h => (pe_un (X := X) un_neg pe_int).run pins s σ H Q I ⟨i, rfl, h⟩⟩, rfl⟩
def Act.go : Act → Env → Mem → SR
  | .set i d, ρ, M => .ok .nx (ρ.set i (some d)) M
  | .ret d, ρ, M => .ok (.rt d) ρ M
  | .nop, ρ, M => .ok .nx ρ M
def catchM (l : List (Nat × Nat × Bool)) : List (Nat × Act) → Nat → Env → Mem → SR
  | [], c', ρ, M => .exn c' [] [] ρ M
  | (c, a) :: r, c', ρ, M => match subL l c' c with
    | some true => a.go ρ M
    | some false => catchM l r c' ρ M
    | none => .bad
def sTryM (l : List (Nat × Nat × Bool)) (bd : SDen) (cs : List (Nat × Act)) : SDen := fun cal ρ M => match bd cal ρ M with
  | .exn c' [] [] ρ' M' => catchM l cs c' ρ' M'
  | .exn _ _ _ _ _ => .bad
  | r => r
/-- the clauses of the text -/
inductive SHd (C : Cfg) : List ExceptHandler → List (Nat × Act) → Prop
  | nil : SHd C [] []
  | set {x z : Str} {c i : Nat} {e : Expr} {d : D} {p p2 p4 p5 : Pos} {hds : List ExceptHandler} {l : List (Nat × Act)} (hin : (x, c) ∈ C.T.ers) (h : okG C x = true) (hz : okS C z i = true) (he : CoE e d) (r : SHd C hds l) :
      SHd C (.ExceptHandler (some (.Name x p)) none [.Assign [.Name z p2] e p4] p5 :: hds) ((c, .set i d) :: l)
  | ret {x : Str} {c : Nat} {e : Expr} {d : D} {p p4 p5 : Pos} {hds : List ExceptHandler} {l : List (Nat × Act)} (hin : (x, c) ∈ C.T.ers) (h : okG C x = true) (he : CoE e d) (r : SHd C hds l) :
      SHd C (.ExceptHandler (some (.Name x p)) none [.Return (some e) p4] p5 :: hds) ((c, .ret d) :: l)
  | nop {x : Str} {c : Nat} {p p4 p5 : Pos} {hds : List ExceptHandler} {l : List (Nat × Act)} (hin : (x, c) ∈ C.T.ers) (h : okG C x = true) (r : SHd C hds l) :
      SHd C (.ExceptHandler (some (.Name x p)) none [.Pass p4] p5 :: hds) ((c, .nop) :: l)
/-- what a suite wishes -/
def actT : Act → V → TS
  | .set i _, v => fun D σ H => D.nx (σ.set i (some v)) H
  | .ret _, v => fun D σ H => D.rt v H
  | .nop, _ => fun D σ H => D.nx σ H
theorem shd_ok {C : Cfg} {ca : Nat → Addr} {cal : Cal} {k : Nat} {X : Cx} {W : WX} {w : Wd} {ρ : Env} {M : Mem} {σ : L2.St} {H : Hp} (n : Now C ca cal k X W w ρ M σ H) {hds : List ExceptHandler} {l : List (Nat × Act)} (h : SHd C hds l) :
    ∃ lv : List (Value × (Addr → Value → Option Addr → TS)), HdsOk X hds lv ∧ ∀ {w' : Wd} {ρ' : Env} {M' : Mem} {σ' : L2.St} {H' : Hp} {D : Ends} {c' : Nat}, w.Le w' → Rel X.K w' M' H' → Slots X.K w' ρ' σ' → (∀ p ∈ C.T.sub, True) →
      GdS X.K w' D W (catchM C.T.sub l c' ρ' M') → wMany X.K W D lv (.ref (ca c')) none σ' H' := by
  have nd : X.N.Nodup := by rw [n.ok.N]; exact n.ok.nd
  induction h with
  | nil =>
    refine ⟨[], .nil, fun {w' ρ' M' σ' H' D c'} l R sl _ g => ?_⟩
    have z := (show ∀ w2 σ H dd, w'.Le w2 → Rel X.K w2 M' H → Slots X.K w2 ρ' σ → ErrR X.K w2 dd [] [] → W (.ref (w2.ca c')) dd σ H from g) w' σ' H' none (.refl _) R sl (.inl ⟨rfl, rfl, rfl⟩)
    rw [l.c.trans n.ca] at z
    exact z
  | @set x z c i e d p p2 p4 p5 hds l hin h hz he r ih =>
    obtain ⟨lv, h1, h2⟩ := ih
    obtain ⟨v, cv, pe, nc⟩ := he.pe (X := X)
    obtain ⟨hl, hdb⟩ := okG_is h
    obtain ⟨gC, E⟩ := n.ok.gx.ers.at_ _ hin
    have hzN : X.N[i]? = some z := by rw [n.ok.N]; exact (okS_is hz).1
    obtain ⟨lz1, lz2⟩ := loc_of n (okS_is hz).2
    refine ⟨(.ref (ca c), fun _ _ _ => actT (.set i d) v) :: lv, .cons ⟨gl_of n hl, hdb, .inl gC⟩ (fun a ob cls dd pn zc fl => ⟨fun pins s σ H D I h => ?_⟩) h1, fun {w' ρ' M' σ' H' D c'} l R sl t g => ?_⟩
    · obtain ⟨v2, cv2, pe2, nc2⟩ := he.pe (X := X.suite a ((a, ob) :: pn))
      have ev : v2 = v := by cases cv <;> cases cv2 <;> rfl
      subst ev
      exact (pss_one (ps_set (X := X.suite a ((a, ob) :: pn)) (i := i) nd hzN lz1 pe2 (noComp_is nc2 _ _ _) lz2)).run pins s σ H D I h
    · have g : GdS X.K w' D W (match subL C.T.sub c' c with
        | some true => (Act.set i d).go ρ' M'
        | some false => catchM C.T.sub _ c' ρ' M'
        | none => .bad) := g
      cases hs : subL C.T.sub c' c with
      | none => rw [hs] at g; exact False.elim g
      | some b =>
        rw [hs] at g
        obtain ⟨k1, k2, k3⟩ := n.ok.gx.ers.sub _ (subL_mem hs)
        refine ⟨b, k1, fun hb a na => ?_, fun hb => ?_⟩
        · subst hb
          exact (show ∀ w2 σ H, w'.Le w2 → Rel X.K w2 M' H → Slots X.K w2 (ρ'.set i (some d)) σ → D.nx σ H from g) w' _ H' (.refl _) R (sl.set i cv.rep)
        · subst hb
          exact h2 l R sl t g
  | @ret x c e d p p4 p5 hds l hin h he r ih =>
    obtain ⟨lv, h1, h2⟩ := ih
    obtain ⟨v, cv, pe, nc⟩ := he.pe (X := X)
    obtain ⟨hl, hdb⟩ := okG_is h
    obtain ⟨gC, E⟩ := n.ok.gx.ers.at_ _ hin
    refine ⟨(.ref (ca c), fun _ _ _ => actT (.ret d) v) :: lv, .cons ⟨gl_of n hl, hdb, .inl gC⟩ (fun a ob cls dd pn zc fl => ⟨fun pins s σ H D I h => ?_⟩) h1, fun {w' ρ' M' σ' H' D c'} l R sl t g => ?_⟩
    · obtain ⟨v2, cv2, pe2, nc2⟩ := he.pe (X := X.suite a ((a, ob) :: pn))
      have ev : v2 = v := by cases cv <;> cases cv2 <;> rfl
      subst ev
      exact (pss_one (ps_ret (X := X.suite a ((a, ob) :: pn)) pe2)).run pins s σ H D I h
    · have g : GdS X.K w' D W (match subL C.T.sub c' c with
        | some true => (Act.ret d).go ρ' M'
        | some false => catchM C.T.sub _ c' ρ' M'
        | none => .bad) := g
      cases hs : subL C.T.sub c' c with
      | none => rw [hs] at g; exact False.elim g
      | some b =>
        rw [hs] at g
        obtain ⟨k1, k2, k3⟩ := n.ok.gx.ers.sub _ (subL_mem hs)
        refine ⟨b, k1, fun hb a na => ?_, fun hb => ?_⟩
        · subst hb
          exact (show ∀ w2 H v, w'.Le w2 → Rel X.K w2 M' H → Rep X.K w2 d v → D.rt v H from g) w' H' v (.refl _) R cv.rep
        · subst hb
          exact h2 l R sl t g
  | @nop x c p p4 p5 hds l hin h r ih =>
    obtain ⟨lv, h1, h2⟩ := ih
    obtain ⟨hl, hdb⟩ := okG_is h
    obtain ⟨gC, E⟩ := n.ok.gx.ers.at_ _ hin
    refine ⟨(.ref (ca c), fun _ _ _ => actT .nop .non) :: lv, .cons ⟨gl_of n hl, hdb, .inl gC⟩ (fun a ob cls dd pn zc fl => ⟨fun pins s σ H D I h => ?_⟩) h1, fun {w' ρ' M' σ' H' D c'} l R sl t g => ?_⟩
    · exact (pss_one (ps_pass (X := X.suite a ((a, ob) :: pn)))).run pins s σ H D I h
    · have g : GdS X.K w' D W (match subL C.T.sub c' c with
        | some true => Act.nop.go ρ' M'
        | some false => catchM C.T.sub _ c' ρ' M'
        | none => .bad) := g
      cases hs : subL C.T.sub c' c with
      | none => rw [hs] at g; exact False.elim g
      | some b =>
        rw [hs] at g
        obtain ⟨k1, k2, k3⟩ := n.ok.gx.ers.sub _ (subL_mem hs)
        refine ⟨b, k1, fun hb a na => ?_, fun hb => ?_⟩
        · subst hb
          exact (show ∀ w2 σ H, w'.Le w2 → Rel X.K w2 M' H → Slots X.K w2 ρ' σ → D.nx σ H from g) w' _ H' (.refl _) R sl
        · subst hb
          exact h2 l R sl t g
section
variable {C : Cfg} {pos : Pos} {bd : List Stmt} {g : SDen} {h₀ : ExceptHandler} {hds : List ExceptHandler} {l : List (Nat × Act)}
theorem s_tryM (ht : C.top = true) (hb : SSs C bd g) (hh : SHd C (h₀ :: hds) l) : SS C (.Try bd (h₀ :: hds) [] [] pos) (sTryM C.T.sub g l) := by
  intro ca cal k X W w ρ M σ H D n q
  obtain ⟨t1, t2, t3⟩ := n.ok.inF ht
  obtain ⟨lv, h1, h2⟩ := shd_ok n hh
  refine WS.of (ps_try_many (Wout := W) (l := lv) (tb := fun W' => fun D σ H => ∀ (pn : List (Addr × Obj)) (xe : Value → Shared → Prop), Takes (X.tr pn xe) W' → PassesOwn (model X.prog X.w) X.A X.env xe → WSs (X.tr pn xe) bd D σ H) t2 t3 n.tk
    (fun W' pn xe tk po => ⟨fun pins s σ H D I h => h pn xe tk po pins s I⟩) h1) ?_
  intro pn xe tk po
  have n2 : Now C ca cal k (X.tr pn xe) (wMany X.K W D lv) w ρ M σ H := ⟨⟨n.ok.N, n.ok.nd, n.ok.sc, n.ok.calm, n.ok.fn, n.ok.room, n.ok.gd, n.ok.gx, po, n.ok.inF⟩, tk, n.ca, n.rel, n.sl⟩
  refine hb n2 ?_
  have q : GdS X.K w D W (match g cal ρ M with
    | .exn c' [] [] ρ' M' => catchM C.T.sub l c' ρ' M'
    | .exn _ _ _ _ _ => .bad
    | r => r) := q
  cases hr : g cal ρ M with
  | bad => rw [hr] at q; exact q
  | ok fl ρ' M' => rw [hr] at q; cases fl <;> exact q
  | exn c' ks vs ρ' M' =>
    rw [hr] at q
    match ks, vs, q with
    | _ :: _, _, q => exact False.elim q
    | [], _ :: _, q => exact False.elim q
    | [], [], q =>
      intro w' σ' H' dd l R sl er
      have hd : dd = none := by
        rcases er with ⟨_, _, e⟩ | ⟨e, _⟩
        · exact e
        · exact absurd rfl e
      subst hd
      rw [l.c.trans n.ca]
      exact h2 l R sl (fun _ _ => trivial) (GdS.up q l)
end
def ConEs (P : Params) : List DictEntry → List (Str × Int) → Prop
  | [], [] => True
  | e :: r, p :: q => (∃ x t, e.key = .str x t ∧ e.hash = PyData.keyHash P x ∧ x = p.1) ∧ (∃ t, e.val = .int p.2 t) ∧ ConEs P r q
  | _, _ => False
theorem ConEs.lit {P : Params} : ∀ {l : List DictEntry} {kvs : List (Str × Int)}, ConEs P l kvs → PySem.W.KeysLit P l
  | [], [], _ => trivial
  | e :: r, p :: q, ⟨⟨x, t, h1, h2, _⟩, _, h3⟩ => ⟨⟨x, t, h1, h2⟩, ConEs.lit h3⟩
  | [], _ :: _, h => h.elim
  | _ :: _, [], h => h.elim
theorem ConEs.find {P : Params} (s : Str) : ∀ {l : List DictEntry} {kvs : List (Str × Int)}, ConEs P l kvs → l.any (·.refKey) = false ∧ match kvs.lookup s with
    | some i => ∃ e t, l.find? (·.key.isStr s) = some e ∧ e.val = .int i t
    | none => l.find? (·.key.isStr s) = none
  | [], [], _ => ⟨rfl, rfl⟩
  | e :: r, p :: q, ⟨⟨x, t, h1, h2, h4⟩, ⟨u, h5⟩, h3⟩ => by
    obtain ⟨g1, g2⟩ := ConEs.find s h3
    obtain ⟨p1, p2⟩ := p
    have h4 : x = p1 := h4
    subst h4
    have hk : e.key.isStr s = (x == s) := by rw [h1]; rfl
    refine ⟨by rw [List.any_cons, g1, Bool.or_false]; unfold DictEntry.refKey; rw [h1], ?_⟩
    rw [List.find?_cons, hk]
    show match (match s == x with | true => some p2 | false => q.lookup s) with
      | some i => ∃ e' t, (match x == s with | true => some e | false => r.find? (·.key.isStr s)) = some e' ∧ e'.val = .int i t
      | none => (match x == s with | true => some e | false => r.find? (·.key.isStr s)) = none
    by_cases z : s = x
    · subst z
      rw [beq_self_eq_true]
      exact ⟨e, u, rfl, h5⟩
    · rw [beq_false_of_ne z, beq_false_of_ne (Ne.symm z)]
      exact g2
  | [], _ :: _, h => h.elim
  | _ :: _, [], h => h.elim
theorem conF_of {K : PySem.W.Frag} {W : World} {h : Heap} {mg : Str → Option Value} {x : Str} {kvs : List (Str × Int)} {d : Addr} {es : Array DictEntry} {n : Nat} (X : K.In h) (G : h.Ns mainGlobals mg) (a1 : PySem.W.nsIn K mainGlobals x = some (some (.ref d)))
    (hl : K.lookup d = some ⟨.type "dict", none, .dict es n, #[]⟩) (lo : (d == sysModules) = false) (hc : ConEs W.params es.toList kvs) : ConF K W mg (x, kvs) := by
  refine ⟨d, es, n, PySem.W.mg_of X G a1, ⟨hl, hc.lit, lo⟩, fun s => ?_⟩
  obtain ⟨g1, g2⟩ := hc.find s
  have hn : PySem.W.nsIn K d s = (match es.toList.find? (·.key.isStr s) with
      | some e => some (some e.val)
      | none => if es.toList.any (·.refKey) then none else some none) := by
    unfold PySem.W.nsIn
    rw [hl]
    rfl
  show match kvs.lookup s with
    | some i => ∃ t, PySem.W.nsIn K d s = some (some (.int i t))
    | none => PySem.W.nsIn K d s = some none
  rw [hn]
  cases hq : kvs.lookup s with
  | some i =>
    rw [hq] at g2
    obtain ⟨e, t, e1, e2⟩ := g2
    exact ⟨t, by rw [e1]; show some (some e.val) = _; rw [e2]⟩
  | none =>
    rw [hq] at g2
    rw [g2, g1]
    rfl
def conD (kvs : List (Str × Int)) (x d : D) : Option D := match x with
  | .str s => match kvs.lookup s with
    | some i => some (.int i)
    | none => some d
  | _ => none
/-- NAME.get(k, x) -/
def cKGet (kvs : List (Str × Int)) (f g : Den) : Den := fun cal ρ M => (f cal ρ M).bind fun x M1 => (g cal ρ M1).bind fun y M2 => R.opt (conD kvs x y) M2
/-- len(set(t)), t a tuple of unlike ints -/
def lenSet (d : D) : Option D := match d with
  | .tup xs => match intsOf xs with
    | some ns => if ns.Nodup ∧ ns.length ≤ 1000 then some (.int ns.length) else none
    | none => none
  | _ => none
def cLenSet (f : Den) : Den := fun cal ρ M => (f cal ρ M).bind fun d M1 => R.opt (lenSet d) M1
section
variable {C : Cfg} {pos p p2 q2 ap : Pos} {e f : Expr} {g h : Den} {x : Str} {kvs : List (Str × Int)}
theorem e_kget (hin : (x, kvs) ∈ C.T.con) (hk : okG C x = true) (hs : noStar e = true) (hs2 : noStar f = true) (hl : (ap.endLine == pos.line) = true) (he : SE C e g) (hf : SE C f h) : SE C (.Call (.Attribute (.Name x p) "get" ap) [e, f] [] pos) (cKGet kvs g h) := by
  intro ca cal k X W w ρ M σ H Q n q
  obtain ⟨hgl, hdb⟩ := okG_is hk
  obtain ⟨d, es, m, h1, KD, hq⟩ := n.ok.gx.con _ hin
  have tr : starEach [e, f] X.env = [(false, eval e X.env), (false, eval f X.env)] := by rw [starEach_cons hs, starEach_cons hs2]; rfl
  refine WE.of (pe_kget KD (gl_of n hgl) h1 hdb pe_we pe_we ⟨rfl, by rw [tr]; rfl, hl, by rw [tr]; rfl⟩) ?_
  refine he n (Gd.bind q fun y M1 w1 H1 vy l1 R1 r1 q1 => ?_)
  refine hf (n.up l1 R1) (Gd.bind q1 fun z M2 w2 H2 vz l2 R2 r2 q2 => ?_)
  obtain ⟨d2, e2, q3⟩ := Gd.opt' q2
  cases y with
  | str s =>
    cases r1
    have hs := hq s
    have e2 : (match kvs.lookup s with | some i => some (.int i) | none => some z) = some d2 := e2
    have hs : match kvs.lookup s with
      | some i => ∃ t, PySem.W.nsIn X.K d s = some (some (.int i t))
      | none => PySem.W.nsIn X.K d s = some none := hs
    cases hl : kvs.lookup s with
    | some i =>
      rw [hl] at e2 hs
      cases e2
      obtain ⟨t, ht⟩ := hs
      exact ⟨s, _, rfl, ht, fun u0 e0 => by cases e0; exact ⟨.int i, ⟨t, rfl⟩, q3 w2 H2 _ (.refl _) R2 (.int i)⟩, fun z => by cases z⟩
    | none =>
      rw [hl] at e2 hs
      cases e2
      exact ⟨s, none, rfl, hs, fun u0 e0 => (by cases e0), fun _ => q3 w2 H2 _ (.refl _) R2 r2⟩
  | _ => cases e2
theorem e_lenSet (h1 : okB C "len" = true) (h2 : okB C "set" = true) (hs : noStar e = true) (he : SE C e g) : SE C (.Call (.Name "len" p) [.Call (.Name "set" p2) [e] [] q2] [] pos) (cLenSet g) := by
  intro ca cal k X W w ρ M σ H Q n q
  refine WE.of (pe_lenSetT n.ok.calm (gl_of n (okB_is h1).1) (n.ok.gx.blt _ (okB_is h1).2) (gl_of n (okB_is h2).1) (n.ok.gx.blt _ (okB_is h2).2) pe_we (starEach_cons hs _ X.env) rfl) ?_
  refine he n (Gd.bind q fun d M1 w1 H1 v l1 R1 r1 q1 => ?_)
  obtain ⟨d2, e2, q3⟩ := Gd.opt' q1
  cases d with
  | tup xs =>
    cases r1 with
    | @tup _ a vs hG rs =>
      have e2 : (match intsOf xs with
        | some ns => if ns.Nodup ∧ ns.length ≤ 1000 then some (D.int ns.length) else none
        | none => none) = some d2 := e2
      cases hi : intsOf xs with
      | none => rw [hi] at e2; cases e2
      | some ns =>
        rw [hi] at e2
        have e2 : (if ns.Nodup ∧ ns.length ≤ 1000 then some (D.int ns.length) else none) = some d2 := e2
        by_cases hc : ns.Nodup ∧ ns.length ≤ 1000
        · rw [if_pos hc] at e2
          cases e2
          have hx := intsOf_inv hi
          subst hx
          have hv := Reps.ints_of rs
          subst hv
          exact ⟨a, ns, rfl, SqT.of (R1.tup hG), hc.2, hc.1, q3 w1 H1 _ (.refl _) R1 (.int _)⟩
        · rw [if_neg hc] at e2; cases e2
  | _ => cases e2
end
def cDispC (kvs : List (Str × D)) : Den := fun _ _ M => if (kvs.map (·.1)).Nodup then newC (.dic (.bl false :: kvs.map fun p => .str p.1) (kvs.map (·.2))) M else .bad
inductive SDp : List (Option Expr) → List Expr → List (Str × D) → Prop
  | nil : SDp [] [] []
  | cons {s : Str} {j : Nat} {p : Pos} {e : Expr} {d : D} {ks : List (Option Expr)} {vs : List Expr} {l : List (Str × D)} (he : CoE e d) (r : SDp ks vs l) : SDp (some (.Constant (.str s) j p) :: ks) (e :: vs) ((s, d) :: l)
theorem mergeK_nd : ∀ (kvs acc : List (Key × V)), ((acc ++ kvs).map (·.1)).Nodup → mergeK acc kvs = acc ++ kvs
  | [], acc, _ => by rw [List.append_nil]; rfl
  | p :: r, acc, h => by
    show mergeK (putK acc p.1 p.2) r = _
    have hn : valV acc p.1 = none := by
      cases q : valV acc p.1 with
      | none => rfl
      | some v =>
        have hm : p.1 ∈ acc.map (·.1) := by
          unfold valV at q
          obtain ⟨z, hz, _⟩ := Option.map_eq_some_iff.mp q
          exact List.mem_map.mpr ⟨z, List.mem_of_find?_eq_some hz, by have z2 := List.find?_some hz; exact of_decide_eq_true z2⟩
        rw [List.map_append, List.nodup_append] at h
        exact absurd rfl (h.2.2 p.1 hm p.1 (by rw [List.map_cons]; exact List.mem_cons_self))
    rw [putK_new _ hn, mergeK_nd r (acc ++ [(p.1, p.2)]) (by rw [List.append_assoc]; exact h), List.append_assoc]
    rfl
theorem SDp.ok {X : Cx} {pos : Pos} {ks : List (Option Expr)} {vs : List Expr} {l : List (Str × D)} (h : SDp ks vs l) : ∃ (trs : List (TE × TE)) (kvs : List (Key × V)), PPs X pos ks vs trs ∧ (∀ σ H Q, Q (kvs.map fun kv => (kV kv.1, kv.2)) H → tPairs trs σ H Q) ∧
    kvs.map (·.1) = l.map (fun p => (Sum.inr p.1 : Key)) ∧ (∀ (K : PySem.W.Frag) (w : Wd), Reps K w (l.map (·.2)) (kvs.map (·.2))) ∧ ks.all (·.isSome) = true ∧ ks.length = vs.length ∧ ks.length = l.length := by
  induction h with
  | nil => exact ⟨[], [], pps_nil, fun σ H Q q => q, rfl, fun K w => .nil, rfl, rfl, rfl⟩
  | @cons s j p e d ks vs l he r ih =>
    obtain ⟨trs, kvs, h1, h2, h3, h4, h5, h6, h7⟩ := ih
    obtain ⟨v, cv, pe, _⟩ := he.pe (X := X)
    refine ⟨(tC (.str s), tC v) :: trs, (Sum.inr s, v) :: kvs, pps_cons pe_str pe h1, fun σ H Q q => ?_, by rw [List.map_cons, List.map_cons, h3], fun K w => .cons cv.rep (h4 K w), by rw [List.all_cons, h5]; rfl, by rw [List.length_cons, List.length_cons, h6], by rw [List.length_cons, List.length_cons, h7]⟩
    exact h2 σ H _ q
theorem inr_nd : ∀ {l : List (Str × D)}, (l.map (·.1)).Nodup → (l.map fun p => (Sum.inr p.1 : Key)).Nodup
  | [], _ => List.nodup_nil
  | p :: r, h => by
    rw [List.map_cons, List.nodup_cons] at h ⊢
    refine ⟨fun hm => h.1 ?_, inr_nd h.2⟩
    obtain ⟨q, hq, e⟩ := List.mem_map.mp hm
    exact List.mem_map.mpr ⟨q, hq, Sum.inr.inj e⟩
theorem e_dispC {C : Cfg} {pos : Pos} {ks : List (Option Expr)} {vs : List Expr} {l : List (Str × D)} (h : SDp ks vs l) (h0 : ks ≠ []) (h15 : decide (l.length ≤ 15) = true) : SE C (.Dict ks vs pos) (cDispC l) := by
  intro ca cal k X W w ρ M σ H Q n q
  obtain ⟨trs, kvs, h1, h2, h3, h4, h5, h6, h7⟩ := h.ok (X := X) (pos := pos)
  have h15 := of_decide_eq_true h15
  have hlen : kvs.length = l.length := by
    have z := congrArg List.length h3
    rw [List.length_map, List.length_map] at z
    exact z
  refine WE.of (pe_disp h1 h5 h6 h0 (by rw [h7]; exact h15)) fun p hp => ?_
  have q : Gd X.K w W σ (Rep X.K) Q (if (l.map (·.1)).Nodup then newC (.dic (.bl false :: l.map fun p => .str p.1) (l.map (·.2))) M else .bad) := q
  by_cases hn : (l.map (·.1)).Nodup
  · rw [if_pos hn] at q
    have lo := n.rel.loose hp
    refine h2 _ _ _ ⟨upd_same, kvs, rfl, by rw [hlen]; exact h15, ?_⟩
    rw [mergeK_nd kvs [] (by rw [List.nil_append, h3]; exact inr_nd hn), List.nil_append]
    have ek : (.bl false :: kvs.map fun p => keyD p.1) = (.bl false :: l.map fun p => D.str p.1) := by
      have z : (kvs.map (·.1)).map keyD = (l.map (fun p => (Sum.inr p.1 : Key))).map keyD := by rw [h3]
      rw [List.map_map, List.map_map] at z
      exact congrArg (D.bl false :: ·) z
    refine Gd.newCA q ((n.rel.wr (o := .dK []) lo).wr lo) lo (.dic (o := .dK kvs) upd_same ?_ (h4 X.K w))
    rw [← ek]
    exact .k kvs
  · rw [if_neg hn] at q; exact False.elim q
end Vm

namespace Vm
open PySem PySem.Spec L2
/-- a def of the class c is asked of two of its objects -/
def askO2 (c i : Nat) (x y : D) (M : Mem) : Cal → R D := fun cal => match x, y with
  | .obj c' ks vs, .obj c2 ks2 vs2 => if c' = c ∧ c2 = c ∧ frees vs = true ∧ frees vs2 = true then (lift M (cal i [.obj c' ks vs, .obj c2 ks2 vs2] [])).noX else .bad
  | _, _ => .bad
def negB (neg : Bool) (d : D) : Option Bool := match d with
  | .bl b => some (if neg = true then !b else b)
  | _ => none
def cEqO (neg : Bool) (c i : Nat) (f g : Den) : Den := fun cal ρ M => (f cal ρ M).bind fun x M1 => (g cal ρ M1).bind fun y M2 => (askO2 c i x y M2 cal).bind fun d M3 => R.opt ((negB neg d).map D.bl) M3
def tEqO (neg : Bool) (c i : Nat) (f g : Den) : DenB := fun cal ρ M => (f cal ρ M).bind fun x M1 => (g cal ρ M1).bind fun y M2 => (askO2 c i x y M2 cal).bind fun d M3 => R.opt (negB neg d) M3
section
variable {X : Cx} {k : Nat} {g a b Cl : Addr} {fd : FuncData} {ps : List Str} {sp : Sp} {pins : List (Addr × Obj)} {σ : L2.St} {H : Hp} {s : Shared} {Q : VK}
theorem call2 {A : Around} (I : Inv X pins σ H s) (e0 : Env0 X.prog X.w X.K X.mg X.base A X.stack s H) (F : FnG X.prog X.w X.K X.mg X.base k g fd ps sp) (hr : Room k A) (hg : A.guards = some []) (hb : Binds X.K fd ps []) (h : sp [.ref a, .ref b] H Q fun _ _ _ => False) :
    codeAny (model X.prog X.w) A (.call (.ref g) ⟨[.ref a, .ref b], []⟩) (fun r s' => ∃ u, r = .ok (.ret u) ∧ EP X pins σ Q u s') s := by
  have hl : ([Value.ref a, Value.ref b] : List Value).length = ps.length := by rw [← F.len _ _ _ _ h]; rfl
  have hb' : BindsTo s fd ⟨[.ref a, .ref b], []⟩ (ps.zip [.ref a, .ref b]) := by
    have z := hb s [.ref a, .ref b] I.kIn (by rw [List.append_nil]; exact hl)
    rw [List.append_nil] at z
    exact z
  refine codeAny_mono (F.run A X.stack s H ⟨[.ref a, .ref b], []⟩ [.ref a, .ref b] [.ref a, .ref b] Q _ hr hg e0 hb' (.cons rfl (.cons rfl .nil)) h) fun r s' hq => ?_
  cases r with
  | error er =>
    obtain ⟨_, _, _, _, _, _, _, _, _, _, _, _, _, z⟩ := (show L2.CX X.prog X.w X.stack H s (fun _ _ _ => False) er s' from hq)
  | ok fl =>
    cases fl with
    | ret u => exact ⟨u, rfl, I.after hq⟩
    | next => exact False.elim hq
    | brk => exact False.elim hq
    | cont => exact False.elim hq
/-- what both objects stand for -/
def EqR (Cl : Addr) (sp : Sp) (neg : Bool) : R2 := fun x y H Q => ∃ a dx fs b dy gs, x = .ref a ∧ y = .ref b ∧ H a = some (.ins Cl dx fs) ∧ H b = some (.ins Cl dy gs) ∧ sp [.ref a, .ref b] H (fun v H' => ∃ bb, v = .bl bb ∧ Q (.bl (if neg = true then !bb else bb)) H') fun _ _ _ => False
theorem op_eqO (m : Meth X.K Cl "__eq__" g) (F : FnG X.prog X.w X.K X.mg X.base k g fd ps sp) (hr : Room (k + 1) X.A) (hg : X.A.guards = some []) (hb : Binds X.K fd ps []) : OpR X (compareOp .Eq) (EqR Cl sp false) := by
  intro pins s σ H x y v u Q I rx ry h
  obtain ⟨a, dx, fs, b, dy, gs, rfl, rfl, ha, hb2, q⟩ := h
  obtain rfl : v = Value.ref a := rx
  obtain rfl : u = Value.ref b := ry
  obtain ⟨mA, J, _⟩ := ins_get I.hok ha
  obtain ⟨mB, J', _⟩ := ins_get I.hok hb2
  obtain ⟨od, J, _⟩ := J.look
  obtain ⟨od', J', _⟩ := J'.look
  obtain ⟨mm, hF⟩ := I.fr
  show wpAny _ _ (richCompare .Eq _ _) _ _ _
  refine PySem.W.cmp_K (op := .Eq) (tb := .ref Cl) hr.units0 hF I.ok.mod.kin J J'.type (by simp [PySem.W.notFirst]) m.at_ m.fn ?_
  refine wpAny_call (codeAny_mono (call2 (A := X.A) I I.env0 F (hr.mono (Nat.le_succ k)) hg hb q) fun r s' hq => ?_)
  obtain ⟨u, rfl, v, H', I3, rv, bb, rfl, q3⟩ := hq
  obtain rfl : u = Value.bool bb := rv
  exact ⟨.bl bb, H', I3, rfl, q3⟩
theorem op_neO (m : Meth X.K Cl "__eq__" g) (hne : PySem.W.findIn X.K (.ref Cl) "__ne__" = some (some (.builtin "object.__ne__"))) (hob : PySem.W.mroIn X.K Cl (.type "object") = some true) (F : FnG X.prog X.w X.K X.mg X.base k g fd ps sp) (hr : Room (k + 1) X.A) (hg : X.A.guards = some [])
    (hb : Binds X.K fd ps []) : OpR X (compareOp .NotEq) (EqR Cl sp true) := by
  intro pins s σ H x y v u Q I rx ry h
  obtain ⟨a, dx, fs, b, dy, gs, rfl, rfl, ha, hb2, q⟩ := h
  obtain rfl : v = Value.ref a := rx
  obtain rfl : u = Value.ref b := ry
  obtain ⟨mA, J, _⟩ := ins_get I.hok ha
  obtain ⟨mB, J', _⟩ := ins_get I.hok hb2
  obtain ⟨od, J, _⟩ := J.look
  obtain ⟨od', J', _⟩ := J'.look
  obtain ⟨mm, hF⟩ := I.fr
  show wpAny _ _ (richCompare .NotEq _ _) _ _ _
  refine ne_K (tb := .ref Cl) (by have := hr.units; omega) hF I.ok.mod.kin J J'.type (by simp [PySem.W.notFirst]) hne hob m.at_ m.fn ?_
  refine wpAny_call (codeAny_mono (call2 (A := X.A.in1) I I.env0.in1 F hr.in1 hg hb q) fun r s' hq => ?_)
  obtain ⟨u, rfl, v, H', I3, rv, bb, rfl, q3⟩ := hq
  obtain rfl : u = Value.bool bb := rv
  exact ⟨bb, rfl, .bl (!bb), H', I3, rfl, q3⟩
end
theorem ask2 {K : PySem.W.Frag} {ca : Nat → Addr} {w : Wd} {M : Mem} {H : Hp} {W : WX} {σ : L2.St} {Q : VK} {c i : Nat} {x y : D} {vx vy : V} {cal : Cal} (hca : w.ca = ca) (R : Rel K w M H) (rx : Rep K w x vx) (ry : Rep K w y vy) (g : Gd K w W σ (Rep K) Q (askO2 c i x y M cal)) :
    ∃ a dx fs b dy gs, vx = .ref a ∧ vy = .ref b ∧ H a = some (.ins (ca c) dx fs) ∧ H b = some (.ins (ca c) dy gs) ∧ spF K ca cal i 2 [.ref a, .ref b] H Q fun _ _ _ => False := by
  cases x with
  | obj c' ks vs =>
    cases y with
    | obj c2 ks2 vs2 =>
      have g2 : Gd K w W σ (Rep K) Q (if c' = c ∧ c2 = c ∧ frees vs = true ∧ frees vs2 = true then (Vm.lift M (cal i [.obj c' ks vs, .obj c2 ks2 vs2] [])).noX else .bad) := g
      by_cases h : c' = c ∧ c2 = c ∧ frees vs = true ∧ frees vs2 = true
      · rw [if_pos h] at g2
        obtain ⟨rfl, rfl, hf, hf2⟩ := h
        cases rx with
        | @obj _ _ _ a dx us h1 h2 h3 =>
          cases ry with
          | @obj _ _ _ b dy us' k1 k2 k3 =>
            refine ⟨a, dx, ks.zip us, b, dy, ks2.zip us', rfl, rfl, by rw [← hca]; exact R.ins h1, by rw [← hca]; exact R.ins k1, w.bor H, [], _, hca, R.bor, R.borReps (ds := [.obj c2 ks vs, .obj c2 ks2 vs2]) (.cons (.obj h1 h2 h3) (.cons (.obj k1 k2 k3) .nil)) (by show (frees vs && (frees vs2 && true)) = true; rw [hf, hf2]; rfl), rfl, Gd.lift R (Gd.noX g2)⟩
      · rw [if_neg h] at g2; exact False.elim g2
    | _ => exact False.elim g
  | _ => exact False.elim g
section
variable {C : Cfg} {pos : Pos} {e1 e2 : Expr} {f g : Den} {ce : ClE} {me : MtE}
theorem eqO_op {ca : Nat → Addr} {cal : Cal} {k : Nat} {X : Cx} {W : WX} {w : Wd} {ρ : Env} {M : Mem} {σ : L2.St} {H : Hp} {Q : VK} {x y : D} {vx vy : V} (neg : Bool) (hin : ce ∈ C.T.cls) (hm : me ∈ ce.mth) (hnm : me.nm = "__eq__") (hps : me.ps.length = 2) (n : Now C ca cal k X W w ρ M σ H) (rx : Rep X.K w x vx) (ry : Rep X.K w y vy)
    (q : Gd X.K w W σ (Rep X.K) Q ((askO2 ce.id me.id x y M cal).bind fun d M3 => R.opt ((negB neg d).map D.bl) M3)) : OpW X (compareOp (if neg = true then .NotEq else .Eq)) vx vy H Q := by
  have CF := n.ok.gx.cls ce hin
  obtain ⟨f, MT, fd, F, hbi⟩ := CF.mth me hm
  have ne := CF.ne me hm hnm
  rw [hnm] at MT
  obtain ⟨a, dx, fs, b, dy, gs, rfl, rfl, ha, hb, hsp⟩ := ask2 (Q := fun v H' => ∃ bb, v = .bl bb ∧ Q (.bl (if neg = true then !bb else bb)) H') n.ca n.rel rx ry (Gd.bind q fun d M2 w2 H2 v l2 R2 r2 q2 => by
    obtain ⟨d2, e2, q3⟩ := Gd.opt' q2
    obtain ⟨bb, e3, rfl⟩ := Option.map_eq_some_iff.mp e2
    cases d with
    | bl b0 =>
      cases r2
      cases e3
      exact ⟨b0, rfl, q3 w2 H2 _ (.refl _) R2 (.bl _)⟩
    | _ => cases e3)
  rw [← hps] at hsp
  cases neg with
  | false => exact OpW.of (op_eqO MT F n.ok.room n.ok.gd hbi) ⟨a, dx, fs, b, dy, gs, rfl, rfl, ha, hb, hsp⟩
  | true => exact OpW.of (op_neO MT ne CF.im F n.ok.room n.ok.gd hbi) ⟨a, dx, fs, b, dy, gs, rfl, rfl, ha, hb, hsp⟩
theorem e_eqO (neg : Bool) {op : CmpOp} (hop : op = if neg = true then .NotEq else .Eq) (hin : ce ∈ C.T.cls) (hm : me ∈ ce.mth) (hnm : me.nm = "__eq__") (hps : me.ps.length = 2) (h1 : SE C e1 f) (h2 : SE C e2 g) (hmk : behindInMarks op e2 = false) : SE C (.Compare e1 [op] [e2] pos) (cEqO neg ce.id me.id f g) := by
  intro ca cal k X W w ρ M σ H Q n q
  refine WE.of (pe_cmpR opR_w pe_we pe_we hmk) ?_
  refine h1 n (Gd.bind q fun x M1 w1 H1 vx l1 R1 r1 q1 => ?_)
  refine h2 (n.up l1 R1) (Gd.bind q1 fun y M2 w2 H2 vy l2 R2 r2 q2 => ?_)
  rw [hop]
  exact eqO_op neg hin hm hnm hps ((n.up l1 R1).up l2 R2) (r1.up l2) r2 q2
theorem t_eqO (neg : Bool) {op : CmpOp} (hop : op = if neg = true then .NotEq else .Eq) (hin : ce ∈ C.T.cls) (hm : me ∈ ce.mth) (hnm : me.nm = "__eq__") (hps : me.ps.length = 2) (h1 : SE C e1 f) (h2 : SE C e2 g) (hmk : behindInMarks op e2 = false) : ST C (.Compare e1 [op] [e2] pos) (tEqO neg ce.id me.id f g) := by
  intro ca cal k X W w ρ M σ H Q n q
  refine WT.of (pt_cmpR opR_w pe_we pe_we hmk) ?_
  refine h1 n (Gd.bind q fun x M1 w1 H1 vx l1 R1 r1 q1 => ?_)
  refine h2 (n.up l1 R1) (Gd.bind q1 fun y M2 w2 H2 vy l2 R2 r2 q2 => ?_)
  rw [hop]
  refine eqO_op (Q := fun v H' => ∃ t, v = .bl t ∧ Q t H') neg hin hm hnm hps ((n.up l1 R1).up l2 R2) (r1.up l2) r2 ?_
  cases hr : askO2 ce.id me.id x y M2 cal with
  | ok d M3 =>
    rw [hr] at q2
    have q2 : Gd X.K w2 W σ (fun _ a b => a = b) Q (R.opt (negB neg d) M3) := q2
    show Gd X.K w2 W σ (Rep X.K) _ (R.opt ((negB neg d).map D.bl) M3)
    cases hd : negB neg d with
    | none => rw [hd] at q2; exact q2
    | some b =>
      rw [hd] at q2
      intro w3 H3 v l3 R3 r3
      cases r3
      exact ⟨b, rfl, (show ∀ w' H b', w2.Le w' → Rel X.K w' M3 H → b = b' → Q b' H from q2) w3 H3 b l3 R3 rfl⟩
  | exn c ks vs M' => rw [hr] at q2; exact q2
  | bad => rw [hr] at q2; exact q2
end
noncomputable def sSetT (fo1 fi1 fo2 fi2 f g : Den) : SDen := fun cal ρ M => SR.of (f cal ρ M) ρ fun x M1 => SR.of (g cal ρ M1) ρ fun y M2 => SR.of (fo1 cal ρ M2) ρ fun o M3 => SR.of (fi1 cal ρ M3) ρ fun i M4 => match setD o i x M4 with
  | none => .bad
  | some M5 => SR.of (fo2 cal ρ M5) ρ fun o2 M6 => SR.of (fi2 cal ρ M6) ρ fun j M7 => match setD o2 j y M7 with
    | none => .bad
    | some M8 => .ok .nx ρ M8
def isSub : Expr → Bool
  | .Subscript _ i _ => plainIx i
  | _ => false
section
variable {C : Cfg} {pos p p2 pt pt2 : Pos} {o i o2 i2 e1 e2 : Expr} {fo fi fo2 fi2 f g : Den}
theorem setW_of {ca : Nat → Addr} {cal : Cal} {k : Nat} {X : Cx} {W : WX} {w : Wd} {ρ : Env} {M M' : Mem} {σ : L2.St} {H : Hp} {ov iv v : D} {vo vi vv : V} {Q : Hp → Prop} (n : Now C ca cal k X W w ρ M σ H) (ro : Rep X.K w ov vo) (ri : Rep X.K w iv vi) (rv : Rep X.K w v vv) (e : setD ov iv v M = some M')
    (q : ∀ H', Rel X.K w M' H' → Q H') : SetW X vo vi vv H Q := by
  rcases setD_inv e with ⟨m, kk, xs, j, rfl, rfl, em, ej, hf, rfl⟩ | ⟨m, ks, vs, ks', vs', rfl, em, ed, hf, rfl⟩
  · obtain ⟨a, vs, rfl, ea, en, hH, rs⟩ := n.rel.cellL ro em
    cases ri
    refine SetW.of set_list ⟨a, vs, kk, j, rfl, rfl, hH, by rw [← rs.length]; exact ej, ?_⟩
    have hfx : frees xs = true := n.rel.fr _ (List.mem_of_getElem? em)
    exact q _ (n.rel.putL ea en em (frees_set hfx hf j) (rs.set rv j))
  · obtain ⟨a, H', rfl, dp, R'⟩ := n.rel.dput ro em ri rv ed hf
    exact SetW.of (set_dict (by have := n.ok.room.un; omega)) ⟨a, H', rfl, dp, q _ R'⟩
theorem noSwap_sub {a b : Expr} {env : PySem.Env} {kt k2 : Nat} : swappedStores [.Tuple [.Subscript o i p, .Subscript o2 i2 p2] kt pt] (.Tuple [a, b] k2 pt2) env = pure none := by
  unfold swappedStores
  simp only []
  split
  · rfl
  · split
    · rfl
    · simp
theorem ss_setT {kt k2 : Nat} (hp : plainIx i = true) (hp2 : plainIx i2 = true) (ho : SE C o fo) (hi : SE C i fi) (ho2 : SE C o2 fo2) (hi2 : SE C i2 fi2) (h1 : SE C e1 f) (h2 : SE C e2 g) (hn1 : noStar e1 = true) (hn2 : noStar e2 = true) :
    SS C (.Assign [.Tuple [.Subscript o i p, .Subscript o2 i2 p2] kt pt] (.Tuple [e1, e2] k2 pt2) pos) (sSetT fo fi fo2 fi2 f g) := by
  intro ca cal k X W w ρ M σ H D n q
  have hs : ([.Subscript o i p, .Subscript o2 i2 p2] : List Expr).all noStar = true := rfl
  obtain ⟨a1, a2⟩ := assignEach_len X.env hs
  have tgt : PG X (.Tuple [.Subscript o i p, .Subscript o2 i2 p2] kt pt) _ := pg_tup (n := 2) n.ok.calm (pgs_cons (pg_sub pe_we pe_we pset_w (fun _ => plainTg_is hp X.env _)) (pgs_cons (pg_sub pe_we pe_we pset_w (fun _ => plainTg_is hp2 X.env _)) pgs_nil (by rfl)) (by rfl)) a1 a2
  refine WS.of (ps_asg (pe_tup (pa_cons pe_we (pa_cons pe_we pa_nil (starEach_cons hn2 _ X.env)) (starEach_cons hn1 _ X.env))) tgt rfl noSwap_sub (by rw [assignEach_cons rfl]; rfl)) ?_
  refine h1 n (GdS.of q n.sl fun x M1 w1 H1 vx l1 R1 r1 q1 => ?_)
  have n1 := n.up l1 R1
  refine h2 n1 (GdS.of q1 n1.sl fun y M2 w2 H2 vy l2 R2 r2 q2 => ?_)
  have n2 := n1.up l2 R2
  refine ⟨by rw [sizeLine_eq]; show 2 ≤ 16777216; decide, fun pp hpp => ?_⟩
  have lp := R2.addLe (o := .tup [vx, vy]) hpp
  have Rp := R2.add (o := .tup [vx, vy]) hpp
  have np := n2.up lp Rp
  refine ⟨pp, [vx, vy], rfl, SqT.of upd_same, rfl, vx, [vy], rfl, ?_⟩
  have q2 := GdS.up q2 lp
  refine ho np (GdS.of q2 np.sl fun ov M3 w3 H3 vo l3 R3 r3 q3 => ?_)
  have n3 := np.up l3 R3
  refine hi n3 (GdS.of q3 n3.sl fun iv M4 w4 H4 vi l4 R4 r4 q4 => ?_)
  have n4 := n3.up l4 R4
  cases es : setD ov iv x M4 with
  | none => rw [es] at q4; exact False.elim q4
  | some M5 =>
    rw [es] at q4
    refine setW_of n4 (r3.up l4) r4 ((((r1.up l2).up lp).up l3).up l4) es fun H5 R5 => ⟨vy, [], rfl, ?_⟩
    have n5 := n4.up (.refl _) R5
    refine ho2 n5 (GdS.of q4 n5.sl fun ov2 M6 w6 H6 vo2 l6 R6 r6 q6 => ?_)
    have n6 := n5.up l6 R6
    refine hi2 n6 (GdS.of q6 n6.sl fun iv2 M7 w7 H7 vi2 l7 R7 r7 q7 => ?_)
    have n7 := n6.up l7 R7
    cases es2 : setD ov2 iv2 y M7 with
    | none => rw [es2] at q7; exact False.elim q7
    | some M8 =>
      rw [es2] at q7
      exact setW_of n7 (r6.up l7) r7 (((((r2.up lp).up l3).up l4).up l6).up l7) es2 fun H8 R8 => ⟨rfl, q7 w7 σ H8 (.refl _) R8 n7.sl⟩
end
end Vm

namespace Vm
open PySem PySem.Spec L2

section
variable (cal : Cal) (ρ : Env) (M : Mem)
@[simp] theorem ap_seq (f g : SDen) : sSeq f g cal ρ M = (f cal ρ M).seq (g cal) := rfl
@[simp] theorem ap_nil : sNil cal ρ M = .ok .nx ρ M := rfl
@[simp] theorem ap_set (i : Nat) (f : Den) : sSet i f cal ρ M = SR.of (f cal ρ M) ρ fun d M1 => .ok .nx (ρ.set i (some d)) M1 := rfl
@[simp] theorem ap_if (t : DenB) (f g : SDen) : sIf t f g cal ρ M = SR.of (t cal ρ M) ρ fun b M1 => if b = true then f cal ρ M1 else g cal ρ M1 := rfl
@[simp] theorem ap_ret (f : Den) : sRet f cal ρ M = SR.of (f cal ρ M) ρ fun d M1 => .ok (.rt d) ρ M1 := rfl
@[simp] theorem ap_expr (f : Den) : sExpr f cal ρ M = SR.of (f cal ρ M) ρ fun _ M1 => .ok .nx ρ M1 := rfl
@[simp] theorem ap_setix (o i v : Den) : sSetIx o i v cal ρ M = SR.of (v cal ρ M) ρ fun v M1 => SR.of (o cal ρ M1) ρ fun o M2 => SR.of (i cal ρ M2) ρ fun i M3 => match setD o i v M3 with
  | some M4 => .ok .nx ρ M4
  | none => .bad := rfl
@[simp] theorem ap_for (t : Tgt) (f : DenI) (b : SDen) : sFor t f b cal ρ M = SR.of (f cal ρ M) ρ fun S M1 => forL S.chk t b S.ds cal ρ M1 := rfl
@[simp] theorem ap_var (i : Nat) : cVar i cal ρ M = R.opt (slot ρ i) M := rfl
@[simp] theorem ap_c (d : D) : cC d cal ρ M = .ok d M := rfl
@[simp] theorem ap_bin (g : D → D → Option D) (a b : Den) : cBin g a b cal ρ M = (a cal ρ M).bind fun x M1 => (b cal ρ M1).bind fun y M2 => R.opt (g (view M2 x) (view M2 y)) M2 := rfl
@[simp] theorem ap_ix (a b : Den) : cIx a b cal ρ M = (a cal ρ M).bind fun x M1 => (b cal ρ M1).bind fun y M2 => R.opt (ixD (view M2 x) (view M2 y)) M2 := rfl
@[simp] theorem ap_cmp (op : CmpOp) (a b : Den) : tCmp op a b cal ρ M = (a cal ρ M).bind fun x M1 => (b cal ρ M1).bind fun y M2 => R.opt (cmpB op (view M2 x) (view M2 y)) M2 := rfl
@[simp] theorem ap_tru (f : Den) : tTru f cal ρ M = (f cal ρ M).bind fun d M1 => R.opt (truB (view M1 d)) M1 := rfl
@[simp] theorem ap_not (f : DenB) : tNot f cal ρ M = (f cal ρ M).bind fun b M1 => .ok (!b) M1 := rfl
@[simp] theorem ap_and (f g : DenB) : tAnd f g cal ρ M = (f cal ρ M).bind fun b M1 => if b = true then g cal ρ M1 else .ok false M1 := rfl
@[simp] theorem ap_or (f g : DenB) : tOr f g cal ρ M = (f cal ρ M).bind fun b M1 => if b = true then .ok true M1 else g cal ρ M1 := rfl
@[simp] theorem ap_cand (f g : Den) : cAnd f g cal ρ M = (f cal ρ M).bind fun d M1 => match d with
  | .bl true => g cal ρ M1
  | .bl false => .ok (.bl false) M1
  | _ => .bad := rfl
@[simp] theorem ap_cor (f g : Den) : cOr f g cal ρ M = (f cal ρ M).bind fun d M1 => match d with
  | .bl true => .ok (.bl true) M1
  | .bl false => g cal ρ M1
  | _ => .bad := rfl
@[simp] theorem ap_cnot (f : Den) : cNot f cal ρ M = (f cal ρ M).bind fun d M1 => match d with
  | .bl b => .ok (.bl (!b)) M1
  | _ => .bad := rfl
@[simp] theorem ap_neg (f : Den) : cNeg f cal ρ M = (f cal ρ M).bind fun d M1 => match d with
  | .int i => .ok (.int (-i)) M1
  | _ => .bad := rfl
@[simp] theorem ap_cif (t : DenB) (f g : Den) : cIf t f g cal ρ M = (t cal ρ M).bind fun b M1 => if b = true then f cal ρ M1 else g cal ρ M1 := rfl
@[simp] theorem ap_chain (op op' : CmpOp) (f g h : Den) : cChain op op' f g h cal ρ M = (f cal ρ M).bind fun x M1 => (g cal ρ M1).bind fun y M2 => (R.opt (cmpB op (view M2 x) (view M2 y)) M2).bind fun t M3 =>
  if t = true then (h cal ρ M3).bind fun z M4 => R.opt (cmpD op' (view M4 y) (view M4 z)) M4 else .ok (.bl false) M3 := rfl
@[simp] theorem ap_anil : aNil cal ρ M = .ok [] M := rfl
@[simp] theorem ap_acons (f : Den) (g : Dens) : aCons f g cal ρ M = (f cal ρ M).bind fun d M1 => (g cal ρ M1).bind fun ds M2 => .ok (d :: ds) M2 := rfl
@[simp] theorem ap_tup (fs : Dens) : cTup fs cal ρ M = (fs cal ρ M).bind fun ds M1 => if ds.length ≤ sizeLine then .ok (.tup ds) M1 else .bad := rfl
@[simp] theorem ap_lst (bx : Bool) (fs : Dens) : cLst bx fs cal ρ M = (fs cal ρ M).bind fun ds M1 => if ds.length ≤ sizeLine then newL bx ds M1 else .bad := rfl
@[simp] theorem ap_sl (bx : Bool) (f : Den) (g h : DenO) : cSl bx f g h cal ρ M = (f cal ρ M).bind fun x M1 => (g cal ρ M1).bind fun lo M2 => (h cal ρ M2).bind fun hi M3 => slD bx (view M3 x) lo hi M3 := rfl
@[simp] theorem ap_onone : oNone cal ρ M = .ok none M := rfl
@[simp] theorem ap_osome (f : Den) : oSome f cal ρ M = (f cal ρ M).bind fun d M1 => match d with
  | .int i => .ok (some i) M1
  | _ => .bad := rfl
@[simp] theorem ap_blt (g : BltD) (fs : Dens) : cBlt g fs cal ρ M = (fs cal ρ M).bind fun ds M1 => g (ds.map (view M1)) M1 := rfl
@[simp] theorem ap_call (i n : Nat) (fs : Dens) : cCall i n fs cal ρ M = (fs cal ρ M).bind fun ds M1 => if ds.length = n then cal i ds M1 else .bad := rfl
@[simp] theorem ap_pure (i n : Nat) (fs : Dens) : cPure i n fs cal ρ M = (fs cal ρ M).bind fun ds M1 => if ds.length = n ∧ frees (ds.map (view M1)) = true then lift M1 (cal i (ds.map (view M1)) []) else .bad := rfl
@[simp] theorem ap_kw (np nk : Nat) (ix : List Nat) (fs gs : Dens) : aKw np nk ix fs gs cal ρ M = (fs cal ρ M).bind fun ds M1 => (gs cal ρ M1).bind fun es M2 => if ds.length = np ∧ es.length = nk then .ok (arr ix ds es) M2 else .bad := rfl
@[simp] theorem ap_frz (f : Den) : cFrz f cal ρ M = (f cal ρ M).bind fun d M1 => frz M.length d M1 := rfl
@[simp] theorem ap_mt (g : MthD) (f : Den) (fs : Dens) : cMt g f fs cal ρ M = (f cal ρ M).bind fun o M1 => if isL o M1 = true then (fs cal ρ M1).bind fun ds M2 => mtD g o ds M2 else .bad := rfl
@[simp] theorem ap_is (T : String) (f : Den) : cIs T f cal ρ M = (f cal ρ M).bind fun d M1 => R.opt ((isB T (view M1 d)).map D.bl) M1 := rfl
@[simp] theorem ap_lc (bx : Bool) (own : List Nat) (f : DenI) (t : Tgt) (c : DenB) (e : Den) : cLc bx own f t c e cal ρ M = (f cal ρ M).bind fun S M1 => if S.ds.length ≤ sizeLine then
  (compL S.chk t c e S.ds cal (wipeD ρ own) M1).bind fun ys M2 => newL bx ys M2 else .bad := rfl
@[simp] theorem ap_seqI (f : Den) : iSeq f cal ρ M = (f cal ρ M).bind fun d M1 => R.opt (srcD M1 d) M1 := rfl
@[simp] theorem ap_rg1 (fs : Dens) : iRg1 fs cal ρ M = (fs cal ρ M).bind fun ds M1 => match ds with
  | [.int j] => if rgOk j then .ok ⟨(List.range j.toNat).map fun i => .int (i : Nat), fun _ => True⟩ M1 else .bad
  | _ => .bad := rfl
@[simp] theorem ap_lsrg1 (bx : Bool) (f : Den) : cLsRg1 bx f cal ρ M = (f cal ρ M).bind fun d M1 => match d with
  | .int n => if lsOk n then newL bx (rgD 0 n) M1 else .bad
  | _ => .bad := rfl
@[simp] theorem ap_lsrg2 (bx : Bool) (f g : Den) : cLsRg2 bx f g cal ρ M = (f cal ρ M).bind fun d M1 => (g cal ρ M1).bind fun d2 M2 => match d, d2 with
  | .int n, .int m => if lsOk2 n m then newL bx (rgD n m) M2 else .bad
  | _, _ => .bad := rfl
end
@[simp] theorem sl0 (d : Option D) (ρ : Env) : slot (d :: ρ) 0 = d := rfl
@[simp] theorem slS (d : Option D) (ρ : Env) (n : Nat) : slot (d :: ρ) (n + 1) = slot ρ n := rfl
@[simp] theorem se0 (d e : Option D) (ρ : Env) : List.set (d :: ρ) 0 e = e :: ρ := rfl
@[simp] theorem seS (d e : Option D) (ρ : Env) (n : Nat) : List.set (d :: ρ) (n + 1) e = d :: List.set ρ n e := rfl
@[simp] theorem add_i (i j : Int) : addD (.int i) (.int j) = some (.int (i + j)) := rfl
@[simp] theorem sub_i (i j : Int) : subD (.int i) (.int j) = some (.int (i - j)) := rfl
@[simp] theorem mul_i {i j : Int} (h : mulOk i j) : mulD (.int i) (.int j) = some (.int (i * j)) := if_pos h
@[simp] theorem div_i {i j : Int} (h : divOk j) : divD (.int i) (.int j) = some (.int (i.fdiv j)) := if_pos h
@[simp] theorem mod_i {i j : Int} (h : j ≠ 0) : modD (.int i) (.int j) = some (.int (i.fmod j)) := if_pos h
theorem shaped_int (i : Int) : SeqAt.shaped (.int i) = true := rfl
@[simp] theorem eq_i (i j : Int) : eqB (.int i) (.int j) = some (decide (i = j)) := by
  show some (PyData.eqv (.int i) (.int j)) = _
  unfold PyData.eqv
  by_cases h : i = j
  · rw [h]; simp
  · rw [decide_eq_false h, beq_false_of_ne h]
@[simp] theorem cEq_i (i j : Int) : cmpB .Eq (.int i) (.int j) = some (decide (i = j)) := eq_i i j
@[simp] theorem cNe_i (i j : Int) : cmpB .NotEq (.int i) (.int j) = some (!decide (i = j)) := by show (eqB (.int i) (.int j)).map (!·) = _; rw [eq_i]; rfl
@[simp] theorem cLt_i (i j : Int) : cmpB .Lt (.int i) (.int j) = some (decide (i < j)) := rfl
@[simp] theorem cLe_i (i j : Int) : cmpB .LtE (.int i) (.int j) = some (decide (i ≤ j)) := rfl
@[simp] theorem cGt_i (i j : Int) : cmpB .Gt (.int i) (.int j) = some (decide (j < i)) := rfl
@[simp] theorem cGe_i (i j : Int) : cmpB .GtE (.int i) (.int j) = some (decide (j ≤ i)) := rfl
@[simp] theorem dLe_i (i j : Int) : cmpD .LtE (.int i) (.int j) = some (.bl (decide (i ≤ j))) := rfl
@[simp] theorem dLt_i (i j : Int) : cmpD .Lt (.int i) (.int j) = some (.bl (decide (i < j))) := rfl
@[simp] theorem dNe_i (i j : Int) : cmpD .NotEq (.int i) (.int j) = some (.bl (!decide (i = j))) := by unfold cmpD; rw [cNe_i]; rfl
@[simp] theorem dEq_i (i j : Int) : cmpD .Eq (.int i) (.int j) = some (.bl (decide (i = j))) := by unfold cmpD; rw [cEq_i]; rfl
@[simp] theorem newF (xs : List D) (M : Mem) : newL false xs M = .ok (.lst false xs) M := rfl
@[simp] theorem newB {xs : List D} (M : Mem) (h : frees xs = true) : newL true xs M = .ok (.ref M.length) (M ++ [.lst xs]) := if_pos h
theorem at_nat {α : Type} (xs : List α) (k : Nat) : atI xs (k : Int) = xs[k]? := by
  unfold atI ixN
  rw [if_pos (Int.natCast_nonneg k)]
  by_cases h : (k : Int) < xs.length
  · rw [if_pos h]; rfl
  · rw [if_neg h, List.getElem?_eq_none (by omega)]; rfl
@[simp] theorem ix_at (t : Bool) (xs : List D) (i : Int) : ixD (.lst t xs) (.int i) = atI xs i := rfl
@[simp] theorem ix_tup (xs : List D) (i : Int) : ixD (.tup xs) (.int i) = atI xs i := rfl
@[simp] theorem fr_nil : frees [] = true := rfl
@[simp] theorem fr_cons (d : D) (ds : List D) : frees (d :: ds) = (free d && frees ds) := rfl
@[simp] theorem fr_int (i : Int) : free (.int i) = true := rfl
@[simp] theorem fr_str (i : Str) : free (.str i) = true := rfl
@[simp] theorem fr_bl (i : Bool) : free (.bl i) = true := rfl
@[simp] theorem fr_non : free .non = true := rfl
@[simp] theorem fr_tup (xs : List D) : free (.tup xs) = frees xs := rfl
@[simp] theorem fr_lst (t : Bool) (xs : List D) : free (.lst t xs) = frees xs := rfl
@[simp] theorem cl_nil : cleans [] = true := rfl
@[simp] theorem cl_cons (d : D) (ds : List D) : cleans (d :: ds) = (clean d && cleans ds) := rfl
@[simp] theorem cl_int (i : Int) : clean (.int i) = true := rfl
@[simp] theorem cl_str (i : Str) : clean (.str i) = true := rfl
@[simp] theorem cl_bl (i : Bool) : clean (.bl i) = true := rfl
@[simp] theorem cl_non : clean .non = true := rfl
@[simp] theorem cl_tup (xs : List D) : clean (.tup xs) = cleans xs := rfl
@[simp] theorem cl_lst (t : Bool) (xs : List D) : clean (.lst t xs) = (!t && cleans xs) := rfl
@[simp] theorem ap_gnm (i : Nat) (d : D) (ρ : Env) : (gNm i).go d ρ = some (ρ.set i (some d)) := rfl
@[simp] theorem bLen_l (t : Bool) (xs : List D) (M : Mem) : bLen [.lst t xs] M = .ok (.int xs.length) M := rfl
@[simp] theorem bLen_t (xs : List D) (M : Mem) : bLen [.tup xs] M = .ok (.int xs.length) M := rfl
@[simp] theorem bInt_i (i : Int) (M : Mem) : bInt [.int i] M = .ok (.int i) M := rfl
@[simp] theorem bMax_i (i j : Int) (M : Mem) : bMax [.int i, .int j] M = .ok (.int (if j > i then j else i)) M := rfl
@[simp] theorem bMin_i (i j : Int) (M : Mem) : bMin [.int i, .int j] M = .ok (.int (if j < i then j else i)) M := rfl
@[simp] theorem is_ii (i : Int) : isB "int" (.int i) = some true := by show (isTab.find? fun p => p.1 == "int" && p.2.1 == "int").map (·.2.2) = some true; decide +kernel
@[simp] theorem is_bi (i : Int) : isB "bool" (.int i) = some false := by show (isTab.find? fun p => p.1 == "int" && p.2.1 == "bool").map (·.2.2) = some false; decide +kernel
@[simp] theorem is_tt (xs : List D) : isB "tuple" (.tup xs) = some true := by show (isTab.find? fun p => p.1 == "tuple" && p.2.1 == "tuple").map (·.2.2) = some true; decide +kernel
@[simp] theorem is_ll (t : Bool) (xs : List D) : isB "list" (.lst t xs) = some true := by show (isTab.find? fun p => p.1 == "list" && p.2.1 == "list").map (·.2.2) = some true; decide +kernel
@[simp] theorem tru_bl (b : Bool) : truB (.bl b) = some b := rfl
theorem fin_aux (d : D) (M : Mem) (n : Nat) (h : free d = true) : (if M.length ≤ n then R.ok d M else if free d = true then .ok d (M.take n) else .bad) = .ok d (M.take n) := by
  by_cases h1 : M.length ≤ n
  · rw [if_pos h1, List.take_of_length_le h1]
  · rw [if_neg h1, if_pos h]
@[simp] theorem fin_int (n : Nat) (i : Int) (ρ : Env) (M : Mem) : finD n (.ok (.rt (.int i)) ρ M) = .ok (.int i) (M.take n) := fin_aux _ M n rfl
@[simp] theorem fin_bl (n : Nat) (i : Bool) (ρ : Env) (M : Mem) : finD n (.ok (.rt (.bl i)) ρ M) = .ok (.bl i) (M.take n) := fin_aux _ M n rfl
@[simp] theorem fin_str (n : Nat) (i : Str) (ρ : Env) (M : Mem) : finD n (.ok (.rt (.str i)) ρ M) = .ok (.str i) (M.take n) := fin_aux _ M n rfl
@[simp] theorem fin_non (n : Nat) (ρ : Env) (M : Mem) : finD n (.ok (.rt .non) ρ M) = .ok .non (M.take n) := fin_aux _ M n rfl
@[simp] theorem fin_nx (n : Nat) (ρ : Env) (M : Mem) : finD n (.ok .nx ρ M) = .ok .non (M.take n) := rfl
@[simp] theorem fin_tup (n : Nat) (xs : List D) (ρ : Env) (M : Mem) (h : frees xs = true) : finD n (.ok (.rt (.tup xs)) ρ M) = .ok (.tup xs) (M.take n) := fin_aux _ M n h
@[simp] theorem fin_lst (n : Nat) (t : Bool) (xs : List D) (ρ : Env) (M : Mem) (h : frees xs = true) : finD n (.ok (.rt (.lst t xs)) ρ M) = .ok (.lst t xs) (M.take n) := fin_aux _ M n h
theorem fin_ref (n : Nat) (c : Cell) (m : Nat) (ρ : Env) (M : Mem) (h : n ≤ m) (e : M[m]? = some c) : finD n (.ok (.rt (.ref m)) ρ M) = .ok (.ref n) (M.take n ++ [c]) := by
  show (if m < n then R.ok (D.ref m) (M.take n) else match M[m]? with | some c => .ok (D.ref n) (M.take n ++ [c]) | none => .bad) = _
  rw [if_neg (by omega), e]
@[simp] theorem fin_bad (n : Nat) : finD n .bad = .bad := rfl
@[simp] theorem take_set_len (M : Mem) (n : Nat) (c : Cell) : (M.set n c).take M.length = M.set n c := List.take_of_length_le (by rw [List.length_set]; exact Nat.le_refl _)
/-- a for that cannot fail: the state behind so many items -/
theorem forL_inv {cal : Cal} {t : Tgt} {b : SDen} {chk : Mem → Prop} (I : Nat → Env → Mem → Prop) {ds : List D}
    (hs : ∀ i ρ M d, I i ρ M → ds[i]? = some d → chk M ∧ ∃ ρ1, t.go d ρ = some ρ1 ∧ ∃ ρ2 M2, (b cal ρ1 M = .ok .nx ρ2 M2 ∨ b cal ρ1 M = .ok .ct ρ2 M2) ∧ I (i + 1) ρ2 M2) (hc : ∀ ρ M, I ds.length ρ M → chk M) :
    ∀ {ρ : Env} {M : Mem}, I 0 ρ M → ∃ ρ' M', forL chk t b ds cal ρ M = .ok .nx ρ' M' ∧ I ds.length ρ' M' := by
  have key : ∀ k i ρ M, i + k = ds.length → I i ρ M → ∃ ρ' M', forL chk t b (ds.drop i) cal ρ M = .ok .nx ρ' M' ∧ I ds.length ρ' M' := by
    intro k
    induction k with
    | zero =>
      intro i ρ M hi h
      have e : i = ds.length := by omega
      subst e
      rw [List.drop_length]
      unfold forL
      rw [if_pos (hc ρ M h)]
      exact ⟨ρ, M, rfl, h⟩
    | succ k ih =>
      intro i ρ M hi h
      have hlt : i < ds.length := by omega
      rw [List.drop_eq_getElem_cons hlt]
      unfold forL
      obtain ⟨h1, ρ1, h2, ρ2, M2, h3, h4⟩ := hs i ρ M _ h (List.getElem?_eq_getElem hlt)
      rw [if_pos h1, h2]
      rcases h3 with h3 | h3
      · simp only [h3]; exact ih (i + 1) ρ2 M2 (by omega) h4
      · simp only [h3]; exact ih (i + 1) ρ2 M2 (by omega) h4
  intro ρ M h
  have := key ds.length 0 ρ M (by omega) h
  rwa [List.drop_zero] at this
theorem fmodB (a : Int) {b : Int} (h : 0 < b) : 0 ≤ a.fmod b ∧ a.fmod b < b := by
  rw [Int.fmod_eq_emod_of_nonneg a (Int.le_of_lt h)]
  exact ⟨Int.emod_nonneg _ (by omega), Int.emod_lt_of_pos _ h⟩
theorem cut_to (xs : List D) (k : Nat) : cutD xs none (some (k : Int)) = xs.take k := by
  unfold cutD
  rw [HT.sIx_none, HT.sIx_nat, List.drop_zero, Nat.sub_zero]
  by_cases h : k ≤ xs.length
  · rw [Nat.min_eq_left h]
  · rw [Nat.min_eq_right (by omega), List.take_of_length_le (Nat.le_refl _), List.take_of_length_le (by omega)]
theorem cut_from (xs : List D) (k : Nat) : cutD xs (some (k : Int)) none = xs.drop k := by
  unfold cutD
  rw [HT.sIx_none, HT.sIx_nat]
  by_cases h : k ≤ xs.length
  · rw [Nat.min_eq_left h, List.take_of_length_le (by rw [List.length_drop]; exact Nat.le_refl _)]
  · rw [Nat.min_eq_right (by omega), List.drop_of_length_le (Nat.le_refl _), List.drop_of_length_le (by omega)]
    exact List.take_nil
@[simp] theorem sl_lst (bx t : Bool) (xs : List D) (lo hi : Option Int) (M : Mem) : slD bx (.lst t xs) lo hi M = newL bx (cutD xs lo hi) M := rfl
@[simp] theorem sl_scr (bx : Bool) (xs : List D) (lo hi : Option Int) (M : Mem) : slD bx (.scr xs) lo hi M = newL bx (cutD xs lo hi) M := rfl
@[simp] theorem bList_l (bx t : Bool) (xs : List D) (M : Mem) : bList bx [.lst t xs] M = newL bx xs M := rfl
theorem add_l {t u : Bool} {xs ys : List D} (h : xs.length + ys.length ≤ sizeLine) : addD (.lst t xs) (.lst u ys) = some (.lst false (xs ++ ys)) := if_pos h
mutual
def nice : D → Nat → Bool
  | .non, _ => true
  | .bl _, _ => true
  | .int _, _ => true
  | .tup xs, n + 1 => nices xs n
  | .lst _ xs, n + 1 => nices xs n
  | _, _ => false
def nices : List D → Nat → Bool
  | [], _ => true
  | d :: ds, n => nice d n && nices ds n
end
mutual
theorem nice_P : ∀ (d : D) (n : Nat), nice d n = true → ∃ p, toP d = some p ∧ p.canLay0 = true ∧ p.depth ≤ n
  | .non, n, _ => ⟨_, rfl, rfl, Nat.zero_le _⟩
  | .bl b, n, _ => ⟨_, rfl, rfl, Nat.zero_le _⟩
  | .int b, n, _ => ⟨_, rfl, rfl, Nat.zero_le _⟩
  | .tup xs, 0, h => by cases h
  | .lst t xs, 0, h => by cases h
  | .tup xs, n + 1, h => by
    obtain ⟨ps, h1, h2, h3⟩ := nices_P xs n h
    exact ⟨.tuple ps, by unfold toP; rw [h1]; rfl, h2, Nat.succ_le_succ h3⟩
  | .lst t xs, n + 1, h => by
    obtain ⟨ps, h1, h2, h3⟩ := nices_P xs n h
    exact ⟨.list ps, by unfold toP; rw [h1]; rfl, h2, Nat.succ_le_succ h3⟩
  | .str _, n, h => by cases n <;> cases h
  | .scr _, n, h => by cases n <;> cases h
  | .dic _ _ _, n, h => by cases n <;> cases h
  | .obj _ _ _, n, h => by cases n <;> cases h
  | .err _ _ _, n, h => by cases n <;> cases h
  | .ref _, n, h => by cases n <;> cases h
theorem nices_P : ∀ (ds : List D) (n : Nat), nices ds n = true → ∃ ps, toPs ds = some ps ∧ PyData.canLayAll0 ps = true ∧ PyData.depthAll ps ≤ n
  | [], n, _ => ⟨_, rfl, rfl, Nat.zero_le _⟩
  | d :: ds, n, h => by
    obtain ⟨h1, h2⟩ := Bool.and_eq_true_iff.mp (show (nice d n && nices ds n) = true from h)
    obtain ⟨p, a1, a2, a3⟩ := nice_P d n h1
    obtain ⟨ps, b1, b2, b3⟩ := nices_P ds n h2
    exact ⟨p :: ps, by unfold toPs; rw [a1, b1], by show (p.canLay0 && PyData.canLayAll0 ps) = true; rw [a2, b2]; rfl, Nat.max_le.mpr ⟨a3, b3⟩⟩
end
theorem nice_sh {d : D} {n : Nat} (h : nice d n = true) (hn : n ≤ 64) : ∃ p, toP d = some p ∧ SeqAt.shaped p = true := by
  obtain ⟨p, h1, h2, h3⟩ := nice_P d n h
  exact ⟨p, h1, by unfold SeqAt.shaped; rw [h2, decide_eq_true (by omega : p.depth ≤ 64)]; rfl⟩
@[simp] theorem nice_int (i : Int) (n : Nat) : nice (.int i) n = true := by cases n <;> rfl
@[simp] theorem nices_nil (n : Nat) : nices [] n = true := rfl
@[simp] theorem nices_cons (d : D) (ds : List D) (n : Nat) : nices (d :: ds) n = (nice d n && nices ds n) := rfl
theorem nices_iff {ds : List D} {n : Nat} : nices ds n = true ↔ ∀ d ∈ ds, nice d n = true := by
  induction ds with
  | nil => exact ⟨fun _ _ h => absurd h List.not_mem_nil, fun _ => rfl⟩
  | cons d ds ih =>
    rw [nices_cons, Bool.and_eq_true, ih]
    exact ⟨fun h e he => (List.mem_cons.mp he).elim (fun z => z ▸ h.1) (h.2 e), fun h => ⟨h d List.mem_cons_self, fun e he => h e (List.mem_cons_of_mem _ he)⟩⟩
/-- a list and the empty list -/
theorem ne_nil {t u : Bool} {xs : List D} {n : Nat} (h : nices xs n = true) (hn : n < 64) : cmpB .NotEq (.lst t xs) (.lst u []) = some (!xs.isEmpty) := by
  obtain ⟨p, h1, h2⟩ := nice_sh (d := .lst t xs) (n := n + 1) h (by omega)
  show (eqB (.lst t xs) (.lst u [])).map (!·) = _
  have e : eqB (.lst t xs) (.lst u []) = some xs.isEmpty := by
    unfold eqB
    rw [h1, show toP (.lst u []) = some (.list []) from rfl]
    show (if SeqAt.shaped p = true ∧ SeqAt.shaped (.list []) = true then some (PyData.eqv p (.list [])) else none) = _
    rw [if_pos ⟨h2, rfl⟩]
    cases xs with
    | nil =>
      have : p = .list [] := (Option.some.inj h1).symm
      rw [this]; rfl
    | cons x xs =>
      unfold toP at h1
      obtain ⟨ps, h3, rfl⟩ := Option.map_eq_some_iff.mp h1
      obtain ⟨q, qs, _, _, rfl⟩ := toPs_cons h3
      rfl
  rw [e]; rfl
theorem nice_free {n : Nat} {d : D} (h : nice d n = true) : free d = true := by
  revert n
  exact nice_free' d
where
  nice_free' : ∀ (d : D) {n : Nat}, nice d n = true → free d = true
    | .non, _, _ => rfl
    | .bl _, _, _ => rfl
    | .int _, _, _ => rfl
    | .str _, _, _ => rfl
    | .tup xs, 0, h => by cases h
    | .lst t xs, 0, h => by cases h
    | .tup xs, n + 1, h => nices_free' xs (n := n) h
    | .lst t xs, n + 1, h => nices_free' xs (n := n) h
    | .scr _, n, h => by cases n <;> cases h
    | .dic _ _ _, n, h => by cases n <;> cases h
    | .obj _ _ _, n, h => by cases n <;> cases h
    | .err _ _ _, n, h => by cases n <;> cases h
    | .ref _, n, h => by cases n <;> cases h
  nices_free' : ∀ (ds : List D) {n : Nat}, nices ds n = true → frees ds = true
    | [], _, _ => rfl
    | d :: ds, n, h => by
      obtain ⟨h1, h2⟩ := Bool.and_eq_true_iff.mp (show (nice d n && nices ds n) = true from h)
      exact Bool.and_eq_true_iff.mpr ⟨nice_free' d h1, nices_free' ds h2⟩
theorem nices_free {n : Nat} {ds : List D} (h : nices ds n = true) : frees ds = true := nice_free.nices_free' ds h
theorem while_go {c : DenB} {b : SDen} {n : Nat} {cal : Cal} {ρ ρ2 : Env} {M M1 M2 : Mem} (h : c cal ρ M = .ok true M1) (g : b cal ρ M1 = .ok .nx ρ2 M2) : whileL c b (n + 1) cal ρ M = whileL c b n cal ρ2 M2 := by
  show SR.of (c cal ρ M) ρ _ = _
  rw [h, SR.of_ok, if_pos rfl, g]
theorem while_end {c : DenB} {b : SDen} {n : Nat} {cal : Cal} {ρ : Env} {M M1 : Mem} (h : c cal ρ M = .ok false M1) : whileL c b (n + 1) cal ρ M = .ok .nx ρ M1 := by
  show SR.of (c cal ρ M) ρ _ = _
  rw [h, SR.of_ok, if_neg (by decide)]
theorem set_self {α : Type} {l : List α} {n : Nat} {x : α} (h : l[n]? = some x) : l.set n x = l := by
  obtain ⟨h1, h2⟩ := List.getElem?_eq_some_iff.mp h
  subst h2
  exact List.set_getElem_self h1
theorem rg1_int {fs : Dens} {cal : Cal} {ρ : Env} {M M1 : Mem} {m : Int} (h : fs cal ρ M = .ok [.int m] M1) (hm : rgOk m) : iRg1 fs cal ρ M = .ok ⟨(List.range m.toNat).map fun i => .int (i : Nat), fun _ => True⟩ M1 := by
  unfold iRg1
  rw [h]
  exact if_pos hm
theorem rg1_nat {fs : Dens} {cal : Cal} {ρ : Env} {M M1 : Mem} {m : Nat} (h : fs cal ρ M = .ok [.int (m : Int)] M1) (hm : m ≤ 1000000) : iRg1 fs cal ρ M = .ok ⟨(List.range m).map fun i => .int (i : Nat), fun _ => True⟩ M1 :=
  rg1_int (m := (m : Int)) h (rgOk_of (by omega) (by omega))
theorem comp_nil {chk : Mem → Prop} {t : Tgt} {c : DenB} {e : Den} {cal : Cal} {ρ : Env} {M : Mem} (h : chk M) : compL chk t c e [] cal ρ M = .ok [] M := by
  unfold compL
  exact if_pos h
theorem comp_yes {chk : Mem → Prop} {t : Tgt} {c : DenB} {e : Den} {cal : Cal} {ρ ρ1 : Env} {M M1 M2 M3 : Mem} {d y : D} {ds ys : List D} (h : chk M) (h1 : t.go d ρ = some ρ1) (h2 : c cal ρ1 M = .ok true M1) (h3 : e cal ρ1 M1 = .ok y M2) (h4 : compL chk t c e ds cal ρ M2 = .ok ys M3) :
    compL chk t c e (d :: ds) cal ρ M = .ok (y :: ys) M3 := by
  unfold compL
  rw [if_pos h, h1]
  simp [h2, h3, h4]
theorem comp_no {chk : Mem → Prop} {t : Tgt} {c : DenB} {e : Den} {cal : Cal} {ρ ρ1 : Env} {M M1 M3 : Mem} {d : D} {ds ys : List D} (h : chk M) (h1 : t.go d ρ = some ρ1) (h2 : c cal ρ1 M = .ok false M1) (h4 : compL chk t c e ds cal ρ M1 = .ok ys M3) :
    compL chk t c e (d :: ds) cal ρ M = .ok ys M3 := by
  unfold compL
  rw [if_pos h, h1]
  simp [h2, h4]
theorem comp_fm {chk : Mem → Prop} {t : Tgt} {c : DenB} {e : Den} {cal : Cal} {ρ : Env} {M : Mem} (pp : D → Bool) (g : D → D) (hk : chk M) : ∀ {ds : List D}, (∀ d ∈ ds, ∃ ρ1, t.go d ρ = some ρ1 ∧ c cal ρ1 M = .ok (pp d) M ∧ (pp d = true → e cal ρ1 M = .ok (g d) M)) →
    compL chk t c e ds cal ρ M = .ok ((ds.filter pp).map g) M
  | [], _ => comp_nil hk
  | d :: ds, h => by
    obtain ⟨ρ1, h1, h2, h3⟩ := h d List.mem_cons_self
    have ih := comp_fm pp g hk (ds := ds) fun e he => h e (List.mem_cons_of_mem _ he)
    by_cases hp : pp d = true
    · rw [List.filter_cons_of_pos hp, List.map_cons]
      exact comp_yes hk h1 (by rw [h2, hp]) (h3 hp) ih
    · have hp' : pp d = false := by simpa using hp
      rw [List.filter_cons_of_neg hp]
      exact comp_no hk h1 (by rw [h2, hp']) ih
/-- the truth of a test on a memory that stays -/
@[simp] theorem src_l (M : Mem) (t : Bool) (xs : List D) : srcD M (.lst t xs) = some ⟨xs, fun _ => True⟩ := rfl
@[simp] theorem src_t (M : Mem) (xs : List D) : srcD M (.tup xs) = some ⟨xs, fun _ => True⟩ := rfl
@[simp] theorem src_s (M : Mem) (xs : List D) : srcD M (.scr xs) = some ⟨xs, fun _ => True⟩ := rfl
@[simp] theorem lift_i (M : Mem) (i : Int) : lift M (.ok (.int i) []) = .ok (.int i) M := rfl
@[simp] theorem lift_b (M : Mem) (i : Bool) : lift M (.ok (.bl i) []) = .ok (.bl i) M := rfl
@[simp] theorem lift_n (M : Mem) : lift M (.ok .non []) = .ok .non M := rfl
theorem lift_l {M : Mem} {xs : List D} (h : cleans xs = true) : lift M (.ok (.lst false xs) []) = .ok (.lst false xs) M := by
  show (if clean (.lst false xs) = true then _ else _) = _
  exact if_pos h
theorem lift_r {M : Mem} {xs : List D} (h : cleans xs = true) : lift M (.ok (.ref 0) [.lst xs]) = .ok (.ref M.length) (M ++ [.lst xs]) := if_pos h
theorem toPs_ints : ∀ ns : List Int, toPs (ns.map D.int) = some (ns.map PyData.int)
  | [] => rfl
  | n :: ns => by
    show toPs (D.int n :: ns.map D.int) = _
    unfold toPs
    rw [toPs_ints ns]; rfl
theorem shaped_ints (ns : List Int) : SeqAt.shaped (.list (ns.map PyData.int)) = true := by
  have h1 : ∀ ns : List Int, PyData.canLayAll0 (ns.map PyData.int) = true := fun ns => by
    induction ns with
    | nil => rfl
    | cons n ns ih => show (true && PyData.canLayAll0 (ns.map PyData.int)) = true; rw [ih]; rfl
  have h2 : ∀ ns : List Int, PyData.depthAll (ns.map PyData.int) = 0 := fun ns => by
    induction ns with
    | nil => rfl
    | cons n ns ih => show max 0 (PyData.depthAll (ns.map PyData.int)) = 0; rw [ih]; rfl
  unfold SeqAt.shaped
  rw [show (PyData.list (ns.map PyData.int)).canLay0 = true from h1 ns]
  have : (PyData.list (ns.map PyData.int)).depth = 1 := by show PyData.depthAll (ns.map PyData.int) + 1 = 1; rw [h2]
  rw [this]; rfl
theorem eqv_i (i j : Int) : PyData.eqv (.int i) (.int j) = decide (i = j) := Option.some.inj (eq_i i j)
theorem mem_ints (x : Int) (ns : List Int) (t : Bool) : memB (.int x) (.lst t (ns.map D.int)) = some (decide (x ∈ ns)) := by
  unfold memB
  show (match toP (.int x), toPs (ns.map D.int) with | some p, some q => if SeqAt.shaped p = true ∧ SeqAt.shaped (.list q) = true then some (q.any fun z => PyData.eqv z p) else none | _, _ => none) = _
  rw [toPs_ints]
  show (if SeqAt.shaped (.int x) = true ∧ SeqAt.shaped (.list (ns.map PyData.int)) = true then some ((ns.map PyData.int).any fun z => PyData.eqv z (.int x)) else none) = _
  rw [if_pos ⟨rfl, shaped_ints ns⟩]
  congr 1
  rw [List.any_map]
  induction ns with
  | nil => rfl
  | cons n ns ih =>
    rw [List.any_cons, ih]
    show (PyData.eqv (.int n) (.int x) || decide (x ∈ ns)) = decide (x ∈ n :: ns)
    rw [eqv_i]
    by_cases h : n = x
    · subst h; simp
    · by_cases h2 : x ∈ ns
      · simp [h2]
      · simp [h, h2, Ne.symm h]
@[simp] theorem cNotIn_i (x : Int) (ns : List Int) (t : Bool) : cmpB .NotIn (.int x) (.lst t (ns.map D.int)) = some (decide (x ∉ ns)) := by
  show (memB (.int x) (.lst t (ns.map D.int))).map (!·) = _
  rw [mem_ints]
  show some (!decide (x ∈ ns)) = _
  rw [decide_not]
@[simp] theorem cIn_i (x : Int) (ns : List Int) (t : Bool) : cmpB .In (.int x) (.lst t (ns.map D.int)) = some (decide (x ∈ ns)) := mem_ints x ns t
theorem cleans_ints (ns : List Int) : cleans (ns.map D.int) = true := by
  induction ns with
  | nil => rfl
  | cons z zs ih => show (true && cleans (zs.map D.int)) = true; rw [ih]; rfl
/-- unlike ints below n are at most n -/
theorem nodup_le : ∀ (n : Nat) (l : List Int), l.Nodup → (∀ x ∈ l, 0 ≤ x ∧ x < n) → l.length ≤ n
  | 0, l, _, h => by
    cases l with
    | nil => exact Nat.le_refl _
    | cons x xs =>
      have := h x List.mem_cons_self
      omega
  | n + 1, l, hd, h => by
    by_cases hn : (n : Int) ∈ l
    · have ih := nodup_le n (l.erase (n : Int)) (hd.erase _) fun x hx => by
        have hx2 := (hd.mem_erase_iff).mp hx
        have := h x hx2.2
        have := hx2.1
        omega
      rw [List.length_erase_of_mem hn] at ih
      omega
    · have ih := nodup_le n l hd fun x hx => by
        have := h x hx
        have : x ≠ (n : Int) := fun z => hn (z ▸ hx)
        omega
      omega
end Vm

namespace Vm
open PySem PySem.Spec L2
def NTake : List Str := ["jar", "many", "heap", "turn", "rest", "grain"]
noncomputable def dTakeB : SDen := (sSeq (sSet 5 (cBin modD (cBlt bInt (aCons (cBin mulD (cBin addD (cBin addD (cIx (cVar 0) (cC (.int 2))) (cBin mulD (cC (.int 11)) (cVar 3))) (cC (.int 5))) (cBin addD (cBin addD (cIx (cVar 0) (cC (.int 1))) (cBin mulD (cC (.int 70001)) (cIx (cVar 0) (cC (.int 2))))) (cC (.int 3)))) aNil)) (cC (.int 2147483629)))) (sSeq (sSet 5 (cBin modD (cBlt bInt (aCons (cBin addD (cBin addD (cBin mulD (cVar 5) (cVar 5)) (cBin mulD (cC (.int 90001)) (cIx (cVar 0) (cC (.int 1))))) (cVar 3)) aNil)) (cC (.int 2147483587)))) (sSeq (sSet 5 (cBin modD (cBlt bInt (aCons (cBin mulD (cVar 5) (cVar 5)) aNil)) (cC (.int 2147483563)))) (sSet 2 (cBin addD (cBin mulD (cVar 2) (cC (.int 99999989))) (cBin divD (cVar 5) (cC (.int 16))))))))
noncomputable def dTake : SDen :=
  (sSeq (sIf (tCmp .Gt (cIx (cVar 0) (cC (.int 0))) (cC (.int 1))) (sSeq (sSet 4 (cIx (cVar 0) (cC (.int 0)))) (sSeq (sSetIx (cVar 0) (cC (.int 0)) (cBin divD (cVar 4) (cVar 1))) (sRet (cBin modD (cBlt bInt (aCons (cVar 4) aNil)) (cVar 1))))) sNil) (sSeq (sSetIx (cVar 0) (cC (.int 1)) (cBin addD (cIx (cVar 0) (cC (.int 1))) (cC (.int 1)))) (sSeq (sSet 2 (cC (.int 0))) (sSeq (sFor (gNm 3) (iRg1 (aCons (cBin addD (cC (.int 1)) (cBin divD (cBlt bLen (aCons (cBlt bStr (aCons (cVar 1) aNil)) aNil)) (cC (.int 8)))) aNil)) dTakeB) (sRet (cBin modD (cBlt bInt (aCons (cVar 2) aNil)) (cVar 1)))))))
theorem at0 {α : Type} (x : α) (xs : List α) : atI (x :: xs) 0 = some x := at_nat (x :: xs) 0
theorem at1 {α : Type} (x y : α) (xs : List α) : atI (x :: y :: xs) 1 = some y := at_nat (x :: y :: xs) 1
theorem at2 {α : Type} (x y z : α) (xs : List α) : atI (x :: y :: z :: xs) 2 = some z := at_nat (x :: y :: z :: xs) 2
theorem take_hot (cal : Cal) {M : Mem} {n : Nat} {a b c many : Int} (hM : M[n]? = some (.lst [.int a, .int b, .int c])) (ha : 1 < a) (h1 : 1 ≤ many) (h2 : many < 2 ^ 30) :
    fnD NTake dTake [.ref n, .int many] M cal = .ok (.int (a.fmod many)) (M.set n (.lst [.int (a.fdiv many), .int b, .int c])) := by
  have hd : divOk many := .inl ⟨by omega, by omega⟩
  have hm : many ≠ 0 := by omega
  simp [fnD, dTake, startD, NTake, view_ref', hM, at0, ha, setD, ixN, hd, hm]
/-- how many turns: at most as many as digits -/
theorem turns_ok (many : Int) (h1 : 1 ≤ many) (h2 : many < 2 ^ 30) : many.natAbs.log2 < 1920 := by
  have : many.natAbs < 2 ^ 30 := by omega
  have := (Nat.log2_lt (n := many.natAbs) (k := 30) (by omega)).mpr this
  omega
theorem turn_ok (cal : Cal) {M : Mem} {n : Nat} {a b c many heap : Int} {y z : Option D} {k : Nat} (hM : M[n]? = some (.lst [.int a, .int b, .int c])) (hc : 0 ≤ c) (hc2 : c < 2 ^ 31) (hk : k < 2 ^ 24) :
    ∃ (h' g : Int), dTakeB cal [some (.ref n), some (.int many), some (.int heap), some (.int (k : Nat)), y, z] M = .ok .nx [some (.ref n), some (.int many), some (.int h'), some (.int (k : Nat)), y, some (.int g)] M := by
  have o1 : mulOk 11 (k : Int) := .inl (.inl (by decide))
  have o2 : mulOk 70001 c := .inl (.inl (by decide))
  have o3 : mulOk (c + 11 * (k : Int) + 5) (b + 70001 * c + 3) := .inl (.inl (by omega))
  generalize hg1 : ((c + 11 * (k : Int) + 5) * (b + 70001 * c + 3)).fmod 2147483629 = g1
  have b1 : 0 ≤ g1 ∧ g1 < 2147483629 := by rw [← hg1]; exact fmodB _ (by decide)
  have o4 : mulOk g1 g1 := .inl (.inl (by omega))
  have o5 : mulOk 90001 b := .inl (.inl (by decide))
  generalize hg2 : (g1 * g1 + 90001 * b + (k : Int)).fmod 2147483587 = g2
  have b2 : 0 ≤ g2 ∧ g2 < 2147483587 := by rw [← hg2]; exact fmodB _ (by decide)
  have o6 : mulOk g2 g2 := .inl (.inl (by omega))
  have o7 : mulOk heap 99999989 := .inl (.inr (by decide))
  have o8 : divOk 16 := .inl ⟨by decide, by decide⟩
  refine ⟨heap * 99999989 + ((g2 * g2).fmod 2147483563).fdiv 16, (g2 * g2).fmod 2147483563, ?_⟩
  simp [dTakeB, view_ref', hM, at0, at1, at2, o1, o2, o3, hg1, o4, o5, hg2, o6, o7, o8]
/-- a draw: below many; the jar stays a jar -/
theorem take_ok (cal : Cal) {M : Mem} {n : Nat} {a b c many : Int} (hM : M[n]? = some (.lst [.int a, .int b, .int c])) (hc : 0 ≤ c) (hc2 : c < 2 ^ 31) (h1 : 1 ≤ many) (h2 : many < 2 ^ 30) :
    ∃ r a' b', 0 ≤ r ∧ r < many ∧ fnD NTake dTake [.ref n, .int many] M cal = .ok (.int r) (M.set n (.lst [.int a', .int b', .int c])) := by
  by_cases ha : 1 < a
  · exact ⟨_, _, _, (fmodB a (by omega)).1, (fmodB a (by omega)).2, take_hot cal hM ha h1 h2⟩
  · have hm : many ≠ 0 := by omega
    have d8 : divOk 8 := .inl ⟨by decide, by decide⟩
    have hlog := turns_ok many h1 h2
    have hn : n < M.length := (List.getElem?_eq_some_iff.mp hM).1
    have hM2 : (M.set n (.lst [.int a, .int (b + 1), .int c]))[n]? = some (.lst [.int a, .int (b + 1), .int c]) := List.getElem?_set_self hn
    generalize hM3 : M.set n (.lst [.int a, .int (b + 1), .int c]) = M2 at hM2
    have hl : M2.length = M.length := by rw [← hM3, List.length_set]
    have hL : (Str.ofString many.repr).length ≤ sizeLine := PySem.int_text_fits hlog
    rw [sizeLine_eq] at hL
    generalize hs : ((Str.ofString many.repr).length : Int).fdiv 8 = q
    have hq : 0 ≤ q ∧ q < 2 ^ 23 := by
      rw [← hs, Int.fdiv_eq_ediv_of_nonneg _ (by decide)]
      omega
    obtain ⟨ρ', M', hf, ⟨h', t, z, rfl⟩, rfl⟩ := forL_inv (cal := cal) (t := gNm 3) (b := dTakeB) (chk := fun _ => True) (fun i ρ M' => (∃ (h : Int) (t z : Option D), ρ = [some (.ref n), some (.int many), some (.int h), t, none, z]) ∧ M' = M2)
      (ds := (List.range (1 + q).toNat).map fun i => .int (i : Nat)) (fun i ρ M' d h hd => by
        obtain ⟨⟨h, t, z, rfl⟩, rfl⟩ := h
        rw [List.getElem?_map] at hd
        obtain ⟨k, hk, rfl⟩ := Option.map_eq_some_iff.mp hd
        obtain ⟨hk1, hk2⟩ := List.getElem?_eq_some_iff.mp hk
        rw [List.length_range] at hk1
        rw [List.getElem_range] at hk2
        subst hk2
        obtain ⟨h', g, e⟩ := turn_ok cal (many := many) (heap := h) (y := none) (z := z) (k := i) hM2 hc hc2 (by omega)
        exact ⟨trivial, _, rfl, _, _, .inl e, ⟨_, _, _, rfl⟩, rfl⟩) (fun _ _ _ => trivial) (ρ := [some (.ref n), some (.int many), some (.int 0), none, none, none]) (M := M2) ⟨⟨_, _, _, rfl⟩, rfl⟩
    refine ⟨h'.fmod many, a, b + 1, (fmodB h' (by omega)).1, (fmodB h' (by omega)).2, ?_⟩
    have hr : rgOk (1 + q) := rgOk_of (by omega) (by omega)
    simp [fnD, dTake, startD, NTake, view_ref', hM, at0, at1, ha, setD, ixN, hM3, bStr, hlog, bLen, hL, sizeLine_eq, d8, hs, hf, hr, hm]
    rw [← hl, List.take_length]
/-- a jar's cell -/
def JarC (x : Cell) : Prop := ∃ a b c : Int, x = .lst [.int a, .int b, .int c] ∧ 0 ≤ c ∧ c < 2 ^ 31
section
variable {t : Tbl} {iT iE iM iP : Nat}
theorem take_sp (hT : t iT = some (NTake, dTake)) (k : Nat) {M : Mem} {n : Nat} {x : Cell} {many : Int} (hM : M[n]? = some x) (hx : JarC x) (h1 : 1 ≤ many) (h2 : many < 2 ^ 30) :
    ∃ (r : Int) (x' : Cell), 0 ≤ r ∧ r < many ∧ JarC x' ∧ callN t (k + 1) iT [.ref n, .int many] M = .ok (.int r) (M.set n x') := by
  obtain ⟨a, b, c, rfl, hc, hc2⟩ := hx
  obtain ⟨r, a', b', h3, h4, h5⟩ := take_ok (callN t k) hM hc hc2 h1 h2
  refine ⟨r, _, h3, h4, ⟨a', b', c, rfl, hc, hc2⟩, ?_⟩
  show (match t iT with | some (N, body) => fnD N body [.ref n, .int many] M (callN t k) | none => .bad) = _
  rw [hT]
  exact h5
/-- the same as a natural number -/
theorem take_nat (hT : t iT = some (NTake, dTake)) (k : Nat) {M : Mem} {n : Nat} {x : Cell} {many : Int} (hM : M[n]? = some x) (hx : JarC x) (h1 : 1 ≤ many) (h2 : many < 2 ^ 30) :
    ∃ (r : Nat) (x' : Cell), (r : Int) < many ∧ JarC x' ∧ callN t (k + 1) iT [.ref n, .int many] M = .ok (.int (r : Int)) (M.set n x') := by
  obtain ⟨r, x', h3, h4, h5, h6⟩ := take_sp hT k hM hx h1 h2
  obtain ⟨q, rfl⟩ := Int.eq_ofNat_of_zero_le h3
  exact ⟨q, x', h4, h5, h6⟩
theorem setA {M : Mem} {n : Nat} (h : n < M.length) (x y : Cell) : (M ++ [y]).set n x = M.set n x ++ [y] := by
  rw [List.set_append_left _ _ h]
theorem getA {M : Mem} (y : Cell) : (M ++ [y])[M.length]? = some y := List.getElem?_concat_length ..
theorem getB {M : Mem} {n : Nat} {x : Cell} (y : Cell) (h : M[n]? = some x) : (M ++ [y])[n]? = some x := by
  rw [List.getElem?_append_left (List.getElem?_eq_some_iff.mp h).1]; exact h
theorem lt_of {M : Mem} {n : Nat} {x : Cell} (h : M[n]? = some x) : n < M.length := (List.getElem?_eq_some_iff.mp h).1
theorem setC {M : Mem} (x y : Cell) : (M ++ [y]).set M.length x = M ++ [x] := by
  rw [List.set_append_right _ _ (Nat.le_refl _), Nat.sub_self]; rfl
theorem get_set {M : Mem} {n : Nat} {x : Cell} (h : n < M.length) : (M.set n x)[n]? = some x := List.getElem?_set_self h

def NEither : List Str := ["jar", "one", "two"]
noncomputable def dEither (iT : Nat) : SDen :=
  (sSeq (sIf (tCmp .Eq (cCall iT 2 (aCons (cVar 0) (aCons (cC (.int 2)) aNil))) (cC (.int 1))) (sRet (cTup (aCons (cVar 1) (aCons (cVar 2) aNil)))) sNil) (sRet (cTup (aCons (cVar 2) (aCons (cVar 1) aNil)))))
theorem two_le : 2 ≤ sizeLine := by rw [sizeLine_eq]; decide
theorem either_sp (hT : t iT = some (NTake, dTake)) (hE : t iE = some (NEither, dEither iT)) (k : Nat) {M : Mem} {n : Nat} {x : Cell} {d1 d2 : D} (hM : M[n]? = some x) (hx : JarC x) (f1 : free d1 = true) (f2 : free d2 = true) :
    ∃ (d : D) (x' : Cell), (d = .tup [d1, d2] ∨ d = .tup [d2, d1]) ∧ JarC x' ∧ callN t (k + 2) iE [.ref n, d1, d2] M = .ok d (M.set n x') := by
  obtain ⟨r, x', h1, h2, h3⟩ := take_nat hT k hM hx (many := 2) (by decide) (by decide)
  have hc : callN t (k + 2) iE [.ref n, d1, d2] M = fnD NEither (dEither iT) [.ref n, d1, d2] M (callN t (k + 1)) := by
    show (match t iE with | some (N, body) => fnD N body [.ref n, d1, d2] M (callN t (k + 1)) | none => .bad) = _
    rw [hE]
  have tl := two_le
  by_cases hr : r = 1
  · refine ⟨_, x', .inl rfl, h2, ?_⟩
    rw [hc]
    subst hr
    simp [fnD, dEither, startD, NEither, h3, tl, f1, f2]
  · refine ⟨_, x', .inr rfl, h2, ?_⟩
    rw [hc]
    have hr' : ¬ ((r : Int) = 1) := by omega
    simp [fnD, dEither, startD, NEither, h3, tl, f1, f2, hr']

def NMixed : List Str := ["jar", "rows", "left", "made", "spot"]
noncomputable def dMixedB (iT : Nat) : SDen := (sSeq (sSet 4 (cCall iT 2 (aCons (cVar 0) (aCons (cBlt bLen (aCons (cVar 2) aNil)) aNil)))) (sSeq (sExpr (cMt mAppend (cVar 3) (aCons (cIx (cVar 2) (cVar 4)) aNil))) (sSet 2 (cBin addD (cSl false (cVar 2) oNone (oSome (cVar 4))) (cSl false (cVar 2) (oSome (cBin addD (cVar 4) (cC (.int 1)))) oNone)))))
noncomputable def dMixed (iT : Nat) : SDen :=
  (sSeq (sSet 2 (cBlt (bList false) (aCons (cVar 1) aNil))) (sSeq (sSet 3 (cLst true aNil)) (sSeq (whileL (tCmp .NotEq (cVar 2) (cLst false aNil)) (dMixedB iT) 100000) (sRet (cVar 3)))))
theorem perm_pick {α : Type} {xs : List α} {r : Nat} {d : α} (h : xs[r]? = some d) : (d :: (xs.take r ++ xs.drop (r + 1))).Perm xs := by
  obtain ⟨h1, h2⟩ := List.getElem?_eq_some_iff.mp h
  have e : xs = xs.take r ++ d :: xs.drop (r + 1) := by
    rw [← h2, List.getElem_cons_drop, List.take_append_drop]
  conv => rhs; rw [e]
  exact (List.perm_middle).symm
theorem mixed_loop (hT : t iT = some (NTake, dTake)) (k : Nat) {nn : Nat} (hnn : nn < 64) {rows : D} : ∀ (fuel : Nat) (xs made : List D) (M : Mem) (n : Nat) (x : Cell) (y : Option D), xs.length < fuel → M[n]? = some x → JarC x → nices xs nn = true → nices made nn = true → xs.length + made.length ≤ 100000 →
    ∃ (ys : List D) (x' : Cell) (z : Option D), ys.Perm (made ++ xs) ∧ JarC x' ∧ whileL (tCmp .NotEq (cVar 2) (cLst false aNil)) (dMixedB iT) fuel (callN t (k + 1)) [some (.ref n), some rows, some (.lst false xs), some (.ref M.length), y] (M ++ [.lst made]) =
      .ok .nx [some (.ref n), some rows, some (.lst false []), some (.ref M.length), z] (M.set n x' ++ [.lst ys])
  | 0, xs, made, M, n, x, y, h, _, _, _, _, _ => absurd h (Nat.not_lt_zero _)
  | fuel + 1, [], made, M, n, x, y, h, hM, hx, _, _, _ => by
    refine ⟨made, x, y, by rw [List.append_nil], hx, ?_⟩
    have e : M.set n x = M := set_self hM
    have z := ne_nil (t := false) (u := false) (xs := []) (n := nn) rfl hnn
    rw [e]
    exact while_end (by simp [z])
  | fuel + 1, d0 :: xs0, made, M, n, x, y, h, hM, hx, hf, hg, hz => by
    generalize hxs : d0 :: xs0 = xs at *
    have hl : 1 ≤ xs.length := by rw [← hxs]; simp
    have hs : 100000 ≤ sizeLine := by rw [sizeLine_eq]; decide
    have hn := lt_of hM
    obtain ⟨r, x1, h1, h2, h3⟩ := take_nat hT k (M := M ++ [.lst made]) (getB _ hM) hx (many := (xs.length : Int)) (by omega) (by omega)
    rw [setA hn] at h3
    have hr : r < xs.length := by omega
    have hd := List.getElem?_eq_getElem hr
    generalize xs[r] = d at hd
    have pm := perm_pick hd
    have hl2 : (xs.take r ++ xs.drop (r + 1)).length + 1 = xs.length := by
      have := pm.length_eq
      rw [List.length_cons] at this
      exact this
    have hnl : (M.set n x1).length = M.length := List.length_set
    have fr2 : nices (xs.take r ++ xs.drop (r + 1)) nn = true := nices_iff.mpr fun e he => nices_iff.mp hf e (pm.mem_iff.mp (List.mem_cons_of_mem _ he))
    have fd : nice d nn = true := nices_iff.mp hf d (pm.mem_iff.mp List.mem_cons_self)
    have fr3 : nices (made ++ [d]) nn = true := nices_iff.mpr fun e he => by
      rcases List.mem_append.mp he with q | q
      · exact nices_iff.mp hg e q
      · rw [List.mem_singleton.mp q]; exact fd
    obtain ⟨ys, x2, z, p1, p2, p3⟩ := mixed_loop hT k hnn (rows := rows) fuel (xs.take r ++ xs.drop (r + 1)) (made ++ [d]) (M.set n x1) n x1 (some (.int (r : Int))) (by omega) (get_set hn) h2 fr2 fr3 (by rw [List.length_append]; simp; omega)
    refine ⟨ys, x2, z, p1.trans ?_, p2, ?_⟩
    · rw [List.append_assoc]
      exact List.Perm.append_left made pm
    · have zz := ne_nil (t := false) (u := false) hf hnn
      have ne : xs.isEmpty = false := by rw [← hxs]; rfl
      rw [ne] at zz
      have ff : frees (made ++ [d]) = true := nices_free fr3
      have at1 : atI xs (r : Int) = some d := by rw [at_nat]; exact hd
      have c1 := cut_to xs r
      have c2 : cutD xs (some ((r : Int) + 1)) none = xs.drop (r + 1) := cut_from xs (r + 1)
      have la : (xs.take r).length + (xs.drop (r + 1)).length ≤ sizeLine := by rw [← List.length_append]; omega
      have ga : (M.set n x1 ++ [.lst made])[M.length]? = some (.lst made) := by rw [← hnl]; exact getA _
      have sa : (M.set n x1 ++ [Cell.lst made]).set M.length (Cell.lst (made ++ [d])) = M.set n x1 ++ [Cell.lst (made ++ [d])] := by rw [← hnl]; exact setC _ _
      have hm : made.length < sizeLine := by omega
      rw [hnl] at p3
      rw [List.set_set] at p3
      have b : dMixedB iT (callN t (k + 1)) [some (.ref n), some rows, some (.lst false xs), some (.ref M.length), y] (M ++ [.lst made]) = .ok .nx [some (.ref n), some rows, some (.lst false (xs.take r ++ xs.drop (r + 1))), some (.ref M.length), some (.int (r : Int))] (M.set n x1 ++ [.lst (made ++ [d])]) := by
        simp [dMixedB, h3, isL, ga, at1, mtD, mAppend, hm, ff, sa, c1, c2, add_l la]
      rw [while_go (by simp [zz]) b]
      exact p3
theorem mixed_sp (hT : t iT = some (NTake, dTake)) (hMx : t iM = some (NMixed, dMixed iT)) (k : Nat) {nn : Nat} (hnn : nn < 64) {M : Mem} {n : Nat} {x : Cell} {rows : D} {b : Bool} {xs : List D} (hM : M[n]? = some x) (hx : JarC x) (hv : view M rows = .lst b xs) (hf : nices xs nn = true) (hz : xs.length ≤ 10000) :
    ∃ (ys : List D) (x' : Cell), ys.Perm xs ∧ JarC x' ∧ callN t (k + 2) iM [.ref n, rows] M = .ok (.ref M.length) (M.set n x' ++ [.lst ys]) := by
  obtain ⟨ys, x', z, p1, p2, p3⟩ := mixed_loop hT k hnn (rows := rows) 100000 xs [] M n x none (by omega) hM hx hf rfl (by simp; omega)
  refine ⟨ys, x', p1, p2, ?_⟩
  have hc : callN t (k + 2) iM [.ref n, rows] M = fnD NMixed (dMixed iT) [.ref n, rows] M (callN t (k + 1)) := by
    show (match t iM with | some (N, body) => fnD N body [.ref n, rows] M (callN t (k + 1)) | none => .bad) = _
    rw [hMx]
  rw [hc]
  have hnl : (M.set n x').length = M.length := List.length_set
  have fr := fin_ref M.length (.lst ys) M.length [some (.ref n), some rows, some (.lst false []), some (.ref M.length), z] (M.set n x' ++ [.lst ys]) (Nat.le_refl _) (by rw [← hnl]; exact getA _)
  have tk : (M.set n x' ++ [Cell.lst ys]).take M.length = M.set n x' := by rw [← hnl]; exact List.take_left
  rw [tk] at fr
  have nb := newB (xs := []) M rfl
  simp [fnD, dMixed, startD, NMixed, hv, nb, p3, fr]
end
end Vm

namespace Vm
open PySem PySem.Spec L2

/-- a pair of shafts as data -/
def pD (p : Int × Int) : D := .tup [.int p.1, .int p.2]
structure OkP (span : Int) (p : Int × Int) : Prop where
  a0 : 0 ≤ p.1
  a1 : p.1 ≤ span
  b0 : 0 ≤ p.2
  b1 : p.2 ≤ span
  ne : p.1 ≠ p.2
@[simp] theorem pD_free (p : Int × Int) : free (pD p) = true := rfl
@[simp] theorem pD_clean (p : Int × Int) : clean (pD p) = true := rfl
theorem pD_nice (p : Int × Int) : nice (pD p) 1 = true := rfl
theorem pDs_nice (ps : List (Int × Int)) : nices (ps.map pD) 1 = true := nices_iff.mpr fun d hd => by
  obtain ⟨p, _, rfl⟩ := List.mem_map.mp hd
  rfl
theorem pDs_free (ps : List (Int × Int)) : frees (ps.map pD) = true := nices_free (pDs_nice ps)
theorem pDs_clean (ps : List (Int × Int)) : cleans (ps.map pD) = true := by
  induction ps with
  | nil => rfl
  | cons p ps ih => show (clean (pD p) && cleans (ps.map pD)) = true; rw [ih]; rfl
theorem perm_map {α β : Type} {f : α → β} : ∀ {ys : List β} {xs : List α}, ys.Perm (xs.map f) → ∃ zs : List α, ys = zs.map f ∧ zs.Perm xs := by
  intro ys xs h
  have key : ∀ {as bs : List β}, as.Perm bs → ∀ xs : List α, bs = xs.map f → ∃ zs : List α, as = zs.map f ∧ zs.Perm xs := by
    intro as bs h
    induction h with
    | nil =>
      intro xs e
      exact ⟨xs, e, .refl _⟩
    | cons x h ih =>
      intro xs e
      cases xs with
      | nil => cases e
      | cons a xs =>
        rw [List.map_cons] at e
        obtain ⟨e1, e2⟩ := List.cons.inj e
        obtain ⟨zs, rfl, p⟩ := ih xs e2
        exact ⟨a :: zs, by rw [List.map_cons, e1], p.cons a⟩
    | swap x y l =>
      intro xs e
      cases xs with
      | nil => cases e
      | cons a xs =>
        cases xs with
        | nil => cases e
        | cons b xs =>
          rw [List.map_cons, List.map_cons] at e
          obtain ⟨e1, e2⟩ := List.cons.inj e
          obtain ⟨e2, e3⟩ := List.cons.inj e2
          exact ⟨b :: a :: xs, by rw [List.map_cons, List.map_cons, e1, e2, e3], .swap a b xs⟩
    | trans _ _ ih1 ih2 =>
      intro xs e
      obtain ⟨z2, e2, p2⟩ := ih2 xs e
      obtain ⟨z1, e1, p1⟩ := ih1 z2 e2
      exact ⟨z1, e1, p1.trans p2⟩
  exact key h xs rfl
section
variable {t : Tbl} {iT iE iM iP iG iU : Nat}
def NPair : List Str := ["jar", "span", "one", "two"]
noncomputable def dPair (iT : Nat) : SDen :=
  (sSeq (sSet 2 (cCall iT 2 (aCons (cVar 0) (aCons (cBin addD (cVar 1) (cC (.int 1))) aNil)))) (sSeq (sSet 3 (cCall iT 2 (aCons (cVar 0) (aCons (cVar 1) aNil)))) (sSeq (sIf (tCmp .GtE (cVar 3) (cVar 2)) (sSet 3 (cBin addD (cVar 3) (cC (.int 1)))) sNil) (sRet (cTup (aCons (cVar 2) (aCons (cVar 3) aNil)))))))
theorem pair_sp (hT : t iT = some (NTake, dTake)) (hP : t iP = some (NPair, dPair iT)) (k : Nat) {M : Mem} {n : Nat} {x : Cell} {span : Int} (hM : M[n]? = some x) (hx : JarC x) (h1 : 1 ≤ span) (h2 : span < 2 ^ 29) :
    ∃ (p : Int × Int) (x' : Cell), OkP span p ∧ JarC x' ∧ callN t (k + 2) iP [.ref n, .int span] M = .ok (pD p) (M.set n x') := by
  obtain ⟨r, x1, a1, a2, a3⟩ := take_nat hT k hM hx (many := span + 1) (by omega) (by omega)
  obtain ⟨s, x2, b1, b2, b3⟩ := take_nat hT k (get_set (lt_of hM)) a2 (many := span) (by omega) (by omega)
  rw [List.set_set] at b3
  have hc : callN t (k + 2) iP [.ref n, .int span] M = fnD NPair (dPair iT) [.ref n, .int span] M (callN t (k + 1)) := by
    show (match t iP with | some (N, body) => fnD N body [.ref n, .int span] M (callN t (k + 1)) | none => .bad) = _
    rw [hP]
  have tl := two_le
  rw [hc]
  by_cases h : (r : Int) ≤ s
  · refine ⟨(r, s + 1), x2, ⟨by omega, by omega, by show 0 ≤ (s : Int) + 1; omega, by show (s : Int) + 1 ≤ span; omega, by show (r : Int) ≠ s + 1; omega⟩, b2, ?_⟩
    have h' : r ≤ s := by omega
    simp [fnD, dPair, startD, NPair, a3, b3, h, h', tl, pD]
  · refine ⟨(r, s), x2, ⟨by omega, by show (r : Int) ≤ span; omega, by omega, by show (s : Int) ≤ span; omega, by show (r : Int) ≠ s; omega⟩, b2, ?_⟩
    have h' : ¬ r ≤ s := by omega
    simp [fnD, dPair, startD, NPair, a3, b3, h, h', tl, pD]

def NPut : List Str := ["jar", "rows", "thing", "spot"]
noncomputable def dPut (iT : Nat) : SDen :=
  (sSeq (sSet 3 (cCall iT 2 (aCons (cVar 0) (aCons (cBin addD (cBlt bLen (aCons (cVar 1) aNil)) (cC (.int 1))) aNil)))) (sRet (cBin addD (cBin addD (cSl false (cVar 1) oNone (oSome (cVar 3))) (cLst false (aCons (cVar 2) aNil))) (cSl false (cVar 1) (oSome (cVar 3)) oNone))))
theorem put_sp (hT : t iT = some (NTake, dTake)) (hU : t iU = some (NPut, dPut iT)) (k : Nat) {M : Mem} {n : Nat} {x : Cell} {rows d : D} {b : Bool} {xs : List D} (hM : M[n]? = some x) (hx : JarC x) (hv : ∀ y, view (M.set n y) rows = .lst b xs) (hv0 : view M rows = .lst b xs) (fx : frees xs = true) (fd : free d = true) (hz : xs.length ≤ 10000) :
    ∃ (r : Nat) (x' : Cell), r ≤ xs.length ∧ JarC x' ∧ callN t (k + 2) iU [.ref n, rows, d] M = .ok (.lst false (xs.take r ++ d :: xs.drop r)) (M.set n x') := by
  obtain ⟨r, x1, a1, a2, a3⟩ := take_nat hT k hM hx (many := (xs.length : Int) + 1) (by omega) (by omega)
  have hc : callN t (k + 2) iU [.ref n, rows, d] M = fnD NPut (dPut iT) [.ref n, rows, d] M (callN t (k + 1)) := by
    show (match t iU with | some (N, body) => fnD N body [.ref n, rows, d] M (callN t (k + 1)) | none => .bad) = _
    rw [hU]
  refine ⟨r, x1, by omega, a2, ?_⟩
  rw [hc]
  have c1 := cut_to xs r
  have c2 := cut_from xs r
  have sl : (10002 : Nat) ≤ sizeLine := by rw [sizeLine_eq]; decide
  have l1 : (xs.take r).length + ([d] : List D).length ≤ sizeLine := by rw [List.length_take]; simp; omega
  have l2 : (xs.take r ++ [d]).length + (xs.drop r).length ≤ sizeLine := by rw [List.length_append, List.length_take, List.length_drop]; simp; omega
  have one : 1 ≤ sizeLine := by omega
  have ff : frees (xs.take r ++ d :: xs.drop r) = true := by
    rw [frees_iff] at fx ⊢
    intro e he
    rcases List.mem_append.mp he with h | h
    · exact fx e (List.mem_of_mem_take h)
    · rcases List.mem_cons.mp h with rfl | h
      · exact fd
      · exact fx e (List.mem_of_mem_drop h)
  have vd : view (M.set n x1) (.lst false [d]) = .lst false [d] := rfl
  have e1 := add_l (t := false) (u := false) l1
  have e2 := add_l (t := false) (u := false) l2
  simp [fnD, dPut, startD, NPut, hv0, a3, hv, c1, c2, one, e1, e2, ff]

def NGrown : List Str := ["jar", "span", "names", "made", "k", "back", "elder"]
noncomputable def dGrownB (iT iE : Nat) : SDen := (sSeq (sSet 5 (cCall iT 2 (aCons (cVar 0) (aCons (cBin addD (cVar 4) (cC (.int 1))) aNil)))) (sSeq (sIf (tCmp .Eq (cCall iT 2 (aCons (cVar 0) (aCons (cC (.int 3)) aNil))) (cC (.int 1))) (sSet 5 (cC (.int 0))) sNil) (sSeq (sSet 6 (cC (.int 0))) (sSeq (sIf (tCmp .Lt (cVar 5) (cVar 4)) (sSet 6 (cIx (cVar 2) (cBin subD (cBin subD (cVar 4) (cC (.int 1))) (cVar 5)))) sNil) (sExpr (cMt mAppend (cVar 3) (aCons (cCall iE 3 (aCons (cVar 0) (aCons (cIx (cVar 2) (cVar 4)) (aCons (cVar 6) aNil)))) aNil)))))))
noncomputable def dGrown (iT iM iE : Nat) : SDen :=
  (sSeq (sSet 2 (cFrz (cCall iM 2 (aCons (cVar 0) (aCons (cLsRg2 false (cC (.int 1)) (cBin addD (cVar 1) (cC (.int 1)))) aNil))))) (sSeq (sSet 3 (cLst true aNil)) (sSeq (sFor (gNm 4) (iRg1 (aCons (cVar 1) aNil)) (dGrownB iT iE)) (sRet (cCall iM 2 (aCons (cVar 0) (aCons (cVar 3) aNil)))))))
theorem grown_step (hT : t iT = some (NTake, dTake)) (hE : t iE = some (NEither, dEither iT)) (k : Nat) {span : Int} {ns : List Int} (nd : ns.Nodup) (nr : ∀ x ∈ ns, 1 ≤ x ∧ x ≤ span) (h2 : span < 1000)
    {M : Mem} {n i : Nat} {x : Cell} {ps : List (Int × Int)} {y5 y6 : Option D} (hM : M[n]? = some x) (hx : JarC x) (hi : i < ns.length) (hl : ns.length ≤ 1000) (hps : ps.length = i) :
    ∃ (p : Int × Int) (x' : Cell) (z5 z6 : Option D), OkP span p ∧ JarC x' ∧ dGrownB iT iE (callN t (k + 2)) [some (.ref n), some (.int span), some (.lst false (ns.map D.int)), some (.ref M.length), some (.int (i : Int)), y5, y6] (M ++ [.lst (ps.map pD)]) =
      .ok .nx [some (.ref n), some (.int span), some (.lst false (ns.map D.int)), some (.ref M.length), some (.int (i : Int)), z5, z6] (M.set n x' ++ [.lst ((ps ++ [p]).map pD)]) := by
  have hn := lt_of hM
  obtain ⟨bk, x1, a1, a2, a3⟩ := take_nat hT (k + 1) (M := M ++ [.lst (ps.map pD)]) (getB _ hM) hx (many := (i : Int) + 1) (by omega) (by omega)
  rw [setA hn] at a3
  obtain ⟨r3, x2, b1, b2, b3⟩ := take_nat hT (k + 1) (M := M.set n x1 ++ [.lst (ps.map pD)]) (getB _ (get_set hn)) a2 (many := 3) (by decide) (by decide)
  rw [setA (by rw [List.length_set]; exact hn), List.set_set] at b3
  have hk : atI (ns.map D.int) (i : Int) = some (.int ns[i]) := by rw [at_nat, List.getElem?_map, List.getElem?_eq_getElem hi]; rfl
  have kr := nr ns[i] (List.getElem_mem hi)
  -- the elder
  have fin : ∀ (e : Int) (z5 : D), 0 ≤ e → e ≤ span → e ≠ ns[i] → ∃ (p : Int × Int) (x' : Cell), OkP span p ∧ JarC x' ∧
      (sExpr (cMt mAppend (cVar 3) (aCons (cCall iE 3 (aCons (cVar 0) (aCons (cIx (cVar 2) (cVar 4)) (aCons (cVar 6) aNil)))) aNil))) (callN t (k + 2)) [some (.ref n), some (.int span), some (.lst false (ns.map D.int)), some (.ref M.length), some (.int (i : Int)), some z5, some (.int e)] (M.set n x2 ++ [.lst (ps.map pD)]) =
      .ok .nx [some (.ref n), some (.int span), some (.lst false (ns.map D.int)), some (.ref M.length), some (.int (i : Int)), some z5, some (.int e)] (M.set n x' ++ [.lst ((ps ++ [p]).map pD)]) := by
    intro e z5 h0 h1 hne
    obtain ⟨d, x3, c1, c2, c3⟩ := either_sp hT hE k (M := M.set n x2 ++ [.lst (ps.map pD)]) (getB _ (get_set hn)) b2 (d1 := .int ns[i]) (d2 := .int e) rfl rfl
    rw [setA (by rw [List.length_set]; exact hn), List.set_set] at c3
    have hp : ∃ p : Int × Int, d = pD p ∧ OkP span p := by
      rcases c1 with rfl | rfl
      · exact ⟨(ns[i], e), rfl, by constructor <;> simp <;> omega⟩
      · exact ⟨(e, ns[i]), rfl, by constructor <;> simp <;> omega⟩
    obtain ⟨p, rfl, hp⟩ := hp
    refine ⟨p, x3, hp, c2, ?_⟩
    have g1 : (M.set n x2 ++ [Cell.lst (ps.map pD)])[M.length]? = some (.lst (ps.map pD)) := by
      have := getA (M := M.set n x2) (Cell.lst (ps.map pD))
      rwa [List.length_set] at this
    have g2 : (M.set n x3 ++ [Cell.lst (ps.map pD)])[M.length]? = some (.lst (ps.map pD)) := by
      have := getA (M := M.set n x3) (Cell.lst (ps.map pD))
      rwa [List.length_set] at this
    have s2 : (M.set n x3 ++ [Cell.lst (ps.map pD)]).set M.length (Cell.lst (ps.map pD ++ [pD p])) = M.set n x3 ++ [Cell.lst (ps.map pD ++ [pD p])] := by
      have := setC (M := M.set n x3) (Cell.lst (ps.map pD ++ [pD p])) (Cell.lst (ps.map pD))
      rwa [List.length_set] at this
    have lz : ps.length < sizeLine := by rw [sizeLine_eq]; omega
    have ff : frees (ps.map pD ++ [pD p]) = true := by
      have := pDs_free (ps ++ [p])
      rwa [List.map_append] at this
    simp [isL, g1, hk, c3, mtD, g2, mAppend, lz, ff, s2]
  have idx : ∀ b : Nat, (b : Int) < i → ∃ e : Int, atI (ns.map D.int) ((i : Int) - 1 - b) = some (.int e) ∧ 0 ≤ e ∧ e ≤ span ∧ e ≠ ns[i] := by
    intro b hb
    have ej : (i : Int) - 1 - b = ((i - 1 - b : Nat) : Int) := by omega
    have hj : i - 1 - b < ns.length := by omega
    have jr := nr ns[i - 1 - b] (List.getElem_mem hj)
    refine ⟨ns[i - 1 - b], ?_, by omega, jr.2, fun z => ?_⟩
    · rw [ej, at_nat, List.getElem?_map, List.getElem?_eq_getElem hj]; rfl
    · have := (List.getElem_inj nd).mp z
      omega
  have key : ∀ b : Nat, (b : Int) ≤ i → (dGrownB iT iE (callN t (k + 2)) [some (.ref n), some (.int span), some (.lst false (ns.map D.int)), some (.ref M.length), some (.int (i : Int)), y5, y6] (M ++ [.lst (ps.map pD)]) =
      (sSeq (sSet 6 (cC (.int 0))) (sSeq (sIf (tCmp .Lt (cVar 5) (cVar 4)) (sSet 6 (cIx (cVar 2) (cBin subD (cBin subD (cVar 4) (cC (.int 1))) (cVar 5)))) sNil) (sExpr (cMt mAppend (cVar 3) (aCons (cCall iE 3 (aCons (cVar 0) (aCons (cIx (cVar 2) (cVar 4)) (aCons (cVar 6) aNil)))) aNil)))))
        (callN t (k + 2)) [some (.ref n), some (.int span), some (.lst false (ns.map D.int)), some (.ref M.length), some (.int (i : Int)), some (.int (b : Int)), y6] (M.set n x2 ++ [.lst (ps.map pD)])) →
      ∃ (p : Int × Int) (x' : Cell) (z5 z6 : Option D), OkP span p ∧ JarC x' ∧ dGrownB iT iE (callN t (k + 2)) [some (.ref n), some (.int span), some (.lst false (ns.map D.int)), some (.ref M.length), some (.int (i : Int)), y5, y6] (M ++ [.lst (ps.map pD)]) =
        .ok .nx [some (.ref n), some (.int span), some (.lst false (ns.map D.int)), some (.ref M.length), some (.int (i : Int)), z5, z6] (M.set n x' ++ [.lst ((ps ++ [p]).map pD)]) := by
    intro b hb e
    rw [e]
    by_cases hlt : (b : Int) < i
    · obtain ⟨el, e1, e2, e3, e4⟩ := idx b hlt
      obtain ⟨p, x', f1, f2, f3⟩ := fin el (.int (b : Int)) e2 e3 e4
      refine ⟨p, x', some (.int (b : Int)), some (.int el), f1, f2, ?_⟩
      have hlt' : b < i := by omega
      have g : (sIf (tCmp .Lt (cVar 5) (cVar 4)) (sSet 6 (cIx (cVar 2) (cBin subD (cBin subD (cVar 4) (cC (.int 1))) (cVar 5)))) sNil) (callN t (k + 2)) [some (.ref n), some (.int span), some (.lst false (ns.map D.int)), some (.ref M.length), some (.int (i : Int)), some (.int (b : Int)), some (.int 0)] (M.set n x2 ++ [.lst (ps.map pD)]) = .ok .nx [some (.ref n), some (.int span), some (.lst false (ns.map D.int)), some (.ref M.length), some (.int (i : Int)), some (.int (b : Int)), some (.int el)] (M.set n x2 ++ [.lst (ps.map pD)]) := by
        simp [hlt', e1]
      simp only [ap_seq, ap_set, ap_c, SR.of_ok, se0, seS, SR.seq_nx]
      rw [g]
      exact f3
    · obtain ⟨p, x', f1, f2, f3⟩ := fin 0 (.int (b : Int)) (by omega) (by omega) (by omega)
      refine ⟨p, x', some (.int (b : Int)), some (.int 0), f1, f2, ?_⟩
      have hlt' : ¬ b < i := by omega
      have g : (sIf (tCmp .Lt (cVar 5) (cVar 4)) (sSet 6 (cIx (cVar 2) (cBin subD (cBin subD (cVar 4) (cC (.int 1))) (cVar 5)))) sNil) (callN t (k + 2)) [some (.ref n), some (.int span), some (.lst false (ns.map D.int)), some (.ref M.length), some (.int (i : Int)), some (.int (b : Int)), some (.int 0)] (M.set n x2 ++ [.lst (ps.map pD)]) = .ok .nx [some (.ref n), some (.int span), some (.lst false (ns.map D.int)), some (.ref M.length), some (.int (i : Int)), some (.int (b : Int)), some (.int 0)] (M.set n x2 ++ [.lst (ps.map pD)]) := by
        simp [hlt']
      simp only [ap_seq, ap_set, ap_c, SR.of_ok, se0, seS, SR.seq_nx]
      rw [g]
      exact f3
  by_cases h3 : r3 = 1
  · refine key 0 (by omega) ?_
    subst h3
    simp [dGrownB, a3, b3]
  · refine key bk (by omega) ?_
    have h3' : ¬ ((r3 : Int) = 1) := by omega
    simp [dGrownB, a3, b3, h3, h3']
theorem frz_new {M0 M : Mem} {xs : List D} (h : M.length = M0.length) : frz M0.length (.ref M0.length) (M ++ [.lst xs]) = .ok (.lst false xs) M := by
  have e1 : (M ++ [Cell.lst xs])[M0.length]? = some (.lst xs) := by rw [← h]; exact getA _
  have e2 : (M ++ [Cell.lst xs]).length = M0.length + 1 := by rw [List.length_append, h]; rfl
  have e3 : (M ++ [Cell.lst xs]).take M0.length = M := by rw [← h]; exact List.take_left
  unfold frz
  simp only [e2, and_self, if_true, e1, e3]
theorem nodup_range (m : Nat) : ((List.range m).map fun i => (1 : Int) + (i : Nat)).Nodup := by
  refine List.Pairwise.map _ (fun a b h => ?_) List.nodup_range
  intro z
  exact h (by omega)
theorem grown_sp (hT : t iT = some (NTake, dTake)) (hE : t iE = some (NEither, dEither iT)) (hMx : t iM = some (NMixed, dMixed iT)) (hG : t iG = some (NGrown, dGrown iT iM iE)) (k : Nat) {M : Mem} {n : Nat} {x : Cell} {span : Int} (hM : M[n]? = some x) (hx : JarC x) (h1 : 1 ≤ span) (h2 : span < 1000) :
    ∃ (ps : List (Int × Int)) (x' : Cell), (∀ p ∈ ps, OkP span p) ∧ (ps.length : Int) = span ∧ JarC x' ∧ callN t (k + 3) iG [.ref n, .int span] M = .ok (.ref M.length) (M.set n x' ++ [.lst (ps.map pD)]) := by
  have hn := lt_of hM
  have hc : callN t (k + 3) iG [.ref n, .int span] M = fnD NGrown (dGrown iT iM iE) [.ref n, .int span] M (callN t (k + 2)) := by
    show (match t iG with | some (N, body) => fnD N body [.ref n, .int span] M (callN t (k + 2)) | none => .bad) = _
    rw [hG]
  -- names
  have er : rgD 1 (span + 1) = ((List.range span.toNat).map fun i => (1 : Int) + (i : Nat)).map D.int := by
    unfold rgD
    rw [List.map_map, show span + 1 - 1 = span by omega]
    rfl
  have nr1 : nices (rgD 1 (span + 1)) 1 = true := by
    rw [er]
    exact nices_iff.mpr fun d hd => by
      obtain ⟨i, _, rfl⟩ := List.mem_map.mp hd
      rfl
  obtain ⟨ys, x1, p1, p2, p3⟩ := mixed_sp hT hMx k (nn := 1) (by decide) hM hx (rows := .lst false (rgD 1 (span + 1))) rfl nr1 (by rw [er]; simp; omega)
  rw [er] at p1
  obtain ⟨ns, rfl, pn⟩ := perm_map p1
  have nd : ns.Nodup := pn.nodup_iff.mpr (nodup_range _)
  have nr : ∀ y ∈ ns, 1 ≤ y ∧ y ≤ span := fun y hy => by
    obtain ⟨i, hi, rfl⟩ := List.mem_map.mp (pn.mem_iff.mp hy)
    have := List.mem_range.mp hi
    omega
  have nl : (ns.length : Int) = span := by
    rw [pn.length_eq, List.length_map, List.length_range]; omega
  have hl1 : (M.set n x1).length = M.length := List.length_set
  -- the loop
  obtain ⟨ρ', M', hf, x2, ps, z4, z5, z6, rfl, rfl, j1, j2, j3⟩ := forL_inv (cal := callN t (k + 2)) (t := gNm 4) (b := dGrownB iT iE) (chk := fun _ => True)
    (fun i ρ M' => ∃ (x2 : Cell) (ps : List (Int × Int)) (z4 z5 z6 : Option D), ρ = [some (.ref n), some (.int span), some (.lst false (ns.map D.int)), some (.ref M.length), z4, z5, z6] ∧ M' = M.set n x2 ++ [.lst (ps.map pD)] ∧ JarC x2 ∧ ps.length = i ∧ ∀ p ∈ ps, OkP span p)
    (ds := (List.range span.toNat).map fun i => .int (i : Nat)) (fun i ρ M' d h hd => by
      obtain ⟨x2, ps, z4, z5, z6, rfl, rfl, j1, j2, j3⟩ := h
      rw [List.getElem?_map] at hd
      obtain ⟨j, hj, rfl⟩ := Option.map_eq_some_iff.mp hd
      obtain ⟨hj1, hj2⟩ := List.getElem?_eq_some_iff.mp hj
      rw [List.length_range] at hj1
      rw [List.getElem_range] at hj2
      subst hj2
      obtain ⟨p, x3, y5, y6, q1, q2, q3⟩ := grown_step hT hE k nd nr h2 (M := M.set n x2) (n := n) (i := i) (x := x2) (ps := ps) (y5 := z5) (y6 := z6) (get_set hn) j1 (by omega) (by omega) j2
      rw [List.length_set, List.set_set] at q3
      refine ⟨trivial, _, rfl, _, _, .inl q3, x3, ps ++ [p], _, y5, y6, rfl, rfl, q2, by rw [List.length_append, j2]; rfl, fun e he => ?_⟩
      rcases List.mem_append.mp he with he | he
      · exact j3 e he
      · rw [List.mem_singleton.mp he]; exact q1) (fun _ _ _ => trivial)
    (ρ := [some (.ref n), some (.int span), some (.lst false (ns.map D.int)), some (.ref M.length), none, none, none]) (M := M.set n x1 ++ [.lst []]) ⟨x1, [], _, _, _, rfl, rfl, p2, rfl, fun p hp => absurd hp List.not_mem_nil⟩
  have j2' : (ps.length : Int) = span := by rw [j2, List.length_map, List.length_range]; omega
  -- the last mix
  have hv : view (M.set n x2 ++ [Cell.lst (ps.map pD)]) (.ref M.length) = .lst true (ps.map pD) := by
    have e : (M.set n x2 ++ [Cell.lst (ps.map pD)])[M.length]? = some (.lst (ps.map pD)) := by
      have := getA (M := M.set n x2) (Cell.lst (ps.map pD))
      rwa [List.length_set] at this
    rw [view_ref', e]; rfl
  obtain ⟨us, x3, u1, u2, u3⟩ := mixed_sp hT hMx k (nn := 1) (by decide) (M := M.set n x2 ++ [Cell.lst (ps.map pD)]) (n := n) (x := x2) (getB _ (get_set hn)) j1 hv (pDs_nice ps) (by simp; omega)
  obtain ⟨qs, rfl, pq⟩ := perm_map u1
  refine ⟨qs, x3, fun p hp => j3 p (pq.mem_iff.mp hp), by rw [pq.length_eq]; exact j2', u2, ?_⟩
  rw [hc]
  have fz := frz_new (M0 := M) (xs := ns.map D.int) hl1
  rw [setA (by rw [List.length_set]; exact hn), List.set_set] at u3
  have ln : (M.set n x2 ++ [Cell.lst (ps.map pD)]).length = M.length + 1 := by rw [List.length_append, List.length_set]; rfl
  rw [ln] at u3
  have hr : lsOk2 1 (span + 1) := lsOk2_of (by omega) (by omega) (by omega) (by omega)
  have hr2 : rgOk span := rgOk_of (by omega) (by omega)
  have nb := newB (xs := []) (M.set n x1) rfl
  rw [hl1] at nb
  have g3 : (M.set n x3 ++ [Cell.lst (ps.map pD)] ++ [Cell.lst (qs.map pD)])[M.length + 1]? = some (.lst (qs.map pD)) := by
    have := getA (M := M.set n x3 ++ [Cell.lst (ps.map pD)]) (Cell.lst (qs.map pD))
    rwa [List.length_append, List.length_set] at this
  have fr := fin_ref M.length (.lst (qs.map pD)) (M.length + 1) [some (.ref n), some (.int span), some (.lst false (ns.map D.int)), some (.ref M.length), z4, z5, z6] _ (by omega) g3
  have tk : (M.set n x3 ++ [Cell.lst (ps.map pD)] ++ [Cell.lst (qs.map pD)]).take M.length = M.set n x3 := by
    rw [List.append_assoc]
    have := List.take_left (l₁ := M.set n x3) (l₂ := [Cell.lst (ps.map pD)] ++ [Cell.lst (qs.map pD)])
    rwa [List.length_set] at this
  rw [tk] at fr
  unfold fnD dGrown startD NGrown
  simp only [ap_seq, ap_set, ap_frz, ap_call, ap_acons, ap_anil, ap_var, ap_lsrg2, ap_c, ap_bin, ap_for, ap_rg1, ap_ret, ap_lst]
  simp [hr, hr2, p3, fz, nb, hf, u3]
  rw [List.append_assoc] at fr
  exact fr

def NWeb : List Str := ["jar", "span", "upto", "sort", "pairs", "turn", "spot"]
noncomputable def dWeb1 (iT iP : Nat) : SDen := (sSetIx (cVar 4) (cCall iT 2 (aCons (cVar 0) (aCons (cVar 1) aNil))) (cCall iP 2 (aCons (cVar 0) (aCons (cVar 1) aNil))))
noncomputable def dWeb2 (iT : Nat) : SDen := (sFor (gNm 5) (iRg1 (aCons (cBin addD (cC (.int 1)) (cCall iT 2 (aCons (cVar 0) (aCons (cC (.int 2)) aNil)))) aNil)) (sSet 4 (cSl false (cVar 4) (oSome (cC (.int 1))) oNone)))
noncomputable def dWeb3 (iT : Nat) : SDen := (sSeq (sSet 6 (cCall iT 2 (aCons (cVar 0) (aCons (cVar 1) aNil)))) (sSetIx (cVar 4) (cVar 6) (cIx (cVar 4) (cCall iT 2 (aCons (cVar 0) (aCons (cVar 1) aNil))))))
noncomputable def dWeb4 (iT iP iU : Nat) : SDen := (sFor (gNm 5) (iRg1 (aCons (cCall iT 2 (aCons (cVar 0) (aCons (cBin addD (cBin subD (cVar 2) (cVar 1)) (cC (.int 1))) aNil))) aNil)) (sSet 4 (cCall iU 3 (aCons (cVar 0) (aCons (cVar 4) (aCons (cCall iP 2 (aCons (cVar 0) (aCons (cVar 1) aNil))) aNil))))))
noncomputable def dWeb (iT iP iG iU : Nat) : SDen :=
  (sSeq (sSet 3 (cCall iT 2 (aCons (cVar 0) (aCons (cC (.int 6)) aNil)))) (sSeq (sIf (tCmp .Eq (cVar 3) (cC (.int 0))) (sRet (cLc false [5] (iRg1 (aCons (cCall iT 2 (aCons (cVar 0) (aCons (cBin addD (cVar 2) (cC (.int 1))) aNil))) aNil)) (gNm 5) tYesD (cCall iP 2 (aCons (cVar 0) (aCons (cVar 1) aNil))))) sNil) (sSeq (sSet 4 (cCall iG 2 (aCons (cVar 0) (aCons (cVar 1) aNil)))) (sSeq (sIf (tCmp .Eq (cVar 3) (cC (.int 1))) (dWeb1 iT iP) sNil) (sSeq (sIf (tCmp .Eq (cVar 3) (cC (.int 2))) (dWeb2 iT) sNil) (sSeq (sIf (tCmp .Eq (cVar 3) (cC (.int 3))) (dWeb3 iT) sNil) (sSeq (sIf (tCmp .Eq (cVar 3) (cC (.int 4))) (dWeb4 iT iP iU) sNil) (sRet (cVar 4)))))))))
/-- many draws of pairs -/
theorem draws_ok (hT : t iT = some (NTake, dTake)) (hP : t iP = some (NPair, dPair iT)) (k : Nat) {n : Nat} {span : Int} (h1 : 1 ≤ span) (h2 : span < 1000) {r2 r3 r4 r6 : Option D} : ∀ (ds : List D) (M : Mem) (x : Cell), M[n]? = some x → JarC x →
    ∃ (ps : List (Int × Int)) (x' : Cell), (∀ p ∈ ps, OkP span p) ∧ ps.length = ds.length ∧ JarC x' ∧
      compL (fun _ => True) (gNm 5) tYesD (cCall iP 2 (aCons (cVar 0) (aCons (cVar 1) aNil))) ds (callN t (k + 2)) [some (.ref n), some (.int span), r2, r3, r4, none, r6] M = .ok (ps.map pD) (M.set n x')
  | [], M, x, hM, hx => ⟨[], x, fun p hp => absurd hp List.not_mem_nil, rfl, hx, by
      rw [comp_nil trivial, set_self hM]; rfl⟩
  | d :: ds, M, x, hM, hx => by
    obtain ⟨p, x1, p1, p2, p3⟩ := pair_sp hT hP k hM hx h1 (by omega : span < 2 ^ 29)
    obtain ⟨ps, x2, q1, q2, q3, q4⟩ := draws_ok hT hP k h1 h2 (r2 := r2) (r3 := r3) (r4 := r4) (r6 := r6) ds (M.set n x1) x1 (get_set (lt_of hM)) p2
    rw [List.set_set] at q4
    refine ⟨p :: ps, x2, fun e he => (List.mem_cons.mp he).elim (fun z => z ▸ p1) (q1 e), by rw [List.length_cons, List.length_cons, q2], q3, ?_⟩
    exact comp_yes trivial rfl rfl (by simp [p3]) q4
/-- what stands at slot 4: the pairs, as data or in the last cell -/
def Held (L n : Nat) (M : Mem) (x : Cell) (d : D) (M' : Mem) (ps : List (Int × Int)) : Prop := ∃ cs : List D, M' = M.set n x ++ [.lst cs] ∧ (d = .lst false (ps.map pD) ∨ (d = .ref L ∧ cs = ps.map pD))
theorem Held.view {L n : Nat} {M M' : Mem} {x : Cell} {d : D} {ps : List (Int × Int)} (hL : L = M.length) (h : Held L n M x d M' ps) : ∃ b, ∀ y : Cell, ∀ cs : List D, M' = M.set n x ++ [.lst cs] → Vm.view (M.set n y ++ [.lst cs]) d = .lst b (ps.map pD) := by
  obtain ⟨cs, e1, h | ⟨h, h2⟩⟩ := h
  · exact ⟨false, fun y cs' _ => by rw [h]; rfl⟩
  · refine ⟨true, fun y cs' e => ?_⟩
    have e2 := e1.symm.trans e
    have e3 := (List.append_inj e2 rfl).2
    cases e3
    rw [h, view_ref', hL]
    have := getA (M := M.set n y) (Cell.lst cs)
    rw [List.length_set] at this
    rw [this, h2]; rfl
theorem Held.fin {L n : Nat} {M M' : Mem} {x : Cell} {d : D} {ps : List (Int × Int)} {ρ : Env} (hL : L = M.length) (h : Held L n M x d M' ps) : (finD L (.ok (.rt d) ρ M')).bind (fun d M1 => frz L d M1) = .ok (.lst false (ps.map pD)) (M.set n x) := by
  obtain ⟨cs, rfl, h⟩ := h
  subst hL
  have tk : (M.set n x ++ [Cell.lst cs]).take M.length = M.set n x := by
    have := List.take_left (l₁ := M.set n x) (l₂ := [Cell.lst cs])
    rwa [List.length_set] at this
  rcases h with rfl | ⟨rfl, rfl⟩
  · rw [fin_lst _ _ _ _ _ (pDs_free ps), tk]; rfl
  · have g : (M.set n x ++ [Cell.lst (ps.map pD)])[M.length]? = some (.lst (ps.map pD)) := by
      have := getA (M := M.set n x) (Cell.lst (ps.map pD))
      rwa [List.length_set] at this
    rw [fin_ref M.length _ M.length ρ _ (Nat.le_refl _) g, tk, R.ok_bind]
    exact frz_new List.length_set
theorem web1_ok (hT : t iT = some (NTake, dTake)) (hP : t iP = some (NPair, dPair iT)) (k : Nat) {M : Mem} {n : Nat} {x : Cell} {span upto : Int} {ps : List (Int × Int)} {v3 v5 v6 : Option D} (hn : n < M.length) (hx : JarC x) (h1 : 1 ≤ span) (h2 : span < 1000) (hp : ∀ p ∈ ps, OkP span p) (hl : (ps.length : Int) = span) :
    ∃ (qs : List (Int × Int)) (x' : Cell) (M' : Mem), (∀ p ∈ qs, OkP span p) ∧ (qs.length : Int) = span ∧ JarC x' ∧ Held M.length n M x' (.ref M.length) M' qs ∧
      dWeb1 iT iP (callN t (k + 3)) [some (.ref n), some (.int span), some (.int upto), v3, some (.ref M.length), v5, v6] (M.set n x ++ [.lst (ps.map pD)]) = .ok .nx [some (.ref n), some (.int span), some (.int upto), v3, some (.ref M.length), v5, v6] M' := by
  have gx : ∀ y : Cell, (M.set n y ++ [Cell.lst (ps.map pD)])[n]? = some y := fun y => getB _ (get_set hn)
  have sx : ∀ y z : Cell, (M.set n y ++ [Cell.lst (ps.map pD)]).set n z = M.set n z ++ [Cell.lst (ps.map pD)] := fun y z => by rw [setA (by rw [List.length_set]; exact hn), List.set_set]
  obtain ⟨p, x1, a1, a2, a3⟩ := pair_sp hT hP (k + 1) (gx x) hx h1 (by omega : span < 2 ^ 29)
  rw [sx] at a3
  obtain ⟨r, x2, b1, b2, b3⟩ := take_nat hT (k + 2) (gx x1) a2 (many := span) (by omega) (by omega)
  rw [sx] at b3
  have g : (M.set n x2 ++ [Cell.lst (ps.map pD)])[M.length]? = some (.lst (ps.map pD)) := by
    have := getA (M := M.set n x2) (Cell.lst (ps.map pD))
    rwa [List.length_set] at this
  have sc : (M.set n x2 ++ [Cell.lst (ps.map pD)]).set M.length (Cell.lst ((ps.set r p).map pD)) = M.set n x2 ++ [Cell.lst ((ps.set r p).map pD)] := by
    have := setC (M := M.set n x2) (Cell.lst ((ps.set r p).map pD)) (Cell.lst (ps.map pD))
    rwa [List.length_set] at this
  refine ⟨ps.set r p, x2, _, fun q hq => ?_, by rw [List.length_set]; exact hl, b2, ⟨_, rfl, .inr ⟨rfl, rfl⟩⟩, ?_⟩
  · rcases List.mem_or_eq_of_mem_set hq with h | h
    · exact hp q h
    · rw [h]; exact a1
  · have hix : ixN (ps.map pD).length (r : Int) = some r := by
      unfold ixN
      rw [if_pos (by omega), if_pos (by rw [List.length_map]; omega), Int.toNat_natCast]
    have es : setD (.ref M.length) (.int (r : Int)) (pD p) (M.set n x2 ++ [Cell.lst (ps.map pD)]) = some (M.set n x2 ++ [Cell.lst ((ps.set r p).map pD)]) := by
      unfold setD
      simp only [g, hix, pD_free, if_true]
      rw [← List.map_set, sc]
    simp [dWeb1, a3, b3, es]
theorem web3_ok (hT : t iT = some (NTake, dTake)) (k : Nat) {M : Mem} {n : Nat} {x : Cell} {span upto : Int} {ps : List (Int × Int)} {v3 v5 v6 : Option D} (hn : n < M.length) (hx : JarC x) (h1 : 1 ≤ span) (h2 : span < 1000) (hp : ∀ p ∈ ps, OkP span p) (hl : (ps.length : Int) = span) :
    ∃ (qs : List (Int × Int)) (x' : Cell) (M' : Mem) (w6 : Option D), (∀ p ∈ qs, OkP span p) ∧ (qs.length : Int) = span ∧ JarC x' ∧ Held M.length n M x' (.ref M.length) M' qs ∧
      dWeb3 iT (callN t (k + 3)) [some (.ref n), some (.int span), some (.int upto), v3, some (.ref M.length), v5, v6] (M.set n x ++ [.lst (ps.map pD)]) = .ok .nx [some (.ref n), some (.int span), some (.int upto), v3, some (.ref M.length), v5, w6] M' := by
  have gx : ∀ y : Cell, (M.set n y ++ [Cell.lst (ps.map pD)])[n]? = some y := fun y => getB _ (get_set hn)
  have sx : ∀ y z : Cell, (M.set n y ++ [Cell.lst (ps.map pD)]).set n z = M.set n z ++ [Cell.lst (ps.map pD)] := fun y z => by rw [setA (by rw [List.length_set]; exact hn), List.set_set]
  obtain ⟨r, x1, a1, a2, a3⟩ := take_nat hT (k + 2) (gx x) hx (many := span) (by omega) (by omega)
  rw [sx] at a3
  obtain ⟨s, x2, b1, b2, b3⟩ := take_nat hT (k + 2) (gx x1) a2 (many := span) (by omega) (by omega)
  rw [sx] at b3
  have hs : s < ps.length := by omega
  have g : ∀ y : Cell, (M.set n y ++ [Cell.lst (ps.map pD)])[M.length]? = some (.lst (ps.map pD)) := fun y => by
    have := getA (M := M.set n y) (Cell.lst (ps.map pD))
    rwa [List.length_set] at this
  have sc : (M.set n x2 ++ [Cell.lst (ps.map pD)]).set M.length (Cell.lst ((ps.set r ps[s]).map pD)) = M.set n x2 ++ [Cell.lst ((ps.set r ps[s]).map pD)] := by
    have := setC (M := M.set n x2) (Cell.lst ((ps.set r ps[s]).map pD)) (Cell.lst (ps.map pD))
    rwa [List.length_set] at this
  have hat : atI (ps.map pD) (s : Int) = some (pD ps[s]) := by rw [at_nat, List.getElem?_map, List.getElem?_eq_getElem hs]; rfl
  refine ⟨ps.set r ps[s], x2, _, some (.int (r : Int)), fun q hq => ?_, by rw [List.length_set]; exact hl, b2, ⟨_, rfl, .inr ⟨rfl, rfl⟩⟩, ?_⟩
  · rcases List.mem_or_eq_of_mem_set hq with h | h
    · exact hp q h
    · rw [h]; exact hp _ (List.getElem_mem hs)
  · have hix : ixN (ps.map pD).length (r : Int) = some r := by
      unfold ixN
      rw [if_pos (by omega), if_pos (by rw [List.length_map]; omega), Int.toNat_natCast]
    have es : setD (.ref M.length) (.int (r : Int)) (pD ps[s]) (M.set n x2 ++ [Cell.lst (ps.map pD)]) = some (M.set n x2 ++ [Cell.lst ((ps.set r ps[s]).map pD)]) := by
      unfold setD
      simp only [g, hix, pD_free, if_true]
      rw [← List.map_set, sc]
    have vw : view (M.set n x2 ++ [Cell.lst (ps.map pD)]) (.ref M.length) = .lst true (ps.map pD) := by rw [view_ref', g]; rfl
    simp [dWeb3, a3, b3, vw, hat, es]
theorem web2_ok (hT : t iT = some (NTake, dTake)) (k : Nat) {M : Mem} {n : Nat} {x : Cell} {span upto : Int} {ps : List (Int × Int)} {v3 v5 v6 : Option D} (hn : n < M.length) (hx : JarC x) (hp : ∀ p ∈ ps, OkP span p) (hl : (ps.length : Int) = span) :
    ∃ (qs : List (Int × Int)) (x' : Cell) (M' : Mem) (v4 : D) (w5 : Option D), (∀ p ∈ qs, OkP span p) ∧ (qs.length : Int) ≤ span ∧ JarC x' ∧ Held M.length n M x' v4 M' qs ∧
      dWeb2 iT (callN t (k + 3)) [some (.ref n), some (.int span), some (.int upto), v3, some (.ref M.length), v5, v6] (M.set n x ++ [.lst (ps.map pD)]) = .ok .nx [some (.ref n), some (.int span), some (.int upto), v3, some v4, w5, v6] M' := by
  have gx : ∀ y : Cell, (M.set n y ++ [Cell.lst (ps.map pD)])[n]? = some y := fun y => getB _ (get_set hn)
  have sx : ∀ y z : Cell, (M.set n y ++ [Cell.lst (ps.map pD)]).set n z = M.set n z ++ [Cell.lst (ps.map pD)] := fun y z => by rw [setA (by rw [List.length_set]; exact hn), List.set_set]
  obtain ⟨r, x1, a1, a2, a3⟩ := take_nat hT (k + 2) (gx x) hx (many := 2) (by decide) (by decide)
  rw [sx] at a3
  have e1 : (1 : Int) + (r : Int) = ((1 + r : Nat) : Int) := by omega
  have rg : iRg1 (aCons (cBin addD (cC (.int 1)) (cCall iT 2 (aCons (cVar 0) (aCons (cC (.int 2)) aNil)))) aNil) (callN t (k + 3)) [some (.ref n), some (.int span), some (.int upto), v3, some (.ref M.length), v5, v6] (M.set n x ++ [.lst (ps.map pD)]) = .ok ⟨(List.range (1 + r)).map fun i => .int (i : Nat), fun _ => True⟩ (M.set n x1 ++ [.lst (ps.map pD)]) :=
    rg1_nat (by rw [← e1]; simp [a3]) (by omega)
  obtain ⟨ρ', M', hf, v4, w5, qs, rfl, rfl, j1, j2, j3⟩ := forL_inv (cal := callN t (k + 3)) (t := gNm 5) (b := sSet 4 (cSl false (cVar 4) (oSome (cC (.int 1))) oNone)) (chk := fun _ => True)
    (fun _ ρ M' => ∃ (v4 : D) (w5 : Option D) (qs : List (Int × Int)), ρ = [some (.ref n), some (.int span), some (.int upto), v3, some v4, w5, v6] ∧ M' = M.set n x1 ++ [.lst (ps.map pD)] ∧ Held M.length n M x1 v4 M' qs ∧ (∀ p ∈ qs, OkP span p) ∧ (qs.length : Int) ≤ span)
    (ds := (List.range (1 + r)).map fun i => .int (i : Nat)) (fun i ρ M' d h hd => by
      obtain ⟨v4, w5, qs, rfl, rfl, j1, j2, j3⟩ := h
      obtain ⟨b, hv⟩ := j1.view rfl
      have hv := hv x1 _ rfl
      have c1 : cutD (qs.map pD) (some 1) none = (qs.map pD).drop 1 := cut_from _ 1
      have eb : sSet 4 (cSl false (cVar 4) (oSome (cC (.int 1))) oNone) (callN t (k + 3)) [some (.ref n), some (.int span), some (.int upto), v3, some v4, some d, v6] (M.set n x1 ++ [.lst (ps.map pD)]) = .ok .nx [some (.ref n), some (.int span), some (.int upto), v3, some (.lst false ((qs.drop 1).map pD)), some d, v6] (M.set n x1 ++ [.lst (ps.map pD)]) := by
        rw [List.map_drop]
        simp [hv, c1]
      exact ⟨trivial, _, rfl, _, _, .inl eb, .lst false ((qs.drop 1).map pD), some d, qs.drop 1, rfl, rfl, ⟨_, rfl, .inl rfl⟩, fun p hp => j2 p (List.mem_of_mem_drop hp), by rw [List.length_drop]; omega⟩) (fun _ _ _ => trivial)
    (ρ := [some (.ref n), some (.int span), some (.int upto), v3, some (.ref M.length), v5, v6]) (M := M.set n x1 ++ [.lst (ps.map pD)]) ⟨_, _, ps, rfl, rfl, ⟨_, rfl, .inr ⟨rfl, rfl⟩⟩, hp, by omega⟩
  refine ⟨qs, x1, _, v4, w5, j2, j3, a2, j1, ?_⟩
  unfold dWeb2
  rw [ap_for, rg, SR.of_ok]
  exact hf
theorem web4_ok (hT : t iT = some (NTake, dTake)) (hP : t iP = some (NPair, dPair iT)) (hU : t iU = some (NPut, dPut iT)) (k : Nat) {M : Mem} {n : Nat} {x : Cell} {span upto : Int} {ps : List (Int × Int)} {v3 v5 v6 : Option D} (hn : n < M.length) (hx : JarC x) (h1 : 1 ≤ span) (h2 : span ≤ upto) (h3 : upto < 1000) (hp : ∀ p ∈ ps, OkP span p) (hl : (ps.length : Int) = span) :
    ∃ (qs : List (Int × Int)) (x' : Cell) (M' : Mem) (v4 : D) (w5 : Option D), (∀ p ∈ qs, OkP span p) ∧ (qs.length : Int) ≤ upto ∧ JarC x' ∧ Held M.length n M x' v4 M' qs ∧
      dWeb4 iT iP iU (callN t (k + 3)) [some (.ref n), some (.int span), some (.int upto), v3, some (.ref M.length), v5, v6] (M.set n x ++ [.lst (ps.map pD)]) = .ok .nx [some (.ref n), some (.int span), some (.int upto), v3, some v4, w5, v6] M' := by
  have gx : ∀ y : Cell, (M.set n y ++ [Cell.lst (ps.map pD)])[n]? = some y := fun y => getB _ (get_set hn)
  have sx : ∀ y z : Cell, (M.set n y ++ [Cell.lst (ps.map pD)]).set n z = M.set n z ++ [Cell.lst (ps.map pD)] := fun y z => by rw [setA (by rw [List.length_set]; exact hn), List.set_set]
  obtain ⟨m, x1, a1, a2, a3⟩ := take_nat hT (k + 2) (gx x) hx (many := upto - span + 1) (by omega) (by omega)
  rw [sx] at a3
  have rg : iRg1 (aCons (cCall iT 2 (aCons (cVar 0) (aCons (cBin addD (cBin subD (cVar 2) (cVar 1)) (cC (.int 1))) aNil))) aNil) (callN t (k + 3)) [some (.ref n), some (.int span), some (.int upto), v3, some (.ref M.length), v5, v6] (M.set n x ++ [.lst (ps.map pD)]) = .ok ⟨(List.range m).map fun i => .int (i : Nat), fun _ => True⟩ (M.set n x1 ++ [.lst (ps.map pD)]) :=
    rg1_nat (by simp [a3]) (by omega)
  obtain ⟨ρ', M', hf, x2, v4, w5, qs, rfl, rfl, j0, j1, j2, j3⟩ := forL_inv (cal := callN t (k + 3)) (t := gNm 5) (b := sSet 4 (cCall iU 3 (aCons (cVar 0) (aCons (cVar 4) (aCons (cCall iP 2 (aCons (cVar 0) (aCons (cVar 1) aNil))) aNil))))) (chk := fun _ => True)
    (fun i ρ M' => ∃ (x2 : Cell) (v4 : D) (w5 : Option D) (qs : List (Int × Int)), ρ = [some (.ref n), some (.int span), some (.int upto), v3, some v4, w5, v6] ∧ M' = M.set n x2 ++ [.lst (ps.map pD)] ∧ JarC x2 ∧ Held M.length n M x2 v4 M' qs ∧ (∀ p ∈ qs, OkP span p) ∧ (qs.length : Int) = span + i)
    (ds := (List.range m).map fun i => .int (i : Nat)) (fun i ρ M' d h hd => by
      obtain ⟨x2, v4, w5, qs, rfl, rfl, j0, j1, j2, j3⟩ := h
      have hi : i < m := by
        have := (List.getElem?_eq_some_iff.mp hd).1
        rwa [List.length_map, List.length_range] at this
      obtain ⟨b, hv⟩ := j1.view rfl
      obtain ⟨p, x3, p1, p2, p3⟩ := pair_sp hT hP (k + 1) (gx x2) j0 h1 (by omega : span < 2 ^ 29)
      rw [sx] at p3
      obtain ⟨r, x4, q1, q2, q3⟩ := put_sp hT hU (k + 1) (M := M.set n x3 ++ [.lst (ps.map pD)]) (n := n) (x := x3) (rows := v4) (d := pD p) (b := b) (xs := qs.map pD) (gx x3) p2 (fun y => by rw [sx]; exact hv y _ rfl) (hv x3 _ rfl) (pDs_free qs) rfl (by rw [List.length_map]; omega)
      rw [sx] at q3
      have em : (qs.map pD).take r ++ pD p :: (qs.map pD).drop r = (qs.take r ++ p :: qs.drop r).map pD := by rw [List.map_append, List.map_cons, List.map_take, List.map_drop]
      rw [em] at q3
      rw [List.length_map] at q1
      have eb : sSet 4 (cCall iU 3 (aCons (cVar 0) (aCons (cVar 4) (aCons (cCall iP 2 (aCons (cVar 0) (aCons (cVar 1) aNil))) aNil)))) (callN t (k + 3)) [some (.ref n), some (.int span), some (.int upto), v3, some v4, some d, v6] (M.set n x2 ++ [.lst (ps.map pD)]) = .ok .nx [some (.ref n), some (.int span), some (.int upto), v3, some (.lst false ((qs.take r ++ p :: qs.drop r).map pD)), some d, v6] (M.set n x4 ++ [.lst (ps.map pD)]) := by
        simp only [ap_set, ap_call, ap_acons, ap_anil, ap_var, sl0, slS, R.opt_some, R.ok_bind, List.length_cons, List.length_nil, Nat.zero_add, Nat.reduceAdd, if_true, p3, q3, SR.of_ok, se0, seS]
      refine ⟨trivial, _, rfl, _, _, .inl eb, x4, .lst false ((qs.take r ++ p :: qs.drop r).map pD), some d, qs.take r ++ p :: qs.drop r, rfl, rfl, q2, ⟨_, rfl, .inl rfl⟩, fun e he => ?_, by rw [List.length_append, List.length_cons, List.length_take, List.length_drop]; omega⟩
      rcases List.mem_append.mp he with he | he
      · exact j2 e (List.mem_of_mem_take he)
      · rcases List.mem_cons.mp he with rfl | he
        · exact p1
        · exact j2 e (List.mem_of_mem_drop he)) (fun _ _ _ => trivial)
    (ρ := [some (.ref n), some (.int span), some (.int upto), v3, some (.ref M.length), v5, v6]) (M := M.set n x1 ++ [.lst (ps.map pD)]) ⟨x1, _, _, ps, rfl, rfl, a2, ⟨_, rfl, .inr ⟨rfl, rfl⟩⟩, hp, by omega⟩
  refine ⟨qs, x2, _, v4, w5, j2, by rw [j3, List.length_map, List.length_range]; omega, j0, j1, ?_⟩
  unfold dWeb4
  rw [ap_for, rg, SR.of_ok]
  exact hf
theorem if_skip {cal : Cal} {ρ : Env} {M : Mem} {g : SDen} {i j : Int} (h : slot ρ 3 = some (.int i)) (hn : i ≠ j) : sIf (tCmp .Eq (cVar 3) (cC (.int j))) g sNil cal ρ M = .ok .nx ρ M := by
  simp [h, hn, ap_nil]
theorem if_do {cal : Cal} {ρ : Env} {M : Mem} {g : SDen} {i : Int} (h : slot ρ 3 = some (.int i)) : sIf (tCmp .Eq (cVar 3) (cC (.int i))) g sNil cal ρ M = g cal ρ M := by
  simp [h]
theorem web_sp (hT : t iT = some (NTake, dTake)) (hE : t iE = some (NEither, dEither iT)) (hMx : t iM = some (NMixed, dMixed iT)) (hG : t iG = some (NGrown, dGrown iT iM iE)) (hP : t iP = some (NPair, dPair iT)) (hU : t iU = some (NPut, dPut iT)) {iW : Nat} (hW : t iW = some (NWeb, dWeb iT iP iG iU)) (k : Nat)
    {M : Mem} {n : Nat} {x : Cell} {span upto : Int} (hM : M[n]? = some x) (hx : JarC x) (h1 : 1 ≤ span) (h2 : span ≤ upto) (h3 : upto < 1000) :
    ∃ (ps : List (Int × Int)) (x' : Cell), (∀ p ∈ ps, OkP span p) ∧ (ps.length : Int) ≤ upto ∧ JarC x' ∧ (callN t (k + 4) iW [.ref n, .int span, .int upto] M).bind (fun d M1 => frz M.length d M1) = .ok (.lst false (ps.map pD)) (M.set n x') := by
  have hn := lt_of hM
  have hc : callN t (k + 4) iW [.ref n, .int span, .int upto] M = fnD NWeb (dWeb iT iP iG iU) [.ref n, .int span, .int upto] M (callN t (k + 3)) := by
    show (match t iW with | some (N, body) => fnD N body [.ref n, .int span, .int upto] M (callN t (k + 3)) | none => .bad) = _
    rw [hW]
  rw [hc]
  obtain ⟨so, x1, a1, a2, a3⟩ := take_nat hT (k + 2) hM hx (many := 6) (by decide) (by decide)
  have hl : (1000 : Nat) ≤ sizeLine := by rw [sizeLine_eq]; decide
  by_cases s0 : so = 0
  · obtain ⟨m, x2, b1, b2, b3⟩ := take_nat hT (k + 2) (get_set hn) a2 (many := upto + 1) (by omega) (by omega)
    rw [List.set_set] at b3
    obtain ⟨ps, x3, c1, c2, c3, c4⟩ := draws_ok hT hP (k + 1) h1 (by omega) (r2 := some (.int upto)) (r3 := some (.int 0)) (r4 := none) (r6 := none) ((List.range m).map fun i => .int (i : Nat)) (M.set n x2) x2 (get_set hn) b2
    rw [List.set_set] at c4
    have c5 : ps.length = m := by rw [c2, List.length_map, List.length_range]
    refine ⟨ps, x3, c1, by omega, c3, ?_⟩
    subst s0
    have hm3 : m ≤ sizeLine := by omega
    have ff := pDs_free ps
    have rg : iRg1 (aCons (cCall iT 2 (aCons (cVar 0) (aCons (cBin addD (cVar 2) (cC (.int 1))) aNil))) aNil) (callN t (k + 3)) [some (.ref n), some (.int span), some (.int upto), some (.int 0), none, none, none] (M.set n x1) = .ok ⟨(List.range m).map fun i => .int (i : Nat), fun _ => True⟩ (M.set n x2) :=
      rg1_nat (by simp [b3]) (by omega)
    have lc : cLc false [5] (iRg1 (aCons (cCall iT 2 (aCons (cVar 0) (aCons (cBin addD (cVar 2) (cC (.int 1))) aNil))) aNil)) (gNm 5) tYesD (cCall iP 2 (aCons (cVar 0) (aCons (cVar 1) aNil))) (callN t (k + 3)) [some (.ref n), some (.int span), some (.int upto), some (.int 0), none, none, none] (M.set n x1) = .ok (.lst false (ps.map pD)) (M.set n x3) := by
      rw [ap_lc, rg, R.ok_bind, if_pos (by rw [List.length_map, List.length_range]; exact hm3)]
      have w : wipeD [some (.ref n), some (.int span), some (.int upto), some (.int 0), none, none, none] [5] = [some (.ref n), some (.int span), some (.int upto), some (.int 0), none, none, none] := rfl
      rw [w, c4, R.ok_bind, newF]
    have e3 : callN t (k + 3) iT [.ref n, .int 6] M = .ok (.int 0) (M.set n x1) := a3
    have hb : dWeb iT iP iG iU (callN t (k + 3)) [some (.ref n), some (.int span), some (.int upto), none, none, none, none] M = .ok (.rt (.lst false (ps.map pD))) [some (.ref n), some (.int span), some (.int upto), some (.int 0), none, none, none] (M.set n x3) := by
      unfold dWeb
      simp only [ap_seq, ap_set, ap_if, ap_ret, ap_call, ap_acons, ap_anil, ap_var, ap_c, ap_cmp, sl0, slS, se0, seS, R.opt_some, R.ok_bind, List.length_cons, List.length_nil, e3, SR.of_ok, SR.seq_nx, view_int', cEq_i, decide_true, if_true, lc, SR.seq_rt]
    have hst : startD NWeb [.ref n, .int span, .int upto] = [some (.ref n), some (.int span), some (.int upto), none, none, none, none] := rfl
    unfold fnD
    rw [hst, hb, fin_lst _ _ _ _ _ ff, take_set_len]
    rfl
  · obtain ⟨ps, x2, g1, g2, g3, g4⟩ := grown_sp hT hE hMx hG k (get_set hn) a2 h1 (by omega)
    rw [List.set_set, List.length_set] at g4
    have hst : startD NWeb [.ref n, .int span, .int upto] = [some (.ref n), some (.int span), some (.int upto), none, none, none, none] := rfl
    have s0' : ((so : Nat) : Int) ≠ 0 := by omega
    have e0 : dWeb iT iP iG iU (callN t (k + 3)) [some (.ref n), some (.int span), some (.int upto), none, none, none, none] M =
        (sSeq (sIf (tCmp .Eq (cVar 3) (cC (.int 1))) (dWeb1 iT iP) sNil) (sSeq (sIf (tCmp .Eq (cVar 3) (cC (.int 2))) (dWeb2 iT) sNil) (sSeq (sIf (tCmp .Eq (cVar 3) (cC (.int 3))) (dWeb3 iT) sNil) (sSeq (sIf (tCmp .Eq (cVar 3) (cC (.int 4))) (dWeb4 iT iP iU) sNil) (sRet (cVar 4))))))
          (callN t (k + 3)) [some (.ref n), some (.int span), some (.int upto), some (.int (so : Int)), some (.ref M.length), none, none] (M.set n x2 ++ [.lst (ps.map pD)]) := by
      unfold dWeb
      rw [ap_seq, ap_set, ap_call]
      simp only [ap_acons, ap_anil, ap_var, ap_c, sl0, R.opt_some, R.ok_bind, List.length_cons, List.length_nil, Nat.zero_add, Nat.reduceAdd, if_true, a3, SR.of_ok, se0, seS, SR.seq_nx]
      rw [ap_seq, if_skip (i := (so : Int)) rfl s0', SR.seq_nx, ap_seq, ap_set, ap_call]
      simp only [ap_acons, ap_anil, ap_var, ap_c, sl0, slS, R.opt_some, R.ok_bind, List.length_cons, List.length_nil, Nat.zero_add, Nat.reduceAdd, if_true, g4, SR.of_ok, se0, seS, SR.seq_nx]
    unfold fnD
    rw [hst, e0]
    have ret : ∀ {d : D} {w3 w5 w6 : Option D} {M' : Mem}, sRet (cVar 4) (callN t (k + 3)) [some (.ref n), some (.int span), some (.int upto), w3, some d, w5, w6] M' = .ok (.rt d) [some (.ref n), some (.int span), some (.int upto), w3, some d, w5, w6] M' := fun {d w3 w5 w6 M'} => rfl
    have c5 : so = 1 ∨ so = 2 ∨ so = 3 ∨ so = 4 ∨ so = 5 := by omega
    rcases c5 with rfl | rfl | rfl | rfl | rfl
    · obtain ⟨qs, x3, M', q1, q2, q3, q4, q5⟩ := web1_ok hT hP k (upto := upto) (v3 := some (.int ((1 : Nat) : Int))) (v5 := none) (v6 := none) hn g3 h1 (by omega) g1 g2
      refine ⟨qs, x3, q1, by omega, q3, ?_⟩
      rw [ap_seq, show sIf (tCmp .Eq (cVar 3) (cC (.int 1))) (dWeb1 iT iP) sNil (callN t (k + 3)) _ _ = _ from if_do (i := 1) rfl, q5, SR.seq_nx, ap_seq, if_skip (i := 1) rfl (by decide), SR.seq_nx, ap_seq, if_skip (i := 1) rfl (by decide), SR.seq_nx, ap_seq, if_skip (i := 1) rfl (by decide), SR.seq_nx, ret]
      exact q4.fin rfl
    · obtain ⟨qs, x3, M', v4, w5, q1, q2, q3, q4, q5⟩ := web2_ok hT k (upto := upto) (v3 := some (.int ((2 : Nat) : Int))) (v5 := none) (v6 := none) hn g3 g1 g2
      refine ⟨qs, x3, q1, by omega, q3, ?_⟩
      rw [ap_seq, if_skip (i := 2) rfl (by decide), SR.seq_nx, ap_seq, show sIf (tCmp .Eq (cVar 3) (cC (.int 2))) (dWeb2 iT) sNil (callN t (k + 3)) _ _ = _ from if_do (i := 2) rfl, q5, SR.seq_nx, ap_seq, if_skip (i := 2) rfl (by decide), SR.seq_nx, ap_seq, if_skip (i := 2) rfl (by decide), SR.seq_nx, ret]
      exact q4.fin rfl
    · obtain ⟨qs, x3, M', w6, q1, q2, q3, q4, q5⟩ := web3_ok hT k (upto := upto) (v3 := some (.int ((3 : Nat) : Int))) (v5 := none) (v6 := none) hn g3 h1 (by omega) g1 g2
      refine ⟨qs, x3, q1, by omega, q3, ?_⟩
      rw [ap_seq, if_skip (i := 3) rfl (by decide), SR.seq_nx, ap_seq, if_skip (i := 3) rfl (by decide), SR.seq_nx, ap_seq, show sIf (tCmp .Eq (cVar 3) (cC (.int 3))) (dWeb3 iT) sNil (callN t (k + 3)) _ _ = _ from if_do (i := 3) rfl, q5, SR.seq_nx, ap_seq, if_skip (i := 3) rfl (by decide), SR.seq_nx, ret]
      exact q4.fin rfl
    · obtain ⟨qs, x3, M', v4, w5, q1, q2, q3, q4, q5⟩ := web4_ok hT hP hU k (upto := upto) (v3 := some (.int ((4 : Nat) : Int))) (v5 := none) (v6 := none) hn g3 h1 h2 h3 g1 g2
      refine ⟨qs, x3, q1, by omega, q3, ?_⟩
      rw [ap_seq, if_skip (i := 4) rfl (by decide), SR.seq_nx, ap_seq, if_skip (i := 4) rfl (by decide), SR.seq_nx, ap_seq, if_skip (i := 4) rfl (by decide), SR.seq_nx, ap_seq, show sIf (tCmp .Eq (cVar 3) (cC (.int 4))) (dWeb4 iT iP iU) sNil (callN t (k + 3)) _ _ = _ from if_do (i := 4) rfl, q5, SR.seq_nx, ret]
      exact q4.fin rfl
    · refine ⟨ps, x2, g1, by omega, g3, ?_⟩
      rw [ap_seq, if_skip (i := 5) rfl (by decide), SR.seq_nx, ap_seq, if_skip (i := 5) rfl (by decide), SR.seq_nx, ap_seq, if_skip (i := 5) rfl (by decide), SR.seq_nx, ap_seq, if_skip (i := 5) rfl (by decide), SR.seq_nx, ret]
      exact Held.fin rfl ⟨_, rfl, .inr ⟨rfl, rfl⟩⟩
end
end Vm

namespace Vm
open PySem PySem.Spec L2
@[simp] theorem view_pD (M : Mem) (p : Int × Int) : view M (pD p) = pD p := rfl
section
variable {t : Tbl} {iI iD iS iC iJ iG iA : Nat}
theorem callN_of {i : Nat} {N : List Str} {b : SDen} (h : t i = some (N, b)) (k : Nat) (ds : List D) (M : Mem) : callN t (k + 1) i ds M = fnD N b ds M (callN t k) := by
  show (match t i with | some (N, body) => fnD N body ds M (callN t k) | none => .bad) = _
  rw [h]
def NIsInt : List Str := ["value"]
noncomputable def dIsInt : SDen :=
  (sRet (cAnd (cIs "int" (cVar 0)) (cNot (cIs "bool" (cVar 0)))))
theorem isint_sp (h : t iI = some (NIsInt, dIsInt)) (k : Nat) (v : Int) (M : Mem) : callN t (k + 1) iI [.int v] M = .ok (.bl true) M := by
  rw [callN_of h]
  simp [fnD, dIsInt, startD, NIsInt]
def NIsDiff : List Str := ["shafts", "value"]
noncomputable def dIsDiff (iI : Nat) : SDen :=
  (sSeq (sIf (tOr (tNot (tTru (cIs "tuple" (cVar 1)))) (tCmp .NotEq (cBlt bLen (aCons (cVar 1) aNil)) (cC (.int 2)))) (sRet (cC (.bl false))) sNil) (sSeq (sIf (tOr (tNot (tTru (cPure iI 1 (aCons (cIx (cVar 1) (cC (.int 0))) aNil)))) (tNot (tTru (cPure iI 1 (aCons (cIx (cVar 1) (cC (.int 1))) aNil))))) (sRet (cC (.bl false))) sNil) (sRet (cAnd (cChain .LtE .LtE (cC (.int 0)) (cIx (cVar 1) (cC (.int 0))) (cVar 0)) (cAnd (cChain .LtE .LtE (cC (.int 0)) (cIx (cVar 1) (cC (.int 1))) (cVar 0)) (cBin (cmpD .NotEq) (cIx (cVar 1) (cC (.int 0))) (cIx (cVar 1) (cC (.int 1)))))))))
theorem isdiff_sp (hI : t iI = some (NIsInt, dIsInt)) (h : t iD = some (NIsDiff, dIsDiff iI)) (k : Nat) {span : Int} {p : Int × Int} (hp : OkP span p) : callN t (k + 2) iD [.int span, pD p] [] = .ok (.bl true) [] := by
  obtain ⟨h1, h2, h3, h4, h5⟩ := hp
  have e := fun v => isint_sp hI k v []
  rw [callN_of h]
  simp [fnD, dIsDiff, startD, NIsDiff, pD, at0, at1, e, h1, h2, h3, h4, h5, ap_nil]
def NCheckS : List Str := ["shafts"]
noncomputable def dCheckS (iI : Nat) : SDen :=
  (sIf (tOr (tNot (tTru (cPure iI 1 (aCons (cVar 0) aNil)))) (tCmp .Lt (cVar 0) (cC (.int 1)))) sBad sNil)
theorem checkS_sp (hI : t iI = some (NIsInt, dIsInt)) (h : t iS = some (NCheckS, dCheckS iI)) (k : Nat) {span : Int} (hp : 1 ≤ span) : callN t (k + 2) iS [.int span] [] = .ok .non [] := by
  have e := fun v => isint_sp hI k v []
  have : ¬ span < 1 := by omega
  rw [callN_of h]
  simp [fnD, dCheckS, startD, NCheckS, e, this, ap_nil]
def NCheckD : List Str := ["shafts", "differences", "pair"]
noncomputable def dCheckDB (iD : Nat) : SDen := (sIf (tNot (tTru (cPure iD 2 (aCons (cVar 0) (aCons (cVar 2) aNil))))) sBad sNil)
noncomputable def dCheckD (iD : Nat) : SDen :=
  (sSeq (sIf (tNot (tTru (cIs "list" (cVar 1)))) sBad sNil) (sFor (gNm 2) (iSeq (cVar 1)) (dCheckDB iD)))
theorem checkD_sp (hI : t iI = some (NIsInt, dIsInt)) (hD : t iD = some (NIsDiff, dIsDiff iI)) (h : t iC = some (NCheckD, dCheckD iD)) (k : Nat) {span : Int} {ps : List (Int × Int)} (hp : ∀ p ∈ ps, OkP span p) (b : Bool) : callN t (k + 3) iC [.int span, .lst b (ps.map pD)] [] = .ok .non [] := by
  rw [callN_of h]
  obtain ⟨ρ', M', hf, w, rfl, rfl⟩ := forL_inv (cal := callN t (k + 2)) (t := gNm 2) (b := dCheckDB iD) (chk := fun _ => True)
    (fun _ ρ M' => ∃ w : Option D, ρ = [some (.int span), some (.lst b (ps.map pD)), w] ∧ M' = [])
    (ds := ps.map pD) (fun i ρ M' d hh hd => by
      obtain ⟨w, rfl, rfl⟩ := hh
      rw [List.getElem?_map] at hd
      obtain ⟨p, hp1, rfl⟩ := Option.map_eq_some_iff.mp hd
      have e := isdiff_sp hI hD k (hp p (List.mem_of_getElem? hp1))
      have eb : dCheckDB iD (callN t (k + 2)) [some (.int span), some (.lst b (ps.map pD)), some (pD p)] [] = .ok .nx [some (.int span), some (.lst b (ps.map pD)), some (pD p)] [] := by simp [dCheckDB, e, ap_nil]
      exact ⟨trivial, _, rfl, _, _, .inl eb, some (pD p), rfl, rfl⟩) (fun _ _ _ => trivial)
    (ρ := [some (.int span), some (.lst b (ps.map pD)), none]) (M := []) ⟨_, rfl, rfl⟩
  simp [fnD, dCheckD, startD, NCheckD, ap_nil, hf]
def NJoined : List Str := ["labels", "pair", "low", "high", "label"]
noncomputable def dJoined : SDen :=
  (sSeq (sSet 2 (cBlt bMin (aCons (cIx (cVar 0) (cIx (cVar 1) (cC (.int 0)))) (aCons (cIx (cVar 0) (cIx (cVar 1) (cC (.int 1)))) aNil)))) (sSeq (sSet 3 (cBlt bMax (aCons (cIx (cVar 0) (cIx (cVar 1) (cC (.int 0)))) (aCons (cIx (cVar 0) (cIx (cVar 1) (cC (.int 1)))) aNil)))) (sRet (cLc false [4] (iSeq (cVar 0)) (gNm 4) tYesD (cIf (tCmp .Eq (cVar 4) (cVar 3)) (cVar 2) (cVar 4))))))
def joinI (x y : Int) (ls : List Int) : List Int := ls.map fun l => if l = (if y > x then y else x) then (if y < x then y else x) else l
theorem joined_sp (h : t iJ = some (NJoined, dJoined)) (k : Nat) {ls : List Int} {a b : Nat} {x y : Int} (ha : ls[a]? = some x) (hb : ls[b]? = some y) (hz : ls.length ≤ 100000) (bb : Bool) : callN t (k + 1) iJ [.lst bb (ls.map D.int), pD ((a : Int), (b : Int))] [] = .ok (.lst false ((joinI x y ls).map D.int)) [] := by
  rw [callN_of h]
  have h1 : atI (ls.map D.int) (a : Int) = some (.int x) := by rw [at_nat, List.getElem?_map, ha]; rfl
  have h2 : atI (ls.map D.int) (b : Int) = some (.int y) := by rw [at_nat, List.getElem?_map, hb]; rfl
  generalize hlo : (if y < x then y else x) = lo
  generalize hhi : (if y > x then y else x) = hi
  have hl : ls.length ≤ sizeLine := by rw [sizeLine_eq]; omega
  have cm : compL (fun _ => True) (gNm 4) tYesD (cIf (tCmp .Eq (cVar 4) (cVar 3)) (cVar 2) (cVar 4)) (ls.map D.int) (callN t k) [some (.lst bb (ls.map D.int)), some (pD ((a : Int), (b : Int))), some (.int lo), some (.int hi), none] [] = .ok ((joinI x y ls).map D.int) [] := by
    have := comp_fm (chk := fun _ => True) (t := gNm 4) (c := tYesD) (e := cIf (tCmp .Eq (cVar 4) (cVar 3)) (cVar 2) (cVar 4)) (cal := callN t k) (ρ := [some (.lst bb (ls.map D.int)), some (pD ((a : Int), (b : Int))), some (.int lo), some (.int hi), none]) (M := []) (fun _ => true) (fun d => match d with | .int l => .int (if l = hi then lo else l) | d => d) trivial (ds := ls.map D.int) (fun d hd => by
      obtain ⟨l, _, rfl⟩ := List.mem_map.mp hd
      refine ⟨_, rfl, rfl, fun _ => ?_⟩
      by_cases hh : l = hi
      · simp [hh]
      · simp [hh])
    rw [this]
    unfold joinI
    rw [hlo, hhi, List.filter_eq_self.mpr (fun _ _ => rfl), List.map_map, List.map_map]
    rfl
  have ff : frees ((joinI x y ls).map D.int) = true := free_ints _
  have e2 : (if x < y then y else x) = hi := hhi
  simp [fnD, dJoined, startD, NJoined, pD, at0, at1, h1, h2, hlo, hhi, e2, hl, wipeD]
  simp only [pD] at cm
  simp [cm, ff]
def NGroup : List Str := ["shafts", "differences", "labels", "pair"]
noncomputable def dGroup (iJ : Nat) : SDen :=
  (sSeq (sSet 2 (cLsRg1 false (cBin addD (cVar 0) (cC (.int 1))))) (sSeq (sFor (gNm 3) (iSeq (cVar 1)) (sSet 2 (cPure iJ 2 (aCons (cVar 2) (aCons (cVar 3) aNil))))) (sRet (cVar 2))))
/-- who is joined to whom -/
inductive Conn (ps : List (Int × Int)) : Int → Int → Prop
  | refl (a : Int) : Conn ps a a
  | fw {a b c : Int} (h : Conn ps a b) (e : (b, c) ∈ ps) : Conn ps a c
  | bw {a b c : Int} (h : Conn ps a b) (e : (c, b) ∈ ps) : Conn ps a c
theorem Conn.trans {ps : List (Int × Int)} {a b c : Int} (h : Conn ps a b) (g : Conn ps b c) : Conn ps a c := by
  induction g with
  | refl => exact h
  | fw _ e ih => exact .fw ih e
  | bw _ e ih => exact .bw ih e
theorem Conn.symm {ps : List (Int × Int)} {a b : Int} (h : Conn ps a b) : Conn ps b a := by
  induction h with
  | refl => exact .refl _
  | fw _ e ih => exact Conn.trans (.bw (.refl _) e) ih
  | bw _ e ih => exact Conn.trans (.fw (.refl _) e) ih
theorem Conn.mono {ps qs : List (Int × Int)} (hm : ∀ p ∈ ps, p ∈ qs) {a b : Int} (h : Conn ps a b) : Conn qs a b := by
  induction h with
  | refl => exact .refl _
  | fw _ e ih => exact .fw ih (hm _ e)
  | bw _ e ih => exact .bw ih (hm _ e)
/-- what is constant along the pairs is constant on what is joined -/
theorem Conn.const {ps : List (Int × Int)} {α : Type} (f : Int → α) (h : ∀ p ∈ ps, f p.1 = f p.2) {a b : Int} (c : Conn ps a b) : f a = f b := by
  induction c with
  | refl => rfl
  | fw _ e ih => exact ih.trans (h _ e)
  | bw _ e ih => exact ih.trans (h _ e).symm
/-- the labels after so many pairs -/
structure Labs (m : Nat) (ps : List (Int × Int)) (ls : List Int) : Prop where
  len : ls.length = m
  low : ∀ (i : Nat) (x : Int), ls[i]? = some x → 0 ≤ x ∧ x ≤ (i : Int)
  edge : ∀ p ∈ ps, ls[p.1.toNat]? = ls[p.2.toNat]?
  conn : ∀ (i j : Nat) (x : Int), ls[i]? = some x → ls[j]? = some x → Conn ps (i : Int) (j : Int)
theorem labs0 (m : Nat) : Labs m [] ((List.range m).map fun i => ((i : Nat) : Int)) := by
  have g : ∀ (i : Nat) (x : Int), ((List.range m).map fun i => ((i : Nat) : Int))[i]? = some x → x = i := fun i x h => by
    rw [List.getElem?_map] at h
    obtain ⟨j, h1, h2⟩ := Option.map_eq_some_iff.mp h
    obtain ⟨h3, h4⟩ := List.getElem?_eq_some_iff.mp h1
    rw [List.getElem_range] at h4
    omega
  refine ⟨by simp, fun i x h => by rw [g i x h]; omega, fun p hp => absurd hp List.not_mem_nil, fun i j x h1 h2 => ?_⟩
  have := g i x h1
  have := g j x h2
  have e : i = j := by omega
  rw [e]; exact .refl _
theorem labs_join {m : Nat} {ps : List (Int × Int)} {ls : List Int} {a b : Nat} {x y : Int} (L : Labs m ps ls) (hp : ∀ p ∈ ps, 0 ≤ p.1 ∧ p.1 < m ∧ 0 ≤ p.2 ∧ p.2 < m) (ha : ls[a]? = some x) (hb : ls[b]? = some y) : Labs m (ps ++ [((a : Int), (b : Int))]) (joinI x y ls) := by
  generalize hlo : (if y < x then y else x) = lo
  generalize hhi : (if y > x then y else x) = hi
  have ej : joinI x y ls = ls.map fun l => if l = hi then lo else l := by unfold joinI; rw [hlo, hhi]
  have lohi : lo ≤ hi := by
    rw [← hlo, ← hhi]
    split <;> split <;> omega
  have both : (x = hi ∧ y = lo) ∨ (x = lo ∧ y = hi) := by
    rw [← hlo, ← hhi]
    by_cases h1 : y < x
    · left; rw [if_pos h1, if_neg (by omega)]; exact ⟨rfl, rfl⟩
    · by_cases h2 : y > x
      · right; rw [if_neg h1, if_pos h2]; exact ⟨rfl, rfl⟩
      · right; rw [if_neg h1, if_neg h2]; exact ⟨rfl, by omega⟩
  have gj : ∀ (i : Nat) (z : Int), (joinI x y ls)[i]? = some z → ∃ l, ls[i]? = some l ∧ z = if l = hi then lo else l := fun i z h => by
    rw [ej, List.getElem?_map] at h
    obtain ⟨l, h1, h2⟩ := Option.map_eq_some_iff.mp h
    exact ⟨l, h1, h2.symm⟩
  have lo0 : 0 ≤ lo := by
    have := L.low a x ha
    have := L.low b y hb
    rcases both with ⟨_, h⟩ | ⟨h, _⟩ <;> omega
  have mono : ∀ {u v : Int}, Conn ps u v → Conn (ps ++ [((a : Int), (b : Int))]) u v := fun h => h.mono fun p hp => List.mem_append_left _ hp
  have ab : Conn (ps ++ [((a : Int), (b : Int))]) (a : Int) (b : Int) := .fw (.refl _) (List.mem_append_right _ (List.mem_singleton.mpr rfl))
  refine ⟨by rw [ej, List.length_map]; exact L.len, fun i z h => ?_, fun p hp' => ?_, fun i j z h1 h2 => ?_⟩
  · obtain ⟨l, h1, rfl⟩ := gj i z h
    have := L.low i l h1
    split
    · omega
    · exact this
  · rcases List.mem_append.mp hp' with h | h
    · rw [ej, List.getElem?_map, List.getElem?_map, L.edge p h]
    · rw [List.mem_singleton.mp h]
      show (joinI x y ls)[(a : Int).toNat]? = (joinI x y ls)[(b : Int).toNat]?
      rw [Int.toNat_natCast, Int.toNat_natCast, ej, List.getElem?_map, List.getElem?_map, ha, hb]
      rcases both with ⟨h1, h2⟩ | ⟨h1, h2⟩
      · rw [h1, h2]; simp
      · rw [h1, h2]; simp
  · obtain ⟨l1, g1, e1⟩ := gj i z h1
    obtain ⟨l2, g2, e2⟩ := gj j z h2
    -- who bears hi is joined to who bears lo
    have hl : ∀ (u v : Nat), ls[u]? = some hi → ls[v]? = some lo → Conn (ps ++ [((a : Int), (b : Int))]) (u : Int) (v : Int) := fun u v hu hv => by
      rcases both with ⟨h3, h4⟩ | ⟨h3, h4⟩
      · exact ((mono (L.conn u a hi hu (h3 ▸ ha))).trans ab).trans (mono (L.conn b v lo (h4 ▸ hb) hv))
      · exact ((mono (L.conn u b hi hu (h4 ▸ hb))).trans ab.symm).trans (mono (L.conn a v lo (h3 ▸ ha) hv))
    by_cases c1 : l1 = hi
    · by_cases c2 : l2 = hi
      · exact mono (L.conn i j hi (c1 ▸ g1) (c2 ▸ g2))
      · rw [if_pos c1] at e1
        rw [if_neg c2] at e2
        exact hl i j (c1 ▸ g1) (by rw [g2, ← e2, e1])
    · by_cases c2 : l2 = hi
      · rw [if_neg c1] at e1
        rw [if_pos c2] at e2
        exact (hl j i (c2 ▸ g2) (by rw [g1, ← e1, e2])).symm
      · rw [if_neg c1] at e1
        rw [if_neg c2] at e2
        exact mono (L.conn i j z (by rw [g1, e1]) (by rw [g2, e2]))
theorem group_fin {cal : Cal} {sp : Int} {ds ls : List D} {w : Option D} {b : Bool} (l1 : lsOk (sp + 1)) (hf : forL (fun _ => True) (gNm 3) (sSet 2 (cPure iJ 2 (aCons (cVar 2) (aCons (cVar 3) aNil)))) ds cal [some (.int sp), some (.lst b ds), some (.lst false (rgD 0 (sp + 1))), none] [] = .ok .nx [some (.int sp), some (.lst b ds), some (.lst false ls), w] []) (ff : frees ls = true) :
    fnD NGroup (dGroup iJ) [.int sp, .lst b ds] [] cal = .ok (.lst false ls) [] := by
  simp [fnD, dGroup, startD, NGroup, l1, hf, ff]
theorem group_sp (hJ : t iJ = some (NJoined, dJoined)) (h : t iG = some (NGroup, dGroup iJ)) (k : Nat) {span : Nat} (hs : span < 1000) {ps : List (Int × Int)} (hp : ∀ p ∈ ps, OkP span p) (b : Bool) :
    ∃ ls : List Int, Labs (span + 1) ps ls ∧ callN t (k + 2) iG [.int (span : Int), .lst b (ps.map pD)] [] = .ok (.lst false (ls.map D.int)) [] := by
  rw [callN_of h]
  have r0 : rgD 0 ((span : Int) + 1) = ((List.range (span + 1)).map fun i => ((i : Nat) : Int)).map D.int := by
    unfold rgD
    rw [List.map_map, show ((span : Int) + 1 - 0).toNat = span + 1 by omega]
    exact List.map_congr_left fun i _ => by show D.int (0 + (i : Int)) = D.int (i : Int); rw [Int.zero_add]
  obtain ⟨ρ', M', hf, ls, w, rfl, rfl, L⟩ := forL_inv (cal := callN t (k + 1)) (t := gNm 3) (b := sSet 2 (cPure iJ 2 (aCons (cVar 2) (aCons (cVar 3) aNil)))) (chk := fun _ => True)
    (fun i ρ M' => ∃ (ls : List Int) (w : Option D), ρ = [some (.int (span : Int)), some (.lst b (ps.map pD)), some (.lst false (ls.map D.int)), w] ∧ M' = [] ∧ Labs (span + 1) (ps.take i) ls)
    (ds := ps.map pD) (fun i ρ M' d hh hd => by
      obtain ⟨ls, w, rfl, rfl, L⟩ := hh
      rw [List.getElem?_map] at hd
      obtain ⟨p, hp1, rfl⟩ := Option.map_eq_some_iff.mp hd
      have hpo := hp p (List.mem_of_getElem? hp1)
      obtain ⟨a, ea⟩ := Int.eq_ofNat_of_zero_le hpo.a0
      obtain ⟨c, ec⟩ := Int.eq_ofNat_of_zero_le hpo.b0
      have epp : p = ((a : Int), (c : Int)) := Prod.ext ea ec
      have ha1 := hpo.a1
      have hb1 := hpo.b1
      have la : a < ls.length := by rw [L.len]; omega
      have lc : c < ls.length := by rw [L.len]; omega
      have ga := List.getElem?_eq_getElem la
      have gc := List.getElem?_eq_getElem lc
      have e := joined_sp hJ k ga gc (by rw [L.len]; omega) false
      have cl : cleans ((joinI ls[a] ls[c] ls).map D.int) = true := by
        generalize joinI ls[a] ls[c] ls = zs
        induction zs with
        | nil => rfl
        | cons z zs ih => show (true && cleans (zs.map D.int)) = true; rw [ih]; rfl
      have eb : sSet 2 (cPure iJ 2 (aCons (cVar 2) (aCons (cVar 3) aNil))) (callN t (k + 1)) [some (.int (span : Int)), some (.lst b (ps.map pD)), some (.lst false (ls.map D.int)), some (pD p)] [] = .ok .nx [some (.int (span : Int)), some (.lst b (ps.map pD)), some (.lst false ((joinI ls[a] ls[c] ls).map D.int)), some (pD p)] [] := by
        rw [epp]
        simp [e, lift_l cl]
      refine ⟨trivial, _, rfl, _, _, .inl eb, _, _, rfl, rfl, ?_⟩
      have et : ps.take (i + 1) = ps.take i ++ [((a : Int), (c : Int))] := by
        rw [List.take_add_one, hp1, epp]; rfl
      rw [et]
      exact labs_join L (fun q hq => by
        have := hp q (List.mem_of_mem_take hq)
        exact ⟨this.a0, by have := this.a1; omega, this.b0, by have := this.b1; omega⟩) ga gc) (fun _ _ _ => trivial)
    (ρ := [some (.int (span : Int)), some (.lst b (ps.map pD)), some (.lst false (rgD 0 ((span : Int) + 1))), none]) (M := []) ⟨_, _, by rw [r0], rfl, labs0 _⟩
  rw [List.length_map, List.take_length] at L
  refine ⟨ls, L, ?_⟩
  exact group_fin (lsOk_of (by omega) (by omega)) hf (free_ints _)
def NApart : List Str := ["shafts", "differences", "labels", "k"]
noncomputable def dApart (iS iC iG : Nat) : SDen :=
  (sSeq (sExpr (cPure iS 1 (aCons (cVar 0) aNil))) (sSeq (sExpr (cPure iC 2 (aCons (cVar 0) (aCons (cVar 1) aNil)))) (sSeq (sSet 2 (cPure iG 2 (aCons (cVar 0) (aCons (cVar 1) aNil)))) (sRet (cLc true [3] (iRg1 (aCons (cBin addD (cVar 0) (cC (.int 1))) aNil)) (gNm 3) (tCmp .NotEq (cIx (cVar 2) (cVar 3)) (cC (.int 0))) (cVar 3))))))
theorem labs_zero {m : Nat} {ps : List (Int × Int)} {ls : List Int} (L : Labs m ps ls) (hp : ∀ p ∈ ps, 0 ≤ p.1 ∧ 0 ≤ p.2) {i : Nat} (h0 : 0 < m) {x : Int} (hx : ls[i]? = some x) : x = 0 ↔ Conn ps 0 (i : Int) := by
  have l0 : ls[0]? = some 0 := by
    have hl : 0 < ls.length := by rw [L.len]; exact h0
    have := L.low 0 ls[0] (List.getElem?_eq_getElem hl)
    rw [List.getElem?_eq_getElem hl]
    congr 1
    omega
  constructor
  · intro h
    subst h
    exact L.conn 0 i 0 l0 hx
  · intro h
    have := h.const (fun z => ls[z.toNat]?) L.edge
    have e : ls[(0 : Int).toNat]? = ls[((i : Nat) : Int).toNat]? := this
    rw [Int.toNat_natCast] at e
    rw [show (0 : Int).toNat = 0 from rfl, l0, hx] at e
    exact (Option.some.inj e).symm
theorem apart_fin {cal : Cal} {sp : Int} {ds zs : List D} {ls : List Int} {b : Bool} {m : Nat} (e1 : cal iS [.int sp] [] = .ok .non []) (e2 : cal iC [.int sp, .lst b ds] [] = .ok .non []) (e3 : cal iG [.int sp, .lst b ds] [] = .ok (.lst false (ls.map D.int)) []) (fd : frees ds = true)
    (rg : iRg1 (aCons (cBin addD (cVar 0) (cC (.int 1))) aNil) cal [some (.int sp), some (.lst b ds), some (.lst false (ls.map D.int)), none] [] = .ok ⟨(List.range m).map fun i => .int (i : Nat), fun _ => True⟩ []) (hm : m ≤ sizeLine)
    (cm : compL (fun _ => True) (gNm 3) (tCmp .NotEq (cIx (cVar 2) (cVar 3)) (cC (.int 0))) (cVar 3) ((List.range m).map fun i => .int (i : Nat)) cal [some (.int sp), some (.lst b ds), some (.lst false (ls.map D.int)), none] [] = .ok zs []) (fz : frees zs = true) :
    fnD NApart (dApart iS iC iG) [.int sp, .lst b ds] [] cal = .ok (.ref 0) [.lst zs] := by
  have cl := lift_l (M := []) (cleans_ints ls)
  have lc : cLc true [3] (iRg1 (aCons (cBin addD (cVar 0) (cC (.int 1))) aNil)) (gNm 3) (tCmp .NotEq (cIx (cVar 2) (cVar 3)) (cC (.int 0))) (cVar 3) cal [some (.int sp), some (.lst b ds), some (.lst false (ls.map D.int)), none] [] = .ok (.ref 0) [.lst zs] := by
    rw [ap_lc, rg, R.ok_bind, if_pos (by rw [List.length_map, List.length_range]; exact hm)]
    have w : wipeD [some (.int sp), some (.lst b ds), some (.lst false (ls.map D.int)), none] [3] = [some (.int sp), some (.lst b ds), some (.lst false (ls.map D.int)), none] := rfl
    rw [w, cm, R.ok_bind]
    exact newB [] fz
  have fr := fin_ref 0 (.lst zs) 0 [some (.int sp), some (.lst b ds), some (.lst false (ls.map D.int)), none] [.lst zs] (Nat.le_refl _) rfl
  have hst : startD NApart [.int sp, .lst b ds] = [some (.int sp), some (.lst b ds), none, none] := rfl
  have ff : frees (ls.map D.int) = true := free_ints _
  unfold fnD dApart
  rw [hst]
  revert lc
  generalize (cLc true [3] (iRg1 (aCons (cBin addD (cVar 0) (cC (.int 1))) aNil)) (gNm 3) (tCmp .NotEq (cIx (cVar 2) (cVar 3)) (cC (.int 0))) (cVar 3)) = F
  intro lc
  simp [e1, e2, e3, fd, cl, lc]
  exact fr
theorem apart_sp (hI : t iI = some (NIsInt, dIsInt)) (hD : t iD = some (NIsDiff, dIsDiff iI)) (hS : t iS = some (NCheckS, dCheckS iI)) (hC : t iC = some (NCheckD, dCheckD iD)) (hJ : t iJ = some (NJoined, dJoined)) (hG : t iG = some (NGroup, dGroup iJ)) (h : t iA = some (NApart, dApart iS iC iG)) (k : Nat) {span : Nat} (h1 : 1 ≤ span) (hs : span < 1000) {ps : List (Int × Int)} (hp : ∀ p ∈ ps, OkP span p) (b : Bool) :
    ∃ f : Nat → Bool, (∀ i, i ≤ span → (f i = true ↔ ¬ Conn ps 0 (i : Int))) ∧ callN t (k + 4) iA [.int (span : Int), .lst b (ps.map pD)] [] = .ok (.ref 0) [.lst (((List.range (span + 1)).filter f).map fun i => .int ((i : Nat) : Int))] := by
  obtain ⟨ls, L, e3⟩ := group_sp hJ hG (k + 1) hs hp b
  have e1 := checkS_sp hI hS (k + 1) (span := (span : Int)) (by omega)
  have e2 := checkD_sp hI hD hC k hp b
  have gl : ∀ i, i < span + 1 → ∃ x, ls[i]? = some x := fun i hi => ⟨_, List.getElem?_eq_getElem (by rw [L.len]; exact hi)⟩
  refine ⟨fun i => decide (ls[i]? ≠ some 0), fun i hi => ?_, ?_⟩
  · obtain ⟨x, hx⟩ := gl i (by omega)
    have z := labs_zero L (fun p hq => ⟨(hp p hq).a0, (hp p hq).b0⟩) (Nat.succ_pos _) hx
    show decide (ls[i]? ≠ some 0) = true ↔ _
    rw [decide_eq_true_iff, hx, ← z]
    constructor
    · intro q r; exact q (by rw [r])
    · intro q r; exact q (Option.some.inj r)
  · rw [callN_of h]
    have e4 : (span : Int) + 1 = ((span + 1 : Nat) : Int) := by omega
    refine apart_fin (ls := ls) (m := span + 1) e1 e2 e3 (pDs_free ps) (rg1_nat (by simp) (by omega)) (by rw [sizeLine_eq]; omega) ?_ ?_
    · have := comp_fm (chk := fun _ => True) (t := gNm 3) (c := tCmp .NotEq (cIx (cVar 2) (cVar 3)) (cC (.int 0))) (e := cVar 3) (cal := callN t (k + 3)) (ρ := [some (.int (span : Int)), some (.lst b (ps.map pD)), some (.lst false (ls.map D.int)), none]) (M := [])
        (fun d => match d with | .int i => decide (ls[i.toNat]? ≠ some 0) | _ => false) id trivial (ds := (List.range (span + 1)).map fun i => .int (i : Nat)) (fun d hd => by
          obtain ⟨i, hi, rfl⟩ := List.mem_map.mp hd
          obtain ⟨x, hx⟩ := gl i (List.mem_range.mp hi)
          refine ⟨_, rfl, ?_, fun _ => rfl⟩
          have ha : atI (ls.map D.int) (i : Int) = some (.int x) := by rw [at_nat, List.getElem?_map, hx]; rfl
          simp [ha, hx])
      rw [this, List.map_id, List.filter_map]
      congr 1
    · generalize (List.range (span + 1)).filter _ = zs
      induction zs with
      | nil => rfl
      | cons z zs ih => show (true && _) = true; rw [ih]; rfl
end
end Vm

namespace Vm
open PySem PySem.Spec L2
section
variable {t : Tbl} {iR : Nat}
def NReach : List Str := ["span", "pairs", "start", "near", "spot", "one", "two"]
noncomputable def dReachB : SDen := (sSeq (sIf (tAnd (tCmp .Eq (cVar 5) (cIx (cVar 3) (cVar 4))) (tCmp .NotIn (cVar 6) (cVar 3))) (sSet 3 (cBin addD (cVar 3) (cLst false (aCons (cVar 6) aNil)))) sNil) (sIf (tAnd (tCmp .Eq (cVar 6) (cIx (cVar 3) (cVar 4))) (tCmp .NotIn (cVar 5) (cVar 3))) (sSet 3 (cBin addD (cVar 3) (cLst false (aCons (cVar 5) aNil)))) sNil))
noncomputable def dReachW : SDen := (sSeq (sFor (gTp 2 (gNs (gNm 5) (gNs (gNm 6) gN0))) (iSeq (cVar 1)) dReachB) (sSet 4 (cBin addD (cVar 4) (cC (.int 1)))))
noncomputable def dReach : SDen :=
  (sSeq (sSet 3 (cLst false (aCons (cVar 2) aNil))) (sSeq (sSet 4 (cC (.int 0))) (sSeq (whileL (tCmp .Lt (cVar 4) (cBlt bLen (aCons (cVar 3) aNil))) dReachW 100000) (sRet (cBlt (bSorted false) (aCons (cVar 3) aNil))))))
/-- what is near so far -/
structure Near (span : Int) (ps : List (Int × Int)) (start : Int) (ns : List Int) : Prop where
  nd : ns.Nodup
  rg : ∀ x ∈ ns, 0 ≤ x ∧ x ≤ span
  cn : ∀ x ∈ ns, Conn ps start x
  st : start ∈ ns
theorem Near.len {span : Int} {ps : List (Int × Int)} {start : Int} {ns : List Int} (N : Near span ps start ns) (h : span < 1000) : ns.length ≤ 1000 :=
  nodup_le 1000 ns N.nd fun x hx => by have := N.rg x hx; omega
theorem Near.add {span : Int} {ps : List (Int × Int)} {start : Int} {ns : List Int} (N : Near span ps start ns) {y : Int} (h1 : 0 ≤ y ∧ y ≤ span) (h2 : Conn ps start y) (h3 : y ∉ ns) : Near span ps start (ns ++ [y]) :=
  ⟨List.nodup_append.mpr ⟨N.nd, by simp, fun a ha b hb => by rw [List.mem_singleton.mp hb]; exact fun z => h3 (z ▸ ha)⟩,
   fun x hx => (List.mem_append.mp hx).elim (N.rg x) fun z => by rw [List.mem_singleton.mp z]; exact h1,
   fun x hx => (List.mem_append.mp hx).elim (N.cn x) fun z => by rw [List.mem_singleton.mp z]; exact h2, List.mem_append_left _ N.st⟩
/-- one if: what comes behind -/
theorem reach_if {cal : Cal} {span : Int} {ds : D} {st : D} {ns : List Int} {s : Nat} {c : Int} (hc : ns[s]? = some c) (hz : ns.length ≤ 1000) (x y : Int) (i j : Nat) (hij : (i = 5 ∧ j = 6 ∧ True) ∨ (i = 6 ∧ j = 5 ∧ True)) {ρ : Env} (h3 : slot ρ 3 = some (.lst false (ns.map D.int))) (h4 : slot ρ 4 = some (.int (s : Int))) (hi : slot ρ i = some (.int x)) (hj : slot ρ j = some (.int y)) :
    sIf (tAnd (tCmp .Eq (cVar i) (cIx (cVar 3) (cVar 4))) (tCmp .NotIn (cVar j) (cVar 3))) (sSet 3 (cBin addD (cVar 3) (cLst false (aCons (cVar j) aNil)))) sNil cal ρ [] =
      if x = c ∧ y ∉ ns then .ok .nx (ρ.set 3 (some (.lst false ((ns ++ [y]).map D.int)))) [] else .ok .nx ρ [] := by
  have ha : atI (ns.map D.int) (s : Int) = some (.int c) := by rw [at_nat, List.getElem?_map, hc]; rfl
  have one : 1 ≤ sizeLine := by rw [sizeLine_eq]; decide
  have l1 : (ns.map D.int).length + ([D.int y] : List D).length ≤ sizeLine := by rw [List.length_map, sizeLine_eq]; simp; omega
  have e1 := add_l (t := false) (u := false) l1
  have em : ns.map D.int ++ [D.int y] = (ns ++ [y]).map D.int := by simp
  rw [em] at e1
  by_cases q1 : x = c
  · by_cases q2 : y ∈ ns
    · rw [if_neg (fun z => z.2 q2)]
      simp [h3, h4, hi, hj, ha, q1, q2, ap_nil]
    · rw [if_pos ⟨q1, q2⟩]
      simp only [ap_if, ap_and, ap_cmp, ap_var, ap_ix, h3, h4, hi, hj, R.opt_some, R.ok_bind, view_int', view_lst', ix_at, ha, cEq_i, q1, decide_true, if_true, cNotIn_i, q2, not_false_eq_true, SR.of_ok, ap_set, ap_bin, ap_lst, ap_acons, ap_anil, List.length_cons, List.length_nil, Nat.zero_add, one, newF, e1]
  · rw [if_neg (fun z => q1 z.1)]
    simp [h3, h4, hi, hj, ha, q1, ap_nil]
theorem reach_turn {cal : Cal} {span : Int} (hs : span < 1000) {ps : List (Int × Int)} {start : Int} {s : Nat} {c : Int} {p : Int × Int} (hp : p ∈ ps) (hr : 0 ≤ p.1 ∧ p.1 ≤ span ∧ 0 ≤ p.2 ∧ p.2 ≤ span) {ns : List Int} (N : Near span ps start ns) (hc : ns[s]? = some c) {d1 d2 : Option D} :
    ∃ ms : List Int, Near span ps start ms ∧ (∃ r, ms = ns ++ r) ∧ (p.1 = c → p.2 ∈ ms) ∧ (p.2 = c → p.1 ∈ ms) ∧
      dReachB cal [some (.int span), d1, d2, some (.lst false (ns.map D.int)), some (.int (s : Int)), some (.int p.1), some (.int p.2)] [] = .ok .nx [some (.int span), d1, d2, some (.lst false (ms.map D.int)), some (.int (s : Int)), some (.int p.1), some (.int p.2)] [] := by
  have cc : Conn ps start c := N.cn c (List.mem_of_getElem? hc)
  have e1 := reach_if (cal := cal) (span := span) (ds := .non) (st := .non) hc (N.len hs) p.1 p.2 5 6 (.inl ⟨rfl, rfl, trivial⟩) (ρ := [some (.int span), d1, d2, some (.lst false (ns.map D.int)), some (.int (s : Int)), some (.int p.1), some (.int p.2)]) rfl rfl rfl rfl
  -- the first if
  have f1 : ∃ ms : List Int, Near span ps start ms ∧ (∃ r, ms = ns ++ r) ∧ (p.1 = c → p.2 ∈ ms) ∧ sIf (tAnd (tCmp .Eq (cVar 5) (cIx (cVar 3) (cVar 4))) (tCmp .NotIn (cVar 6) (cVar 3))) (sSet 3 (cBin addD (cVar 3) (cLst false (aCons (cVar 6) aNil)))) sNil cal [some (.int span), d1, d2, some (.lst false (ns.map D.int)), some (.int (s : Int)), some (.int p.1), some (.int p.2)] [] =
      .ok .nx [some (.int span), d1, d2, some (.lst false (ms.map D.int)), some (.int (s : Int)), some (.int p.1), some (.int p.2)] [] := by
    by_cases q : p.1 = c ∧ p.2 ∉ ns
    · rw [if_pos q] at e1
      exact ⟨ns ++ [p.2], N.add ⟨hr.2.2.1, hr.2.2.2⟩ (.fw (q.1 ▸ cc) hp) q.2, ⟨_, rfl⟩, fun _ => List.mem_append_right _ (List.mem_singleton.mpr rfl), e1⟩
    · rw [if_neg q] at e1
      exact ⟨ns, N, ⟨[], (List.append_nil _).symm⟩, fun z => Classical.byContradiction fun w => q ⟨z, w⟩, e1⟩
  obtain ⟨ms, N1, ⟨r1, rfl⟩, m1, g1⟩ := f1
  have hc1 : (ns ++ r1)[s]? = some c := by rw [List.getElem?_append_left (List.getElem?_eq_some_iff.mp hc).1]; exact hc
  have e2 := reach_if (cal := cal) (span := span) (ds := .non) (st := .non) hc1 (N1.len hs) p.2 p.1 6 5 (.inr ⟨rfl, rfl, trivial⟩) (ρ := [some (.int span), d1, d2, some (.lst false ((ns ++ r1).map D.int)), some (.int (s : Int)), some (.int p.1), some (.int p.2)]) rfl rfl rfl rfl
  by_cases q : p.2 = c ∧ p.1 ∉ ns ++ r1
  · rw [if_pos q] at e2
    refine ⟨ns ++ r1 ++ [p.1], N1.add ⟨hr.1, hr.2.1⟩ (.bw (q.1 ▸ cc) hp) q.2, ⟨r1 ++ [p.1], List.append_assoc _ _ _⟩, fun z => List.mem_append_left _ (m1 z), fun _ => List.mem_append_right _ (List.mem_singleton.mpr rfl), ?_⟩
    unfold dReachB
    rw [ap_seq, g1, SR.seq_nx, e2]
    rfl
  · rw [if_neg q] at e2
    refine ⟨ns ++ r1, N1, ⟨r1, rfl⟩, m1, fun z => Classical.byContradiction fun w => q ⟨z, w⟩, ?_⟩
    unfold dReachB
    rw [ap_seq, g1, SR.seq_nx, e2]
/-- all pairs once -/
theorem reach_all {cal : Cal} {span : Int} (hs : span < 1000) {ps : List (Int × Int)} (hp : ∀ p ∈ ps, OkP span p) {start : Int} {s : Nat} {c : Int} {ns : List Int} (N : Near span ps start ns) (hc : ns[s]? = some c) {d2 w5 w6 : Option D} {b : Bool} :
    ∃ (ms : List Int) (z5 z6 : Option D), Near span ps start ms ∧ (∃ r, ms = ns ++ r) ∧ (∀ p ∈ ps, (p.1 = c → p.2 ∈ ms) ∧ (p.2 = c → p.1 ∈ ms)) ∧
      dReachW cal [some (.int span), some (.lst b (ps.map pD)), d2, some (.lst false (ns.map D.int)), some (.int (s : Int)), w5, w6] [] = .ok .nx [some (.int span), some (.lst b (ps.map pD)), d2, some (.lst false (ms.map D.int)), some (.int ((s + 1 : Nat) : Int)), z5, z6] [] := by
  obtain ⟨ρ', M', hf, ms, z5, z6, rfl, rfl, N', ⟨r, er⟩, al⟩ := forL_inv (cal := cal) (t := gTp 2 (gNs (gNm 5) (gNs (gNm 6) gN0))) (b := dReachB) (chk := fun _ => True)
    (fun i ρ M' => ∃ (ms : List Int) (z5 z6 : Option D), ρ = [some (.int span), some (.lst b (ps.map pD)), d2, some (.lst false (ms.map D.int)), some (.int (s : Int)), z5, z6] ∧ M' = [] ∧ Near span ps start ms ∧ (∃ r, ms = ns ++ r) ∧ ∀ p ∈ ps.take i, (p.1 = c → p.2 ∈ ms) ∧ (p.2 = c → p.1 ∈ ms))
    (ds := ps.map pD) (fun i ρ M' d hh hd => by
      obtain ⟨ms, z5, z6, rfl, rfl, N', ⟨r, er⟩, al⟩ := hh
      rw [List.getElem?_map] at hd
      obtain ⟨p, hp1, rfl⟩ := Option.map_eq_some_iff.mp hd
      have hm := List.mem_of_getElem? hp1
      have ho := hp p hm
      have hc' : ms[s]? = some c := by rw [er, List.getElem?_append_left (List.getElem?_eq_some_iff.mp hc).1]; exact hc
      obtain ⟨ks, N2, ⟨r2, er2⟩, k1, k2, e⟩ := reach_turn (cal := cal) hs hm ⟨ho.a0, ho.a1, ho.b0, ho.b1⟩ N' hc' (d1 := some (.lst b (ps.map pD))) (d2 := d2)
      refine ⟨trivial, _, rfl, _, _, .inl e, ks, _, _, rfl, rfl, N2, ⟨r ++ r2, by rw [er2, er, List.append_assoc]⟩, fun q hq => ?_⟩
      rw [List.take_add_one, hp1] at hq
      rcases List.mem_append.mp hq with hq | hq
      · have := al q hq
        exact ⟨fun z => er2 ▸ List.mem_append_left _ (this.1 z), fun z => er2 ▸ List.mem_append_left _ (this.2 z)⟩
      · have e3 : q = p := by simpa using hq
        rw [e3]; exact ⟨k1, k2⟩) (fun _ _ _ => trivial)
    (ρ := [some (.int span), some (.lst b (ps.map pD)), d2, some (.lst false (ns.map D.int)), some (.int (s : Int)), w5, w6]) (M := []) ⟨ns, _, _, rfl, rfl, N, ⟨[], (List.append_nil _).symm⟩, fun p hq => by simp at hq⟩
  rw [List.length_map, List.take_length] at al
  refine ⟨ms, z5, z6, N', ⟨r, er⟩, al, ?_⟩
  have es : (s : Int) + 1 = ((s + 1 : Nat) : Int) := by omega
  unfold dReachW
  rw [ap_seq, ap_for]
  simp only [ap_seqI, ap_var, sl0, slS, R.opt_some, R.ok_bind, src_l, SR.of_ok, hf, SR.seq_nx, ap_set, ap_bin, ap_c, view_int', add_i, se0, seS, es]
/-- to the end -/
theorem reach_loop {cal : Cal} {span : Int} (hs : span < 1000) {ps : List (Int × Int)} (hp : ∀ p ∈ ps, OkP span p) {start : Int} {d2 : Option D} {b : Bool} : ∀ (fuel s : Nat) (ns : List Int) (w5 w6 : Option D), Near span ps start ns → s ≤ ns.length → 1001 ≤ fuel + s →
    (∀ i c, i < s → ns[i]? = some c → ∀ p ∈ ps, (p.1 = c → p.2 ∈ ns) ∧ (p.2 = c → p.1 ∈ ns)) →
    ∃ (ms : List Int) (z4 z5 z6 : Option D), Near span ps start ms ∧ (∀ x ∈ ms, ∀ p ∈ ps, (p.1 = x → p.2 ∈ ms) ∧ (p.2 = x → p.1 ∈ ms)) ∧
      whileL (tCmp .Lt (cVar 4) (cBlt bLen (aCons (cVar 3) aNil))) dReachW fuel cal [some (.int span), some (.lst b (ps.map pD)), d2, some (.lst false (ns.map D.int)), some (.int (s : Int)), w5, w6] [] =
        .ok .nx [some (.int span), some (.lst b (ps.map pD)), d2, some (.lst false (ms.map D.int)), z4, z5, z6] []
  | 0, s, ns, w5, w6, N, h1, h2, _ => by have := N.len hs; omega
  | fuel + 1, s, ns, w5, w6, N, h1, h2, h3 => by
    have tst : ∀ (q : Bool), q = decide (s < ns.length) → tCmp .Lt (cVar 4) (cBlt bLen (aCons (cVar 3) aNil)) cal [some (.int span), some (.lst b (ps.map pD)), d2, some (.lst false (ns.map D.int)), some (.int (s : Int)), w5, w6] [] = .ok q [] := fun q hq => by
      rw [hq]
      simp
    by_cases hlt : s < ns.length
    · obtain ⟨ms, z5, z6, N2, ⟨r, er⟩, al, e⟩ := reach_all (cal := cal) hs hp N (List.getElem?_eq_getElem hlt) (d2 := d2) (w5 := w5) (w6 := w6) (b := b)
      obtain ⟨ks, y4, y5, y6, N3, cl, e2⟩ := reach_loop (cal := cal) hs hp (d2 := d2) (b := b) fuel (s + 1) ms z5 z6 N2 (by rw [er, List.length_append]; omega) (by omega) (fun i c hi hc p hq => by
        by_cases his : i < s
        · have hc' : ns[i]? = some c := by rw [er, List.getElem?_append_left (by omega)] at hc; exact hc
          have := h3 i c his hc' p hq
          exact ⟨fun z => er ▸ List.mem_append_left _ (this.1 z), fun z => er ▸ List.mem_append_left _ (this.2 z)⟩
        · have ei : i = s := by omega
          subst ei
          have hc' : c = ns[i] := by
            rw [er, List.getElem?_append_left hlt, List.getElem?_eq_getElem hlt] at hc
            exact (Option.some.inj hc).symm
          rw [hc']; exact al p hq)
      refine ⟨ks, y4, y5, y6, N3, cl, ?_⟩
      rw [while_go (tst true (decide_eq_true hlt).symm) e]
      exact e2
    · refine ⟨ns, _, _, _, N, fun x hx p hq => ?_, while_end (tst false (decide_eq_false hlt).symm)⟩
      obtain ⟨i, hi, rfl⟩ := List.getElem_of_mem hx
      exact h3 i _ (by omega) (List.getElem?_eq_getElem hi) p hq
theorem reach_so (h : t iR = some (NReach, dReach)) (k : Nat) {span : Int} (hs : span < 1000) {ps : List (Int × Int)} (hp : ∀ p ∈ ps, OkP span p) {start : Int} (h0 : 0 ≤ start ∧ start ≤ span) (b : Bool) :
    ∃ zs : List Int, (∀ x, x ∈ zs ↔ Conn ps start x) ∧ zs.Pairwise (· ≤ ·) ∧ zs.Nodup ∧ (∀ x ∈ zs, 0 ≤ x ∧ x ≤ span) ∧ callN t (k + 1) iR [.int span, .lst b (ps.map pD), .int start] [] = .ok (.lst false (zs.map D.int)) [] := by
  obtain ⟨ms, z4, z5, z6, N, cl, e⟩ := reach_loop (cal := callN t k) hs hp (start := start) (d2 := some (.int start)) (b := b) 100000 0 [start] none none ⟨by simp, fun x hx => by rw [List.mem_singleton.mp hx]; exact h0, fun x hx => by rw [List.mem_singleton.mp hx]; exact .refl _, List.mem_singleton.mpr rfl⟩ (Nat.zero_le _) (by omega) (fun i c hi => absurd hi (Nat.not_lt_zero _))
  refine ⟨sortI ms, fun x => ?_, sortI_sorted ms, (sortI_perm ms).nodup_iff.mpr N.nd, fun x hx => N.rg x ((sortI_perm ms).mem_iff.mp hx), ?_⟩
  · rw [(sortI_perm ms).mem_iff]
    refine ⟨N.cn x, fun c => ?_⟩
    induction c with
    | refl => exact N.st
    | fw _ e ih => exact (cl _ ih _ e).1 rfl
    | bw _ e ih => exact (cl _ ih _ e).2 rfl
  · rw [callN_of h]
    have one : 1 ≤ sizeLine := by rw [sizeLine_eq]; decide
    have ff : frees ((sortI ms).map D.int) = true := free_ints _
    have so : bSorted false [.lst false (ms.map D.int)] [] = .ok (.lst false ((sortI ms).map D.int)) [] := by
      show (match intsOf (ms.map D.int) with | some ns => newL false ((sortI ns).map D.int) [] | none => match pairsOf (ms.map D.int) with | some ps => newL false ((sortP ps).map pairD) [] | none => .bad) = _
      rw [intsOf_map]; rfl
    have e' : whileL (tCmp .Lt (cVar 4) (cBlt bLen (aCons (cVar 3) aNil))) dReachW 100000 (callN t k) [some (.int span), some (.lst b (ps.map pD)), some (.int start), some (.lst false [.int start]), some (.int 0), none, none] [] = _ := e
    simp [fnD, dReach, startD, NReach, one, e', so, ff]
theorem reach_sp (h : t iR = some (NReach, dReach)) (k : Nat) {span : Int} (hs : span < 1000) {ps : List (Int × Int)} (hp : ∀ p ∈ ps, OkP span p) {start : Int} (h0 : 0 ≤ start ∧ start ≤ span) (b : Bool) :
    ∃ zs : List Int, (∀ x, x ∈ zs ↔ Conn ps start x) ∧ callN t (k + 1) iR [.int span, .lst b (ps.map pD), .int start] [] = .ok (.lst false (zs.map D.int)) [] := by
  obtain ⟨zs, h1, _, _, _, h2⟩ := reach_so h k hs hp h0 b
  exact ⟨zs, h1, h2⟩
def NSame : List Str := ["found", "due"]
noncomputable def dSame : SDen :=
  (sRet (cBin (cmpD .Eq) (cBlt bRepr (aCons (cVar 0) aNil)) (cBlt bRepr (aCons (cVar 1) aNil))))
end
end Vm

namespace Vm
open PySem PySem.Spec L2
/-- a shape that can be shown: leaves short, weight small -/
structure Sh (d : D) (w : Nat) (p : PyData) : Prop where
  to : toP d = some p
  sh : p.showable = true
  lv : p.leavesShort 13 = true
  hd : p.hasDict = false
  wt : p.weight ≤ w
  dp : p.depth ≤ 10
structure Shs (ds : List D) (w : Nat) (ps : List PyData) : Prop where
  to : toPs ds = some ps
  sh : PyData.showableAll ps = true
  lv : PyData.leavesShortAll 13 ps = true
  hd : PyData.hasDictAll ps = false
  wt : PyData.weightAll ps ≤ w
  dp : PyData.depthAll ps ≤ 9
theorem sh_int {i : Int} (h : i.natAbs < 10 ^ 12) : Sh (.int i) 41 (.int i) := by
  have h2 : i.natAbs.log2 < 40 := by
    by_cases z : i.natAbs = 0
    · rw [z]; decide
    · exact (Nat.log2_lt (n := i.natAbs) (k := 40) z).mpr (by omega)
  refine ⟨rfl, decide_eq_true (by omega), decide_eq_true (PyData.shown_int_le h), rfl, ?_, Nat.zero_le _⟩
  unfold PyData.weight
  split <;> omega
theorem shs_of {ds : List D} {w : Nat} (f : D → PyData) (h : ∀ d ∈ ds, Sh d w (f d)) (hd : ∀ d ∈ ds, (f d).depth ≤ 9) : Shs ds ((w + 1) * ds.length) (ds.map f) := by
  induction ds with
  | nil => exact ⟨rfl, rfl, rfl, rfl, by unfold List.map PyData.weightAll; omega, Nat.zero_le _⟩
  | cons d ds ih =>
    have a := h d List.mem_cons_self
    have b := ih (fun e he => h e (List.mem_cons_of_mem _ he)) (fun e he => hd e (List.mem_cons_of_mem _ he))
    refine ⟨?_, ?_, ?_, ?_, ?_, ?_⟩
    · unfold toPs; rw [a.to, b.to]; rfl
    · show ((f d).showable && PyData.showableAll (ds.map f)) = true; rw [a.sh, b.sh]; rfl
    · show ((f d).leavesShort 13 && PyData.leavesShortAll 13 (ds.map f)) = true; rw [a.lv, b.lv]; rfl
    · show ((f d).hasDict || PyData.hasDictAll (ds.map f)) = false; rw [a.hd, b.hd]; rfl
    · show (f d).weight + 1 + PyData.weightAll (ds.map f) ≤ _
      have h1 := a.wt
      have h2 := b.wt
      rw [List.length_cons, Nat.mul_succ]
      omega
    · exact Nat.max_le.mpr ⟨hd d List.mem_cons_self, b.dp⟩
theorem sh_tup {ds : List D} {w : Nat} {ps : List PyData} (h : Shs ds w ps) : Sh (.tup ds) w (.tuple ps) :=
  ⟨by unfold toP; rw [h.to]; rfl, h.sh, h.lv, h.hd, h.wt, Nat.succ_le_succ h.dp⟩
theorem sh_lst {ds : List D} {w : Nat} {ps : List PyData} (h : Shs ds w ps) (t : Bool) : Sh (.lst t ds) w (.list ps) :=
  ⟨by unfold toP; rw [h.to]; rfl, h.sh, h.lv, h.hd, h.wt, Nat.succ_le_succ h.dp⟩
theorem Sh.shown {d : D} {w : Nat} {p : PyData} (h : Sh d w p) (hw : w ≤ 2 ^ 20) : shownD p = true := by
  unfold shownD
  rw [h.sh, h.hd, decide_eq_true (PyData.shown_fits (B := 13) (by decide) (by decide) h.lv (Nat.le_trans h.wt hw)), decide_eq_true (by have := h.dp; omega : p.depth < 100)]
  rfl
theorem Sh.repr {d : D} {w : Nat} {p : PyData} (h : Sh d w p) (hw : w ≤ 2 ^ 20) (M : Mem) : bRepr [d] M = .ok (.str p.shown) M := by
  unfold bRepr
  simp only [h.to, h.shown hw, if_true]
theorem sh_ints {ns : List Int} (h : ∀ n ∈ ns, n.natAbs < 10 ^ 12) (t : Bool) : Sh (.lst t (ns.map D.int)) (42 * ns.length) (.list (ns.map PyData.int)) := by
  have := shs_of (ds := ns.map D.int) (w := 41) (fun d => match d with | .int i => .int i | _ => .none) (fun d hd => by
    obtain ⟨i, hi, rfl⟩ := List.mem_map.mp hd
    exact sh_int (h i hi)) (fun d hd => by
    obtain ⟨i, hi, rfl⟩ := List.mem_map.mp hd
    exact Nat.zero_le _)
  rw [List.length_map, List.map_map] at this
  exact sh_lst this t
theorem sh_pair {p : Int × Int} (h1 : p.1.natAbs < 10 ^ 12) (h2 : p.2.natAbs < 10 ^ 12) : Sh (pD p) 84 (.tuple [.int p.1, .int p.2]) := by
  have := shs_of (ds := [.int p.1, .int p.2]) (w := 41) (fun d => match d with | .int i => .int i | _ => .none) (fun d hd => by
    rcases List.mem_cons.mp hd with rfl | hd
    · exact sh_int h1
    · rw [List.mem_singleton.mp hd]; exact sh_int h2) (fun d hd => by
    rcases List.mem_cons.mp hd with rfl | hd
    · exact Nat.zero_le _
    · rw [List.mem_singleton.mp hd]; exact Nat.zero_le _)
  exact sh_tup this
def pP (p : Int × Int) : PyData := .tuple [.int p.1, .int p.2]
theorem sh_pairs {ps : List (Int × Int)} (h : ∀ p ∈ ps, p.1.natAbs < 10 ^ 12 ∧ p.2.natAbs < 10 ^ 12) (t : Bool) : Sh (.lst t (ps.map pD)) (85 * ps.length) (.list (ps.map pP)) := by
  have := shs_of (ds := ps.map pD) (w := 84) (fun d => match d with | .tup [.int a, .int b] => .tuple [.int a, .int b] | _ => .none) (fun d hd => by
    obtain ⟨p, hp, rfl⟩ := List.mem_map.mp hd
    exact sh_pair (h p hp).1 (h p hp).2) (fun d hd => by
    obtain ⟨p, hp, rfl⟩ := List.mem_map.mp hd
    show PyData.depth (.tuple [.int p.1, .int p.2]) ≤ 9
    have : PyData.depth (.tuple [.int p.1, .int p.2]) = 1 := rfl
    omega)
  rw [List.length_map, List.map_map] at this
  exact sh_lst this t
def OkS (s : Str) : Prop := ∀ c ∈ s.cps.toList, c < 0x110000
theorem okS_of (s : String) : OkS (Str.ofString s) := by
  intro c hc
  rw [Str.ofString_eq_toList] at hc
  obtain ⟨x, _, rfl⟩ := List.mem_map.mp (show c ∈ s.toList.map Char.toNat by simpa using hc)
  have := x.valid
  rcases this with h | h
  · have : x.toNat < 0xd800 := h
    omega
  · exact h.2
theorem okS_app {a b : Str} (ha : OkS a) (hb : OkS b) : OkS (a ++ b) := by
  intro c hc
  have : c ∈ (a.cps ++ b.cps).toList := hc
  rw [Array.toList_append, List.mem_append] at this
  exact this.elim (ha c) (hb c)
theorem okS_from : ∀ (ts : List Str) (k : Nat) (acc : Str), OkS acc → (∀ t ∈ ts, OkS t) → OkS (textFrom k acc ts)
  | [], k, acc, h, _ => h
  | t :: ts, k, acc, h, g => okS_from ts (k + 1) _ (okS_app (okS_app h (by split <;> exact okS_of _)) (g t List.mem_cons_self)) fun u hu => g u (List.mem_cons_of_mem _ hu)
theorem okS_join (sep : Str) (hs : OkS sep) : ∀ ts : List Str, (∀ t ∈ ts, OkS t) → OkS (Str.join sep ts)
  | [], _ => fun c hc => absurd hc (by simp [Str.join, Str.empty])
  | [x], h => h x List.mem_cons_self
  | x :: y :: r, h => okS_app (okS_app (h x List.mem_cons_self) hs) (okS_join sep hs (y :: r) fun u hu => h u (List.mem_cons_of_mem _ hu))
theorem okS_int (i : Int) : OkS (PyData.shown (.int i)) := by unfold PyData.shown; exact okS_of _
theorem shownAll_map : ∀ ps : List PyData, PyData.shownAll ps = ps.map PyData.shown
  | [] => rfl
  | p :: ps => by show p.shown :: PyData.shownAll ps = _; rw [shownAll_map ps]; rfl
theorem okS_lst {ps : List PyData} (h : ∀ p ∈ ps, OkS p.shown) : OkS (PyData.shown (.list ps)) := by
  unfold PyData.shown listText
  rw [shownAll_map]
  refine okS_app (okS_from _ _ _ (okS_of _) fun t ht => ?_) (okS_of _)
  obtain ⟨p, hp, rfl⟩ := List.mem_map.mp ht
  exact h p hp
theorem okS_tup {ps : List PyData} (h : ∀ p ∈ ps, OkS p.shown) : OkS (PyData.shown (.tuple ps)) := by
  unfold PyData.shown tupleText
  rw [shownAll_map]
  refine okS_app (okS_app (okS_of _) (okS_join _ (okS_of _) _ fun t ht => ?_)) (by split <;> exact okS_of _)
  obtain ⟨p, hp, rfl⟩ := List.mem_map.mp ht
  exact h p hp
theorem okS_ints (ns : List Int) : OkS (PyData.shown (.list (ns.map PyData.int))) := okS_lst fun p hp => by
  obtain ⟨i, _, rfl⟩ := List.mem_map.mp hp
  exact okS_int i
theorem okS_pairs (ps : List (Int × Int)) : OkS (PyData.shown (.list (ps.map pP))) := okS_lst fun p hp => by
  obtain ⟨q, _, rfl⟩ := List.mem_map.mp hp
  refine okS_tup fun p hp => ?_
  rcases List.mem_cons.mp hp with rfl | hp
  · exact okS_int _
  · rw [List.mem_singleton.mp hp]; exact okS_int _
theorem okS_shaped {a : Str} (h : OkS a) : SeqAt.shaped (.str a) = true := by
  unfold SeqAt.shaped
  have e : PyData.canLay0 (.str a) = true := by
    show a.cps.all (fun c => decide (c < 0x110000)) = true
    rw [← Array.all_toList]
    exact List.all_eq_true.mpr fun c hc => decide_eq_true (h c hc)
  rw [e]; rfl
theorem eq_str (a : Str) (h : OkS a) : cmpB .Eq (.str a) (.str a) = some true := by
  have hs := okS_shaped h
  show (if SeqAt.shaped (.str a) = true ∧ SeqAt.shaped (.str a) = true then some (PyData.eqv (.str a) (.str a)) else none) = _
  rw [if_pos ⟨hs, hs⟩]
  unfold PyData.eqv
  simp
theorem ne_str (a : Str) (h : OkS a) : cmpB .NotEq (.str a) (.str a) = some false := by
  show (cmpB .Eq (.str a) (.str a)).map (!·) = _
  rw [eq_str a h]; rfl
theorem toPs_pairs : ∀ ps : List (Int × Int), toPs (ps.map pD) = some (ps.map pP)
  | [] => rfl
  | p :: ps => by
    show toPs (pD p :: ps.map pD) = _
    have e : toP (pD p) = some (pP p) := rfl
    unfold toPs
    rw [toPs_pairs ps, e]; rfl
theorem shaped_pairs (ps : List (Int × Int)) : SeqAt.shaped (.list (ps.map pP)) = true := by
  have h1 : PyData.canLayAll0 (ps.map pP) = true := by
    induction ps with
    | nil => rfl
    | cons n ns ih => show (true && PyData.canLayAll0 (ns.map pP)) = true; rw [ih]; rfl
  have h2 : PyData.depthAll (ps.map pP) ≤ 1 := by
    clear h1
    induction ps with
    | nil => exact Nat.zero_le _
    | cons n ns ih => show max 1 (PyData.depthAll (ns.map pP)) ≤ 1; omega
  unfold SeqAt.shaped
  rw [show (PyData.list (ps.map pP)).canLay0 = true from h1]
  have : (PyData.list (ps.map pP)).depth ≤ 2 := by show PyData.depthAll (ps.map pP) + 1 ≤ 2; omega
  rw [decide_eq_true (show (PyData.list (ps.map pP)).depth ≤ 64 by omega)]; rfl
theorem eq_pairs_nil (t u : Bool) {r : List (Int × Int)} (h : r ≠ []) : cmpB .Eq (.lst t (r.map pD)) (.lst u []) = some false := by
  show eqB _ _ = _
  have e : toP (.lst t (r.map pD)) = some (.list (r.map pP)) := by unfold toP; rw [toPs_pairs]; rfl
  have e2 : toP (.lst u []) = some (.list []) := rfl
  unfold eqB
  rw [e, e2]
  show (if _ then _ else _) = _
  rw [if_pos ⟨shaped_pairs r, rfl⟩]
  cases r with
  | nil => exact absurd rfl h
  | cons z r => rfl
theorem all_bls (bs : List Bool) (t : Bool) (M : Mem) : bAll [.lst t (bs.map D.bl)] M = .ok (.bl (bs.all id)) M := by
  unfold bAll
  simp only [itemsL, blsOf_map]
/-- two texts in a list -/
theorem ne_strs {a b : Str} (ha : OkS a) (hb : OkS b) : cmpB .NotEq (.lst false [.str a, .str b]) (.lst false [.str a, .str b]) = some false := by
  have h1 := okS_shaped ha
  have h2 := okS_shaped hb
  have c1 : PyData.canLay0 (.str a) = true := by
    unfold SeqAt.shaped at h1
    exact (Bool.and_eq_true_iff.mp h1).1
  have c2 : PyData.canLay0 (.str b) = true := by
    unfold SeqAt.shaped at h2
    exact (Bool.and_eq_true_iff.mp h2).1
  have sh : SeqAt.shaped (.list [.str a, .str b]) = true := by
    unfold SeqAt.shaped
    have e : PyData.canLay0 (.list [.str a, .str b]) = true := by
      show (PyData.canLay0 (.str a) && (PyData.canLay0 (.str b) && true)) = true
      rw [c1, c2]; rfl
    rw [e]; rfl
  show (if SeqAt.shaped (.list [.str a, .str b]) = true ∧ SeqAt.shaped (.list [.str a, .str b]) = true then some (PyData.eqv (.list [.str a, .str b]) (.list [.str a, .str b])) else none).map (!·) = _
  rw [if_pos ⟨sh, sh⟩]
  have e : PyData.eqv (.list [.str a, .str b]) (.list [.str a, .str b]) = true := by
    show ((PyData.eqv (.str a) (.str a)) && ((PyData.eqv (.str b) (.str b)) && true)) = true
    have : ∀ s : Str, PyData.eqv (.str s) (.str s) = true := fun s => by unfold PyData.eqv; simp
    rw [this, this]; rfl
  rw [e]; rfl
section
variable {t : Tbl} {iE : Nat}
theorem same_sp (h : t iE = some (NSame, dSame)) (k : Nat) {d e : D} {w : Nat} {p : PyData} (hd : Sh d w p) (he : Sh e w p) (hw : w ≤ 2 ^ 20) (ho : OkS p.shown) (vd : ∀ M, view M d = d) (ve : ∀ M, view M e = e) : callN t (k + 1) iE [d, e] [] = .ok (.bl true) [] := by
  rw [callN_of h]
  have e1 := hd.repr hw []
  have e2 := he.repr hw []
  have e3 : cmpD .Eq (.str p.shown) (.str p.shown) = some (.bl true) := by
    show (cmpB .Eq (.str p.shown) (.str p.shown)).map D.bl = _
    rw [eq_str _ ho]; rfl
  simp [fnD, dSame, startD, NSame, vd, ve, e1, e2, e3]
end
end Vm

namespace Vm
open PySem PySem.Spec L2
section
variable {t : Tbl} {iF iA : Nat}
def NFill : List Str := ["cell"]
noncomputable def dFill : SDen :=
  (sRet (cLst true (aCons (cBlt bMax (aCons (cC (.int 0)) (aCons (cBin subD (cVar 0) (cBin powD (cC (.int 10)) (cC (.int 18)))) aNil))) (aCons (cC (.int 0)) (aCons (cBin modD (cBlt bInt (aCons (cVar 0) aNil)) (cC (.int 1999999973))) aNil)))))
theorem fill_sp (h : t iF = some (NFill, dFill)) (k : Nat) (cell : Int) : ∃ x : Cell, JarC x ∧ (∃ xs, x = .lst xs ∧ cleans xs = true) ∧ callN t (k + 1) iF [.int cell] [] = .ok (.ref 0) [x] := by
  rw [callN_of h]
  have hp : powD (.int 10) (.int 18) = some (.int (10 ^ 18)) := by
    show (if powOk 10 18 then some (D.int (10 ^ (18 : Int).toNat)) else none) = _
    rw [if_pos (by unfold powOk; decide)]
    rfl
  have three : 3 ≤ sizeLine := by rw [sizeLine_eq]; decide
  have b := fmodB cell (b := 1999999973) (by decide)
  generalize hc : cell.fmod 1999999973 = c at b
  generalize hm : (if cell - 10 ^ 18 > 0 then cell - 10 ^ 18 else 0) = a
  have hm' : (if 0 < cell - 10 ^ 18 then cell - 10 ^ 18 else 0) = a := hm
  refine ⟨.lst [.int a, .int 0, .int c], ⟨a, 0, c, rfl, by omega, by omega⟩, ⟨_, rfl, rfl⟩, ?_⟩
  have nb := newB (xs := [.int a, .int 0, .int c]) [] rfl
  have fr := fin_ref 0 (.lst [.int a, .int 0, .int c]) 0 [some (.int cell)] [.lst [.int a, .int 0, .int c]] (Nat.le_refl _) rfl
  have e : dFill (callN t k) [some (.int cell)] [] = .ok (.rt (.ref 0)) [some (.int cell)] [.lst [.int a, .int 0, .int c]] := by
    unfold dFill
    simp only [ap_ret, ap_lst, ap_acons, ap_anil, ap_blt, ap_c, ap_bin, ap_var, sl0, R.opt_some, R.ok_bind, view_int', hp, sub_i, List.map_cons, List.map_nil, bMax_i, bInt_i, mod_i (show (1999999973 : Int) ≠ 0 by decide), hc, hm, hm', List.length_cons, List.length_nil, Nat.zero_add, Nat.reduceAdd, three, if_true, nb, SR.of_ok]
    rfl
  show finD 0 (dFill (callN t k) [some (.int cell)] []) = _
  rw [e]
  exact fr
end
/-- small numbers in order -/
def rgI (m : Nat) : List Int := (List.range m).map fun i => ((i : Nat) : Int)
theorem rgI_mem {m : Nat} {x : Int} : x ∈ rgI m ↔ 0 ≤ x ∧ x < m := by
  unfold rgI
  rw [List.mem_map]
  constructor
  · rintro ⟨i, hi, rfl⟩
    have := List.mem_range.mp hi
    omega
  · rintro ⟨h1, h2⟩
    exact ⟨x.toNat, List.mem_range.mpr (by omega), by omega⟩
theorem rgI_map (m : Nat) : (List.range m).map (fun i => D.int ((i : Nat) : Int)) = (rgI m).map D.int := by unfold rgI; rw [List.map_map]; rfl
theorem rgI_len (m : Nat) : (rgI m).length = m := by unfold rgI; rw [List.length_map, List.length_range]
/-- those that are not in a list -/
theorem comp_notin {cal : Cal} {ρ : Env} {M : Mem} {i j : Nat} {zs : List Int} {b : Bool} (hi : i < ρ.length) (hij : i ≠ j) (hj : slot ρ j = some (.lst b (zs.map D.int))) (is : List Int) :
    compL (fun _ => True) (gNm i) (tCmp .NotIn (cVar i) (cVar j)) (cVar i) (is.map D.int) cal ρ M = .ok ((is.filter fun x => decide (x ∉ zs)).map D.int) M := by
  have := comp_fm (chk := fun _ => True) (t := gNm i) (c := tCmp .NotIn (cVar i) (cVar j)) (e := cVar i) (cal := cal) (ρ := ρ) (M := M) (fun d => match d with | .int x => decide (x ∉ zs) | _ => false) id trivial (ds := is.map D.int) (fun d hd => by
    obtain ⟨x, _, rfl⟩ := List.mem_map.mp hd
    have s1 : slot (ρ.set i (some (.int x))) i = some (.int x) := by rw [slot_eq, List.getElem?_set_self hi]; rfl
    have s2 : slot (ρ.set i (some (.int x))) j = some (.lst b (zs.map D.int)) := by rw [slot_eq, List.getElem?_set_ne hij, ← slot_eq]; exact hj
    refine ⟨_, rfl, ?_, fun _ => ?_⟩
    · simp [s1, s2]
    · simp [s1])
  rw [this, List.map_id, List.filter_map]
  rfl
theorem filter_ints {p q : Int → Bool} {is : List Int} (h : ∀ x ∈ is, p x = q x) : (is.filter p).map D.int = (is.filter q).map D.int := by
  rw [List.filter_congr h]
/-- one more pair -/
theorem conn_add {qs ms : List (Int × Int)} {s : Int} {p : Int × Int} (hp : p = (s, 0) ∨ p = (0, s)) (hm : ∀ q, q ∈ ms ↔ q ∈ qs ∨ q = p) (x : Int) : Conn ms 0 x ↔ Conn qs 0 x ∨ Conn qs s x := by
  have up : ∀ {a b : Int}, Conn qs a b → Conn ms a b := fun h => h.mono fun q hq => (hm q).mpr (.inl hq)
  have e0 : Conn ms 0 s := by
    rcases hp with rfl | rfl
    · exact .bw (.refl _) ((hm _).mpr (.inr rfl))
    · exact .fw (.refl _) ((hm _).mpr (.inr rfl))
  constructor
  · intro h
    induction h with
    | refl => exact .inl (.refl _)
    | fw _ e ih =>
      rcases (hm _).mp e with e | e
      · exact ih.imp (fun z => z.fw e) fun z => z.fw e
      · rcases hp with rfl | rfl
        · cases e; exact .inl (.refl _)
        · cases e; exact .inr (.refl _)
    | bw _ e ih =>
      rcases (hm _).mp e with e | e
      · exact ih.imp (fun z => z.bw e) fun z => z.bw e
      · rcases hp with rfl | rfl
        · cases e; exact .inr (.refl _)
        · cases e; exact .inl (.refl _)
  · rintro (h | h)
    · exact up h
    · exact e0.trans (up h)
end Vm

namespace Vm
open PySem PySem.Spec L2
section
variable (cal : Cal) (ρ : Env) (M : Mem)
theorem ap_fld (c : Nat) (f : Str) (o : Den) : cFld c f o cal ρ M = (o cal ρ M).bind fun x M1 => R.opt ((insD M1 c x).bind fun p => fldD f p.1 p.2) M1 := rfl
theorem ap_sfld (c : Nat) (f : Str) (o g : Den) : sFld c f o g cal ρ M = SR.of (g cal ρ M) ρ fun y M1 => SR.of (o cal ρ M1) ρ fun x M2 => match x with
  | .ref n => match M2[n]? with
    | some (.ins c' ks vs) => if c' = c ∧ free y = true ∧ ks.length < 1000 then .ok .nx ρ (M2.set n (.ins c (putKs f ks) (putVs f y ks vs))) else .bad
    | _ => .bad
  | _ => .bad := rfl
theorem ap_new (c i n : Nat) (fs : Dens) : cNew c i n fs cal ρ M = (fs cal ρ M).bind fun ds M1 => if ds.length + 1 = n ∧ frees (ds.map (view M1)) = true then
    match cal i (.ref 0 :: ds.map (view M1)) [.ins c [] []] with
    | .ok .non [.ins c' ks vs] => if c' = c ∧ cleans vs = true then .ok (.obj c ks vs) M1 else .bad
    | .exn c' ks vs _ => if cleans vs = true then .exn c' ks vs M1 else .bad
    | _ => .bad
  else .bad := rfl
theorem ap_prop (c i : Nat) (o : Den) : cProp c i o cal ρ M = (o cal ρ M).bind fun x M1 => askO c i x M1 cal := rfl
theorem ap_lenO (c i : Nat) (o : Den) : cLenO c i o cal ρ M = (o cal ρ M).bind fun x M1 => (askO c i x M1 cal).bind fun d M2 => if lenOk d = true then .ok d M2 else .bad := rfl
theorem ap_isC (c : Nat) (f : Den) : cIsC c f cal ρ M = (f cal ρ M).bind fun d M1 => R.opt ((isC c (view M1 d)).map D.bl) M1 := rfl
theorem ap_kget (l : List (Str × Int)) (f g : Den) : cKGet l f g cal ρ M = (f cal ρ M).bind fun x M1 => (g cal ρ M1).bind fun y M2 => R.opt (conD l x y) M2 := rfl
theorem ap_lenSet (f : Den) : cLenSet f cal ρ M = (f cal ρ M).bind fun d M1 => R.opt (lenSet d) M1 := rfl
theorem ap_dispC (l : List (Str × D)) : cDispC l cal ρ M = if (l.map (·.1)).Nodup then newC (.dic (.bl false :: l.map fun p => .str p.1) (l.map (·.2))) M else .bad := rfl
theorem ap_raise (c : Nat) : sRaise c cal ρ M = .exn c [] [] ρ M := rfl
theorem ap_tryM (l : List (Nat × Nat × Bool)) (bd : SDen) (cs : List (Nat × Act)) : sTryM l bd cs cal ρ M = match bd cal ρ M with
  | .exn c' [] [] ρ' M' => catchM l cs c' ρ' M'
  | .exn _ _ _ _ _ => .bad
  | r => r := rfl
end
/-- a box: its shafts, its works -/
def fBox : List Str := ["many", "row"]
def boxD (s : Int) (js : List D) : D := .obj 0 fBox [.int s, .tup js]
theorem view_box (M : Mem) (s : Int) (js : List D) : view M (boxD s js) = boxD s js := rfl
theorem fr_box {s : Int} {js : List D} (h : frees js = true) : free (boxD s js) = true := by show (true && (frees js && true)) = true; rw [h]; rfl
theorem cl_box {s : Int} {js : List D} (h : cleans js = true) : clean (boxD s js) = true := by show (true && (cleans js && true)) = true; rw [h]; rfl
/-- a work of a box of so many shafts -/
inductive Job (s : Int) : D → Prop
  | planet {a b c : Int} (h1 : 0 ≤ a ∧ a ≤ s) (h2 : 0 ≤ b ∧ b ≤ s) (h3 : 0 ≤ c ∧ c ≤ s) (n1 : a ≠ b) (n2 : a ≠ c) (n3 : b ≠ c) : Job s (.tup [.str "planet", .int a, .int b, .int c])
  | double {a b c : Int} (h1 : 0 ≤ a ∧ a ≤ s) (h2 : 0 ≤ b ∧ b ≤ s) (h3 : 0 ≤ c ∧ c ≤ s) (n1 : a ≠ b) (n2 : a ≠ c) (n3 : b ≠ c) : Job s (.tup [.str "double", .int a, .int b, .int c])
  | pair {a b : Int} (h1 : 1 ≤ a ∧ a ≤ s) (h2 : 1 ≤ b ∧ b ≤ s) (n1 : a ≠ b) : Job s (.tup [.str "pair", .int a, .int b])
  | band {a b : Int} (h1 : 1 ≤ a ∧ a ≤ s) (h2 : 1 ≤ b ∧ b ≤ s) (n1 : a ≠ b) : Job s (.tup [.str "band", .int a, .int b])
theorem Job.clean {s : Int} {d : D} (h : Job s d) : clean d = true := by cases h <;> rfl
theorem Job.free {s : Int} {d : D} (h : Job s d) : free d = true := by cases h <;> rfl
theorem Job.view {s : Int} {d : D} (h : Job s d) (M : Mem) : view M d = d := by cases h <;> rfl
theorem jobs_clean {s : Int} {js : List D} (h : ∀ j ∈ js, Job s j) : cleans js = true := by
  induction js with
  | nil => rfl
  | cons j js ih => show (Vm.clean j && cleans js) = true; rw [(h j List.mem_cons_self).clean, ih fun x hx => h x (List.mem_cons_of_mem _ hx)]; rfl
theorem jobs_free {s : Int} {js : List D} (h : ∀ j ∈ js, Job s j) : frees js = true := frees_of_cleans (jobs_clean h)
theorem Job.of_take {s : Int} {js : List D} (h : ∀ j ∈ js, Job s j) {i : Nat} {j : D} (e : js[i]? = some j) : Job s j := h j (List.mem_of_getElem? e)
section
variable {t : Tbl} {iI iS iW iN iP iR iL iB iA iD iE i1 : Nat} {c0 c1 c2 c3 : Nat}
def NSelf : List Str := ["self"]
noncomputable def dShafts : SDen := (sRet (cFld 0 "many" (cVar 0)))
noncomputable def dWorks : SDen := (sRet (cFld 0 "row" (cVar 0)))
noncomputable def dLenB : SDen := (sRet (cBlt bLen (aCons (cFld 0 "row" (cVar 0)) aNil)))
theorem ins_box (M : Mem) (s : Int) (js : List D) : insD M 0 (boxD s js) = some (fBox, [.int s, .tup js]) := rfl
theorem fld_many {α : Type} (a b : α) : fldD "many" fBox [a, b] = some a := by show (if (("many" : Str) = "many") then some a else _) = _; rw [if_pos rfl]
theorem fld_row {α : Type} (a b : α) : fldD "row" fBox [a, b] = some b := by
  show (if (("row" : Str) = "many") then some a else if (("row" : Str) = "row") then some b else none) = _
  rw [if_neg (by decide +kernel), if_pos rfl]
theorem shafts_sp (h : t iS = some (NSelf, dShafts)) (k : Nat) (s : Int) (js : List D) : callN t (k + 1) iS [boxD s js] [] = .ok (.int s) [] := by
  rw [callN_of h]
  simp only [fnD, dShafts, startD, NSelf, ap_ret, ap_fld, ap_var, List.map_cons, List.map_nil, List.cons_append, sl0, R.opt_some, R.ok_bind, ins_box, Option.bind_some, fld_many, SR.of_ok, fin_int, List.take_nil]
theorem works_sp (h : t iR = some (NSelf, dWorks)) (k : Nat) (s : Int) {js : List D} (hf : frees js = true) : callN t (k + 1) iR [boxD s js] [] = .ok (.tup js) [] := by
  rw [callN_of h]
  simp only [fnD, dWorks, startD, NSelf, ap_ret, ap_fld, ap_var, List.map_cons, List.map_nil, List.cons_append, sl0, R.opt_some, R.ok_bind, ins_box, Option.bind_some, fld_row, SR.of_ok, fin_tup _ _ _ _ hf, List.take_nil]
theorem lenB_sp (h : t iL = some (NSelf, dLenB)) (k : Nat) (s : Int) (js : List D) : callN t (k + 1) iL [boxD s js] [] = .ok (.int js.length) [] := by
  rw [callN_of h]
  simp only [fnD, dLenB, startD, NSelf, ap_ret, ap_blt, ap_acons, ap_anil, ap_fld, ap_var, List.map_cons, List.map_nil, List.cons_append, sl0, R.opt_some, R.ok_bind, ins_box, Option.bind_some, fld_row, view_tup', bLen_t, SR.of_ok, fin_int, List.take_nil]
/-- asked of a box -/
theorem ask_box {cal : Cal} {i : Nat} {M : Mem} {s : Int} {js : List D} {d : D} (hf : frees js = true) (hc : cal i [boxD s js] [] = .ok d []) (hd : clean d = true) : askO 0 i (boxD s js) M cal = .ok d M := by
  show (if 0 = 0 ∧ frees [.int s, .tup js] = true then (lift M (cal i [boxD s js] [])).noX else .bad) = _
  rw [if_pos ⟨rfl, by show (true && (frees js && true)) = true; rw [hf]; rfl⟩, hc]
  show (if clean d = true then R.ok d M else .bad).noX = _
  rw [if_pos hd]; rfl
theorem isC_box (s : Int) (js : List D) : isC 0 (boxD s js) = some true := rfl
theorem lenOk_of {i : Int} (h0 : 0 ≤ i) (h1 : i < 1000000000) : lenOk (.int i) = true :=
  Bool.and_eq_true_iff.mpr ⟨decide_eq_true h0, decide_eq_true (Int.lt_trans h1 (by decide))⟩
def NChkB : List Str := ["box"]
noncomputable def dChkB (c : Nat) : SDen := (sIf (tNot (tTru (cIsC 0 (cVar 0)))) (sRaise c) sNil)
theorem chkB_sp (h : t iB = some (NChkB, dChkB c0)) (k : Nat) (s : Int) (js : List D) : callN t (k + 1) iB [boxD s js] [] = .ok .non [] := by
  rw [callN_of h]
  simp only [fnD, dChkB, startD, NChkB, ap_if, ap_not, ap_tru, ap_isC, ap_var, List.map_cons, List.map_nil, List.cons_append, sl0, R.opt_some, R.ok_bind, view_box, isC_box, Option.map_some, view_bl', tru_bl, Bool.not_true, SR.of_ok, Bool.false_eq_true, if_false, ap_nil, fin_nx, List.take_nil]
def NChkA : List Str := ["box", "at"]
noncomputable def dChkA (iI iL c : Nat) : SDen := (sIf (tOr (tNot (tTru (cPure iI 1 (aCons (cVar 1) aNil)))) (tNot (tChn .LtE .Lt (cC (.int 0)) (cVar 1) (cLenO 0 iL (cVar 0))))) (sRaise c) sNil)
theorem ap_chn (cal : Cal) (ρ : Env) (M : Mem) (op op' : CmpOp) (f g h : Den) : tChn op op' f g h cal ρ M = (f cal ρ M).bind fun x M1 => (g cal ρ M1).bind fun y M2 => (R.opt (cmpB op (view M2 x) (view M2 y)) M2).bind fun t M3 =>
  if t = true then (h cal ρ M3).bind fun z M4 => R.opt (cmpB op' (view M4 y) (view M4 z)) M4 else .ok false M3 := rfl
theorem chkA_fin {cal : Cal} {b : D} {a n : Int} (vb : ∀ M, view M b = b) (e1 : cal iI [.int a] [] = .ok (.bl true) []) (e2 : askO 0 iL b [] cal = .ok (.int n) []) (e3 : lenOk (.int n) = true) :
    fnD NChkA (dChkA iI iL c1) [b, .int a] [] cal = if 0 ≤ a ∧ a < n then .ok .non [] else .exn c1 [] [] [] := by
  have lf : lift [] (.ok (.bl true) []) = .ok (.bl true) [] := rfl
  simp only [fnD, dChkA, startD, NChkA, ap_if, ap_or, ap_not, ap_tru, ap_pure, ap_acons, ap_anil, ap_var, ap_c, ap_chn, ap_lenO, List.map_cons, List.map_nil, List.cons_append, sl0, slS, R.opt_some, R.ok_bind, vb, view_int', view_bl', List.length_cons, List.length_nil, Nat.zero_add, fr_cons, fr_int, fr_nil, Bool.and_self, and_self, if_true, e1, lf, tru_bl, Bool.not_true, Bool.false_eq_true, if_false, cLe_i]
  by_cases h0 : 0 ≤ a
  · rw [decide_eq_true h0]
    simp only [if_true, e2, e3, R.ok_bind, view_int', cLt_i, R.opt_some, vb]
    by_cases h1 : a < n
    · rw [if_pos ⟨h0, h1⟩, decide_eq_true h1]
      rfl
    · rw [if_neg (fun z => h1 z.2), decide_eq_false h1]
      rfl
  · rw [decide_eq_false h0]
    simp only [Bool.false_eq_true, if_false]
    rw [if_neg (show ¬ (0 ≤ a ∧ a < n) from fun z => h0 z.1)]
    rfl
theorem chkA_sp (hI : t iI = some (NIsInt, dIsInt)) (hL : t iL = some (NSelf, dLenB)) (h : t iA = some (NChkA, dChkA iI iL c1)) (k : Nat) (s : Int) {js : List D} (hf : frees js = true) {n : Int} (hn : ((js.length : Nat) : Int) = n) (hl : n < 1000000000) (a : Int) :
    callN t (k + 2) iA [boxD s js, .int a] [] = if 0 ≤ a ∧ a < n then .ok .non [] else .exn c1 [] [] [] := by
  rw [callN_of h]
  have e2 := lenB_sp hL k s js
  have h0 : 0 ≤ n := by rw [← hn]; exact Int.natCast_nonneg _
  rw [hn] at e2
  exact chkA_fin (fun _ => rfl) (isint_sp hI k a []) (ask_box hf e2 rfl) (lenOk_of h0 hl)
def wSizes : List (Str × Int) := [("planet", 4), ("double", 4), ("pair", 3), ("band", 3)]
def NFits : List Str := ["shafts", "value", "low", "shaft"]
noncomputable def dFitsB (iI : Nat) : SDen := (sIf (tOr (tNot (tTru (cPure iI 1 (aCons (cVar 3) aNil)))) (tNot (tChn .LtE .LtE (cVar 2) (cVar 3) (cVar 0)))) (sRet (cC (.bl false))) sNil)
noncomputable def dFits (iI : Nat) : SDen :=
  (sSeq (sIf (tOr (tNot (tTru (cIs "tuple" (cVar 1)))) (tOr (tCmp .Eq (cVar 1) (cTup aNil)) (tNot (tTru (cIs "str" (cIx (cVar 1) (cC (.int 0)))))))) (sRet (cC (.bl false))) sNil) (sSeq (sIf (tCmp .NotEq (cBlt bLen (aCons (cVar 1) aNil)) (cKGet wSizes (cIx (cVar 1) (cC (.int 0))) (cC (.int 0)))) (sRet (cC (.bl false))) sNil) (sSeq (sSet 2 (cC (.int 0))) (sSeq (sIf (tCmp .Eq (cBlt bLen (aCons (cVar 1) aNil)) (cC (.int 3))) (sSet 2 (cC (.int 1))) sNil) (sSeq (sFor (gNm 3) (iSeq (cSl false (cVar 1) (oSome (cC (.int 1))) oNone)) (dFitsB iI)) (sRet (cBin (cmpD .Eq) (cLenSet (cSl false (cVar 1) (oSome (cC (.int 1))) oNone)) (cBin subD (cBlt bLen (aCons (cVar 1) aNil)) (cC (.int 1))))))))))
theorem for_step {cal : Cal} {tg : Tgt} {b : SDen} {chk : Mem → Prop} {d : D} {ds : List D} {ρ ρ1 ρ2 : Env} {M M2 : Mem} (h : chk M) (h1 : tg.go d ρ = some ρ1) (h2 : b cal ρ1 M = .ok .nx ρ2 M2) : forL chk tg b (d :: ds) cal ρ M = forL chk tg b ds cal ρ2 M2 := by
  conv => lhs; unfold forL
  simp only [if_pos h, h1, h2]
theorem for_nil {cal : Cal} {tg : Tgt} {b : SDen} {chk : Mem → Prop} {ρ : Env} {M : Mem} (h : chk M) : forL chk tg b [] cal ρ M = .ok .nx ρ M := by
  unfold forL
  rw [if_pos h]
theorem fits_loop {cal : Cal} (e : ∀ v : Int, cal iI [.int v] [] = .ok (.bl true) []) {s lo : Int} {val : D} : ∀ (ns : List Int) (r3 : Option D), (∀ n ∈ ns, lo ≤ n ∧ n ≤ s) →
    ∃ r, forL (fun _ => True) (gNm 3) (dFitsB iI) (ns.map D.int) cal [some (.int s), some val, some (.int lo), r3] [] = .ok .nx [some (.int s), some val, some (.int lo), r] []
  | [], r3, _ => ⟨r3, for_nil trivial⟩
  | n :: ns, r3, h => by
    obtain ⟨h1, h2⟩ := h n List.mem_cons_self
    obtain ⟨r, hr⟩ := fits_loop e (val := val) ns (some (.int n)) fun x hx => h x (List.mem_cons_of_mem _ hx)
    refine ⟨r, ?_⟩
    have lf : lift [] (.ok (.bl true) []) = .ok (.bl true) [] := rfl
    have b : dFitsB iI cal [some (.int s), some val, some (.int lo), some (.int n)] [] = .ok .nx [some (.int s), some val, some (.int lo), some (.int n)] [] := by
      simp only [dFitsB, ap_if, ap_or, ap_not, ap_tru, ap_pure, ap_acons, ap_anil, ap_var, ap_chn, sl0, slS, R.opt_some, R.ok_bind, List.map_cons, List.map_nil, view_int', view_bl', List.length_cons, List.length_nil, Nat.zero_add, fr_cons, fr_int, fr_nil, Bool.and_self, and_self, if_true, e, lf, tru_bl, Bool.not_true, Bool.false_eq_true, if_false, cLe_i, decide_eq_true h1, decide_eq_true h2, SR.of_ok, ap_nil]
    rw [List.map_cons, for_step trivial rfl b]
    exact hr
theorem eq_tupnil {xs : List D} {ps : List PyData} (h : toPs xs = some ps) (hs : SeqAt.shaped (.tuple ps) = true) (hn : ps ≠ []) : cmpB .Eq (.tup xs) (.tup []) = some false := by
  show eqB _ _ = _
  have e : toP (.tup xs) = some (.tuple ps) := by unfold toP; rw [h]; rfl
  have e2 : toP (.tup []) = some (.tuple []) := rfl
  unfold eqB
  rw [e, e2]
  show (if _ then _ else _) = _
  rw [if_pos ⟨hs, rfl⟩]
  cases ps with
  | nil => exact absurd rfl hn
  | cons z r => rfl
@[simp] theorem is_ss (s : Str) : isB "str" (.str s) = some true := by show (isTab.find? fun p => p.1 == "str" && p.2.1 == "str").map (·.2.2) = some true; decide +kernel
theorem str_lay {s : Str} (h : OkS s) : PyData.canLay0 (.str s) = true := by
  have h2 := okS_shaped h
  unfold SeqAt.shaped at h2
  exact (Bool.and_eq_true_iff.mp h2).1
theorem shaped_job {s : Str} (h : OkS s) (ns : List Int) : SeqAt.shaped (.tuple (.str s :: ns.map PyData.int)) = true := by
  have h1 : PyData.canLayAll0 (ns.map PyData.int) = true := by
    induction ns with
    | nil => rfl
    | cons n ns ih => show (true && PyData.canLayAll0 (ns.map PyData.int)) = true; rw [ih]; rfl
  have h2 : PyData.depthAll (ns.map PyData.int) = 0 := by
    clear h1
    induction ns with
    | nil => rfl
    | cons n ns ih => show max 0 (PyData.depthAll (ns.map PyData.int)) = 0; rw [ih]; rfl
  unfold SeqAt.shaped
  have e1 : (PyData.tuple (.str s :: ns.map PyData.int)).canLay0 = true := by
    show (PyData.canLay0 (.str s) && PyData.canLayAll0 (ns.map PyData.int)) = true
    rw [str_lay h, h1]; rfl
  have e2 : (PyData.tuple (.str s :: ns.map PyData.int)).depth ≤ 64 := by
    show max 0 (PyData.depthAll (ns.map PyData.int)) + 1 ≤ 64
    rw [h2]; decide
  rw [e1, decide_eq_true e2]; rfl
theorem toPs_job (s : Str) (ns : List Int) : toPs (.str s :: ns.map D.int) = some (.str s :: ns.map PyData.int) := by
  have h : toPs (ns.map D.int) = some (ns.map PyData.int) := by
    induction ns with
    | nil => rfl
    | cons n ns ih => show toPs (.int n :: ns.map D.int) = _; unfold toPs; rw [ih]; rfl
  unfold toPs
  rw [h]; rfl
/-- a work by its parts: its word, its shafts, how many, the least one -/
structure JobP (s : Int) (w : Str) (ns : List Int) (lo : Int) : Prop where
  ok : OkS w
  con : wSizes.lookup w = some ((ns.length : Int) + 1)
  lw : lo = if (ns.length : Int) + 1 = 3 then 1 else 0
  rg : ∀ n ∈ ns, lo ≤ n ∧ n ≤ s
  nd : ns.Nodup
  len : ns.length ≤ 3
theorem Job.parts {s : Int} {d : D} (h : Job s d) : ∃ w ns lo, d = .tup (.str w :: ns.map D.int) ∧ JobP s w ns lo := by
  cases h with
  | @planet a b c h1 h2 h3 n1 n2 n3 => exact ⟨"planet", [a, b, c], 0, rfl, by unfold OkS; decide +kernel, (show wSizes.lookup ("planet" : Str) = some 4 by decide +kernel), (show (0 : Int) = if (3 : Int) + 1 = 3 then 1 else 0 by decide), by intro n hn; simp only [List.mem_cons, List.not_mem_nil, or_false] at hn; rcases hn with rfl | rfl | rfl <;> assumption, by simp [n1, n2, n3], (show 3 ≤ 3 by decide)⟩
  | @double a b c h1 h2 h3 n1 n2 n3 => exact ⟨"double", [a, b, c], 0, rfl, by unfold OkS; decide +kernel, (show wSizes.lookup ("double" : Str) = some 4 by decide +kernel), (show (0 : Int) = if (3 : Int) + 1 = 3 then 1 else 0 by decide), by intro n hn; simp only [List.mem_cons, List.not_mem_nil, or_false] at hn; rcases hn with rfl | rfl | rfl <;> assumption, by simp [n1, n2, n3], (show 3 ≤ 3 by decide)⟩
  | @pair a b h1 h2 n1 => exact ⟨"pair", [a, b], 1, rfl, by unfold OkS; decide +kernel, (show wSizes.lookup ("pair" : Str) = some 3 by decide +kernel), (show (1 : Int) = if (2 : Int) + 1 = 3 then 1 else 0 by decide), by intro n hn; simp only [List.mem_cons, List.not_mem_nil, or_false] at hn; rcases hn with rfl | rfl <;> assumption, by simp [n1], (show 2 ≤ 3 by decide)⟩
  | @band a b h1 h2 n1 => exact ⟨"band", [a, b], 1, rfl, by unfold OkS; decide +kernel, (show wSizes.lookup ("band" : Str) = some 3 by decide +kernel), (show (1 : Int) = if (2 : Int) + 1 = 3 then 1 else 0 by decide), by intro n hn; simp only [List.mem_cons, List.not_mem_nil, or_false] at hn; rcases hn with rfl | rfl <;> assumption, by simp [n1], (show 2 ≤ 3 by decide)⟩
theorem fits_fin {cal : Cal} (e : ∀ v : Int, cal iI [.int v] [] = .ok (.bl true) []) {s lo l : Int} {w : Str} {ns : List Int} (J : JobP s w ns lo) (hl : (((ns.length : Nat) : Int)) = l) :
    fnD NFits (dFits iI) [.int s, .tup (.str w :: ns.map D.int)] [] cal = .ok (.bl true) [] := by
  obtain ⟨j1, j2, j3, j4, j5, j6⟩ := J
  have z : toPs (.str w :: ns.map D.int) = some (.str w :: ns.map PyData.int) := toPs_job w ns
  have e1 := eq_tupnil z (shaped_job j1 ns) (by intro q; cases q)
  have e2 : atI (D.str w :: ns.map D.int) 0 = some (.str w) := at0 _ _
  have e3 : conD wSizes (.str w) (.int 0) = some (.int (l + 1)) := by
    show (match wSizes.lookup w with | some i => some (D.int i) | none => _) = _
    rw [j2, hl]
  have e4 : ∀ M, bLen [.tup (.str w :: ns.map D.int)] M = .ok (.int (l + 1)) M := fun M => by
    rw [bLen_t, List.length_cons, List.length_map, ← hl]; rfl
  have e5 : cutD (D.str w :: ns.map D.int) (some 1) none = ns.map D.int := cut_from _ 1
  have e6 : lenSet (.tup (ns.map D.int)) = some (.int l) := by
    show (match intsOf (ns.map D.int) with | some ns => if ns.Nodup ∧ ns.length ≤ 1000 then some (D.int ns.length) else none | none => none) = _
    rw [intsOf_map]
    show (if ns.Nodup ∧ ns.length ≤ 1000 then some (D.int ns.length) else none) = _
    rw [if_pos ⟨j5, by omega⟩, hl]
  rw [hl] at j3
  have e7 : ∀ (xs : List D) (lo hi : Option Int) (M : Mem), slD false (.tup xs) lo hi M = .ok (.tup (cutD xs lo hi)) M := fun _ _ _ _ => rfl
  obtain ⟨r, hr⟩ := fits_loop e (val := .tup (.str w :: ns.map D.int)) ns none j4
  have hv : ∀ xs : List D, srcD [] (.tup xs) = some ⟨xs, fun _ => True⟩ := fun _ => rfl
  unfold fnD dFits
  simp only [startD, NFits, List.map_cons, List.map_nil, List.cons_append, List.nil_append, List.length_cons, List.length_nil, Nat.zero_add, Nat.reduceAdd, Nat.reduceSub, List.replicate, ap_seq, ap_if, ap_or, ap_not, ap_tru, ap_is, ap_cmp, ap_tup, ap_anil, ap_ix, ap_var, ap_c, sl0, slS, R.opt_some, R.ok_bind, view_tup', view_int', view_bl', view_str', is_tt, is_ss, Option.map_some, tru_bl, Bool.not_true, Bool.false_eq_true, if_false, Nat.zero_le, if_true, e1, ix_tup, e2, SR.of_ok, ap_nil, SR.seq_nx,
    ap_blt, ap_acons, e4, ap_kget, e3, cNe_i, cEq_i, eq_self, decide_true, ap_set, se0, seS]
  have step : ∀ (r2 : Option D), r2 = some (.int lo) → finD 0 ((sSeq (sFor (gNm 3) (iSeq (cSl false (cVar 1) (oSome (cC (.int 1))) oNone)) (dFitsB iI)) (sRet (cBin (cmpD .Eq) (cLenSet (cSl false (cVar 1) (oSome (cC (.int 1))) oNone)) (cBin subD (cBlt bLen (aCons (cVar 1) aNil)) (cC (.int 1)))))) cal [some (.int s), some (.tup (.str w :: ns.map D.int)), r2, none] []) = .ok (.bl true) [] := by
    intro r2 h2
    subst h2
    simp only [ap_seq, ap_for, ap_seqI, ap_sl, ap_osome, ap_onone, ap_var, ap_c, sl0, slS, R.opt_some, R.ok_bind, view_tup', view_int', e7, e5, hv, SR.of_ok, hr, SR.seq_nx, ap_ret, ap_bin, ap_lenSet, e6, ap_blt, ap_acons, ap_anil, List.map_cons, List.map_nil, e4, sub_i, Int.add_sub_cancel, dEq_i, eq_self, decide_true, fin_bl, List.take_nil]
  by_cases h3 : l + 1 = 3
  · rw [if_pos h3] at j3
    rw [decide_eq_true h3]
    exact step _ (by rw [j3])
  · rw [if_neg h3] at j3
    rw [decide_eq_false h3]
    exact step _ (by rw [j3])
theorem fits_sp (hI : t iI = some (NIsInt, dIsInt)) (h : t iW = some (NFits, dFits iI)) (k : Nat) {s : Int} {d : D} (J : Job s d) : callN t (k + 2) iW [.int s, d] [] = .ok (.bl true) [] := by
  obtain ⟨w, ns, lo, rfl, P⟩ := J.parts
  rw [callN_of h]
  exact fits_fin (fun v => isint_sp hI k v []) P rfl
noncomputable def dChkS (iI c : Nat) : SDen := (sIf (tOr (tNot (tTru (cPure iI 1 (aCons (cVar 0) aNil)))) (tCmp .Lt (cVar 0) (cC (.int 1)))) (sRaise c) sNil)
theorem chkS_sp (hI : t iI = some (NIsInt, dIsInt)) (h : t iS = some (NCheckS, dChkS iI c0)) (k : Nat) {span : Int} (hp : 1 ≤ span) : callN t (k + 2) iS [.int span] [] = .ok .non [] := by
  have e := fun v => isint_sp hI k v []
  have : ¬ span < 1 := by omega
  rw [callN_of h]
  simp [fnD, dChkS, startD, NCheckS, e, this, ap_nil]
def NInit : List Str := ["self", "shafts", "works", "work"]
noncomputable def dInitB (iW c : Nat) : SDen := (sIf (tNot (tTru (cPure iW 2 (aCons (cVar 1) (aCons (cVar 3) aNil))))) (sRaise c) sNil)
noncomputable def dInit (iS iW c : Nat) : SDen :=
  (sSeq (sExpr (cPure iS 1 (aCons (cVar 1) aNil))) (sSeq (sIf (tNot (tTru (cIs "list" (cVar 2)))) (sRaise c) sNil) (sSeq (sFor (gNm 3) (iSeq (cVar 2)) (dInitB iW c)) (sSeq (sFld 0 "many" (cVar 0) (cVar 1)) (sFld 0 "row" (cVar 0) (cBlt bTuple (aCons (cVar 2) aNil)))))))
theorem init_loop {cal : Cal} {s : Int} {d0 d2 : D} {M : Mem} : ∀ (js : List D) (r3 : Option D), (∀ j ∈ js, Job s j) → (∀ j, Job s j → cal iW [.int s, j] [] = .ok (.bl true) []) →
    ∃ r, forL (fun _ => True) (gNm 3) (dInitB iW c1) js cal [some d0, some (.int s), some d2, r3] M = .ok .nx [some d0, some (.int s), some d2, r] M
  | [], r3, _, _ => ⟨r3, for_nil trivial⟩
  | j :: js, r3, h, e => by
    obtain ⟨r, hr⟩ := init_loop (d0 := d0) (d2 := d2) (M := M) js (some j) (fun x hx => h x (List.mem_cons_of_mem _ hx)) e
    have hj := h j List.mem_cons_self
    have lf : lift M (.ok (.bl true) []) = .ok (.bl true) M := rfl
    have b : dInitB iW c1 cal [some d0, some (.int s), some d2, some j] M = .ok .nx [some d0, some (.int s), some d2, some j] M := by
      simp only [dInitB, ap_if, ap_not, ap_tru, ap_pure, ap_acons, ap_anil, ap_var, sl0, slS, R.opt_some, R.ok_bind, List.map_cons, List.map_nil, view_int', hj.view, view_bl', List.length_cons, List.length_nil, Nat.zero_add, Nat.reduceAdd, fr_cons, fr_int, hj.free, fr_nil, Bool.and_self, and_self, if_true, e j hj, lf, tru_bl, Bool.not_true, Bool.false_eq_true, if_false, SR.of_ok, ap_nil]
    exact ⟨r, by rw [for_step trivial rfl b]; exact hr⟩
theorem init_fin {cal : Cal} {s : Int} {js : List D} (hj : ∀ j ∈ js, Job s j) (e1 : cal iS [.int s] [] = .ok .non []) (e2 : ∀ j, Job s j → cal iW [.int s, j] [] = .ok (.bl true) []) (b : Bool) :
    fnD NInit (dInit iS iW c1) [.ref 0, .int s, .lst b js] [.ins 0 [] []] cal = .ok .non [.ins 0 fBox [.int s, .tup js]] := by
  have hf := jobs_free hj
  obtain ⟨r, hr⟩ := init_loop (iW := iW) (c1 := c1) (d0 := .ref 0) (d2 := .lst b js) (M := [.ins 0 [] []]) js none hj e2
  have lf : ∀ M, lift M (.ok .non []) = .ok .non M := fun _ => rfl
  have hv : ∀ M xs, srcD M (.lst b xs) = some ⟨xs, fun _ => True⟩ := fun _ _ => rfl
  have bt : ∀ M, bTuple [.lst b js] M = .ok (.tup js) M := fun _ => rfl
  have hmr : ¬ (Str.ofString "many" = Str.ofString "row") := by decide +kernel
  unfold fnD dInit
  simp only [startD, NInit, List.map_cons, List.map_nil, List.cons_append, List.nil_append, List.length_cons, List.length_nil, Nat.zero_add, Nat.reduceAdd, Nat.reduceSub, List.replicate, ap_seq, ap_expr, ap_pure, ap_acons, ap_anil, ap_var, sl0, slS, R.opt_some, R.ok_bind, view_int', view_lst', view_bl', fr_cons, fr_int, fr_nil, Bool.and_self, and_self, if_true, e1, lf, SR.of_ok, SR.seq_nx, ap_if, ap_not, ap_tru, ap_is, is_ll, Option.map_some, tru_bl, Bool.not_true, Bool.false_eq_true, if_false, ap_nil, ap_for, ap_seqI, hv, hr,
    ap_sfld, ap_blt, bt, List.getElem?_cons_zero, putKs, putVs, List.set_cons_zero, fr_tup, hf, true_and, Nat.reduceLT, hmr]
  rfl
theorem init_sp (hI : t iI = some (NIsInt, dIsInt)) (hS : t iS = some (NCheckS, dChkS iI c0)) (hW : t iW = some (NFits, dFits iI)) (h : t iN = some (NInit, dInit iS iW c1)) (k : Nat) {s : Int} (h1 : 1 ≤ s) {js : List D} (hj : ∀ j ∈ js, Job s j) (b : Bool) :
    callN t (k + 3) iN [.ref 0, .int s, .lst b js] [.ins 0 [] []] = .ok .non [.ins 0 fBox [.int s, .tup js]] := by
  rw [callN_of h]
  exact init_fin hj (chkS_sp hI hS k h1) (fun j J => fits_sp hI hW k J) b
noncomputable def dDiffs : SDen :=
  (sSeq (sIf (tCmp .Eq (cBlt bLen (aCons (cVar 0) aNil)) (cC (.int 4))) (sRet (cTup (aCons (cTup (aCons (cIx (cVar 0) (cC (.int 1))) (aCons (cIx (cVar 0) (cC (.int 2))) aNil))) (aCons (cTup (aCons (cIx (cVar 0) (cC (.int 3))) (aCons (cIx (cVar 0) (cC (.int 2))) aNil))) aNil)))) sNil) (sRet (cTup (aCons (cTup (aCons (cIx (cVar 0) (cC (.int 1))) (aCons (cC (.int 0)) aNil))) (aCons (cTup (aCons (cIx (cVar 0) (cC (.int 2))) (aCons (cC (.int 0)) aNil))) aNil)))))
/-- a work's differences -/
def dif1 : D → Int × Int
  | .tup [_, .int a, .int b, .int _] => (a, b)
  | .tup [_, .int a, .int _] => (a, 0)
  | _ => (0, 0)
def dif2 : D → Int × Int
  | .tup [_, .int _, .int b, .int c] => (c, b)
  | .tup [_, .int _, .int b] => (b, 0)
  | _ => (0, 0)
def sgn : D → Int
  | .tup (.str w :: _) => if w = "planet" ∨ w = "pair" then 1 else -1
  | _ => 1
theorem at3 {α : Type} (x y z u : α) (xs : List α) : atI (x :: y :: z :: u :: xs) 3 = some u := at_nat (x :: y :: z :: u :: xs) 3
theorem diff_sp {x : Str} (h : t iD = some ([x], dDiffs)) (k : Nat) {s : Int} {d : D} (J : Job s d) : callN t (k + 1) iD [d] [] = .ok (.tup [pD (dif1 d), pD (dif2 d)]) [] := by
  have tl := two_le
  rw [callN_of h]
  have four : ∀ w a b c, fnD [x] dDiffs [.tup [.str w, .int a, .int b, .int c]] [] (callN t k) = .ok (.tup [pD (a, b), pD (c, b)]) [] := fun w a b c => by
    have e : ∀ M, bLen [.tup [.str w, .int a, .int b, .int c]] M = .ok (.int 4) M := fun _ => rfl
    simp only [fnD, dDiffs, startD, List.map_cons, List.map_nil, List.cons_append, List.nil_append, List.length_cons, List.length_nil, Nat.zero_add, Nat.reduceAdd, Nat.reduceSub, List.replicate, ap_seq, ap_if, ap_cmp, ap_blt, ap_acons, ap_anil, ap_var, ap_c, sl0, R.opt_some, R.ok_bind, view_tup', view_int', e, cEq_i, eq_self, decide_true, SR.of_ok, if_true, ap_ret, ap_tup, ap_ix, ix_tup, at1, at2, at3, tl, SR.seq_rt]
    rfl
  have three : ∀ w a b, fnD [x] dDiffs [.tup [.str w, .int a, .int b]] [] (callN t k) = .ok (.tup [pD (a, 0), pD (b, 0)]) [] := fun w a b => by
    have e : ∀ M, bLen [.tup [.str w, .int a, .int b]] M = .ok (.int 3) M := fun _ => rfl
    have ne : decide ((3 : Int) = 4) = false := rfl
    simp only [fnD, dDiffs, startD, List.map_cons, List.map_nil, List.cons_append, List.nil_append, List.length_cons, List.length_nil, Nat.zero_add, Nat.reduceAdd, Nat.reduceSub, List.replicate, ap_seq, ap_if, ap_cmp, ap_blt, ap_acons, ap_anil, ap_var, ap_c, sl0, R.opt_some, R.ok_bind, view_tup', view_int', e, cEq_i, ne, SR.of_ok, Bool.false_eq_true, if_false, ap_nil, SR.seq_nx, ap_ret, ap_tup, ap_ix, ix_tup, at1, at2, tl, if_true]
    rfl
  cases J with
  | planet _ _ _ _ _ _ => exact four _ _ _ _
  | double _ _ _ _ _ _ => exact four _ _ _ _
  | pair _ _ _ => exact three _ _ _
  | band _ _ _ => exact three _ _ _
noncomputable def dSense : SDen :=
  (sSeq (sIf (tCmp .In (cIx (cVar 0) (cC (.int 0))) (cTup (aCons (cC (.str "planet")) (aCons (cC (.str "pair")) aNil)))) (sRet (cC (.int 1))) sNil) (sRet (cNeg (cC (.int 1)))))
theorem sense_go {x w : Str} {cal : Cal} {b : Bool} {r : List D} (h : cmpB .In (.str w) (.tup [.str "planet", .str "pair"]) = some b) : fnD [x] dSense [.tup (.str w :: r)] [] cal = .ok (.int (if b = true then 1 else -1)) [] := by
  have tl := two_le
  have e := at0 (D.str w) r
  simp only [fnD, dSense, startD, List.map_cons, List.map_nil, List.cons_append, List.nil_append, List.length_cons, List.length_nil, Nat.zero_add, Nat.reduceAdd, Nat.reduceSub, List.replicate, ap_seq, ap_if, ap_cmp, ap_acons, ap_anil, ap_var, ap_c, sl0, R.opt_some, R.ok_bind, view_tup', view_int', view_str', ap_tup, ap_ix, ix_tup, e, tl, if_true, h, SR.of_ok]
  cases b <;> rfl
theorem sgn_w (w : Str) (r : List D) : sgn (.tup (.str w :: r)) = if w = "planet" ∨ w = "pair" then 1 else -1 := by unfold sgn; rfl
theorem sgn_p (r : List D) : sgn (.tup (.str "planet" :: r)) = 1 := by rw [sgn_w, if_pos (Or.inl rfl)]
theorem sgn_d (r : List D) : sgn (.tup (.str "double" :: r)) = -1 := by rw [sgn_w, if_neg (show ¬ (("double" : Str) = "planet" ∨ ("double" : Str) = "pair") by decide +kernel)]
theorem sgn_r (r : List D) : sgn (.tup (.str "pair" :: r)) = 1 := by rw [sgn_w, if_pos (Or.inr rfl)]
theorem sgn_b (r : List D) : sgn (.tup (.str "band" :: r)) = -1 := by rw [sgn_w, if_neg (show ¬ (("band" : Str) = "planet" ∨ ("band" : Str) = "pair") by decide +kernel)]
theorem sense_sp {x : Str} (h : t iE = some ([x], dSense)) (k : Nat) {s : Int} {d : D} (J : Job s d) : callN t (k + 1) iE [d] [] = .ok (.int (sgn d)) [] := by
  rw [callN_of h]
  cases J with
  | planet _ _ _ _ _ _ => rw [sense_go (b := true) (by decide +kernel), sgn_p]; rfl
  | double _ _ _ _ _ _ => rw [sense_go (b := false) (by decide +kernel), sgn_d]; rfl
  | pair _ _ _ => rw [sense_go (b := true) (by decide +kernel), sgn_r]; rfl
  | band _ _ _ => rw [sense_go (b := false) (by decide +kernel), sgn_b]; rfl
def NAt : List Str := ["box", "at"]
noncomputable def dFirst (iB iA iD iR : Nat) (j : Int) : SDen :=
  (sSeq (sExpr (cPure iB 1 (aCons (cVar 0) aNil))) (sSeq (sExpr (cPure iA 2 (aCons (cVar 0) (aCons (cVar 1) aNil)))) (sRet (cIx (cPure iD 1 (aCons (cIx (cProp 0 iR (cVar 0)) (cVar 1)) aNil)) (cC (.int j))))))
noncomputable def dSenseAt (iB iA iE iR : Nat) : SDen :=
  (sSeq (sExpr (cPure iB 1 (aCons (cVar 0) aNil))) (sSeq (sExpr (cPure iA 2 (aCons (cVar 0) (aCons (cVar 1) aNil)))) (sRet (cPure iE 1 (aCons (cIx (cProp 0 iR (cVar 0)) (cVar 1)) aNil)))))
theorem pD_two (j : Int) (hj : j = 0 ∨ j = 1) (a b : Int × Int) : atI [pD a, pD b] j = some (pD (if j = 0 then a else b)) := by
  rcases hj with rfl | rfl
  · exact at0 _ _
  · exact at1 _ _ _
theorem first_fin {cal : Cal} {b d : D} {js : List D} {a j : Int} {s : Int} (J : Job s d) (vb : ∀ M, view M b = b) (fb : free b = true) (e1 : cal iB [b] [] = .ok .non []) (e2 : cal iA [b, .int a] [] = .ok .non []) (e3 : askO 0 iR b [] cal = .ok (.tup js) []) (e4 : atI js a = some d)
    (e5 : cal iD [d] [] = .ok (.tup [pD (dif1 d), pD (dif2 d)]) []) (hj : j = 0 ∨ j = 1) : fnD NAt (dFirst iB iA iD iR j) [b, .int a] [] cal = .ok (pD (if j = 0 then dif1 d else dif2 d)) [] := by
  have lf : lift [] (.ok .non []) = .ok .non [] := rfl
  have lf2 : lift [] (.ok (.tup [pD (dif1 d), pD (dif2 d)]) []) = .ok (.tup [pD (dif1 d), pD (dif2 d)]) [] := rfl
  have e6 := pD_two j hj (dif1 d) (dif2 d)
  simp only [fnD, dFirst, startD, NAt, List.map_cons, List.map_nil, List.cons_append, List.nil_append, List.length_cons, List.length_nil, Nat.zero_add, Nat.reduceAdd, Nat.reduceSub, List.replicate, ap_seq, ap_expr, ap_pure, ap_acons, ap_anil, ap_var, ap_c, sl0, slS, R.opt_some, R.ok_bind, vb, fb, view_int', view_tup', J.view, J.free, fr_cons, fr_int, fr_nil, Bool.and_self, and_self, if_true, e1, e2, lf, SR.of_ok, SR.seq_nx, ap_ret, ap_ix, ap_prop, e3, ix_tup, e4, e5, lf2, e6]
  rfl
theorem first_bad {cal : Cal} {b : D} {a j : Int} (vb : ∀ M, view M b = b) (fb : free b = true) (e1 : cal iB [b] [] = .ok .non []) (e2 : cal iA [b, .int a] [] = .exn c1 [] [] []) : fnD NAt (dFirst iB iA iD iR j) [b, .int a] [] cal = .exn c1 [] [] [] := by
  have lf : lift [] (.ok .non []) = .ok .non [] := rfl
  have lf2 : lift [] (.exn c1 [] [] []) = .exn c1 [] [] [] := rfl
  simp only [fnD, dFirst, startD, NAt, List.map_cons, List.map_nil, List.cons_append, List.nil_append, List.length_cons, List.length_nil, Nat.zero_add, Nat.reduceAdd, Nat.reduceSub, List.replicate, ap_seq, ap_expr, ap_pure, ap_acons, ap_anil, ap_var, ap_c, sl0, slS, R.opt_some, R.ok_bind, vb, fb, view_int', fr_cons, fr_int, fr_nil, Bool.and_self, and_self, if_true, e1, e2, lf, lf2, SR.of_ok, SR.seq_nx]
  rfl
theorem senseAt_fin {cal : Cal} {b d : D} {js : List D} {a : Int} {s : Int} (J : Job s d) (vb : ∀ M, view M b = b) (fb : free b = true) (e1 : cal iB [b] [] = .ok .non []) (e2 : cal iA [b, .int a] [] = .ok .non []) (e3 : askO 0 iR b [] cal = .ok (.tup js) []) (e4 : atI js a = some d)
    (e5 : cal iE [d] [] = .ok (.int (sgn d)) []) : fnD NAt (dSenseAt iB iA iE iR) [b, .int a] [] cal = .ok (.int (sgn d)) [] := by
  have lf : lift [] (.ok .non []) = .ok .non [] := rfl
  have lf2 : lift [] (.ok (.int (sgn d)) []) = .ok (.int (sgn d)) [] := rfl
  simp only [fnD, dSenseAt, startD, NAt, List.map_cons, List.map_nil, List.cons_append, List.nil_append, List.length_cons, List.length_nil, Nat.zero_add, Nat.reduceAdd, Nat.reduceSub, List.replicate, ap_seq, ap_expr, ap_pure, ap_acons, ap_anil, ap_var, ap_c, sl0, slS, R.opt_some, R.ok_bind, vb, fb, view_int', view_tup', J.view, J.free, fr_cons, fr_int, fr_nil, Bool.and_self, and_self, if_true, e1, e2, lf, SR.of_ok, SR.seq_nx, ap_ret, ap_ix, ap_prop, e3, ix_tup, e4, e5, lf2]
  rfl
theorem senseAt_bad {cal : Cal} {b : D} {a : Int} (vb : ∀ M, view M b = b) (fb : free b = true) (e1 : cal iB [b] [] = .ok .non []) (e2 : cal iA [b, .int a] [] = .exn c1 [] [] []) : fnD NAt (dSenseAt iB iA iE iR) [b, .int a] [] cal = .exn c1 [] [] [] := by
  have lf : lift [] (.ok .non []) = .ok .non [] := rfl
  have lf2 : lift [] (.exn c1 [] [] []) = .exn c1 [] [] [] := rfl
  simp only [fnD, dSenseAt, startD, NAt, List.map_cons, List.map_nil, List.cons_append, List.nil_append, List.length_cons, List.length_nil, Nat.zero_add, Nat.reduceAdd, Nat.reduceSub, List.replicate, ap_seq, ap_expr, ap_pure, ap_acons, ap_anil, ap_var, ap_c, sl0, slS, R.opt_some, R.ok_bind, vb, fb, view_int', fr_cons, fr_int, fr_nil, Bool.and_self, and_self, if_true, e1, e2, lf, lf2, SR.of_ok, SR.seq_nx]
  rfl
end
end Vm

namespace Vm
open PySem PySem.Spec L2
section
variable {t : Tbl} {iT iM iJ iK : Nat}
theorem nices_ints (ns : List Int) : nices (ns.map D.int) 1 = true := nices_iff.mpr fun d hd => by
  obtain ⟨i, _, rfl⟩ := List.mem_map.mp hd
  rfl
def NJob : List Str := ["jar", "span", "word", "pool", "many"]
noncomputable def dJobT (iM : Nat) : SDen := (sRet (cBlt bTuple (aCons (cBin addD (cLst false (aCons (cVar 2) aNil)) (cSl false (cFrz (cCall iM 2 (aCons (cVar 0) (aCons (cVar 3) aNil)))) oNone (oSome (cVar 4)))) aNil)))
noncomputable def dJob (iT iM : Nat) : SDen :=
  (sSeq (sSet 2 (cIx (cLst false (aCons (cC (.str "planet")) (aCons (cC (.str "double")) (aCons (cC (.str "pair")) (aCons (cC (.str "band")) aNil))))) (cCall iT 2 (aCons (cVar 0) (aCons (cC (.int 4)) aNil))))) (sSeq (sSet 3 (cLsRg2 false (cC (.int 1)) (cBin addD (cVar 1) (cC (.int 1))))) (sSeq (sSet 4 (cC (.int 2))) (sSeq (sIf (tOr (tCmp .Eq (cVar 2) (cC (.str "planet"))) (tCmp .Eq (cVar 2) (cC (.str "double")))) (sSeq (sSet 3 (cLsRg1 false (cBin addD (cVar 1) (cC (.int 1))))) (sSet 4 (cC (.int 3)))) sNil) (dJobT iM)))))
theorem one_le : 1 ≤ sizeLine := by rw [sizeLine_eq]; decide
theorem job_tail (hT : t iT = some (NTake, dTake)) (hMx : t iM = some (NMixed, dMixed iT)) (k : Nat) {M : Mem} {n : Nat} {x : Cell} (hM : M[n]? = some x) (hx : JarC x) {ns : List Int} (hz : ns.length ≤ 100) {w : Str} {sp : Int} (m : Nat) :
    ∃ (zs : List Int) (x' : Cell), zs.Perm ns ∧ JarC x' ∧ dJobT iM (callN t (k + 2)) [some (.ref n), some (.int sp), some (.str w), some (.lst false (ns.map D.int)), some (.int (m : Int))] M = .ok (.rt (.tup (.str w :: (zs.take m).map D.int))) [some (.ref n), some (.int sp), some (.str w), some (.lst false (ns.map D.int)), some (.int (m : Int))] (M.set n x') := by
  obtain ⟨ys, x', p1, p2, p3⟩ := mixed_sp hT hMx k (nn := 1) (by decide) hM hx (rows := .lst false (ns.map D.int)) rfl (nices_ints ns) (by rw [List.length_map]; omega)
  obtain ⟨zs, rfl, pz⟩ := perm_map p1
  refine ⟨zs, x', pz, p2, ?_⟩
  have hl : (M.set n x').length = M.length := List.length_set
  have fz := frz_new (M0 := M) (xs := zs.map D.int) hl
  have c1 : cutD (zs.map D.int) none (some (m : Int)) = (zs.take m).map D.int := by rw [cut_to, List.map_take]
  have ol := one_le
  have la : [D.str w].length + ((zs.take m).map D.int).length ≤ sizeLine := by
    have h1 := pz.length_eq
    have h2 : (zs.take m).length ≤ zs.length := by rw [List.length_take]; omega
    rw [List.length_map, sizeLine_eq]
    show 1 + _ ≤ _
    omega
  have bt : ∀ (xs : List D) (M : Mem), bTuple [.lst false xs] M = .ok (.tup xs) M := fun _ _ => rfl
  unfold dJobT
  simp only [ap_ret, ap_blt, ap_acons, ap_anil, ap_bin, ap_lst, ap_sl, ap_frz, ap_call, ap_onone, ap_osome, ap_var, sl0, slS, R.opt_some, R.ok_bind, List.length_cons, List.length_nil, Nat.zero_add, Nat.reduceAdd, ol, if_true, newF, p3, fz, view_lst', sl_lst, c1, add_l la, List.map_cons, List.map_nil, bt, SR.of_ok, List.cons_append, List.nil_append]
theorem take_nd {zs : List Int} (h : zs.Nodup) (m : Nat) : (zs.take m).Nodup := h.sublist (List.take_sublist _ _)
theorem len3 {l : List Int} (h : l.length = 3) : ∃ a b c, l = [a, b, c] := by
  match l, h with
  | [a, b, c], _ => exact ⟨a, b, c, rfl⟩
theorem len2 {l : List Int} (h : l.length = 2) : ∃ a b, l = [a, b] := by
  match l, h with
  | [a, b], _ => exact ⟨a, b, rfl⟩
/-- distinct numbers of a range, three or two of them -/
theorem pick3 {s : Int} {zs ns : List Int} (hp : zs.Perm ns) (nd : ns.Nodup) (rg : ∀ y ∈ ns, 0 ≤ y ∧ y ≤ s) (hl : 3 ≤ ns.length) : ∃ a b c, zs.take 3 = [a, b, c] ∧ (0 ≤ a ∧ a ≤ s) ∧ (0 ≤ b ∧ b ≤ s) ∧ (0 ≤ c ∧ c ≤ s) ∧ a ≠ b ∧ a ≠ c ∧ b ≠ c := by
  have h1 : (zs.take 3).length = 3 := by rw [List.length_take, hp.length_eq]; omega
  have h2 := take_nd (hp.nodup_iff.mpr nd) 3
  have h3 : ∀ y ∈ zs.take 3, 0 ≤ y ∧ y ≤ s := fun y hy => rg y (hp.mem_iff.mp (List.mem_of_mem_take hy))
  obtain ⟨a, b, c, e⟩ := len3 h1
  rw [e] at h2 h3
  simp only [List.nodup_cons, List.mem_cons, List.not_mem_nil, or_false, not_or, not_false_eq_true, List.nodup_nil, and_true] at h2
  exact ⟨a, b, c, e, h3 a (by simp), h3 b (by simp), h3 c (by simp), h2.1.1, h2.1.2, h2.2⟩
theorem pick2 {s : Int} {zs ns : List Int} (hp : zs.Perm ns) (nd : ns.Nodup) (rg : ∀ y ∈ ns, 1 ≤ y ∧ y ≤ s) (hl : 2 ≤ ns.length) : ∃ a b, zs.take 2 = [a, b] ∧ (1 ≤ a ∧ a ≤ s) ∧ (1 ≤ b ∧ b ≤ s) ∧ a ≠ b := by
  have h1 : (zs.take 2).length = 2 := by rw [List.length_take, hp.length_eq]; omega
  have h2 := take_nd (hp.nodup_iff.mpr nd) 2
  have h3 : ∀ y ∈ zs.take 2, 1 ≤ y ∧ y ≤ s := fun y hy => rg y (hp.mem_iff.mp (List.mem_of_mem_take hy))
  obtain ⟨a, b, e⟩ := len2 h1
  rw [e] at h2 h3
  simp only [List.nodup_cons, List.mem_cons, List.not_mem_nil, or_false, not_false_eq_true, List.nodup_nil, and_true] at h2
  exact ⟨a, b, e, h3 a (by simp), h3 b (by simp), h2⟩
def rgL (lo : Int) (m : Nat) : List Int := (List.range m).map fun i => lo + (i : Nat)
theorem rgL_nd (lo : Int) (m : Nat) : (rgL lo m).Nodup := by
  refine List.Pairwise.map _ (fun a b h => ?_) List.nodup_range
  intro z
  exact h (by omega)
theorem rgL_mem {lo : Int} {m : Nat} {y : Int} (h : y ∈ rgL lo m) : lo ≤ y ∧ y < lo + m := by
  obtain ⟨i, hi, rfl⟩ := List.mem_map.mp h
  have := List.mem_range.mp hi
  omega
theorem rgL_len (lo : Int) (m : Nat) : (rgL lo m).length = m := by unfold rgL; rw [List.length_map, List.length_range]
theorem rgD_L (lo hi : Int) : rgD lo hi = (rgL lo (hi - lo).toNat).map D.int := by unfold rgD rgL; rw [List.map_map]; rfl
/-- the state behind the first four statements -/
theorem job_a {cal : Cal} {M M1 : Mem} {n : Nat} {sp : Int} {w : Str} (i : Int) (hw : atI [D.str "planet", .str "double", .str "pair", .str "band"] i = some (.str w)) (hc : cal iT [.ref n, .int 4] M = .ok (.int i) M1) (l2 : lsOk2 1 (sp + 1)) (l1 : lsOk (sp + 1)) (b1 b2 : Bool)
    (e1 : cmpB .Eq (.str w) (.str "planet") = some b1) (e2 : cmpB .Eq (.str w) (.str "double") = some b2) :
    dJob iT iM cal [some (.ref n), some (.int sp), none, none, none] M = dJobT iM cal [some (.ref n), some (.int sp), some (.str w), some (.lst false (if (b1 || b2) = true then rgD 0 (sp + 1) else rgD 1 (sp + 1))), some (.int (if (b1 || b2) = true then 3 else 2))] M1 := by
  have fl : 4 ≤ sizeLine := by rw [sizeLine_eq]; decide
  unfold dJob
  simp only [ap_seq, ap_set, ap_ix, ap_lst, ap_acons, ap_anil, ap_c, ap_call, ap_var, sl0, slS, R.opt_some, R.ok_bind, List.length_cons, List.length_nil, Nat.zero_add, Nat.reduceAdd, fl, if_true, newF, hc, view_lst', view_int', view_str', ix_at, hw, SR.of_ok, SR.seq_nx, se0, seS, ap_lsrg2, ap_lsrg1, ap_bin, add_i, l2, l1, ap_if, ap_or, ap_cmp, e1, e2]
  cases b1 <;> cases b2 <;> rfl
theorem job_sp (hT : t iT = some (NTake, dTake)) (hMx : t iM = some (NMixed, dMixed iT)) (hJ : t iJ = some (NJob, dJob iT iM)) (k : Nat) {M : Mem} {n : Nat} {x : Cell} {sp : Int} (hM : M[n]? = some x) (hx : JarC x) (h1 : 2 ≤ sp) (h2 : sp ≤ 50) :
    ∃ (d : D) (x' : Cell), Job sp d ∧ JarC x' ∧ callN t (k + 3) iJ [.ref n, .int sp] M = .ok d (M.set n x') := by
  obtain ⟨r, x1, a1, a2, a3⟩ := take_nat hT (k + 1) hM hx (many := 4) (by decide) (by decide)
  have hn := lt_of hM
  have l2 : lsOk2 1 (sp + 1) := lsOk2_of (by omega) (by omega) (by omega) (by omega)
  have l1 : lsOk (sp + 1) := lsOk_of (by omega) (by omega)
  have hl : ∀ (x : Cell), (M.set n x).length = M.length := fun _ => List.length_set
  rw [callN_of hJ]
  have fin : ∀ {ρ : Env} {x2 : Cell} {w : Str} {ns : List Int}, finD M.length (.ok (.rt (.tup (.str w :: ns.map D.int))) ρ (M.set n x2)) = .ok (.tup (.str w :: ns.map D.int)) (M.set n x2) := fun {ρ x2 w ns} => by
    rw [fin_tup _ _ _ _ (by show (true && frees (ns.map D.int)) = true; rw [free_ints]; rfl), take_set_len]
  have big : ∀ (w : Str) (b1 b2 : Bool), atI [D.str "planet", .str "double", .str "pair", .str "band"] (r : Int) = some (.str w) → cmpB .Eq (.str w) (.str "planet") = some b1 → cmpB .Eq (.str w) (.str "double") = some b2 → (b1 || b2) = true →
      ∃ (a b c : Int) (x' : Cell), ((0 ≤ a ∧ a ≤ sp) ∧ (0 ≤ b ∧ b ≤ sp) ∧ (0 ≤ c ∧ c ≤ sp) ∧ a ≠ b ∧ a ≠ c ∧ b ≠ c) ∧ JarC x' ∧ fnD NJob (dJob iT iM) [.ref n, .int sp] M (callN t (k + 2)) = .ok (.tup [.str w, .int a, .int b, .int c]) (M.set n x') := fun w b1 b2 hw e1 e2 hb => by
    have ja := job_a (iM := iM) (r : Int) hw a3 l2 l1 b1 b2 e1 e2
    rw [if_pos hb, if_pos hb, rgD_L] at ja
    obtain ⟨zs, x2, z1, z2, z3⟩ := job_tail hT hMx k (M := M.set n x1) (get_set hn) a2 (ns := rgL 0 (sp + 1 - 0).toNat) (by rw [rgL_len]; omega) (w := w) (sp := sp) 3
    obtain ⟨a, b, c, e, q⟩ := pick3 (s := sp) z1 (rgL_nd _ _) (fun y hy => by have := rgL_mem hy; omega) (by rw [rgL_len]; omega)
    refine ⟨a, b, c, x2, q, z2, ?_⟩
    rw [e, List.set_set] at z3
    show finD M.length (dJob iT iM (callN t (k + 2)) [some (.ref n), some (.int sp), none, none, none] M) = _
    rw [ja]
    have z3 : dJobT iM (callN t (k + 2)) [some (.ref n), some (.int sp), some (.str w), some (.lst false ((rgL 0 (sp + 1 - 0).toNat).map D.int)), some (.int 3)] (M.set n x1) = _ := z3
    rw [z3]
    exact fin (ns := [a, b, c])
  have small : ∀ (w : Str) (b1 b2 : Bool), atI [D.str "planet", .str "double", .str "pair", .str "band"] (r : Int) = some (.str w) → cmpB .Eq (.str w) (.str "planet") = some b1 → cmpB .Eq (.str w) (.str "double") = some b2 → (b1 || b2) = false →
      ∃ (a b : Int) (x' : Cell), ((1 ≤ a ∧ a ≤ sp) ∧ (1 ≤ b ∧ b ≤ sp) ∧ a ≠ b) ∧ JarC x' ∧ fnD NJob (dJob iT iM) [.ref n, .int sp] M (callN t (k + 2)) = .ok (.tup [.str w, .int a, .int b]) (M.set n x') := fun w b1 b2 hw e1 e2 hb => by
    have ja := job_a (iM := iM) (r : Int) hw a3 l2 l1 b1 b2 e1 e2
    rw [hb, if_neg (by decide), if_neg (by decide), rgD_L] at ja
    obtain ⟨zs, x2, z1, z2, z3⟩ := job_tail hT hMx k (M := M.set n x1) (get_set hn) a2 (ns := rgL 1 (sp + 1 - 1).toNat) (by rw [rgL_len]; omega) (w := w) (sp := sp) 2
    obtain ⟨a, b, e, q⟩ := pick2 (s := sp) z1 (rgL_nd _ _) (fun y hy => by have := rgL_mem hy; omega) (by rw [rgL_len]; omega)
    refine ⟨a, b, x2, q, z2, ?_⟩
    rw [e, List.set_set] at z3
    show finD M.length (dJob iT iM (callN t (k + 2)) [some (.ref n), some (.int sp), none, none, none] M) = _
    rw [ja]
    have z3 : dJobT iM (callN t (k + 2)) [some (.ref n), some (.int sp), some (.str w), some (.lst false ((rgL 1 (sp + 1 - 1).toNat).map D.int)), some (.int 2)] (M.set n x1) = _ := z3
    rw [z3]
    exact fin (ns := [a, b])
  match r, a1, big, small with
  | 0, _, big, _ =>
    obtain ⟨a, b, c, x', ⟨q1, q2, q3, q4, q5, q6⟩, q7, q8⟩ := big "planet" true false rfl (by decide +kernel) (by decide +kernel) rfl
    exact ⟨_, x', .planet q1 q2 q3 q4 q5 q6, q7, q8⟩
  | 1, _, big, _ =>
    obtain ⟨a, b, c, x', ⟨q1, q2, q3, q4, q5, q6⟩, q7, q8⟩ := big "double" false true rfl (by decide +kernel) (by decide +kernel) rfl
    exact ⟨_, x', .double q1 q2 q3 q4 q5 q6, q7, q8⟩
  | 2, _, _, small =>
    obtain ⟨a, b, x', ⟨q1, q2, q3⟩, q7, q8⟩ := small "pair" false false rfl (by decide +kernel) (by decide +kernel) rfl
    exact ⟨_, x', .pair q1 q2 q3, q7, q8⟩
  | 3, _, _, small =>
    obtain ⟨a, b, x', ⟨q1, q2, q3⟩, q7, q8⟩ := small "band" false false rfl (by decide +kernel) (by decide +kernel) rfl
    exact ⟨_, x', .band q1 q2 q3, q7, q8⟩
  | r + 4, h, _, _ => omega
theorem sl_three (a b c d : Option D) (r : Env) : slot (a :: b :: c :: d :: r) 3 = d := rfl
def NJobs : List Str := ["jar", "span", "many", "made", "turn"]
noncomputable def dJobs (iT iJ : Nat) : SDen :=
  (sSeq (sIf (tCmp .Lt (cVar 1) (cC (.int 2))) (sRet (cLst false aNil)) sNil) (sSeq (sSet 3 (cLc true [4] (iRg1 (aCons (cVar 2) aNil)) (gNm 4) tYesD (cCall iJ 2 (aCons (cVar 0) (aCons (cVar 1) aNil))))) (sSeq (sIf (tAnd (tCmp .Gt (cVar 2) (cC (.int 1))) (tCmp .Eq (cCall iT 2 (aCons (cVar 0) (aCons (cC (.int 5)) aNil))) (cC (.int 1)))) (sSetIx (cVar 3) (cCall iT 2 (aCons (cVar 0) (aCons (cVar 2) aNil))) (cIx (cVar 3) (cC (.int 0)))) sNil) (sRet (cVar 3)))))
theorem jobs_comp (hT : t iT = some (NTake, dTake)) (hMx : t iM = some (NMixed, dMixed iT)) (hJ : t iJ = some (NJob, dJob iT iM)) (k : Nat) {n : Nat} {sp : Int} (h1 : 2 ≤ sp) (h2 : sp ≤ 50) {r2 : Option D} : ∀ (ds : List D) (M : Mem) (x : Cell), M[n]? = some x → JarC x →
    ∃ (js : List D) (x' : Cell), (∀ j ∈ js, Job sp j) ∧ js.length = ds.length ∧ JarC x' ∧
      compL (fun _ => True) (gNm 4) tYesD (cCall iJ 2 (aCons (cVar 0) (aCons (cVar 1) aNil))) ds (callN t (k + 3)) [some (.ref n), some (.int sp), r2, none, none] M = .ok js (M.set n x')
  | [], M, x, hM, hx => ⟨[], x, fun p hp => absurd hp List.not_mem_nil, rfl, hx, by
      rw [comp_nil trivial, set_self hM]⟩
  | d :: ds, M, x, hM, hx => by
    obtain ⟨j, x1, p1, p2, p3⟩ := job_sp hT hMx hJ k hM hx h1 h2
    obtain ⟨js, x2, q1, q2, q3, q4⟩ := jobs_comp hT hMx hJ k h1 h2 (r2 := r2) ds (M.set n x1) x1 (get_set (lt_of hM)) p2
    rw [List.set_set] at q4
    refine ⟨j :: js, x2, fun e he => (List.mem_cons.mp he).elim (fun z => z ▸ p1) (q1 e), by rw [List.length_cons, List.length_cons, q2], q3, ?_⟩
    exact comp_yes trivial rfl rfl (by simp [p3]) q4
theorem jobs_sp (hT : t iT = some (NTake, dTake)) (hMx : t iM = some (NMixed, dMixed iT)) (hJ : t iJ = some (NJob, dJob iT iM)) (hK : t iK = some (NJobs, dJobs iT iJ)) (k : Nat) {M : Mem} {n : Nat} {x : Cell} {sp : Int} (hM : M[n]? = some x) (hx : JarC x) (h1 : 1 ≤ sp) (h2 : sp ≤ 50) {m : Nat} (hm : m ≤ 50) :
    ∃ (js : List D) (x' : Cell) (d : D) (M' : Mem), (∀ j ∈ js, Job sp j) ∧ js.length ≤ m ∧ JarC x' ∧ callN t (k + 4) iK [.ref n, .int sp, .int (m : Int)] M = .ok d M' ∧ frz M.length d M' = .ok (.lst false js) (M.set n x') := by
  have hn := lt_of hM
  rw [callN_of hK]
  by_cases hs : sp < 2
  · refine ⟨[], x, .lst false [], M, fun p hp => absurd hp List.not_mem_nil, Nat.zero_le _, hx, ?_, by rw [set_self hM]; rfl⟩
    have z : 0 ≤ sizeLine := Nat.zero_le _
    show finD M.length (dJobs iT iJ (callN t (k + 3)) [some (.ref n), some (.int sp), some (.int (m : Int)), none, none] M) = _
    unfold dJobs
    rw [ap_seq, ap_if, ap_cmp]
    simp only [ap_var, ap_c, sl0, slS, R.opt_some, R.ok_bind, view_int', cLt_i, decide_eq_true hs, SR.of_ok, if_true, ap_ret, ap_lst, ap_anil, List.length_nil, Nat.zero_le, newF, SR.seq_rt]
    rw [fin_lst _ _ _ _ _ rfl, List.take_length]
  · obtain ⟨js, x1, p1, p2, p3, p4⟩ := jobs_comp hT hMx hJ k (n := n) (by omega : 2 ≤ sp) h2 (r2 := some (.int (m : Int))) ((List.range m).map fun i => .int (i : Nat)) M x hM hx
    rw [List.length_map, List.length_range] at p2
    have hfr := jobs_free p1
    have hl1 : (M.set n x1).length = M.length := List.length_set
    have nb := newB (M.set n x1) hfr
    rw [hl1] at nb
    have g : ∀ (y : Cell) (js : List D), (M.set n y ++ [Cell.lst js])[M.length]? = some (.lst js) := fun y js => by
      have := getA (M := M.set n y) (Cell.lst js)
      rwa [List.length_set] at this
    have gx : ∀ (y : Cell) (c : Cell), (M.set n y ++ [c])[n]? = some y := fun y c => getB _ (get_set hn)
    have sx : ∀ (y z c : Cell), (M.set n y ++ [c]).set n z = M.set n z ++ [c] := fun y z c => by rw [setA (by rw [List.length_set]; exact hn), List.set_set]
    have s0 : sSet 3 (cLc true [4] (iRg1 (aCons (cVar 2) aNil)) (gNm 4) tYesD (cCall iJ 2 (aCons (cVar 0) (aCons (cVar 1) aNil)))) (callN t (k + 3)) [some (.ref n), some (.int sp), some (.int (m : Int)), none, none] M = .ok .nx [some (.ref n), some (.int sp), some (.int (m : Int)), some (.ref M.length), none] (M.set n x1 ++ [.lst js]) := by
      have rg : iRg1 (aCons (cVar 2) aNil) (callN t (k + 3)) [some (.ref n), some (.int sp), some (.int (m : Int)), none, none] M = .ok ⟨(List.range m).map fun i => .int (i : Nat), fun _ => True⟩ M := rg1_nat rfl (by omega)
      have sz : ((List.range m).map fun i => D.int (i : Nat)).length ≤ sizeLine := by rw [List.length_map, List.length_range, sizeLine_eq]; omega
      rw [ap_set, ap_lc, rg, R.ok_bind, if_pos sz]
      have wp : wipeD [some (.ref n), some (.int sp), some (.int (m : Int)), none, none] [4] = [some (.ref n), some (.int sp), some (.int (m : Int)), none, none] := rfl
      rw [wp, p4, R.ok_bind, nb]
      rfl
    -- what the list is at the end
    have tail : ∃ (qs : List D) (x' : Cell), (∀ j ∈ qs, Job sp j) ∧ qs.length = js.length ∧ JarC x' ∧ sIf (tAnd (tCmp .Gt (cVar 2) (cC (.int 1))) (tCmp .Eq (cCall iT 2 (aCons (cVar 0) (aCons (cC (.int 5)) aNil))) (cC (.int 1)))) (sSetIx (cVar 3) (cCall iT 2 (aCons (cVar 0) (aCons (cVar 2) aNil))) (cIx (cVar 3) (cC (.int 0)))) sNil (callN t (k + 3))
        [some (.ref n), some (.int sp), some (.int (m : Int)), some (.ref M.length), none] (M.set n x1 ++ [.lst js]) = .ok .nx [some (.ref n), some (.int sp), some (.int (m : Int)), some (.ref M.length), none] (M.set n x' ++ [.lst qs]) := by
      by_cases h3 : 1 < m
      · have h3' : (1 : Int) < m := by omega
        obtain ⟨r, x2, a1, a2, a3⟩ := take_nat hT (k + 2) (gx x1 (.lst js)) p3 (many := 5) (by decide) (by decide)
        rw [sx] at a3
        by_cases h4 : (r : Int) = 1
        · obtain ⟨s, x3, b1, b2, b3⟩ := take_nat hT (k + 2) (gx x2 (.lst js)) a2 (many := (m : Int)) (by omega) (by omega)
          rw [sx] at b3
          have hs' : s < js.length := by omega
          have h0 : 0 < js.length := by omega
          have hj0 : atI js 0 = some js[0] := by
            have := at_nat js 0
            rw [List.getElem?_eq_getElem h0] at this
            exact this
          have J0 := p1 _ (List.getElem_mem h0)
          have hix : ixN js.length (s : Int) = some s := by
            unfold ixN
            rw [if_pos (by omega), if_pos (by omega), Int.toNat_natCast]
          have sc : (M.set n x3 ++ [Cell.lst js]).set M.length (Cell.lst (js.set s js[0])) = M.set n x3 ++ [Cell.lst (js.set s js[0])] := by
            have := setC (M := M.set n x3) (Cell.lst (js.set s js[0])) (Cell.lst js)
            rwa [List.length_set] at this
          have es : setD (.ref M.length) (.int (s : Int)) js[0] (M.set n x3 ++ [Cell.lst js]) = some (M.set n x3 ++ [Cell.lst (js.set s js[0])]) := by
            unfold setD
            simp only [g, hix, J0.free, if_true]
            rw [sc]
          have vw : view (M.set n x2 ++ [Cell.lst js]) (.ref M.length) = .lst true js := by rw [view_ref', g]; rfl
          refine ⟨js.set s js[0], x3, fun j hj => ?_, by rw [List.length_set], b2, ?_⟩
          · rcases List.mem_or_eq_of_mem_set hj with z | z
            · exact p1 j z
            · rw [z]; exact J0
          · rw [ap_if, ap_and]
            simp only [ap_cmp, ap_call, ap_acons, ap_anil, ap_var, ap_c, sl0, slS, R.opt_some, R.ok_bind, view_int', cGt_i, decide_eq_true h3', if_true, List.length_cons, List.length_nil, Nat.zero_add, Nat.reduceAdd, a3, cEq_i, decide_eq_true h4, SR.of_ok, ap_setix, ap_ix, vw, ix_at, hj0, b3, es]
        · refine ⟨js, x2, p1, rfl, a2, ?_⟩
          rw [ap_if, ap_and]
          simp only [ap_cmp, ap_call, ap_acons, ap_anil, ap_var, ap_c, sl0, slS, R.opt_some, R.ok_bind, view_int', cGt_i, decide_eq_true h3', if_true, List.length_cons, List.length_nil, Nat.zero_add, Nat.reduceAdd, a3, cEq_i, decide_eq_false h4, SR.of_ok, Bool.false_eq_true, if_false, ap_nil]
      · have h3' : ¬ (1 : Int) < m := by omega
        refine ⟨js, x1, p1, rfl, p3, ?_⟩
        rw [ap_if, ap_and]
        simp only [ap_cmp, ap_var, ap_c, sl0, slS, R.opt_some, R.ok_bind, view_int', cGt_i, decide_eq_false h3', SR.of_ok, Bool.false_eq_true, if_false, ap_nil]
    obtain ⟨qs, x', t1, t2, t3, t4⟩ := tail
    refine ⟨qs, x', .ref M.length, M.set n x' ++ [.lst qs], t1, by omega, t3, ?_, frz_new (M0 := M) (by rw [List.length_set])⟩
    show finD M.length (dJobs iT iJ (callN t (k + 3)) [some (.ref n), some (.int sp), some (.int (m : Int)), none, none] M) = _
    have f2 : sIf (tCmp .Lt (cVar 1) (cC (.int 2))) (sRet (cLst false aNil)) sNil (callN t (k + 3)) [some (.ref n), some (.int sp), some (.int (m : Int)), none, none] M = .ok .nx [some (.ref n), some (.int sp), some (.int (m : Int)), none, none] M := by
      rw [ap_if, ap_cmp]
      simp only [ap_var, ap_c, sl0, slS, R.opt_some, R.ok_bind, view_int', cLt_i, decide_eq_false hs, SR.of_ok, Bool.false_eq_true, if_false, ap_nil]
    unfold dJobs
    rw [ap_seq, f2, SR.seq_nx, ap_seq, s0, SR.seq_nx, ap_seq, t4, SR.seq_nx, ap_ret, ap_var, sl_three]
    have fr := fin_ref M.length (.lst qs) M.length [some (.ref n), some (.int sp), some (.int (m : Int)), some (.ref M.length), none] (M.set n x' ++ [.lst qs]) (Nat.le_refl _) (g x' qs)
    have tk : (M.set n x' ++ [Cell.lst qs]).take M.length = M.set n x' := by
      have := List.take_left (l₁ := M.set n x') (l₂ := [Cell.lst qs])
      rwa [List.length_set] at this
    rw [tk] at fr
    exact fr
end
end Vm

namespace Vm
open PySem PySem.Spec L2
def toPd (d : D) : PyData := (toP d).getD .none
theorem sh_job {s : Int} (hs : s < 10 ^ 11) {d : D} (J : Job s d) : Sh d 168 (toPd d) ∧ (toPd d).depth ≤ 1 ∧ OkS (toPd d).shown := by
  have big : ∀ {w : Str} {ns : List Int}, Sh (.str w) 41 (.str w) → OkS (PyData.shown (.str w)) → ns.length ≤ 3 → (∀ n ∈ ns, 0 ≤ n ∧ n ≤ s) → Sh (.tup (.str w :: ns.map D.int)) 168 (.tuple (.str w :: ns.map PyData.int)) ∧ (PyData.tuple (.str w :: ns.map PyData.int)).depth ≤ 1 ∧ OkS (PyData.shown (.tuple (.str w :: ns.map PyData.int))) := fun {w ns} h1 h2 h3 h4 => by
    have hd : PyData.depthAll (ns.map PyData.int) = 0 := by
      clear h3 h4
      induction ns with
      | nil => rfl
      | cons n ns ih => show max 0 (PyData.depthAll (ns.map PyData.int)) = 0; rw [ih]; rfl
    have a := shs_of (ds := ns.map D.int) (w := 41) toPd (fun d hd => by
      obtain ⟨n, hn, rfl⟩ := List.mem_map.mp hd
      exact sh_int (by have := h4 n hn; omega)) (fun d hd => by
      obtain ⟨n, _, rfl⟩ := List.mem_map.mp hd
      exact Nat.zero_le _)
    have em : (ns.map D.int).map toPd = ns.map PyData.int := by rw [List.map_map]; rfl
    rw [em, List.length_map] at a
    refine ⟨sh_tup ⟨?_, ?_, ?_, ?_, ?_, ?_⟩, ?_, okS_tup fun p hp => ?_⟩
    · unfold toPs; rw [h1.to, a.to]
    · show (PyData.showable (.str w) && PyData.showableAll (ns.map PyData.int)) = true; rw [h1.sh, a.sh]; rfl
    · show (PyData.leavesShort 13 (.str w) && PyData.leavesShortAll 13 (ns.map PyData.int)) = true; rw [h1.lv, a.lv]; rfl
    · show (PyData.hasDict (.str w) || PyData.hasDictAll (ns.map PyData.int)) = false; rw [h1.hd, a.hd]; rfl
    · show PyData.weight (.str w) + 1 + PyData.weightAll (ns.map PyData.int) ≤ 168
      have := h1.wt
      have := a.wt
      omega
    · show max 0 (PyData.depthAll (ns.map PyData.int)) ≤ 9
      rw [hd]; decide
    · show max 0 (PyData.depthAll (ns.map PyData.int)) + 1 ≤ 1
      rw [hd]; decide
    · rcases List.mem_cons.mp hp with rfl | hp
      · exact h2
      · obtain ⟨n, _, rfl⟩ := List.mem_map.mp hp
        exact okS_int n
  have wd : ∀ w : Str, w = "planet" ∨ w = "double" ∨ w = "pair" ∨ w = "band" → Sh (.str w) 41 (.str w) ∧ OkS (PyData.shown (.str w)) := fun w hw => by
    rcases hw with rfl | rfl | rfl | rfl <;> exact ⟨⟨rfl, by decide +kernel, by decide +kernel, rfl, by decide +kernel, by decide +kernel⟩, by unfold OkS; decide +kernel⟩
  cases J with
  | @planet a b c h1 h2 h3 _ _ _ =>
    obtain ⟨x, y⟩ := wd "planet" (.inl rfl)
    exact big (ns := [a, b, c]) x y (by show 3 ≤ 3; decide) (by intro n hn; simp only [List.mem_cons, List.not_mem_nil, or_false] at hn; rcases hn with rfl | rfl | rfl <;> assumption)
  | @double a b c h1 h2 h3 _ _ _ =>
    obtain ⟨x, y⟩ := wd "double" (.inr (.inl rfl))
    exact big (ns := [a, b, c]) x y (by show 3 ≤ 3; decide) (by intro n hn; simp only [List.mem_cons, List.not_mem_nil, or_false] at hn; rcases hn with rfl | rfl | rfl <;> assumption)
  | @pair a b h1 h2 _ =>
    obtain ⟨x, y⟩ := wd "pair" (.inr (.inr (.inl rfl)))
    exact big (ns := [a, b]) x y (by show 2 ≤ 3; decide) (by intro n hn; simp only [List.mem_cons, List.not_mem_nil, or_false] at hn; rcases hn with rfl | rfl <;> omega)
  | @band a b h1 h2 _ =>
    obtain ⟨x, y⟩ := wd "band" (.inr (.inr (.inr rfl)))
    exact big (ns := [a, b]) x y (by show 2 ≤ 3; decide) (by intro n hn; simp only [List.mem_cons, List.not_mem_nil, or_false] at hn; rcases hn with rfl | rfl <;> omega)
theorem sh_jobs {s : Int} (hs : s < 10 ^ 11) {js : List D} (hj : ∀ j ∈ js, Job s j) : Shs js (169 * js.length) (js.map toPd) ∧ ∀ p ∈ js.map toPd, OkS p.shown :=
  ⟨shs_of toPd (fun d hd => (sh_job hs (hj d hd)).1) fun d hd => Nat.le_trans (sh_job hs (hj d hd)).2.1 (by decide), fun p hp => by
    obtain ⟨d, hd, rfl⟩ := List.mem_map.mp hp
    exact (sh_job hs (hj d hd)).2.2⟩
section
variable {t : Tbl} {iE iR iS iL iC iN iI i0 i2 : Nat} {c1 : Nat}
def NCis : List Str := ["crate", "span", "jobs"]
noncomputable def dCis (iE iS iR iL : Nat) : SDen :=
  (sSeq (sIf (tOr (tNot (tTru (cIsC 0 (cVar 0)))) (tNot (tTru (cPure iE 2 (aCons (cProp 0 iS (cVar 0)) (aCons (cVar 1) aNil)))))) (sRet (cC (.bl false))) sNil) (sRet (cAnd (cPure iE 2 (aCons (cProp 0 iR (cVar 0)) (aCons (cBlt bTuple (aCons (cVar 2) aNil)) aNil))) (cPure iE 2 (aCons (cLenO 0 iL (cVar 0)) (aCons (cBlt bLen (aCons (cVar 2) aNil)) aNil))))))
theorem cis_fin {cal : Cal} {b : D} {js : List D} {s l : Int} (tt : Bool) (ib : isC 0 b = some true) (vb : ∀ M, view M b = b) (e1 : askO 0 iS b [] cal = .ok (.int s) []) (e2 : askO 0 iR b [] cal = .ok (.tup js) []) (e3 : askO 0 iL b [] cal = .ok (.int l) []) (h3 : lenOk (.int l) = true)
    (e4 : ∀ i : Int, i = s ∨ i = l → cal iE [.int i, .int i] [] = .ok (.bl true) []) (e5 : cal iE [.tup js, .tup js] [] = .ok (.bl true) []) (hl : bLen [.lst tt js] [] = .ok (.int l) []) (hf : frees js = true) :
    fnD NCis (dCis iE iS iR iL) [b, .int s, .lst tt js] [] cal = .ok (.bl true) [] := by
  have lf : lift [] (.ok (.bl true) []) = .ok (.bl true) [] := rfl
  have bt : bTuple [.lst tt js] [] = .ok (.tup js) [] := rfl
  simp only [fnD, dCis, startD, NCis, List.map_cons, List.map_nil, List.cons_append, List.nil_append, List.length_cons, List.length_nil, Nat.zero_add, Nat.reduceAdd, Nat.reduceSub, List.replicate, ap_seq, ap_if, ap_or, ap_not, ap_tru, ap_isC, ap_pure, ap_acons, ap_anil, ap_prop, ap_var, sl0, slS, R.opt_some, R.ok_bind, vb, ib, Option.map_some, view_bl', view_int', view_tup', view_lst', tru_bl, Bool.not_true, Bool.false_eq_true, if_false, e1, fr_cons, fr_int, fr_nil, fr_tup, hf, Bool.and_self, and_self, if_true,
    e4 s (.inl rfl), e4 l (.inr rfl), lf, SR.of_ok, ap_nil, SR.seq_nx, ap_ret, ap_cand, e2, ap_blt, bt, e5, ap_lenO, e3, h3, hl]
  rfl
theorem cis_sp (hE : t iE = some (NSame, dSame)) (hS : t iS = some (NSelf, dShafts)) (hR : t iR = some (NSelf, dWorks)) (hL : t iL = some (NSelf, dLenB)) (h : t iC = some (NCis, dCis iE iS iR iL)) (k : Nat) {s : Int} (h0 : 0 ≤ s) (h1 : s < 10 ^ 11) {js : List D} (hj : ∀ j ∈ js, Job s j) (hz : js.length ≤ 1000) (tt : Bool) :
    callN t (k + 2) iC [boxD s js, .int s, .lst tt js] [] = .ok (.bl true) [] := by
  have hf := jobs_free hj
  have hcl := jobs_clean hj
  obtain ⟨sj, oj⟩ := sh_jobs h1 hj
  have e2 := lenB_sp hL k s js
  have hb := bLen_l tt js []
  have hl0 : (0 : Int) ≤ (js.length : Nat) := Int.natCast_nonneg _
  have hl1 : ((js.length : Nat) : Int) ≤ 1000 := by omega
  generalize ((js.length : Nat) : Int) = l at e2 hb hl0 hl1
  rw [callN_of h]
  have si : ∀ i : Int, i = s ∨ i = l → callN t (k + 1) iE [.int i, .int i] [] = .ok (.bl true) [] := fun i hi => by
    have hb : i.natAbs < 10 ^ 12 := by rcases hi with rfl | rfl <;> omega
    exact same_sp hE k (sh_int hb) (sh_int hb) (by decide) (okS_int i) (fun _ => rfl) (fun _ => rfl)
  exact cis_fin tt rfl (fun _ => rfl) (ask_box hf (shafts_sp hS k s js) rfl) (ask_box hf (works_sp hR k s hf) hcl) (ask_box hf e2 rfl) (lenOk_of hl0 (by omega)) si
    (same_sp hE k (sh_tup sj) (sh_tup sj) (by omega) (okS_tup oj) (fun _ => rfl) (fun _ => rfl)) hb hf
theorem new_box {cal : Cal} {ρ : Env} {M : Mem} {fs : Dens} {d : D} {s : Int} {js : List D} (hj : ∀ j ∈ js, Job s j) (hfs : fs cal ρ M = .ok [.int s, d] M) (tt : Bool) (hv : view M d = .lst tt js) (hc : cal iN [.ref 0, .int s, .lst tt js] [.ins 0 [] []] = .ok .non [.ins 0 fBox [.int s, .tup js]]) :
    cNew 0 iN 3 fs cal ρ M = .ok (boxD s js) M := by
  have hf := jobs_free hj
  have hcl := jobs_clean hj
  rw [ap_new, hfs, R.ok_bind]
  have e : [D.int s, d].map (view M) = [.int s, .lst tt js] := by rw [List.map_cons, List.map_cons, hv]; rfl
  rw [e]
  have c : ([D.int s, d].length + 1 = 3 ∧ frees [.int s, .lst tt js] = true) := ⟨rfl, by show (true && (frees js && true)) = true; rw [hf]; rfl⟩
  rw [if_pos c, hc]
  show (if 0 = 0 ∧ cleans [.int s, .tup js] = true then R.ok (D.obj 0 fBox [.int s, .tup js]) M else .bad) = _
  rw [if_pos ⟨rfl, by show (true && (cleans js && true)) = true; rw [hcl]; rfl⟩]
  rfl
def NCof : List Str := ["span", "jobs", "row", "crate"]
noncomputable def dCof (iN : Nat) : SDen :=
  (sSeq (sSet 2 (cBlt (bList true) (aCons (cVar 1) aNil))) (sSeq (sSet 3 (cNew 0 iN 3 (aCons (cVar 0) (aCons (cVar 2) aNil)))) (sSeq (sExpr (cMt mReverse (cVar 2) aNil)) (sSeq (sExpr (cMt mAppend (cVar 2) (aCons (cTup (aCons (cC (.str "pair")) (aCons (cC (.int 1)) (aCons (cC (.int 2)) aNil)))) aNil))) (sSeq (sExpr (cMt mPopAt (cVar 2) (aCons (cC (.int 0)) aNil))) (sRet (cVar 3)))))))
theorem frees_rev {js : List D} (h : frees js = true) : frees js.reverse = true := (frees_iff _).mpr fun d hd => (frees_iff js).mp h d (List.mem_reverse.mp hd)
theorem frees_erase {js : List D} (h : frees js = true) (i : Nat) : frees (js.eraseIdx i) = true := (frees_iff _).mpr fun d hd => (frees_iff js).mp h d (List.mem_of_mem_eraseIdx hd)
theorem mt_one {g : MthD} {xs ys ds : List D} {d : D} (h : g xs ds = some (d, ys)) (hf : frees ys = true) : mtD g (.ref 0) ds [.lst xs] = .ok d [.lst ys] := by
  show (match g xs ds with | some (d, ys) => if frees ys = true then R.ok d [.lst ys] else .bad | none => .bad) = _
  rw [h]
  show (if frees ys = true then R.ok d [.lst ys] else .bad) = _
  rw [if_pos hf]
theorem cof_sp (h : t iC = some (NCof, dCof iN)) (k : Nat) {s : Int} {js : List D} (hj : ∀ j ∈ js, Job s j) (hz : js.length ≤ 1000) (tt : Bool) (hc : callN t k iN [.ref 0, .int s, .lst true js] [.ins 0 [] []] = .ok .non [.ins 0 fBox [.int s, .tup js]]) :
    callN t (k + 1) iC [.int s, .lst tt js] [] = .ok (boxD s js) [] := by
  have hf := jobs_free hj
  have hcl := jobs_clean hj
  rw [callN_of h]
  have b1 : bList true [.lst tt js] [] = .ok (.ref 0) [.lst js] := by
    show newL true js [] = _
    rw [newB [] hf]; rfl
  have n1 : ∀ ρ : Env, slot ρ 0 = some (.int s) → slot ρ 2 = some (.ref 0) → cNew 0 iN 3 (aCons (cVar 0) (aCons (cVar 2) aNil)) (callN t k) ρ [.lst js] = .ok (boxD s js) [.lst js] := fun ρ h0 h2 =>
    new_box hj (by rw [ap_acons, ap_var, h0, R.opt_some, R.ok_bind, ap_acons, ap_var, h2]; rfl) true rfl hc
  have m1 : mtD mReverse (.ref 0) [] [.lst js] = .ok .non [.lst js.reverse] := mt_one rfl (frees_rev hf)
  have hl : js.reverse.length < sizeLine := by rw [List.length_reverse, sizeLine_eq]; omega
  have m2 : mtD mAppend (.ref 0) [.tup [.str "pair", .int 1, .int 2]] [.lst js.reverse] = .ok .non [.lst (js.reverse ++ [.tup [.str "pair", .int 1, .int 2]])] := mt_one (by
    show (if js.reverse.length < sizeLine then _ else _) = _
    rw [if_pos hl]) (by rw [frees_append, frees_rev hf]; rfl)
  have hf3 : frees (js.reverse ++ [D.tup [.str "pair", .int 1, .int 2]]) = true := by rw [frees_append, frees_rev hf]; rfl
  have hp : 0 < (js.reverse ++ [D.tup [.str "pair", .int 1, .int 2]]).length := by rw [List.length_append]; show 0 < _ + 1; omega
  generalize js.reverse ++ [D.tup [.str "pair", .int 1, .int 2]] = zs at m2 hf3 hp
  obtain ⟨z, zr, rfl⟩ : ∃ z zr, zs = z :: zr := by
    cases zs with
    | nil => exact absurd hp (by decide)
    | cons z zr => exact ⟨z, zr, rfl⟩
  have m3 : mtD mPopAt (.ref 0) [.int 0] [.lst (z :: zr)] = .ok z [.lst zr] := mt_one (by
    have si : seqIndex? 0 (z :: zr).length = some 0 := by
      unfold seqIndex?
      rw [List.length_cons]
      simp
    unfold mPopAt
    simp only [if_pos (popOk_of (j := 0) (by decide) (by decide)), si, List.getElem?_cons_zero, List.eraseIdx_cons_zero]) (free_cons hf3).2
  have three : 3 ≤ sizeLine := by rw [sizeLine_eq]; decide
  have i1 : ∀ xs : List D, isL (.ref 0) [.lst xs] = true := fun _ => rfl
  show finD 0 (dCof iN (callN t k) [some (.int s), some (.lst tt js), none, none] []) = _
  unfold dCof
  rw [ap_seq, ap_set]
  simp only [ap_blt, ap_acons, ap_anil, ap_var, sl0, slS, R.opt_some, R.ok_bind, List.map_cons, List.map_nil, view_lst', b1, SR.of_ok, se0, seS, SR.seq_nx]
  rw [ap_seq, ap_set, n1 _ rfl rfl]
  simp only [SR.of_ok, se0, seS, SR.seq_nx, ap_seq, ap_expr, ap_mt, ap_var, sl0, slS, R.opt_some, R.ok_bind, i1, if_true, ap_anil, m1, ap_acons, ap_tup, ap_c, List.length_cons, List.length_nil, Nat.zero_add, Nat.reduceAdd, three, m2, m3, ap_ret]
  show (if [Cell.lst zr].length ≤ 0 then R.ok (boxD s js) [.lst zr] else if free (boxD s js) = true then .ok (boxD s js) ([Cell.lst zr].take 0) else .bad) = _
  rw [if_neg (by show ¬ (1 ≤ 0); decide), if_pos (fr_box hf)]
  rfl
end
end Vm

namespace Vm
open PySem PySem.Spec L2
noncomputable def dCells (great m : Int) (b : SDen) : SDen :=
  (sSeq (sSet 1 (cC (.int great))) (sSeq (sFor (gNm 2) (iSeq (cBin addD (cLst false (aCons (cVar 1) aNil)) (cSl false (cVar 0) oNone (oSome (cC (.int m)))))) b) (sRet (cC (.bl true)))))
theorem law_cells {cal : Cal} {N : List Str} {great : Int} {m L : Nat} {b : SDen} {ns : List Int} (hN : N.length = L + 3) (hns : ns.length ≤ 63)
    (turn : ∀ (cell : Int) (rest : List (Option D)) (M : Mem), rest.length = L → ∃ (c' : Option D) (rest' : List (Option D)) (M' : Mem), b cal (some (.scr (ns.map D.int)) :: some (.int great) :: some (.int cell) :: rest) M = .ok .nx (some (.scr (ns.map D.int)) :: some (.int great) :: c' :: rest') M' ∧ rest'.length = L) :
    fnD N (dCells great (m : Int) b) [.scr (ns.map D.int)] [] cal = .ok (.bl true) [] := by
  have hcut : cutD (ns.map D.int) none (some (m : Int)) = (ns.take m).map D.int := by rw [List.map_take]; exact cut_to _ m
  have hl : ([D.int great] : List D).length + ((ns.take m).map D.int).length ≤ sizeLine := by rw [List.length_map, List.length_take, sizeLine_eq]; simp; omega
  have ha := add_l (t := false) (u := false) hl
  have one : 1 ≤ sizeLine := by rw [sizeLine_eq]; decide
  have em : [D.int great] ++ (ns.take m).map D.int = (great :: ns.take m).map D.int := rfl
  rw [em] at ha
  obtain ⟨ρ', M', hf, c', rest', rfl, hr⟩ := forL_inv (cal := cal) (t := gNm 2) (b := b) (chk := fun _ => True)
    (fun _ ρ _ => ∃ (c : Option D) (rest : List (Option D)), ρ = some (.scr (ns.map D.int)) :: some (.int great) :: c :: rest ∧ rest.length = L)
    (ds := (great :: ns.take m).map D.int) (fun i ρ M d hh hd => by
      obtain ⟨c, rest, rfl, hr⟩ := hh
      rw [List.getElem?_map] at hd
      obtain ⟨cell, _, rfl⟩ := Option.map_eq_some_iff.mp hd
      obtain ⟨c', rest', M', e, h⟩ := turn cell rest M hr
      exact ⟨trivial, _, rfl, _, M', .inl e, c', rest', rfl, h⟩) (fun _ _ _ => trivial)
    (ρ := some (.scr (ns.map D.int)) :: some (.int great) :: none :: List.replicate L none) (M := []) ⟨_, _, rfl, List.length_replicate⟩
  have hst : startD N [.scr (ns.map D.int)] = some (.scr (ns.map D.int)) :: none :: none :: List.replicate L none := by
    unfold startD
    rw [hN]
    rfl
  unfold fnD dCells
  rw [hst, ap_seq, ap_set, ap_c, SR.of_ok, SR.seq_nx]
  simp only [se0, seS]
  rw [ap_seq, ap_for]
  simp only [ap_seqI, ap_bin, ap_lst, ap_sl, ap_acons, ap_anil, ap_var, ap_c, ap_osome, ap_onone, sl0, slS, R.opt_some, R.ok_bind, List.length_cons, List.length_nil, Nat.zero_add, one, if_true, newF, view_scr', view_lst', sl_scr, hcut, ha, src_l, SR.of_ok, hf, SR.seq_nx, Vm.ap_ret]
  exact Vm.fin_bl 0 true _ M'
section
variable {cal : Cal} {ρ : Env} {M : Mem} {iE v : Nat} {X : Den} {d e : D}
/-- same(X, v) -/
theorem tst_same (hX : X cal ρ M = .ok d M) (hv : slot ρ v = some d) (h : cal iE [d, d] [] = .ok (.bl true) []) (vd : view M d = d) (fd : free d = true) : tTru (cPure iE 2 (aCons X (aCons (cVar v) aNil))) cal ρ M = .ok true M := by
  have lf : lift M (.ok (.bl true) []) = .ok (.bl true) M := rfl
  simp only [ap_tru, ap_pure, ap_acons, ap_anil, ap_var, hX, hv, R.opt_some, R.ok_bind, List.length_cons, List.length_nil, Nat.zero_add, Nat.reduceAdd, List.map_cons, List.map_nil, vd, fd, fr_cons, fr_nil, Bool.and_self, and_self, if_true, h, lf, view_bl', tru_bl]
/-- if not .. : return False -/
theorem if_not {T : DenB} {f : SDen} (h : T cal ρ M = .ok true M) : sIf (tNot T) f sNil cal ρ M = .ok .nx ρ M := by
  rw [ap_if, ap_not, h]; rfl
theorem if_not2 {T U : DenB} {f : SDen} (h : T cal ρ M = .ok true M) (h2 : U cal ρ M = .ok true M) : sIf (tOr (tNot T) (tNot U)) f sNil cal ρ M = .ok .nx ρ M := by
  rw [ap_if, ap_or, ap_not, h, R.ok_bind, R.ok_bind]
  show SR.of (if (!true) = true then R.ok true M else tNot U cal ρ M) ρ _ = _
  rw [if_neg (by decide), ap_not, h2]; rfl
/-- f(a, b), a def that only reads -/
theorem pure2 {i j k : Nat} {a b : D} (hj : slot ρ j = some a) (hk : slot ρ k = some b) (va : view M a = a) (vb : view M b = b) (fa : free a = true) (fb : free b = true) (h : cal i [a, b] [] = .ok d []) (hd : clean d = true) : cPure i 2 (aCons (cVar j) (aCons (cVar k) aNil)) cal ρ M = .ok d M := by
  have lf : lift M (.ok d []) = .ok d M := if_pos hd
  simp only [ap_pure, ap_acons, ap_anil, ap_var, hj, hk, R.opt_some, R.ok_bind, List.length_cons, List.length_nil, Nat.zero_add, Nat.reduceAdd, List.map_cons, List.map_nil, va, vb, fa, fb, fr_cons, fr_nil, Bool.and_self, and_self, if_true, h, lf]
/-- f(q = b, p = a) -/
theorem pure2k {i j k : Nat} {a b : D} (hj : slot ρ j = some a) (hk : slot ρ k = some b) (va : view M a = a) (vb : view M b = b) (fa : free a = true) (fb : free b = true) (h : cal i [a, b] [] = .ok d []) (hd : clean d = true) : cPure i 2 (aKw 0 2 [1, 0] aNil (aCons (cVar k) (aCons (cVar j) aNil))) cal ρ M = .ok d M := by
  have lf : lift M (.ok d []) = .ok d M := if_pos hd
  simp only [ap_pure, ap_kw, ap_acons, ap_anil, ap_var, hj, hk, R.opt_some, R.ok_bind, List.length_cons, List.length_nil, Nat.zero_add, Nat.reduceAdd, and_self, if_true, arr, List.filterMap_cons, List.filterMap_nil, List.getElem?_cons_zero, List.getElem?_cons_succ, List.nil_append, List.map_cons, List.map_nil, va, vb, fa, fb, fr_cons, fr_nil, Bool.and_self, h, lf]
theorem pure1 {i j : Nat} {a : D} (hj : slot ρ j = some a) (va : view M a = a) (fa : free a = true) (h : cal i [a] [] = .ok d []) (hd : clean d = true) : cPure i 1 (aCons (cVar j) aNil) cal ρ M = .ok d M := by
  have lf : lift M (.ok d []) = .ok d M := if_pos hd
  simp only [ap_pure, ap_acons, ap_anil, ap_var, hj, R.opt_some, R.ok_bind, List.length_cons, List.length_nil, Nat.zero_add, List.map_cons, List.map_nil, va, fa, fr_cons, fr_nil, Bool.and_self, and_self, if_true, h, lf]
theorem tru_of {X : Den} {b : Bool} (h : X cal ρ M = .ok (.bl b) M) : tTru X cal ρ M = .ok b M := by
  rw [ap_tru, h]; rfl
end
theorem catch_hit {l : List (Nat × Nat × Bool)} {c' c : Nat} {a : Act} {r : List (Nat × Act)} {ρ : Env} {M : Mem} (h : subL l c' c = some true) : catchM l ((c, a) :: r) c' ρ M = a.go ρ M := by
  show (match subL l c' c with | some true => a.go ρ M | some false => catchM l r c' ρ M | none => .bad) = _
  rw [h]
theorem catch_miss {l : List (Nat × Nat × Bool)} {c' c : Nat} {a : Act} {r : List (Nat × Act)} {ρ : Env} {M : Mem} (h : subL l c' c = some false) : catchM l ((c, a) :: r) c' ρ M = catchM l r c' ρ M := by
  show (match subL l c' c with | some true => a.go ρ M | some false => catchM l r c' ρ M | none => .bad) = _
  rw [h]
end Vm

namespace Vm
open PySem PySem.Spec L2
theorem ap_tEqO (cal : Cal) (ρ : Env) (M : Mem) (neg : Bool) (c i : Nat) (f g : Den) : tEqO neg c i f g cal ρ M = (f cal ρ M).bind fun x M1 => (g cal ρ M1).bind fun y M2 => (askO2 c i x y M2 cal).bind fun d M3 => R.opt (negB neg d) M3 := rfl
theorem ap_eqO (cal : Cal) (ρ : Env) (M : Mem) (neg : Bool) (c i : Nat) (f g : Den) : cEqO neg c i f g cal ρ M = (f cal ρ M).bind fun x M1 => (g cal ρ M1).bind fun y M2 => (askO2 c i x y M2 cal).bind fun d M3 => R.opt ((negB neg d).map D.bl) M3 := rfl
theorem ap_setT (cal : Cal) (ρ : Env) (M : Mem) (fo1 fi1 fo2 fi2 f g : Den) : sSetT fo1 fi1 fo2 fi2 f g cal ρ M = SR.of (f cal ρ M) ρ fun x M1 => SR.of (g cal ρ M1) ρ fun y M2 => SR.of (fo1 cal ρ M2) ρ fun o M3 => SR.of (fi1 cal ρ M3) ρ fun i M4 => match setD o i x M4 with
  | none => .bad
  | some M5 => SR.of (fo2 cal ρ M5) ρ fun o2 M6 => SR.of (fi2 cal ρ M6) ρ fun j M7 => match setD o2 j y M7 with
    | none => .bad
    | some M8 => .ok .nx ρ M8 := rfl
theorem eqv_s (a b : Str) : PyData.eqv (.str a) (.str b) = decide (a = b) := by
  unfold PyData.eqv
  by_cases h : a = b
  · rw [h]; simp
  · rw [decide_eq_false h, beq_false_of_ne h]
theorem eqv_n (a b : Int) : PyData.eqv (.int a) (.int b) = decide (a = b) := by
  unfold PyData.eqv
  by_cases h : a = b
  · rw [h]; simp
  · rw [decide_eq_false h, beq_false_of_ne h]
theorem eqv_ints : ∀ ns ms : List Int, PyData.eqvAll (ns.map PyData.int) (ms.map PyData.int) = decide (ns = ms)
  | [], [] => rfl
  | [], _ :: _ => rfl
  | _ :: _, [] => rfl
  | n :: ns, m :: ms => by
    show (PyData.eqv (.int n) (.int m) && PyData.eqvAll (ns.map PyData.int) (ms.map PyData.int)) = _
    rw [eqv_n, eqv_ints ns ms, ← Bool.decide_and]
    exact decide_eq_decide.mpr (by rw [List.cons.injEq])
theorem ints_inj : ∀ {ns ms : List Int}, ns.map D.int = ms.map D.int → ns = ms
  | [], [], _ => rfl
  | [], _ :: _, h => by cases h
  | _ :: _, [], h => by cases h
  | n :: ns, m :: ms, h => by
    rw [List.map_cons, List.map_cons] at h
    obtain ⟨h1, h2⟩ := List.cons.inj h
    cases h1
    rw [ints_inj h2]
theorem eqv_job {s s2 : Int} {d e : D} (J : Job s d) (J2 : Job s2 e) : PyData.eqv (toPd d) (toPd e) = true ↔ d = e := by
  obtain ⟨w, ns, lo, rfl, _⟩ := J.parts
  obtain ⟨w2, ms, lo2, rfl, _⟩ := J2.parts
  have e1 : ∀ (w : Str) (ns : List Int), toPd (.tup (.str w :: ns.map D.int)) = .tuple (.str w :: ns.map PyData.int) := fun w ns => by
    unfold toPd
    have : toP (.tup (.str w :: ns.map D.int)) = some (.tuple (.str w :: ns.map PyData.int)) := by unfold toP; rw [toPs_job]; rfl
    rw [this]; rfl
  rw [e1, e1]
  show (PyData.eqv (.str w) (.str w2) && PyData.eqvAll (ns.map PyData.int) (ms.map PyData.int)) = true ↔ _
  rw [eqv_s, eqv_ints, Bool.and_eq_true, decide_eq_true_eq, decide_eq_true_eq]
  constructor
  · rintro ⟨rfl, rfl⟩; rfl
  · intro h
    have h := D.tup.inj h
    obtain ⟨h1, h2⟩ := List.cons.inj h
    exact ⟨D.str.inj h1, ints_inj h2⟩
theorem eqv_jobs {s s2 : Int} : ∀ {js ks : List D}, (∀ j ∈ js, Job s j) → (∀ j ∈ ks, Job s2 j) → (PyData.eqvAll (js.map toPd) (ks.map toPd) = true ↔ js = ks)
  | [], [], _, _ => ⟨fun _ => rfl, fun _ => rfl⟩
  | [], _ :: _, _, _ => ⟨fun h => (by cases h), fun h => (by cases h)⟩
  | _ :: _, [], _, _ => ⟨fun h => (by cases h), fun h => (by cases h)⟩
  | j :: js, k :: ks, hj, hk => by
    show (PyData.eqv (toPd j) (toPd k) && PyData.eqvAll (js.map toPd) (ks.map toPd)) = true ↔ _
    rw [Bool.and_eq_true, eqv_job (hj j List.mem_cons_self) (hk k List.mem_cons_self), eqv_jobs (fun x hx => hj x (List.mem_cons_of_mem _ hx)) fun x hx => hk x (List.mem_cons_of_mem _ hx), List.cons.injEq]
theorem shaped_jobs {s : Int} {js : List D} (hj : ∀ j ∈ js, Job s j) : SeqAt.shaped (.tuple (js.map toPd)) = true ∧ toP (.tup js) = some (.tuple (js.map toPd)) := by
  have one : ∀ {j : D}, Job s j → (toPd j).canLay0 = true ∧ (toPd j).depth ≤ 1 ∧ toP j = some (toPd j) := fun {j} J => by
    obtain ⟨w, ns, lo, rfl, P⟩ := J.parts
    have e1 : toP (.tup (.str w :: ns.map D.int)) = some (.tuple (.str w :: ns.map PyData.int)) := by unfold toP; rw [toPs_job]; rfl
    have e2 : toPd (.tup (.str w :: ns.map D.int)) = .tuple (.str w :: ns.map PyData.int) := by unfold toPd; rw [e1]; rfl
    have sh := shaped_job P.ok ns
    rw [e2]
    unfold SeqAt.shaped at sh
    have hd : PyData.depthAll (ns.map PyData.int) = 0 := by
      clear P e1 e2 sh J
      induction ns with
      | nil => rfl
      | cons n ns ih => show max 0 (PyData.depthAll (ns.map PyData.int)) = 0; rw [ih]; rfl
    exact ⟨(Bool.and_eq_true_iff.mp sh).1, by show max 0 (PyData.depthAll (ns.map PyData.int)) + 1 ≤ 1; rw [hd]; decide, e1⟩
  have h1 : PyData.canLayAll0 (js.map toPd) = true := by
    induction js with
    | nil => rfl
    | cons j js ih => show ((toPd j).canLay0 && PyData.canLayAll0 (js.map toPd)) = true; rw [(one (hj j List.mem_cons_self)).1, ih fun x hx => hj x (List.mem_cons_of_mem _ hx)]; rfl
  have h2 : PyData.depthAll (js.map toPd) ≤ 1 := by
    clear h1
    induction js with
    | nil => exact Nat.zero_le _
    | cons j js ih => exact Nat.max_le.mpr ⟨(one (hj j List.mem_cons_self)).2.1, ih fun x hx => hj x (List.mem_cons_of_mem _ hx)⟩
  have h3 : toPs js = some (js.map toPd) := by
    clear h1 h2
    induction js with
    | nil => rfl
    | cons j js ih =>
      unfold toPs
      rw [(one (hj j List.mem_cons_self)).2.2, ih fun x hx => hj x (List.mem_cons_of_mem _ hx)]
      rfl
  refine ⟨?_, by unfold toP; rw [h3]; rfl⟩
  unfold SeqAt.shaped
  rw [show (PyData.tuple (js.map toPd)).canLay0 = true from h1, decide_eq_true (show (PyData.tuple (js.map toPd)).depth ≤ 64 by show PyData.depthAll (js.map toPd) + 1 ≤ 64; omega)]
  rfl
theorem eq_jobs {s s2 : Int} {js ks : List D} (hj : ∀ j ∈ js, Job s j) (hk : ∀ j ∈ ks, Job s2 j) : ∃ b, cmpD .Eq (.tup js) (.tup ks) = some (.bl b) ∧ (b = true ↔ js = ks) := by
  obtain ⟨a1, a2⟩ := shaped_jobs hj
  obtain ⟨b1, b2⟩ := shaped_jobs hk
  refine ⟨PyData.eqvAll (js.map toPd) (ks.map toPd), ?_, eqv_jobs hj hk⟩
  show (eqB (.tup js) (.tup ks)).map D.bl = _
  unfold eqB
  rw [a2, b2]
  show (if SeqAt.shaped (.tuple (js.map toPd)) = true ∧ SeqAt.shaped (.tuple (ks.map toPd)) = true then some (PyData.eqv (.tuple (js.map toPd)) (.tuple (ks.map toPd))) else none).map D.bl = _
  rw [if_pos ⟨a1, b1⟩]
  rfl
def turnJ : D → D
  | .tup [w, a, b, c] => .tup [w, c, b, a]
  | .tup [w, a, b] => .tup [w, b, a]
  | d => d
theorem Job.turn {s : Int} {d : D} (J : Job s d) : Job s (turnJ d) := by
  cases J with
  | planet h1 h2 h3 n1 n2 n3 => exact .planet h3 h2 h1 (Ne.symm n3) (Ne.symm n2) (Ne.symm n1)
  | double h1 h2 h3 n1 n2 n3 => exact .double h3 h2 h1 (Ne.symm n3) (Ne.symm n2) (Ne.symm n1)
  | pair h1 h2 n1 => exact .pair h2 h1 (Ne.symm n1)
  | band h1 h2 n1 => exact .band h2 h1 (Ne.symm n1)
theorem Job.turn2 {s : Int} {d : D} (J : Job s d) : turnJ (turnJ d) = d := by cases J <;> rfl
theorem Job.turn_ne {s : Int} {d : D} (J : Job s d) : turnJ d ≠ d := by
  cases J with
  | planet h1 h2 h3 n1 n2 n3 => intro h; simp [turnJ] at h; exact n2 h.1.symm
  | double h1 h2 h3 n1 n2 n3 => intro h; simp [turnJ] at h; exact n2 h.1.symm
  | pair h1 h2 n1 => intro h; simp [turnJ] at h; exact n1 h.1.symm
  | band h1 h2 n1 => intro h; simp [turnJ] at h; exact n1 h.1.symm
theorem jobs_app {s : Int} {js ks : List D} (hj : ∀ j ∈ js, Job s j) (hk : ∀ j ∈ ks, Job s j) : ∀ j ∈ js ++ ks, Job s j := fun j h => (List.mem_append.mp h).elim (hj j) (hk j)
theorem jobs_one {s : Int} {j : D} (J : Job s j) : ∀ x ∈ [j], Job s x := fun x h => by rw [List.mem_singleton.mp h]; exact J
theorem jobs_set {s : Int} {js : List D} (hj : ∀ j ∈ js, Job s j) {d : D} (J : Job s d) (i : Nat) : ∀ j ∈ js.set i d, Job s j := fun j h => (List.mem_or_eq_of_mem_set h).elim (hj j) fun e => e ▸ J
theorem jobs_cut {s : Int} {js : List D} (hj : ∀ j ∈ js, Job s j) (i : Nat) : ∀ j ∈ js.take i ++ js.drop (i + 1), Job s j := jobs_app (fun j h => hj j (List.mem_of_mem_take h)) fun j h => hj j (List.mem_of_mem_drop h)
section
variable {t : Tbl} {iI iS iW iN iR iL iB iA iM iE iQ iX : Nat} {c0 c1 c2 : Nat}
/-- what is asked of the table for a new box -/
theorem box_new (k : Nat) {ρ : Env} {M : Mem} {F G : Den} {s : Int} {js : List D} (hj : ∀ j ∈ js, Job s j) (hN : callN t k iN [.ref 0, .int s, .lst false js] [.ins 0 [] []] = .ok .non [.ins 0 fBox [.int s, .tup js]]) (hF : F (callN t k) ρ M = .ok (.int s) M) (hG : G (callN t k) ρ M = .ok (.lst false js) M) :
    cNew 0 iN 3 (aCons F (aCons G aNil)) (callN t k) ρ M = .ok (boxD s js) M :=
  new_box hj (by rw [ap_acons, hF, R.ok_bind, ap_acons, hG, R.ok_bind]; rfl) false rfl hN
theorem fin_box (s : Int) (js : List D) (ρ : Env) : finD 0 (.ok (.rt (boxD s js)) ρ []) = .ok (boxD s js) [] := rfl
def NWith : List Str := ["box", "work"]
noncomputable def dWith (iB iW iN iS iR c : Nat) : SDen :=
  (sSeq (sExpr (cPure iB 1 (aCons (cVar 0) aNil))) (sSeq (sIf (tNot (tTru (cPure iW 2 (aCons (cProp 0 iS (cVar 0)) (aCons (cVar 1) aNil))))) (sRaise c) sNil) (sRet (cNew 0 iN 3 (aCons (cProp 0 iS (cVar 0)) (aCons (cBin addD (cBlt (bList false) (aCons (cProp 0 iR (cVar 0)) aNil)) (cLst false (aCons (cVar 1) aNil))) aNil))))))
theorem with_sp (hI : t iI = some (NIsInt, dIsInt)) (hC : t iM = some (NCheckS, dChkS iI c0)) (hW : t iW = some (NFits, dFits iI)) (hN : t iN = some (NInit, dInit iM iW c1)) (hB : t iB = some (NChkB, dChkB c2)) (hS : t iS = some (NSelf, dShafts)) (hR : t iR = some (NSelf, dWorks)) (h : t iX = some (NWith, dWith iB iW iN iS iR c1)) (k : Nat)
    {s : Int} (h1 : 1 ≤ s) {js : List D} (hj : ∀ j ∈ js, Job s j) (hl : js.length ≤ 1000) {d : D} (J : Job s d) : callN t (k + 4) iX [boxD s js, d] [] = .ok (boxD s (js ++ [d])) [] := by
  have hf := jobs_free hj
  have hcl := jobs_clean hj
  have e1 := chkB_sp hB (k + 2) s js
  have e2 := fits_sp hI hW (k + 1) J
  have a1 := ask_box (M := []) hf (shafts_sp hS (k + 2) s js) rfl
  have a2 := ask_box (M := []) hf (works_sp hR (k + 2) s hf) hcl
  have lf : lift [] (.ok .non []) = .ok .non [] := rfl
  have lf2 : lift [] (.ok (.bl true) []) = .ok (.bl true) [] := rfl
  have fb := fr_box (s := s) hf
  have hz : js.length + [d].length ≤ sizeLine := by rw [sizeLine_eq]; show js.length + 1 ≤ _; omega
  have hn := init_sp hI hC hW hN k h1 (jobs_app hj (jobs_one J)) false
  rw [callN_of h]
  have pS : cProp 0 iS (cVar 0) (callN t (k + 3)) [some (boxD s js), some d] [] = .ok (.int s) [] := by rw [ap_prop, ap_var]; exact a1
  have pR : cProp 0 iR (cVar 0) (callN t (k + 3)) [some (boxD s js), some d] [] = .ok (.tup js) [] := by rw [ap_prop, ap_var]; exact a2
  have bl : bList false [.tup js] [] = .ok (.lst false js) [] := rfl
  have ol := one_le
  have pL : cBin addD (cBlt (bList false) (aCons (cProp 0 iR (cVar 0)) aNil)) (cLst false (aCons (cVar 1) aNil)) (callN t (k + 3)) [some (boxD s js), some d] [] = .ok (.lst false (js ++ [d])) [] := by
    simp only [ap_bin, ap_blt, ap_acons, ap_anil, pR, ap_lst, ap_var, sl0, slS, R.opt_some, R.ok_bind, List.map_cons, List.map_nil, view_tup', bl, List.length_cons, List.length_nil, Nat.zero_add, ol, if_true, newF, view_lst', add_l hz]
  show finD 0 (dWith iB iW iN iS iR c1 (callN t (k + 3)) [some (boxD s js), some d] []) = _
  unfold dWith
  simp only [ap_seq, ap_expr, ap_pure, ap_acons, ap_anil, ap_var, sl0, slS, R.opt_some, R.ok_bind, List.map_cons, List.map_nil, view_box, List.length_cons, List.length_nil, Nat.zero_add, Nat.reduceAdd, fr_cons, fb, fr_nil, Bool.and_self, and_self, if_true, e1, lf, SR.of_ok, SR.seq_nx, ap_if, ap_not, ap_tru, pS, J.view, J.free, view_int', fr_int, e2, lf2, view_bl', tru_bl, Bool.not_true, Bool.false_eq_true, if_false, ap_nil, ap_ret]
  rw [box_new (k + 3) (jobs_app hj (jobs_one J)) hn pS pL]
  exact fin_box s _ _
def NLess : List Str := ["box", "at"]
noncomputable def dLess (iB iA iN iS iR : Nat) : SDen :=
  (sSeq (sExpr (cPure iB 1 (aCons (cVar 0) aNil))) (sSeq (sExpr (cPure iA 2 (aCons (cVar 0) (aCons (cVar 1) aNil)))) (sRet (cNew 0 iN 3 (aCons (cProp 0 iS (cVar 0)) (aCons (cBin addD (cBlt (bList false) (aCons (cSl false (cProp 0 iR (cVar 0)) oNone (oSome (cVar 1))) aNil)) (cBlt (bList false) (aCons (cSl false (cProp 0 iR (cVar 0)) (oSome (cBin addD (cVar 1) (cC (.int 1)))) oNone) aNil))) aNil))))))
/-- the head that both have -/
theorem at_head (hI : t iI = some (NIsInt, dIsInt)) (hB : t iB = some (NChkB, dChkB c2)) (hL : t iL = some (NSelf, dLenB)) (hA : t iA = some (NChkA, dChkA iI iL c0)) (k : Nat) {s : Int} {js : List D} (hj : ∀ j ∈ js, Job s j) (hl : js.length ≤ 1000) {i : Nat} (hi : i < js.length) (g : SDen) {r : Env} :
    (sSeq (sExpr (cPure iB 1 (aCons (cVar 0) aNil))) (sSeq (sExpr (cPure iA 2 (aCons (cVar 0) (aCons (cVar 1) aNil)))) g)) (callN t (k + 2)) (some (boxD s js) :: some (.int (i : Int)) :: r) [] = g (callN t (k + 2)) (some (boxD s js) :: some (.int (i : Int)) :: r) [] := by
  have hf := jobs_free hj
  have e1 := chkB_sp hB (k + 1) s js
  have e2 := chkA_sp hI hL hA k s hf (n := ((js.length : Nat) : Int)) rfl (by omega) (i : Int)
  rw [if_pos ⟨Int.natCast_nonneg i, by omega⟩] at e2
  have lf : lift [] (.ok .non []) = .ok .non [] := rfl
  have fb := fr_box (s := s) hf
  simp only [ap_seq, ap_expr, ap_pure, ap_acons, ap_anil, ap_var, sl0, slS, R.opt_some, R.ok_bind, List.map_cons, List.map_nil, view_box, view_int', List.length_cons, List.length_nil, Nat.zero_add, Nat.reduceAdd, fr_cons, fr_int, fb, fr_nil, Bool.and_self, and_self, if_true, e1, e2, lf, SR.of_ok, SR.seq_nx]
theorem less_sp (hI : t iI = some (NIsInt, dIsInt)) (hC : t iM = some (NCheckS, dChkS iI c0)) (hW : t iW = some (NFits, dFits iI)) (hN : t iN = some (NInit, dInit iM iW c1)) (hB : t iB = some (NChkB, dChkB c2)) (hL : t iL = some (NSelf, dLenB)) {c3 : Nat} (hA : t iA = some (NChkA, dChkA iI iL c3)) (hS : t iS = some (NSelf, dShafts)) (hR : t iR = some (NSelf, dWorks))
    (h : t iX = some (NLess, dLess iB iA iN iS iR)) (k : Nat) {s : Int} (h1 : 1 ≤ s) {js : List D} (hj : ∀ j ∈ js, Job s j) (hl : js.length ≤ 1000) {i : Nat} (hi : i < js.length) : callN t (k + 4) iX [boxD s js, .int (i : Int)] [] = .ok (boxD s (js.take i ++ js.drop (i + 1))) [] := by
  have hf := jobs_free hj
  have hcl := jobs_clean hj
  have a1 := ask_box (M := []) hf (shafts_sp hS (k + 2) s js) rfl
  have a2 := ask_box (M := []) hf (works_sp hR (k + 2) s hf) hcl
  have hn := init_sp hI hC hW hN k h1 (jobs_cut hj i) false
  rw [callN_of h]
  have pS : cProp 0 iS (cVar 0) (callN t (k + 3)) [some (boxD s js), some (.int (i : Int))] [] = .ok (.int s) [] := by rw [ap_prop, ap_var]; exact a1
  have pR : cProp 0 iR (cVar 0) (callN t (k + 3)) [some (boxD s js), some (.int (i : Int))] [] = .ok (.tup js) [] := by rw [ap_prop, ap_var]; exact a2
  have bl : ∀ xs : List D, bList false [.tup xs] [] = .ok (.lst false xs) [] := fun _ => rfl
  have c1' := cut_to js i
  have c2' : cutD js (some ((i : Int) + 1)) none = js.drop (i + 1) := cut_from js (i + 1)
  have st : ∀ (xs : List D) (lo hi : Option Int), slD false (.tup xs) lo hi [] = .ok (.tup (cutD xs lo hi)) [] := fun _ _ _ => rfl
  have hz : (js.take i).length + (js.drop (i + 1)).length ≤ sizeLine := by rw [List.length_take, List.length_drop, sizeLine_eq]; omega
  have pL : cBin addD (cBlt (bList false) (aCons (cSl false (cProp 0 iR (cVar 0)) oNone (oSome (cVar 1))) aNil)) (cBlt (bList false) (aCons (cSl false (cProp 0 iR (cVar 0)) (oSome (cBin addD (cVar 1) (cC (.int 1)))) oNone) aNil)) (callN t (k + 3)) [some (boxD s js), some (.int (i : Int))] [] = .ok (.lst false (js.take i ++ js.drop (i + 1))) [] := by
    simp only [ap_bin, ap_blt, ap_acons, ap_anil, ap_sl, ap_onone, ap_osome, pR, ap_var, ap_c, sl0, slS, R.opt_some, R.ok_bind, List.map_cons, List.map_nil, view_tup', view_int', add_i, st, c1', c2', bl, view_lst', add_l hz]
  show finD 0 (dLess iB iA iN iS iR (callN t (k + 3)) [some (boxD s js), some (.int (i : Int))] []) = _
  unfold dLess
  rw [at_head hI hB hL hA (k + 1) hj hl hi, ap_ret, box_new (k + 3) (jobs_cut hj i) hn pS pL]
  exact fin_box s _ _
end
end Vm

namespace Vm
open PySem PySem.Spec L2
section
variable {t : Tbl} {iI iS iW iN iR iL iB iA iM iE iQ iX iG iC iD iF i1 i2 i3 : Nat} {c0 c1 c2 c3 : Nat}
def NTurn : List Str := ["box", "at", "works", "work"]
noncomputable def cTurnJ : Den := cBin addD (cBin addD (cTup (aCons (cIx (cVar 3) (cC (.int 0))) (aCons (cIx (cVar 3) (cNeg (cC (.int 1)))) aNil))) (cSl false (cVar 3) (oSome (cC (.int 2))) (oSome (cNeg (cC (.int 1)))))) (cTup (aCons (cIx (cVar 3) (cC (.int 1))) aNil))
noncomputable def dTurn (iB iA iN iS iR : Nat) : SDen :=
  (sSeq (sExpr (cPure iB 1 (aCons (cVar 0) aNil))) (sSeq (sExpr (cPure iA 2 (aCons (cVar 0) (aCons (cVar 1) aNil)))) (sSeq (sSet 2 (cBlt (bList true) (aCons (cProp 0 iR (cVar 0)) aNil))) (sSeq (sSet 3 (cIx (cVar 2) (cVar 1))) (sSeq (sSetIx (cVar 2) (cVar 1) cTurnJ) (sRet (cNew 0 iN 3 (aCons (cProp 0 iS (cVar 0)) (aCons (cVar 2) aNil)))))))))
theorem turnJ_den {cal : Cal} {ρ : Env} {M : Mem} {s : Int} {d : D} (J : Job s d) (h3 : slot ρ 3 = some d) : cTurnJ cal ρ M = .ok (turnJ d) M := by
  have ol := one_le
  have tl := two_le
  have big : ∀ xs ys : List D, xs.length + ys.length ≤ 10 → xs ≠ [] → addD (.tup xs) (.tup ys) = some (.tup (xs ++ ys)) := fun xs ys h hn => if_pos ⟨by rw [sizeLine_eq]; omega, hn⟩
  have st : ∀ (xs : List D) (lo hi : Option Int), slD false (.tup xs) lo hi M = .ok (.tup (cutD xs lo hi)) M := fun _ _ _ => rfl
  have four : ∀ w a b c : D, (∀ M, view M w = w) → slot ρ 3 = some (.tup [w, a, b, c]) → cTurnJ cal ρ M = .ok (.tup [w, c, b, a]) M := fun w a b c _ h => by
    have e1 : atI [w, a, b, c] (-1) = some c := rfl
    have e2 : cutD [w, a, b, c] (some 2) (some (-1)) = [b] := rfl
    have b1 := big [w, c] [b] (by show 2 + 1 ≤ 10; decide) (by simp)
    have b2 := big [w, c, b] [a] (by show 3 + 1 ≤ 10; decide) (by simp)
    unfold cTurnJ
    simp only [ap_bin, ap_tup, ap_acons, ap_anil, ap_ix, ap_neg, ap_sl, ap_osome, ap_var, ap_c, h, R.opt_some, R.ok_bind, view_tup', view_int', Vm.ix_tup, at0, at1, e1, List.length_cons, List.length_nil, Nat.zero_add, Nat.reduceAdd, tl, ol, if_true, st, e2, b1, b2, List.cons_append, List.nil_append]
  have three : ∀ w a b : D, (∀ M, view M w = w) → slot ρ 3 = some (.tup [w, a, b]) → cTurnJ cal ρ M = .ok (.tup [w, b, a]) M := fun w a b _ h => by
    have e1 : atI [w, a, b] (-1) = some b := rfl
    have e2 : cutD [w, a, b] (some 2) (some (-1)) = [] := rfl
    have b1 := big [w, b] [] (by show 2 + 0 ≤ 10; decide) (by simp)
    have b2 := big [w, b] [a] (by show 2 + 1 ≤ 10; decide) (by simp)
    unfold cTurnJ
    simp only [ap_bin, ap_tup, ap_acons, ap_anil, ap_ix, ap_neg, ap_sl, ap_osome, ap_var, ap_c, h, R.opt_some, R.ok_bind, view_tup', view_int', Vm.ix_tup, at0, at1, e1, List.length_cons, List.length_nil, Nat.zero_add, Nat.reduceAdd, tl, ol, if_true, st, e2, b1, b2, List.cons_append, List.nil_append, List.append_nil]
  cases J with
  | planet _ _ _ _ _ _ => exact four _ _ _ _ (fun _ => rfl) h3
  | double _ _ _ _ _ _ => exact four _ _ _ _ (fun _ => rfl) h3
  | pair _ _ _ => exact three _ _ _ (fun _ => rfl) h3
  | band _ _ _ => exact three _ _ _ (fun _ => rfl) h3
theorem ix_ok {js : List D} {i : Nat} (hi : i < js.length) : ixN js.length (i : Int) = some i := by
  unfold ixN
  rw [if_pos (by omega), if_pos (by omega), Int.toNat_natCast]
theorem set_at {M : Mem} {m i : Nat} {js : List D} {d : D} (hm : M[m]? = some (.lst js)) (hi : i < js.length) (hd : free d = true) : setD (.ref m) (.int (i : Int)) d M = some (M.set m (.lst (js.set i d))) := by
  unfold setD
  simp only [hm, ix_ok hi, hd, if_true]
theorem turn_sp (hI : t iI = some (NIsInt, dIsInt)) (hC : t iM = some (NCheckS, dChkS iI c0)) (hW : t iW = some (NFits, dFits iI)) (hN : t iN = some (NInit, dInit iM iW c1)) (hB : t iB = some (NChkB, dChkB c2)) (hL : t iL = some (NSelf, dLenB)) (hA : t iA = some (NChkA, dChkA iI iL c3)) (hS : t iS = some (NSelf, dShafts)) (hR : t iR = some (NSelf, dWorks))
    (h : t iX = some (NTurn, dTurn iB iA iN iS iR)) (k : Nat) {s : Int} (h1 : 1 ≤ s) {js : List D} (hj : ∀ j ∈ js, Job s j) (hl : js.length ≤ 1000) {i : Nat} {d : D} (hd : js[i]? = some d) : callN t (k + 4) iX [boxD s js, .int (i : Int)] [] = .ok (boxD s (js.set i (turnJ d))) [] := by
  have J := Job.of_take hj hd
  have hi : i < js.length := (List.getElem?_eq_some_iff.mp hd).1
  have hf := jobs_free hj
  have hcl := jobs_clean hj
  have hj2 := jobs_set hj J.turn i
  have a2 := ask_box (M := []) hf (works_sp hR (k + 2) s hf) hcl
  have a1 := ask_box (M := [.lst (js.set i (turnJ d))]) hf (shafts_sp hS (k + 2) s js) rfl
  have hn := init_sp hI hC hW hN k h1 hj2 true
  rw [callN_of h]
  have pR : cProp 0 iR (cVar 0) (callN t (k + 3)) [some (boxD s js), some (.int (i : Int)), none, none] [] = .ok (.tup js) [] := by rw [ap_prop, ap_var]; exact a2
  have bl : bList true [.tup js] [] = .ok (.ref 0) [.lst js] := by
    show newL true js [] = _
    rw [newB [] hf]; rfl
  have vw : ∀ xs : List D, view [Cell.lst xs] (.ref 0) = .lst true xs := fun _ => rfl
  have ha : atI js (i : Int) = some d := by rw [at_nat]; exact hd
  have tj := turnJ_den (cal := callN t (k + 3)) (ρ := [some (boxD s js), some (.int (i : Int)), some (.ref 0), some d]) (M := [.lst js]) J rfl
  have sd : setD (.ref 0) (.int (i : Int)) (turnJ d) [.lst js] = some [.lst (js.set i (turnJ d))] := set_at (M := [.lst js]) rfl hi J.turn.free
  show finD 0 (dTurn iB iA iN iS iR (callN t (k + 3)) [some (boxD s js), some (.int (i : Int)), none, none] []) = _
  unfold dTurn
  rw [at_head hI hB hL hA (k + 1) hj hl hi, ap_seq, ap_set]
  simp only [ap_blt, ap_acons, ap_anil, pR, R.ok_bind, List.map_cons, List.map_nil, view_tup', bl, SR.of_ok, se0, seS, SR.seq_nx, ap_seq, ap_set, ap_ix, ap_var, sl0, slS, R.opt_some, vw, view_int', ix_at, ha, ap_setix, tj, sd, ap_ret]
  have pS : cProp 0 iS (cVar 0) (callN t (k + 3)) [some (boxD s js), some (.int (i : Int)), some (.ref 0), some d] [.lst (js.set i (turnJ d))] = .ok (.int s) [.lst (js.set i (turnJ d))] := by rw [ap_prop, ap_var]; exact a1
  rw [new_box (d := .ref 0) (M := [.lst (js.set i (turnJ d))]) hj2 (by rw [ap_acons, pS, R.ok_bind, ap_acons, ap_var]; rfl) true rfl hn]
  show (if [Cell.lst (js.set i (turnJ d))].length ≤ 0 then R.ok (boxD s (js.set i (turnJ d))) [Cell.lst (js.set i (turnJ d))] else if free (boxD s (js.set i (turnJ d))) = true then .ok (boxD s (js.set i (turnJ d))) ([Cell.lst (js.set i (turnJ d))].take 0) else .bad) = _
  rw [if_neg (by show ¬ (1 ≤ 0); decide), if_pos (fr_box (jobs_free hj2))]
  rfl
def NExc : List Str := ["jobs", "spot", "made", "row"]
noncomputable def sExc : SDen := (sSetT (cVar 3) (cC (.int 1)) (cVar 3) (cBin subD (cBlt bLen (aCons (cVar 3) aNil)) (cC (.int 1))) (cIx (cVar 3) (cBin subD (cBlt bLen (aCons (cVar 3) aNil)) (cC (.int 1)))) (cIx (cVar 3) (cC (.int 1))))
noncomputable def dExc : SDen :=
  (sSeq (sSet 2 (cBlt (bList true) (aCons (cVar 0) aNil))) (sSeq (sSet 3 (cBlt (bList true) (aCons (cIx (cVar 2) (cVar 1)) aNil))) (sSeq sExc (sSeq (sSetIx (cVar 2) (cVar 1) (cBlt bTuple (aCons (cVar 3) aNil))) (sRet (cVar 2))))))
theorem exc_row {cal : Cal} {ρ : Env} {js : List D} {s : Int} {d : D} (J : Job s d) (h3 : slot ρ 3 = some (.ref 1)) : ∃ xs ys, d = .tup xs ∧ turnJ d = .tup ys ∧ frees xs = true ∧ frees ys = true ∧ sExc cal ρ [.lst js, .lst xs] = .ok .nx ρ [.lst js, .lst ys] := by
  have four : ∀ (w : D) (a b c : Int), free w = true → sExc cal ρ [.lst js, .lst [w, .int a, .int b, .int c]] = .ok .nx ρ [.lst js, .lst [w, .int c, .int b, .int a]] := fun w a b c fw => by
    have vw : view [Cell.lst js, .lst [w, .int a, .int b, .int c]] (.ref 1) = .lst true [w, .int a, .int b, .int c] := rfl
    have e1 : atI [w, D.int a, .int b, .int c] 3 = some (.int c) := at3 _ _ _ _ _
    have e2 : atI [w, D.int a, .int b, .int c] 1 = some (.int a) := at1 _ _ _
    have s1 : setD (.ref 1) (.int 1) (.int c) [Cell.lst js, .lst [w, .int a, .int b, .int c]] = some [.lst js, .lst [w, .int c, .int b, .int c]] := set_at (M := [Cell.lst js, .lst [w, .int a, .int b, .int c]]) (m := 1) (i := 1) rfl (by show 1 < 4; decide) rfl
    have vw2 : view [Cell.lst js, .lst [w, .int c, .int b, .int c]] (.ref 1) = .lst true [w, .int c, .int b, .int c] := rfl
    have s2 : setD (.ref 1) (.int 3) (.int a) [Cell.lst js, .lst [w, .int c, .int b, .int c]] = some [.lst js, .lst [w, .int c, .int b, .int a]] := set_at (M := [Cell.lst js, .lst [w, .int c, .int b, .int c]]) (m := 1) (i := 3) rfl (by show 3 < 4; decide) rfl
    have l4 : ∀ M (x y z u : D), bLen [.lst true [x, y, z, u]] M = .ok (.int 4) M := fun _ _ _ _ _ => rfl
    have n3 : (4 : Int) - 1 = 3 := rfl
    unfold sExc
    rw [ap_setT]
    simp only [ap_ix, ap_bin, ap_blt, ap_acons, ap_anil, ap_var, ap_c, h3, R.opt_some, R.ok_bind, List.map_cons, List.map_nil, vw, vw2, view_int', l4, sub_i, n3, ix_at, e1, e2, SR.of_ok, s1, s2]
  have three : ∀ (w : D) (a b : Int), free w = true → sExc cal ρ [.lst js, .lst [w, .int a, .int b]] = .ok .nx ρ [.lst js, .lst [w, .int b, .int a]] := fun w a b fw => by
    have vw : view [Cell.lst js, .lst [w, .int a, .int b]] (.ref 1) = .lst true [w, .int a, .int b] := rfl
    have e1 : atI [w, D.int a, .int b] 2 = some (.int b) := at2 _ _ _ _
    have e2 : atI [w, D.int a, .int b] 1 = some (.int a) := at1 _ _ _
    have s1 : setD (.ref 1) (.int 1) (.int b) [Cell.lst js, .lst [w, .int a, .int b]] = some [.lst js, .lst [w, .int b, .int b]] := set_at (M := [Cell.lst js, .lst [w, .int a, .int b]]) (m := 1) (i := 1) rfl (by show 1 < 3; decide) rfl
    have vw2 : view [Cell.lst js, .lst [w, .int b, .int b]] (.ref 1) = .lst true [w, .int b, .int b] := rfl
    have s2 : setD (.ref 1) (.int 2) (.int a) [Cell.lst js, .lst [w, .int b, .int b]] = some [.lst js, .lst [w, .int b, .int a]] := set_at (M := [Cell.lst js, .lst [w, .int b, .int b]]) (m := 1) (i := 2) rfl (by show 2 < 3; decide) rfl
    have l3 : ∀ M (x y z : D), bLen [.lst true [x, y, z]] M = .ok (.int 3) M := fun _ _ _ _ => rfl
    have n2 : (3 : Int) - 1 = 2 := rfl
    unfold sExc
    rw [ap_setT]
    simp only [ap_ix, ap_bin, ap_blt, ap_acons, ap_anil, ap_var, ap_c, h3, R.opt_some, R.ok_bind, List.map_cons, List.map_nil, vw, vw2, view_int', l3, sub_i, n2, ix_at, e1, e2, SR.of_ok, s1, s2]
  cases J with
  | planet _ _ _ _ _ _ => exact ⟨_, _, rfl, rfl, rfl, rfl, four _ _ _ _ rfl⟩
  | double _ _ _ _ _ _ => exact ⟨_, _, rfl, rfl, rfl, rfl, four _ _ _ _ rfl⟩
  | pair _ _ _ => exact ⟨_, _, rfl, rfl, rfl, rfl, three _ _ _ rfl⟩
  | band _ _ _ => exact ⟨_, _, rfl, rfl, rfl, rfl, three _ _ _ rfl⟩
theorem exc_sp (h : t iX = some (NExc, dExc)) (k : Nat) {s : Int} {js : List D} (hj : ∀ j ∈ js, Job s j) {i : Nat} {d : D} (hd : js[i]? = some d) (tt : Bool) : callN t (k + 1) iX [.lst tt js, .int (i : Int)] [] = .ok (.ref 0) [.lst (js.set i (turnJ d))] := by
  have J := Job.of_take hj hd
  have hi : i < js.length := (List.getElem?_eq_some_iff.mp hd).1
  have hf := jobs_free hj
  obtain ⟨xs, ys, ex, ey, fx, fy, er⟩ := exc_row (cal := callN t k) (ρ := [some (.lst tt js), some (.int (i : Int)), some (.ref 0), some (.ref 1)]) (js := js) J rfl
  have bl : bList true [.lst tt js] [] = .ok (.ref 0) [.lst js] := by
    show newL true js [] = _
    rw [newB [] hf]; rfl
  have bl2 : bList true [.tup xs] [.lst js] = .ok (.ref 1) [.lst js, .lst xs] := by
    show newL true xs [.lst js] = _
    rw [newB [.lst js] fx]; rfl
  have vw : ∀ xs : List Cell, ∀ js : List D, view (Cell.lst js :: xs) (.ref 0) = .lst true js := fun _ _ => rfl
  have vw1 : view [Cell.lst js, .lst ys] (.ref 1) = .lst true ys := rfl
  have ha : atI js (i : Int) = some d := by rw [at_nat]; exact hd
  have bt : bTuple [.lst true ys] [Cell.lst js, .lst ys] = .ok (.tup ys) [Cell.lst js, .lst ys] := rfl
  have sd : setD (.ref 0) (.int (i : Int)) (.tup ys) [Cell.lst js, .lst ys] = some [.lst (js.set i (.tup ys)), .lst ys] := set_at (M := [Cell.lst js, .lst ys]) (m := 0) rfl hi fy
  rw [callN_of h]
  show finD 0 (dExc (callN t k) [some (.lst tt js), some (.int (i : Int)), none, none] []) = _
  unfold dExc
  rw [ap_seq, ap_set]
  simp only [ap_blt, ap_acons, ap_anil, ap_var, sl0, slS, R.opt_some, R.ok_bind, List.map_cons, List.map_nil, view_lst', bl, SR.of_ok, se0, seS, SR.seq_nx]
  rw [ap_seq, ap_set]
  simp only [ap_blt, ap_acons, ap_anil, ap_ix, ap_var, sl0, slS, R.opt_some, R.ok_bind, List.map_cons, List.map_nil, vw, view_int', ix_at, ha, J.view]
  rw [ex, bl2]
  simp only [SR.of_ok, se0, seS, SR.seq_nx]
  rw [ap_seq, er, SR.seq_nx, ap_seq, ap_setix]
  simp only [ap_blt, ap_acons, ap_anil, ap_var, sl0, slS, R.opt_some, R.ok_bind, List.map_cons, List.map_nil, vw1, bt, SR.of_ok, sd, SR.seq_nx, ap_ret]
  rw [← ex, ey]
  rfl
end
end Vm

namespace Vm
open PySem PySem.Spec L2
def NWk : List Str := ["work"]
def NJv : List Str := ["job"]
def sKs : List (Str × D) := [("planet", .int 1), ("double", .int (-1)), ("pair", .int 1), ("band", .int (-1))]
noncomputable def dSign : SDen := (sRet (cIx (cDispC sKs) (cIx (cVar 0) (cC (.int 0)))))
theorem look_eq (s : Str) (ks vs : List D) (v : D) : lookD (.str s :: ks) (v :: vs) (.str s) = some v := if_pos rfl
theorem look_ne {k s : Str} (h : k ≠ s) (ks vs : List D) (v : D) : lookD (.str k :: ks) (v :: vs) (.str s) = lookD ks vs (.str s) := if_neg fun z => h (D.str.inj z)
theorem sign_go {cal : Cal} {w : Str} {r : List D} {v : Int} (h : lookD (sKs.map fun p => .str p.1) (sKs.map (·.2)) (.str w) = some (.int v)) : fnD NJv dSign [.tup (.str w :: r)] [] cal = .ok (.int v) [] := by
  have nd : (sKs.map (·.1)).Nodup := by decide +kernel
  have e0 := at0 (D.str w) r
  have ix : ixD (view [Cell.dic (.bl false :: sKs.map fun p => .str p.1) (sKs.map (·.2))] (.ref 0)) (.str w) = some (.int v) := by
    show (match (keyQ false (.str w)).map fun k => lookD (sKs.map fun p => .str p.1) (sKs.map (·.2)) k with | some o => o | none => none) = _
    show lookD (sKs.map fun p => .str p.1) (sKs.map (·.2)) (.str w) = _
    exact h
  have nc : newC (.dic (.bl false :: sKs.map fun p => .str p.1) (sKs.map (·.2))) [] = .ok (.ref 0) [.dic (.bl false :: sKs.map fun p => .str p.1) (sKs.map (·.2))] := rfl
  show finD 0 (dSign cal [some (.tup (.str w :: r))] []) = _
  unfold dSign
  rw [ap_ret, ap_ix, ap_dispC, if_pos nd, nc, R.ok_bind]
  simp only [ap_ix, ap_var, ap_c, sl0, R.opt_some, R.ok_bind, view_tup', view_int', view_str', Vm.ix_tup, e0, ix, SR.of_ok, Vm.fin_int, List.take_zero]
section
variable {t : Tbl} {iI iS iW iN iR iL iB iA iM iE iQ iX iG iC iD iF i1 i2 i3 : Nat} {c0 c1 c2 c3 : Nat}
theorem sign_sp (h : t iG = some (NJv, dSign)) (k : Nat) {s : Int} {d : D} (J : Job s d) : callN t (k + 1) iG [d] [] = .ok (.int (sgn d)) [] := by
  rw [callN_of h]
  cases J with
  | planet _ _ _ _ _ _ => rw [sgn_p]; exact sign_go (look_eq _ _ _ _)
  | double _ _ _ _ _ _ => rw [sgn_d]; exact sign_go ((look_ne (by decide +kernel) _ _ _).trans (look_eq _ _ _ _))
  | pair _ _ _ => rw [sgn_r]; exact sign_go ((look_ne (by decide +kernel) _ _ _).trans ((look_ne (by decide +kernel) _ _ _).trans (look_eq _ _ _ _)))
  | band _ _ _ => rw [sgn_b]; exact sign_go ((look_ne (by decide +kernel) _ _ _).trans ((look_ne (by decide +kernel) _ _ _).trans ((look_ne (by decide +kernel) _ _ _).trans (look_eq _ _ _ _))))
/-- the defs that differences and senses need -/
structure Ats (t : Tbl) (iI iB iL iA iR iD iE iF i1 i2 i3 : Nat) : Prop where
  I : t iI = some (NIsInt, dIsInt)
  B : ∃ c, t iB = some (NChkB, dChkB c)
  L : t iL = some (NSelf, dLenB)
  A : ∃ c, t iA = some (NChkA, dChkA iI iL c)
  R : t iR = some (NSelf, dWorks)
  D : t iD = some (NWk, dDiffs)
  E : t iE = some (NWk, dSense)
  f1 : t i1 = some (NAt, dFirst iB iA iD iR 0)
  f2 : t i2 = some (NAt, dFirst iB iA iD iR 1)
  f3 : t i3 = some (NAt, dSenseAt iB iA iE iR)
theorem at_ok (T : Ats t iI iB iL iA iR iD iE iF i1 i2 i3) {s : Int} {js : List D} (hj : ∀ j ∈ js, Job s j) (hl : js.length ≤ 1000) {i : Nat} {d : D} (hd : js[i]? = some d) (k : Nat) :
    callN t (k + 4) i1 [boxD s js, .int (i : Int)] [] = .ok (pD (dif1 d)) [] ∧ callN t (k + 4) i2 [boxD s js, .int (i : Int)] [] = .ok (pD (dif2 d)) [] ∧ callN t (k + 4) i3 [boxD s js, .int (i : Int)] [] = .ok (.int (sgn d)) [] := by
  obtain ⟨h0, ⟨c2, h3⟩, h25, ⟨c3, h4⟩, h24, h5, h6, h7, h8, h9⟩ := T
  have hf := jobs_free hj
  have hcl := jobs_clean hj
  have J := Job.of_take hj hd
  have hi : i < js.length := (List.getElem?_eq_some_iff.mp hd).1
  have ha : atI js (i : Int) = some d := by rw [at_nat]; exact hd
  have e2 : callN t (k + 3) iA [boxD s js, .int (i : Int)] [] = .ok .non [] := by
    have z := chkA_sp h0 h25 h4 (k + 1) s hf (n := ((js.length : Nat) : Int)) rfl (by omega) (i : Int)
    rw [if_pos ⟨Int.natCast_nonneg i, by omega⟩] at z
    exact z
  have e3 : askO 0 iR (boxD s js) [] (callN t (k + 3)) = .ok (.tup js) [] := ask_box hf (works_sp h24 (k + 2) s hf) hcl
  refine ⟨?_, ?_, ?_⟩
  · rw [callN_of h7]
    exact first_fin J (fun _ => rfl) (fr_box hf) (chkB_sp h3 (k + 2) s js) e2 e3 ha (diff_sp h5 (k + 2) J) (.inl rfl)
  · rw [callN_of h8]
    exact first_fin J (fun _ => rfl) (fr_box hf) (chkB_sp h3 (k + 2) s js) e2 e3 ha (diff_sp h5 (k + 2) J) (.inr rfl)
  · rw [callN_of h9]
    exact senseAt_fin J (fun _ => rfl) (fr_box hf) (chkB_sp h3 (k + 2) s js) e2 e3 ha (sense_sp h6 (k + 2) J)
theorem dif_small {s : Int} (hs : s ≤ 1000) {d : D} (J : Job s d) : ((dif1 d).1.natAbs < 10 ^ 12 ∧ (dif1 d).2.natAbs < 10 ^ 12) ∧ ((dif2 d).1.natAbs < 10 ^ 12 ∧ (dif2 d).2.natAbs < 10 ^ 12) := by
  cases J <;> refine ⟨⟨?_, ?_⟩, ⟨?_, ?_⟩⟩ <;> simp only [dif1, dif2] <;> omega
theorem sgn_small {s : Int} {d : D} (J : Job s d) : (sgn d).natAbs < 10 ^ 12 := by
  have : sgn d = 1 ∨ sgn d = -1 := by
    cases J with
    | planet _ _ _ _ _ _ => exact .inl (sgn_p _)
    | double _ _ _ _ _ _ => exact .inr (sgn_d _)
    | pair _ _ _ => exact .inl (sgn_r _)
    | band _ _ _ => exact .inr (sgn_b _)
  rcases this with e | e <;> rw [e] <;> decide
theorem same_pD (hE : t iE = some (NSame, dSame)) {p : Int × Int} (h : p.1.natAbs < 10 ^ 12 ∧ p.2.natAbs < 10 ^ 12) (k : Nat) : callN t (k + 1) iE [pD p, pD p] [] = .ok (.bl true) [] :=
  same_sp hE k (sh_pair h.1 h.2) (sh_pair h.1 h.2) (by decide) (okS_tup fun q hq => by
    rcases List.mem_cons.mp hq with rfl | hq
    · exact okS_int _
    · rw [List.mem_singleton.mp hq]; exact okS_int _) (fun _ => rfl) (fun _ => rfl)
theorem same_i (hE : t iE = some (NSame, dSame)) {i : Int} (h : i.natAbs < 10 ^ 12) (k : Nat) : callN t (k + 1) iE [.int i, .int i] [] = .ok (.bl true) [] := same_sp hE k (sh_int h) (sh_int h) (by decide) (okS_int i) (fun _ => rfl) (fun _ => rfl)
def NRight : List Str := ["crate", "span", "jobs", "k", "one", "two"]
noncomputable def dRightB (iQ iX iG i1 i2 i3 : Nat) : SDen := (sSeq (sAsg (gTp 2 (gNs (gNm 4) (gNs (gNm 5) gN0))) (cPure iX 1 (aCons (cIx (cVar 2) (cVar 3)) aNil))) (sSeq (sIf (tOr (tNot (tTru (cPure iQ 2 (aCons (cPure i1 2 (aCons (cVar 0) (aCons (cVar 3) aNil))) (aCons (cVar 4) aNil))))) (tNot (tTru (cPure iQ 2 (aCons (cPure i2 2 (aCons (cVar 0) (aCons (cVar 3) aNil))) (aCons (cVar 5) aNil)))))) (sRet (cC (.bl false))) sNil) (sIf (tNot (tTru (cPure iQ 2 (aCons (cPure i3 2 (aCons (cVar 0) (aCons (cVar 3) aNil))) (aCons (cPure iG 1 (aCons (cIx (cVar 2) (cVar 3)) aNil)) aNil))))) (sRet (cC (.bl false))) sNil)))
noncomputable def dRight (iC iQ iX iG i1 i2 i3 : Nat) : SDen :=
  (sSeq (sIf (tNot (tTru (cPure iC 3 (aCons (cVar 0) (aCons (cVar 1) (aCons (cVar 2) aNil)))))) (sRet (cC (.bl false))) sNil) (sSeq (sFor (gNm 3) (iRg1 (aCons (cBlt bLen (aCons (cVar 2) aNil)) aNil)) (dRightB iQ iX iG i1 i2 i3)) (sRet (cC (.bl true)))))
theorem right_turn (T : Ats t iI iB iL iA iR iD iE iF i1 i2 i3) (hQ : t iQ = some (NSame, dSame)) (hX : t iX = some (NJv, dDiffs)) (hG : t iG = some (NJv, dSign)) (k : Nat) {s : Int} (hs : s ≤ 1000) {js : List D} (hj : ∀ j ∈ js, Job s j) (hl : js.length ≤ 1000) {i : Nat} {d : D} (hd : js[i]? = some d) (tt : Bool) {a : Option D} (v4 v5 : Option D) :
    dRightB iQ iX iG i1 i2 i3 (callN t (k + 4)) [some (boxD s js), a, some (.lst tt js), some (.int (i : Int)), v4, v5] [] = .ok .nx [some (boxD s js), a, some (.lst tt js), some (.int (i : Int)), some (pD (dif1 d)), some (pD (dif2 d))] [] := by
  have J := Job.of_take hj hd
  have hf := jobs_free hj
  obtain ⟨f1, f2, f3⟩ := at_ok T hj hl hd k
  obtain ⟨g1, g2⟩ := dif_small hs J
  have ha : atI js (i : Int) = some d := by rw [at_nat]; exact hd
  have e := diff_sp hX (k + 3) J
  have lf : lift [] (.ok (.tup [pD (dif1 d), pD (dif2 d)]) []) = .ok (.tup [pD (dif1 d), pD (dif2 d)]) [] := rfl
  have ix : ∀ ρ : Env, slot ρ 2 = some (.lst tt js) → slot ρ 3 = some (.int (i : Int)) → cIx (cVar 2) (cVar 3) (callN t (k + 4)) ρ [] = .ok d [] := fun ρ h2 h3 => by
    simp only [ap_ix, ap_var, h2, h3, R.opt_some, R.ok_bind, view_lst', view_int', ix_at, ha]
  have s1 : sAsg (gTp 2 (gNs (gNm 4) (gNs (gNm 5) gN0))) (cPure iX 1 (aCons (cIx (cVar 2) (cVar 3)) aNil)) (callN t (k + 4)) [some (boxD s js), a, some (.lst tt js), some (.int (i : Int)), v4, v5] [] = .ok .nx [some (boxD s js), a, some (.lst tt js), some (.int (i : Int)), some (pD (dif1 d)), some (pD (dif2 d))] [] := by
    have e2 : cPure iX 1 (aCons (cIx (cVar 2) (cVar 3)) aNil) (callN t (k + 4)) [some (boxD s js), a, some (.lst tt js), some (.int (i : Int)), v4, v5] [] = .ok (.tup [pD (dif1 d), pD (dif2 d)]) [] := by
      simp only [ap_pure, ap_acons, ap_anil, ix [some (boxD s js), a, some (.lst tt js), some (.int (i : Int)), v4, v5] rfl rfl, R.ok_bind, List.length_cons, List.length_nil, Nat.zero_add, List.map_cons, List.map_nil, J.view, J.free, fr_cons, fr_nil, Bool.and_self, and_self, if_true, e, lf]
    unfold sAsg
    rw [e2]
    rfl
  generalize hρ : [some (boxD s js), a, some (.lst tt js), some (.int (i : Int)), some (pD (dif1 d)), some (pD (dif2 d))] = ρ at s1 ⊢
  have r0 : slot ρ 0 = some (boxD s js) := by rw [← hρ]; rfl
  have r2 : slot ρ 2 = some (.lst tt js) := by rw [← hρ]; rfl
  have r3 : slot ρ 3 = some (.int (i : Int)) := by rw [← hρ]; rfl
  have r4 : slot ρ 4 = some (pD (dif1 d)) := by rw [← hρ]; rfl
  have r5 : slot ρ 5 = some (pD (dif2 d)) := by rw [← hρ]; rfl
  have t1 := tst_same (cal := callN t (k + 4)) (M := []) (pure2 (cal := callN t (k + 4)) (M := []) r0 r3 rfl rfl (fr_box hf) rfl f1 rfl) r4 (same_pD hQ g1 (k + 3)) rfl rfl
  have t2 := tst_same (cal := callN t (k + 4)) (M := []) (pure2 (cal := callN t (k + 4)) (M := []) r0 r3 rfl rfl (fr_box hf) rfl f2 rfl) r5 (same_pD hQ g2 (k + 3)) rfl rfl
  have a3 := pure2 (cal := callN t (k + 4)) (M := []) (i := i3) r0 r3 rfl rfl (fr_box hf) rfl f3 rfl
  have sg := sign_sp hG (k + 3) J
  have lf3 : lift [] (.ok (.int (sgn d)) []) = .ok (.int (sgn d)) [] := rfl
  have a4 : cPure iG 1 (aCons (cIx (cVar 2) (cVar 3)) aNil) (callN t (k + 4)) ρ [] = .ok (.int (sgn d)) [] := by
    simp only [ap_pure, ap_acons, ap_anil, ix ρ r2 r3, R.ok_bind, List.length_cons, List.length_nil, Nat.zero_add, List.map_cons, List.map_nil, J.view, J.free, fr_cons, fr_nil, Bool.and_self, and_self, if_true, sg, lf3]
  have sm := same_i hQ (sgn_small J) (k + 3)
  have lf4 : lift [] (.ok (.bl true) []) = .ok (.bl true) [] := rfl
  have t3 : tTru (cPure iQ 2 (aCons (cPure i3 2 (aCons (cVar 0) (aCons (cVar 3) aNil))) (aCons (cPure iG 1 (aCons (cIx (cVar 2) (cVar 3)) aNil)) aNil))) (callN t (k + 4)) ρ [] = .ok true [] := by
    rw [ap_tru, ap_pure, ap_acons, a3, R.ok_bind, ap_acons, a4]
    simp only [ap_anil, R.ok_bind, List.length_cons, List.length_nil, Nat.zero_add, Nat.reduceAdd, List.map_cons, List.map_nil, view_int', fr_cons, fr_int, fr_nil, Bool.and_self, and_self, if_true, sm, lf4, view_bl', tru_bl, R.opt_some]
  unfold dRightB
  rw [ap_seq, s1, SR.seq_nx, ap_seq, if_not2 t1 t2, SR.seq_nx, if_not t3]
theorem right_fin {cal : Cal} {ρ : Env} {js : List D} {tt : Bool} {n : Nat} {b : SDen} (hn : js.length = n) (h2 : slot ρ 2 = some (.lst tt js)) (hz : n ≤ 1000) : sFor (gNm 3) (iRg1 (aCons (cBlt bLen (aCons (cVar 2) aNil)) aNil)) b cal ρ [] = forL (fun _ => True) (gNm 3) b ((List.range n).map fun i => .int (i : Nat)) cal ρ [] := by
  have e : iRg1 (aCons (cBlt bLen (aCons (cVar 2) aNil)) aNil) cal ρ [] = .ok ⟨(List.range n).map fun i => .int (i : Nat), fun _ => True⟩ [] := rg1_nat (by
    rw [ap_acons, ap_blt, ap_acons, ap_var, h2]
    show R.ok [D.int ((js.length : Nat) : Int)] [] = _
    rw [hn]) (by omega)
  rw [ap_for, e, SR.of_ok]
theorem right_sp (T : Ats t iI iB iL iA iR iD iE iF i1 i2 i3) (hQ : t iQ = some (NSame, dSame)) (hX : t iX = some (NJv, dDiffs)) (hG : t iG = some (NJv, dSign)) (hS : t iS = some (NSelf, dShafts)) (hC : t iC = some (NCis, dCis iQ iS iR iL)) (h : t iW = some (NRight, dRight iC iQ iX iG i1 i2 i3)) (k : Nat) {s : Int} (h0 : 0 ≤ s) (hs : s ≤ 1000) {js : List D}
    (hj : ∀ j ∈ js, Job s j) (hl : js.length ≤ 1000) (tt : Bool) : callN t (k + 5) iW [boxD s js, .int s, .lst tt js] [] = .ok (.bl true) [] := by
  have hf := jobs_free hj
  have fb := fr_box (s := s) hf
  have ec := cis_sp hQ hS T.R T.L hC (k + 2) h0 (by omega : s < 10 ^ 11) hj hl tt
  have lf4 : lift [] (.ok (.bl true) []) = .ok (.bl true) [] := rfl
  have t0 : tTru (cPure iC 3 (aCons (cVar 0) (aCons (cVar 1) (aCons (cVar 2) aNil)))) (callN t (k + 4)) [some (boxD s js), some (.int s), some (.lst tt js), none, none, none] [] = .ok true [] := by
    simp only [ap_tru, ap_pure, ap_acons, ap_anil, ap_var, sl0, slS, R.opt_some, R.ok_bind, List.length_cons, List.length_nil, Nat.zero_add, Nat.reduceAdd, List.map_cons, List.map_nil, view_box, view_int', view_lst', fr_cons, fr_int, fr_lst, hf, fb, fr_nil, Bool.and_self, and_self, if_true, ec, lf4, view_bl', tru_bl]
  obtain ⟨ρ', M', hh, v3, v4, v5, rfl, rfl⟩ := forL_inv (cal := callN t (k + 4)) (t := gNm 3) (b := dRightB iQ iX iG i1 i2 i3) (chk := fun _ => True)
    (fun _ ρ M' => ∃ v3 v4 v5 : Option D, ρ = [some (boxD s js), some (.int s), some (.lst tt js), v3, v4, v5] ∧ M' = [])
    (ds := (List.range js.length).map fun i => .int (i : Nat)) (fun i ρ M' d hi hd => by
      obtain ⟨v3, v4, v5, rfl, rfl⟩ := hi
      rw [List.getElem?_map] at hd
      obtain ⟨r, hr, rfl⟩ := Option.map_eq_some_iff.mp hd
      obtain ⟨hr1, hr2⟩ := List.getElem?_eq_some_iff.mp hr
      rw [List.length_range] at hr1
      rw [List.getElem_range] at hr2
      subst hr2
      exact ⟨trivial, _, rfl, _, _, .inl (right_turn T hQ hX hG k hs hj hl (List.getElem?_eq_getElem hr1) tt v4 v5), _, _, _, rfl, rfl⟩) (fun _ _ _ => trivial)
    (ρ := [some (boxD s js), some (.int s), some (.lst tt js), none, none, none]) (M := []) ⟨_, _, _, rfl, rfl⟩
  rw [callN_of h]
  show finD 0 (dRight iC iQ iX iG i1 i2 i3 (callN t (k + 4)) [some (boxD s js), some (.int s), some (.lst tt js), none, none, none] []) = _
  unfold dRight
  rw [ap_seq, if_not t0, SR.seq_nx, ap_seq, right_fin rfl rfl hl, hh, SR.seq_nx, ap_ret, ap_c]
  rfl
def NEqB : List Str := ["self", "other"]
noncomputable def dEqB (iS iR : Nat) : SDen :=
  (sRet (cAnd (cIsC 0 (cVar 1)) (cAnd (cBin (cmpD .Eq) (cProp 0 iS (cVar 0)) (cProp 0 iS (cVar 1))) (cBin (cmpD .Eq) (cProp 0 iR (cVar 0)) (cProp 0 iR (cVar 1))))))
theorem eqB_sp (hS : t iS = some (NSelf, dShafts)) (hR : t iR = some (NSelf, dWorks)) (h : t iQ = some (NEqB, dEqB iS iR)) (k : Nat) {s : Int} {js ks : List D} (hj : ∀ j ∈ js, Job s j) (hk : ∀ j ∈ ks, Job s j) :
    ∃ b, callN t (k + 2) iQ [boxD s js, boxD s ks] [] = .ok (.bl b) [] ∧ (b = true ↔ js = ks) := by
  obtain ⟨b, e1, e2⟩ := eq_jobs hj hk
  refine ⟨b, ?_, e2⟩
  have a1 := ask_box (M := []) (jobs_free hj) (shafts_sp hS k s js) rfl
  have a2 := ask_box (M := []) (jobs_free hk) (shafts_sp hS k s ks) rfl
  have b1 := ask_box (M := []) (jobs_free hj) (works_sp hR k s (jobs_free hj)) (jobs_clean hj)
  have b2 := ask_box (M := []) (jobs_free hk) (works_sp hR k s (jobs_free hk)) (jobs_clean hk)
  rw [callN_of h]
  simp only [fnD, dEqB, startD, NEqB, List.map_cons, List.map_nil, List.cons_append, List.nil_append, List.length_cons, List.length_nil, Nat.zero_add, Nat.reduceAdd, Nat.reduceSub, List.replicate, ap_ret, ap_cand, ap_isC, ap_var, sl0, slS, R.opt_some, R.ok_bind, view_box, isC_box, Option.map_some, ap_bin, ap_prop, a1, a2, view_int', dEq_i, eq_self, decide_true, b1, b2, view_tup', e1, SR.of_ok]
  rfl
theorem ask_two {cal : Cal} {i : Nat} {M : Mem} {s : Int} {js ks : List D} {b : Bool} (hf : frees js = true) (hf2 : frees ks = true) (hc : cal i [boxD s js, boxD s ks] [] = .ok (.bl b) []) : askO2 0 i (boxD s js) (boxD s ks) M cal = .ok (.bl b) M := by
  show (if 0 = 0 ∧ 0 = 0 ∧ frees [.int s, .tup js] = true ∧ frees [.int s, .tup ks] = true then (lift M (cal i [boxD s js, boxD s ks] [])).noX else .bad) = _
  rw [if_pos ⟨rfl, rfl, by show (true && (frees js && true)) = true; rw [hf]; rfl, by show (true && (frees ks && true)) = true; rw [hf2]; rfl⟩, hc]
  rfl
end
end Vm

set_option maxHeartbeats 4000000
namespace K11
open PySem PySem.Spec L2 Vm
def top (i : Nat) : Stmt := PySem.Challenge.pw_planetlocks_k11_works_more_less_and_turn.main.body.getD i (.Pass ⟨0, 0, 0, 0⟩)
abbrev f0 : FnE := { name := "is_int", id := 0, ps := ["value"], pure := true, kws := [] }
abbrev f1 : FnE := { name := "check_shafts", id := 1, ps := ["shafts"], pure := true, kws := [] }
abbrev f2 : FnE := { name := "work_fits", id := 2, ps := ["shafts", "value"], pure := true, kws := [] }
abbrev f3 : FnE := { name := "check_box", id := 3, ps := ["box"], pure := true, kws := [] }
abbrev f4 : FnE := { name := "check_at", id := 4, ps := ["box", "at"], pure := true, kws := [] }
abbrev f5 : FnE := { name := "differences_of", id := 5, ps := ["work"], pure := true, kws := [] }
abbrev f6 : FnE := { name := "sense_of_work", id := 6, ps := ["work"], pure := true, kws := [] }
abbrev f7 : FnE := { name := "first_difference", id := 7, ps := ["box", "at"], pure := true, kws := [] }
abbrev f8 : FnE := { name := "second_difference", id := 8, ps := ["box", "at"], pure := true, kws := [] }
abbrev f9 : FnE := { name := "sense_at", id := 9, ps := ["box", "at"], pure := true, kws := [] }
abbrev f10 : FnE := { name := "with_work", id := 10, ps := ["box", "work"], pure := true, kws := [(0, ["work", "box"], [1, 0])] }
abbrev f11 : FnE := { name := "without_work", id := 11, ps := ["box", "at"], pure := true, kws := [(0, ["at", "box"], [1, 0])] }
abbrev f12 : FnE := { name := "turned", id := 12, ps := ["box", "at"], pure := true, kws := [(0, ["at", "box"], [1, 0])] }
abbrev f13 : FnE := { name := "_law_fill", id := 13, ps := ["cell"], pure := true, kws := [] }
abbrev f14 : FnE := { name := "_law_take", id := 14, ps := ["jar", "many"], pure := false, kws := [] }
abbrev f15 : FnE := { name := "_law_mixed", id := 15, ps := ["jar", "rows"], pure := false, kws := [] }
abbrev f16 : FnE := { name := "_law_same", id := 16, ps := ["found", "due"], pure := true, kws := [] }
abbrev f17 : FnE := { name := "_law_some_job", id := 17, ps := ["jar", "span"], pure := false, kws := [] }
abbrev f18 : FnE := { name := "_law_some_jobs", id := 18, ps := ["jar", "span", "many"], pure := false, kws := [] }
abbrev f19 : FnE := { name := "_law_both", id := 19, ps := ["job"], pure := true, kws := [] }
abbrev f20 : FnE := { name := "_law_sign", id := 20, ps := ["job"], pure := true, kws := [] }
abbrev f21 : FnE := { name := "_law_crate_is", id := 21, ps := ["crate", "span", "jobs"], pure := true, kws := [] }
abbrev f22 : FnE := { name := "_law_crate_of", id := 22, ps := ["span", "jobs"], pure := true, kws := [] }
abbrev f23 : FnE := { name := "_law_box_right", id := 23, ps := ["crate", "span", "jobs"], pure := true, kws := [] }
abbrev f24 : FnE := { name := "_law_exchanged", id := 24, ps := ["jobs", "spot"], pure := true, kws := [] }
abbrev f25 : FnE := { name := "_law_all_right", id := 25, ps := ["span", "held"], pure := true, kws := [] }
abbrev f26 : FnE := { name := "law", id := 26, ps := ["script"], pure := true, kws := [] }
def subs : List (Nat × Nat × Bool) := []
abbrev g27 : MtE := { nm := "__init__", id := 27, ps := ["self", "shafts", "works"] }
abbrev g28 : MtE := { nm := "shafts", id := 28, ps := ["self"] }
abbrev g29 : MtE := { nm := "works", id := 29, ps := ["self"] }
abbrev g30 : MtE := { nm := "__len__", id := 30, ps := ["self"] }
abbrev g31 : MtE := { nm := "__eq__", id := 31, ps := ["self", "other"] }
abbrev c0 : ClE := { name := "Box", id := 0, fld := ["many", "row"], ini := [g27], prp := [g28, g29], mth := [g30, g31] }
def T : Tab := { fns := [f0, f1, f2, f3, f4, f5, f6, f7, f8, f9, f10, f11, f12, f13, f14, f15, f16, f17, f18, f19, f20, f21, f22, f23, f24, f25, f26], blt := ["isinstance", "int", "bool", "tuple", "str", "len", "set", "list", "max", "range", "repr", "all"], ers := [("InvalidShafts", 1), ("InvalidBox", 2), ("InvalidIndex", 3), ("InvalidWork", 4)], sub := subs, cls := [c0], con := [("WORK_SIZES", [("planet", 4), ("double", 4), ("pair", 3), ("band", 3)])] }
theorem mc0 : c0 ∈ T.cls := List.mem_of_getElem? (i := 0) rfl
theorem m0 : f0 ∈ T.fns := List.mem_of_getElem? (i := 0) rfl
theorem m1 : f1 ∈ T.fns := List.mem_of_getElem? (i := 1) rfl
theorem m2 : f2 ∈ T.fns := List.mem_of_getElem? (i := 2) rfl
theorem m3 : f3 ∈ T.fns := List.mem_of_getElem? (i := 3) rfl
theorem m4 : f4 ∈ T.fns := List.mem_of_getElem? (i := 4) rfl
theorem m5 : f5 ∈ T.fns := List.mem_of_getElem? (i := 5) rfl
theorem m6 : f6 ∈ T.fns := List.mem_of_getElem? (i := 6) rfl
theorem m7 : f7 ∈ T.fns := List.mem_of_getElem? (i := 7) rfl
theorem m8 : f8 ∈ T.fns := List.mem_of_getElem? (i := 8) rfl
theorem m9 : f9 ∈ T.fns := List.mem_of_getElem? (i := 9) rfl
theorem m10 : f10 ∈ T.fns := List.mem_of_getElem? (i := 10) rfl
theorem m11 : f11 ∈ T.fns := List.mem_of_getElem? (i := 11) rfl
theorem m12 : f12 ∈ T.fns := List.mem_of_getElem? (i := 12) rfl
theorem m13 : f13 ∈ T.fns := List.mem_of_getElem? (i := 13) rfl
theorem m14 : f14 ∈ T.fns := List.mem_of_getElem? (i := 14) rfl
theorem m15 : f15 ∈ T.fns := List.mem_of_getElem? (i := 15) rfl
theorem m16 : f16 ∈ T.fns := List.mem_of_getElem? (i := 16) rfl
theorem m17 : f17 ∈ T.fns := List.mem_of_getElem? (i := 17) rfl
theorem m18 : f18 ∈ T.fns := List.mem_of_getElem? (i := 18) rfl
theorem m19 : f19 ∈ T.fns := List.mem_of_getElem? (i := 19) rfl
theorem m20 : f20 ∈ T.fns := List.mem_of_getElem? (i := 20) rfl
theorem m21 : f21 ∈ T.fns := List.mem_of_getElem? (i := 21) rfl
theorem m22 : f22 ∈ T.fns := List.mem_of_getElem? (i := 22) rfl
theorem m23 : f23 ∈ T.fns := List.mem_of_getElem? (i := 23) rfl
theorem m24 : f24 ∈ T.fns := List.mem_of_getElem? (i := 24) rfl
theorem m25 : f25 ∈ T.fns := List.mem_of_getElem? (i := 25) rfl
theorem m26 : f26 ∈ T.fns := List.mem_of_getElem? (i := 26) rfl
/-- is_int -/
def N0 : List Str := ["value"]
noncomputable def d0 : SDen :=
  (sRet (cAnd (cIs "int" (cVar 0)) (cNot (cIs "bool" (cVar 0)))))
theorem sc0 : FnScope N0 f0.ps (defScope (top 7)) := ⟨rfl, rfl, rfl, by decide +kernel, rfl, by decide +kernel, by decide +kernel⟩
theorem ok0 : SSs { T := T, N := N0, sc := defScope (top 7) } (defBody (top 7)) d0 :=
  (ss_one (ss_ret (se_and (b_is_int (by decide +kernel) (by decide +kernel) rfl (e_v 0 (by decide +kernel))) (se_one (se_not (b_is_bool (by decide +kernel) (by decide +kernel) rfl (e_v 0 (by decide +kernel))))))))
/-- check_shafts -/
def N1 : List Str := ["shafts"]
noncomputable def d1 : SDen :=
  (sIf (tOr (tNot (tTru (cPure 0 1 (aCons (cVar 0) aNil)))) (tCmp .Lt (cVar 0) (cC (.int 1)))) (sRaise 1) sNil)
theorem sc1 : FnScope N1 f1.ps (defScope (top 8)) := ⟨rfl, rfl, rfl, by decide +kernel, rfl, by decide +kernel, by decide +kernel⟩
theorem ok1 : SSs { T := T, N := N1, sc := defScope (top 8) } (defBody (top 8)) d1 :=
  (ss_one (ss_if (st_w (sw_or (st_not (st_plain (e_pure (ent := f0) m0 (by decide +kernel) rfl (sa_cons rfl (e_v 0 (by decide +kernel)) sa_nil)) rfl)) (sw_or1 (st_cmp (e_v 0 (by decide +kernel)) se_int rfl)))) (ss_one (s_raise (x := "InvalidShafts") (List.mem_of_getElem? (i := 0) rfl) (by decide +kernel))) ss_nil))
/-- work_fits -/
def N2 : List Str := ["shafts", "value", "low", "shaft"]
noncomputable def d2 : SDen :=
  (sSeq (sIf (tOr (tNot (tTru (cIs "tuple" (cVar 1)))) (tOr (tCmp .Eq (cVar 1) (cTup aNil)) (tNot (tTru (cIs "str" (cIx (cVar 1) (cC (.int 0)))))))) (sRet (cC (.bl false))) sNil) (sSeq (sIf (tCmp .NotEq (cBlt bLen (aCons (cVar 1) aNil)) (cKGet [("planet", 4), ("double", 4), ("pair", 3), ("band", 3)] (cIx (cVar 1) (cC (.int 0))) (cC (.int 0)))) (sRet (cC (.bl false))) sNil) (sSeq (sSet 2 (cC (.int 0))) (sSeq (sIf (tCmp .Eq (cBlt bLen (aCons (cVar 1) aNil)) (cC (.int 3))) (sSet 2 (cC (.int 1))) sNil) (sSeq (sFor (gNm 3) (iSeq (cSl false (cVar 1) (oSome (cC (.int 1))) oNone)) (sIf (tOr (tNot (tTru (cPure 0 1 (aCons (cVar 3) aNil)))) (tNot (tChn .LtE .LtE (cVar 2) (cVar 3) (cVar 0)))) (sRet (cC (.bl false))) sNil)) (sRet (cBin (cmpD .Eq) (cLenSet (cSl false (cVar 1) (oSome (cC (.int 1))) oNone)) (cBin subD (cBlt bLen (aCons (cVar 1) aNil)) (cC (.int 1))))))))))
theorem sc2 : FnScope N2 f2.ps (defScope (top 11)) := ⟨rfl, rfl, rfl, by decide +kernel, rfl, by decide +kernel, by decide +kernel⟩
theorem ok2 : SSs { T := T, N := N2, sc := defScope (top 11) } (defBody (top 11)) d2 :=
  (ss_cons (ss_if (st_w (sw_or (st_not (st_plain (b_is_tuple (by decide +kernel) (by decide +kernel) rfl (e_v 1 (by decide +kernel))) rfl)) (sw_or (st_cmp (e_v 1 (by decide +kernel)) (se_tup sa_nil) rfl) (sw_or1 (st_not (st_plain (b_is_str (by decide +kernel) (by decide +kernel) rfl (se_ix rfl (e_v 1 (by decide +kernel)) se_int)) rfl)))))) (ss_one (ss_ret se_bl)) ss_nil) (ss_cons (ss_if (st_cmp (b_len (by decide +kernel) rfl (sa_cons rfl (e_v 1 (by decide +kernel)) sa_nil)) (e_kget (x := "WORK_SIZES") (List.mem_of_getElem? (i := 0) rfl) (by decide +kernel) rfl rfl rfl (se_ix rfl (e_v 1 (by decide +kernel)) se_int) se_int) rfl) (ss_one (ss_ret se_bl)) ss_nil) (ss_cons (s_set 2 (by decide +kernel) rfl se_int) (ss_cons (ss_if (st_cmp (b_len (by decide +kernel) rfl (sa_cons rfl (e_v 1 (by decide +kernel)) sa_nil)) se_int rfl) (ss_one (s_set 2 (by decide +kernel) rfl se_int)) ss_nil) (ss_cons (ss_for rfl (si_seq (se_slice (e_v 1 (by decide +kernel)) (so_some se_int) so_none)) (g_nm 3 (by decide +kernel)) (ss_one (ss_if (st_w (sw_or (st_not (st_plain (e_pure (ent := f0) m0 (by decide +kernel) rfl (sa_cons rfl (e_v 3 (by decide +kernel)) sa_nil)) rfl)) (sw_or1 (st_not (st_chain (e_v 2 (by decide +kernel)) (e_v 3 (by decide +kernel)) (e_v 0 (by decide +kernel)) rfl))))) (ss_one (ss_ret se_bl)) ss_nil))) (ss_one (ss_ret (se_cmp (e_lenSet (by decide +kernel) (by decide +kernel) rfl (se_slice (e_v 1 (by decide +kernel)) (so_some se_int) so_none)) (se_bin ops_sub (b_len (by decide +kernel) rfl (sa_cons rfl (e_v 1 (by decide +kernel)) sa_nil)) se_int) rfl))))))))
/-- check_box -/
def N3 : List Str := ["box"]
noncomputable def d3 : SDen :=
  (sIf (tNot (tTru (cIsC 0 (cVar 0)))) (sRaise 2) sNil)
theorem sc3 : FnScope N3 f3.ps (defScope (top 14)) := ⟨rfl, rfl, rfl, by decide +kernel, rfl, by decide +kernel, by decide +kernel⟩
theorem ok3 : SSs { T := T, N := N3, sc := defScope (top 14) } (defBody (top 14)) d3 :=
  (ss_one (ss_if (st_not (st_plain (e_isC (ce := c0) mc0 (by decide +kernel) (by decide +kernel) rfl (e_v 0 (by decide +kernel))) rfl)) (ss_one (s_raise (x := "InvalidBox") (List.mem_of_getElem? (i := 1) rfl) (by decide +kernel))) ss_nil))
/-- check_at -/
def N4 : List Str := ["box", "at"]
noncomputable def d4 : SDen :=
  (sIf (tOr (tNot (tTru (cPure 0 1 (aCons (cVar 1) aNil)))) (tNot (tChn .LtE .Lt (cC (.int 0)) (cVar 1) (cLenO 0 30 (cVar 0))))) (sRaise 3) sNil)
theorem sc4 : FnScope N4 f4.ps (defScope (top 15)) := ⟨rfl, rfl, rfl, by decide +kernel, rfl, by decide +kernel, by decide +kernel⟩
theorem ok4 : SSs { T := T, N := N4, sc := defScope (top 15) } (defBody (top 15)) d4 :=
  (ss_one (ss_if (st_w (sw_or (st_not (st_plain (e_pure (ent := f0) m0 (by decide +kernel) rfl (sa_cons rfl (e_v 1 (by decide +kernel)) sa_nil)) rfl)) (sw_or1 (st_not (st_chain se_int (e_v 1 (by decide +kernel)) (e_lenO (ce := c0) (me := g30) mc0 (List.mem_of_getElem? (i := 0) rfl) rfl rfl (by decide +kernel) rfl (e_v 0 (by decide +kernel))) rfl))))) (ss_one (s_raise (x := "InvalidIndex") (List.mem_of_getElem? (i := 2) rfl) (by decide +kernel))) ss_nil))
/-- differences_of -/
def N5 : List Str := ["work"]
noncomputable def d5 : SDen :=
  (sSeq (sIf (tCmp .Eq (cBlt bLen (aCons (cVar 0) aNil)) (cC (.int 4))) (sRet (cTup (aCons (cTup (aCons (cIx (cVar 0) (cC (.int 1))) (aCons (cIx (cVar 0) (cC (.int 2))) aNil))) (aCons (cTup (aCons (cIx (cVar 0) (cC (.int 3))) (aCons (cIx (cVar 0) (cC (.int 2))) aNil))) aNil)))) sNil) (sRet (cTup (aCons (cTup (aCons (cIx (cVar 0) (cC (.int 1))) (aCons (cC (.int 0)) aNil))) (aCons (cTup (aCons (cIx (cVar 0) (cC (.int 2))) (aCons (cC (.int 0)) aNil))) aNil)))))
theorem sc5 : FnScope N5 f5.ps (defScope (top 16)) := ⟨rfl, rfl, rfl, by decide +kernel, rfl, by decide +kernel, by decide +kernel⟩
theorem ok5 : SSs { T := T, N := N5, sc := defScope (top 16) } (defBody (top 16)) d5 :=
  (ss_cons (ss_if (st_cmp (b_len (by decide +kernel) rfl (sa_cons rfl (e_v 0 (by decide +kernel)) sa_nil)) se_int rfl) (ss_one (ss_ret (se_tup (sa_cons rfl (se_tup (sa_cons rfl (se_ix rfl (e_v 0 (by decide +kernel)) se_int) (sa_cons rfl (se_ix rfl (e_v 0 (by decide +kernel)) se_int) sa_nil))) (sa_cons rfl (se_tup (sa_cons rfl (se_ix rfl (e_v 0 (by decide +kernel)) se_int) (sa_cons rfl (se_ix rfl (e_v 0 (by decide +kernel)) se_int) sa_nil))) sa_nil))))) ss_nil) (ss_one (ss_ret (se_tup (sa_cons rfl (se_tup (sa_cons rfl (se_ix rfl (e_v 0 (by decide +kernel)) se_int) (sa_cons rfl se_int sa_nil))) (sa_cons rfl (se_tup (sa_cons rfl (se_ix rfl (e_v 0 (by decide +kernel)) se_int) (sa_cons rfl se_int sa_nil))) sa_nil))))))
/-- sense_of_work -/
def N6 : List Str := ["work"]
noncomputable def d6 : SDen :=
  (sSeq (sIf (tCmp .In (cIx (cVar 0) (cC (.int 0))) (cTup (aCons (cC (.str "planet")) (aCons (cC (.str "pair")) aNil)))) (sRet (cC (.int 1))) sNil) (sRet (cNeg (cC (.int 1)))))
theorem sc6 : FnScope N6 f6.ps (defScope (top 17)) := ⟨rfl, rfl, rfl, by decide +kernel, rfl, by decide +kernel, by decide +kernel⟩
theorem ok6 : SSs { T := T, N := N6, sc := defScope (top 17) } (defBody (top 17)) d6 :=
  (ss_cons (ss_if (st_cmp (se_ix rfl (e_v 0 (by decide +kernel)) se_int) (se_tup (sa_cons rfl se_str (sa_cons rfl se_str sa_nil))) rfl) (ss_one (ss_ret se_int)) ss_nil) (ss_one (ss_ret (se_neg se_int))))
/-- first_difference -/
def N7 : List Str := ["box", "at"]
noncomputable def d7 : SDen :=
  (sSeq (sExpr (cPure 3 1 (aCons (cVar 0) aNil))) (sSeq (sExpr (cPure 4 2 (aCons (cVar 0) (aCons (cVar 1) aNil)))) (sRet (cIx (cPure 5 1 (aCons (cIx (cProp 0 29 (cVar 0)) (cVar 1)) aNil)) (cC (.int 0))))))
theorem sc7 : FnScope N7 f7.ps (defScope (top 18)) := ⟨rfl, rfl, rfl, by decide +kernel, rfl, by decide +kernel, by decide +kernel⟩
theorem ok7 : SSs { T := T, N := N7, sc := defScope (top 18) } (defBody (top 18)) d7 :=
  (ss_cons (ss_expr rfl (e_pure (ent := f3) m3 (by decide +kernel) rfl (sa_cons rfl (e_v 0 (by decide +kernel)) sa_nil))) (ss_cons (ss_expr rfl (e_pure (ent := f4) m4 (by decide +kernel) rfl (sa_cons rfl (e_v 0 (by decide +kernel)) (sa_cons rfl (e_v 1 (by decide +kernel)) sa_nil)))) (ss_one (ss_ret (se_ix rfl (e_pure (ent := f5) m5 (by decide +kernel) rfl (sa_cons rfl (se_ix rfl (e_prop (ce := c0) (me := g29) mc0 (List.mem_of_getElem? (i := 1) rfl) rfl rfl (e_v 0 (by decide +kernel))) (e_v 1 (by decide +kernel))) sa_nil)) se_int)))))
/-- second_difference -/
def N8 : List Str := ["box", "at"]
noncomputable def d8 : SDen :=
  (sSeq (sExpr (cPure 3 1 (aCons (cVar 0) aNil))) (sSeq (sExpr (cPure 4 2 (aCons (cVar 0) (aCons (cVar 1) aNil)))) (sRet (cIx (cPure 5 1 (aCons (cIx (cProp 0 29 (cVar 0)) (cVar 1)) aNil)) (cC (.int 1))))))
theorem sc8 : FnScope N8 f8.ps (defScope (top 19)) := ⟨rfl, rfl, rfl, by decide +kernel, rfl, by decide +kernel, by decide +kernel⟩
theorem ok8 : SSs { T := T, N := N8, sc := defScope (top 19) } (defBody (top 19)) d8 :=
  (ss_cons (ss_expr rfl (e_pure (ent := f3) m3 (by decide +kernel) rfl (sa_cons rfl (e_v 0 (by decide +kernel)) sa_nil))) (ss_cons (ss_expr rfl (e_pure (ent := f4) m4 (by decide +kernel) rfl (sa_cons rfl (e_v 0 (by decide +kernel)) (sa_cons rfl (e_v 1 (by decide +kernel)) sa_nil)))) (ss_one (ss_ret (se_ix rfl (e_pure (ent := f5) m5 (by decide +kernel) rfl (sa_cons rfl (se_ix rfl (e_prop (ce := c0) (me := g29) mc0 (List.mem_of_getElem? (i := 1) rfl) rfl rfl (e_v 0 (by decide +kernel))) (e_v 1 (by decide +kernel))) sa_nil)) se_int)))))
/-- sense_at -/
def N9 : List Str := ["box", "at"]
noncomputable def d9 : SDen :=
  (sSeq (sExpr (cPure 3 1 (aCons (cVar 0) aNil))) (sSeq (sExpr (cPure 4 2 (aCons (cVar 0) (aCons (cVar 1) aNil)))) (sRet (cPure 6 1 (aCons (cIx (cProp 0 29 (cVar 0)) (cVar 1)) aNil)))))
theorem sc9 : FnScope N9 f9.ps (defScope (top 20)) := ⟨rfl, rfl, rfl, by decide +kernel, rfl, by decide +kernel, by decide +kernel⟩
theorem ok9 : SSs { T := T, N := N9, sc := defScope (top 20) } (defBody (top 20)) d9 :=
  (ss_cons (ss_expr rfl (e_pure (ent := f3) m3 (by decide +kernel) rfl (sa_cons rfl (e_v 0 (by decide +kernel)) sa_nil))) (ss_cons (ss_expr rfl (e_pure (ent := f4) m4 (by decide +kernel) rfl (sa_cons rfl (e_v 0 (by decide +kernel)) (sa_cons rfl (e_v 1 (by decide +kernel)) sa_nil)))) (ss_one (ss_ret (e_pure (ent := f6) m6 (by decide +kernel) rfl (sa_cons rfl (se_ix rfl (e_prop (ce := c0) (me := g29) mc0 (List.mem_of_getElem? (i := 1) rfl) rfl rfl (e_v 0 (by decide +kernel))) (e_v 1 (by decide +kernel))) sa_nil))))))
/-- with_work -/
def N10 : List Str := ["box", "work"]
noncomputable def d10 : SDen :=
  (sSeq (sExpr (cPure 3 1 (aCons (cVar 0) aNil))) (sSeq (sIf (tNot (tTru (cPure 2 2 (aCons (cProp 0 28 (cVar 0)) (aCons (cVar 1) aNil))))) (sRaise 4) sNil) (sRet (cNew 0 27 3 (aCons (cProp 0 28 (cVar 0)) (aCons (cBin addD (cBlt (bList false) (aCons (cProp 0 29 (cVar 0)) aNil)) (cLst false (aCons (cVar 1) aNil))) aNil))))))
theorem sc10 : FnScope N10 f10.ps (defScope (top 21)) := ⟨rfl, rfl, rfl, by decide +kernel, rfl, by decide +kernel, by decide +kernel⟩
theorem ok10 : SSs { T := T, N := N10, sc := defScope (top 21) } (defBody (top 21)) d10 :=
  (ss_cons (ss_expr rfl (e_pure (ent := f3) m3 (by decide +kernel) rfl (sa_cons rfl (e_v 0 (by decide +kernel)) sa_nil))) (ss_cons (ss_if (st_not (st_plain (e_pure (ent := f2) m2 (by decide +kernel) rfl (sa_cons rfl (e_prop (ce := c0) (me := g28) mc0 (List.mem_of_getElem? (i := 0) rfl) rfl rfl (e_v 0 (by decide +kernel))) (sa_cons rfl (e_v 1 (by decide +kernel)) sa_nil))) rfl)) (ss_one (s_raise (x := "InvalidWork") (List.mem_of_getElem? (i := 3) rfl) (by decide +kernel))) ss_nil) (ss_one (ss_ret (e_new (ce := c0) (me := g27) mc0 (List.mem_of_getElem? (i := 0) rfl) (by decide +kernel) rfl (sa_cons rfl (e_prop (ce := c0) (me := g28) mc0 (List.mem_of_getElem? (i := 0) rfl) rfl rfl (e_v 0 (by decide +kernel))) (sa_cons rfl (se_bin ops_add (b_list (by decide +kernel) rfl (sa_cons rfl (e_prop (ce := c0) (me := g29) mc0 (List.mem_of_getElem? (i := 1) rfl) rfl rfl (e_v 0 (by decide +kernel))) sa_nil)) (se_lst (sa_cons rfl (e_v 1 (by decide +kernel)) sa_nil))) sa_nil)))))))
/-- without_work -/
def N11 : List Str := ["box", "at"]
noncomputable def d11 : SDen :=
  (sSeq (sExpr (cPure 3 1 (aCons (cVar 0) aNil))) (sSeq (sExpr (cPure 4 2 (aCons (cVar 0) (aCons (cVar 1) aNil)))) (sRet (cNew 0 27 3 (aCons (cProp 0 28 (cVar 0)) (aCons (cBin addD (cBlt (bList false) (aCons (cSl false (cProp 0 29 (cVar 0)) oNone (oSome (cVar 1))) aNil)) (cBlt (bList false) (aCons (cSl false (cProp 0 29 (cVar 0)) (oSome (cBin addD (cVar 1) (cC (.int 1)))) oNone) aNil))) aNil))))))
theorem sc11 : FnScope N11 f11.ps (defScope (top 22)) := ⟨rfl, rfl, rfl, by decide +kernel, rfl, by decide +kernel, by decide +kernel⟩
theorem ok11 : SSs { T := T, N := N11, sc := defScope (top 22) } (defBody (top 22)) d11 :=
  (ss_cons (ss_expr rfl (e_pure (ent := f3) m3 (by decide +kernel) rfl (sa_cons rfl (e_v 0 (by decide +kernel)) sa_nil))) (ss_cons (ss_expr rfl (e_pure (ent := f4) m4 (by decide +kernel) rfl (sa_cons rfl (e_v 0 (by decide +kernel)) (sa_cons rfl (e_v 1 (by decide +kernel)) sa_nil)))) (ss_one (ss_ret (e_new (ce := c0) (me := g27) mc0 (List.mem_of_getElem? (i := 0) rfl) (by decide +kernel) rfl (sa_cons rfl (e_prop (ce := c0) (me := g28) mc0 (List.mem_of_getElem? (i := 0) rfl) rfl rfl (e_v 0 (by decide +kernel))) (sa_cons rfl (se_bin ops_add (b_list (by decide +kernel) rfl (sa_cons rfl (se_slice (e_prop (ce := c0) (me := g29) mc0 (List.mem_of_getElem? (i := 1) rfl) rfl rfl (e_v 0 (by decide +kernel))) so_none (so_some (e_v 1 (by decide +kernel)))) sa_nil)) (b_list (by decide +kernel) rfl (sa_cons rfl (se_slice (e_prop (ce := c0) (me := g29) mc0 (List.mem_of_getElem? (i := 1) rfl) rfl rfl (e_v 0 (by decide +kernel))) (so_some (se_bin ops_add (e_v 1 (by decide +kernel)) se_int)) so_none) sa_nil))) sa_nil)))))))
/-- turned -/
def N12 : List Str := ["box", "at", "works", "work"]
noncomputable def d12 : SDen :=
  (sSeq (sExpr (cPure 3 1 (aCons (cVar 0) aNil))) (sSeq (sExpr (cPure 4 2 (aCons (cVar 0) (aCons (cVar 1) aNil)))) (sSeq (sSet 2 (cBlt (bList true) (aCons (cProp 0 29 (cVar 0)) aNil))) (sSeq (sSet 3 (cIx (cVar 2) (cVar 1))) (sSeq (sSetIx (cVar 2) (cVar 1) (cBin addD (cBin addD (cTup (aCons (cIx (cVar 3) (cC (.int 0))) (aCons (cIx (cVar 3) (cNeg (cC (.int 1)))) aNil))) (cSl false (cVar 3) (oSome (cC (.int 2))) (oSome (cNeg (cC (.int 1)))))) (cTup (aCons (cIx (cVar 3) (cC (.int 1))) aNil)))) (sRet (cNew 0 27 3 (aCons (cProp 0 28 (cVar 0)) (aCons (cVar 2) aNil)))))))))
theorem sc12 : FnScope N12 f12.ps (defScope (top 23)) := ⟨rfl, rfl, rfl, by decide +kernel, rfl, by decide +kernel, by decide +kernel⟩
theorem ok12 : SSs { T := T, N := N12, sc := defScope (top 23) } (defBody (top 23)) d12 :=
  (ss_cons (ss_expr rfl (e_pure (ent := f3) m3 (by decide +kernel) rfl (sa_cons rfl (e_v 0 (by decide +kernel)) sa_nil))) (ss_cons (ss_expr rfl (e_pure (ent := f4) m4 (by decide +kernel) rfl (sa_cons rfl (e_v 0 (by decide +kernel)) (sa_cons rfl (e_v 1 (by decide +kernel)) sa_nil)))) (ss_cons (s_set 2 (by decide +kernel) rfl (b_list (by decide +kernel) rfl (sa_cons rfl (e_prop (ce := c0) (me := g29) mc0 (List.mem_of_getElem? (i := 1) rfl) rfl rfl (e_v 0 (by decide +kernel))) sa_nil))) (ss_cons (s_set 3 (by decide +kernel) rfl (se_ix rfl (e_v 2 (by decide +kernel)) (e_v 1 (by decide +kernel)))) (ss_cons (ss_setix rfl rfl rfl (e_v 2 (by decide +kernel)) (e_v 1 (by decide +kernel)) (se_bin ops_add (se_bin ops_add (se_tup (sa_cons rfl (se_ix rfl (e_v 3 (by decide +kernel)) se_int) (sa_cons rfl (se_ix rfl (e_v 3 (by decide +kernel)) (se_neg se_int)) sa_nil))) (se_slice (e_v 3 (by decide +kernel)) (so_some se_int) (so_some (se_neg se_int)))) (se_tup (sa_cons rfl (se_ix rfl (e_v 3 (by decide +kernel)) se_int) sa_nil)))) (ss_one (ss_ret (e_new (ce := c0) (me := g27) mc0 (List.mem_of_getElem? (i := 0) rfl) (by decide +kernel) rfl (sa_cons rfl (e_prop (ce := c0) (me := g28) mc0 (List.mem_of_getElem? (i := 0) rfl) rfl rfl (e_v 0 (by decide +kernel))) (sa_cons rfl (e_v 2 (by decide +kernel)) sa_nil))))))))))
/-- _law_fill -/
def N13 : List Str := ["cell"]
noncomputable def d13 : SDen :=
  (sRet (cLst true (aCons (cBlt bMax (aCons (cC (.int 0)) (aCons (cBin subD (cVar 0) (cBin powD (cC (.int 10)) (cC (.int 18)))) aNil))) (aCons (cC (.int 0)) (aCons (cBin modD (cBlt bInt (aCons (cVar 0) aNil)) (cC (.int 1999999973))) aNil)))))
theorem sc13 : FnScope N13 f13.ps (defScope (top 25)) := ⟨rfl, rfl, rfl, by decide +kernel, rfl, by decide +kernel, by decide +kernel⟩
theorem ok13 : SSs { T := T, N := N13, sc := defScope (top 25) } (defBody (top 25)) d13 :=
  (ss_one (ss_ret (se_lst (sa_cons rfl (b_max (by decide +kernel) rfl (sa_cons rfl se_int (sa_cons rfl (se_bin ops_sub (e_v 0 (by decide +kernel)) (se_bin ops_pow se_int se_int)) sa_nil))) (sa_cons rfl se_int (sa_cons rfl (se_bin ops_mod (b_int (by decide +kernel) rfl (sa_cons rfl (e_v 0 (by decide +kernel)) sa_nil)) se_int) sa_nil))))))
/-- _law_take -/
def N14 : List Str := ["jar", "many", "heap", "turn", "rest", "grain"]
noncomputable def d14 : SDen :=
  (sSeq (sIf (tCmp .Gt (cIx (cVar 0) (cC (.int 0))) (cC (.int 1))) (sSeq (sSet 4 (cIx (cVar 0) (cC (.int 0)))) (sSeq (sSetIx (cVar 0) (cC (.int 0)) (cBin divD (cVar 4) (cVar 1))) (sRet (cBin modD (cBlt bInt (aCons (cVar 4) aNil)) (cVar 1))))) sNil) (sSeq (sSetIx (cVar 0) (cC (.int 1)) (cBin addD (cIx (cVar 0) (cC (.int 1))) (cC (.int 1)))) (sSeq (sSet 2 (cC (.int 0))) (sSeq (sFor (gNm 3) (iRg1 (aCons (cBin addD (cC (.int 1)) (cBin divD (cBlt bLen (aCons (cBlt bStr (aCons (cVar 1) aNil)) aNil)) (cC (.int 8)))) aNil)) (sSeq (sSet 5 (cBin modD (cBlt bInt (aCons (cBin mulD (cBin addD (cBin addD (cIx (cVar 0) (cC (.int 2))) (cBin mulD (cC (.int 11)) (cVar 3))) (cC (.int 5))) (cBin addD (cBin addD (cIx (cVar 0) (cC (.int 1))) (cBin mulD (cC (.int 70001)) (cIx (cVar 0) (cC (.int 2))))) (cC (.int 3)))) aNil)) (cC (.int 2147483629)))) (sSeq (sSet 5 (cBin modD (cBlt bInt (aCons (cBin addD (cBin addD (cBin mulD (cVar 5) (cVar 5)) (cBin mulD (cC (.int 90001)) (cIx (cVar 0) (cC (.int 1))))) (cVar 3)) aNil)) (cC (.int 2147483587)))) (sSeq (sSet 5 (cBin modD (cBlt bInt (aCons (cBin mulD (cVar 5) (cVar 5)) aNil)) (cC (.int 2147483563)))) (sSet 2 (cBin addD (cBin mulD (cVar 2) (cC (.int 99999989))) (cBin divD (cVar 5) (cC (.int 16))))))))) (sRet (cBin modD (cBlt bInt (aCons (cVar 2) aNil)) (cVar 1)))))))
theorem sc14 : FnScope N14 f14.ps (defScope (top 26)) := ⟨rfl, rfl, rfl, by decide +kernel, rfl, by decide +kernel, by decide +kernel⟩
theorem ok14 : SSs { T := T, N := N14, sc := defScope (top 26) } (defBody (top 26)) d14 :=
  (ss_cons (ss_if (st_cmp (se_ix rfl (e_v 0 (by decide +kernel)) se_int) se_int rfl) (ss_cons (s_set 4 (by decide +kernel) rfl (se_ix rfl (e_v 0 (by decide +kernel)) se_int)) (ss_cons (ss_setix rfl rfl rfl (e_v 0 (by decide +kernel)) se_int (se_bin ops_div (e_v 4 (by decide +kernel)) (e_v 1 (by decide +kernel)))) (ss_one (ss_ret (se_bin ops_mod (b_int (by decide +kernel) rfl (sa_cons rfl (e_v 4 (by decide +kernel)) sa_nil)) (e_v 1 (by decide +kernel))))))) ss_nil) (ss_cons (ss_setix rfl rfl rfl (e_v 0 (by decide +kernel)) se_int (se_bin ops_add (se_ix rfl (e_v 0 (by decide +kernel)) se_int) se_int)) (ss_cons (s_set 2 (by decide +kernel) rfl se_int) (ss_cons (ss_for rfl (i_rg1 (by decide +kernel) rfl (sa_cons rfl (se_bin ops_add se_int (se_bin ops_div (b_len (by decide +kernel) rfl (sa_cons rfl (b_str (by decide +kernel) rfl (sa_cons rfl (e_v 1 (by decide +kernel)) sa_nil)) sa_nil)) se_int)) sa_nil)) (g_nm 3 (by decide +kernel)) (ss_cons (s_set 5 (by decide +kernel) rfl (se_bin ops_mod (b_int (by decide +kernel) rfl (sa_cons rfl (se_bin ops_mul (se_bin ops_add (se_bin ops_add (se_ix rfl (e_v 0 (by decide +kernel)) se_int) (se_bin ops_mul se_int (e_v 3 (by decide +kernel)))) se_int) (se_bin ops_add (se_bin ops_add (se_ix rfl (e_v 0 (by decide +kernel)) se_int) (se_bin ops_mul se_int (se_ix rfl (e_v 0 (by decide +kernel)) se_int))) se_int)) sa_nil)) se_int)) (ss_cons (s_set 5 (by decide +kernel) rfl (se_bin ops_mod (b_int (by decide +kernel) rfl (sa_cons rfl (se_bin ops_add (se_bin ops_add (se_bin ops_mul (e_v 5 (by decide +kernel)) (e_v 5 (by decide +kernel))) (se_bin ops_mul se_int (se_ix rfl (e_v 0 (by decide +kernel)) se_int))) (e_v 3 (by decide +kernel))) sa_nil)) se_int)) (ss_cons (s_set 5 (by decide +kernel) rfl (se_bin ops_mod (b_int (by decide +kernel) rfl (sa_cons rfl (se_bin ops_mul (e_v 5 (by decide +kernel)) (e_v 5 (by decide +kernel))) sa_nil)) se_int)) (ss_one (s_set 2 (by decide +kernel) rfl (se_bin ops_add (se_bin ops_mul (e_v 2 (by decide +kernel)) se_int) (se_bin ops_div (e_v 5 (by decide +kernel)) se_int)))))))) (ss_one (ss_ret (se_bin ops_mod (b_int (by decide +kernel) rfl (sa_cons rfl (e_v 2 (by decide +kernel)) sa_nil)) (e_v 1 (by decide +kernel)))))))))
/-- _law_mixed -/
def N15 : List Str := ["jar", "rows", "left", "made", "spot"]
noncomputable def d15 : SDen :=
  (sSeq (sSet 2 (cBlt (bList false) (aCons (cVar 1) aNil))) (sSeq (sSet 3 (cLst true aNil)) (sSeq (whileL (tCmp .NotEq (cVar 2) (cLst false aNil)) (sSeq (sSet 4 (cCall 14 2 (aCons (cVar 0) (aCons (cBlt bLen (aCons (cVar 2) aNil)) aNil)))) (sSeq (sExpr (cMt mAppend (cVar 3) (aCons (cIx (cVar 2) (cVar 4)) aNil))) (sSet 2 (cBin addD (cSl false (cVar 2) oNone (oSome (cVar 4))) (cSl false (cVar 2) (oSome (cBin addD (cVar 4) (cC (.int 1)))) oNone))))) 100000) (sRet (cVar 3)))))
theorem sc15 : FnScope N15 f15.ps (defScope (top 27)) := ⟨rfl, rfl, rfl, by decide +kernel, rfl, by decide +kernel, by decide +kernel⟩
theorem ok15 : SSs { T := T, N := N15, sc := defScope (top 27) } (defBody (top 27)) d15 :=
  (ss_cons (s_set 2 (by decide +kernel) rfl (b_list (by decide +kernel) rfl (sa_cons rfl (e_v 1 (by decide +kernel)) sa_nil))) (ss_cons (s_set 3 (by decide +kernel) rfl (se_lst sa_nil)) (ss_cons (ss_while 100000 (st_cmp (e_v 2 (by decide +kernel)) (se_lst sa_nil) rfl) (ss_cons (s_set 4 (by decide +kernel) rfl (e_call (ent := f14) m14 (by decide +kernel) rfl (sa_cons rfl (e_v 0 (by decide +kernel)) (sa_cons rfl (b_len (by decide +kernel) rfl (sa_cons rfl (e_v 2 (by decide +kernel)) sa_nil)) sa_nil)))) (ss_cons (ss_expr rfl (m_append rfl rfl rfl rfl (e_v 3 (by decide +kernel)) (sa_cons rfl (se_ix rfl (e_v 2 (by decide +kernel)) (e_v 4 (by decide +kernel))) sa_nil))) (ss_one (s_set 2 (by decide +kernel) rfl (se_bin ops_add (se_slice (e_v 2 (by decide +kernel)) so_none (so_some (e_v 4 (by decide +kernel)))) (se_slice (e_v 2 (by decide +kernel)) (so_some (se_bin ops_add (e_v 4 (by decide +kernel)) se_int)) so_none))))))) (ss_one (ss_ret (e_v 3 (by decide +kernel)))))))
/-- _law_same -/
def N16 : List Str := ["found", "due"]
noncomputable def d16 : SDen :=
  (sRet (cBin (cmpD .Eq) (cBlt bRepr (aCons (cVar 0) aNil)) (cBlt bRepr (aCons (cVar 1) aNil))))
theorem sc16 : FnScope N16 f16.ps (defScope (top 28)) := ⟨rfl, rfl, rfl, by decide +kernel, rfl, by decide +kernel, by decide +kernel⟩
theorem ok16 : SSs { T := T, N := N16, sc := defScope (top 28) } (defBody (top 28)) d16 :=
  (ss_one (ss_ret (se_cmp (b_repr (by decide +kernel) rfl (sa_cons rfl (e_v 0 (by decide +kernel)) sa_nil)) (b_repr (by decide +kernel) rfl (sa_cons rfl (e_v 1 (by decide +kernel)) sa_nil)) rfl)))
/-- _law_some_job -/
def N17 : List Str := ["jar", "span", "word", "pool", "many"]
noncomputable def d17 : SDen :=
  (sSeq (sSet 2 (cIx (cLst false (aCons (cC (.str "planet")) (aCons (cC (.str "double")) (aCons (cC (.str "pair")) (aCons (cC (.str "band")) aNil))))) (cCall 14 2 (aCons (cVar 0) (aCons (cC (.int 4)) aNil))))) (sSeq (sSet 3 (cLsRg2 false (cC (.int 1)) (cBin addD (cVar 1) (cC (.int 1))))) (sSeq (sSet 4 (cC (.int 2))) (sSeq (sIf (tOr (tCmp .Eq (cVar 2) (cC (.str "planet"))) (tCmp .Eq (cVar 2) (cC (.str "double")))) (sSeq (sSet 3 (cLsRg1 false (cBin addD (cVar 1) (cC (.int 1))))) (sSet 4 (cC (.int 3)))) sNil) (sRet (cBlt bTuple (aCons (cBin addD (cLst false (aCons (cVar 2) aNil)) (cSl false (cFrz (cCall 15 2 (aCons (cVar 0) (aCons (cVar 3) aNil)))) oNone (oSome (cVar 4)))) aNil)))))))
theorem sc17 : FnScope N17 f17.ps (defScope (top 29)) := ⟨rfl, rfl, rfl, by decide +kernel, rfl, by decide +kernel, by decide +kernel⟩
theorem ok17 : SSs { T := T, N := N17, sc := defScope (top 29) } (defBody (top 29)) d17 :=
  (ss_cons (s_set 2 (by decide +kernel) rfl (se_ix rfl (se_lst (sa_cons rfl se_str (sa_cons rfl se_str (sa_cons rfl se_str (sa_cons rfl se_str sa_nil))))) (e_call (ent := f14) m14 (by decide +kernel) rfl (sa_cons rfl (e_v 0 (by decide +kernel)) (sa_cons rfl se_int sa_nil))))) (ss_cons (s_set 3 (by decide +kernel) rfl (b_lsrg2 (by decide +kernel) (by decide +kernel) rfl rfl se_int (se_bin ops_add (e_v 1 (by decide +kernel)) se_int))) (ss_cons (s_set 4 (by decide +kernel) rfl se_int) (ss_cons (ss_if (st_w (sw_or (st_cmp (e_v 2 (by decide +kernel)) se_str rfl) (sw_or1 (st_cmp (e_v 2 (by decide +kernel)) se_str rfl)))) (ss_cons (s_set 3 (by decide +kernel) rfl (b_lsrg1 (by decide +kernel) (by decide +kernel) rfl (se_bin ops_add (e_v 1 (by decide +kernel)) se_int))) (ss_one (s_set 4 (by decide +kernel) rfl se_int))) ss_nil) (ss_one (ss_ret (b_tuple (by decide +kernel) rfl (sa_cons rfl (se_bin ops_add (se_lst (sa_cons rfl (e_v 2 (by decide +kernel)) sa_nil)) (se_slice (se_frz (e_call (ent := f15) m15 (by decide +kernel) rfl (sa_cons rfl (e_v 0 (by decide +kernel)) (sa_cons rfl (e_v 3 (by decide +kernel)) sa_nil)))) so_none (so_some (e_v 4 (by decide +kernel))))) sa_nil))))))))
/-- _law_some_jobs -/
def N18 : List Str := ["jar", "span", "many", "made", "turn"]
noncomputable def d18 : SDen :=
  (sSeq (sIf (tCmp .Lt (cVar 1) (cC (.int 2))) (sRet (cLst false aNil)) sNil) (sSeq (sSet 3 (cLc true [4] (iRg1 (aCons (cVar 2) aNil)) (gNm 4) tYesD (cCall 17 2 (aCons (cVar 0) (aCons (cVar 1) aNil))))) (sSeq (sIf (tAnd (tCmp .Gt (cVar 2) (cC (.int 1))) (tCmp .Eq (cCall 14 2 (aCons (cVar 0) (aCons (cC (.int 5)) aNil))) (cC (.int 1)))) (sSetIx (cVar 3) (cCall 14 2 (aCons (cVar 0) (aCons (cVar 2) aNil))) (cIx (cVar 3) (cC (.int 0)))) sNil) (sRet (cVar 3)))))
theorem sc18 : FnScope N18 f18.ps (defScope (top 30)) := ⟨rfl, rfl, rfl, by decide +kernel, rfl, by decide +kernel, by decide +kernel⟩
theorem ok18 : SSs { T := T, N := N18, sc := defScope (top 30) } (defBody (top 30)) d18 :=
  (ss_cons (ss_if (st_cmp (e_v 1 (by decide +kernel)) se_int rfl) (ss_one (ss_ret (se_lst sa_nil))) ss_nil) (ss_cons (s_lc 3 [("turn", 4)] (by decide +kernel) rfl rfl (by decide +kernel) (by decide +kernel) (i_rg1 (by decide +kernel) rfl (sa_cons rfl (e_v 2 (by decide +kernel)) sa_nil)) (g_nm 4 (by decide +kernel)) sc_nil (e_call (ent := f17) m17 (by decide +kernel) rfl (sa_cons rfl (e_v 0 (by decide +kernel)) (sa_cons rfl (e_v 1 (by decide +kernel)) sa_nil)))) (ss_cons (ss_if (st_w (sw_and (st_cmp (e_v 2 (by decide +kernel)) se_int rfl) (sw_and1 (st_cmp (e_call (ent := f14) m14 (by decide +kernel) rfl (sa_cons rfl (e_v 0 (by decide +kernel)) (sa_cons rfl se_int sa_nil))) se_int rfl)))) (ss_one (ss_setix rfl rfl rfl (e_v 3 (by decide +kernel)) (e_call (ent := f14) m14 (by decide +kernel) rfl (sa_cons rfl (e_v 0 (by decide +kernel)) (sa_cons rfl (e_v 2 (by decide +kernel)) sa_nil))) (se_ix rfl (e_v 3 (by decide +kernel)) se_int))) ss_nil) (ss_one (ss_ret (e_v 3 (by decide +kernel)))))))
/-- _law_both -/
def N19 : List Str := ["job"]
noncomputable def d19 : SDen :=
  (sSeq (sIf (tCmp .Eq (cBlt bLen (aCons (cVar 0) aNil)) (cC (.int 4))) (sRet (cTup (aCons (cTup (aCons (cIx (cVar 0) (cC (.int 1))) (aCons (cIx (cVar 0) (cC (.int 2))) aNil))) (aCons (cTup (aCons (cIx (cVar 0) (cC (.int 3))) (aCons (cIx (cVar 0) (cC (.int 2))) aNil))) aNil)))) sNil) (sRet (cTup (aCons (cTup (aCons (cIx (cVar 0) (cC (.int 1))) (aCons (cC (.int 0)) aNil))) (aCons (cTup (aCons (cIx (cVar 0) (cC (.int 2))) (aCons (cC (.int 0)) aNil))) aNil)))))
theorem sc19 : FnScope N19 f19.ps (defScope (top 31)) := ⟨rfl, rfl, rfl, by decide +kernel, rfl, by decide +kernel, by decide +kernel⟩
theorem ok19 : SSs { T := T, N := N19, sc := defScope (top 31) } (defBody (top 31)) d19 :=
  (ss_cons (ss_if (st_cmp (b_len (by decide +kernel) rfl (sa_cons rfl (e_v 0 (by decide +kernel)) sa_nil)) se_int rfl) (ss_one (ss_ret (se_tup (sa_cons rfl (se_tup (sa_cons rfl (se_ix rfl (e_v 0 (by decide +kernel)) se_int) (sa_cons rfl (se_ix rfl (e_v 0 (by decide +kernel)) se_int) sa_nil))) (sa_cons rfl (se_tup (sa_cons rfl (se_ix rfl (e_v 0 (by decide +kernel)) se_int) (sa_cons rfl (se_ix rfl (e_v 0 (by decide +kernel)) se_int) sa_nil))) sa_nil))))) ss_nil) (ss_one (ss_ret (se_tup (sa_cons rfl (se_tup (sa_cons rfl (se_ix rfl (e_v 0 (by decide +kernel)) se_int) (sa_cons rfl se_int sa_nil))) (sa_cons rfl (se_tup (sa_cons rfl (se_ix rfl (e_v 0 (by decide +kernel)) se_int) (sa_cons rfl se_int sa_nil))) sa_nil))))))
/-- _law_sign -/
def N20 : List Str := ["job"]
noncomputable def d20 : SDen :=
  (sRet (cIx (cDispC [("planet", .int 1), ("double", .int (-1)), ("pair", .int 1), ("band", .int (-1))]) (cIx (cVar 0) (cC (.int 0)))))
theorem sc20 : FnScope N20 f20.ps (defScope (top 32)) := ⟨rfl, rfl, rfl, by decide +kernel, rfl, by decide +kernel, by decide +kernel⟩
theorem ok20 : SSs { T := T, N := N20, sc := defScope (top 32) } (defBody (top 32)) d20 :=
  (ss_one (ss_ret (se_ix rfl (e_dispC (.cons .int (.cons .neg (.cons .int (.cons .neg .nil)))) (by intro z; cases z) rfl) (se_ix rfl (e_v 0 (by decide +kernel)) se_int))))
/-- _law_crate_is -/
def N21 : List Str := ["crate", "span", "jobs"]
noncomputable def d21 : SDen :=
  (sSeq (sIf (tOr (tNot (tTru (cIsC 0 (cVar 0)))) (tNot (tTru (cPure 16 2 (aCons (cProp 0 28 (cVar 0)) (aCons (cVar 1) aNil)))))) (sRet (cC (.bl false))) sNil) (sRet (cAnd (cPure 16 2 (aCons (cProp 0 29 (cVar 0)) (aCons (cBlt bTuple (aCons (cVar 2) aNil)) aNil))) (cPure 16 2 (aCons (cLenO 0 30 (cVar 0)) (aCons (cBlt bLen (aCons (cVar 2) aNil)) aNil))))))
theorem sc21 : FnScope N21 f21.ps (defScope (top 33)) := ⟨rfl, rfl, rfl, by decide +kernel, rfl, by decide +kernel, by decide +kernel⟩
theorem ok21 : SSs { T := T, N := N21, sc := defScope (top 33) } (defBody (top 33)) d21 :=
  (ss_cons (ss_if (st_w (sw_or (st_not (st_plain (e_isC (ce := c0) mc0 (by decide +kernel) (by decide +kernel) rfl (e_v 0 (by decide +kernel))) rfl)) (sw_or1 (st_not (st_plain (e_pure (ent := f16) m16 (by decide +kernel) rfl (sa_cons rfl (e_prop (ce := c0) (me := g28) mc0 (List.mem_of_getElem? (i := 0) rfl) rfl rfl (e_v 0 (by decide +kernel))) (sa_cons rfl (e_v 1 (by decide +kernel)) sa_nil))) rfl))))) (ss_one (ss_ret se_bl)) ss_nil) (ss_one (ss_ret (se_and (e_pure (ent := f16) m16 (by decide +kernel) rfl (sa_cons rfl (e_prop (ce := c0) (me := g29) mc0 (List.mem_of_getElem? (i := 1) rfl) rfl rfl (e_v 0 (by decide +kernel))) (sa_cons rfl (b_tuple (by decide +kernel) rfl (sa_cons rfl (e_v 2 (by decide +kernel)) sa_nil)) sa_nil))) (se_one (e_pure (ent := f16) m16 (by decide +kernel) rfl (sa_cons rfl (e_lenO (ce := c0) (me := g30) mc0 (List.mem_of_getElem? (i := 0) rfl) rfl rfl (by decide +kernel) rfl (e_v 0 (by decide +kernel))) (sa_cons rfl (b_len (by decide +kernel) rfl (sa_cons rfl (e_v 2 (by decide +kernel)) sa_nil)) sa_nil))))))))
/-- _law_crate_of -/
def N22 : List Str := ["span", "jobs", "row", "crate"]
noncomputable def d22 : SDen :=
  (sSeq (sSet 2 (cBlt (bList true) (aCons (cVar 1) aNil))) (sSeq (sSet 3 (cNew 0 27 3 (aCons (cVar 0) (aCons (cVar 2) aNil)))) (sSeq (sExpr (cMt mReverse (cVar 2) aNil)) (sSeq (sExpr (cMt mAppend (cVar 2) (aCons (cTup (aCons (cC (.str "pair")) (aCons (cC (.int 1)) (aCons (cC (.int 2)) aNil)))) aNil))) (sSeq (sExpr (cMt mPopAt (cVar 2) (aCons (cC (.int 0)) aNil))) (sRet (cVar 3)))))))
theorem sc22 : FnScope N22 f22.ps (defScope (top 34)) := ⟨rfl, rfl, rfl, by decide +kernel, rfl, by decide +kernel, by decide +kernel⟩
theorem ok22 : SSs { T := T, N := N22, sc := defScope (top 34) } (defBody (top 34)) d22 :=
  (ss_cons (s_set 2 (by decide +kernel) rfl (b_list (by decide +kernel) rfl (sa_cons rfl (e_v 1 (by decide +kernel)) sa_nil))) (ss_cons (s_set 3 (by decide +kernel) rfl (e_new (ce := c0) (me := g27) mc0 (List.mem_of_getElem? (i := 0) rfl) (by decide +kernel) rfl (sa_cons rfl (e_v 0 (by decide +kernel)) (sa_cons rfl (e_v 2 (by decide +kernel)) sa_nil)))) (ss_cons (ss_expr rfl (m_reverse rfl rfl (e_v 2 (by decide +kernel)))) (ss_cons (ss_expr rfl (m_append rfl rfl rfl rfl (e_v 2 (by decide +kernel)) (sa_cons rfl (se_tup (sa_cons rfl se_str (sa_cons rfl se_int (sa_cons rfl se_int sa_nil)))) sa_nil))) (ss_cons (ss_expr rfl (m_popAt rfl rfl rfl rfl (e_v 2 (by decide +kernel)) (sa_cons rfl se_int sa_nil))) (ss_one (ss_ret (e_v 3 (by decide +kernel)))))))))
/-- _law_box_right -/
def N23 : List Str := ["crate", "span", "jobs", "k", "one", "two"]
noncomputable def d23 : SDen :=
  (sSeq (sIf (tNot (tTru (cPure 21 3 (aCons (cVar 0) (aCons (cVar 1) (aCons (cVar 2) aNil)))))) (sRet (cC (.bl false))) sNil) (sSeq (sFor (gNm 3) (iRg1 (aCons (cBlt bLen (aCons (cVar 2) aNil)) aNil)) (sSeq (sAsg (gTp 2 (gNs (gNm 4) (gNs (gNm 5) gN0))) (cPure 19 1 (aCons (cIx (cVar 2) (cVar 3)) aNil))) (sSeq (sIf (tOr (tNot (tTru (cPure 16 2 (aCons (cPure 7 2 (aCons (cVar 0) (aCons (cVar 3) aNil))) (aCons (cVar 4) aNil))))) (tNot (tTru (cPure 16 2 (aCons (cPure 8 2 (aCons (cVar 0) (aCons (cVar 3) aNil))) (aCons (cVar 5) aNil)))))) (sRet (cC (.bl false))) sNil) (sIf (tNot (tTru (cPure 16 2 (aCons (cPure 9 2 (aCons (cVar 0) (aCons (cVar 3) aNil))) (aCons (cPure 20 1 (aCons (cIx (cVar 2) (cVar 3)) aNil)) aNil))))) (sRet (cC (.bl false))) sNil)))) (sRet (cC (.bl true)))))
theorem sc23 : FnScope N23 f23.ps (defScope (top 35)) := ⟨rfl, rfl, rfl, by decide +kernel, rfl, by decide +kernel, by decide +kernel⟩
theorem ok23 : SSs { T := T, N := N23, sc := defScope (top 35) } (defBody (top 35)) d23 :=
  (ss_cons (ss_if (st_not (st_plain (e_pure (ent := f21) m21 (by decide +kernel) rfl (sa_cons rfl (e_v 0 (by decide +kernel)) (sa_cons rfl (e_v 1 (by decide +kernel)) (sa_cons rfl (e_v 2 (by decide +kernel)) sa_nil)))) rfl)) (ss_one (ss_ret se_bl)) ss_nil) (ss_cons (ss_for rfl (i_rg1 (by decide +kernel) rfl (sa_cons rfl (b_len (by decide +kernel) rfl (sa_cons rfl (e_v 2 (by decide +kernel)) sa_nil)) sa_nil)) (g_nm 3 (by decide +kernel)) (ss_cons (ss_asg rfl rfl rfl (sg_tup rfl (sgs_cons rfl (g_nm 4 (by decide +kernel)) (sgs_cons rfl (g_nm 5 (by decide +kernel)) sgs_nil))) (e_pure (ent := f19) m19 (by decide +kernel) rfl (sa_cons rfl (se_ix rfl (e_v 2 (by decide +kernel)) (e_v 3 (by decide +kernel))) sa_nil))) (ss_cons (ss_if (st_w (sw_or (st_not (st_plain (e_pure (ent := f16) m16 (by decide +kernel) rfl (sa_cons rfl (e_pure (ent := f7) m7 (by decide +kernel) rfl (sa_cons rfl (e_v 0 (by decide +kernel)) (sa_cons rfl (e_v 3 (by decide +kernel)) sa_nil))) (sa_cons rfl (e_v 4 (by decide +kernel)) sa_nil))) rfl)) (sw_or1 (st_not (st_plain (e_pure (ent := f16) m16 (by decide +kernel) rfl (sa_cons rfl (e_pure (ent := f8) m8 (by decide +kernel) rfl (sa_cons rfl (e_v 0 (by decide +kernel)) (sa_cons rfl (e_v 3 (by decide +kernel)) sa_nil))) (sa_cons rfl (e_v 5 (by decide +kernel)) sa_nil))) rfl))))) (ss_one (ss_ret se_bl)) ss_nil) (ss_one (ss_if (st_not (st_plain (e_pure (ent := f16) m16 (by decide +kernel) rfl (sa_cons rfl (e_pure (ent := f9) m9 (by decide +kernel) rfl (sa_cons rfl (e_v 0 (by decide +kernel)) (sa_cons rfl (e_v 3 (by decide +kernel)) sa_nil))) (sa_cons rfl (e_pure (ent := f20) m20 (by decide +kernel) rfl (sa_cons rfl (se_ix rfl (e_v 2 (by decide +kernel)) (e_v 3 (by decide +kernel))) sa_nil)) sa_nil))) rfl)) (ss_one (ss_ret se_bl)) ss_nil))))) (ss_one (ss_ret se_bl))))
/-- _law_exchanged -/
def N24 : List Str := ["jobs", "spot", "made", "row"]
noncomputable def d24 : SDen :=
  (sSeq (sSet 2 (cBlt (bList true) (aCons (cVar 0) aNil))) (sSeq (sSet 3 (cBlt (bList true) (aCons (cIx (cVar 2) (cVar 1)) aNil))) (sSeq (sSetT (cVar 3) (cC (.int 1)) (cVar 3) (cBin subD (cBlt bLen (aCons (cVar 3) aNil)) (cC (.int 1))) (cIx (cVar 3) (cBin subD (cBlt bLen (aCons (cVar 3) aNil)) (cC (.int 1)))) (cIx (cVar 3) (cC (.int 1)))) (sSeq (sSetIx (cVar 2) (cVar 1) (cBlt bTuple (aCons (cVar 3) aNil))) (sRet (cVar 2))))))
theorem sc24 : FnScope N24 f24.ps (defScope (top 36)) := ⟨rfl, rfl, rfl, by decide +kernel, rfl, by decide +kernel, by decide +kernel⟩
theorem ok24 : SSs { T := T, N := N24, sc := defScope (top 36) } (defBody (top 36)) d24 :=
  (ss_cons (s_set 2 (by decide +kernel) rfl (b_list (by decide +kernel) rfl (sa_cons rfl (e_v 0 (by decide +kernel)) sa_nil))) (ss_cons (s_set 3 (by decide +kernel) rfl (b_list (by decide +kernel) rfl (sa_cons rfl (se_ix rfl (e_v 2 (by decide +kernel)) (e_v 1 (by decide +kernel))) sa_nil))) (ss_cons (ss_setT rfl rfl (e_v 3 (by decide +kernel)) se_int (e_v 3 (by decide +kernel)) (se_bin ops_sub (b_len (by decide +kernel) rfl (sa_cons rfl (e_v 3 (by decide +kernel)) sa_nil)) se_int) (se_ix rfl (e_v 3 (by decide +kernel)) (se_bin ops_sub (b_len (by decide +kernel) rfl (sa_cons rfl (e_v 3 (by decide +kernel)) sa_nil)) se_int)) (se_ix rfl (e_v 3 (by decide +kernel)) se_int) rfl rfl) (ss_cons (ss_setix rfl rfl rfl (e_v 2 (by decide +kernel)) (e_v 1 (by decide +kernel)) (b_tuple (by decide +kernel) rfl (sa_cons rfl (e_v 3 (by decide +kernel)) sa_nil))) (ss_one (ss_ret (e_v 2 (by decide +kernel))))))))
/-- _law_all_right -/
def N25 : List Str := ["span", "held", "crate", "jobs"]
noncomputable def d25 : SDen :=
  (sRet (cBlt bAll (aCons (cLc false [2, 3] (iSeq (cVar 1)) (gTp 2 (gNs (gNm 2) (gNs (gNm 3) gN0))) tYesD (cPure 23 3 (aCons (cVar 2) (aCons (cVar 0) (aCons (cVar 3) aNil))))) aNil)))
theorem sc25 : FnScope N25 f25.ps (defScope (top 37)) := ⟨rfl, rfl, rfl, by decide +kernel, rfl, by decide +kernel, by decide +kernel⟩
theorem ok25 : SSs { T := T, N := N25, sc := defScope (top 37) } (defBody (top 37)) d25 :=
  (ss_one (ss_ret (b_all (by decide +kernel) rfl (sa_cons rfl (e_lc [("crate", 2), ("jobs", 3)] rfl (by decide +kernel) (by decide +kernel) (si_seq (e_v 1 (by decide +kernel))) (sg_tup rfl (sgs_cons rfl (g_nm 2 (by decide +kernel)) (sgs_cons rfl (g_nm 3 (by decide +kernel)) sgs_nil))) sc_nil (e_pure (ent := f23) m23 (by decide +kernel) rfl (sa_cons rfl (e_v 2 (by decide +kernel)) (sa_cons rfl (e_v 0 (by decide +kernel)) (sa_cons rfl (e_v 3 (by decide +kernel)) sa_nil))))) sa_nil))))
/-- law -/
def N26 : List Str := ["script", "great", "cell", "jar", "span", "jobs", "crate", "job", "other", "more", "wide", "held", "spot", "twice", "row", "less", "over_there"]
noncomputable def d26 : SDen :=
  (sSeq (sSet 1 (cC (.int 164079478565641772891743740708015426529736053868756997449580818458973566028740659678224519451))) (sSeq (sFor (gNm 2) (iSeq (cBin addD (cLst false (aCons (cVar 1) aNil)) (cSl false (cVar 0) oNone (oSome (cC (.int 6)))))) (sSeq (sSet 3 (cPure 13 1 (aCons (cVar 2) aNil))) (sSeq (sSet 4 (cBin addD (cC (.int 2)) (cCall 14 2 (aCons (cVar 3) (aCons (cC (.int 7)) aNil))))) (sSeq (sSet 5 (cFrz (cCall 18 3 (aCons (cVar 3) (aCons (cVar 4) (aCons (cCall 14 2 (aCons (cVar 3) (aCons (cC (.int 6)) aNil))) aNil)))))) (sSeq (sSet 6 (cPure 22 2 (aCons (cVar 4) (aCons (cVar 5) aNil)))) (sSeq (sSet 7 (cCall 17 2 (aCons (cVar 3) (aCons (cVar 4) aNil)))) (sSeq (sSet 8 (cCall 17 2 (aCons (cVar 3) (aCons (cVar 4) aNil)))) (sSeq (sSet 9 (cPure 10 2 (aCons (cVar 6) (aCons (cVar 7) aNil)))) (sSeq (sSet 10 (cBin addD (cVar 5) (cLst false (aCons (cVar 7) aNil)))) (sSeq (sSet 11 (cLst true (aCons (cTup (aCons (cVar 6) (aCons (cVar 5) aNil))) (aCons (cTup (aCons (cVar 9) (aCons (cVar 10) aNil))) (aCons (cTup (aCons (cPure 10 2 (aKw 0 2 [1, 0] aNil (aCons (cVar 8) (aCons (cVar 6) aNil)))) (aCons (cBin addD (cVar 5) (cLst false (aCons (cVar 8) aNil))) aNil))) aNil))))) (sSeq (sFor (gNm 12) (iSeq (cFrz (cCall 15 2 (aCons (cVar 3) (aCons (cLsRg1 false (cBlt bLen (aCons (cVar 10) aNil))) aNil))))) (sSeq (sSet 14 (cBin addD (cSl false (cVar 10) oNone (oSome (cVar 12))) (cSl false (cVar 10) (oSome (cBin addD (cVar 12) (cC (.int 1)))) oNone))) (sSeq (sSet 15 (cPure 11 2 (aCons (cVar 9) (aCons (cVar 12) aNil)))) (sSeq (sSet 16 (cPure 12 2 (aCons (cVar 9) (aCons (cVar 12) aNil)))) (sSeq (sSet 11 (cCat (cVar 11) (cLst false (aCons (cTup (aCons (cVar 15) (aCons (cVar 14) aNil))) (aCons (cTup (aCons (cVar 16) (aCons (cFrz (cPure 24 2 (aCons (cVar 10) (aCons (cVar 12) aNil)))) aNil))) aNil))))) (sSeq (sExpr (cMt mAppend (cVar 11) (aCons (cTup (aCons (cPure 10 2 (aCons (cVar 15) (aCons (cVar 8) aNil))) (aCons (cBin addD (cVar 14) (cLst false (aCons (cVar 8) aNil))) aNil))) aNil))) (sSeq (sIf (tNot (tTru (cPure 21 3 (aCons (cPure 11 2 (aKw 0 2 [1, 0] aNil (aCons (cVar 12) (aCons (cVar 9) aNil)))) (aCons (cVar 4) (aCons (cVar 14) aNil)))))) (sRet (cC (.bl false))) sNil) (sSeq (sIf (tOr (tEqO true 0 31 (cPure 12 2 (aKw 0 2 [1, 0] aNil (aCons (cVar 12) (aCons (cVar 16) aNil)))) (cVar 9)) (tEqO false 0 31 (cVar 16) (cVar 9))) (sRet (cC (.bl false))) sNil) (sIf (tNot (tTru (cPure 25 2 (aCons (cVar 4) (aCons (cSl false (cVar 11) (oSome (cNeg (cC (.int 3)))) oNone) aNil))))) (sRet (cC (.bl false))) sNil))))))))) (sSeq (sIf (tOr (tEqO true 0 31 (cPure 11 2 (aCons (cVar 9) (aCons (cBlt bLen (aCons (cVar 5) aNil)) aNil))) (cVar 6)) (tNot (tTru (cPure 25 2 (aCons (cVar 4) (aCons (cVar 11) aNil)))))) (sRet (cC (.bl false))) sNil) (sSeq (sSet 13 (cPure 12 2 (aCons (cIx (cIx (cVar 11) (cBin subD (cBlt bLen (aCons (cVar 11) aNil)) (cC (.int 1)))) (cC (.int 0))) (aCons (cC (.int 0)) aNil)))) (sIf (tNot (tTru (cPure 23 3 (aCons (cVar 13) (aCons (cVar 4) (aCons (cFrz (cPure 24 2 (aCons (cIx (cIx (cVar 11) (cBin subD (cBlt bLen (aCons (cVar 11) aNil)) (cC (.int 1)))) (cC (.int 1))) (aCons (cC (.int 0)) aNil)))) aNil)))))) (sRet (cC (.bl false))) sNil)))))))))))))) (sRet (cC (.bl true)))))
theorem sc26 : FnScope N26 f26.ps (defScope (top 38)) := ⟨rfl, rfl, rfl, by decide +kernel, rfl, by decide +kernel, by decide +kernel⟩
theorem ok26 : SSs { T := T, N := N26, sc := defScope (top 38) } (defBody (top 38)) d26 :=
  (ss_cons (s_set 1 (by decide +kernel) rfl se_int) (ss_cons (ss_for rfl (si_seq (se_bin ops_add (se_lst (sa_cons rfl (e_v 1 (by decide +kernel)) sa_nil)) (se_slice (e_v 0 (by decide +kernel)) so_none (so_some se_int)))) (g_nm 2 (by decide +kernel)) (ss_cons (s_set 3 (by decide +kernel) rfl (e_pure (ent := f13) m13 (by decide +kernel) rfl (sa_cons rfl (e_v 2 (by decide +kernel)) sa_nil))) (ss_cons (s_set 4 (by decide +kernel) rfl (se_bin ops_add se_int (e_call (ent := f14) m14 (by decide +kernel) rfl (sa_cons rfl (e_v 3 (by decide +kernel)) (sa_cons rfl se_int sa_nil))))) (ss_cons (s_set 5 (by decide +kernel) rfl (se_frz (e_call (ent := f18) m18 (by decide +kernel) rfl (sa_cons rfl (e_v 3 (by decide +kernel)) (sa_cons rfl (e_v 4 (by decide +kernel)) (sa_cons rfl (e_call (ent := f14) m14 (by decide +kernel) rfl (sa_cons rfl (e_v 3 (by decide +kernel)) (sa_cons rfl se_int sa_nil))) sa_nil)))))) (ss_cons (s_set 6 (by decide +kernel) rfl (e_pure (ent := f22) m22 (by decide +kernel) rfl (sa_cons rfl (e_v 4 (by decide +kernel)) (sa_cons rfl (e_v 5 (by decide +kernel)) sa_nil)))) (ss_cons (s_set 7 (by decide +kernel) rfl (e_call (ent := f17) m17 (by decide +kernel) rfl (sa_cons rfl (e_v 3 (by decide +kernel)) (sa_cons rfl (e_v 4 (by decide +kernel)) sa_nil)))) (ss_cons (s_set 8 (by decide +kernel) rfl (e_call (ent := f17) m17 (by decide +kernel) rfl (sa_cons rfl (e_v 3 (by decide +kernel)) (sa_cons rfl (e_v 4 (by decide +kernel)) sa_nil)))) (ss_cons (s_set 9 (by decide +kernel) rfl (e_pure (ent := f10) m10 (by decide +kernel) rfl (sa_cons rfl (e_v 6 (by decide +kernel)) (sa_cons rfl (e_v 7 (by decide +kernel)) sa_nil)))) (ss_cons (s_set 10 (by decide +kernel) rfl (se_bin ops_add (e_v 5 (by decide +kernel)) (se_lst (sa_cons rfl (e_v 7 (by decide +kernel)) sa_nil)))) (ss_cons (s_set 11 (by decide +kernel) rfl (se_lst (sa_cons rfl (se_tup (sa_cons rfl (e_v 6 (by decide +kernel)) (sa_cons rfl (e_v 5 (by decide +kernel)) sa_nil))) (sa_cons rfl (se_tup (sa_cons rfl (e_v 9 (by decide +kernel)) (sa_cons rfl (e_v 10 (by decide +kernel)) sa_nil))) (sa_cons rfl (se_tup (sa_cons rfl (e_pureK (ent := f10) (0, ["work", "box"], [1, 0]) m10 (List.mem_of_getElem? (i := 0) rfl) (by decide +kernel) rfl (by decide +kernel) sa_nil (sk_cons (e_v 8 (by decide +kernel)) (sk_cons (e_v 6 (by decide +kernel)) sk_nil))) (sa_cons rfl (se_bin ops_add (e_v 5 (by decide +kernel)) (se_lst (sa_cons rfl (e_v 8 (by decide +kernel)) sa_nil))) sa_nil))) sa_nil))))) (ss_cons (ss_for rfl (si_seq (se_frz (e_call (ent := f15) m15 (by decide +kernel) rfl (sa_cons rfl (e_v 3 (by decide +kernel)) (sa_cons rfl (b_lsrg1 (by decide +kernel) (by decide +kernel) rfl (b_len (by decide +kernel) rfl (sa_cons rfl (e_v 10 (by decide +kernel)) sa_nil))) sa_nil))))) (g_nm 12 (by decide +kernel)) (ss_cons (s_set 14 (by decide +kernel) rfl (se_bin ops_add (se_slice (e_v 10 (by decide +kernel)) so_none (so_some (e_v 12 (by decide +kernel)))) (se_slice (e_v 10 (by decide +kernel)) (so_some (se_bin ops_add (e_v 12 (by decide +kernel)) se_int)) so_none))) (ss_cons (s_set 15 (by decide +kernel) rfl (e_pure (ent := f11) m11 (by decide +kernel) rfl (sa_cons rfl (e_v 9 (by decide +kernel)) (sa_cons rfl (e_v 12 (by decide +kernel)) sa_nil)))) (ss_cons (s_set 16 (by decide +kernel) rfl (e_pure (ent := f12) m12 (by decide +kernel) rfl (sa_cons rfl (e_v 9 (by decide +kernel)) (sa_cons rfl (e_v 12 (by decide +kernel)) sa_nil)))) (ss_cons (s_set 11 (by decide +kernel) rfl (se_cat (e_v 11 (by decide +kernel)) (se_lst (sa_cons rfl (se_tup (sa_cons rfl (e_v 15 (by decide +kernel)) (sa_cons rfl (e_v 14 (by decide +kernel)) sa_nil))) (sa_cons rfl (se_tup (sa_cons rfl (e_v 16 (by decide +kernel)) (sa_cons rfl (se_frz (e_pure (ent := f24) m24 (by decide +kernel) rfl (sa_cons rfl (e_v 10 (by decide +kernel)) (sa_cons rfl (e_v 12 (by decide +kernel)) sa_nil)))) sa_nil))) sa_nil))))) (ss_cons (ss_expr rfl (m_append rfl rfl rfl rfl (e_v 11 (by decide +kernel)) (sa_cons rfl (se_tup (sa_cons rfl (e_pure (ent := f10) m10 (by decide +kernel) rfl (sa_cons rfl (e_v 15 (by decide +kernel)) (sa_cons rfl (e_v 8 (by decide +kernel)) sa_nil))) (sa_cons rfl (se_bin ops_add (e_v 14 (by decide +kernel)) (se_lst (sa_cons rfl (e_v 8 (by decide +kernel)) sa_nil))) sa_nil))) sa_nil))) (ss_cons (ss_if (st_not (st_plain (e_pure (ent := f21) m21 (by decide +kernel) rfl (sa_cons rfl (e_pureK (ent := f11) (0, ["at", "box"], [1, 0]) m11 (List.mem_of_getElem? (i := 0) rfl) (by decide +kernel) rfl (by decide +kernel) sa_nil (sk_cons (e_v 12 (by decide +kernel)) (sk_cons (e_v 9 (by decide +kernel)) sk_nil))) (sa_cons rfl (e_v 4 (by decide +kernel)) (sa_cons rfl (e_v 14 (by decide +kernel)) sa_nil)))) rfl)) (ss_one (ss_ret se_bl)) ss_nil) (ss_cons (ss_if (st_w (sw_or (t_eqO true rfl (ce := c0) (me := g31) mc0 (List.mem_of_getElem? (i := 1) rfl) rfl rfl (e_pureK (ent := f12) (0, ["at", "box"], [1, 0]) m12 (List.mem_of_getElem? (i := 0) rfl) (by decide +kernel) rfl (by decide +kernel) sa_nil (sk_cons (e_v 12 (by decide +kernel)) (sk_cons (e_v 16 (by decide +kernel)) sk_nil))) (e_v 9 (by decide +kernel)) rfl) (sw_or1 (t_eqO false rfl (ce := c0) (me := g31) mc0 (List.mem_of_getElem? (i := 1) rfl) rfl rfl (e_v 16 (by decide +kernel)) (e_v 9 (by decide +kernel)) rfl)))) (ss_one (ss_ret se_bl)) ss_nil) (ss_one (ss_if (st_not (st_plain (e_pure (ent := f25) m25 (by decide +kernel) rfl (sa_cons rfl (e_v 4 (by decide +kernel)) (sa_cons rfl (se_slice (e_v 11 (by decide +kernel)) (so_some (se_neg se_int)) so_none) sa_nil))) rfl)) (ss_one (ss_ret se_bl)) ss_nil)))))))))) (ss_cons (ss_if (st_w (sw_or (t_eqO true rfl (ce := c0) (me := g31) mc0 (List.mem_of_getElem? (i := 1) rfl) rfl rfl (e_pure (ent := f11) m11 (by decide +kernel) rfl (sa_cons rfl (e_v 9 (by decide +kernel)) (sa_cons rfl (b_len (by decide +kernel) rfl (sa_cons rfl (e_v 5 (by decide +kernel)) sa_nil)) sa_nil))) (e_v 6 (by decide +kernel)) rfl) (sw_or1 (st_not (st_plain (e_pure (ent := f25) m25 (by decide +kernel) rfl (sa_cons rfl (e_v 4 (by decide +kernel)) (sa_cons rfl (e_v 11 (by decide +kernel)) sa_nil))) rfl))))) (ss_one (ss_ret se_bl)) ss_nil) (ss_cons (s_set 13 (by decide +kernel) rfl (e_pure (ent := f12) m12 (by decide +kernel) rfl (sa_cons rfl (se_ix rfl (se_ix rfl (e_v 11 (by decide +kernel)) (se_bin ops_sub (b_len (by decide +kernel) rfl (sa_cons rfl (e_v 11 (by decide +kernel)) sa_nil)) se_int)) se_int) (sa_cons rfl se_int sa_nil)))) (ss_one (ss_if (st_not (st_plain (e_pure (ent := f23) m23 (by decide +kernel) rfl (sa_cons rfl (e_v 13 (by decide +kernel)) (sa_cons rfl (e_v 4 (by decide +kernel)) (sa_cons rfl (se_frz (e_pure (ent := f24) m24 (by decide +kernel) rfl (sa_cons rfl (se_ix rfl (se_ix rfl (e_v 11 (by decide +kernel)) (se_bin ops_sub (b_len (by decide +kernel) rfl (sa_cons rfl (e_v 11 (by decide +kernel)) sa_nil)) se_int)) se_int) (sa_cons rfl se_int sa_nil)))) sa_nil)))) rfl)) (ss_one (ss_ret se_bl)) ss_nil))))))))))))))) (ss_one (ss_ret se_bl))))
/-- Box.__init__ -/
def N27 : List Str := ["self", "shafts", "works", "work"]
noncomputable def d27 : SDen :=
  (sSeq (sExpr (cPure 1 1 (aCons (cVar 1) aNil))) (sSeq (sIf (tNot (tTru (cIs "list" (cVar 2)))) (sRaise 4) sNil) (sSeq (sFor (gNm 3) (iSeq (cVar 2)) (sIf (tNot (tTru (cPure 2 2 (aCons (cVar 1) (aCons (cVar 3) aNil))))) (sRaise 4) sNil)) (sSeq (sFld 0 "many" (cVar 0) (cVar 1)) (sFld 0 "row" (cVar 0) (cBlt bTuple (aCons (cVar 2) aNil)))))))
theorem sc27 : FnScope N27 g27.ps (defScope (inClass (top 13) 0)) := ⟨rfl, rfl, rfl, by decide +kernel, rfl, by decide +kernel, by decide +kernel⟩
theorem ok27 : SSs { T := T, N := N27, sc := defScope (inClass (top 13) 0) } (defBody (inClass (top 13) 0)) d27 :=
  (ss_cons (ss_expr rfl (e_pure (ent := f1) m1 (by decide +kernel) rfl (sa_cons rfl (e_v 1 (by decide +kernel)) sa_nil))) (ss_cons (ss_if (st_not (st_plain (b_is_list (by decide +kernel) (by decide +kernel) rfl (e_v 2 (by decide +kernel))) rfl)) (ss_one (s_raise (x := "InvalidWork") (List.mem_of_getElem? (i := 3) rfl) (by decide +kernel))) ss_nil) (ss_cons (ss_for rfl (si_seq (e_v 2 (by decide +kernel))) (g_nm 3 (by decide +kernel)) (ss_one (ss_if (st_not (st_plain (e_pure (ent := f2) m2 (by decide +kernel) rfl (sa_cons rfl (e_v 1 (by decide +kernel)) (sa_cons rfl (e_v 3 (by decide +kernel)) sa_nil))) rfl)) (ss_one (s_raise (x := "InvalidWork") (List.mem_of_getElem? (i := 3) rfl) (by decide +kernel))) ss_nil))) (ss_cons (s_fld (ce := c0) mc0 (by decide +kernel) rfl (e_v 0 (by decide +kernel)) (e_v 1 (by decide +kernel))) (ss_one (s_fld (ce := c0) mc0 (by decide +kernel) rfl (e_v 0 (by decide +kernel)) (b_tuple (by decide +kernel) rfl (sa_cons rfl (e_v 2 (by decide +kernel)) sa_nil))))))))
/-- Box.shafts -/
def N28 : List Str := ["self"]
noncomputable def d28 : SDen :=
  (sRet (cFld 0 "many" (cVar 0)))
theorem sc28 : FnScope N28 g28.ps (defScope (inClass (top 13) 1)) := ⟨rfl, rfl, rfl, by decide +kernel, rfl, by decide +kernel, by decide +kernel⟩
theorem ok28 : SSs { T := T, N := N28, sc := defScope (inClass (top 13) 1) } (defBody (inClass (top 13) 1)) d28 :=
  (ss_one (ss_ret (e_fld (ce := c0) mc0 (by decide +kernel) rfl (e_v 0 (by decide +kernel)))))
/-- Box.works -/
def N29 : List Str := ["self"]
noncomputable def d29 : SDen :=
  (sRet (cFld 0 "row" (cVar 0)))
theorem sc29 : FnScope N29 g29.ps (defScope (inClass (top 13) 2)) := ⟨rfl, rfl, rfl, by decide +kernel, rfl, by decide +kernel, by decide +kernel⟩
theorem ok29 : SSs { T := T, N := N29, sc := defScope (inClass (top 13) 2) } (defBody (inClass (top 13) 2)) d29 :=
  (ss_one (ss_ret (e_fld (ce := c0) mc0 (by decide +kernel) rfl (e_v 0 (by decide +kernel)))))
/-- Box.__len__ -/
def N30 : List Str := ["self"]
noncomputable def d30 : SDen :=
  (sRet (cBlt bLen (aCons (cFld 0 "row" (cVar 0)) aNil)))
theorem sc30 : FnScope N30 g30.ps (defScope (inClass (top 13) 3)) := ⟨rfl, rfl, rfl, by decide +kernel, rfl, by decide +kernel, by decide +kernel⟩
theorem ok30 : SSs { T := T, N := N30, sc := defScope (inClass (top 13) 3) } (defBody (inClass (top 13) 3)) d30 :=
  (ss_one (ss_ret (b_len (by decide +kernel) rfl (sa_cons rfl (e_fld (ce := c0) mc0 (by decide +kernel) rfl (e_v 0 (by decide +kernel))) sa_nil))))
/-- Box.__eq__ -/
def N31 : List Str := ["self", "other"]
noncomputable def d31 : SDen :=
  (sRet (cAnd (cIsC 0 (cVar 1)) (cAnd (cBin (cmpD .Eq) (cProp 0 28 (cVar 0)) (cProp 0 28 (cVar 1))) (cBin (cmpD .Eq) (cProp 0 29 (cVar 0)) (cProp 0 29 (cVar 1))))))
theorem sc31 : FnScope N31 g31.ps (defScope (inClass (top 13) 5)) := ⟨rfl, rfl, rfl, by decide +kernel, rfl, by decide +kernel, by decide +kernel⟩
theorem ok31 : SSs { T := T, N := N31, sc := defScope (inClass (top 13) 5) } (defBody (inClass (top 13) 5)) d31 :=
  (ss_one (ss_ret (se_and (e_isC (ce := c0) mc0 (by decide +kernel) (by decide +kernel) rfl (e_v 1 (by decide +kernel))) (se_and (se_cmp (e_prop (ce := c0) (me := g28) mc0 (List.mem_of_getElem? (i := 0) rfl) rfl rfl (e_v 0 (by decide +kernel))) (e_prop (ce := c0) (me := g28) mc0 (List.mem_of_getElem? (i := 0) rfl) rfl rfl (e_v 1 (by decide +kernel))) rfl) (se_one (se_cmp (e_prop (ce := c0) (me := g29) mc0 (List.mem_of_getElem? (i := 1) rfl) rfl rfl (e_v 0 (by decide +kernel))) (e_prop (ce := c0) (me := g29) mc0 (List.mem_of_getElem? (i := 1) rfl) rfl rfl (e_v 1 (by decide +kernel))) rfl))))))
noncomputable def tbl : Tbl := fun i => match i with
  | 0 => some (N0, d0)
  | 1 => some (N1, d1)
  | 2 => some (N2, d2)
  | 3 => some (N3, d3)
  | 4 => some (N4, d4)
  | 5 => some (N5, d5)
  | 6 => some (N6, d6)
  | 7 => some (N7, d7)
  | 8 => some (N8, d8)
  | 9 => some (N9, d9)
  | 10 => some (N10, d10)
  | 11 => some (N11, d11)
  | 12 => some (N12, d12)
  | 13 => some (N13, d13)
  | 14 => some (N14, d14)
  | 15 => some (N15, d15)
  | 16 => some (N16, d16)
  | 17 => some (N17, d17)
  | 18 => some (N18, d18)
  | 19 => some (N19, d19)
  | 20 => some (N20, d20)
  | 21 => some (N21, d21)
  | 22 => some (N22, d22)
  | 23 => some (N23, d23)
  | 24 => some (N24, d24)
  | 25 => some (N25, d25)
  | 26 => some (N26, d26)
  | 27 => some (N27, d27)
  | 28 => some (N28, d28)
  | 29 => some (N29, d29)
  | 30 => some (N30, d30)
  | 31 => some (N31, d31)
  | _ => none
theorem call0 (k : Nat) (ds : List D) (M : Mem) : callN tbl (k + 1) 0 ds M = fnD N0 d0 ds M (callN tbl k) := rfl
theorem call1 (k : Nat) (ds : List D) (M : Mem) : callN tbl (k + 1) 1 ds M = fnD N1 d1 ds M (callN tbl k) := rfl
theorem call2 (k : Nat) (ds : List D) (M : Mem) : callN tbl (k + 1) 2 ds M = fnD N2 d2 ds M (callN tbl k) := rfl
theorem call3 (k : Nat) (ds : List D) (M : Mem) : callN tbl (k + 1) 3 ds M = fnD N3 d3 ds M (callN tbl k) := rfl
theorem call4 (k : Nat) (ds : List D) (M : Mem) : callN tbl (k + 1) 4 ds M = fnD N4 d4 ds M (callN tbl k) := rfl
theorem call5 (k : Nat) (ds : List D) (M : Mem) : callN tbl (k + 1) 5 ds M = fnD N5 d5 ds M (callN tbl k) := rfl
theorem call6 (k : Nat) (ds : List D) (M : Mem) : callN tbl (k + 1) 6 ds M = fnD N6 d6 ds M (callN tbl k) := rfl
theorem call7 (k : Nat) (ds : List D) (M : Mem) : callN tbl (k + 1) 7 ds M = fnD N7 d7 ds M (callN tbl k) := rfl
theorem call8 (k : Nat) (ds : List D) (M : Mem) : callN tbl (k + 1) 8 ds M = fnD N8 d8 ds M (callN tbl k) := rfl
theorem call9 (k : Nat) (ds : List D) (M : Mem) : callN tbl (k + 1) 9 ds M = fnD N9 d9 ds M (callN tbl k) := rfl
theorem call10 (k : Nat) (ds : List D) (M : Mem) : callN tbl (k + 1) 10 ds M = fnD N10 d10 ds M (callN tbl k) := rfl
theorem call11 (k : Nat) (ds : List D) (M : Mem) : callN tbl (k + 1) 11 ds M = fnD N11 d11 ds M (callN tbl k) := rfl
theorem call12 (k : Nat) (ds : List D) (M : Mem) : callN tbl (k + 1) 12 ds M = fnD N12 d12 ds M (callN tbl k) := rfl
theorem call13 (k : Nat) (ds : List D) (M : Mem) : callN tbl (k + 1) 13 ds M = fnD N13 d13 ds M (callN tbl k) := rfl
theorem call14 (k : Nat) (ds : List D) (M : Mem) : callN tbl (k + 1) 14 ds M = fnD N14 d14 ds M (callN tbl k) := rfl
theorem call15 (k : Nat) (ds : List D) (M : Mem) : callN tbl (k + 1) 15 ds M = fnD N15 d15 ds M (callN tbl k) := rfl
theorem call16 (k : Nat) (ds : List D) (M : Mem) : callN tbl (k + 1) 16 ds M = fnD N16 d16 ds M (callN tbl k) := rfl
theorem call17 (k : Nat) (ds : List D) (M : Mem) : callN tbl (k + 1) 17 ds M = fnD N17 d17 ds M (callN tbl k) := rfl
theorem call18 (k : Nat) (ds : List D) (M : Mem) : callN tbl (k + 1) 18 ds M = fnD N18 d18 ds M (callN tbl k) := rfl
theorem call19 (k : Nat) (ds : List D) (M : Mem) : callN tbl (k + 1) 19 ds M = fnD N19 d19 ds M (callN tbl k) := rfl
theorem call20 (k : Nat) (ds : List D) (M : Mem) : callN tbl (k + 1) 20 ds M = fnD N20 d20 ds M (callN tbl k) := rfl
theorem call21 (k : Nat) (ds : List D) (M : Mem) : callN tbl (k + 1) 21 ds M = fnD N21 d21 ds M (callN tbl k) := rfl
theorem call22 (k : Nat) (ds : List D) (M : Mem) : callN tbl (k + 1) 22 ds M = fnD N22 d22 ds M (callN tbl k) := rfl
theorem call23 (k : Nat) (ds : List D) (M : Mem) : callN tbl (k + 1) 23 ds M = fnD N23 d23 ds M (callN tbl k) := rfl
theorem call24 (k : Nat) (ds : List D) (M : Mem) : callN tbl (k + 1) 24 ds M = fnD N24 d24 ds M (callN tbl k) := rfl
theorem call25 (k : Nat) (ds : List D) (M : Mem) : callN tbl (k + 1) 25 ds M = fnD N25 d25 ds M (callN tbl k) := rfl
theorem call26 (k : Nat) (ds : List D) (M : Mem) : callN tbl (k + 1) 26 ds M = fnD N26 d26 ds M (callN tbl k) := rfl
theorem call27 (k : Nat) (ds : List D) (M : Mem) : callN tbl (k + 1) 27 ds M = fnD N27 d27 ds M (callN tbl k) := rfl
theorem call28 (k : Nat) (ds : List D) (M : Mem) : callN tbl (k + 1) 28 ds M = fnD N28 d28 ds M (callN tbl k) := rfl
theorem call29 (k : Nat) (ds : List D) (M : Mem) : callN tbl (k + 1) 29 ds M = fnD N29 d29 ds M (callN tbl k) := rfl
theorem call30 (k : Nat) (ds : List D) (M : Mem) : callN tbl (k + 1) 30 ds M = fnD N30 d30 ds M (callN tbl k) := rfl
theorem call31 (k : Nat) (ds : List D) (M : Mem) : callN tbl (k + 1) 31 ds M = fnD N31 d31 ds M (callN tbl k) := rfl
theorem facts {P : Program} {W : World} {K : PySem.W.Frag} {mg : Str → Option Value} {h : Heap} (X : K.In h) (G : h.Ns mainGlobals mg)
    {C0 : Addr} (bn0 : PySem.W.nsIn K mainGlobals "Box" = some (some (.ref C0)))
    {a0 : Addr} {oc0 : Value} {od0 an0 : Option Addr} {sl0 : Array (Option Value)} {kV0 dc0 pm0 cd0 ct0 : Value}
    (n0 : PySem.W.nsIn K mainGlobals "is_int" = some (some (.ref a0))) (l0 : K.lookup a0 = some ⟨oc0, od0, .func (PySem.W.fnOf "is_int" "is_int" (defArgs (top 7)) (defBody (top 7)) (defScope (top 7)) .none kV0 dc0 pm0 an0 cd0 ct0), sl0⟩) (c0_ : PySem.W.codeIn K cd0 "is_int" = true) (k0 : PySem.W.keepIn K (.ref a0) = true)
    {a1 : Addr} {oc1 : Value} {od1 an1 : Option Addr} {sl1 : Array (Option Value)} {kV1 dc1 pm1 cd1 ct1 : Value}
    (n1 : PySem.W.nsIn K mainGlobals "check_shafts" = some (some (.ref a1))) (l1 : K.lookup a1 = some ⟨oc1, od1, .func (PySem.W.fnOf "check_shafts" "check_shafts" (defArgs (top 8)) (defBody (top 8)) (defScope (top 8)) .none kV1 dc1 pm1 an1 cd1 ct1), sl1⟩) (c1_ : PySem.W.codeIn K cd1 "check_shafts" = true) (k1 : PySem.W.keepIn K (.ref a1) = true)
    {a2 : Addr} {oc2 : Value} {od2 an2 : Option Addr} {sl2 : Array (Option Value)} {kV2 dc2 pm2 cd2 ct2 : Value}
    (n2 : PySem.W.nsIn K mainGlobals "work_fits" = some (some (.ref a2))) (l2 : K.lookup a2 = some ⟨oc2, od2, .func (PySem.W.fnOf "work_fits" "work_fits" (defArgs (top 11)) (defBody (top 11)) (defScope (top 11)) .none kV2 dc2 pm2 an2 cd2 ct2), sl2⟩) (c2_ : PySem.W.codeIn K cd2 "work_fits" = true) (k2 : PySem.W.keepIn K (.ref a2) = true)
    {a3 : Addr} {oc3 : Value} {od3 an3 : Option Addr} {sl3 : Array (Option Value)} {kV3 dc3 pm3 cd3 ct3 : Value}
    (n3 : PySem.W.nsIn K mainGlobals "check_box" = some (some (.ref a3))) (l3 : K.lookup a3 = some ⟨oc3, od3, .func (PySem.W.fnOf "check_box" "check_box" (defArgs (top 14)) (defBody (top 14)) (defScope (top 14)) .none kV3 dc3 pm3 an3 cd3 ct3), sl3⟩) (c3_ : PySem.W.codeIn K cd3 "check_box" = true) (k3 : PySem.W.keepIn K (.ref a3) = true)
    {a4 : Addr} {oc4 : Value} {od4 an4 : Option Addr} {sl4 : Array (Option Value)} {kV4 dc4 pm4 cd4 ct4 : Value}
    (n4 : PySem.W.nsIn K mainGlobals "check_at" = some (some (.ref a4))) (l4 : K.lookup a4 = some ⟨oc4, od4, .func (PySem.W.fnOf "check_at" "check_at" (defArgs (top 15)) (defBody (top 15)) (defScope (top 15)) .none kV4 dc4 pm4 an4 cd4 ct4), sl4⟩) (c4_ : PySem.W.codeIn K cd4 "check_at" = true) (k4 : PySem.W.keepIn K (.ref a4) = true)
    {a5 : Addr} {oc5 : Value} {od5 an5 : Option Addr} {sl5 : Array (Option Value)} {kV5 dc5 pm5 cd5 ct5 : Value}
    (n5 : PySem.W.nsIn K mainGlobals "differences_of" = some (some (.ref a5))) (l5 : K.lookup a5 = some ⟨oc5, od5, .func (PySem.W.fnOf "differences_of" "differences_of" (defArgs (top 16)) (defBody (top 16)) (defScope (top 16)) .none kV5 dc5 pm5 an5 cd5 ct5), sl5⟩) (c5_ : PySem.W.codeIn K cd5 "differences_of" = true) (k5 : PySem.W.keepIn K (.ref a5) = true)
    {a6 : Addr} {oc6 : Value} {od6 an6 : Option Addr} {sl6 : Array (Option Value)} {kV6 dc6 pm6 cd6 ct6 : Value}
    (n6 : PySem.W.nsIn K mainGlobals "sense_of_work" = some (some (.ref a6))) (l6 : K.lookup a6 = some ⟨oc6, od6, .func (PySem.W.fnOf "sense_of_work" "sense_of_work" (defArgs (top 17)) (defBody (top 17)) (defScope (top 17)) .none kV6 dc6 pm6 an6 cd6 ct6), sl6⟩) (c6_ : PySem.W.codeIn K cd6 "sense_of_work" = true) (k6 : PySem.W.keepIn K (.ref a6) = true)
    {a7 : Addr} {oc7 : Value} {od7 an7 : Option Addr} {sl7 : Array (Option Value)} {kV7 dc7 pm7 cd7 ct7 : Value}
    (n7 : PySem.W.nsIn K mainGlobals "first_difference" = some (some (.ref a7))) (l7 : K.lookup a7 = some ⟨oc7, od7, .func (PySem.W.fnOf "first_difference" "first_difference" (defArgs (top 18)) (defBody (top 18)) (defScope (top 18)) .none kV7 dc7 pm7 an7 cd7 ct7), sl7⟩) (c7_ : PySem.W.codeIn K cd7 "first_difference" = true) (k7 : PySem.W.keepIn K (.ref a7) = true)
    {a8 : Addr} {oc8 : Value} {od8 an8 : Option Addr} {sl8 : Array (Option Value)} {kV8 dc8 pm8 cd8 ct8 : Value}
    (n8 : PySem.W.nsIn K mainGlobals "second_difference" = some (some (.ref a8))) (l8 : K.lookup a8 = some ⟨oc8, od8, .func (PySem.W.fnOf "second_difference" "second_difference" (defArgs (top 19)) (defBody (top 19)) (defScope (top 19)) .none kV8 dc8 pm8 an8 cd8 ct8), sl8⟩) (c8_ : PySem.W.codeIn K cd8 "second_difference" = true) (k8 : PySem.W.keepIn K (.ref a8) = true)
    {a9 : Addr} {oc9 : Value} {od9 an9 : Option Addr} {sl9 : Array (Option Value)} {kV9 dc9 pm9 cd9 ct9 : Value}
    (n9 : PySem.W.nsIn K mainGlobals "sense_at" = some (some (.ref a9))) (l9 : K.lookup a9 = some ⟨oc9, od9, .func (PySem.W.fnOf "sense_at" "sense_at" (defArgs (top 20)) (defBody (top 20)) (defScope (top 20)) .none kV9 dc9 pm9 an9 cd9 ct9), sl9⟩) (c9_ : PySem.W.codeIn K cd9 "sense_at" = true) (k9 : PySem.W.keepIn K (.ref a9) = true)
    {a10 : Addr} {oc10 : Value} {od10 an10 : Option Addr} {sl10 : Array (Option Value)} {kV10 dc10 pm10 cd10 ct10 : Value}
    (n10 : PySem.W.nsIn K mainGlobals "with_work" = some (some (.ref a10))) (l10 : K.lookup a10 = some ⟨oc10, od10, .func (PySem.W.fnOf "with_work" "with_work" (defArgs (top 21)) (defBody (top 21)) (defScope (top 21)) .none kV10 dc10 pm10 an10 cd10 ct10), sl10⟩) (c10_ : PySem.W.codeIn K cd10 "with_work" = true) (k10 : PySem.W.keepIn K (.ref a10) = true)
    {a11 : Addr} {oc11 : Value} {od11 an11 : Option Addr} {sl11 : Array (Option Value)} {kV11 dc11 pm11 cd11 ct11 : Value}
    (n11 : PySem.W.nsIn K mainGlobals "without_work" = some (some (.ref a11))) (l11 : K.lookup a11 = some ⟨oc11, od11, .func (PySem.W.fnOf "without_work" "without_work" (defArgs (top 22)) (defBody (top 22)) (defScope (top 22)) .none kV11 dc11 pm11 an11 cd11 ct11), sl11⟩) (c11_ : PySem.W.codeIn K cd11 "without_work" = true) (k11 : PySem.W.keepIn K (.ref a11) = true)
    {a12 : Addr} {oc12 : Value} {od12 an12 : Option Addr} {sl12 : Array (Option Value)} {kV12 dc12 pm12 cd12 ct12 : Value}
    (n12 : PySem.W.nsIn K mainGlobals "turned" = some (some (.ref a12))) (l12 : K.lookup a12 = some ⟨oc12, od12, .func (PySem.W.fnOf "turned" "turned" (defArgs (top 23)) (defBody (top 23)) (defScope (top 23)) .none kV12 dc12 pm12 an12 cd12 ct12), sl12⟩) (c12_ : PySem.W.codeIn K cd12 "turned" = true) (k12 : PySem.W.keepIn K (.ref a12) = true)
    {a13 : Addr} {oc13 : Value} {od13 an13 : Option Addr} {sl13 : Array (Option Value)} {kV13 dc13 pm13 cd13 ct13 : Value}
    (n13 : PySem.W.nsIn K mainGlobals "_law_fill" = some (some (.ref a13))) (l13 : K.lookup a13 = some ⟨oc13, od13, .func (PySem.W.fnOf "_law_fill" "_law_fill" (defArgs (top 25)) (defBody (top 25)) (defScope (top 25)) .none kV13 dc13 pm13 an13 cd13 ct13), sl13⟩) (c13_ : PySem.W.codeIn K cd13 "_law_fill" = true) (k13 : PySem.W.keepIn K (.ref a13) = true)
    {a14 : Addr} {oc14 : Value} {od14 an14 : Option Addr} {sl14 : Array (Option Value)} {kV14 dc14 pm14 cd14 ct14 : Value}
    (n14 : PySem.W.nsIn K mainGlobals "_law_take" = some (some (.ref a14))) (l14 : K.lookup a14 = some ⟨oc14, od14, .func (PySem.W.fnOf "_law_take" "_law_take" (defArgs (top 26)) (defBody (top 26)) (defScope (top 26)) .none kV14 dc14 pm14 an14 cd14 ct14), sl14⟩) (c14_ : PySem.W.codeIn K cd14 "_law_take" = true) (k14 : PySem.W.keepIn K (.ref a14) = true)
    {a15 : Addr} {oc15 : Value} {od15 an15 : Option Addr} {sl15 : Array (Option Value)} {kV15 dc15 pm15 cd15 ct15 : Value}
    (n15 : PySem.W.nsIn K mainGlobals "_law_mixed" = some (some (.ref a15))) (l15 : K.lookup a15 = some ⟨oc15, od15, .func (PySem.W.fnOf "_law_mixed" "_law_mixed" (defArgs (top 27)) (defBody (top 27)) (defScope (top 27)) .none kV15 dc15 pm15 an15 cd15 ct15), sl15⟩) (c15_ : PySem.W.codeIn K cd15 "_law_mixed" = true) (k15 : PySem.W.keepIn K (.ref a15) = true)
    {a16 : Addr} {oc16 : Value} {od16 an16 : Option Addr} {sl16 : Array (Option Value)} {kV16 dc16 pm16 cd16 ct16 : Value}
    (n16 : PySem.W.nsIn K mainGlobals "_law_same" = some (some (.ref a16))) (l16 : K.lookup a16 = some ⟨oc16, od16, .func (PySem.W.fnOf "_law_same" "_law_same" (defArgs (top 28)) (defBody (top 28)) (defScope (top 28)) .none kV16 dc16 pm16 an16 cd16 ct16), sl16⟩) (c16_ : PySem.W.codeIn K cd16 "_law_same" = true) (k16 : PySem.W.keepIn K (.ref a16) = true)
    {a17 : Addr} {oc17 : Value} {od17 an17 : Option Addr} {sl17 : Array (Option Value)} {kV17 dc17 pm17 cd17 ct17 : Value}
    (n17 : PySem.W.nsIn K mainGlobals "_law_some_job" = some (some (.ref a17))) (l17 : K.lookup a17 = some ⟨oc17, od17, .func (PySem.W.fnOf "_law_some_job" "_law_some_job" (defArgs (top 29)) (defBody (top 29)) (defScope (top 29)) .none kV17 dc17 pm17 an17 cd17 ct17), sl17⟩) (c17_ : PySem.W.codeIn K cd17 "_law_some_job" = true) (k17 : PySem.W.keepIn K (.ref a17) = true)
    {a18 : Addr} {oc18 : Value} {od18 an18 : Option Addr} {sl18 : Array (Option Value)} {kV18 dc18 pm18 cd18 ct18 : Value}
    (n18 : PySem.W.nsIn K mainGlobals "_law_some_jobs" = some (some (.ref a18))) (l18 : K.lookup a18 = some ⟨oc18, od18, .func (PySem.W.fnOf "_law_some_jobs" "_law_some_jobs" (defArgs (top 30)) (defBody (top 30)) (defScope (top 30)) .none kV18 dc18 pm18 an18 cd18 ct18), sl18⟩) (c18_ : PySem.W.codeIn K cd18 "_law_some_jobs" = true) (k18 : PySem.W.keepIn K (.ref a18) = true)
    {a19 : Addr} {oc19 : Value} {od19 an19 : Option Addr} {sl19 : Array (Option Value)} {kV19 dc19 pm19 cd19 ct19 : Value}
    (n19 : PySem.W.nsIn K mainGlobals "_law_both" = some (some (.ref a19))) (l19 : K.lookup a19 = some ⟨oc19, od19, .func (PySem.W.fnOf "_law_both" "_law_both" (defArgs (top 31)) (defBody (top 31)) (defScope (top 31)) .none kV19 dc19 pm19 an19 cd19 ct19), sl19⟩) (c19_ : PySem.W.codeIn K cd19 "_law_both" = true) (k19 : PySem.W.keepIn K (.ref a19) = true)
    {a20 : Addr} {oc20 : Value} {od20 an20 : Option Addr} {sl20 : Array (Option Value)} {kV20 dc20 pm20 cd20 ct20 : Value}
    (n20 : PySem.W.nsIn K mainGlobals "_law_sign" = some (some (.ref a20))) (l20 : K.lookup a20 = some ⟨oc20, od20, .func (PySem.W.fnOf "_law_sign" "_law_sign" (defArgs (top 32)) (defBody (top 32)) (defScope (top 32)) .none kV20 dc20 pm20 an20 cd20 ct20), sl20⟩) (c20_ : PySem.W.codeIn K cd20 "_law_sign" = true) (k20 : PySem.W.keepIn K (.ref a20) = true)
    {a21 : Addr} {oc21 : Value} {od21 an21 : Option Addr} {sl21 : Array (Option Value)} {kV21 dc21 pm21 cd21 ct21 : Value}
    (n21 : PySem.W.nsIn K mainGlobals "_law_crate_is" = some (some (.ref a21))) (l21 : K.lookup a21 = some ⟨oc21, od21, .func (PySem.W.fnOf "_law_crate_is" "_law_crate_is" (defArgs (top 33)) (defBody (top 33)) (defScope (top 33)) .none kV21 dc21 pm21 an21 cd21 ct21), sl21⟩) (c21_ : PySem.W.codeIn K cd21 "_law_crate_is" = true) (k21 : PySem.W.keepIn K (.ref a21) = true)
    {a22 : Addr} {oc22 : Value} {od22 an22 : Option Addr} {sl22 : Array (Option Value)} {kV22 dc22 pm22 cd22 ct22 : Value}
    (n22 : PySem.W.nsIn K mainGlobals "_law_crate_of" = some (some (.ref a22))) (l22 : K.lookup a22 = some ⟨oc22, od22, .func (PySem.W.fnOf "_law_crate_of" "_law_crate_of" (defArgs (top 34)) (defBody (top 34)) (defScope (top 34)) .none kV22 dc22 pm22 an22 cd22 ct22), sl22⟩) (c22_ : PySem.W.codeIn K cd22 "_law_crate_of" = true) (k22 : PySem.W.keepIn K (.ref a22) = true)
    {a23 : Addr} {oc23 : Value} {od23 an23 : Option Addr} {sl23 : Array (Option Value)} {kV23 dc23 pm23 cd23 ct23 : Value}
    (n23 : PySem.W.nsIn K mainGlobals "_law_box_right" = some (some (.ref a23))) (l23 : K.lookup a23 = some ⟨oc23, od23, .func (PySem.W.fnOf "_law_box_right" "_law_box_right" (defArgs (top 35)) (defBody (top 35)) (defScope (top 35)) .none kV23 dc23 pm23 an23 cd23 ct23), sl23⟩) (c23_ : PySem.W.codeIn K cd23 "_law_box_right" = true) (k23 : PySem.W.keepIn K (.ref a23) = true)
    {a24 : Addr} {oc24 : Value} {od24 an24 : Option Addr} {sl24 : Array (Option Value)} {kV24 dc24 pm24 cd24 ct24 : Value}
    (n24 : PySem.W.nsIn K mainGlobals "_law_exchanged" = some (some (.ref a24))) (l24 : K.lookup a24 = some ⟨oc24, od24, .func (PySem.W.fnOf "_law_exchanged" "_law_exchanged" (defArgs (top 36)) (defBody (top 36)) (defScope (top 36)) .none kV24 dc24 pm24 an24 cd24 ct24), sl24⟩) (c24_ : PySem.W.codeIn K cd24 "_law_exchanged" = true) (k24 : PySem.W.keepIn K (.ref a24) = true)
    {a25 : Addr} {oc25 : Value} {od25 an25 : Option Addr} {sl25 : Array (Option Value)} {kV25 dc25 pm25 cd25 ct25 : Value}
    (n25 : PySem.W.nsIn K mainGlobals "_law_all_right" = some (some (.ref a25))) (l25 : K.lookup a25 = some ⟨oc25, od25, .func (PySem.W.fnOf "_law_all_right" "_law_all_right" (defArgs (top 37)) (defBody (top 37)) (defScope (top 37)) .none kV25 dc25 pm25 an25 cd25 ct25), sl25⟩) (c25_ : PySem.W.codeIn K cd25 "_law_all_right" = true) (k25 : PySem.W.keepIn K (.ref a25) = true)
    {a26 : Addr} {oc26 : Value} {od26 an26 : Option Addr} {sl26 : Array (Option Value)} {kV26 dc26 pm26 cd26 ct26 : Value}
    (n26 : PySem.W.nsIn K mainGlobals "law" = some (some (.ref a26))) (l26 : K.lookup a26 = some ⟨oc26, od26, .func (PySem.W.fnOf "law" "law" (defArgs (top 38)) (defBody (top 38)) (defScope (top 38)) .none kV26 dc26 pm26 an26 cd26 ct26), sl26⟩) (c26_ : PySem.W.codeIn K cd26 "law" = true) (k26 : PySem.W.keepIn K (.ref a26) = true)
    {a27 : Addr} {oc27 : Value} {od27 an27 : Option Addr} {sl27 : Array (Option Value)} {kV27 dc27 pm27 cd27 ct27 : Value}
    (n27 : PySem.W.findIn K (.ref C0) "__init__" = some (some (.ref a27))) (i27 : PySem.W.isFn K (.ref a27) = true)
    (l27 : K.lookup a27 = some ⟨oc27, od27, .func (PySem.W.fnOf "__init__" "Box.__init__" (defArgs (inClass (top 13) 0)) (defBody (inClass (top 13) 0)) (defScope (inClass (top 13) 0)) .none kV27 dc27 pm27 an27 cd27 ct27), sl27⟩) (c27_ : PySem.W.codeIn K cd27 "Box.__init__" = true) (k27 : PySem.W.keepIn K (.ref a27) = true)
    {a28 : Addr} {oc28 : Value} {od28 an28 : Option Addr} {sl28 : Array (Option Value)} {kV28 dc28 pm28 cd28 ct28 : Value}
    {p28 : Addr} {rs28 : List Value} (n28 : PySem.W.findIn K (.ref C0) "shafts" = some (some (.ref p28))) (pg28 : PySem.W.specialIn K (.ref p28) "__get__" = some (some (.builtin "property.__get__"))) (pt28 : PySem.W.takesIn K (.ref p28) = some true) (pr28 : PySem.W.recIn K p28 "property" = some (.ref a28 :: rs28))
    (l28 : K.lookup a28 = some ⟨oc28, od28, .func (PySem.W.fnOf "shafts" "Box.shafts" (defArgs (inClass (top 13) 1)) (defBody (inClass (top 13) 1)) (defScope (inClass (top 13) 1)) .none kV28 dc28 pm28 an28 cd28 ct28), sl28⟩) (c28_ : PySem.W.codeIn K cd28 "Box.shafts" = true) (k28 : PySem.W.keepIn K (.ref a28) = true)
    {a29 : Addr} {oc29 : Value} {od29 an29 : Option Addr} {sl29 : Array (Option Value)} {kV29 dc29 pm29 cd29 ct29 : Value}
    {p29 : Addr} {rs29 : List Value} (n29 : PySem.W.findIn K (.ref C0) "works" = some (some (.ref p29))) (pg29 : PySem.W.specialIn K (.ref p29) "__get__" = some (some (.builtin "property.__get__"))) (pt29 : PySem.W.takesIn K (.ref p29) = some true) (pr29 : PySem.W.recIn K p29 "property" = some (.ref a29 :: rs29))
    (l29 : K.lookup a29 = some ⟨oc29, od29, .func (PySem.W.fnOf "works" "Box.works" (defArgs (inClass (top 13) 2)) (defBody (inClass (top 13) 2)) (defScope (inClass (top 13) 2)) .none kV29 dc29 pm29 an29 cd29 ct29), sl29⟩) (c29_ : PySem.W.codeIn K cd29 "Box.works" = true) (k29 : PySem.W.keepIn K (.ref a29) = true)
    {a30 : Addr} {oc30 : Value} {od30 an30 : Option Addr} {sl30 : Array (Option Value)} {kV30 dc30 pm30 cd30 ct30 : Value}
    (n30 : PySem.W.findIn K (.ref C0) "__len__" = some (some (.ref a30))) (i30 : PySem.W.isFn K (.ref a30) = true)
    (l30 : K.lookup a30 = some ⟨oc30, od30, .func (PySem.W.fnOf "__len__" "Box.__len__" (defArgs (inClass (top 13) 3)) (defBody (inClass (top 13) 3)) (defScope (inClass (top 13) 3)) .none kV30 dc30 pm30 an30 cd30 ct30), sl30⟩) (c30_ : PySem.W.codeIn K cd30 "Box.__len__" = true) (k30 : PySem.W.keepIn K (.ref a30) = true)
    {a31 : Addr} {oc31 : Value} {od31 an31 : Option Addr} {sl31 : Array (Option Value)} {kV31 dc31 pm31 cd31 ct31 : Value}
    (n31 : PySem.W.findIn K (.ref C0) "__eq__" = some (some (.ref a31))) (i31 : PySem.W.isFn K (.ref a31) = true)
    (l31 : K.lookup a31 = some ⟨oc31, od31, .func (PySem.W.fnOf "__eq__" "Box.__eq__" (defArgs (inClass (top 13) 5)) (defBody (inClass (top 13) 5)) (defScope (inClass (top 13) 5)) .none kV31 dc31 pm31 an31 cd31 ct31), sl31⟩) (c31_ : PySem.W.codeIn K cd31 "Box.__eq__" = true) (k31 : PySem.W.keepIn K (.ref a31) = true)
    (z0 : PySem.W.nsIn K mainGlobals "isinstance" = some none)
    (z1 : PySem.W.nsIn K mainGlobals "int" = some none)
    (z2 : PySem.W.nsIn K mainGlobals "bool" = some none)
    (z3 : PySem.W.nsIn K mainGlobals "tuple" = some none)
    (z4 : PySem.W.nsIn K mainGlobals "str" = some none)
    (z5 : PySem.W.nsIn K mainGlobals "len" = some none)
    (z6 : PySem.W.nsIn K mainGlobals "set" = some none)
    (z7 : PySem.W.nsIn K mainGlobals "list" = some none)
    (z8 : PySem.W.nsIn K mainGlobals "max" = some none)
    (z9 : PySem.W.nsIn K mainGlobals "range" = some none)
    (z10 : PySem.W.nsIn K mainGlobals "repr" = some none)
    (z11 : PySem.W.nsIn K mainGlobals "all" = some none)
    {e0 : Addr} (xn0 : PySem.W.nsIn K mainGlobals "InvalidShafts" = some (some (.ref e0))) (xk0 : PySem.W.keepIn K (.ref e0) = true) (xb0 : PySem.W.subIn K (.ref e0) (.type "BaseException") = some true) (xt0 : PySem.W.typeIn K (.ref e0) = some (.type "type"))
    (xe0 : PySem.W.excIn K e0 [.type "ValueError", .type "Exception", .type "BaseException", .type "object"] "ValueError.__new__" = true) (xg0 : PySem.W.findIn K (.ref e0) "__getattribute__" = some (some (.builtin "BaseException.__getattribute__"))) (xh0 : PySem.W.findIn K (.ref e0) "__getattr__" = some none)
    (xd0 : PySem.W.hasDictIn K e0 = true) (xa0 : PySem.W.findIn K (.ref e0) "__class__" = some (some (.builtin "object.__class__"))) (xm0 : PySem.W.mroIn K e0 (.type "object") = some true)
    {e1 : Addr} (xn1 : PySem.W.nsIn K mainGlobals "InvalidBox" = some (some (.ref e1))) (xk1 : PySem.W.keepIn K (.ref e1) = true) (xb1 : PySem.W.subIn K (.ref e1) (.type "BaseException") = some true) (xt1 : PySem.W.typeIn K (.ref e1) = some (.type "type"))
    (xe1 : PySem.W.excIn K e1 [.type "ValueError", .type "Exception", .type "BaseException", .type "object"] "ValueError.__new__" = true) (xg1 : PySem.W.findIn K (.ref e1) "__getattribute__" = some (some (.builtin "BaseException.__getattribute__"))) (xh1 : PySem.W.findIn K (.ref e1) "__getattr__" = some none)
    (xd1 : PySem.W.hasDictIn K e1 = true) (xa1 : PySem.W.findIn K (.ref e1) "__class__" = some (some (.builtin "object.__class__"))) (xm1 : PySem.W.mroIn K e1 (.type "object") = some true)
    {e2 : Addr} (xn2 : PySem.W.nsIn K mainGlobals "InvalidIndex" = some (some (.ref e2))) (xk2 : PySem.W.keepIn K (.ref e2) = true) (xb2 : PySem.W.subIn K (.ref e2) (.type "BaseException") = some true) (xt2 : PySem.W.typeIn K (.ref e2) = some (.type "type"))
    (xe2 : PySem.W.excIn K e2 [.type "ValueError", .type "Exception", .type "BaseException", .type "object"] "ValueError.__new__" = true) (xg2 : PySem.W.findIn K (.ref e2) "__getattribute__" = some (some (.builtin "BaseException.__getattribute__"))) (xh2 : PySem.W.findIn K (.ref e2) "__getattr__" = some none)
    (xd2 : PySem.W.hasDictIn K e2 = true) (xa2 : PySem.W.findIn K (.ref e2) "__class__" = some (some (.builtin "object.__class__"))) (xm2 : PySem.W.mroIn K e2 (.type "object") = some true)
    {e3 : Addr} (xn3 : PySem.W.nsIn K mainGlobals "InvalidWork" = some (some (.ref e3))) (xk3 : PySem.W.keepIn K (.ref e3) = true) (xb3 : PySem.W.subIn K (.ref e3) (.type "BaseException") = some true) (xt3 : PySem.W.typeIn K (.ref e3) = some (.type "type"))
    (xe3 : PySem.W.excIn K e3 [.type "ValueError", .type "Exception", .type "BaseException", .type "object"] "ValueError.__new__" = true) (xg3 : PySem.W.findIn K (.ref e3) "__getattribute__" = some (some (.builtin "BaseException.__getattribute__"))) (xh3 : PySem.W.findIn K (.ref e3) "__getattr__" = some none)
    (xd3 : PySem.W.hasDictIn K e3 = true) (xa3 : PySem.W.findIn K (.ref e3) "__class__" = some (some (.builtin "object.__class__"))) (xm3 : PySem.W.mroIn K e3 (.type "object") = some true)
    (bp0 : PySem.W.plainGet K C0 Str.empty = true) (bd0 : PySem.W.hasDictIn K C0 = true) (bo0 : PySem.W.plainOver K C0 = true) (bs0 : PySem.W.findIn K (.ref C0) "__setattr__" = some (some (.builtin "object.__setattr__"))) (bm0 : PySem.W.makesIn K C0 = true) (bk0 : PySem.W.keepIn K (.ref C0) = true)
    (ba0 : PySem.W.findIn K (.ref C0) "__class__" = some (some (.builtin "object.__class__"))) (bo_0 : PySem.W.mroIn K C0 (.type "object") = some true) (bf0 : PySem.W.selfFirst K C0 = true) (bt0 : PySem.W.typeIn K (.ref C0) = some (.type "type"))
    (be0 : PySem.W.findIn K (.ref C0) "__ne__" = some (some (.builtin "object.__ne__")))
    (bx0_0 : PySem.W.findIn K (.ref C0) "many" = some none)
    (bx0_1 : PySem.W.findIn K (.ref C0) "row" = some none)
    {u0 : Addr} {ue0 : Array DictEntry} {uk0 : Nat} (un0 : PySem.W.nsIn K mainGlobals "WORK_SIZES" = some (some (.ref u0))) (ul0 : K.lookup u0 = some ⟨.type "dict", none, .dict ue0 uk0, #[]⟩) (uo0 : (u0 == sysModules) = false) (us0 : ConEs W.params ue0.toList [("planet", 4), ("double", 4), ("pair", 3), ("band", 3)])
    (xs : PySem.W.specialIn K (.builtin "object.__class__") "__get__" = some (some (.builtin "getset_descriptor.__get__"))) (xu : PySem.W.takesIn K (.builtin "object.__class__") = some true)
    : ∃ ca : Nat → Addr, (∀ e ∈ T.fns, FnI P K mg T tbl e) ∧ (∀ x ∈ T.blt, mg x = none) ∧ TxF T ca tbl W K mg := by
  have E0 : ErC K e0 := ⟨xk0, xb0, xt0, xe0, ⟨xg0, xh0, xb0, xd0, xa0, xs, xu, xm0⟩⟩
  have E1 : ErC K e1 := ⟨xk1, xb1, xt1, xe1, ⟨xg1, xh1, xb1, xd1, xa1, xs, xu, xm1⟩⟩
  have E2 : ErC K e2 := ⟨xk2, xb2, xt2, xe2, ⟨xg2, xh2, xb2, xd2, xa2, xs, xu, xm2⟩⟩
  have E3 : ErC K e3 := ⟨xk3, xb3, xt3, xe3, ⟨xg3, xh3, xb3, xd3, xa3, xs, xu, xm3⟩⟩
  refine ⟨fun i => ([C0, e0, e1, e2, e3] : List Addr).getD i 0, ?_, ?_, ?_⟩
  · intro e he
    simp only [T, List.mem_cons, List.not_mem_nil, or_false] at he
    rcases he with rfl | rfl | rfl | rfl | rfl | rfl | rfl | rfl | rfl | rfl | rfl | rfl | rfl | rfl | rfl | rfl | rfl | rfl | rfl | rfl | rfl | rfl | rfl | rfl | rfl | rfl | rfl
    · refine fnI_of (st := top 7) X G sc0 ok0 rfl (fun _ _ _ _ _ _ us hl => match us, hl with | [_], _ => rfl) ?_ n0 l0 c0_ k0
      intro kw hk
      exact nomatch hk
    · refine fnI_of (st := top 8) X G sc1 ok1 rfl (fun _ _ _ _ _ _ us hl => match us, hl with | [_], _ => rfl) ?_ n1 l1 c1_ k1
      intro kw hk
      exact nomatch hk
    · refine fnI_of (st := top 11) X G sc2 ok2 rfl (fun _ _ _ _ _ _ us hl => match us, hl with | [_, _], _ => rfl) ?_ n2 l2 c2_ k2
      intro kw hk
      exact nomatch hk
    · refine fnI_of (st := top 14) X G sc3 ok3 rfl (fun _ _ _ _ _ _ us hl => match us, hl with | [_], _ => rfl) ?_ n3 l3 c3_ k3
      intro kw hk
      exact nomatch hk
    · refine fnI_of (st := top 15) X G sc4 ok4 rfl (fun _ _ _ _ _ _ us hl => match us, hl with | [_, _], _ => rfl) ?_ n4 l4 c4_ k4
      intro kw hk
      exact nomatch hk
    · refine fnI_of (st := top 16) X G sc5 ok5 rfl (fun _ _ _ _ _ _ us hl => match us, hl with | [_], _ => rfl) ?_ n5 l5 c5_ k5
      intro kw hk
      exact nomatch hk
    · refine fnI_of (st := top 17) X G sc6 ok6 rfl (fun _ _ _ _ _ _ us hl => match us, hl with | [_], _ => rfl) ?_ n6 l6 c6_ k6
      intro kw hk
      exact nomatch hk
    · refine fnI_of (st := top 18) X G sc7 ok7 rfl (fun _ _ _ _ _ _ us hl => match us, hl with | [_, _], _ => rfl) ?_ n7 l7 c7_ k7
      intro kw hk
      exact nomatch hk
    · refine fnI_of (st := top 19) X G sc8 ok8 rfl (fun _ _ _ _ _ _ us hl => match us, hl with | [_, _], _ => rfl) ?_ n8 l8 c8_ k8
      intro kw hk
      exact nomatch hk
    · refine fnI_of (st := top 20) X G sc9 ok9 rfl (fun _ _ _ _ _ _ us hl => match us, hl with | [_, _], _ => rfl) ?_ n9 l9 c9_ k9
      intro kw hk
      exact nomatch hk
    · refine fnI_of (st := top 21) X G sc10 ok10 rfl (fun _ _ _ _ _ _ us hl => match us, hl with | [_, _], _ => rfl) ?_ n10 l10 c10_ k10
      intro kw hk
      simp only [List.mem_cons, List.not_mem_nil, or_false] at hk
      rcases hk with rfl
      · exact fun _ _ _ _ _ _ us ws hu hw => match us, ws, hu, hw with | [], [_, _], _, _ => rfl
    · refine fnI_of (st := top 22) X G sc11 ok11 rfl (fun _ _ _ _ _ _ us hl => match us, hl with | [_, _], _ => rfl) ?_ n11 l11 c11_ k11
      intro kw hk
      simp only [List.mem_cons, List.not_mem_nil, or_false] at hk
      rcases hk with rfl
      · exact fun _ _ _ _ _ _ us ws hu hw => match us, ws, hu, hw with | [], [_, _], _, _ => rfl
    · refine fnI_of (st := top 23) X G sc12 ok12 rfl (fun _ _ _ _ _ _ us hl => match us, hl with | [_, _], _ => rfl) ?_ n12 l12 c12_ k12
      intro kw hk
      simp only [List.mem_cons, List.not_mem_nil, or_false] at hk
      rcases hk with rfl
      · exact fun _ _ _ _ _ _ us ws hu hw => match us, ws, hu, hw with | [], [_, _], _, _ => rfl
    · refine fnI_of (st := top 25) X G sc13 ok13 rfl (fun _ _ _ _ _ _ us hl => match us, hl with | [_], _ => rfl) ?_ n13 l13 c13_ k13
      intro kw hk
      exact nomatch hk
    · refine fnI_of (st := top 26) X G sc14 ok14 rfl (fun _ _ _ _ _ _ us hl => match us, hl with | [_, _], _ => rfl) ?_ n14 l14 c14_ k14
      intro kw hk
      exact nomatch hk
    · refine fnI_of (st := top 27) X G sc15 ok15 rfl (fun _ _ _ _ _ _ us hl => match us, hl with | [_, _], _ => rfl) ?_ n15 l15 c15_ k15
      intro kw hk
      exact nomatch hk
    · refine fnI_of (st := top 28) X G sc16 ok16 rfl (fun _ _ _ _ _ _ us hl => match us, hl with | [_, _], _ => rfl) ?_ n16 l16 c16_ k16
      intro kw hk
      exact nomatch hk
    · refine fnI_of (st := top 29) X G sc17 ok17 rfl (fun _ _ _ _ _ _ us hl => match us, hl with | [_, _], _ => rfl) ?_ n17 l17 c17_ k17
      intro kw hk
      exact nomatch hk
    · refine fnI_of (st := top 30) X G sc18 ok18 rfl (fun _ _ _ _ _ _ us hl => match us, hl with | [_, _, _], _ => rfl) ?_ n18 l18 c18_ k18
      intro kw hk
      exact nomatch hk
    · refine fnI_of (st := top 31) X G sc19 ok19 rfl (fun _ _ _ _ _ _ us hl => match us, hl with | [_], _ => rfl) ?_ n19 l19 c19_ k19
      intro kw hk
      exact nomatch hk
    · refine fnI_of (st := top 32) X G sc20 ok20 rfl (fun _ _ _ _ _ _ us hl => match us, hl with | [_], _ => rfl) ?_ n20 l20 c20_ k20
      intro kw hk
      exact nomatch hk
    · refine fnI_of (st := top 33) X G sc21 ok21 rfl (fun _ _ _ _ _ _ us hl => match us, hl with | [_, _, _], _ => rfl) ?_ n21 l21 c21_ k21
      intro kw hk
      exact nomatch hk
    · refine fnI_of (st := top 34) X G sc22 ok22 rfl (fun _ _ _ _ _ _ us hl => match us, hl with | [_, _], _ => rfl) ?_ n22 l22 c22_ k22
      intro kw hk
      exact nomatch hk
    · refine fnI_of (st := top 35) X G sc23 ok23 rfl (fun _ _ _ _ _ _ us hl => match us, hl with | [_, _, _], _ => rfl) ?_ n23 l23 c23_ k23
      intro kw hk
      exact nomatch hk
    · refine fnI_of (st := top 36) X G sc24 ok24 rfl (fun _ _ _ _ _ _ us hl => match us, hl with | [_, _], _ => rfl) ?_ n24 l24 c24_ k24
      intro kw hk
      exact nomatch hk
    · refine fnI_of (st := top 37) X G sc25 ok25 rfl (fun _ _ _ _ _ _ us hl => match us, hl with | [_, _], _ => rfl) ?_ n25 l25 c25_ k25
      intro kw hk
      exact nomatch hk
    · refine fnI_of (st := top 38) X G sc26 ok26 rfl (fun _ _ _ _ _ _ us hl => match us, hl with | [_], _ => rfl) ?_ n26 l26 c26_ k26
      intro kw hk
      exact nomatch hk
  · intro x hx
    simp only [T, List.mem_cons, List.not_mem_nil, or_false] at hx
    rcases hx with rfl | rfl | rfl | rfl | rfl | rfl | rfl | rfl | rfl | rfl | rfl | rfl
    · exact PySem.W.mg_none_of X G z0
    · exact PySem.W.mg_none_of X G z1
    · exact PySem.W.mg_none_of X G z2
    · exact PySem.W.mg_none_of X G z3
    · exact PySem.W.mg_none_of X G z4
    · exact PySem.W.mg_none_of X G z5
    · exact PySem.W.mg_none_of X G z6
    · exact PySem.W.mg_none_of X G z7
    · exact PySem.W.mg_none_of X G z8
    · exact PySem.W.mg_none_of X G z9
    · exact PySem.W.mg_none_of X G z10
    · exact PySem.W.mg_none_of X G z11
  · refine ⟨⟨fun p hp => ?_, fun p hp => ?_⟩, fun c hc => ?_, fun e he => ?_⟩
    · simp only [T, List.mem_cons, List.not_mem_nil, or_false] at hp
      rcases hp with rfl | rfl | rfl | rfl
      · exact ⟨PySem.W.mg_of X G xn0, E0⟩
      · exact ⟨PySem.W.mg_of X G xn1, E1⟩
      · exact ⟨PySem.W.mg_of X G xn2, E2⟩
      · exact ⟨PySem.W.mg_of X G xn3, E3⟩
    · simp only [T, subs, List.mem_cons, List.not_mem_nil, or_false] at hp
    · simp only [T, List.mem_cons, List.not_mem_nil, or_false] at hc
      rcases hc with rfl
      · refine ⟨PySem.W.mg_of X G bn0, bk0, ⟨bp0, bd0, bo0, bs0⟩, fun f hf => ?_, fun m hm => ?_, fun m hm => ?_, fun m hm => ?_, ba0, xs, xu, bo_0, bf0, bt0, fun m hm e => ?_⟩
        · have hf : f ∈ (["many", "row"] : List Str) := hf
          simp only [List.mem_cons, List.not_mem_nil, or_false] at hf
          rcases hf with rfl | rfl
          · exact bx0_0
          · exact bx0_1
        · have hm : m ∈ ([g27] : List MtE) := hm
          simp only [List.mem_cons, List.not_mem_nil, or_false] at hm
          rcases hm with rfl
          · exact ⟨_, ⟨bm0, n27, i27, bk0⟩, fnS_of (st := (inClass (top 13) 0)) (qual := "Box.__init__") sc27 ok27 rfl (fun _ _ _ _ _ _ us hl => match us, hl with | [_, _, _], _ => rfl) l27 c27_ k27⟩
        · have hm : m ∈ ([g28, g29] : List MtE) := hm
          simp only [List.mem_cons, List.not_mem_nil, or_false] at hm
          rcases hm with rfl | rfl
          · exact ⟨_, _, ⟨n28, pg28, pt28, ⟨_, pr28⟩⟩, fnS_of (st := (inClass (top 13) 1)) (qual := "Box.shafts") sc28 ok28 rfl (fun _ _ _ _ _ _ us hl => match us, hl with | [_], _ => rfl) l28 c28_ k28⟩
          · exact ⟨_, _, ⟨n29, pg29, pt29, ⟨_, pr29⟩⟩, fnS_of (st := (inClass (top 13) 2)) (qual := "Box.works") sc29 ok29 rfl (fun _ _ _ _ _ _ us hl => match us, hl with | [_], _ => rfl) l29 c29_ k29⟩
        · have hm : m ∈ ([g30, g31] : List MtE) := hm
          simp only [List.mem_cons, List.not_mem_nil, or_false] at hm
          rcases hm with rfl | rfl
          · exact ⟨_, ⟨n30, i30, k30⟩, fnS_of (st := (inClass (top 13) 3)) (qual := "Box.__len__") sc30 ok30 rfl (fun _ _ _ _ _ _ us hl => match us, hl with | [_], _ => rfl) l30 c30_ k30⟩
          · exact ⟨_, ⟨n31, i31, k31⟩, fnS_of (st := (inClass (top 13) 5)) (qual := "Box.__eq__") sc31 ok31 rfl (fun _ _ _ _ _ _ us hl => match us, hl with | [_, _], _ => rfl) l31 c31_ k31⟩
        · have hm : m ∈ ([g30, g31] : List MtE) := hm
          exact be0
    · simp only [T, List.mem_cons, List.not_mem_nil, or_false] at he
      rcases he with rfl
      · exact conF_of X G un0 ul0 uo0 us0
end K11

namespace K11
open PySem PySem.Spec L2 Vm
theorem h0 : tbl 0 = some (NIsInt, dIsInt) := rfl
theorem h1 : tbl 1 = some (NCheckS, dChkS 0 1) := rfl
theorem h2 : tbl 2 = some (NFits, dFits 0) := rfl
theorem h3 : tbl 3 = some (NChkB, dChkB 2) := rfl
theorem h4 : tbl 4 = some (NChkA, dChkA 0 30 3) := rfl
theorem h5 : tbl 5 = some (NWk, dDiffs) := rfl
theorem h6 : tbl 6 = some (NWk, dSense) := rfl
theorem h7 : tbl 7 = some (NAt, dFirst 3 4 5 29 0) := rfl
theorem h8 : tbl 8 = some (NAt, dFirst 3 4 5 29 1) := rfl
theorem h9 : tbl 9 = some (NAt, dSenseAt 3 4 6 29) := rfl
theorem h10 : tbl 10 = some (NWith, dWith 3 2 27 28 29 4) := rfl
theorem h11 : tbl 11 = some (NLess, dLess 3 4 27 28 29) := rfl
theorem h12 : tbl 12 = some (NTurn, dTurn 3 4 27 28 29) := rfl
theorem h13 : tbl 13 = some (NFill, dFill) := rfl
theorem h14 : tbl 14 = some (NTake, dTake) := rfl
theorem h15 : tbl 15 = some (NMixed, dMixed 14) := rfl
theorem h16 : tbl 16 = some (NSame, dSame) := rfl
theorem h17 : tbl 17 = some (NJob, dJob 14 15) := rfl
theorem h18 : tbl 18 = some (NJobs, dJobs 14 17) := rfl
theorem h19 : tbl 19 = some (NJv, dDiffs) := rfl
theorem h20 : tbl 20 = some (NJv, dSign) := rfl
theorem h21 : tbl 21 = some (NCis, dCis 16 28 29 30) := rfl
theorem h22 : tbl 22 = some (NCof, dCof 27) := rfl
theorem h23 : tbl 23 = some (NRight, dRight 21 16 19 20 7 8 9) := rfl
theorem h24 : tbl 24 = some (NExc, dExc) := rfl
theorem h27 : tbl 27 = some (NInit, dInit 1 2 4) := rfl
theorem h28 : tbl 28 = some (NSelf, dShafts) := rfl
theorem h29 : tbl 29 = some (NSelf, dWorks) := rfl
theorem h30 : tbl 30 = some (NSelf, dLenB) := rfl
theorem h31 : tbl 31 = some (NEqB, dEqB 28 29) := rfl
theorem ats : Ats tbl 0 3 30 4 29 5 6 0 7 8 9 := ⟨h0, ⟨_, h3⟩, h30, ⟨_, h4⟩, h29, h5, h6, h7, h8, h9⟩
/-- a box beside its works -/
def pB (s : Int) (l : List D) : D := .tup [boxD s l, .lst false l]
def OkL (s : Int) (l : List D) : Prop := (∀ j ∈ l, Job s j) ∧ l.length ≤ 100
theorem pB_clean {s : Int} {l : List D} (h : OkL s l) : clean (pB s l) = true := by
  have := jobs_clean h.1
  show (clean (boxD s l) && (cleans l && true)) = true
  rw [cl_box this, this]; rfl
theorem pBs_clean {s : Int} {ls : List (List D)} (h : ∀ l ∈ ls, OkL s l) : cleans (ls.map (pB s)) = true := by
  induction ls with
  | nil => rfl
  | cons l ls ih => show (clean (pB s l) && cleans (ls.map (pB s))) = true; rw [pB_clean (h l List.mem_cons_self), ih fun x hx => h x (List.mem_cons_of_mem _ hx)]; rfl
theorem pBs_free {s : Int} {ls : List (List D)} (h : ∀ l ∈ ls, OkL s l) : frees (ls.map (pB s)) = true := frees_of_cleans (pBs_clean h)
theorem right_ok {s : Int} (h0 : 1 ≤ s) (hs : s ≤ 1000) {l : List D} (h : OkL s l) (k : Nat) (tt : Bool) : callN tbl (k + 5) 23 [boxD s l, .int s, .lst tt l] [] = .ok (.bl true) [] :=
  right_sp ats h16 h19 h20 h28 h21 h23 k (by omega) hs h.1 (by have := h.2; omega) tt
def NAll2 : List Str := ["span", "held", "crate", "jobs"]
noncomputable def dAll2 : SDen := (sRet (cBlt bAll (aCons (cLc false [2, 3] (iSeq (cVar 1)) (gTp 2 (gNs (gNm 2) (gNs (gNm 3) gN0))) tYesD (cPure 23 3 (aCons (cVar 2) (aCons (cVar 0) (aCons (cVar 3) aNil))))) aNil)))
theorem h25 : tbl 25 = some (NAll2, dAll2) := rfl
theorem allR_ok {s : Int} (h0 : 1 ≤ s) (hs : s ≤ 1000) {ls : List (List D)} (h : ∀ l ∈ ls, OkL s l) (hz : ls.length ≤ 1000) (k : Nat) (tt : Bool) : callN tbl (k + 6) 25 [.int s, .lst tt (ls.map (pB s))] [] = .ok (.bl true) [] := by
  have lf4 : lift [] (.ok (.bl true) []) = .ok (.bl true) [] := rfl
  have cm := comp_fm (chk := fun _ => True) (t := gTp 2 (gNs (gNm 2) (gNs (gNm 3) gN0))) (c := tYesD) (e := cPure 23 3 (aCons (cVar 2) (aCons (cVar 0) (aCons (cVar 3) aNil)))) (cal := callN tbl (k + 5)) (ρ := [some (.int s), some (.lst tt (ls.map (pB s))), none, none]) (M := []) (fun _ => true) (fun _ => .bl true) trivial (ds := ls.map (pB s)) (fun d hd => by
    obtain ⟨l, hl, rfl⟩ := List.mem_map.mp hd
    have O := h l hl
    refine ⟨[some (.int s), some (.lst tt (ls.map (pB s))), some (boxD s l), some (.lst false l)], rfl, rfl, fun _ => ?_⟩
    have fb := fr_box (s := s) (jobs_free O.1)
    have fl := jobs_free O.1
    have e := right_ok h0 hs O k false
    simp only [ap_pure, ap_acons, ap_anil, ap_var, sl0, slS, R.opt_some, R.ok_bind, List.length_cons, List.length_nil, Nat.zero_add, Nat.reduceAdd, List.map_cons, List.map_nil, view_box, view_int', view_lst', fr_cons, fr_int, fr_lst, fl, fb, fr_nil, Bool.and_self, and_self, if_true, e, lf4])
  have fm : (ls.map (pB s)).filter (fun _ => true) = ls.map (pB s) := List.filter_eq_self.mpr fun _ _ => rfl
  rw [fm, List.map_map] at cm
  have e2 : ls.map ((fun _ => D.bl true) ∘ pB s) = (List.replicate ls.length true).map D.bl := by
    clear cm fm h hz
    induction ls with
    | nil => rfl
    | cons l ls ih => rw [List.map_cons, List.length_cons, List.replicate_succ, List.map_cons, ih]; rfl
  rw [e2] at cm
  have ab := all_bls (List.replicate ls.length true) false []
  have at_ : (List.replicate ls.length true).all id = true := List.all_eq_true.mpr fun x hx => by rw [(List.mem_replicate.mp hx).2]; rfl
  rw [at_] at ab
  have sz : (ls.map (pB s)).length ≤ sizeLine := by rw [List.length_map, sizeLine_eq]; omega
  have it : iSeq (cVar 1) (callN tbl (k + 5)) [some (.int s), some (.lst tt (ls.map (pB s))), none, none] [] = .ok ⟨ls.map (pB s), fun _ => True⟩ [] := rfl
  have wp : wipeD [some (.int s), some (.lst tt (ls.map (pB s))), none, none] [2, 3] = [some (.int s), some (.lst tt (ls.map (pB s))), none, none] := rfl
  rw [callN_of h25]
  show finD 0 (dAll2 (callN tbl (k + 5)) [some (.int s), some (.lst tt (ls.map (pB s))), none, none] []) = _
  unfold dAll2
  rw [ap_ret, ap_blt, ap_acons, ap_lc, it, R.ok_bind, if_pos sz, wp, cm]
  simp only [R.ok_bind, newF, ap_anil, List.map_cons, List.map_nil, view_lst', ab, SR.of_ok]
  rfl
noncomputable def bJar : SDen := sSet 3 (cPure 13 1 (aCons (cVar 2) aNil))
noncomputable def bSpan : SDen := sSet 4 (cBin addD (cC (.int 2)) (cCall 14 2 (aCons (cVar 3) (aCons (cC (.int 7)) aNil))))
noncomputable def bJobs : SDen := sSet 5 (cFrz (cCall 18 3 (aCons (cVar 3) (aCons (cVar 4) (aCons (cCall 14 2 (aCons (cVar 3) (aCons (cC (.int 6)) aNil))) aNil)))))
noncomputable def bCrate : SDen := sSet 6 (cPure 22 2 (aCons (cVar 4) (aCons (cVar 5) aNil)))
noncomputable def bDraw (i : Nat) : SDen := sSet i (cCall 17 2 (aCons (cVar 3) (aCons (cVar 4) aNil)))
noncomputable def bMore : SDen := sSet 9 (cPure 10 2 (aCons (cVar 6) (aCons (cVar 7) aNil)))
noncomputable def cApp (i j : Nat) : Den := cBin addD (cVar i) (cLst false (aCons (cVar j) aNil))
noncomputable def bWide : SDen := sSet 10 (cApp 5 7)
noncomputable def bHeld : SDen := sSet 11 (cLst true (aCons (cTup (aCons (cVar 6) (aCons (cVar 5) aNil))) (aCons (cTup (aCons (cVar 9) (aCons (cVar 10) aNil))) (aCons (cTup (aCons (cPure 10 2 (aKw 0 2 [1, 0] aNil (aCons (cVar 8) (aCons (cVar 6) aNil)))) (aCons (cApp 5 8) aNil))) aNil))))
noncomputable def rF : SDen := sRet (cC (.bl false))
noncomputable def bRow : SDen := sSet 14 (cBin addD (cSl false (cVar 10) oNone (oSome (cVar 12))) (cSl false (cVar 10) (oSome (cBin addD (cVar 12) (cC (.int 1)))) oNone))
noncomputable def bLess : SDen := sSet 15 (cPure 11 2 (aCons (cVar 9) (aCons (cVar 12) aNil)))
noncomputable def bOver : SDen := sSet 16 (cPure 12 2 (aCons (cVar 9) (aCons (cVar 12) aNil)))
noncomputable def bCat : SDen := sSet 11 (cCat (cVar 11) (cLst false (aCons (cTup (aCons (cVar 15) (aCons (cVar 14) aNil))) (aCons (cTup (aCons (cVar 16) (aCons (cFrz (cPure 24 2 (aCons (cVar 10) (aCons (cVar 12) aNil)))) aNil))) aNil))))
noncomputable def bApp : SDen := sExpr (cMt mAppend (cVar 11) (aCons (cTup (aCons (cPure 10 2 (aCons (cVar 15) (aCons (cVar 8) aNil))) (aCons (cApp 14 8) aNil))) aNil))
noncomputable def bI1 : SDen := sIf (tNot (tTru (cPure 21 3 (aCons (cPure 11 2 (aKw 0 2 [1, 0] aNil (aCons (cVar 12) (aCons (cVar 9) aNil)))) (aCons (cVar 4) (aCons (cVar 14) aNil)))))) rF sNil
noncomputable def bI2 : SDen := sIf (tOr (tEqO true 0 31 (cPure 12 2 (aKw 0 2 [1, 0] aNil (aCons (cVar 12) (aCons (cVar 16) aNil)))) (cVar 9)) (tEqO false 0 31 (cVar 16) (cVar 9))) rF sNil
noncomputable def bI3 : SDen := sIf (tNot (tTru (cPure 25 2 (aCons (cVar 4) (aCons (cSl false (cVar 11) (oSome (cNeg (cC (.int 3)))) oNone) aNil))))) rF sNil
noncomputable def bIn : SDen := sSeq bRow (sSeq bLess (sSeq bOver (sSeq bCat (sSeq bApp (sSeq bI1 (sSeq bI2 bI3))))))
noncomputable def bFor : SDen := sFor (gNm 12) (iSeq (cFrz (cCall 15 2 (aCons (cVar 3) (aCons (cLsRg1 false (cBlt bLen (aCons (cVar 10) aNil))) aNil))))) bIn
noncomputable def bI4 : SDen := sIf (tOr (tEqO true 0 31 (cPure 11 2 (aCons (cVar 9) (aCons (cBlt bLen (aCons (cVar 5) aNil)) aNil))) (cVar 6)) (tNot (tTru (cPure 25 2 (aCons (cVar 4) (aCons (cVar 11) aNil)))))) rF sNil
noncomputable def cLast (j : Int) : Den := cIx (cIx (cVar 11) (cBin subD (cBlt bLen (aCons (cVar 11) aNil)) (cC (.int 1)))) (cC (.int j))
noncomputable def bTwice : SDen := sSet 13 (cPure 12 2 (aCons (cLast 0) (aCons (cC (.int 0)) aNil)))
noncomputable def bI5 : SDen := sIf (tNot (tTru (cPure 23 3 (aCons (cVar 13) (aCons (cVar 4) (aCons (cFrz (cPure 24 2 (aCons (cLast 1) (aCons (cC (.int 0)) aNil)))) aNil)))))) rF sNil
noncomputable def bTurn : SDen := sSeq bJar (sSeq bSpan (sSeq bJobs (sSeq bCrate (sSeq (bDraw 7) (sSeq (bDraw 8) (sSeq bMore (sSeq bWide (sSeq bHeld (sSeq bFor (sSeq bI4 (sSeq bTwice bI5)))))))))))
theorem d26_is : d26 = dCells 164079478565641772891743740708015426529736053868756997449580818458973566028740659678224519451 6 bTurn := rfl
theorem with_ok {s : Int} (h : 1 ≤ s) {js : List D} (O : OkL s js) {d : D} (J : Job s d) : callN tbl 10 10 [boxD s js, d] [] = .ok (boxD s (js ++ [d])) [] := with_sp h0 h1 h2 h27 h3 h28 h29 h10 6 h O.1 (by have := O.2; omega) J
theorem less_ok {s : Int} (h : 1 ≤ s) {js : List D} (O : OkL s js) {i : Nat} (hi : i < js.length) : callN tbl 10 11 [boxD s js, .int (i : Int)] [] = .ok (boxD s (js.take i ++ js.drop (i + 1))) [] := less_sp h0 h1 h2 h27 h3 h30 h4 h28 h29 h11 6 h O.1 (by have := O.2; omega) hi
theorem turn_ok {s : Int} (h : 1 ≤ s) {js : List D} (O : OkL s js) {i : Nat} {d : D} (hd : js[i]? = some d) : callN tbl 10 12 [boxD s js, .int (i : Int)] [] = .ok (boxD s (js.set i (turnJ d))) [] := turn_sp h0 h1 h2 h27 h3 h30 h4 h28 h29 h12 6 h O.1 (by have := O.2; omega) hd
theorem okL_app {s : Int} {js : List D} (O : (∀ j ∈ js, Job s j) ∧ js.length ≤ 99) {d : D} (J : Job s d) : OkL s (js ++ [d]) := ⟨jobs_app O.1 (jobs_one J), by rw [List.length_append]; show js.length + 1 ≤ 100; have := O.2; omega⟩
section
variable {cal : Cal} {ρ : Vm.Env} {M : Mem}
theorem app_ok {i j : Nat} {js : List D} {d : D} (hi : slot ρ i = some (.lst false js)) (hj : slot ρ j = some d) (hz : js.length ≤ 1000) : cApp i j cal ρ M = .ok (.lst false (js ++ [d])) M := by
  have ol := one_le
  have la : js.length + [d].length ≤ sizeLine := by rw [sizeLine_eq]; show js.length + 1 ≤ _; omega
  unfold cApp
  simp only [ap_bin, ap_lst, ap_acons, ap_anil, ap_var, hi, hj, R.opt_some, R.ok_bind, List.length_cons, List.length_nil, Nat.zero_add, ol, if_true, newF, view_lst', add_l la]
theorem row_ok {js : List D} {i : Nat} (h10 : slot ρ 10 = some (.lst false js)) (h12 : slot ρ 12 = some (.int (i : Int))) (hz : js.length ≤ 1000) : bRow cal ρ M = .ok .nx (ρ.set 14 (some (.lst false (js.take i ++ js.drop (i + 1))))) M := by
  have c1 := cut_to js i
  have c2 : cutD js (some ((i : Int) + 1)) none = js.drop (i + 1) := cut_from js (i + 1)
  have la : (js.take i).length + (js.drop (i + 1)).length ≤ sizeLine := by rw [List.length_take, List.length_drop, sizeLine_eq]; omega
  unfold bRow
  simp only [ap_set, ap_bin, ap_sl, ap_onone, ap_osome, ap_var, ap_c, h10, h12, R.opt_some, R.ok_bind, view_lst', view_int', add_i, sl_lst, c1, c2, newF, add_l la, SR.of_ok]
/-- a new list that is read only -/
theorem frz_of {X : Den} {xs : List D} (h : X cal ρ M = .ok (.ref M.length) (M ++ [.lst xs])) : cFrz X cal ρ M = .ok (.lst false xs) M := by
  rw [ap_frz, h, R.ok_bind]
  exact frz_new rfl
theorem pure2r {i j k : Nat} {a b : D} {xs : List D} (hj : slot ρ j = some a) (hk : slot ρ k = some b) (va : view M a = a) (vb : view M b = b) (fa : free a = true) (fb : free b = true) (h : cal i [a, b] [] = .ok (.ref 0) [.lst xs]) (hd : cleans xs = true) : cPure i 2 (aCons (cVar j) (aCons (cVar k) aNil)) cal ρ M = .ok (.ref M.length) (M ++ [.lst xs]) := by
  simp only [ap_pure, ap_acons, ap_anil, ap_var, hj, hk, R.opt_some, R.ok_bind, List.length_cons, List.length_nil, Nat.zero_add, Nat.reduceAdd, List.map_cons, List.map_nil, va, vb, fa, fb, fr_cons, fr_nil, Bool.and_self, and_self, if_true, h, lift_r hd]
theorem eqO_of {neg b : Bool} {i : Nat} {f g : Den} {s : Int} {js ks : List D} (hf : f cal ρ M = .ok (boxD s js) M) (hg : g cal ρ M = .ok (boxD s ks) M) (f1 : frees js = true) (f2 : frees ks = true) (h : cal i [boxD s js, boxD s ks] [] = .ok (.bl b) []) : tEqO neg 0 i f g cal ρ M = .ok (if neg = true then !b else b) M := by
  rw [ap_tEqO, hf, R.ok_bind, hg, R.ok_bind, ask_two f1 f2 h]
  rfl
theorem if_or_no {T U : DenB} {f : SDen} (h : T cal ρ M = .ok false M) (h2 : U cal ρ M = .ok false M) : sIf (tOr T U) f sNil cal ρ M = .ok .nx ρ M := by
  rw [ap_if, ap_or, h, R.ok_bind]
  show SR.of (if false = true then R.ok true M else U cal ρ M) ρ _ = _
  rw [if_neg (by decide), h2]; rfl
theorem not_of {T : DenB} (h : T cal ρ M = .ok true M) : tNot T cal ρ M = .ok false M := by rw [ap_not, h]; rfl
end
theorem cut_last3 {xs : List D} (h : 3 ≤ xs.length) : cutD xs (some (-3)) none = xs.drop (xs.length - 3) := by
  unfold cutD HT.sIx
  simp only []
  rw [if_pos (by decide)]
  have e : ((-3 : Int) + (xs.length : Int)).toNat = xs.length - 3 := by omega
  rw [e, List.take_of_length_le (by rw [List.length_drop]; omega)]
theorem ap_cat (cal : Cal) (ρ : Vm.Env) (M : Mem) (f g : Den) : cCat f g cal ρ M = (f cal ρ M).bind fun x M1 => (g cal ρ M1).bind fun y M2 => match view M2 x, view M2 y with
  | .lst _ xs, .lst _ ys => if xs.length + ys.length ≤ sizeLine then newL true (xs ++ ys) M2 else .bad
  | _, _ => .bad := rfl
theorem cat_ok {cal : Cal} {ρ : Vm.Env} {P : Mem} {s : Int} {ls : List (List D)} {row over : List D} (h11 : slot ρ 11 = some (.ref P.length)) (h14 : slot ρ 14 = some (.lst false row)) (h15 : slot ρ 15 = some (boxD s row)) (h16 : slot ρ 16 = some (boxD s over)) (hE : cFrz (cPure 24 2 (aCons (cVar 10) (aCons (cVar 12) aNil))) cal ρ (P ++ [.lst (ls.map (pB s))]) = .ok (.lst false over) (P ++ [.lst (ls.map (pB s))]))
    (hl : ∀ l ∈ ls, OkL s l) (h1 : OkL s row) (h2 : OkL s over) (hz : ls.length ≤ 1000) : bCat cal ρ (P ++ [.lst (ls.map (pB s))]) = .ok .nx (ρ.set 11 (some (.ref (P.length + 1)))) (P ++ [.lst (ls.map (pB s))] ++ [.lst ((ls ++ [row, over]).map (pB s))]) := by
  have tl := two_le
  have vw : view (P ++ [Cell.lst (ls.map (pB s))]) (.ref P.length) = .lst true (ls.map (pB s)) := by rw [view_ref', getA]; rfl
  have e : ls.map (pB s) ++ [D.tup [boxD s row, .lst false row], .tup [boxD s over, .lst false over]] = (ls ++ [row, over]).map (pB s) := by rw [List.map_append]; rfl
  have hz2 : (ls.map (pB s)).length + [D.tup [boxD s row, .lst false row], .tup [boxD s over, .lst false over]].length ≤ sizeLine := by rw [List.length_map, sizeLine_eq]; show ls.length + 2 ≤ _; omega
  have hall : ∀ l ∈ ls ++ [row, over], OkL s l := fun l h => by
    rcases List.mem_append.mp h with h | h
    · exact hl l h
    · rcases List.mem_cons.mp h with rfl | h
      · exact h1
      · rw [List.mem_singleton.mp h]; exact h2
  have nb := newB (P ++ [Cell.lst (ls.map (pB s))]) (pBs_free hall)
  have ln : (P ++ [Cell.lst (ls.map (pB s))]).length = P.length + 1 := by rw [List.length_append]; rfl
  have fn : newL false [D.tup [boxD s row, .lst false row], .tup [boxD s over, .lst false over]] (P ++ [.lst (ls.map (pB s))]) = .ok (.lst false [D.tup [boxD s row, .lst false row], .tup [boxD s over, .lst false over]]) (P ++ [.lst (ls.map (pB s))]) := rfl
  have cat : cCat (cVar 11) (cLst false (aCons (cTup (aCons (cVar 15) (aCons (cVar 14) aNil))) (aCons (cTup (aCons (cVar 16) (aCons (cFrz (cPure 24 2 (aCons (cVar 10) (aCons (cVar 12) aNil)))) aNil))) aNil))) cal ρ (P ++ [.lst (ls.map (pB s))]) = .ok (.ref (P.length + 1)) (P ++ [.lst (ls.map (pB s))] ++ [.lst ((ls ++ [row, over]).map (pB s))]) := by
    rw [K11.ap_cat, ap_var, h11, R.opt_some, R.ok_bind, ap_lst, ap_acons, ap_tup, ap_acons, ap_var, h15, R.opt_some, R.ok_bind, ap_acons, ap_var, h14, R.opt_some, R.ok_bind, ap_anil, R.ok_bind, R.ok_bind, R.ok_bind, if_pos (show ([boxD s row, D.lst false row] : List D).length ≤ sizeLine from tl), R.ok_bind, ap_acons, ap_tup, ap_acons, ap_var, h16, R.opt_some, R.ok_bind, ap_acons, hE, R.ok_bind, ap_anil, R.ok_bind, R.ok_bind, R.ok_bind,
      if_pos (show ([boxD s over, D.lst false over] : List D).length ≤ sizeLine from tl), R.ok_bind, ap_anil, R.ok_bind, R.ok_bind, R.ok_bind, if_pos (show ([D.tup [boxD s row, .lst false row], .tup [boxD s over, .lst false over]] : List D).length ≤ sizeLine from tl), fn, R.ok_bind]
    show (match view (P ++ [Cell.lst (ls.map (pB s))]) (.ref P.length), view (P ++ [Cell.lst (ls.map (pB s))]) (.lst false [D.tup [boxD s row, .lst false row], .tup [boxD s over, .lst false over]]) with
      | .lst _ xs, .lst _ ys => if xs.length + ys.length ≤ sizeLine then newL true (xs ++ ys) (P ++ [Cell.lst (ls.map (pB s))]) else .bad
      | _, _ => .bad) = _
    rw [vw]
    show (if (ls.map (pB s)).length + [D.tup [boxD s row, .lst false row], .tup [boxD s over, .lst false over]].length ≤ sizeLine then newL true (ls.map (pB s) ++ [D.tup [boxD s row, .lst false row], .tup [boxD s over, .lst false over]]) (P ++ [Cell.lst (ls.map (pB s))]) else .bad) = _
    rw [if_pos hz2, e, nb, ln]
  unfold bCat
  rw [ap_set, cat, SR.of_ok]
theorem app2_ok {cal : Cal} {ρ : Vm.Env} {P : Mem} {s : Int} {ls : List (List D)} {row : List D} {o : D} (h11 : slot ρ 11 = some (.ref P.length)) (h14 : slot ρ 14 = some (.lst false row)) (h15 : slot ρ 15 = some (boxD s row)) (h8 : slot ρ 8 = some o) (J : Job s o) (hW : cal 10 [boxD s row, o] [] = .ok (boxD s (row ++ [o])) [])
    (hl : ∀ l ∈ ls, OkL s l) (h1 : (∀ j ∈ row, Job s j) ∧ row.length ≤ 99) (hz : ls.length ≤ 1000) : bApp cal ρ (P ++ [.lst (ls.map (pB s))]) = .ok .nx ρ (P ++ [.lst ((ls ++ [row ++ [o]]).map (pB s))]) := by
  have tl := two_le
  have h2 := okL_app h1 J
  have p1 : cPure 10 2 (aCons (cVar 15) (aCons (cVar 8) aNil)) cal ρ (P ++ [.lst (ls.map (pB s))]) = .ok (boxD s (row ++ [o])) (P ++ [.lst (ls.map (pB s))]) := pure2 h15 h8 rfl (J.view _) (fr_box (jobs_free h1.1)) J.free hW (cl_box (jobs_clean h2.1))
  have p2 : cApp 14 8 cal ρ (P ++ [.lst (ls.map (pB s))]) = .ok (.lst false (row ++ [o])) (P ++ [.lst (ls.map (pB s))]) := app_ok h14 h8 (by have := h1.2; omega)
  have hall : ∀ l ∈ ls ++ [row ++ [o]], OkL s l := fun l h => by
    rcases List.mem_append.mp h with h | h
    · exact hl l h
    · rw [List.mem_singleton.mp h]; exact h2
  have e : ls.map (pB s) ++ [D.tup [boxD s (row ++ [o]), .lst false (row ++ [o])]] = (ls ++ [row ++ [o]]).map (pB s) := by rw [List.map_append]; rfl
  have hz2 : (ls.map (pB s)).length < sizeLine := by rw [List.length_map, sizeLine_eq]; omega
  have il : isL (.ref P.length) (P ++ [Cell.lst (ls.map (pB s))]) = true := by unfold isL; simp only [getA]
  have mt : mtD mAppend (.ref P.length) [D.tup [boxD s (row ++ [o]), .lst false (row ++ [o])]] (P ++ [Cell.lst (ls.map (pB s))]) = .ok .non (P ++ [.lst ((ls ++ [row ++ [o]]).map (pB s))]) := by
    unfold mtD
    simp only [getA]
    show (match (if (ls.map (pB s)).length < sizeLine then some (D.non, ls.map (pB s) ++ [D.tup [boxD s (row ++ [o]), .lst false (row ++ [o])]]) else none) with
      | some (d, ys) => if frees ys = true then R.ok d ((P ++ [Cell.lst (ls.map (pB s))]).set P.length (.lst ys)) else .bad
      | none => .bad) = _
    rw [if_pos hz2, e]
    show (if frees ((ls ++ [row ++ [o]]).map (pB s)) = true then R.ok D.non ((P ++ [Cell.lst (ls.map (pB s))]).set P.length (.lst ((ls ++ [row ++ [o]]).map (pB s)))) else .bad) = _
    rw [if_pos (pBs_free hall), setC]
  have cm : cMt mAppend (cVar 11) (aCons (cTup (aCons (cPure 10 2 (aCons (cVar 15) (aCons (cVar 8) aNil))) (aCons (cApp 14 8) aNil))) aNil) cal ρ (P ++ [.lst (ls.map (pB s))]) = .ok .non (P ++ [.lst ((ls ++ [row ++ [o]]).map (pB s))]) := by
    rw [ap_mt, ap_var, h11, R.opt_some, R.ok_bind, if_pos il, ap_acons, ap_tup, ap_acons, p1, R.ok_bind, ap_acons, p2, R.ok_bind, ap_anil, R.ok_bind, R.ok_bind, R.ok_bind, if_pos (show ([boxD s (row ++ [o]), D.lst false (row ++ [o])] : List D).length ≤ sizeLine from tl), R.ok_bind, ap_anil, R.ok_bind, R.ok_bind, mt]
  unfold bApp
  rw [ap_expr, cm, SR.of_ok]
theorem set_take_drop {js : List D} {i : Nat} {d : D} (hd : js[i]? = some d) : (js.set i (turnJ d))[i]? = some (turnJ d) := List.getElem?_set_self (List.getElem?_eq_some_iff.mp hd).1
theorem pure3 {cal : Cal} {ρ : Vm.Env} {M : Mem} {i : Nat} {A B Cc : Den} {a b c d : D} (hA : A cal ρ M = .ok a M) (hB : B cal ρ M = .ok b M) (hC : Cc cal ρ M = .ok c M) (va : view M a = a) (vb : view M b = b) (vc : view M c = c) (fa : free a = true) (fb : free b = true) (fc : free c = true) (h : cal i [a, b, c] [] = .ok d []) (hd : clean d = true) :
    cPure i 3 (aCons A (aCons B (aCons Cc aNil))) cal ρ M = .ok d M := by
  have lf : lift M (.ok d []) = .ok d M := if_pos hd
  simp only [ap_pure, ap_acons, ap_anil, hA, hB, hC, R.ok_bind, List.length_cons, List.length_nil, Nat.zero_add, Nat.reduceAdd, List.map_cons, List.map_nil, va, vb, vc, fa, fb, fc, fr_cons, fr_nil, Bool.and_self, and_self, if_true, h, lf]
theorem var_ok {cal : Cal} {ρ : Vm.Env} {M : Mem} {i : Nat} {d : D} (h : slot ρ i = some d) : cVar i cal ρ M = .ok d M := by rw [ap_var, h]; rfl
theorem set_same' {l : List D} {n : Nat} {x : D} (h : l[n]? = some x) : l.set n x = l := by
  obtain ⟨h1, h2⟩ := List.getElem?_eq_some_iff.mp h
  rw [← h2]
  exact List.set_getElem_self h1
/-- one index of the wide row -/
theorem inner {scr gr cel jar c5 c6 c7 : D} {P : Mem} {s : Int} (hs1 : 1 ≤ s) (hs : s ≤ 1000) {ws : List D} (O : (∀ j ∈ ws, Job s j) ∧ ws.length ≤ 50) {o : D} (J : Job s o) {ls : List (List D)} (hl : ∀ l ∈ ls, OkL s l) (hz : ls.length ≤ 900) {i : Nat} (hi : i < ws.length) (v13 v14 v15 v16 : Option D) :
    ∃ (row over : List D), (OkL s row ∧ OkL s over ∧ OkL s (row ++ [o])) ∧ bIn (callN tbl 10) [some scr, some gr, some cel, some jar, some (.int s), some c5, some c6, some c7, some o, some (boxD s ws), some (.lst false ws), some (.ref P.length), some (.int (i : Int)), v13, v14, v15, v16] (P ++ [.lst (ls.map (pB s))]) =
      .ok .nx [some scr, some gr, some cel, some jar, some (.int s), some c5, some c6, some c7, some o, some (boxD s ws), some (.lst false ws), some (.ref (P.length + 1)), some (.int (i : Int)), v13, some (.lst false row), some (boxD s row), some (boxD s over)] (P ++ [.lst (ls.map (pB s))] ++ [.lst ((ls ++ [row, over] ++ [row ++ [o]]).map (pB s))]) := by
  have OW : OkL s ws := ⟨O.1, by have := O.2; omega⟩
  have hd : ws[i]? = some ws[i] := List.getElem?_eq_getElem hi
  have Jd := O.1 _ (List.getElem_mem hi)
  generalize ws[i] = d at hd Jd
  have hrow := jobs_cut O.1 i
  have lrow : (ws.take i ++ ws.drop (i + 1)).length ≤ 50 := by rw [List.length_append, List.length_take, List.length_drop]; have := O.2; omega
  have hover := jobs_set O.1 Jd.turn i
  have lover : (ws.set i (turnJ d)).length ≤ 50 := by rw [List.length_set]; exact O.2
  have eL := less_ok hs1 OW hi
  have eT := turn_ok hs1 OW hd
  have eX := exc_sp h24 9 O.1 hd false
  have Oover : OkL s (ws.set i (turnJ d)) := ⟨hover, by omega⟩
  have Orow : OkL s (ws.take i ++ ws.drop (i + 1)) := ⟨hrow, by omega⟩
  have eB := turn_ok hs1 Oover (set_take_drop hd)
  rw [List.set_set, Jd.turn2, set_same' hd] at eB
  have eW := with_ok hs1 Orow J
  obtain ⟨b1, q1, q2⟩ := eqB_sp h28 h29 h31 8 (s := s) O.1 O.1
  have q1' : callN tbl 10 31 [boxD s ws, boxD s ws] [] = .ok (.bl true) [] := by rw [q1, q2.mpr rfl]
  obtain ⟨b2, q3, q4⟩ := eqB_sp h28 h29 h31 8 (s := s) hover O.1
  have q3' : callN tbl 10 31 [boxD s (ws.set i (turnJ d)), boxD s ws] [] = .ok (.bl false) [] := by
    have : b2 = false := by
      cases b2 with
      | false => rfl
      | true =>
        have z := q4.mp rfl
        have z2 := set_take_drop hd
        rw [z, hd] at z2
        exact absurd (Option.some.inj z2).symm Jd.turn_ne
    rw [q3, this]
  have eC := cis_sp h16 h28 h29 h30 h21 8 (s := s) (by omega) (by omega : s < 10 ^ 11) hrow (by omega) false
  generalize hR : ws.take i ++ ws.drop (i + 1) = row at *
  generalize hV : ws.set i (turnJ d) = over at *
  have OO := okL_app (s := s) ⟨hrow, by omega⟩ J
  have fW := jobs_free O.1
  have cW := jobs_clean O.1
  have fR := jobs_free hrow
  have fV := jobs_free hover
  generalize hM : P ++ [Cell.lst (ls.map (pB s))] = M
  have s1 : bRow (callN tbl 10) [some scr, some gr, some cel, some jar, some (.int s), some c5, some c6, some c7, some o, some (boxD s ws), some (.lst false ws), some (.ref P.length), some (.int (i : Int)), v13, v14, v15, v16] M = .ok .nx [some scr, some gr, some cel, some jar, some (.int s), some c5, some c6, some c7, some o, some (boxD s ws), some (.lst false ws), some (.ref P.length), some (.int (i : Int)), v13, some (.lst false row), v15, v16] M := by
    rw [row_ok (js := ws) (i := i) rfl rfl (by have := O.2; omega), hR]; rfl
  have s2 : bLess (callN tbl 10) [some scr, some gr, some cel, some jar, some (.int s), some c5, some c6, some c7, some o, some (boxD s ws), some (.lst false ws), some (.ref P.length), some (.int (i : Int)), v13, some (.lst false row), v15, v16] M = .ok .nx [some scr, some gr, some cel, some jar, some (.int s), some c5, some c6, some c7, some o, some (boxD s ws), some (.lst false ws), some (.ref P.length), some (.int (i : Int)), v13, some (.lst false row), some (boxD s row), v16] M := by
    unfold bLess
    rw [ap_set, pure2 (a := boxD s ws) (b := .int (i : Int)) rfl rfl rfl rfl (fr_box fW) rfl eL (cl_box (jobs_clean hrow))]; rfl
  have s3 : bOver (callN tbl 10) [some scr, some gr, some cel, some jar, some (.int s), some c5, some c6, some c7, some o, some (boxD s ws), some (.lst false ws), some (.ref P.length), some (.int (i : Int)), v13, some (.lst false row), some (boxD s row), v16] M = .ok .nx [some scr, some gr, some cel, some jar, some (.int s), some c5, some c6, some c7, some o, some (boxD s ws), some (.lst false ws), some (.ref P.length), some (.int (i : Int)), v13, some (.lst false row), some (boxD s row), some (boxD s over)] M := by
    unfold bOver
    rw [ap_set, pure2 (a := boxD s ws) (b := .int (i : Int)) rfl rfl rfl rfl (fr_box fW) rfl eT (cl_box (jobs_clean hover))]; rfl
  have s4 : bCat (callN tbl 10) [some scr, some gr, some cel, some jar, some (.int s), some c5, some c6, some c7, some o, some (boxD s ws), some (.lst false ws), some (.ref P.length), some (.int (i : Int)), v13, some (.lst false row), some (boxD s row), some (boxD s over)] M = .ok .nx [some scr, some gr, some cel, some jar, some (.int s), some c5, some c6, some c7, some o, some (boxD s ws), some (.lst false ws), some (.ref (P.length + 1)), some (.int (i : Int)), v13, some (.lst false row), some (boxD s row), some (boxD s over)] (M ++ [.lst ((ls ++ [row, over]).map (pB s))]) := by
    rw [← hM]
    exact cat_ok rfl rfl rfl rfl (frz_of (pure2r (a := .lst false ws) (b := .int (i : Int)) rfl rfl rfl rfl fW rfl eX (jobs_clean hover))) hl Orow Oover (by omega)
  have hall : ∀ l ∈ ls ++ [row, over], OkL s l := fun l h => by
    rcases List.mem_append.mp h with h | h
    · exact hl l h
    · rcases List.mem_cons.mp h with rfl | h
      · exact Orow
      · rw [List.mem_singleton.mp h]; exact Oover
  have lM : M.length = P.length + 1 := by rw [← hM, List.length_append]; rfl
  rw [← lM] at s4 ⊢
  have s5 := app2_ok (cal := callN tbl 10) (ρ := [some scr, some gr, some cel, some jar, some (.int s), some c5, some c6, some c7, some o, some (boxD s ws), some (.lst false ws), some (.ref M.length), some (.int (i : Int)), v13, some (.lst false row), some (boxD s row), some (boxD s over)]) (P := M) (ls := ls ++ [row, over]) rfl rfl rfl rfl J eW hall ⟨hrow, by omega⟩ (by rw [List.length_append]; show ls.length + 2 ≤ 1000; omega)
  have hall2 : ∀ l ∈ ls ++ [row, over] ++ [row ++ [o]], OkL s l := fun l h => by
    rcases List.mem_append.mp h with h | h
    · exact hall l h
    · rw [List.mem_singleton.mp h]; exact OO
  generalize hρ : [some scr, some gr, some cel, some jar, some (.int s), some c5, some c6, some c7, some o, some (boxD s ws), some (.lst false ws), some (.ref M.length), some (.int (i : Int)), v13, some (.lst false row), some (boxD s row), some (boxD s over)] = ρ at s4 s5 ⊢
  have r4 : slot ρ 4 = some (.int s) := by rw [← hρ]; rfl
  have r9 : slot ρ 9 = some (boxD s ws) := by rw [← hρ]; rfl
  have r11 : slot ρ 11 = some (.ref M.length) := by rw [← hρ]; rfl
  have r12 : slot ρ 12 = some (.int (i : Int)) := by rw [← hρ]; rfl
  have r14 : slot ρ 14 = some (.lst false row) := by rw [← hρ]; rfl
  have r16 : slot ρ 16 = some (boxD s over) := by rw [← hρ]; rfl
  generalize hls : ls ++ [row, over] ++ [row ++ [o]] = qs at s5 hall2 ⊢
  have lq : 3 ≤ qs.length := by rw [← hls, List.length_append, List.length_append]; show 3 ≤ ls.length + 2 + 1; omega
  have lq2 : qs.length ≤ 903 := by rw [← hls, List.length_append, List.length_append]; show ls.length + 2 + 1 ≤ _; omega
  generalize hN : M ++ [Cell.lst (qs.map (pB s))] = N at s5 ⊢
  have vN : view N (.ref M.length) = .lst true (qs.map (pB s)) := by rw [← hN, view_ref', getA]; rfl
  have s6 : bI1 (callN tbl 10) ρ N = .ok .nx ρ N := if_not (tru_of (pure3 (a := boxD s row) (b := .int s) (c := .lst false row) (pure2k r9 r12 rfl rfl (fr_box fW) rfl eL (cl_box (jobs_clean hrow))) (var_ok r4) (var_ok r14) rfl rfl rfl (fr_box fR) rfl fR eC rfl))
  have s7 : bI2 (callN tbl 10) ρ N = .ok .nx ρ N := if_or_no (eqO_of (neg := true) (b := true) (pure2k r16 r12 rfl rfl (fr_box fV) rfl eB (cl_box cW)) (var_ok r9) fW fW q1') (eqO_of (neg := false) (b := false) (var_ok r16) (var_ok r9) fV fW q3')
  have s8 : bI3 (callN tbl 10) ρ N = .ok .nx ρ N := by
    have cd : cutD (qs.map (pB s)) (some (-3)) none = (qs.drop (qs.length - 3)).map (pB s) := by
      rw [cut_last3 (by rw [List.length_map]; exact lq), List.length_map, List.map_drop]
    have sl : cSl false (cVar 11) (oSome (cNeg (cC (.int 3)))) oNone (callN tbl 10) ρ N = .ok (.lst false ((qs.drop (qs.length - 3)).map (pB s))) N := by
      simp only [ap_sl, ap_osome, ap_neg, ap_c, ap_onone, ap_var, r11, R.opt_some, R.ok_bind, vN, sl_lst, cd, newF]
    have sub : ∀ l ∈ qs.drop (qs.length - 3), OkL s l := fun l h => hall2 l (List.mem_of_mem_drop h)
    have eA := allR_ok hs1 hs sub (by rw [List.length_drop]; omega) 4 false
    have lf4 : lift N (.ok (.bl true) []) = .ok (.bl true) N := rfl
    have ff := pBs_free sub
    have tt : tTru (cPure 25 2 (aCons (cVar 4) (aCons (cSl false (cVar 11) (oSome (cNeg (cC (.int 3)))) oNone) aNil))) (callN tbl 10) ρ N = .ok true N := by
      rw [ap_tru, ap_pure, ap_acons, ap_var, r4, R.opt_some, R.ok_bind, ap_acons, sl]
      simp only [ap_anil, R.ok_bind, List.length_cons, List.length_nil, Nat.zero_add, Nat.reduceAdd, List.map_cons, List.map_nil, view_int', view_lst', fr_cons, fr_int, fr_lst, ff, fr_nil, Bool.and_self, and_self, if_true, eA, lf4, view_bl', tru_bl, R.opt_some]
    exact if_not tt
  refine ⟨row, over, ⟨Orow, Oover, OO⟩, ?_⟩
  unfold bIn
  rw [ap_seq, s1, SR.seq_nx, ap_seq, s2, SR.seq_nx, ap_seq, s3, SR.seq_nx, ap_seq, s4, SR.seq_nx, ap_seq, s5, SR.seq_nx, ap_seq, s6, SR.seq_nx, ap_seq, s7, SR.seq_nx, s8, hρ, hls, hN]
theorem jobs_fin {cal : Cal} {ρ : Vm.Env} {M1 M2 M3 M4 : Mem} {a : Nat} {sp ci : Int} {xs : List D} {d : D} (h3 : slot ρ 3 = some (.ref a)) (h4 : slot ρ 4 = some (.int sp)) (e2 : cal 14 [.ref a, .int 6] M1 = .ok (.int ci) M2) (e3 : cal 18 [.ref a, .int sp, .int ci] M2 = .ok d M4)
    (fz : frz M1.length d M4 = .ok (.lst false xs) M3) : bJobs cal ρ M1 = .ok .nx (ρ.set 5 (some (.lst false xs))) M3 := by
  unfold bJobs
  simp only [ap_set, ap_frz, ap_call, ap_acons, ap_anil, ap_var, ap_c, h3, h4, R.opt_some, R.ok_bind, List.length_cons, List.length_nil, Nat.zero_add, Nat.reduceAdd, if_true, e2, e3, fz, SR.of_ok]
theorem draw_fin {cal : Cal} {ρ : Vm.Env} {M1 M2 : Mem} {a i : Nat} {sp : Int} {d : D} (h3 : slot ρ 3 = some (.ref a)) (h4 : slot ρ 4 = some (.int sp)) (e : cal 17 [.ref a, .int sp] M1 = .ok d M2) : bDraw i cal ρ M1 = .ok .nx (ρ.set i (some d)) M2 := by
  unfold bDraw
  simp only [ap_set, ap_call, ap_acons, ap_anil, ap_var, h3, h4, R.opt_some, R.ok_bind, List.length_cons, List.length_nil, Nat.zero_add, Nat.reduceAdd, if_true, e, SR.of_ok]
theorem spots_fin {cal : Cal} {ρ : Vm.Env} {M M1 M3 M4 : Mem} {a L : Nat} {l : Int} {js xs : List D} (h3 : slot ρ 3 = some (.ref a)) (h10 : slot ρ 10 = some (.lst false js)) (hl : bLen [.lst false js] M = .ok (.int l) M) (hr : lsOk l) (e : cal 15 [.ref a, .lst false (rgD 0 l)] M = .ok (.ref L) M4)
    (fz : frz M.length (.ref L) M4 = .ok (.lst false xs) M3) : iSeq (cFrz (cCall 15 2 (aCons (cVar 3) (aCons (cLsRg1 false (cBlt bLen (aCons (cVar 10) aNil))) aNil)))) cal ρ M = .ok ⟨xs, fun _ => True⟩ M3 := by
  have a : cLsRg1 false (cBlt bLen (aCons (cVar 10) aNil)) cal ρ M = .ok (.lst false (rgD 0 l)) M := by
    have b : cBlt bLen (aCons (cVar 10) aNil) cal ρ M = .ok (.int l) M := by
      rw [ap_blt, ap_acons, ap_var, h10]
      exact hl
    rw [ap_lsrg1, b, R.ok_bind]
    show (if lsOk l then newL false (rgD 0 l) M else .bad) = _
    rw [if_pos hr]
    rfl
  rw [ap_seqI, ap_frz, ap_call, ap_acons, ap_var, h3, R.opt_some, R.ok_bind, ap_acons, a, R.ok_bind, ap_anil, R.ok_bind, R.ok_bind, R.ok_bind, if_pos (show ([D.ref _, D.lst false (rgD 0 l)] : List D).length = 2 from rfl), e, R.ok_bind, fz, R.ok_bind]
  rfl
/-- the rows held: each as it should be, the last one not empty -/
structure Held (s : Int) (n : Nat) (ls : List (List D)) : Prop where
  ok : ∀ l ∈ ls, OkL s l
  ln : ls.length ≤ n
  la : ∃ l, ls.getLast? = some l ∧ l ≠ []
theorem for_ok {M0 : Mem} {x : Cell} (hx : JarC x) {s : Int} (hs1 : 1 ≤ s) (hs : s ≤ 1000) {ws : List D} (O : (∀ j ∈ ws, Job s j) ∧ ws.length ≤ 50) {o : D} (J : Job s o) {ls : List (List D)} (hl : Held s 3 ls) {scr gr cel c5 c6 c7 : D} {v12 v13 v14 v15 v16 : Option D} :
    ∃ (P : Mem) (qs : List (List D)) (w12 w14 w15 w16 : Option D), Held s 200 qs ∧ bFor (callN tbl 10) [some scr, some gr, some cel, some (.ref M0.length), some (.int s), some c5, some c6, some c7, some o, some (boxD s ws), some (.lst false ws), some (.ref (M0.length + 1)), v12, v13, v14, v15, v16] (M0 ++ [x] ++ [.lst (ls.map (pB s))]) =
      .ok .nx [some scr, some gr, some cel, some (.ref M0.length), some (.int s), some c5, some c6, some c7, some o, some (boxD s ws), some (.lst false ws), some (.ref P.length), w12, v13, w14, w15, w16] (P ++ [.lst (qs.map (pB s))]) := by
  have ln : ∀ (y : Cell), (M0 ++ [y]).length = M0.length + 1 := fun y => by rw [List.length_append]; rfl
  have gm : (M0 ++ [x] ++ [Cell.lst (ls.map (pB s))])[M0.length]? = some x := getB _ (getA x)
  have sm : ∀ y : Cell, (M0 ++ [x] ++ [Cell.lst (ls.map (pB s))]).set M0.length y = M0 ++ [y] ++ [.lst (ls.map (pB s))] := fun y => by rw [setA (by rw [ln]; omega), setC]
  obtain ⟨ys, x1, p1, p2, p3⟩ := mixed_sp h14 h15 8 (nn := 1) (by decide) gm hx (rows := .lst false (rgD 0 ((ws.length : Nat) : Int))) rfl (by rw [rgD_L]; exact nices_ints _) (by rw [rgD_L, List.length_map, rgL_len]; have := O.2; omega)
  rw [rgD_L] at p1
  obtain ⟨zs, rfl, pz⟩ := perm_map p1
  rw [sm] at p3
  have ln2 : ∀ y : Cell, (M0 ++ [y] ++ [Cell.lst (ls.map (pB s))]).length = M0.length + 2 := fun y => by rw [List.length_append, ln]; rfl
  have fz : frz (M0 ++ [x] ++ [Cell.lst (ls.map (pB s))]).length (.ref (M0 ++ [x] ++ [Cell.lst (ls.map (pB s))]).length) (M0 ++ [x1] ++ [Cell.lst (ls.map (pB s))] ++ [.lst (zs.map D.int)]) = .ok (.lst false (zs.map D.int)) (M0 ++ [x1] ++ [Cell.lst (ls.map (pB s))]) := by
    have e : (M0 ++ [x] ++ [Cell.lst (ls.map (pB s))]).length = (M0 ++ [x1] ++ [Cell.lst (ls.map (pB s))]).length := by rw [ln2, ln2]
    rw [e]
    exact frz_new rfl
  have hlb := bLen_l false ws (M0 ++ [x] ++ [Cell.lst (ls.map (pB s))])
  have hr : lsOk ((ws.length : Nat) : Int) := lsOk_of (by omega) (by have := O.2; omega)
  have zl : zs.length ≤ 50 := by rw [pz.length_eq, rgL_len]; have := O.2; omega
  obtain ⟨ρ', M', hh, P, qs, w12, w14, w15, w16, rfl, rfl, Hq⟩ := forL_inv (cal := callN tbl 10) (t := gNm 12) (b := bIn) (chk := fun _ => True)
    (fun n ρ M' => ∃ (P : Mem) (qs : List (List D)) (w12 w14 w15 w16 : Option D), ρ = [some scr, some gr, some cel, some (.ref M0.length), some (.int s), some c5, some c6, some c7, some o, some (boxD s ws), some (.lst false ws), some (.ref P.length), w12, v13, w14, w15, w16] ∧ M' = P ++ [.lst (qs.map (pB s))] ∧ Held s (3 + 3 * n) qs)
    (ds := zs.map D.int) (fun n ρ M' d hi hd => by
      obtain ⟨P, qs, w12, w14, w15, w16, rfl, rfl, Hq⟩ := hi
      rw [List.getElem?_map] at hd
      obtain ⟨z, hz, rfl⟩ := Option.map_eq_some_iff.mp hd
      have hn : n < zs.length := (List.getElem?_eq_some_iff.mp hz).1
      have hm := rgL_mem (pz.mem_iff.mp (List.mem_of_getElem? hz))
      obtain ⟨q, rfl⟩ := Int.eq_ofNat_of_zero_le hm.1
      have hq : q < ws.length := by omega
      have hql := Hq.ln
      obtain ⟨row, over, ⟨k1, k2, k3⟩, e⟩ := inner (scr := scr) (gr := gr) (cel := cel) (jar := .ref M0.length) (c5 := c5) (c6 := c6) (c7 := c7) (P := P) hs1 hs O J Hq.ok (by omega) hq v13 w14 w15 w16
      refine ⟨trivial, _, rfl, _, _, .inl e, P ++ [.lst (qs.map (pB s))], qs ++ [row, over] ++ [row ++ [o]], some (.int (q : Int)), _, _, _, by rw [List.length_append]; rfl, rfl, fun l h => ?_, ?_, ⟨row ++ [o], by rw [List.getLast?_append]; rfl, by simp⟩⟩
      · rcases List.mem_append.mp h with h | h
        · rcases List.mem_append.mp h with h | h
          · exact Hq.ok l h
          · rcases List.mem_cons.mp h with rfl | h
            · exact k1
            · rw [List.mem_singleton.mp h]; exact k2
        · rw [List.mem_singleton.mp h]; exact k3
      · rw [List.length_append, List.length_append]
        show qs.length + 2 + 1 ≤ _
        omega) (fun _ _ _ => trivial)
    (ρ := [some scr, some gr, some cel, some (.ref M0.length), some (.int s), some c5, some c6, some c7, some o, some (boxD s ws), some (.lst false ws), some (.ref (M0.length + 1)), v12, v13, v14, v15, v16]) (M := M0 ++ [x1] ++ [.lst (ls.map (pB s))]) ⟨M0 ++ [x1], ls, _, _, _, _, by rw [ln], rfl, hl⟩
  rw [List.length_map] at Hq
  refine ⟨P, qs, w12, w14, w15, w16, ⟨Hq.ok, by have := Hq.ln; omega, Hq.la⟩, ?_⟩
  unfold bFor
  rw [ap_for, spots_fin (M1 := M0) rfl rfl hlb hr p3 fz, SR.of_ok]
  exact hh
theorem held_ok {cal : Cal} {ρ : Vm.Env} {M : Mem} {s : Int} {js ws : List D} {o : D} (h5 : slot ρ 5 = some (.lst false js)) (h6 : slot ρ 6 = some (boxD s js)) (h8 : slot ρ 8 = some o) (h9 : slot ρ 9 = some (boxD s ws)) (h10 : slot ρ 10 = some (.lst false ws)) (J : Job s o) (O : (∀ j ∈ js, Job s j) ∧ js.length ≤ 99) (OW : OkL s ws) (hW : cal 10 [boxD s js, o] [] = .ok (boxD s (js ++ [o])) []) :
    bHeld cal ρ M = .ok .nx (ρ.set 11 (some (.ref M.length))) (M ++ [.lst ([js, ws, js ++ [o]].map (pB s))]) := by
  have tl := two_le
  have three : 3 ≤ sizeLine := by rw [sizeLine_eq]; decide
  have O2 := okL_app O J
  have p1 : cPure 10 2 (aKw 0 2 [1, 0] aNil (aCons (cVar 8) (aCons (cVar 6) aNil))) cal ρ M = .ok (boxD s (js ++ [o])) M := pure2k h6 h8 rfl (J.view _) (fr_box (jobs_free O.1)) J.free hW (cl_box (jobs_clean O2.1))
  have p2 : cApp 5 8 cal ρ M = .ok (.lst false (js ++ [o])) M := app_ok h5 h8 (by have := O.2; omega)
  have hall : ∀ l ∈ [js, ws, js ++ [o]], OkL s l := fun l h => by
    rcases List.mem_cons.mp h with rfl | h
    · exact ⟨O.1, by have := O.2; omega⟩
    · rcases List.mem_cons.mp h with rfl | h
      · exact OW
      · rw [List.mem_singleton.mp h]; exact O2
  have nb := newB M (pBs_free hall)
  have e : cLst true (aCons (cTup (aCons (cVar 6) (aCons (cVar 5) aNil))) (aCons (cTup (aCons (cVar 9) (aCons (cVar 10) aNil))) (aCons (cTup (aCons (cPure 10 2 (aKw 0 2 [1, 0] aNil (aCons (cVar 8) (aCons (cVar 6) aNil)))) (aCons (cApp 5 8) aNil))) aNil))) cal ρ M = .ok (.ref M.length) (M ++ [.lst ([js, ws, js ++ [o]].map (pB s))]) := by
    rw [ap_lst, ap_acons, ap_tup, ap_acons, ap_var, h6, R.opt_some, R.ok_bind, ap_acons, ap_var, h5, R.opt_some, R.ok_bind, ap_anil, R.ok_bind, R.ok_bind, R.ok_bind, if_pos (show ([boxD s js, D.lst false js] : List D).length ≤ sizeLine from tl), R.ok_bind,
      ap_acons, ap_tup, ap_acons, ap_var, h9, R.opt_some, R.ok_bind, ap_acons, ap_var, h10, R.opt_some, R.ok_bind, ap_anil, R.ok_bind, R.ok_bind, R.ok_bind, if_pos (show ([boxD s ws, D.lst false ws] : List D).length ≤ sizeLine from tl), R.ok_bind,
      ap_acons, ap_tup, ap_acons, p1, R.ok_bind, ap_acons, p2, R.ok_bind, ap_anil, R.ok_bind, R.ok_bind, R.ok_bind, if_pos (show ([boxD s (js ++ [o]), D.lst false (js ++ [o])] : List D).length ≤ sizeLine from tl), R.ok_bind, ap_anil, R.ok_bind, R.ok_bind, R.ok_bind, R.ok_bind]
    show (if ([pB s js, pB s ws, pB s (js ++ [o])] : List D).length ≤ sizeLine then newL true ([js, ws, js ++ [o]].map (pB s)) M else .bad) = _
    rw [if_pos (show ([pB s js, pB s ws, pB s (js ++ [o])] : List D).length ≤ sizeLine from three), nb]
  unfold bHeld
  rw [ap_set, e, SR.of_ok]
theorem last_ok {cal : Cal} {ρ : Vm.Env} {N : Mem} {n : Nat} {s : Int} {qs : List (List D)} {l : List D} (h11 : slot ρ 11 = some (.ref n)) (vN : view N (.ref n) = .lst true (qs.map (pB s))) (hl : qs.getLast? = some l) :
    cLast 0 cal ρ N = .ok (boxD s l) N ∧ cLast 1 cal ρ N = .ok (.lst false l) N := by
  have hne : qs ≠ [] := fun z => by rw [z] at hl; cases hl
  have hpos : 0 < qs.length := List.length_pos_iff.mpr hne
  have hg : (qs.map (pB s))[qs.length - 1]? = some (pB s l) := by
    rw [List.getElem?_map, ← List.getLast?_eq_getElem?, hl]; rfl
  have hlen : bLen [.lst true (qs.map (pB s))] N = .ok (.int (qs.length : Nat)) N := by rw [bLen_l, List.length_map]
  have es : ((qs.length : Nat) : Int) - 1 = ((qs.length - 1 : Nat) : Int) := by omega
  have ha : atI (qs.map (pB s)) (((qs.length : Nat) : Int) - 1) = some (pB s l) := by rw [es, at_nat]; exact hg
  generalize ((qs.length : Nat) : Int) = z at hlen ha
  have base : cIx (cVar 11) (cBin subD (cBlt bLen (aCons (cVar 11) aNil)) (cC (.int 1))) cal ρ N = .ok (pB s l) N := by
    simp only [ap_ix, ap_bin, ap_blt, ap_acons, ap_anil, ap_var, ap_c, h11, R.opt_some, R.ok_bind, List.map_cons, List.map_nil, vN, hlen, view_int', sub_i, ix_at, ha]
  have vp : view N (pB s l) = .tup [boxD s l, .lst false l] := rfl
  unfold cLast
  constructor
  · rw [ap_ix, base, R.ok_bind, ap_c, R.ok_bind, vp, view_int', Vm.ix_tup, at0]; rfl
  · rw [ap_ix, base, R.ok_bind, ap_c, R.ok_bind, vp, view_int', Vm.ix_tup, at1]; rfl
theorem pure2g {cal : Cal} {ρ : Vm.Env} {M : Mem} {i : Nat} {A B : Den} {a b d : D} (hA : A cal ρ M = .ok a M) (hB : B cal ρ M = .ok b M) (fa : free (view M a) = true) (fb : free (view M b) = true) (h : cal i [view M a, view M b] [] = .ok d []) (hd : clean d = true) : cPure i 2 (aCons A (aCons B aNil)) cal ρ M = .ok d M := by
  have lf : lift M (.ok d []) = .ok d M := if_pos hd
  simp only [ap_pure, ap_acons, ap_anil, hA, hB, R.ok_bind, List.length_cons, List.length_nil, Nat.zero_add, Nat.reduceAdd, List.map_cons, List.map_nil, fa, fb, fr_cons, fr_nil, Bool.and_self, and_self, if_true, h, lf]
theorem pure2gr {cal : Cal} {ρ : Vm.Env} {M : Mem} {i : Nat} {A B : Den} {a b : D} {xs : List D} (hA : A cal ρ M = .ok a M) (hB : B cal ρ M = .ok b M) (fa : free (view M a) = true) (fb : free (view M b) = true) (h : cal i [view M a, view M b] [] = .ok (.ref 0) [.lst xs]) (hd : cleans xs = true) : cPure i 2 (aCons A (aCons B aNil)) cal ρ M = .ok (.ref M.length) (M ++ [.lst xs]) := by
  simp only [ap_pure, ap_acons, ap_anil, hA, hB, R.ok_bind, List.length_cons, List.length_nil, Nat.zero_add, Nat.reduceAdd, List.map_cons, List.map_nil, fa, fb, fr_cons, fr_nil, Bool.and_self, and_self, if_true, h, lift_r hd]
theorem after_ok {s : Int} (hs1 : 1 ≤ s) (hs : s ≤ 1000) {js : List D} {j : D} (O : (∀ j ∈ js, Job s j) ∧ js.length ≤ 49) (J : Job s j) {qs : List (List D)} (Hq : Held s 200 qs) {ρ : Vm.Env} {P : Mem} (h4 : slot ρ 4 = some (.int s)) (h5 : slot ρ 5 = some (.lst false js)) (h6 : slot ρ 6 = some (boxD s js)) (h9 : slot ρ 9 = some (boxD s (js ++ [j]))) (h11 : slot ρ 11 = some (.ref P.length)) (hρ : 13 < ρ.length) :
    ∃ d, sSeq bI4 (sSeq bTwice bI5) (callN tbl 10) ρ (P ++ [.lst (qs.map (pB s))]) = .ok .nx (ρ.set 13 (some d)) (P ++ [.lst (qs.map (pB s))]) := by
  generalize hN : P ++ [Cell.lst (qs.map (pB s))] = N
  have vN : view N (.ref P.length) = .lst true (qs.map (pB s)) := by rw [← hN, view_ref', getA]; rfl
  have OW : OkL s (js ++ [j]) := okL_app ⟨O.1, by have := O.2; omega⟩ J
  have fJ := jobs_free O.1
  have fW := jobs_free OW.1
  have eL := less_ok hs1 OW (i := js.length) (by rw [List.length_append]; show js.length < js.length + 1; omega)
  have er : (js ++ [j]).take js.length ++ (js ++ [j]).drop (js.length + 1) = js := by
    rw [List.take_left, List.drop_of_length_le (by rw [List.length_append]; exact Nat.le_refl _), List.append_nil]
  rw [er] at eL
  obtain ⟨b1, q1, q2⟩ := eqB_sp h28 h29 h31 8 (s := s) O.1 O.1
  have q1' : callN tbl 10 31 [boxD s js, boxD s js] [] = .ok (.bl true) [] := by rw [q1, q2.mpr rfl]
  have bl : cBlt bLen (aCons (cVar 5) aNil) (callN tbl 10) ρ N = .ok (.int (js.length : Nat)) N := by
    rw [ap_blt, ap_acons, ap_var, h5]
    exact bLen_l false js N
  have t1 := eqO_of (neg := true) (b := true) (g := cVar 6) (pure2g (cal := callN tbl 10) (ρ := ρ) (M := N) (i := 11) (var_ok h9) bl (fr_box fW) rfl eL (cl_box (jobs_clean O.1))) (var_ok h6) fJ fJ q1'
  have eA := allR_ok hs1 hs Hq.ok (by have := Hq.ln; omega) 4 true
  have ff := pBs_free Hq.ok
  have t2 : tTru (cPure 25 2 (aCons (cVar 4) (aCons (cVar 11) aNil))) (callN tbl 10) ρ N = .ok true N :=
    tru_of (pure2g (a := .int s) (b := .ref P.length) (var_ok h4) (var_ok h11) rfl (by rw [vN]; exact ff) (by rw [vN]; exact eA) rfl)
  have s1 : bI4 (callN tbl 10) ρ N = .ok .nx ρ N := if_or_no t1 (not_of t2)
  obtain ⟨l, hl, hne⟩ := Hq.la
  obtain ⟨l0, l1⟩ := last_ok (cal := callN tbl 10) (N := N) h11 vN hl
  have Ol := Hq.ok l (List.mem_of_getLast? hl)
  obtain ⟨d, lr, rfl⟩ : ∃ d lr, l = d :: lr := by
    cases l with
    | nil => exact absurd rfl hne
    | cons d lr => exact ⟨d, lr, rfl⟩
  have hd : (d :: lr)[0]? = some d := rfl
  have Jd := Ol.1 d List.mem_cons_self
  have eT := turn_ok hs1 Ol hd
  have eX := exc_sp h24 9 Ol.1 hd false
  have Ot : OkL s ((d :: lr).set 0 (turnJ d)) := ⟨jobs_set Ol.1 Jd.turn 0, by rw [List.length_set]; exact Ol.2⟩
  have ft := jobs_free Ot.1
  have fl := jobs_free Ol.1
  have s2 : bTwice (callN tbl 10) ρ N = .ok .nx (ρ.set 13 (some (boxD s ((d :: lr).set 0 (turnJ d))))) N := by
    unfold bTwice
    rw [ap_set, pure2g (b := .int 0) l0 rfl (fr_box fl) rfl eT (cl_box (jobs_clean Ot.1))]; rfl
  refine ⟨boxD s ((d :: lr).set 0 (turnJ d)), ?_⟩
  have s13 : slot (ρ.set 13 (some (boxD s ((d :: lr).set 0 (turnJ d))))) 13 = some (boxD s ((d :: lr).set 0 (turnJ d))) := by rw [slot_eq, List.getElem?_set_self hρ]; rfl
  have s4 : slot (ρ.set 13 (some (boxD s ((d :: lr).set 0 (turnJ d))))) 4 = some (.int s) := by rw [slot_eq, List.getElem?_set_ne (by decide), ← slot_eq]; exact h4
  have s11 : slot (ρ.set 13 (some (boxD s ((d :: lr).set 0 (turnJ d))))) 11 = some (.ref P.length) := by rw [slot_eq, List.getElem?_set_ne (by decide), ← slot_eq]; exact h11
  obtain ⟨m0, m1⟩ := last_ok (cal := callN tbl 10) (N := N) s11 vN hl
  have eR := right_ok hs1 hs Ot 5 false
  have s3 := if_not (f := rF) (tru_of (pure3 (a := boxD s ((d :: lr).set 0 (turnJ d))) (b := .int s) (c := .lst false ((d :: lr).set 0 (turnJ d))) (var_ok s13) (var_ok s4) (frz_of (pure2gr (i := 24) (B := cC (.int 0)) (b := .int 0) m1 rfl fl rfl eX (jobs_clean Ot.1))) rfl rfl rfl (fr_box ft) rfl ft eR rfl))
  rw [ap_seq, s1, SR.seq_nx, ap_seq, s2, SR.seq_nx]
  exact s3
theorem turn (scr gr : D) (cell : Int) (M : Mem) (v3 v4 v5 v6 v7 v8 v9 v10 v11 v12 v13 v14 v15 v16 : Option D) :
    ∃ (ρ' : List (Option D)) (M' : Mem), bTurn (callN tbl 10) [some scr, some gr, some (.int cell), v3, v4, v5, v6, v7, v8, v9, v10, v11, v12, v13, v14, v15, v16] M = .ok .nx (some scr :: some gr :: some (.int cell) :: ρ') M' ∧ ρ'.length = 14 := by
  obtain ⟨x0, j0, ⟨xs0, rfl, cl0⟩, e0⟩ := fill_sp h13 9 cell
  have s0 : bJar (callN tbl 10) [some scr, some gr, some (.int cell), v3, v4, v5, v6, v7, v8, v9, v10, v11, v12, v13, v14, v15, v16] M = .ok .nx [some scr, some gr, some (.int cell), some (.ref M.length), v4, v5, v6, v7, v8, v9, v10, v11, v12, v13, v14, v15, v16] (M ++ [.lst xs0]) := by
    unfold bJar
    rw [ap_set, ap_pure]
    simp only [ap_acons, ap_anil, ap_var, sl0, slS, R.opt_some, R.ok_bind, List.map_cons, List.map_nil, view_int', List.length_cons, List.length_nil, Nat.zero_add, fr_cons, fr_int, fr_nil, Bool.and_self, and_self, if_true, e0, lift_r cl0, SR.of_ok, se0, seS]
  have gm : ∀ y : Cell, (M ++ [y])[M.length]? = some y := fun y => getA y
  have sm : ∀ y z : Cell, (M ++ [y]).set M.length z = M ++ [z] := fun y z => setC z y
  have ln : ∀ y : Cell, (M ++ [y]).length = M.length + 1 := fun y => by rw [List.length_append]; rfl
  obtain ⟨r, x1, r1, j1, e1⟩ := take_nat h14 9 (gm (.lst xs0)) j0 (many := 7) (by decide) (by decide)
  rw [sm] at e1
  generalize hsp : (2 : Int) + (r : Int) = sp
  have sp1 : 2 ≤ sp := by omega
  have sp8 : sp ≤ 8 := by omega
  have s1 : bSpan (callN tbl 10) [some scr, some gr, some (.int cell), some (.ref M.length), v4, v5, v6, v7, v8, v9, v10, v11, v12, v13, v14, v15, v16] (M ++ [.lst xs0]) = .ok .nx [some scr, some gr, some (.int cell), some (.ref M.length), some (.int sp), v5, v6, v7, v8, v9, v10, v11, v12, v13, v14, v15, v16] (M ++ [x1]) := by
    unfold bSpan
    rw [ap_set, ap_bin]
    simp only [ap_c, ap_call, ap_acons, ap_anil, ap_var, sl0, slS, R.opt_some, R.ok_bind, List.length_cons, List.length_nil, Nat.zero_add, Nat.reduceAdd, if_true, e1, view_int', add_i, hsp, SR.of_ok, se0, seS]
  obtain ⟨c, x2, c1, j2, e2⟩ := take_nat h14 9 (gm x1) j1 (many := 6) (by decide) (by decide)
  rw [sm] at e2
  obtain ⟨js, x3, d, M4, hj, hl, j3, e3, fz⟩ := jobs_sp h14 h15 h17 h18 6 (gm x2) j2 (by omega : 1 ≤ sp) (by omega : sp ≤ 50) (m := c) (by omega)
  rw [sm] at fz
  have fz' : frz (M ++ [x1]).length d M4 = .ok (.lst false js) (M ++ [x3]) := by rw [ln, ← ln x2]; exact fz
  have s2 : bJobs (callN tbl 10) [some scr, some gr, some (.int cell), some (.ref M.length), some (.int sp), v5, v6, v7, v8, v9, v10, v11, v12, v13, v14, v15, v16] (M ++ [x1]) = .ok .nx [some scr, some gr, some (.int cell), some (.ref M.length), some (.int sp), some (.lst false js), v6, v7, v8, v9, v10, v11, v12, v13, v14, v15, v16] (M ++ [x3]) := jobs_fin rfl rfl e2 e3 fz'
  have hf := jobs_free hj
  have hcl := jobs_clean hj
  have s3 : bCrate (callN tbl 10) [some scr, some gr, some (.int cell), some (.ref M.length), some (.int sp), some (.lst false js), v6, v7, v8, v9, v10, v11, v12, v13, v14, v15, v16] (M ++ [x3]) = .ok .nx [some scr, some gr, some (.int cell), some (.ref M.length), some (.int sp), some (.lst false js), some (boxD sp js), v7, v8, v9, v10, v11, v12, v13, v14, v15, v16] (M ++ [x3]) := by
    have e := cof_sp h22 9 hj (by omega) false (init_sp h0 h1 h2 h27 6 (by omega : 1 ≤ sp) hj true)
    unfold bCrate
    rw [ap_set, pure2 (a := .int sp) (b := .lst false js) rfl rfl rfl rfl rfl hf e (cl_box hcl)]; rfl
  obtain ⟨j, x4, Jj, j4, e4⟩ := job_sp h14 h15 h17 7 (gm x3) j3 sp1 (by omega : sp ≤ 50)
  rw [sm] at e4
  have s4 : bDraw 7 (callN tbl 10) [some scr, some gr, some (.int cell), some (.ref M.length), some (.int sp), some (.lst false js), some (boxD sp js), v7, v8, v9, v10, v11, v12, v13, v14, v15, v16] (M ++ [x3]) = .ok .nx [some scr, some gr, some (.int cell), some (.ref M.length), some (.int sp), some (.lst false js), some (boxD sp js), some j, v8, v9, v10, v11, v12, v13, v14, v15, v16] (M ++ [x4]) := draw_fin rfl rfl e4
  obtain ⟨o, x5, Jo, j5, e5⟩ := job_sp h14 h15 h17 7 (gm x4) j4 sp1 (by omega : sp ≤ 50)
  rw [sm] at e5
  have s5 : bDraw 8 (callN tbl 10) [some scr, some gr, some (.int cell), some (.ref M.length), some (.int sp), some (.lst false js), some (boxD sp js), some j, v8, v9, v10, v11, v12, v13, v14, v15, v16] (M ++ [x4]) = .ok .nx [some scr, some gr, some (.int cell), some (.ref M.length), some (.int sp), some (.lst false js), some (boxD sp js), some j, some o, v9, v10, v11, v12, v13, v14, v15, v16] (M ++ [x5]) := draw_fin rfl rfl e5
  have Oj : OkL sp js := ⟨hj, by omega⟩
  have OW : OkL sp (js ++ [j]) := okL_app ⟨hj, by omega⟩ Jj
  have s6 : bMore (callN tbl 10) [some scr, some gr, some (.int cell), some (.ref M.length), some (.int sp), some (.lst false js), some (boxD sp js), some j, some o, v9, v10, v11, v12, v13, v14, v15, v16] (M ++ [x5]) = .ok .nx [some scr, some gr, some (.int cell), some (.ref M.length), some (.int sp), some (.lst false js), some (boxD sp js), some j, some o, some (boxD sp (js ++ [j])), v10, v11, v12, v13, v14, v15, v16] (M ++ [x5]) := by
    unfold bMore
    rw [ap_set, pure2 (a := boxD sp js) (b := j) rfl rfl rfl (Jj.view _) (fr_box hf) Jj.free (with_ok (by omega) Oj Jj) (cl_box (jobs_clean OW.1))]; rfl
  have s7 : bWide (callN tbl 10) [some scr, some gr, some (.int cell), some (.ref M.length), some (.int sp), some (.lst false js), some (boxD sp js), some j, some o, some (boxD sp (js ++ [j])), v10, v11, v12, v13, v14, v15, v16] (M ++ [x5]) = .ok .nx [some scr, some gr, some (.int cell), some (.ref M.length), some (.int sp), some (.lst false js), some (boxD sp js), some j, some o, some (boxD sp (js ++ [j])), some (.lst false (js ++ [j])), v11, v12, v13, v14, v15, v16] (M ++ [x5]) := by
    unfold bWide
    rw [ap_set, app_ok (js := js) (d := j) rfl rfl (by omega)]; rfl
  have s8 := held_ok (cal := callN tbl 10) (ρ := [some scr, some gr, some (.int cell), some (.ref M.length), some (.int sp), some (.lst false js), some (boxD sp js), some j, some o, some (boxD sp (js ++ [j])), some (.lst false (js ++ [j])), v11, v12, v13, v14, v15, v16]) (M := M ++ [x5]) rfl rfl rfl rfl rfl Jo ⟨hj, by omega⟩ OW (with_ok (by omega) Oj Jo)
  rw [ln] at s8
  have Hh : Held sp 3 [js, js ++ [j], js ++ [o]] := ⟨fun l h => by
    rcases List.mem_cons.mp h with rfl | h
    · exact Oj
    · rcases List.mem_cons.mp h with rfl | h
      · exact OW
      · rw [List.mem_singleton.mp h]; exact okL_app ⟨hj, by omega⟩ Jo, Nat.le_refl _, ⟨js ++ [o], rfl, by simp⟩⟩
  obtain ⟨P, qs, w12, w14, w15, w16, Hq, s9⟩ := for_ok (M0 := M) j5 (by omega : 1 ≤ sp) (by omega : sp ≤ 1000) (ws := js ++ [j]) ⟨OW.1, by rw [List.length_append]; show js.length + 1 ≤ 50; omega⟩ Jo Hh (scr := scr) (gr := gr) (cel := .int cell) (c5 := .lst false js) (c6 := boxD sp js) (c7 := j) (v12 := v12) (v13 := v13) (v14 := v14) (v15 := v15) (v16 := v16)
  obtain ⟨dd, s10⟩ := after_ok (by omega : 1 ≤ sp) (by omega : sp ≤ 1000) (js := js) (j := j) ⟨hj, by omega⟩ Jj Hq (P := P) (ρ := [some scr, some gr, some (.int cell), some (.ref M.length), some (.int sp), some (.lst false js), some (boxD sp js), some j, some o, some (boxD sp (js ++ [j])), some (.lst false (js ++ [j])), some (.ref P.length), w12, v13, w14, w15, w16]) rfl rfl rfl rfl rfl (by show 13 < 17; decide)
  refine ⟨[some (.ref M.length), some (.int sp), some (.lst false js), some (boxD sp js), some j, some o, some (boxD sp (js ++ [j])), some (.lst false (js ++ [j])), some (.ref P.length), w12, some dd, w14, w15, w16], P ++ [.lst (qs.map (pB sp))], ?_, rfl⟩
  unfold bTurn
  rw [ap_seq, s0, SR.seq_nx, ap_seq, s1, SR.seq_nx, ap_seq, s2, SR.seq_nx, ap_seq, s3, SR.seq_nx, ap_seq, s4, SR.seq_nx, ap_seq, s5, SR.seq_nx, ap_seq, s6, SR.seq_nx, ap_seq, s7, SR.seq_nx, ap_seq, s8, SR.seq_nx, ap_seq]
  simp only [se0, seS]
  rw [s9, SR.seq_nx]
  exact s10
theorem truth : ∀ ns : List Int, ns.length ≤ 63 → ∃ M, callN tbl (10 + 1) f26.id [.scr (ns.map D.int)] [] = .ok (.bl true) M := by
  intro ns hns
  refine ⟨[], ?_⟩
  show callN tbl 11 26 [.scr (ns.map D.int)] [] = _
  rw [call26, d26_is]
  refine law_cells (m := 6) (L := 14) rfl hns fun cell rest M hr => ?_
  match rest, hr with
  | [v3, v4, v5, v6, v7, v8, v9, v10, v11, v12, v13, v14, v15, v16], _ =>
    obtain ⟨ρ', M', e, h⟩ := turn (.scr (ns.map D.int)) (.int 164079478565641772891743740708015426529736053868756997449580818458973566028740659678224519451) cell M v3 v4 v5 v6 v7 v8 v9 v10 v11 v12 v13 v14 v15 v16
    exact ⟨_, ρ', M', e, h⟩
end K11

open PySem PySem.W PyProof.Rows
set_option maxHeartbeats 0 in
theorem PySem.Challenge.cw_planetlocks_k11_works_more_less_and_turn_holds : PySem.Challenge.rw_planetlocks_k11_works_more_less_and_turn.Holds := by
  w_on; o_law; k_head; (case hw => w_witness2)
  k_fill
  refine Vm.walkG (l := PySem.Challenge.rw_planetlocks_k11_works_more_less_and_turn) (n := 63) (k := 10) (T := K11.T) (t := K11.tbl) (e := K11.f26) (x := "script") rfl (by decide) rfl ⟨rfl, by decide, by decide⟩ (fun w h Y => PySem.W.kIn_of Y) K11.m26 rfl rfl ?F K11.truth
  case F =>
    intro w mg h KX G
    refine' K11.facts KX G ?bn0 ?n0 ?l0 ?c0_ ?k0 ?n1 ?l1 ?c1_ ?k1 ?n2 ?l2 ?c2_ ?k2 ?n3 ?l3 ?c3_ ?k3 ?n4 ?l4 ?c4_ ?k4 ?n5 ?l5 ?c5_ ?k5 ?n6 ?l6 ?c6_ ?k6 ?n7 ?l7 ?c7_ ?k7 ?n8 ?l8 ?c8_ ?k8 ?n9 ?l9 ?c9_ ?k9 ?n10 ?l10 ?c10_ ?k10 ?n11 ?l11 ?c11_ ?k11 ?n12 ?l12 ?c12_ ?k12 ?n13 ?l13 ?c13_ ?k13 ?n14 ?l14 ?c14_ ?k14 ?n15 ?l15 ?c15_ ?k15 ?n16 ?l16 ?c16_ ?k16 ?n17 ?l17 ?c17_ ?k17 ?n18 ?l18 ?c18_ ?k18 ?n19 ?l19 ?c19_ ?k19 ?n20 ?l20 ?c20_ ?k20 ?n21 ?l21 ?c21_ ?k21 ?n22 ?l22 ?c22_ ?k22 ?n23 ?l23 ?c23_ ?k23 ?n24 ?l24 ?c24_ ?k24 ?n25 ?l25 ?c25_ ?k25 ?n26 ?l26 ?c26_ ?k26 ?n27 ?i27 ?l27 ?c27_ ?k27 ?n28 ?pg28 ?pt28 ?pr28 ?l28 ?c28_ ?k28 ?n29 ?pg29 ?pt29 ?pr29 ?l29 ?c29_ ?k29 ?n30 ?i30 ?l30 ?c30_ ?k30 ?n31 ?i31 ?l31 ?c31_ ?k31 ?z0 ?z1 ?z2 ?z3 ?z4 ?z5 ?z6 ?z7 ?z8 ?z9 ?z10 ?z11 ?xn0 ?xk0 ?xb0 ?xt0 ?xe0 ?xg0 ?xh0 ?xd0 ?xa0 ?xm0 ?xn1 ?xk1 ?xb1 ?xt1 ?xe1 ?xg1 ?xh1 ?xd1 ?xa1 ?xm1 ?xn2 ?xk2 ?xb2 ?xt2 ?xe2 ?xg2 ?xh2 ?xd2 ?xa2 ?xm2 ?xn3 ?xk3 ?xb3 ?xt3 ?xe3 ?xg3 ?xh3 ?xd3 ?xa3 ?xm3 ?bp0 ?bd0 ?bo0 ?bs0 ?bm0 ?bk0 ?ba0 ?bo_0 ?bf0 ?bt0 ?be0 ?bx0_0 ?bx0_1 ?un0 ?ul0 ?uo0 ?us0 ?xs ?xu
    (case bn0 => k_is)
    (case n0 => k_is)
    (case l0 => k_is)
    (case c0_ => k_is)
    (case k0 => k_is)
    (case n1 => k_is)
    (case l1 => k_is)
    (case c1_ => k_is)
    (case k1 => k_is)
    (case n2 => k_is)
    (case l2 => k_is)
    (case c2_ => k_is)
    (case k2 => k_is)
    (case n3 => k_is)
    (case l3 => k_is)
    (case c3_ => k_is)
    (case k3 => k_is)
    (case n4 => k_is)
    (case l4 => k_is)
    (case c4_ => k_is)
    (case k4 => k_is)
    (case n5 => k_is)
    (case l5 => k_is)
    (case c5_ => k_is)
    (case k5 => k_is)
    (case n6 => k_is)
    (case l6 => k_is)
    (case c6_ => k_is)
    (case k6 => k_is)
    (case n7 => k_is)
    (case l7 => k_is)
    (case c7_ => k_is)
    (case k7 => k_is)
    (case n8 => k_is)
    (case l8 => k_is)
    (case c8_ => k_is)
    (case k8 => k_is)
    (case n9 => k_is)
    (case l9 => k_is)
    (case c9_ => k_is)
    (case k9 => k_is)
    (case n10 => k_is)
    (case l10 => k_is)
    (case c10_ => k_is)
    (case k10 => k_is)
    (case n11 => k_is)
    (case l11 => k_is)
    (case c11_ => k_is)
    (case k11 => k_is)
    (case n12 => k_is)
    (case l12 => k_is)
    (case c12_ => k_is)
    (case k12 => k_is)
    (case n13 => k_is)
    (case l13 => k_is)
    (case c13_ => k_is)
    (case k13 => k_is)
    (case n14 => k_is)
    (case l14 => k_is)
    (case c14_ => k_is)
    (case k14 => k_is)
    (case n15 => k_is)
    (case l15 => k_is)
    (case c15_ => k_is)
    (case k15 => k_is)
    (case n16 => k_is)
    (case l16 => k_is)
    (case c16_ => k_is)
    (case k16 => k_is)
    (case n17 => k_is)
    (case l17 => k_is)
    (case c17_ => k_is)
    (case k17 => k_is)
    (case n18 => k_is)
    (case l18 => k_is)
    (case c18_ => k_is)
    (case k18 => k_is)
    (case n19 => k_is)
    (case l19 => k_is)
    (case c19_ => k_is)
    (case k19 => k_is)
    (case n20 => k_is)
    (case l20 => k_is)
    (case c20_ => k_is)
    (case k20 => k_is)
    (case n21 => k_is)
    (case l21 => k_is)
    (case c21_ => k_is)
    (case k21 => k_is)
    (case n22 => k_is)
    (case l22 => k_is)
    (case c22_ => k_is)
    (case k22 => k_is)
    (case n23 => k_is)
    (case l23 => k_is)
    (case c23_ => k_is)
    (case k23 => k_is)
    (case n24 => k_is)
    (case l24 => k_is)
    (case c24_ => k_is)
    (case k24 => k_is)
    (case n25 => k_is)
    (case l25 => k_is)
    (case c25_ => k_is)
    (case k25 => k_is)
    (case n26 => k_is)
    (case l26 => k_is)
    (case c26_ => k_is)
    (case k26 => k_is)
    (case n27 => k_is)
    (case i27 => k_is)
    (case l27 => k_is)
    (case c27_ => k_is)
    (case k27 => k_is)
    (case n28 => k_is)
    (case pg28 => k_is)
    (case pt28 => k_is)
    (case pr28 => k_is)
    (case l28 => k_is)
    (case c28_ => k_is)
    (case k28 => k_is)
    (case n29 => k_is)
    (case pg29 => k_is)
    (case pt29 => k_is)
    (case pr29 => k_is)
    (case l29 => k_is)
    (case c29_ => k_is)
    (case k29 => k_is)
    (case n30 => k_is)
    (case i30 => k_is)
    (case l30 => k_is)
    (case c30_ => k_is)
    (case k30 => k_is)
    (case n31 => k_is)
    (case i31 => k_is)
    (case l31 => k_is)
    (case c31_ => k_is)
    (case k31 => k_is)
    (case z0 => k_is)
    (case z1 => k_is)
    (case z2 => k_is)
    (case z3 => k_is)
    (case z4 => k_is)
    (case z5 => k_is)
    (case z6 => k_is)
    (case z7 => k_is)
    (case z8 => k_is)
    (case z9 => k_is)
    (case z10 => k_is)
    (case z11 => k_is)
    (case xn0 => k_is)
    (case xk0 => k_is)
    (case xb0 => k_is)
    (case xt0 => k_is)
    (case xe0 => k_exc)
    (case xg0 => k_is)
    (case xh0 => k_is)
    (case xd0 => k_is)
    (case xa0 => k_is)
    (case xm0 => k_is)
    (case xn1 => k_is)
    (case xk1 => k_is)
    (case xb1 => k_is)
    (case xt1 => k_is)
    (case xe1 => k_exc)
    (case xg1 => k_is)
    (case xh1 => k_is)
    (case xd1 => k_is)
    (case xa1 => k_is)
    (case xm1 => k_is)
    (case xn2 => k_is)
    (case xk2 => k_is)
    (case xb2 => k_is)
    (case xt2 => k_is)
    (case xe2 => k_exc)
    (case xg2 => k_is)
    (case xh2 => k_is)
    (case xd2 => k_is)
    (case xa2 => k_is)
    (case xm2 => k_is)
    (case xn3 => k_is)
    (case xk3 => k_is)
    (case xb3 => k_is)
    (case xt3 => k_is)
    (case xe3 => k_exc)
    (case xg3 => k_is)
    (case xh3 => k_is)
    (case xd3 => k_is)
    (case xa3 => k_is)
    (case xm3 => k_is)
    (case bp0 => k_is)
    (case bd0 => k_is)
    (case bo0 => k_is)
    (case bs0 => k_is)
    (case bm0 => k_is)
    (case bk0 => k_is)
    (case ba0 => k_is)
    (case bo_0 => k_is)
    (case bf0 => k_is)
    (case bt0 => k_is)
    (case be0 => k_is)
    (case bx0_0 => k_is)
    (case bx0_1 => k_is)
    (case un0 => k_is)
    (case ul0 => k_is)
    (case uo0 => decide)
    (case us0 => repeat first | exact True.intro | refine ⟨⟨_, _, rfl, rfl, rfl⟩, ⟨_, rfl⟩, ?_⟩)
    (case xs => k_is)
    (case xu => k_is)
