import PyProof.Rows.All
import Wide.All
import OpenK.AllK
import Wide.FinOn
import HandS.ForMost
import HandS.ExcIs
import HandS.ForExc
import HandS.IsInst
import HandS.HeadHook1
import HandS.Wide
import HandS.Deep
import HandS.TryOnly
import HandS.Strs
import HandS.Flow
import HandS.Conv
import HandS.More
import HandS.Style
import HandS.TupLen
import KE.KDictKeyed
import KE.KDictZip
import HandS.TupAny
import HandS.Zip
import HandS.TupLe
import HandS.WordsExc
import HandS.Ends
import PySem.Challenge.RW_twinwalk_k05_no_worths
set_option Elab.async false
set_option linter.all false
set_option maxRecDepth 100000
set_option maxHeartbeats 4000000
/-! PLX: a caught exception that is held behind its suite. -/
namespace PLX
open PySem PySem.Spec PyProof.Rows L2

/-- an exception of the class at C -/
def EDat (a C : Addr) (h : Heap) : Prop := ∃ o vs, h.get? a = some o ∧ o.cls = .ref C ∧ o.dict = none ∧ o.data = .fields vs
def EXO (a C : Addr) : HO := .ext (EDat a C)
theorem EDat.ok {P : Program} {w : World} {H : Hp} {h : Heap} {a C : Addr} (d : EDat a C h) : ObjOk P w H h a (EXO a C) :=
  ⟨d, let ⟨o, _, e, _⟩ := d; ⟨o, e⟩, fun _ _ ⟨o, vs, e, q⟩ st => ⟨o, vs, st o e, q⟩⟩

section
variable {X : Cx} {pins : List (Addr × Obj)} {σ : L2.St} {H : Hp} {s : Shared} {a C : Addr}
/-- the exception, now tracked, in its suite -/
theorem taken (I : Inv X pins σ H s) (d : EDat a C s.heap) (na : H a = none) (new : X.s_0.heap.get? a = none) (nL : a ≠ X.env.locals) (np : ∀ p ∈ X.pn ++ pins, p.1 ≠ a) :
    Inv (X.suite a (X.pn ++ pins)) [] σ (upd H a (EXO a C)) s := by
  have off : ∀ {b : Addr} {o : HO}, H b = some o → upd H a (EXO a C) b = some o := fun e => (upd_ne (ne_of_none e na)).trans e
  refine ⟨I.ok.suite _ _, I.os, I.bare, ⟨I.base.keep, I.base.slot, fun b o e n nx => ?_, I.base.there, fun b xs e => off (I.base.tups b xs e), fun b o u e => off (I.base.frzs b o u e), fun b ps e => ?_⟩,
    I.loc, I.cell, (upd_ne (Ne.symm nL)).trans I.free, fun x c e => ?_, fun p hp => ?_, fun b u e => ?_, I.len⟩
  · refine (upd_ne fun z => ?_).trans (I.base.free b o e n nx)
    subst z
    have z : X.s_0.heap.get? b = some o := e
    rw [new] at z
    cases z
  · obtain ⟨more, q⟩ := I.base.tbls b ps e
    exact ⟨more, off q⟩
  · refine (upd_ne fun z => ?_).trans (I.freeC x c e)
    subst z
    obtain ⟨v, o, h1, h2⟩ := I.cell x c e
    obtain ⟨o', vs, h3, _, _, h4⟩ := d
    rw [h1] at h3
    cases h3
    rw [h2] at h4
    cases h4
  · have hp' : p ∈ X.pn ++ pins := by
      rw [List.append_nil] at hp
      exact hp
    obtain ⟨h1, h2, h3⟩ := I.pin p hp'
    exact ⟨h1, (upd_ne (np p hp')).trans h2, h3⟩
  · by_cases hb : b = a
    · subst hb
      rw [upd_same] at e
      cases e
      exact d.ok
    · rw [upd_ne hb] at e
      exact (I.hok b u e).stay (fun _ _ _ q => q) (fun c q => off q) fun c xs q => off q
theorem untaken {pn' : List (Addr × Obj)} (I : Inv (X.suite a (X.pn ++ pins)) pn' σ H s) (ok : X.Ok) : Inv X pins σ H s :=
  ⟨ok, I.os, I.bare, I.base, I.loc, I.cell, I.free, I.freeC, fun p hp => I.pin p (List.mem_append_left _ hp), I.hok, I.len⟩

/-- the wish about what the body raises: of the class cv it is handled by ts, with it in slot i; else it goes on -/
def wHeld (K : PySem.W.Frag) (cv : Value) (i : Nat) (ts : TS) (Wout : WX) (D : Ends) : WX := fun cls d σ H => ∃ b, PySem.W.exmOne K cls cv = some b ∧ (b = false → Wout cls d σ H) ∧
  (b = true → ∃ C, cls = .ref C ∧ d = none ∧ ∀ a, H a = none → ts { nx := fun σ1 H1 => D.nx (σ1.set i none) H1, rt := D.rt, bk := fun σ1 H1 => D.bk (σ1.set i none) H1, ct := fun σ1 H1 => D.ct (σ1.set i none) H1 } (σ.set i (some (.ref a))) (upd H a (EXO a C)))
theorem ps_try_held {x n : Str} {cv : Value} {i : Nat} {body suite : List Stmt} {b₀ : Stmt} {np pos pos' : Pos} {tb : WX → TS} {ts : TS} {Wout : WX}
    (hs : X.stack = X.env :: X.outer) (hf : X.env.frame = some X.env.locals) (hex : X.ex = []) (hN : X.N.Nodup) (hi : X.N[i]? = some n) (hln : X.env.kindOf n = some .local) (hc : Names X x cv) (tk : Takes X Wout)
    (hb : ∀ (W : WX) (pn : List (Addr × Obj)) (xe : Value → Shared → Prop), Takes (X.tr pn xe) W → PassesOwn (model X.prog X.w) X.A X.env xe → PSs (X.tr pn xe) body (tb W))
    (hsu : ∀ (a : Addr) (pn : List (Addr × Obj)), PSs (X.suite a pn) (b₀ :: suite) ts) :
    PS X (.Try body [.ExceptHandler (some (.Name x np)) (some n) (b₀ :: suite) pos'] [] [] pos) (fun D σ H => tb (wHeld X.K cv i ts Wout D) D σ H) := by
  constructor
  intro pins s σ H D I h
  have hx := I.ok
  have fr : X.A.frames = some (X.env :: X.outer) := hx.frames.trans (congrArg some hs)
  -- what the body hands over
  have body_ := hb (wHeld X.K cv i ts Wout D) (X.pn ++ pins) (fun e s1 => wpAny (model X.prog X.w) X.A (noteFrame e X.env)
      (fun _ s2 => wpAny (model X.prog X.w) X.A (setFlight e none)
        (fun _ s3 => wpAny (model X.prog X.w) X.A (handleBy e X.env [.ExceptHandler (some (.Name x np)) (some n) (b₀ :: suite) pos'])
          (SP X pins D) X.xe s3) X.xe s2) X.xe s1)
  have run := (body_ (fun u s' air => ?caught) PassesOwn.looking).run [] s σ H D (I.toTry _) h
  case caught =>
    obtain ⟨a, G, sI, pins', σ', H', cls, d, hu, J', ground, up, sky, na, os, ag, b, exm, hno, hyes⟩ := air
    subst hu
    have J : Inv X pins σ' H' sI := J'.ofTry hx
    have sky2 : Sky G (X.env :: X.outer) a (Zc cls d) X.env.locals s'.heap := hs ▸ sky
    refine Sky.land Zc.steady fr hf sky2 fun h3 fl up3 => ?_
    have J3 : Inv X pins σ' H' { s' with heap := h3 } := J.landed ground fl.1 (up.trans up3) os ag
    obtain ⟨o3, v3, g3, z3, d3⟩ := fl.there
    -- it is no frame, and it was not there at the entry
    have notFrame : a ∉ frs (X.env :: X.outer) := fun hm => by
      obtain ⟨_, o4, g4, nf⟩ := fl.2.2.1.mem hm
      rw [g3] at g4
      cases g4
      exact nf v3 d3
    have nL : a ≠ X.env.locals := fun z => notFrame (List.mem_filterMap.mpr ⟨X.env, List.mem_cons_self, by rw [hf, z]⟩)
    have nF : a ∉ X.fs := fun hm => by
      obtain ⟨e, he, q⟩ := List.mem_filterMap.mp hm
      exact notFrame (List.mem_filterMap.mpr ⟨e, List.mem_cons_of_mem _ he, q⟩)
    have notI : sI.heap.get? a = none := by
      cases e : sI.heap.get? a with
      | none => rfl
      | some o =>
        have z := ground a o e (by rw [hs]; exact notFrame)
        rw [fl.2.1] at z
        cases z
    have new : X.s_0.heap.get? a = none := by
      cases e : X.s_0.heap.get? a with
      | none => rfl
      | some o =>
        obtain ⟨o', z⟩ := J.base.there a o e (by rw [hex]; exact List.not_mem_nil)
        rw [notI] at z
        cases z
    have np_ : ∀ p ∈ X.pn ++ pins, p.1 ≠ a := fun p hp z => by
      have q := (J.pin p hp).1
      rw [z, notI] at q
      cases q
    -- the look at its class
    have looksCls : PySem.W.Looks (model X.prog X.w) h3 (typeOf (.ref a)) cls := fun A Q E s k q => wpAny_typeOf_ref (k _ _ g3) (by rw [z3.1]; exact q)
    have looks := PySem.W.exm_one (M := model X.prog X.w) J3.kIn looksCls exm
    have S3 := J3.suite g3 d3 na nL nF
    refine wpAny_handleBy_cons (codeAny_handlers_test ?_) (fun z => nomatch z)
    have asked : ∀ {Q : Value → Shared → Prop} {E : Value → Shared → Prop}, Q cv { s' with heap := h3 } →
        wpAny (model X.prog X.w) (X.A.mark (some (.ref a))) (eval (.Name x np) X.env) Q E { s' with heap := h3 } := fun q => by
      obtain ⟨gx, dx, m | ⟨m, v, nn⟩⟩ := hc
      · exact ld_glob (X := X.suite a _) S3 gx m q dx
      · exact ld_blt (X := X.suite a _) S3 gx m v q nn dx
    refine asked (looks.here ?_)
    cases b with
    | true =>
      obtain ⟨C, hcls, hd, hts⟩ := hyes rfl
      subst hcls
      subst hd
      refine codeAny_handlers_suite_as (HandSPX.lands_againZ fl fun h4 fl4 up4 => ?_)
      have J4 : Inv X pins σ' H' { s' with heap := h4 } := J.landed ground fl4.1 ((up.trans up3).trans up4) os ag
      obtain ⟨o5, v5, g5, z5, d5⟩ := fl4.there
      have T := taken (C := C) J4 ⟨o5, v5, g5, z5.1, z5.2, d5⟩ na new nL np_
      refine store_ok (X := X.suite a (X.pn ++ pins)) (v := .ref a) T hN hi (.inl hln) rfl (fun s5 T5 => ?_) (.inr hln)
      refine wpAny_mono ((hsu a (X.pn ++ pins)).run [] s5 _ _ _ T5 (hts a na)) (fun f s6 q => ?_) (fun _ _ z => z.elim)
      have goes : ∀ {σ6 : L2.St} {H6 : Hp} {Q : Shared → Prop}, Inv (X.suite a (X.pn ++ pins)) [] σ6 H6 s6 → (∀ s7, Inv X pins (σ6.set i none) H6 s7 → Q s7) →
          wpAny (model X.prog X.w) X.A (do bindName X.env n .none; unbindBehindTheSuite X.env n pos') (fun _ s7 => Q s7) X.xe s6 :=
        fun S6 hq => gone_ok (untaken S6 hx) hN hi hln hq
      rcases f with _ | u | _ | _
      all_goals first
        | (obtain ⟨v6, σ6, H6, S6, r6, q6⟩ := q; exact goes S6 fun s7 J7 => ⟨v6, _, _, J7, r6, q6⟩)
        | (obtain ⟨σ6, H6, S6, q6⟩ := q; exact goes S6 fun s7 J7 => ⟨_, _, J7, q6⟩)
    | false =>
      show wpAny _ X.A (handleBy (.ref a) X.env []) _ _ _
      refine wpAny_handleBy_nil ?_
      obtain ⟨k1, k2, k3, o6, v6, T6, oT, ts6, e1, e2, e3, e4, er⟩ := id fl
      unfold PySem.passOn
      refine wpAny_bind (wpAny_field e1 e3 e4 ?_)
      rw [if_neg (show ¬ ((Value.ref T6 == Value.none) = true) from by simp)]
      have on : wpAny (model X.prog X.w) X.A (setFlight (.ref a) X.env.frame) (fun _ s4 => wpAny (model X.prog X.w) X.A (throw (.ref a) : Sem Flow) (SP X pins D) X.xe s4) X.xe { s' with heap := h3 } := by
        rw [hf]
        exact HandSPX.setFlight_upZ fl fun h4 held up4 => wpAny_throw (tk _ _ ⟨a, G, sI, pins, σ', H', cls, d, rfl, J, ground, (up.trans up3).trans up4, .inr (.inr (hs ▸ held)), na, os, ag, hno rfl⟩)
      first
        | exact wpAny_bind (wpAny_pure (wpAny_bind on))
        | exact wpAny_bind on
  refine wpAny_Try_except (wpAny_mono run (fun f s1 q => ?_) fun e s1 he => he)
  rcases f with _ | u | _ | _
  · obtain ⟨σ1, H1, J1, q1⟩ := q
    exact wpAny_execs_nil ⟨σ1, H1, J1.ofTry hx, q1⟩
  all_goals first
    | (obtain ⟨v, σ1, H1, J1, r1, q1⟩ := q; exact ⟨v, σ1, H1, J1.ofTry hx, r1, q1⟩)
    | (obtain ⟨σ1, H1, J1, q1⟩ := q; exact ⟨σ1, H1, J1.ofTry hx, q1⟩)
end
end PLX

set_option maxRecDepth 100000
/-! PL1: a small language over plain data, and what it computes. -/
namespace PL
open PySem

/-- what stands in a mutable place -/
inductive Cl where
  | dead
  | lst (ds : List PyData)
  | dct (kvs : List (PyData × PyData))
  /-- a dict whose keys are tuples of whole numbers and such tuples -/
  | dcn (kvs : List (PySem.NestedKey × PyData))
/-- a value: plain data that no one changes any more, a mutable place, a tuple that holds such, the list that the law is given -/
inductive PV where
  | d (x : PyData)
  | cell (n : Nat)
  | tc (xs : List PV)
  | kl (ds : List PyData)
  /-- a caught exception, by its class -/
  | exc (c : String)
abbrev Hh := List Cl
abbrev Ee := List (Option PV)
inductive Out (α : Type) where
  | ok (a : α) (h : Hh)
  | exn (c : String) (h : Hh)
  | stuck
/-- where no exception may come -/
def strict {α : Type} (m : Out α) : Out α := match m with
  | .exn _ _ => .stuck
  | m => m
def Out.bind {α β : Type} (m : Out α) (f : α → Hh → Out β) : Out β :=
  match m with
  | .ok a h => f a h
  | .exn c h => .exn c h
  | .stuck => .stuck
@[simp] theorem Out.bind_ok {α β : Type} (a : α) (h : Hh) (f : α → Hh → Out β) : (Out.ok a h).bind f = f a h := rfl
@[simp] theorem Out.bind_exn {α β : Type} (c : String) (h : Hh) (f : α → Hh → Out β) : (Out.exn c h : Out α).bind f = .exn c h := rfl
@[simp] theorem Out.bind_stuck {α β : Type} (f : α → Hh → Out β) : (Out.stuck : Out α).bind f = .stuck := rfl
theorem Out.bind_eq_ok {α β : Type} {m : Out α} {f : α → Hh → Out β} {b : β} {h : Hh} (e : m.bind f = .ok b h) : ∃ a h1, m = .ok a h1 ∧ f a h1 = .ok b h := by
  cases m with
  | ok a h1 => exact ⟨a, h1, rfl, e⟩
  | exn c h1 => cases e
  | stuck => cases e

/-! ### reading -/
mutual
def vw (h : Hh) : PV → Option PyData
  | .d x => some x
  | .cell n => match h[n]? with
    | some (.lst ds) => some (.list ds)
    | some (.dct kvs) => some (.dict kvs)
    | _ => none
  | .tc xs => match vws h xs with
    | some ds => some (.tuple ds)
    | none => none
  | .kl _ => none
  | .exc _ => none
def vws (h : Hh) : List PV → Option (List PyData)
  | [] => some []
  | v :: r => match vw h v, vws h r with
    | some x, some xs => some (x :: xs)
    | _, _ => none
end
def pures : List PV → Option (List PyData)
  | [] => some []
  | .d x :: r => match pures r with
    | some xs => some (x :: xs)
    | none => none
  | _ :: _ => none
abbrev line : Nat := 16777216
def mkL (c : Bool) (ds : List PyData) (h : Hh) : Out PV :=
  if ds.length ≤ line then (if c then .ok (.cell h.length) (h ++ [.lst ds]) else .ok (.d (.list ds)) h) else .stuck
def bln (b : Bool) : PV := .d (.bool b)
def int (i : Int) : PV := .d (.int i)
def ixn (n : Nat) (i : Int) : Option Nat := if 0 ≤ i then (if i < n then some i.toNat else none) else if -(n : Int) ≤ i then some (i + n).toNat else none
def ati {α : Type} (xs : List α) (i : Int) : Option α := match ixn xs.length i with
  | some j => xs[j]?
  | none => none
/-- a dict's value: keys as they are compared -/
def dget (kvs : List (PyData × PyData)) (k : PyData) : Option PyData := match kvs with
  | [] => none
  | p :: r => if PyData.eqv p.1 k then some p.2 else dget r k
def dput (kvs : List (PyData × PyData)) (k v : PyData) : List (PyData × PyData) := match kvs with
  | [] => [(k, v)]
  | p :: r => if PyData.eqv p.1 k then (p.1, v) :: r else p :: dput r k v
abbrev NK := PySem.NestedKey
mutual
/-- data as a key: None, whole numbers, texts, tuples -/
def nkey : PyData → Option NK
  | .none => some .none
  | .int i => some (.num i)
  | .str x => some (.text x)
  | .tuple ds => (match nkeys ds with
    | some ks => some (.tup ks)
    | none => none)
  | _ => none
def nkeys : List PyData → Option (List NK)
  | [] => some []
  | d :: r => (match nkey d, nkeys r with
    | some k, some ks => some (k :: ks)
    | _, _ => none)
end
def keyN (d : PyData) : Option NK := match nkey d with
  | some (.tup ks) => if (NestedKey.tup ks).depth ≤ 8 then some (.tup ks) else none
  | _ => none
def nget (kvs : List (NK × PyData)) (k : NK) : Option PyData := match kvs with
  | [] => none
  | p :: r => if p.1 = k then some p.2 else nget r k
def nset (kvs : List (NK × PyData)) (k : NK) (v : PyData) : List (NK × PyData) := match kvs with
  | [] => [(k, v)]
  | p :: r => if p.1 = k then (p.1, v) :: r else p :: nset r k v
/-- keys that are texts or whole numbers -/
def isKey : PyData → Bool
  | .int _ => true
  | .str _ => true
  | _ => false
def flatD : PyData → Bool
  | .none => true
  | .bool _ => true
  | .int _ => true
  | .str _ => true
  | _ => false
def ok2 (a b : PyData) : Bool := SeqAt.shaped a && SeqAt.shaped b

inductive Prim where
  | tup | lst (c : Bool) | idx | slc (c lo hi : Bool)
  | add (c : Bool) | sub | mul | mod | fdiv | pow | neg
  | eq | ne | lt | le | gt | ge | isN | notN | inn | notIn
  | len | listOf (c : Bool) | tupOf | int | isTy (t : String) | dictPairs | dictZip
  | append | extend | pop | popAt | clear | get1 | get2
  | isBl | notBl | index
  | lenSet | min2 | max2 | abs
  | dnew | dnewN | lstRng (c : Bool)
  | rev (c : Bool) | all | insert | dictPairsC
  /-- isinstance(e, C), isinstance(e, (C, ..)) of a caught exception of one of xs -/
  | isExc (tup : Bool) (xs cs : List String)
  /-- xs[::k], k 1 or -1; xs.count(x) -/
  | stp (c : Bool) | count

def tupM (vs : List PV) (h : Hh) : Out PV := match pures vs with
  | some ds => if ds.length ≤ line then .ok (.d (.tuple ds)) h else .stuck
  | none => if vs.length ≤ line then .ok (.tc vs) h else .stuck
def lstM (c : Bool) (vs : List PV) (h : Hh) : Out PV := match pures vs with
  | some ds => mkL c ds h
  | none => .stuck
def pick (o : Option PyData) (h : Hh) : Out PV := match o with
  | some x => .ok (.d x) h
  | none => .stuck
def idxD (x i : PyData) (h : Hh) : Out PV := match x, i with
  | .list ds, .int k => pick (ati ds k) h
  | .tuple ds, .int k => pick (ati ds k) h
  | .dict kvs, k => if isKey k then pick (dget kvs k) h else .stuck
  | _, _ => .stuck
def idxM (o i : PV) (h : Hh) : Out PV := match o, i with
  | .tc ps, .d (.int k) => (match ati ps k with
    | some v => .ok v h
    | none => .stuck)
  | .kl ds, .d (.int k) => pick (ati ds k) h
  | .d x, .d i => idxD x i h
  | .cell n, .d i => (match h[n]? with
    | some (.lst ds) => idxD (.list ds) i h
    | some (.dct kvs) => idxD (.dict kvs) i h
    | some (.dcn kvs) => (match keyN i with
      | some k => pick (nget kvs k) h
      | none => .stuck)
    | _ => .stuck)
  | _, _ => .stuck
/-- a slice's ends -/
def six (n d : Nat) : Option Int → Nat
  | none => d
  | some v => if v < 0 then (v + (n : Int)).toNat else min v.toNat n
def cut {α : Type} (xs : List α) (lo hi : Option Int) : List α := (xs.drop (six xs.length 0 lo)).take (six xs.length xs.length hi - six xs.length 0 lo)
def slcM (c : Bool) (o : PV) (lo hi : Option Int) (h : Hh) : Out PV := match o with
  | .kl ds => mkL c (cut ds lo hi) h
  | o => (match vw h o with
    | some (.list ds) => mkL c (cut ds lo hi) h
    | some (.tuple ds) => (match o with
      | .d _ => .ok (.d (.tuple (cut ds lo hi))) h
      | _ => .stuck)
    | _ => .stuck)
def addM (c : Bool) (x y : PV) (h : Hh) : Out PV := match x, vw h x, vw h y with
  | .kl a, _, some (.list b) => if a.length + b.length ≤ line then mkL c (a ++ b) h else .stuck
  | _, some (.int i), some (.int j) => .ok (int (i + j)) h
  | _, some (.str a), some (.str b) => if a.length + b.length ≤ line then .ok (.d (.str (a ++ b))) h else .stuck
  | _, some (.list a), some (.list b) => if a.length + b.length ≤ line then mkL c (a ++ b) h else .stuck
  | _, some (.tuple a), some (.tuple b) => (match x, y with
    | .d _, .d _ => if a.length + b.length ≤ line then .ok (.d (.tuple (a ++ b))) h else .stuck
    | _, _ => .stuck)
  | _, _, _ => .stuck
def subM (x y : PV) (h : Hh) : Out PV := match x, y with
  | .d (.int i), .d (.int j) => .ok (int (i - j)) h
  | _, _ => .stuck
def bits (i : Int) : Nat := i.natAbs.log2
def mulM (x y : PV) (h : Hh) : Out PV := match x, y with
  | .d (.int i), .d (.int j) => if bits i + bits j < 1000000 then .ok (int (i * j)) h else .stuck
  | .d (.list ds), .d (.int j) => if 0 ≤ j ∧ j < 1000000 ∧ ds.length * j.toNat ≤ line then .ok (.d (.list (List.replicate j.toNat ds).flatten)) h else .stuck
  | _, _ => .stuck
def modM (x y : PV) (h : Hh) : Out PV := match x, y with
  | .d (.int i), .d (.int j) => if 0 < j then .ok (int (i % j)) h else .stuck
  | _, _ => .stuck
def fdivM (x y : PV) (h : Hh) : Out PV := match x, y with
  | .d (.int i), .d (.int j) => if 0 < j ∧ bits j < 9000 then .ok (int (i / j)) h else .stuck
  | _, _ => .stuck
def powM (x y : PV) (h : Hh) : Out PV := match x, y with
  | .d (.int i), .d (.int j) => if 0 ≤ j ∧ j ≤ 1000000 ∧ i.natAbs < 2 ^ 64 then .ok (int (i ^ j.toNat)) h else .stuck
  | _, _ => .stuck
def negM (x : PV) (h : Hh) : Out PV := match x with
  | .d (.int i) => .ok (int (-i)) h
  | _ => .stuck
def eqM (neg : Bool) (x y : PV) (h : Hh) : Out PV := match vw h x, vw h y with
  | some a, some b => if ok2 a b then .ok (bln (if neg then !PyData.eqv a b else PyData.eqv a b)) h else .stuck
  | _, _ => .stuck
def cmpM (p : Int → Int → Bool) (x y : PV) (h : Hh) : Out PV := match x, y with
  | .d (.int i), .d (.int j) => .ok (bln (p i j)) h
  | _, _ => .stuck
def indexM (o x : PV) (h : Hh) : Out PV := match vw h o, x with
  | some (.list ds), .d d => if ok2 (.list ds) d then (match ds.findIdx? fun z => PyData.eqv z d with
    | some j => .ok (int j) h
    | none => .stuck) else .stuck
  | _, _ => .stuck
def isBlM (neg : Bool) (x y : PV) (h : Hh) : Out PV := match x, y with
  | .d (.bool a), .d (.bool b) => .ok (bln (if neg then !decide (a = b) else decide (a = b))) h
  | _, _ => .stuck
def isNone : PV → Bool
  | .d .none => true
  | _ => false
def inD (x y : PyData) : Option Bool := match y with
  | .list ds => if ok2 x (.list ds) then some (ds.any fun z => PyData.eqv z x) else none
  | .tuple ds => if flatD x && ds.all flatD then some (ds.any fun z => PyData.eqv z x) else none
  | .dict kvs => if isKey x then some (dget kvs x).isSome else none
  | _ => none
def inM (neg : Bool) (x y : PV) (h : Hh) : Out PV := match x, y, vw h y with
  | .d _, .tc _, _ => .stuck
  | .d a, _, some b => (match inD a b with
    | some k => .ok (bln (if neg then !k else k)) h
    | none => .stuck)
  | .d a, .cell n, none => (match h[n]? with
    | some (.dcn kvs) => (match keyN a with
      | some k => .ok (bln (if neg then !(nget kvs k).isSome else (nget kvs k).isSome)) h
      | none => .stuck)
    | _ => .stuck)
  | _, _, _ => .stuck
def lenD : PyData → Option Nat
  | .list ds => some ds.length
  | .tuple ds => some ds.length
  | .str s => some s.length
  | .dict kvs => some kvs.length
  | _ => none
def lenM (x : PV) (h : Hh) : Out PV := match x with
  | .tc ps => .ok (int ps.length) h
  | .kl ds => .ok (int ds.length) h
  | x => (match vw h x with
    | some (.str s) => if s.length ≤ line then .ok (int s.length) h else .stuck
    | some (.list ds) => .ok (int ds.length) h
    | some (.tuple ds) => .ok (int ds.length) h
    | some (.dict kvs) => .ok (int kvs.length) h
    | some _ => .stuck
    | none => (match x with
      | .cell n => (match h[n]? with
        | some (.dcn kvs) => if kvs.length ≤ line then .ok (int kvs.length) h else .stuck
        | _ => .stuck)
      | _ => .stuck))
def listOfM (c : Bool) (x : PV) (h : Hh) : Out PV := match x, vw h x with
  | .tc _, _ => .stuck
  | _, some (.list ds) => mkL c ds h
  | _, some (.tuple ds) => mkL c ds h
  | _, _ => .stuck
def tupOfM (x : PV) (h : Hh) : Out PV := match x, vw h x with
  | .tc _, _ => .stuck
  | _, some (.list ds) => .ok (.d (.tuple ds)) h
  | _, some (.tuple ds) => .ok (.d (.tuple ds)) h
  | _, _ => .stuck
def intM (x : PV) (h : Hh) : Out PV := match x with
  | .d (.int i) => .ok (int i) h
  | .d (.bool b) => .ok (int (if b then 1 else 0)) h
  | _ => .stuck
def tyD : PyData → String
  | .none => "NoneType"
  | .bool _ => "bool"
  | .int _ => "int"
  | .str _ => "str"
  | .list _ => "list"
  | .tuple _ => "tuple"
  | .dict _ => "dict"
def isTyD (t : String) (x : PyData) : Bool := tyD x == t || (t == "int" && tyD x == "bool")
def isTyM (t : String) (x : PV) (h : Hh) : Out PV := match vw h x with
  | some y => .ok (bln (isTyD t y)) h
  | _ => .stuck
def txts : List PyData → Option (List Str)
  | [] => some []
  | .str x :: r => (match txts r with
    | some xs => some (x :: xs)
    | none => none)
  | _ :: _ => none
/-- texts, each once -/
def once (acc : List Str) (x : Str) : List Str := if x ∈ acc then acc else acc ++ [x]
def uniq (xs : List Str) : List Str := xs.foldl once []
/-- len(set(xs)) -/
def lenSetM (x : PV) (h : Hh) : Out PV := match vw h x with
  | some (.list ds) => (match txts ds with
    | some xs => if xs.length ≤ 4000 then .ok (int (uniq xs).length) h else .stuck
    | none => .stuck)
  | _ => .stuck
/-- xs[::-1] -/
def revM (c : Bool) (x : PV) (h : Hh) : Out PV := match vw h x with
  | some (.list ds) => mkL c ds.reverse h
  | _ => .stuck
/-- xs[::k], k 1 or -1 -/
def stpM (c : Bool) (x k : PV) (h : Hh) : Out PV := match vw h x, k with
  | some (.list ds), .d (.int i) => if i = 1 then mkL c ds h else if i = -1 then mkL c ds.reverse h else .stuck
  | _, _ => .stuck
/-- xs.count(x) -/
def countM (o x : PV) (h : Hh) : Out PV := match vw h o, x with
  | some (.list ds), .d d => if ok2 (.list ds) d then .ok (int (ds.countP fun z => PyData.eqv z d)) h else .stuck
  | _, _ => .stuck
def boolsD : List PyData → Option (List Bool)
  | [] => some []
  | .bool b :: r => (match boolsD r with
    | some bs => some (b :: bs)
    | none => none)
  | _ :: _ => none
/-- all(xs), of truths -/
def allM (x : PV) (h : Hh) : Out PV := match vw h x with
  | some (.list ds) => (match boolsD ds with
    | some bs => .ok (bln (bs.all id)) h
    | none => .stuck)
  | _ => .stuck
def insertM (o i x : PV) (h : Hh) : Out PV := match o, i, x with
  | .cell n, .d (.int k), .d x => (match h[n]? with
    | some (.lst ds) => if 0 ≤ k ∧ k < 4294967296 ∧ ds.length < line then .ok (.d .none) (h.set n (.lst (ds.take k.toNat ++ [x] ++ ds.drop k.toNat))) else .stuck
    | _ => .stuck)
  | _, _, _ => .stuck
/-- list(range(b)) -/
def lstRngM (c : Bool) (x : PV) (h : Hh) : Out PV := match x with
  | .d (.int b) => if b ≤ line ∧ -line ≤ b then mkL c ((List.range b.toNat).map fun (i : Nat) => PyData.int i) h else .stuck
  | _ => .stuck
def min2M (x y : PV) (h : Hh) : Out PV := match x, y with
  | .d (.int i), .d (.int j) => .ok (int (if j < i then j else i)) h
  | _, _ => .stuck
def max2M (x y : PV) (h : Hh) : Out PV := match x, y with
  | .d (.int i), .d (.int j) => .ok (int (if j > i then j else i)) h
  | _, _ => .stuck
def absM (x : PV) (h : Hh) : Out PV := match x with
  | .d (.int i) => .ok (int (if i < 0 then -i else i)) h
  | _ => .stuck
def pairsD : List PyData → Option (List (PyData × PyData))
  | [] => some []
  | .tuple [k, v] :: r => if isKey k then (match pairsD r with
    | some ps => some ((k, v) :: ps)
    | none => none) else none
  | _ :: _ => none
def dputs (kvs : List (PyData × PyData)) : List (PyData × PyData) → List (PyData × PyData)
  | [] => kvs
  | p :: r => dputs (dput kvs p.1 p.2) r
def dictPairsM (x : PV) (h : Hh) : Out PV := match vw h x with
  | some (.list ds) => (match pairsD ds with
    | some ps => .ok (.d (.dict (dputs [] ps))) h
    | none => .stuck)
  | _ => .stuck
/-- dict(pairs), to be changed -/
def dictPairsCM (x : PV) (h : Hh) : Out PV := match vw h x with
  | some (.list ds) => (match pairsD ds with
    | some ps => .ok (.cell h.length) (h ++ [.dct (dputs [] ps)])
    | none => .stuck)
  | _ => .stuck
def dictZipM (x y : PV) (h : Hh) : Out PV := match vw h x, vw h y with
  | some (.list ks), some (.list vs) => if ks.all isKey then .ok (.d (.dict (dputs [] (ks.zip vs)))) h else .stuck
  | _, _ => .stuck
def appendM (o x : PV) (h : Hh) : Out PV := match o, x with
  | .cell n, .d x => (match h[n]? with
    | some (.lst ds) => if ds.length < line then .ok (.d .none) (h.set n (.lst (ds ++ [x]))) else .stuck
    | _ => .stuck)
  | _, _ => .stuck
def extendM (o x : PV) (h : Hh) : Out PV := match o, vw h x with
  | .cell n, some (.list zs) => (match h[n]? with
    | some (.lst ds) => if ds.length + zs.length ≤ line then .ok (.d .none) (h.set n (.lst (ds ++ zs))) else .stuck
    | _ => .stuck)
  | _, _ => .stuck
def popM (o : PV) (h : Hh) : Out PV := match o with
  | .cell n => (match h[n]? with
    | some (.lst ds) => (match ds[ds.length - 1]? with
      | some x => .ok (.d x) (h.set n (.lst ds.dropLast))
      | none => .stuck)
    | _ => .stuck)
  | _ => .stuck
def popAtM (o i : PV) (h : Hh) : Out PV := match o, i with
  | .cell n, .d (.int k) => (match h[n]? with
    | some (.lst ds) => (match ixn ds.length k with
      | some j => (match ds[j]? with
        | some x => .ok (.d x) (h.set n (.lst (ds.eraseIdx j)))
        | none => .stuck)
      | none => .stuck)
    | _ => .stuck)
  | _, _ => .stuck
def clearM (o : PV) (h : Hh) : Out PV := match o with
  | .cell n => (match h[n]? with
    | some (.lst _) => .ok (.d .none) (h.set n (.lst []))
    | _ => .stuck)
  | _ => .stuck
def getM (o k dflt : PV) (h : Hh) : Out PV := match vw h o, k, dflt with
  | some (.dict kvs), .d k, .d x => if isKey k then .ok (.d ((dget kvs k).getD x)) h else .stuck
  | _, _, _ => .stuck
def oi : PV → Option Int
  | .d (.int i) => some i
  | _ => none

/-- what a method's receiver must be, ahead of the arguments -/
def mTy : Prim → String
  | .get1 => "dict"
  | .get2 => "dict"
  | _ => "list"
def kindOk (T : String) (x : PV) (h : Hh) : Bool := match vw h x with
  | some (.list _) => T == "list"
  | some (.dict _) => T == "dict"
  | some (.str _) => T == "str"
  | _ => false

/-- a class of exceptions within another one -/
def isSub (c d : String) : Bool := d == c || d == "TwinError" || d == "ValueError"
def isExcM (xs cs : List String) (x : PV) (h : Hh) : Out PV := match x with
  | .exc c => if xs.contains c then .ok (bln (cs.any (isSub c))) h else .stuck
  | _ => .stuck
def primM (p : Prim) (vs : List PV) (h : Hh) : Out PV := match p, vs with
  | .tup, vs => tupM vs h
  | .lst c, vs => lstM c vs h
  | .idx, [o, i] => idxM o i h
  | .slc c false false, [o] => slcM c o none none h
  | .slc c true false, [o, a] => (match oi a with
    | some i => slcM c o (some i) none h
    | none => .stuck)
  | .slc c false true, [o, b] => (match oi b with
    | some j => slcM c o none (some j) h
    | none => .stuck)
  | .slc c true true, [o, a, b] => (match oi a, oi b with
    | some i, some j => slcM c o (some i) (some j) h
    | _, _ => .stuck)
  | .add c, [x, y] => addM c x y h
  | .sub, [x, y] => subM x y h
  | .mul, [x, y] => mulM x y h
  | .mod, [x, y] => modM x y h
  | .fdiv, [x, y] => fdivM x y h
  | .pow, [x, y] => powM x y h
  | .neg, [x] => negM x h
  | .eq, [x, y] => eqM false x y h
  | .ne, [x, y] => eqM true x y h
  | .lt, [x, y] => cmpM (fun i j => decide (i < j)) x y h
  | .le, [x, y] => cmpM (fun i j => decide (i ≤ j)) x y h
  | .gt, [x, y] => cmpM (fun i j => decide (j < i)) x y h
  | .ge, [x, y] => cmpM (fun i j => decide (j ≤ i)) x y h
  | .isN, [x] => .ok (bln (isNone x)) h
  | .notN, [x] => .ok (bln (!isNone x)) h
  | .inn, [x, y] => inM false x y h
  | .notIn, [x, y] => inM true x y h
  | .len, [x] => lenM x h
  | .listOf c, [x] => listOfM c x h
  | .tupOf, [x] => tupOfM x h
  | .int, [x] => intM x h
  | .isTy t, [x] => isTyM t x h
  | .dictPairs, [x] => dictPairsM x h
  | .dictZip, [x, y] => dictZipM x y h
  | .append, [o, x] => appendM o x h
  | .extend, [o, x] => extendM o x h
  | .pop, [o] => popM o h
  | .popAt, [o, i] => popAtM o i h
  | .clear, [o] => clearM o h
  | .get1, [o, k] => getM o k (.d .none) h
  | .get2, [o, k, x] => getM o k x h
  | .isBl, [x, y] => isBlM false x y h
  | .index, [o, x] => indexM o x h
  | .notBl, [x, y] => isBlM true x y h
  | .lenSet, [x] => lenSetM x h
  | .min2, [x, y] => min2M x y h
  | .max2, [x, y] => max2M x y h
  | .abs, [x] => absM x h
  | .lstRng c, [x] => lstRngM c x h
  | .rev c, [x] => revM c x h
  | .all, [x] => allM x h
  | .insert, [o, i, x] => insertM o i x h
  | .dictPairsC, [x] => dictPairsCM x h
  | .isExc _ xs cs, [x] => isExcM xs cs x h
  | .stp c, [x, k] => stpM c x k h
  | .count, [o, x] => countM o x h
  | .dnew, [] => .ok (.cell h.length) (h ++ [.dct []])
  | .dnewN, [] => .ok (.cell h.length) (h ++ [.dcn []])
  | _, _ => .stuck

/-! ### the language -/
inductive Tg where
  | nm (i : Nat)
  | tup (ts : List Tg)
mutual
inductive E where
  | var (i : Nat)
  | cst (x : PyData)
  | prim (p : Prim) (es : Es)
  | and (es : Es)
  | or (es : Es)
  /-- x or y, of lists or None -/
  | orv (a b : E)
  | not (e : E)
  | chain (p q : Prim) (a b c : E)
  | ite (c a b : E)
  | call (f : String) (es : Es)
  | meth (p : Prim) (o : E) (es : Es)
  | comp (c : Bool) (own : List Nat) (t : Tg) (it : It) (cond : Es) (elt : E)
  | frz (e : E)
inductive Es where
  | nil
  | cons (e : E) (r : Es)
inductive It where
  | seq (e : E)
  | rng1 (b : E)
  | rng2 (a b : E)
  | zip (a b : E)
  | enum (e : E)
end
mutual
inductive S where
  | expr (e : E)
  | asg (t : Tg) (e : E)
  | put (a i e : E)
  | aug (i : Nat) (p : Prim) (e : E)
  | ite (c : E) (a b : Ss)
  | whl (n : Nat) (c : E) (b : Ss)
  | for_ (t : Tg) (it : It) (b : Ss)
  | ret (e : E)
  | ret0
  | raise (c : String)
  | pass
  | brk
  | cnt
  /-- try: b / except cl as i: hs; xs: what may be caught -/
  | try_ (i : Nat) (cl : String) (xs : List String) (b hs : Ss)
inductive Ss where
  | nil
  | cons (s : S) (r : Ss)
end

mutual
def setT : Tg → Ee → PV → Option Ee
  | .nm i, e, v => some (e.set i (some v))
  | .tup ts, e, v => match v with
    | .d (.tuple xs) => if ts.length = xs.length then setTs ts e (xs.map .d) else none
    | .d (.list xs) => if ts.length = xs.length then setTs ts e (xs.map .d) else none
    | .tc ps => if ts.length = ps.length then setTs ts e ps else none
    | _ => none
def setTs : List Tg → Ee → List PV → Option Ee
  | [], e, [] => some e
  | t :: ts, e, v :: vs => match setT t e v with
    | some e1 => setTs ts e1 vs
    | none => none
  | _, _, _ => none
end
def wipeE (e : Ee) : List Nat → Ee
  | [] => e
  | v :: vs => (wipeE e vs).set v none
def frz1 (v : PV) (h : Hh) : Out PyData := match v with
  | .d x => .ok x h
  | .cell n => (match h[n]? with
    | some (.lst ds) => .ok (.list ds) (h.set n .dead)
    | some (.dct kvs) => .ok (.dict kvs) (h.set n .dead)
    | _ => .stuck)
  | _ => .stuck
def frzs : List PV → Hh → Out (List PyData)
  | [], h => .ok [] h
  | v :: r, h => (frz1 v h).bind fun x h1 => (frzs r h1).bind fun xs h2 => .ok (x :: xs) h2
def frzM (v : PV) (h : Hh) : Out PV := match v with
  | .d x => .ok (.d x) h
  | .cell n => (match h[n]? with
    | some (.lst ds) => .ok (.d (.list ds)) (h.set n .dead)
    | some (.dct kvs) => .ok (.d (.dict kvs)) (h.set n .dead)
    | _ => .stuck)
  | .tc ps => (frzs ps h).bind fun ds h1 => .ok (.d (.tuple ds)) h1
  | .kl _ => .stuck
  | .exc _ => .stuck
def asB (v : PV) (h : Hh) : Out Bool := match v with
  | .d (.bool b) => .ok b h
  | _ => .stuck
def rngL (a b : Int) : List PV := (List.range (b - a).toNat).map fun (i : Nat) => int (a + (i : Int))
def rng1M (v : PV) (h : Hh) : Out (List PV) := match v with
  | .d (.int b) => if -line ≤ b ∧ b ≤ line then .ok (rngL 0 b) h else .stuck
  | _ => .stuck
def rng2M (v w : PV) (h : Hh) : Out (List PV) := match v, w with
  | .d (.int a), .d (.int b) => if -line ≤ a ∧ a ≤ line ∧ -line ≤ b ∧ b ≤ line then .ok (rngL a b) h else .stuck
  | _, _ => .stuck
def seqM (v : PV) (h : Hh) : Out (List PV) := match v with
  | .d (.list xs) => .ok (xs.map .d) h
  | .d (.tuple xs) => .ok (xs.map .d) h
  | .tc ps => .ok ps h
  | _ => .stuck
def zipM (v w : PV) (h : Hh) : Out (List PV) := match v, w with
  | .d (.list xs), .d (.list ys) => .ok ((xs.zip ys).map fun p => .d (.tuple [p.1, p.2])) h
  | .d (.tuple xs), .d (.tuple ys) => .ok ((xs.zip ys).map fun p => .d (.tuple [p.1, p.2])) h
  | _, _ => .stuck
def enumL (xs : List PyData) : List PV := (xs.zipIdx).map fun p => .d (.tuple [.int p.2, p.1])
def enumM (v : PV) (h : Hh) : Out (List PV) := match v with
  | .d (.list xs) => .ok (enumL xs) h
  | _ => .stuck

/-- x += y on a name -/
def augM (p : Prim) (x y : PV) (h : Hh) : Out PV := match p, x, y with
  | .add _, .d (.int i), .d (.int j) => .ok (int (i + j)) h
  | .add _, .d (.str a), .d (.str b) => if a.length + b.length ≤ line then .ok (.d (.str (a ++ b))) h else .stuck
  | .sub, .d (.int i), .d (.int j) => .ok (int (i - j)) h
  | _, _, _ => .stuck

/-- what is walked: items, or a place as it stands -/
inductive Itm where
  | items (vs : List PV)
  | cell (n : Nat)
def seqS (v : PV) (h : Hh) : Out Itm := match v with
  | .cell n => (match h[n]? with
    | some (.lst _) => .ok (.cell n) h
    | _ => .stuck)
  | v => (seqM v h).bind fun vs h1 => .ok (.items vs) h1
/-- a comprehension's turns -/
def compL (t : Tg) (cond : Ee → Hh → Out Bool) (elt : Ee → Hh → Out PV) (e : Ee) : List PV → Hh → Out (List PyData)
  | [], h => .ok [] h
  | v :: r, h => match setT t e v with
    | none => .stuck
    | some e1 => (cond e1 h).bind fun b h1 => match b with
      | true => (elt e1 h1).bind fun y h2 => (match y with
        | .d x => (compL t cond elt e r h2).bind fun xs h3 => .ok (x :: xs) h3
        | _ => .stuck)
      | false => compL t cond elt e r h1
def compC (t : Tg) (cond : Ee → Hh → Out Bool) (elt : Ee → Hh → Out PV) (e : Ee) (n : Nat) : Nat → Nat → Hh → Out (List PyData)
  | 0, _, _ => .stuck
  | f + 1, i, h => match h[n]? with
    | some (.lst ds) => (match ds[i]? with
      | none => .ok [] h
      | some x => (match setT t e (.d x) with
        | none => .stuck
        | some e1 => (cond e1 h).bind fun b h1 => match b with
          | true => (elt e1 h1).bind fun y h2 => (match y with
            | .d z => (compC t cond elt e n f (i + 1) h2).bind fun xs h3 => .ok (z :: xs) h3
            | _ => .stuck)
          | false => compC t cond elt e n f (i + 1) h1))
    | _ => .stuck
def compS (t : Tg) (cond : Ee → Hh → Out Bool) (elt : Ee → Hh → Out PV) (e : Ee) (s : Itm) (h : Hh) : Out (List PyData) := match s with
  | .items vs => compL t cond elt e vs h
  | .cell n => compC t cond elt e n (line + 1) 0 h

/-- a list, or None, as a test -/
def truL (v : PV) (h : Hh) : Option Bool := match v with
  | .d .none => some false
  | v => (match vw h v with
    | some (.list ds) => some (!ds.isEmpty)
    | _ => none)
def isLst (v : PV) (h : Hh) : Bool := match vw h v with
  | some (.list _) => true
  | _ => false
section
variable (Φ : String → List PV → Hh → Out PV)
mutual
def ev : E → Ee → Hh → Out PV
  | .var i, e, h => (match e[i]? with
    | some (some v) => .ok v h
    | _ => .stuck)
  | .cst x, _, h => .ok (.d x) h
  | .prim p es, e, h => (evs es e h).bind fun vs h1 => primM p vs h1
  | .and es, e, h => evAnd es e h
  | .or es, e, h => evOr es e h
  | .orv a b, e, h => (ev a e h).bind fun v h1 => (match truL v h1 with
    | some true => .ok v h1
    | some false => (ev b e h1).bind fun u h2 => if isLst u h2 then .ok u h2 else .stuck
    | none => .stuck)
  | .not a, e, h => (ev a e h).bind fun v h1 => (asB v h1).bind fun b h2 => .ok (bln (!b)) h2
  | .chain p q a b c, e, h => (ev a e h).bind fun x h1 => (ev b e h1).bind fun y h2 => (primM p [x, y] h2).bind fun v h3 => (asB v h3).bind fun k h4 =>
      match k with
      | true => (ev c e h4).bind fun z h5 => primM q [y, z] h5
      | false => .ok (bln false) h4
  | .ite c a b, e, h => (ev c e h).bind fun v h1 => (asB v h1).bind fun k h2 => match k with
    | true => ev a e h2
    | false => ev b e h2
  | .call f es, e, h => (evs es e h).bind fun vs h1 => Φ f vs h1
  | .meth p o es, e, h => (ev o e h).bind fun x h1 => if kindOk (mTy p) x h1 then (evs es e h1).bind fun vs h2 => primM p (x :: vs) h2 else .stuck
  | .comp c own t it cond elt, e, h => (evIt it e h).bind fun vs h1 =>
      (compS t (fun e1 h2 => evConds cond e1 h2) (fun e1 h2 => ev elt e1 h2) (wipeE e own) vs h1).bind fun ds h2 => mkL c ds h2
  | .frz a, e, h => (ev a e h).bind fun v h1 => frzM v h1
def evs : Es → Ee → Hh → Out (List PV)
  | .nil, _, h => .ok [] h
  | .cons a r, e, h => (ev a e h).bind fun v h1 => (evs r e h1).bind fun vs h2 => .ok (v :: vs) h2
def evAnd : Es → Ee → Hh → Out PV
  | .nil, _, h => .ok (bln true) h
  | .cons a r, e, h => (ev a e h).bind fun v h1 => (asB v h1).bind fun k h2 => match k with
    | true => evAnd r e h2
    | false => .ok (bln false) h2
def evOr : Es → Ee → Hh → Out PV
  | .nil, _, h => .ok (bln false) h
  | .cons a r, e, h => (ev a e h).bind fun v h1 => (asB v h1).bind fun k h2 => match k with
    | true => .ok (bln true) h2
    | false => evOr r e h2
def evConds : Es → Ee → Hh → Out Bool
  | .nil, _, h => .ok true h
  | .cons a _, e, h => (ev a e h).bind fun v h1 => asB v h1
def evIt : It → Ee → Hh → Out Itm
  | .seq a, e, h => (ev a e h).bind fun v h1 => seqS v h1
  | .rng1 b, e, h => (ev b e h).bind fun v h1 => (rng1M v h1).bind fun vs h2 => .ok (.items vs) h2
  | .rng2 a b, e, h => (ev a e h).bind fun v h1 => (ev b e h1).bind fun w h2 => (rng2M v w h2).bind fun vs h3 => .ok (.items vs) h3
  | .zip a b, e, h => (ev a e h).bind fun v h1 => (ev b e h1).bind fun w h2 => (zipM v w h2).bind fun vs h3 => .ok (.items vs) h3
  | .enum a, e, h => (ev a e h).bind fun v h1 => (enumM v h1).bind fun vs h2 => .ok (.items vs) h2
end
/-! an expression that may raise: calls, and what holds them -/
def esNil : Es → Bool
  | .nil => true
  | _ => false
mutual
def evX : E → Ee → Hh → Out PV
  | .call f es, e, h => if esNil es then strict (ev Φ (.call f es) e h) else (evsX es e h).bind fun vs h1 => Φ f vs h1
  | .frz a, e, h => (evX a e h).bind fun v h1 => frzM v h1
  | a, e, h => strict (ev Φ a e h)
termination_by structural a => a
def evsX : Es → Ee → Hh → Out (List PV)
  | .nil, _, h => .ok [] h
  | .cons a r, e, h => (evX a e h).bind fun v h1 => (evsX r e h1).bind fun vs h2 => .ok (v :: vs) h2
termination_by structural a => a
end

inductive Res where
  | next (e : Ee) (h : Hh)
  | ret (v : PV) (h : Hh)
  | brk (e : Ee) (h : Hh)
  | cnt (e : Ee) (h : Hh)
  | exn (c : String) (e : Ee) (h : Hh)
  | stuck
def Out.res {α : Type} (m : Out α) (e : Ee) (f : α → Hh → Res) : Res := match m with
  | .ok a h => f a h
  | .exn c h => .exn c e h
  | .stuck => .stuck
@[simp] theorem Out.res_ok {α : Type} (a : α) (h : Hh) (e : Ee) (f : α → Hh → Res) : (Out.ok a h).res e f = f a h := rfl
@[simp] theorem Out.res_stuck {α : Type} (e : Ee) (f : α → Hh → Res) : (Out.stuck : Out α).res e f = .stuck := rfl
@[simp] theorem Out.res_exn {α : Type} (c : String) (h : Hh) (e : Ee) (f : α → Hh → Res) : (Out.exn c h : Out α).res e f = .exn c e h := rfl
def putM (o i v : PV) (h : Hh) : Out Unit := match o, i, v with
  | .cell n, .d i, .d x => (match h[n]? with
    | some (.lst ds) => (match i with
      | .int k => (match ixn ds.length k with
        | some j => .ok () (h.set n (.lst (ds.set j x)))
        | none => .stuck)
      | _ => .stuck)
    | some (.dct kvs) => if isKey i ∧ kvs.length < line then .ok () (h.set n (.dct (dput kvs i x))) else .stuck
    | some (.dcn kvs) => (match keyN i with
      | some k => if kvs.length < line then .ok () (h.set n (.dcn (nset kvs k x))) else .stuck
      | none => .stuck)
    | _ => .stuck)
  | _, _, _ => .stuck
def whlL (cond : Ee → Hh → Out Bool) (body : Ee → Hh → Res) : Nat → Ee → Hh → Res
  | 0, _, _ => .stuck
  | n + 1, e, h => (cond e h).res e fun b h1 => match b with
    | true => (match body e h1 with
      | .next e2 h2 => whlL cond body n e2 h2
      | .cnt e2 h2 => whlL cond body n e2 h2
      | .brk e2 h2 => .next e2 h2
      | r => r)
    | false => .next e h1
def forL (t : Tg) (body : Ee → Hh → Res) : List PV → Ee → Hh → Res
  | [], e, h => .next e h
  | v :: r, e, h => match setT t e v with
    | none => .stuck
    | some e1 => (match body e1 h with
      | .next e2 h2 => forL t body r e2 h2
      | .cnt e2 h2 => forL t body r e2 h2
      | .brk e2 h2 => .next e2 h2
      | r => r)
def forC (t : Tg) (body : Ee → Hh → Res) (n : Nat) : Nat → Nat → Ee → Hh → Res
  | 0, _, _, _ => .stuck
  | f + 1, i, e, h => match h[n]? with
    | some (.lst ds) => (match ds[i]? with
      | none => .next e h
      | some x => (match setT t e (.d x) with
        | none => .stuck
        | some e1 => (match body e1 h with
          | .next e2 h2 => forC t body n f (i + 1) e2 h2
          | .cnt e2 h2 => forC t body n f (i + 1) e2 h2
          | .brk e2 h2 => .next e2 h2
          | r => r)))
    | _ => .stuck
def forS (t : Tg) (body : Ee → Hh → Res) (s : Itm) (e : Ee) (h : Hh) : Res := match s with
  | .items vs => forL t body vs e h
  | .cell n => forC t body n (line + 1) 0 e h
mutual
def ex : S → Ee → Hh → Res
  | .expr a, e, h => (evX Φ a e h).res e fun _ h1 => .next e h1
  | .asg t a, e, h => (evX Φ a e h).res e fun v h1 => (match setT t e v with
    | some e1 => .next e1 h1
    | none => .stuck)
  | .put a i x, e, h => (strict (ev Φ x e h)).res e fun v h1 => (strict (ev Φ a e h1)).res e fun o h2 => (strict (ev Φ i e h2)).res e fun k h3 => (strict <| putM o k v h3).res e fun _ h4 => .next e h4
  | .aug i p a, e, h => (match e[i]? with
    | some (some x) => (strict (ev Φ a e h)).res e fun y h1 => (strict (augM p x y h1)).res e fun z h2 => .next (e.set i (some z)) h2
    | _ => .stuck)
  | .ite c a b, e, h => (strict ((ev Φ c e h).bind asB)).res e fun k h2 => (match k with
    | true => exs a e h2
    | false => exs b e h2)
  | .whl n c b, e, h => whlL (fun e1 h1 => strict ((ev Φ c e1 h1).bind asB)) (fun e1 h1 => exs b e1 h1) n e h
  | .for_ t it b, e, h => (strict (evIt Φ it e h)).res e fun vs h1 => forS t (fun e1 h2 => exs b e1 h2) vs e h1
  | .ret a, e, h => (evX Φ a e h).res e fun v h1 => .ret v h1
  | .ret0, _, h => .ret (.d .none) h
  | .raise c, e, h => .exn c e h
  | .pass, e, h => .next e h
  | .brk, e, h => .brk e h
  | .cnt, e, h => .cnt e h
  | .try_ i cl xs b hs, e, h => (match exs b e h with
    | .exn c e1 h1 => if xs.contains c then (if isSub c cl then (match exs hs (e1.set i (some (.exc c))) h1 with
        | .next e2 h2 => .next (e2.set i none) h2
        | .ret v h2 => .ret v h2
        | .brk e2 h2 => .brk (e2.set i none) h2
        | .cnt e2 h2 => .cnt (e2.set i none) h2
        | _ => .stuck) else .exn c e1 h1) else .stuck
    | q => q)
def exs : Ss → Ee → Hh → Res
  | .nil, e, h => .next e h
  | .cons s r, e, h => (match ex s e h with
    | .next e1 h1 => exs r e1 h1
    | q => q)
end
end

/-- what a def hands back is packed: the places behind n that it holds, in order -/
def packs (n : Nat) (h : Hh) : List PV → List Nat → Option (List PV × List Nat)
  | [], ms => some ([], ms)
  | .d x :: r, ms => (match packs n h r ms with
    | some (vs, m) => some (.d x :: vs, m)
    | none => none)
  | .cell k :: r, ms => if k < n then (match packs n h r ms with
      | some (vs, m) => some (.cell k :: vs, m)
      | none => none)
    else if ms.contains k then none else (match packs n h r (ms ++ [k]) with
      | some (vs, m) => some (.cell (n + ms.length) :: vs, m)
      | none => none)
  | .tc _ :: _, _ => none
  | .kl _ :: _, _ => none
  | .exc c :: r, ms => (match packs n h r ms with
    | some (vs, m) => some (.exc c :: vs, m)
    | none => none)
def cellsAt (h : Hh) : List Nat → Option (List Cl)
  | [] => some []
  | k :: r => match h[k]?, cellsAt h r with
    | some c, some cs => some (c :: cs)
    | _, _ => none
def pack (n : Nat) (v : PV) (h : Hh) : Out PV := match v with
  | .d x => .ok (.d x) (h.take n)
  | .cell k => if k < n then .ok (.cell k) (h.take n) else (match h[k]? with
    | some c => .ok (.cell n) (h.take n ++ [c])
    | none => .stuck)
  | .tc ps => (match packs n h ps [] with
    | some (vs, ms) => (match cellsAt h ms with
      | some cs => .ok (.tc vs) (h.take n ++ cs)
      | none => .stuck)
    | none => .stuck)
  | .kl _ => .stuck
  | .exc c => .ok (.exc c) (h.take n)
structure Def where
  ps : List Str
  N : List Str
  body : Ss
abbrev Defs := List (String × Def)
def startE (N : List Str) (vs : List PV) : Ee := vs.map some ++ List.replicate (N.length - vs.length) none
def finish (n : Nat) : Res → Out PV
  | .next _ h => pack n (.d .none) h
  | .ret v h => pack n v h
  | .exn c _ h => .exn c (h.take n)
  | _ => .stuck
def callN (D : Defs) : Nat → String → List PV → Hh → Out PV
  | 0, _, _, _ => .stuck
  | k + 1, f, vs, h => match D.lookup f with
    | none => .stuck
    | some df => if vs.length = df.ps.length then finish h.length (exs (callN D k) df.body (startE df.N vs) h) else .stuck
end PL

set_option maxRecDepth 100000
set_option maxHeartbeats 4000000
/-! PL2: how plain data stands in the abstract heap. -/
namespace PL
open PySem PySem.Spec PyProof.Rows L2
/-- the written part, and the world: by it texts hash -/
structure KW where
  k : PySem.W.Frag
  w : World
instance : Coe KW PySem.W.Frag := ⟨KW.k⟩
abbrev _root_.L2.Cx.kw (X : Cx) : KW := ⟨X.K, X.w⟩

/-! ### dicts whose keys are tuples of whole numbers -/
abbrev NEnt := NK × Addr × V
abbrev NVs : List NEnt → List (NK × Addr × Value) → Prop := Paired fun p q => p.1 = q.1 ∧ p.2.1 = q.2.1 ∧ RelV p.2.2 q.2.2
/-- the dict's own object -/
def NDat (ww : World) (a : Addr) (kvs : List NEnt) (h : Heap) : Prop := ∃ xs, NVs kvs xs ∧ (a == sysModules) = false ∧
  ∃ o es ep, h.get? a = some o ∧ o.ExactDict ∧ o.data = .dict es ep ∧ es.toList = xs.map (fun x => ⟨NestedKey.hash ww x.1, .ref x.2.1, x.2.2⟩) ∧ (xs.map (·.1)).Nodup
def NDO (ww : World) (a : Addr) (kvs : List NEnt) : HO := .ext (NDat ww a kvs)
/-- a key that may stand at b -/
def KeyAt (h : Heap) (k : NK) (b : Addr) : Prop := NestedIs h k (.ref b) ∧ k.depth ≤ 8
theorem NDat.ok {P : Program} {w : World} {H : Hp} {h : Heap} {a : Addr} {kvs : List NEnt} {ww : World} (d : NDat ww a kvs h) : ObjOk P w H h a (NDO ww a kvs) := by
  refine ⟨d, ?_, fun h1 h2 d1 st => ?_⟩
  · obtain ⟨_, _, _, o, _, _, ho, _⟩ := d
    exact ⟨o, ho⟩
  · obtain ⟨xs, r, m, o, es, ep, ho, q⟩ := d1
    exact ⟨xs, r, m, o, es, ep, st o ho, q⟩
section
variable {X : Cx} {pins : List (Addr × Obj)} {σ : L2.St} {H : Hp} {s : Shared} {a : Addr} {kvs : List NEnt}
theorem ndo_at {ww : World} (I : Inv X pins σ H s) (e : H a = some (NDO ww a kvs)) : NDat ww a kvs s.heap := (I.hok a _ e).1
theorem ndat_of {P : Program} {w : World} {h : Heap} (d : NDat w a kvs h) (keys : ∀ p ∈ kvs, KeyAt h p.1 p.2.1) : ∃ xs, NVs kvs xs ∧ (a == sysModules) = false ∧ h.DictOfH (nestedKind P w) a xs := by
  obtain ⟨xs, r, m, o, es, ep, ho, ex, hd, he, nd⟩ := d
  have both : ∀ x ∈ xs, KeyAt h x.1 x.2.1 := by
    clear he nd
    induction r with
    | nil => intro x hx; cases hx
    | cons q t ih =>
      intro x hx
      rcases List.mem_cons.mp hx with rfl | hx
      · have := keys _ List.mem_cons_self
        rw [q.1, q.2.1] at this
        exact this
      · exact ih (fun p hp => keys p (List.mem_cons_of_mem _ hp)) x hx
  refine ⟨xs, r, m, o, es, ep, ho, ex, hd, ?_, fun x hx => ⟨(both x hx).1, (both x hx).2⟩, nd⟩
  rw [he]
  rfl
theorem ndat_to {P : Program} {w : World} {h : Heap} {xs : List (NK × Addr × Value)} (r : NVs kvs xs) (m : (a == sysModules) = false) (d : h.DictOfH (nestedKind P w) a xs) : NDat w a kvs h := by
  obtain ⟨o, es, ep, ho, ex, hd, he, hz, nd⟩ := d
  exact ⟨xs, r, m, o, es, ep, ho, ex, hd, he, nd⟩
def nfind (kvs : List NEnt) (k : NK) : Option V := match kvs with
  | [] => none
  | p :: r => if p.1 = k then some p.2.2 else nfind r k
def nput (kvs : List NEnt) (k : NK) (b : Addr) (v : V) : List NEnt := match kvs with
  | [] => [(k, b, v)]
  | p :: r => if p.1 = k then (p.1, p.2.1, v) :: r else p :: nput r k b v
theorem nfind_rel {k : NK} : ∀ {kvs : List NEnt} {xs : List (NK × Addr × Value)}, NVs kvs xs → RelO (nfind kvs k) ((atKey xs k).map (·.2))
  | _, _, .nil => by
    simp [nfind, atKey]
    exact True.intro
  | p :: kvs, x :: xs, .cons q t => by
    by_cases c : p.1 = k
    · have c2 : x.1 = k := by rw [← q.1]; exact c
      simp [nfind, atKey, c, c2]
      exact q.2.2
    · have c2 : ¬ x.1 = k := by rw [← q.1]; exact c
      have ih := nfind_rel (k := k) t
      simp only [nfind, if_neg c]
      simpa [atKey, c2] using ih
theorem NVs.keys : ∀ {kvs : List NEnt} {xs : List (NK × Addr × Value)}, NVs kvs xs → kvs.map (·.1) = xs.map (·.1)
  | _, _, .nil => rfl
  | _, _, .cons q t => by
    rw [List.map_cons, List.map_cons, q.1, NVs.keys t]
theorem storedH_cons {k : NK} {b : Addr} {u : Value} {x : NK × Addr × Value} {xs : List (NK × Addr × Value)} (nd : ((x :: xs).map (·.1)).Nodup) : storedH (x :: xs) k b u = if x.1 = k then (x.1, x.2.1, u) :: xs else x :: storedH xs k b u := by
  rw [List.map_cons, List.nodup_cons] at nd
  by_cases c : x.1 = k
  · rw [if_pos c]
    have e : xs.map (putAt k u) = xs := by
      refine (List.map_congr_left fun y hy => ?_).trans (List.map_id xs)
      have : y.1 ≠ k := fun z => nd.1 (by rw [c, ← z]; exact List.mem_map_of_mem hy)
      simp [putAt, this]
    unfold storedH
    simp [atKey, c, putAt, e]
  · rw [if_neg c]
    unfold storedH
    have e2 : atKey (x :: xs) k = atKey xs k := by
      unfold atKey
      rw [List.find?_cons]
      simp [c]
    rw [e2]
    split
    · simp [putAt, c]
    · rfl
theorem nput_rel {k : NK} {b : Addr} {v : V} {u : Value} (rv : RelV v u) : ∀ {kvs : List NEnt} {xs : List (NK × Addr × Value)}, NVs kvs xs → (xs.map (·.1)).Nodup → NVs (nput kvs k b v) (storedH xs k b u)
  | _, _, .nil, _ => .cons ⟨rfl, rfl, rv⟩ .nil
  | p :: kvs, x :: xs, .cons q t, nd => by
    rw [storedH_cons nd]
    have nd2 := nd
    rw [List.map_cons, List.nodup_cons] at nd2
    by_cases c : p.1 = k
    · have c2 : x.1 = k := by rw [← q.1]; exact c
      rw [if_pos c2, nput, if_pos c]
      exact .cons ⟨q.1, q.2.1, rv⟩ t
    · have c2 : ¬ x.1 = k := by rw [← q.1]; exact c
      rw [if_neg c2, nput, if_neg c]
      exact .cons q (nput_rel rv t nd2.2)
theorem nput_len (k : NK) (b : Addr) (v : V) : ∀ kvs : List NEnt, (nput kvs k b v).length ≤ kvs.length + 1
  | [] => Nat.le_refl _
  | p :: r => by
    unfold nput
    have := nput_len k b v r
    split <;> simp <;> omega
section
variable {A : Around} {E : Value → Shared → Prop}
theorem nd_in {k : NK} {b : Addr} {Q : Value → Shared → Prop} (hu : A.units + 9 < cLine) (I : Inv X pins σ H s) (e : H a = some (NDO X.w a kvs)) (keys : ∀ p ∈ kvs, KeyAt s.heap p.1 p.2.1) (ky : KeyAt s.heap k b)
    (h : ∀ s', Inv X pins σ H s' → Q (.bool (nfind kvs k).isSome) s') : wpAny (model X.prog X.w) A (compareOp .In (.ref b) (.ref a)) Q E s := by
  obtain ⟨xs, r, m, d⟩ := ndat_of (P := X.prog) (w := X.w) (ndo_at I e) keys
  refine wpAny_in_heap (knd := nestedKind X.prog X.w) (k := k) (by show A.in1.units + 8 < cLine; show A.units + 1 + 8 < cLine; omega) ⟨ky.1, ky.2⟩ m d ?_
  have q := nfind_rel (k := k) r
  have : (nfind kvs k).isSome = (atKey xs k).isSome := by
    revert q
    cases nfind kvs k <;> cases atKey xs k <;> intro q <;> first | rfl | exact q.elim
  rw [← this]
  exact h _ (I.tok _)
theorem nd_notIn {k : NK} {b : Addr} {Q : Value → Shared → Prop} (hu : A.units + 9 < cLine) (I : Inv X pins σ H s) (e : H a = some (NDO X.w a kvs)) (keys : ∀ p ∈ kvs, KeyAt s.heap p.1 p.2.1) (ky : KeyAt s.heap k b)
    (h : ∀ s', Inv X pins σ H s' → Q (.bool (!(nfind kvs k).isSome)) s') : wpAny (model X.prog X.w) A (compareOp .NotIn (.ref b) (.ref a)) Q E s := by
  obtain ⟨xs, r, m, d⟩ := ndat_of (P := X.prog) (w := X.w) (ndo_at I e) keys
  refine notIn_keyed (knd := nestedKind X.prog X.w) (k := k) (kvs := pairsH xs) (by show A.in1.units + 8 < cLine; show A.units + 1 + 8 < cLine; omega) ⟨ky.1, ky.2⟩ m ⟨xs, d, rfl⟩ ?_
  rw [valueAt_pairsH, Option.isSome_map]
  have q := nfind_rel (k := k) r
  have : (nfind kvs k).isSome = (atKey xs k).isSome := by
    revert q
    cases nfind kvs k <;> cases atKey xs k <;> intro q <;> first | rfl | exact q.elim
  rw [← this]
  exact h _ (I.tok _)
theorem nd_get {k : NK} {b : Addr} {v : V} {Q : Value → Shared → Prop} (hu : A.units + 9 < cLine) (I : Inv X pins σ H s) (e : H a = some (NDO X.w a kvs)) (keys : ∀ p ∈ kvs, KeyAt s.heap p.1 p.2.1) (ky : KeyAt s.heap k b) (hv : nfind kvs k = some v)
    (h : ∀ u s', Inv X pins σ H s' → RelV v u → Q u s') : wpAny (model X.prog X.w) A (getItem (.ref a) (.ref b)) Q E s := by
  obtain ⟨xs, r, m, d⟩ := ndat_of (P := X.prog) (w := X.w) (ndo_at I e) keys
  have q := nfind_rel (k := k) r
  rw [hv] at q
  cases ha : atKey xs k with
  | none =>
    rw [ha] at q
    exact q.elim
  | some y =>
    rw [ha] at q
    exact wpAny_getItem_heap (knd := nestedKind X.prog X.w) (k := k) (by show A.in1.units + 8 < cLine; show A.units + 1 + 8 < cLine; omega) ⟨ky.1, ky.2⟩ d ha (h _ _ (I.tok _) q)
theorem nd_set {k : NK} {b : Addr} {v : V} {u : Value} {Q : Unit → Shared → Prop} (hu : A.units + 9 < cLine) (I : Inv X pins σ H s) (e : H a = some (NDO X.w a kvs)) (keys : ∀ p ∈ kvs, KeyAt s.heap p.1 p.2.1) (ky : KeyAt s.heap k b) (few : kvs.length ≤ sizeLine) (rv : RelV v u)
    (h : ∀ s', Inv X pins σ (upd H a (NDO X.w a (nput kvs k b v))) s' → Q () s') : wpAny (model X.prog X.w) A (setItem (.ref a) (.ref b) u) Q E s := by
  obtain ⟨xs, r, m, d⟩ := ndat_of (P := X.prog) (w := X.w) (ndo_at I e) keys
  have hl : xs.length ≤ sizeLine := by
    rw [← Paired.length r]
    exact few
  refine wpAny_setItem_heap (hsz := hl) (knd := nestedKind X.prog X.w) (k := k) (by show A.in1.units + 8 < cLine; show A.units + 1 + 8 < cLine; omega) ⟨ky.1, ky.2⟩ d fun h1 d1 sb => h _ ?_
  have nd : (xs.map (·.1)).Nodup := by
    obtain ⟨_, _, _, _, _, _, _, _, nd⟩ := d
    exact nd
  have new := ndat_to (nput_rel (k := k) (b := b) rv r nd) m d1
  have he : ∃ q, h1.get? a = some q := let ⟨q, _, _, hq, _⟩ := d1; ⟨q, hq⟩
  exact d_write I (by rw [e]; exact True.intro) sb he (NDat.ok new)
theorem nd_len {Q : Value → Shared → Prop} (I : Inv X pins σ H s) (e : H a = some (NDO X.w a kvs)) (keys : ∀ p ∈ kvs, KeyAt s.heap p.1 p.2.1) (few : kvs.length ≤ sizeLine)
    (h : ∀ t s', Inv X pins σ H s' → Q (.int kvs.length t) s') : wpAny (model X.prog X.w) A (call (.builtin "len") [.ref a]) Q E s := by
  obtain ⟨xs, r, m, d⟩ := ndat_of (P := X.prog) (w := X.w) (ndo_at I e) keys
  have hl : kvs.length = xs.length := Paired.length r
  refine call_len_dictH m d (by rw [← hl]; rw [sizeLine_eq] at few; omega) ?_
  rw [← hl]
  exact h _ _ (I.tok _)
end
/-- {}, to be such a dict -/
def tDNewN (ww : World) : TE := fun _ H Q => ∀ p, H p = none → Q (.ref p) (upd H p (NDO ww p []))
theorem pe_dnewN {pos : Pos} : PE X (.Dict [] [] pos) (tDNewN X.w) := ⟨fun pins s σ H Q I h => by
  have new : NDat X.w s.heap.objs.size [] (s.heap.push { cls := .type "dict", data := .dict #[] }) := ⟨[], .nil, beq_eq_false_iff_ne.mpr (Ne.symm (Nat.ne_of_lt I.big)), _, #[], 0, Heap.get?_push_size _ rfl, ⟨rfl, rfl, rfl⟩, rfl, rfl, List.nodup_nil⟩
  exact wpAny_Dict_empty ⟨.ref s.heap.objs.size, _, I.laid (t' := s.toks) (fun _ _ q => Heap.get?_push_of_some _ q) (Nat.le_refl _) (NDat.ok new), rfl, h _ (I.hok.fresh (Nat.le_refl _))⟩⟩
end
/-! ### how data stands -/
/-- a tuple of the written part -/
def KT (K : PySem.W.Frag) (a : Addr) (xs : List V) : Prop :=
  ∃ (o : Obj) (its : Array Value) (n : Nat), K.lookup a = some o ∧ o.cls = .type "tuple" ∧ o.data = .seq its n ∧ its.size ≤ sizeLine ∧ Vals xs its.toList
/-- a list of the written part -/
def KL (K : PySem.W.Frag) (a : Addr) (xs : List V) : Prop :=
  ∃ (o : Obj) (its : Array Value) (n : Nat), K.lookup a = some o ∧ o.cls = .type "list" ∧ o.dict = none ∧ o.data = .seq its n ∧ its.size ≤ sizeLine ∧ Vals xs its.toList
def kD : Key → PyData
  | .inl i => .int i
  | .inr x => .str x
mutual
inductive Rp (K : KW) (F : Addr → Prop) (H : Hp) : V → PyData → Prop
  | non : Rp K F H .non .none
  | bl (b : Bool) : Rp K F H (.bl b) (.bool b)
  | int (i : Int) : Rp K F H (.int i) (.int i)
  | str (x : Str) : Rp K F H (.str x) (.str x)
  | lst {a : Addr} {xs : List V} {ds : List PyData} : F a → Rd H a (.lst xs) → Rps K F H xs ds → Rp K F H (.ref a) (.list ds)
  | tup {a : Addr} {xs : List V} {ds : List PyData} : F a → Rd H a (.tup xs) → Rps K F H xs ds → Rp K F H (.ref a) (.tuple ds)
  | tupK {a : Addr} {xs : List V} {ds : List PyData} : KT K a xs → Rps K F H xs ds → Rp K F H (.ref a) (.tuple ds)
  | dct {a : Addr} {xs : List (Key × V)} {ds : List (PyData × PyData)} : F a → Rd H a (.dK xs) → Rpk K F H xs ds → Rp K F H (.ref a) (.dict ds)
inductive Rps (K : KW) (F : Addr → Prop) (H : Hp) : List V → List PyData → Prop
  | nil : Rps K F H [] []
  | cons {v : V} {vs : List V} {d : PyData} {ds : List PyData} : Rp K F H v d → Rps K F H vs ds → Rps K F H (v :: vs) (d :: ds)
inductive Rpk (K : KW) (F : Addr → Prop) (H : Hp) : List (Key × V) → List (PyData × PyData) → Prop
  | nil : Rpk K F H [] []
  | cons {k : Key} {v : V} {vs : List (Key × V)} {d : PyData} {ds : List (PyData × PyData)} : Rp K F H v d → Rpk K F H vs ds → Rpk K F H ((k, v) :: vs) ((kD k, d) :: ds)
end
/-- what is fixed stays -/
structure Kp (F : Addr → Prop) (H : Hp) (F' : Addr → Prop) (H' : Hp) : Prop where
  fz : ∀ a, F a → F' a
  fr : ∀ a o, F a → H a = some o → H' a = some o
theorem Kp.rd {F F' : Addr → Prop} {H H' : Hp} {a : Addr} {u : HO} (k : Kp F H F' H') (f : F a) (r : Rd H a u) : Rd H' a u := by
  rcases r with r | ⟨o, r⟩
  · exact .inl (k.fr _ _ f r)
  · exact .inr ⟨o, k.fr _ _ f r⟩
mutual
theorem Rp.keep {K : KW} {F F' : Addr → Prop} {H H' : Hp} (k : Kp F H F' H') : ∀ {v : V} {d : PyData}, Rp K F H v d → Rp K F' H' v d
  | _, _, .non => .non
  | _, _, .bl b => .bl b
  | _, _, .int i => .int i
  | _, _, .str x => .str x
  | _, _, .lst f r q => .lst (k.fz _ f) (k.rd f r) (Rps.keep k q)
  | _, _, .tup f r q => .tup (k.fz _ f) (k.rd f r) (Rps.keep k q)
  | _, _, .tupK r q => .tupK r (Rps.keep k q)
  | _, _, .dct f r q => .dct (k.fz _ f) (k.rd f r) (Rpk.keep k q)
theorem Rps.keep {K : KW} {F F' : Addr → Prop} {H H' : Hp} (k : Kp F H F' H') : ∀ {v : List V} {d : List PyData}, Rps K F H v d → Rps K F' H' v d
  | _, _, .nil => .nil
  | _, _, .cons a b => .cons (Rp.keep k a) (Rps.keep k b)
theorem Rpk.keep {K : KW} {F F' : Addr → Prop} {H H' : Hp} (k : Kp F H F' H') : ∀ {v : List (Key × V)} {d : List (PyData × PyData)}, Rpk K F H v d → Rpk K F' H' v d
  | _, _, .nil => .nil
  | _, _, .cons a b => .cons (Rp.keep k a) (Rpk.keep k b)
end
/-- entries of a dict with such keys -/
def Rpn (K : KW) (F : Addr → Prop) (H : Hp) : List NEnt → List (NK × PyData) → Prop := Paired fun p q => p.1 = q.1 ∧ p.1.depth ≤ 8 ∧ Rp K F H (.ref p.2.1) p.1.data ∧ Rp K F H p.2.2 q.2
theorem Rpn.keep {K : KW} {F F' : Addr → Prop} {H H' : Hp} (k : Kp F H F' H') {xs : List NEnt} {ds : List (NK × PyData)} (r : Rpn K F H xs ds) : Rpn K F' H' xs ds := by
  unfold Rpn at *
  induction r with
  | nil => exact .nil
  | cons q _ ih => exact .cons ⟨q.1, q.2.1, q.2.2.1.keep k, q.2.2.2.keep k⟩ ih
section
variable {K : KW} {F : Addr → Prop} {H : Hp}
theorem Rps.length : ∀ {xs : List V} {ds : List PyData}, Rps K F H xs ds → xs.length = ds.length
  | _, _, .nil => rfl
  | _, _, .cons _ b => congrArg (· + 1) (Rps.length b)
theorem Rps.get : ∀ {xs : List V} {ds : List PyData} {i : Nat} {d : PyData}, Rps K F H xs ds → ds[i]? = some d → ∃ x, xs[i]? = some x ∧ Rp K F H x d
  | _, _, i, _, .nil, e => by simp at e
  | _, _, 0, _, .cons a _, e => by
    simp at e
    subst e
    exact ⟨_, rfl, a⟩
  | _, _, i + 1, _, .cons _ b, e => by
    obtain ⟨x, h1, h2⟩ := Rps.get (i := i) b (by simpa using e)
    exact ⟨x, by simpa using h1, h2⟩
theorem Rps.append : ∀ {xs ys : List V} {ds es : List PyData}, Rps K F H xs ds → Rps K F H ys es → Rps K F H (xs ++ ys) (ds ++ es)
  | _, _, _, _, .nil, q => q
  | _, _, _, _, .cons a b, q => .cons a (Rps.append b q)
theorem Rps.take : ∀ {xs : List V} {ds : List PyData} (n : Nat), Rps K F H xs ds → Rps K F H (xs.take n) (ds.take n)
  | _, _, 0, _ => .nil
  | _, _, _ + 1, .nil => .nil
  | _, _, n + 1, .cons a b => .cons a (Rps.take n b)
theorem Rps.drop : ∀ {xs : List V} {ds : List PyData} (n : Nat), Rps K F H xs ds → Rps K F H (xs.drop n) (ds.drop n)
  | _, _, 0, q => q
  | _, _, _ + 1, .nil => .nil
  | _, _, n + 1, .cons _ b => Rps.drop n b
theorem Rps.set {x : V} {d : PyData} (r : Rp K F H x d) : ∀ {xs : List V} {ds : List PyData} (n : Nat), Rps K F H xs ds → Rps K F H (xs.set n x) (ds.set n d)
  | _, _, _, .nil => .nil
  | _, _, 0, .cons _ b => .cons r b
  | _, _, n + 1, .cons a b => .cons a (Rps.set r n b)
theorem Rps.erase : ∀ {xs : List V} {ds : List PyData} (n : Nat), Rps K F H xs ds → Rps K F H (xs.eraseIdx n) (ds.eraseIdx n)
  | _, _, _, .nil => .nil
  | _, _, 0, .cons _ b => b
  | _, _, n + 1, .cons a b => .cons a (Rps.erase n b)
theorem Rps.dropLast {xs : List V} {ds : List PyData} (q : Rps K F H xs ds) : Rps K F H xs.dropLast ds.dropLast := by
  rw [List.dropLast_eq_take, List.dropLast_eq_take, q.length]
  exact q.take _
theorem Rpk.length : ∀ {xs : List (Key × V)} {ds : List (PyData × PyData)}, Rpk K F H xs ds → xs.length = ds.length
  | _, _, .nil => rfl
  | _, _, .cons _ b => congrArg (· + 1) (Rpk.length b)
/-- what the == of data asks -/
theorem sqT_of {a : Addr} {xs : List V} (h : KT K a xs) : SqT K H a xs := .inr h
mutual
theorem Rp.dp : ∀ {v : V} {d : PyData}, Rp K F H v d → d.canLay0 = true → Dp K H v d
  | _, _, .non, _ => .non
  | _, _, .bl b, _ => .bl b
  | _, _, .int i, _ => .int i
  | _, _, .str x, _ => .str x
  | _, _, .lst _ r q, h => .lst (.inl r) (Rps.dp q (by simpa [PyData.canLay0] using h))
  | _, _, .tup _ r q, h => .tup (.inl r) (Rps.dp q (by simpa [PyData.canLay0] using h))
  | _, _, .tupK r q, h => .tup (.inr r) (Rps.dp q (by simpa [PyData.canLay0] using h))
  | _, _, .dct _ _ _, h => by simp [PyData.canLay0] at h
theorem Rps.dp : ∀ {v : List V} {d : List PyData}, Rps K F H v d → PyData.canLayAll0 d = true → DpAll K H v d
  | _, _, .nil, _ => .nil
  | _, _, .cons a b, h => by
    simp only [PyData.canLayAll0, Bool.and_eq_true] at h
    exact .cons (Rp.dp a h.1) (Rps.dp b h.2)
end
end

/-- a world: what is fixed, the abstract heap, where the places stand, what they hold -/
structure Wd where
  F : Addr → Prop
  H : Hp
  r : Nat → Addr
  h : Hh
  /-- held aside: not fixed, no place, not written meanwhile -/
  G : Addr → Prop
structure Ext0 (w w' : Wd) : Prop where
  kp : Kp w.F w.H w'.F w'.H
  rh : ∀ n, n < w.h.length → w'.r n = w.r n
  len : w.h.length ≤ w'.h.length
structure Ext (w w' : Wd) : Prop extends Ext0 w w' where
  g : w'.G = w.G
  gh : ∀ a, w.G a → w'.H a = w.H a
theorem Kp.refl (F : Addr → Prop) (H : Hp) : Kp F H F H := ⟨fun _ f => f, fun _ _ _ e => e⟩
theorem Kp.trans {F F1 F2 : Addr → Prop} {H H1 H2 : Hp} (a : Kp F H F1 H1) (b : Kp F1 H1 F2 H2) : Kp F H F2 H2 :=
  ⟨fun x f => b.fz x (a.fz x f), fun x o f e => b.fr x o (a.fz x f) (a.fr x o f e)⟩
theorem Ext.refl (w : Wd) : Ext w w := ⟨⟨Kp.refl _ _, fun _ _ => rfl, Nat.le_refl _⟩, rfl, fun _ _ => rfl⟩
theorem Ext0.trans {a b c : Wd} (x : Ext0 a b) (y : Ext0 b c) : Ext0 a c :=
  ⟨x.kp.trans y.kp, fun n h => (y.rh n (Nat.lt_of_lt_of_le h x.len)).trans (x.rh n h), Nat.le_trans x.len y.len⟩
theorem Ext.trans {a b c : Wd} (x : Ext a b) (y : Ext b c) : Ext a c :=
  ⟨x.toExt0.trans y.toExt0, y.g.trans x.g, fun q z => (y.gh q (by rw [x.g]; exact z)).trans (x.gh q z)⟩
def ClOk (K : KW) (w : Wd) (a : Addr) : Cl → Prop
  | .dead => True
  | .lst ds => ¬ w.F a ∧ ∃ xs, w.H a = some (.lst xs) ∧ Rps K w.F w.H xs ds
  | .dct kvs => ¬ w.F a ∧ ∃ xs, w.H a = some (.dK xs) ∧ Rpk K w.F w.H xs kvs
  | .dcn kvs => ¬ w.F a ∧ ∃ xs, w.H a = some (NDO K.w a xs) ∧ Rpn K w.F w.H xs kvs
structure Ok (K : KW) (w : Wd) : Prop where
  live : ∀ a, w.F a → ∃ o, w.H a = some o
  cel : ∀ n c, w.h[n]? = some c → ClOk K w (w.r n) c
  inj : ∀ n m cn cm, w.h[n]? = some cn → w.h[m]? = some cm → cn ≠ .dead → cm ≠ .dead → w.r n = w.r m → n = m
  gd : ∀ a, w.G a → ¬ w.F a ∧ (∃ o, w.H a = some o) ∧ ∀ n c, w.h[n]? = some c → c ≠ .dead → w.r n ≠ a
/-- the class of that name -/
def NmC (K : PySem.W.Frag) (c : String) (C : Addr) : Prop := PySem.W.nsIn K mainGlobals (Str.ofString c) = some (some (.ref C))
mutual
inductive VR (K : KW) (w : Wd) : PV → V → Prop
  | d {x : PyData} {v : V} : Rp K w.F w.H v x → VR K w (.d x) v
  | cell {n : Nat} {v : V} : n < w.h.length → v = .ref (w.r n) → VR K w (.cell n) v
  | tc {a : Addr} {xs : List V} {ps : List PV} : w.F a → Rd w.H a (.tup xs) → VRs K w ps xs → VR K w (.tc ps) (.ref a)
  | kl {a : Addr} {xs : List V} {ds : List PyData} : (w.F a ∧ Rd w.H a (.lst xs)) ∨ KL K a xs → Rps K w.F w.H xs ds → VR K w (.kl ds) (.ref a)
  | exc {c : String} {a C : Addr} : w.F a → w.H a = some (PLX.EXO a C) → NmC K c C → VR K w (.exc c) (.ref a)
inductive VRs (K : KW) (w : Wd) : List PV → List V → Prop
  | nil : VRs K w [] []
  | cons {p : PV} {v : V} {ps : List PV} {vs : List V} : VR K w p v → VRs K w ps vs → VRs K w (p :: ps) (v :: vs)
end
section
variable {K : KW} {w w' : Wd}
mutual
theorem VR.ext0 (x : Ext0 w w') : ∀ {p : PV} {v : V}, VR K w p v → VR K w' p v
  | _, _, .d q => .d (q.keep x.kp)
  | _, _, .cell h e => .cell (Nat.lt_of_lt_of_le h x.len) (by rw [e, x.rh _ h])
  | _, _, .tc f r q => .tc (x.kp.fz _ f) (x.kp.rd f r) (VRs.ext0 x q)
  | _, _, .kl r q => .kl (r.imp (fun z => ⟨x.kp.fz _ z.1, x.kp.rd z.1 z.2⟩) fun z => z) (q.keep x.kp)
  | _, _, .exc f e n => .exc (x.kp.fz _ f) (x.kp.fr _ _ f e) n
theorem VRs.ext0 (x : Ext0 w w') : ∀ {p : List PV} {v : List V}, VRs K w p v → VRs K w' p v
  | _, _, .nil => .nil
  | _, _, .cons a b => .cons (VR.ext0 x a) (VRs.ext0 x b)
end
theorem VR.ext (x : Ext w w') {p : PV} {v : V} (q : VR K w p v) : VR K w' p v := q.ext0 x.toExt0
theorem VRs.ext (x : Ext w w') {p : List PV} {v : List V} (q : VRs K w p v) : VRs K w' p v := q.ext0 x.toExt0
theorem VRs.length : ∀ {ps : List PV} {vs : List V}, VRs K w ps vs → ps.length = vs.length
  | _, _, .nil => rfl
  | _, _, .cons _ b => congrArg (· + 1) (VRs.length b)
theorem VRs.get : ∀ {ps : List PV} {vs : List V} {i : Nat} {p : PV}, VRs K w ps vs → ps[i]? = some p → ∃ v, vs[i]? = some v ∧ VR K w p v
  | _, _, i, _, .nil, e => by simp at e
  | _, _, 0, _, .cons a _, e => by
    simp at e
    subst e
    exact ⟨_, rfl, a⟩
  | _, _, i + 1, _, .cons _ b, e => by
    obtain ⟨x, h1, h2⟩ := VRs.get (i := i) b (by simpa using e)
    exact ⟨x, by simpa using h1, h2⟩
theorem pures_vr : ∀ {ps : List PV} {vs : List V} {ds : List PyData}, VRs K w ps vs → pures ps = some ds → Rps K w.F w.H vs ds
  | _, _, _, .nil, e => by
    cases e
    exact .nil
  | _, _, ds, .cons (.d q) b, e => by
    unfold pures at e
    split at e
    · rename_i xs hx
      cases e
      exact .cons q (pures_vr b hx)
    · cases e
  | _, _, _, .cons (.cell _ _) _, e => by cases e
  | _, _, _, .cons (.tc _ _ _) _, e => by cases e
  | _, _, _, .cons (.kl _ _) _, e => by cases e
  | _, _, _, .cons (.exc _ _ _) _, e => by cases e

/-! ### readings through a view -/
mutual
theorem vw_dp (ok : Ok K w) : ∀ {p : PV} {v : V} {x : PyData}, VR K w p v → vw w.h p = some x → x.canLay0 = true → Dp K w.H v x
  | _, _, _, .d q, e, hc => by
    simp only [vw] at e
    cases e
    exact q.dp hc
  | _, _, x, @VR.cell _ _ n _ h ev, e, hc => by
    subst ev
    simp only [vw] at e
    split at e
    · rename_i ds hn
      cases e
      obtain ⟨_, xs, hx, q⟩ := ok.cel n _ hn
      exact .lst (.inl (.inl hx)) (q.dp (by simpa [PyData.canLay0] using hc))
    · cases e
      simp [PyData.canLay0] at hc
    · cases e
  | _, _, x, .tc f r q, e, hc => by
    simp only [vw] at e
    split at e
    · rename_i ds hn
      cases e
      exact .tup (.inl r) (vws_dp ok q hn (by simpa [PyData.canLay0] using hc))
    · cases e
  | _, _, _, .kl _ _, e, _ => by
    simp only [vw] at e
    cases e
  | _, _, _, .exc _ _ _, e, _ => by
    simp only [vw] at e
    cases e
theorem vws_dp (ok : Ok K w) : ∀ {p : List PV} {v : List V} {x : List PyData}, VRs K w p v → vws w.h p = some x → PyData.canLayAll0 x = true → DpAll K w.H v x
  | _, _, _, .nil, e, _ => by
    simp only [vws] at e
    cases e
    exact .nil
  | _, _, _, .cons a b, e, hc => by
    simp only [vws] at e
    split at e
    · rename_i y ys h1 h2
      cases e
      simp only [PyData.canLayAll0, Bool.and_eq_true] at hc
      exact .cons (vw_dp ok a h1 hc.1) (vws_dp ok b h2 hc.2)
    · cases e
end
/-- a list, seen through its value: fixed, or a place -/
theorem vw_list (ok : Ok K w) {p : PV} {v : V} {ds : List PyData} (q : VR K w p v) (e : vw w.h p = some (.list ds)) : ∃ a xs, v = .ref a ∧ Rd w.H a (.lst xs) ∧ Rps K w.F w.H xs ds := by
  cases q with
  | d q =>
    simp only [vw] at e
    cases e
    cases q with
    | lst f r s => exact ⟨_, _, rfl, r, s⟩
  | @cell n v h ev =>
    simp only [vw] at e
    split at e
    · rename_i es hn
      cases e
      obtain ⟨_, xs, hx, s⟩ := ok.cel n _ hn
      exact ⟨_, xs, ev, .inl hx, s⟩
    · cases e
    · cases e
  | tc f r s =>
    simp only [vw] at e
    split at e <;> cases e
  | kl _ _ =>
    simp only [vw] at e
    cases e
  | exc _ _ _ =>
    simp only [vw] at e
    cases e
/-- .. where it is not locked: what + and extend ask -/
def Lk (w : Wd) : Prop := ∀ a o u, w.H a = some (.frz o u) → False
theorem vw_tup (ok : Ok K w) {v : V} {ds : List PyData} (q : Rp K w.F w.H v (.tuple ds)) : ∃ a xs, v = .ref a ∧ SqT K w.H a xs ∧ Rps K w.F w.H xs ds := by
  cases q with
  | tup f r s => exact ⟨_, _, rfl, .inl r, s⟩
  | tupK r s => exact ⟨_, _, rfl, .inr r, s⟩
end

/-! ### steps of the world -/
section
variable {K : KW} {w : Wd}
theorem Ok.fresh (ok : Ok K w) {p : Addr} (hp : w.H p = none) : ¬ w.F p := fun f => by
  obtain ⟨o, e⟩ := ok.live p f
  rw [hp] at e
  cases e
theorem ClOk.keep {w w' : Wd} {a : Addr} (k : Kp w.F w.H w'.F w'.H) (nf : ¬ w.F a → ¬ w'.F a) (hh : ¬ w.F a → w'.H a = w.H a) : ∀ {c : Cl}, ClOk K w a c → ClOk K w' a c
  | .dead, _ => True.intro
  | .lst _, ⟨f, xs, e, q⟩ => ⟨nf f, xs, (hh f).trans e, q.keep k⟩
  | .dct _, ⟨f, xs, e, q⟩ => ⟨nf f, xs, (hh f).trans e, q.keep k⟩
  | .dcn _, ⟨f, xs, e, q⟩ => ⟨nf f, xs, (hh f).trans e, q.keep k⟩
theorem ClOk.there {w : Wd} {a : Addr} : ∀ {c : Cl}, c ≠ .dead → ClOk K w a c → ∃ o, w.H a = some o
  | .dead, n, _ => absurd rfl n
  | .lst _, _, ⟨_, _, e, _⟩ => ⟨_, e⟩
  | .dct _, _, ⟨_, _, e, _⟩ => ⟨_, e⟩
  | .dcn _, _, ⟨_, _, e, _⟩ => ⟨_, e⟩
theorem ClOk.nf {w : Wd} {a : Addr} : ∀ {c : Cl}, c ≠ .dead → ClOk K w a c → ¬ w.F a
  | .dead, n, _ => absurd rfl n
  | .lst _, _, ⟨f, _⟩ => f
  | .dct _, _, ⟨f, _⟩ => f
  | .dcn _, _, ⟨f, _⟩ => f
theorem dead_or (c : Cl) : c = .dead ∨ c ≠ .dead := by
  cases c with
  | dead => exact .inl rfl
  | lst _ => exact .inr (by intro z; cases z)
  | dct _ => exact .inr (by intro z; cases z)
  | dcn _ => exact .inr (by intro z; cases z)
/-- a new fixed object at p -/
def Wd.fix (w : Wd) (p : Addr) (o : HO) : Wd := ⟨fun a => a = p ∨ w.F a, upd w.H p o, w.r, w.h, w.G⟩
theorem Wd.fix_kp {p : Addr} {o : HO} (hp : w.H p = none) : Kp w.F w.H (w.fix p o).F (w.fix p o).H :=
  ⟨fun _ f => .inr f, fun a u _ e => by
    show upd w.H p o a = some u
    rw [upd_ne (ne_of_none e hp)]
    exact e⟩
theorem Ok.gne (ok : Ok K w) {a p : Addr} (g : w.G a) (hp : w.H p = none) : a ≠ p := by
  obtain ⟨_, ⟨o, e⟩, _⟩ := ok.gd a g
  exact ne_of_none e hp
theorem Wd.fix_ext {p : Addr} {o : HO} (ok : Ok K w) (hp : w.H p = none) : Ext w (w.fix p o) := ⟨⟨Wd.fix_kp hp, fun _ _ => rfl, Nat.le_refl _⟩, rfl, fun _ g => upd_ne (ok.gne g hp)⟩
theorem Wd.fix_ok {p : Addr} {o : HO} (ok : Ok K w) (hp : w.H p = none) : Ok K (w.fix p o) := by
  refine ⟨fun a f => ?_, fun n c e => ?_, ok.inj, fun a g => ?_⟩
  · rcases f with rfl | f
    · exact ⟨o, upd_same⟩
    · obtain ⟨u, e⟩ := ok.live a f
      exact ⟨u, (Wd.fix_kp hp).fr a u f e⟩
  · have q := ok.cel n c e
    rcases dead_or c with rfl | nd
    · exact True.intro
    obtain ⟨u, hu⟩ := q.there nd
    have ne : w.r n ≠ p := ne_of_none hu hp
    refine q.keep (Wd.fix_kp hp) (fun nf f => ?_) fun _ => upd_ne ne
    rcases f with f | f
    · exact ne f
    · exact nf f
  · obtain ⟨g1, ⟨u, g2⟩, g3⟩ := ok.gd a g
    have ne := ne_of_none g2 hp
    refine ⟨fun f => ?_, ⟨u, (upd_ne ne).trans g2⟩, g3⟩
    rcases f with f | f
    · exact ne f
    · exact g1 f
/-- a new place -/
def Wd.new (w : Wd) (p : Addr) (o : HO) (c : Cl) : Wd := ⟨w.F, upd w.H p o, fun n => if n = w.h.length then p else w.r n, w.h ++ [c], w.G⟩
theorem Wd.new_kp {p : Addr} {o : HO} {c : Cl} (hp : w.H p = none) : Kp w.F w.H (w.new p o c).F (w.new p o c).H :=
  ⟨fun _ f => f, fun a u _ e => by
    show upd w.H p o a = some u
    rw [upd_ne (ne_of_none e hp)]
    exact e⟩
theorem Wd.new_ext {p : Addr} {o : HO} {c : Cl} (ok : Ok K w) (hp : w.H p = none) : Ext w (w.new p o c) :=
  ⟨⟨Wd.new_kp hp, fun n h => if_neg (Nat.ne_of_lt h), by
    show w.h.length ≤ (w.h ++ [c]).length
    rw [List.length_append]
    exact Nat.le_add_right _ _⟩, rfl, fun _ g => upd_ne (ok.gne g hp)⟩
theorem Wd.new_ok {p : Addr} {o : HO} {c : Cl} (ok : Ok K w) (hp : w.H p = none) (hc : ClOk K (w.new p o c) p c) : Ok K (w.new p o c) := by
  have at_ : ∀ n d, (w.h ++ [c])[n]? = some d → (n < w.h.length ∧ w.h[n]? = some d) ∨ (n = w.h.length ∧ d = c) := fun n d e => by
    by_cases hn : n < w.h.length
    · rw [List.getElem?_append_left hn] at e
      exact .inl ⟨hn, e⟩
    · rw [List.getElem?_append_right (Nat.le_of_not_lt hn)] at e
      have h0 : n - w.h.length = 0 := by
        cases q : n - w.h.length with
        | zero => rfl
        | succ m =>
          rw [q] at e
          simp at e
      rw [h0] at e
      simp at e
      exact .inr ⟨by omega, e.symm⟩
  have old : ∀ n d, w.h[n]? = some d → d ≠ Cl.dead → w.r n ≠ p := fun n d e nd => by
    obtain ⟨u, hu⟩ := (ok.cel n d e).there nd
    exact ne_of_none hu hp
  refine ⟨fun a f => ?_, fun n d e => ?_, fun n m cn cm e1 e2 n1 n2 q => ?_, fun a g => ?_⟩
  · obtain ⟨u, e⟩ := ok.live a f
    exact ⟨u, (Wd.new_kp (c := c) hp).fr a u f e⟩
  · rcases at_ n d e with ⟨hn, e⟩ | ⟨rfl, rfl⟩
    · show ClOk K _ (if n = w.h.length then p else w.r n) d
      rw [if_neg (Nat.ne_of_lt hn)]
      rcases dead_or d with rfl | nd
      · exact True.intro
      exact (ok.cel n d e).keep (Wd.new_kp hp) (fun nf => nf) fun _ => upd_ne (old n d e nd)
    · show ClOk K _ (if w.h.length = w.h.length then p else _) d
      rw [if_pos rfl]
      exact hc
  · replace q : (if n = w.h.length then p else w.r n) = (if m = w.h.length then p else w.r m) := q
    rcases at_ n cn e1 with ⟨hn, f1⟩ | ⟨hn, hc1⟩
    · rcases at_ m cm e2 with ⟨hm, f2⟩ | ⟨hm, hc2⟩
      · rw [if_neg (Nat.ne_of_lt hn), if_neg (Nat.ne_of_lt hm)] at q
        exact ok.inj n m cn cm f1 f2 n1 n2 q
      · rw [if_neg (Nat.ne_of_lt hn), if_pos hm] at q
        exact absurd q (old n cn f1 n1)
    · rcases at_ m cm e2 with ⟨hm, f2⟩ | ⟨hm, hc2⟩
      · rw [if_pos hn, if_neg (Nat.ne_of_lt hm)] at q
        exact absurd q.symm (old m cm f2 n2)
      · rw [hn, hm]
  · obtain ⟨g1, ⟨u, g2⟩, g3⟩ := ok.gd a g
    have ne := ne_of_none g2 hp
    refine ⟨g1, ⟨u, (upd_ne ne).trans g2⟩, fun n d e nd => ?_⟩
    show (if n = w.h.length then p else w.r n) ≠ a
    rcases at_ n d e with ⟨hn, f1⟩ | ⟨hn, _⟩
    · rw [if_neg (Nat.ne_of_lt hn)]
      exact g3 n d f1 nd
    · rw [if_pos hn]
      exact ne.symm
/-- a place is written -/
def Wd.put (w : Wd) (n : Nat) (o : HO) (c : Cl) : Wd := ⟨w.F, upd w.H (w.r n) o, w.r, w.h.set n c, w.G⟩
theorem Wd.put_kp {n : Nat} {o : HO} {c : Cl} (nf : ¬ w.F (w.r n)) : Kp w.F w.H (w.put n o c).F (w.put n o c).H :=
  ⟨fun _ f => f, fun a u f e => by
    show upd w.H (w.r n) o a = some u
    rw [upd_ne (fun z => nf (by rw [← z]; exact f))]
    exact e⟩
theorem Wd.put_ext {n : Nat} {o : HO} {c c0 : Cl} (ok : Ok K w) (e0 : w.h[n]? = some c0) (n0 : c0 ≠ Cl.dead) : Ext w (w.put n o c) :=
  ⟨⟨Wd.put_kp ((ok.cel n c0 e0).nf n0), fun _ _ => rfl, by
    show w.h.length ≤ (w.h.set n c).length
    rw [List.length_set]
    exact Nat.le_refl _⟩, rfl, fun a g => upd_ne (Ne.symm ((ok.gd a g).2.2 n c0 e0 n0))⟩
theorem Wd.put_ok {n : Nat} {o : HO} {c c0 : Cl} (ok : Ok K w) (e0 : w.h[n]? = some c0) (n0 : c0 ≠ Cl.dead) (hc : ClOk K (w.put n o c) (w.r n) c) : Ok K (w.put n o c) := by
  have nf := (ok.cel n c0 e0).nf n0
  have hl : n < w.h.length := (List.getElem?_eq_some_iff.mp e0).1
  have at_ : ∀ m d, (w.h.set n c)[m]? = some d → (m ≠ n ∧ w.h[m]? = some d) ∨ (m = n ∧ d = c) := fun m d e => by
    by_cases hm : m = n
    · subst hm
      rw [List.getElem?_set_self hl] at e
      cases e
      exact .inr ⟨rfl, rfl⟩
    · rw [List.getElem?_set_ne (Ne.symm hm)] at e
      exact .inl ⟨hm, e⟩
  have old : ∀ m d, m ≠ n → w.h[m]? = some d → d ≠ Cl.dead → w.r m ≠ w.r n := fun m d hm e nd q => hm (ok.inj m n d c0 e e0 nd n0 q)
  have back : ∀ m d, (w.h.set n c)[m]? = some d → d ≠ Cl.dead → ∃ d', w.h[m]? = some d' ∧ d' ≠ Cl.dead := fun m d e nd => by
    rcases at_ m d e with ⟨_, e⟩ | ⟨rfl, rfl⟩
    · exact ⟨d, e, nd⟩
    · exact ⟨c0, e0, n0⟩
  refine ⟨fun a f => ?_, fun m d e => ?_, fun a b ca cb e1 e2 n1 n2 q => ?_, fun a g => ?_⟩
  · obtain ⟨u, e⟩ := ok.live a f
    exact ⟨u, (Wd.put_kp (c := c) nf).fr a u f e⟩
  · rcases at_ m d e with ⟨hm, e⟩ | ⟨rfl, rfl⟩
    · rcases dead_or d with rfl | nd
      · exact True.intro
      exact (ok.cel m d e).keep (Wd.put_kp nf) (fun f => f) fun _ => upd_ne (old m d hm e nd)
    · exact hc
  · obtain ⟨c1, e1', n1'⟩ := back a ca e1 n1
    obtain ⟨c2, e2', n2'⟩ := back b cb e2 n2
    exact ok.inj a b c1 c2 e1' e2' n1' n2' q
  · obtain ⟨g1, ⟨u, g2⟩, g3⟩ := ok.gd a g
    refine ⟨g1, ⟨u, (upd_ne (Ne.symm (g3 n c0 e0 n0))).trans g2⟩, fun m d e nd => ?_⟩
    obtain ⟨d', e', nd'⟩ := back m d e nd
    exact g3 m d' e' nd'
/-- a place is fixed -/
def Wd.frz (w : Wd) (n : Nat) : Wd := ⟨fun a => a = w.r n ∨ w.F a, w.H, w.r, w.h.set n Cl.dead, w.G⟩
theorem Wd.frz_ext {n : Nat} : Ext w (w.frz n) :=
  ⟨⟨⟨fun _ f => .inr f, fun _ _ _ e => e⟩, fun _ _ => rfl, by
    show w.h.length ≤ (w.h.set n Cl.dead).length
    rw [List.length_set]
    exact Nat.le_refl _⟩, rfl, fun _ _ => rfl⟩
theorem Wd.frz_ok {n : Nat} {c0 : Cl} (ok : Ok K w) (e0 : w.h[n]? = some c0) (n0 : c0 ≠ Cl.dead) : Ok K (w.frz n) := by
  have hl : n < w.h.length := (List.getElem?_eq_some_iff.mp e0).1
  have at_ : ∀ m d, (w.h.set n Cl.dead)[m]? = some d → d ≠ Cl.dead → m ≠ n ∧ w.h[m]? = some d := fun m d e nd => by
    by_cases hm : m = n
    · subst hm
      rw [List.getElem?_set_self hl] at e
      cases e
      exact absurd rfl nd
    · rw [List.getElem?_set_ne (Ne.symm hm)] at e
      exact ⟨hm, e⟩
  refine ⟨fun a f => ?_, fun m d e => ?_, fun a b ca cb e1 e2 n1 n2 q => ?_, fun a g => ?_⟩
  · rcases f with rfl | f
    · exact ClOk.there (w := w) n0 (ok.cel n c0 e0)
    · exact ok.live a f
  · rcases dead_or d with rfl | nd
    · exact True.intro
    obtain ⟨hm, e⟩ := at_ m d e nd
    refine (ok.cel m d e).keep Wd.frz_ext.kp (fun nf f => ?_) fun _ => rfl
    rcases f with f | f
    · exact hm (ok.inj m n d c0 e e0 nd n0 f)
    · exact nf f
  · obtain ⟨_, e1⟩ := at_ a ca e1 n1
    obtain ⟨_, e2⟩ := at_ b cb e2 n2
    exact ok.inj a b ca cb e1 e2 n1 n2 q
  · obtain ⟨g1, g2, g3⟩ := ok.gd a g
    refine ⟨fun f => ?_, g2, fun m d e nd => g3 m d (at_ m d e nd).2 nd⟩
    rcases f with f | f
    · exact g3 n c0 e0 n0 f.symm
    · exact g1 f
end

/-! ### readings -/
/-- what is wanted behind: rv, with the places h' -/
def Post (K : KW) (w : Wd) (h' : Hh) (rv : PV) (Q : VK) : Prop := ∀ (w' : Wd) (v : V), Ext w w' → Ok K w' → w'.h = h' → VR K w' rv v → Q v w'.H
theorem Post.ext {K : KW} {w w' : Wd} {h' : Hh} {rv : PV} {Q : VK} (p : Post K w h' rv Q) (x : Ext w w') : Post K w' h' rv Q := fun w2 v x2 ok e r => p w2 v (x.trans x2) ok e r
theorem Post.same {K : KW} {w : Wd} {rv : PV} {Q : VK} {v : V} (p : Post K w w.h rv Q) (ok : Ok K w) (r : VR K w rv v) : Q v w.H := p w v (Ext.refl w) ok rfl r
structure ER (K : KW) (w : Wd) (e : Ee) (σ : L2.St) : Prop where
  len : e.length = σ.length
  get : ∀ (i : Nat) (p : PV), e[i]? = some (some p) → ∃ v, σ[i]? = some (some v) ∧ VR K w p v
theorem ER.ext0 {K : KW} {w w' : Wd} {e : Ee} {σ : L2.St} (r : ER K w e σ) (x : Ext0 w w') : ER K w' e σ :=
  ⟨r.len, fun i p h => let ⟨v, h1, h2⟩ := r.get i p h; ⟨v, h1, h2.ext0 x⟩⟩
theorem ER.ext {K : KW} {w w' : Wd} {e : Ee} {σ : L2.St} (r : ER K w e σ) (x : Ext w w') : ER K w' e σ := r.ext0 x.toExt0
theorem ER.set {K : KW} {w : Wd} {e : Ee} {σ : L2.St} (r : ER K w e σ) (i : Nat) {p : PV} {v : V} (q : VR K w p v) : ER K w (e.set i (some p)) (σ.set i (some v)) := by
  refine ⟨by rw [List.length_set, List.length_set, r.len], fun j p' h => ?_⟩
  by_cases hj : j = i
  · subst hj
    have hl : j < e.length := by
      have := (List.getElem?_eq_some_iff.mp h).1
      rwa [List.length_set] at this
    rw [List.getElem?_set_self hl] at h
    cases h
    exact ⟨v, List.getElem?_set_self (by rw [← r.len]; exact hl), q⟩
  · rw [List.getElem?_set_ne (Ne.symm hj)] at h
    rw [List.getElem?_set_ne (Ne.symm hj)]
    exact r.get j p' h
theorem ER.unset {K : KW} {w : Wd} {e : Ee} {σ : L2.St} (r : ER K w e σ) (i : Nat) : ER K w (e.set i none) (σ.set i none) := by
  refine ⟨by rw [List.length_set, List.length_set, r.len], fun j p' h => ?_⟩
  by_cases hj : j = i
  · subst hj
    have hl : j < e.length := by
      have := (List.getElem?_eq_some_iff.mp h).1
      rwa [List.length_set] at this
    rw [List.getElem?_set_self hl] at h
    cases h
  · rw [List.getElem?_set_ne (Ne.symm hj)] at h
    rw [List.getElem?_set_ne (Ne.symm hj)]
    exact r.get j p' h
theorem ER.wipe {K : KW} {w : Wd} {e : Ee} {σ : L2.St} (r : ER K w e σ) : ∀ vs : List Nat, ER K w (wipeE e vs) (wipe σ vs)
  | [] => r
  | v :: vs => (ER.wipe r vs).unset v
abbrev EM := Ee → Hh → Out PV
def tE (K : KW) (m : EM) : TE := fun σ H Q => ∃ (w : Wd) (e : Ee) (rv : PV) (h' : Hh), w.H = H ∧ Ok K w ∧ ER K w e σ ∧ m e w.h = .ok rv h' ∧ Post K w h' rv Q
def PostB (K : KW) (w : Wd) (h' : Hh) (b : Bool) (Q : Bool → Hp → Prop) : Prop := ∀ (w' : Wd), Ext w w' → Ok K w' → w'.h = h' → Q b w'.H
def tT (K : KW) (m : Ee → Hh → Out Bool) : TT := fun σ H Q => ∃ (w : Wd) (e : Ee) (b : Bool) (h' : Hh), w.H = H ∧ Ok K w ∧ ER K w e σ ∧ m e w.h = .ok b h' ∧ PostB K w h' b Q
def PostA (K : KW) (w : Wd) (h' : Hh) (rs : List PV) (Q : List V → Hp → Prop) : Prop := ∀ (w' : Wd) (vs : List V), Ext w w' → Ok K w' → w'.h = h' → VRs K w' rs vs → Q vs w'.H
def tA (K : KW) (m : Ee → Hh → Out (List PV)) : TA := fun σ H Q => ∃ (w : Wd) (e : Ee) (rs : List PV) (h' : Hh), w.H = H ∧ Ok K w ∧ ER K w e σ ∧ m e w.h = .ok rs h' ∧ PostA K w h' rs Q
/-- what is wanted of an exception of the class c -/
def PostX (K : KW) (w : Wd) (c : String) (h' : Hh) (E : XK) : Prop := ∀ (w' : Wd) (C : Addr), Ext w w' → Ok K w' → w'.h = h' → NmC K c C → E (.ref C) none w'.H
theorem PostX.ext {K : KW} {w w' : Wd} {c : String} {h' : Hh} {E : XK} (p : PostX K w c h' E) (x : Ext w w') : PostX K w' c h' E := fun w2 C x2 ok e n => p w2 C (x.trans x2) ok e n
def PostO (K : KW) (w : Wd) (o : Out PV) (Q : VK) (E : XK) : Prop := match o with
  | .ok rv h' => Post K w h' rv Q
  | .exn c h' => PostX K w c h' E
  | .stuck => False
theorem PostO.ext {K : KW} {w w' : Wd} {o : Out PV} {Q : VK} {E : XK} (p : PostO K w o Q E) (x : Ext w w') : PostO K w' o Q E := by
  cases o with
  | ok rv h' => exact Post.ext p x
  | exn c h' => exact PostX.ext p x
  | stuck => exact p
def tX (K : KW) (W : WX) (m : EM) : TE := fun σ H Q => ∃ (w : Wd) (e : Ee), w.H = H ∧ Ok K w ∧ ER K w e σ ∧ PostO K w (m e w.h) Q fun cls d H' => W cls d σ H'
def PostAO (K : KW) (w : Wd) (o : Out (List PV)) (Q : List V → Hp → Prop) (E : XK) : Prop := match o with
  | .ok rs h' => PostA K w h' rs Q
  | .exn c h' => PostX K w c h' E
  | .stuck => False
def tAX (K : KW) (W : WX) (m : Ee → Hh → Out (List PV)) : TA := fun σ H Q => ∃ (w : Wd) (e : Ee), w.H = H ∧ Ok K w ∧ ER K w e σ ∧ PostAO K w (m e w.h) Q fun cls d H' => W cls d σ H'
theorem strict_ok {α : Type} {m : Out α} {a : α} {h : Hh} (e : strict m = .ok a h) : m = .ok a h := by
  cases m with
  | ok a' h' => exact e
  | exn c h' => cases e
  | stuck => cases e
theorem strict_exn {α : Type} {m : Out α} {c : String} {h : Hh} : strict m ≠ .exn c h := by
  intro e
  cases m <;> cases e
/-- by values -/
def r2 (K : KW) (m : PV → PV → Hh → Out PV) : R2 := fun x y H Q => ∃ (w : Wd) (a b : PV) (rv : PV) (h' : Hh), w.H = H ∧ Ok K w ∧ VR K w a x ∧ VR K w b y ∧ m a b w.h = .ok rv h' ∧ Post K w h' rv Q
def r1 (K : KW) (m : PV → Hh → Out PV) : V → Hp → VK → Prop := fun x H Q => ∃ (w : Wd) (a : PV) (rv : PV) (h' : Hh), w.H = H ∧ Ok K w ∧ VR K w a x ∧ m a w.h = .ok rv h' ∧ Post K w h' rv Q
def rs (K : KW) (m : List PV → Hh → Out PV) : List V → Hp → VK → Prop := fun xs H Q => ∃ (w : Wd) (as : List PV) (rv : PV) (h' : Hh), w.H = H ∧ Ok K w ∧ VRs K w as xs ∧ m as w.h = .ok rv h' ∧ Post K w h' rv Q
theorem tE_two {K : KW} {ma mb : EM} {m : PV → PV → Hh → Out PV} {σ : L2.St} {H : Hp} {Q : VK}
    (t : tE K (fun e h => (ma e h).bind fun x h1 => (mb e h1).bind fun y h2 => m x y h2) σ H Q) : tOp (r2 K m) (tE K ma) (tE K mb) σ H Q := by
  obtain ⟨w, e, rv, h', rfl, ok, er, q, p⟩ := t
  obtain ⟨x, h1, qa, q⟩ := Out.bind_eq_ok q
  obtain ⟨y, h2, qb, q⟩ := Out.bind_eq_ok q
  refine ⟨w, e, x, h1, rfl, ok, er, qa, fun w1 v x1 ok1 e1 r1 => ?_⟩
  subst e1
  refine ⟨w1, e, y, h2, rfl, ok1, er.ext x1, qb, fun w2 u x2 ok2 e2 r2 => ?_⟩
  subst e2
  exact ⟨w2, x, y, rv, h', rfl, ok2, r1.ext x2, r2, q, p.ext (x1.trans x2)⟩
theorem tE_one {K : KW} {ma : EM} {m : PV → Hh → Out PV} {σ : L2.St} {H : Hp} {Q : VK}
    (t : tE K (fun e h => (ma e h).bind fun x h1 => m x h1) σ H Q) : tUn (r1 K m) (tE K ma) σ H Q := by
  obtain ⟨w, e, rv, h', rfl, ok, er, q, p⟩ := t
  obtain ⟨x, h1, qa, q⟩ := Out.bind_eq_ok q
  refine ⟨w, e, x, h1, rfl, ok, er, qa, fun w1 v x1 ok1 e1 r1 => ?_⟩
  subst e1
  exact ⟨w1, x, rv, h', rfl, ok1, r1, q, p.ext x1⟩
theorem tE_args {K : KW} {ms : Ee → Hh → Out (List PV)} {m : List PV → Hh → Out PV} {σ : L2.St} {H : Hp} {Q : VK}
    (t : tE K (fun e h => (ms e h).bind fun x h1 => m x h1) σ H Q) : tA K ms σ H (fun xs H1 => rs K m xs H1 Q) := by
  obtain ⟨w, e, rv, h', rfl, ok, er, q, p⟩ := t
  obtain ⟨x, h1, qa, q⟩ := Out.bind_eq_ok q
  refine ⟨w, e, x, h1, rfl, ok, er, qa, fun w1 vs x1 ok1 e1 r1 => ?_⟩
  subst e1
  exact ⟨w1, x, rv, h', rfl, ok1, r1, q, p.ext x1⟩
theorem _root_.L2.PE.of {X : Cx} {e : Expr} {t t' : TE} (h : PE X e t) (i : ∀ σ H Q, t' σ H Q → t σ H Q) : PE X e t' := ⟨fun pins s σ H Q I q => h.run pins s σ H Q I (i σ H Q q)⟩
theorem _root_.L2.PT.of {X : Cx} {e : Expr} {t t' : TT} (h : PT X e t) (i : ∀ σ H Q, t' σ H Q → t σ H Q) : PT X e t' := ⟨fun pins s σ H Q I q => h.run pins s σ H Q I (i σ H Q q)⟩
theorem _root_.L2.PA.of {X : Cx} {e : List Expr} {t t' : TA} (h : PA X e t) (i : ∀ σ H Q, t' σ H Q → t σ H Q) : PA X e t' := ⟨fun pos pins s σ H Q I q => h.run pos pins s σ H Q I (i σ H Q q)⟩
theorem _root_.L2.PS.of {X : Cx} {e : Stmt} {t t' : TS} (h : PS X e t) (i : ∀ D σ H, t' D σ H → t D σ H) : PS X e t' := ⟨fun pins s σ H D I q => h.run pins s σ H D I (i D σ H q)⟩
theorem _root_.L2.PSs.of {X : Cx} {e : List Stmt} {t t' : TS} (h : PSs X e t) (i : ∀ D σ H, t' D σ H → t D σ H) : PSs X e t' := ⟨fun pins s σ H D I q => h.run pins s σ H D I (i D σ H q)⟩
theorem _root_.L2.PG.of {X : Cx} {e : Expr} {t t' : TG} (h : PG X e t) (i : ∀ v σ H Q, t' v σ H Q → t v σ H Q) : PG X e t' := ⟨fun pins s σ H v u Q I r q => h.run pins s σ H v u Q I r (i v σ H Q q)⟩
end PL

set_option maxRecDepth 100000
set_option maxHeartbeats 4000000
/-! PL3: the operations, by values. -/
namespace PL
open PySem PySem.Spec PyProof.Rows L2

/-! ### len(set(texts)) -/
theorem mem_once (acc : List Str) (x y : Str) : y ∈ once acc x ↔ y ∈ acc ∨ y = x := by
  unfold once
  split
  · rename_i hx
    exact ⟨.inl, fun z => z.elim id fun e => e ▸ hx⟩
  · simp
theorem mem_onces : ∀ (xs acc : List Str) (y : Str), y ∈ xs.foldl once acc ↔ y ∈ acc ∨ y ∈ xs
  | [], acc, y => by simp
  | x :: xs, acc, y => by
    rw [List.foldl_cons, mem_onces xs, mem_once, List.mem_cons, or_assoc]
theorem mem_uniq (xs : List Str) (y : Str) : y ∈ uniq xs ↔ y ∈ xs := by
  rw [uniq, mem_onces]
  simp
theorem uniq_snoc (xs : List Str) (x : Str) : uniq (xs ++ [x]) = once (uniq xs) x := by
  unfold uniq
  rw [List.foldl_append]
  rfl
theorem uniq_le (xs : List Str) : (uniq xs).length ≤ xs.length := by
  have key : ∀ (xs acc : List Str), (xs.foldl once acc).length ≤ acc.length + xs.length := by
    intro xs
    induction xs with
    | nil => intro acc; simp
    | cons x xs ih =>
      intro acc
      have h1 := ih (once acc x)
      have h2 : (once acc x).length ≤ acc.length + 1 := by
        unfold once
        split <;> simp
      rw [List.foldl_cons, List.length_cons]
      omega
  have := key xs []
  simpa [uniq] using this
abbrev metS (xs : List Str) (i : Nat) : Str → Bool := fun y => decide (y ∈ uniq (xs.take i))
section
variable {prog : Program} {w : World} {A : Around} {R : Result → Shared → Prop} {I : Addr} {fp wr : List Addr} {G : Array GenState → Array GenState → Prop} {n : Nat} {P : Nat → Value → Prop} {St : Nat → Shared → Prop}
theorem set_turns (W : WalksS prog w A.in1 I fp wr G n P St) {T : Addr} (hT : T ∉ fp) {xs : List Str} (hl : xs.length = n) (hn : n + 1 < scanBound) (hP : ∀ i v, P i v → ∃ t x, xs[i]? = some x ∧ v = .str x t) :
    ∀ (r i : Nat) (s : Shared), i + r = n → St i s → s.heap.SetOf (PySem.strKind prog w) T (metS xs i) (uniq (xs.take i)).length →
      (∀ z, Moved (T :: wr) G s z → z.heap.SetOf (PySem.strKind prog w) T (metS xs n) (uniq (xs.take n)).length → R (.ok (.ret .none)) z) → codeAny (model prog w) A (.builtin "set.update.loop" ⟨[.ref T, .ref I], []⟩) R s := by
  have hTw : T ∉ wr := fun z => hT (W.sub _ z)
  have wider : ∀ b ∈ wr, b ∈ T :: wr := fun b z => .tail _ z
  have keep : ∀ {i : Nat} {s z : Shared}, Moved wr G s z → s.heap.SetOf (PySem.strKind prog w) T (metS xs i) (uniq (xs.take i)).length → z.heap.SetOf (PySem.strKind prog w) T (metS xs i) (uniq (xs.take i)).length := fun m ⟨o, a, b, c, ho, q⟩ => ⟨o, a, b, c, m.heap T _ hTw ho, q⟩
  intro r
  induction r with
  | zero =>
    intro i s e st hS fin
    obtain rfl : i = n := e
    apply codeAny_builtin PyProof.Rows.F.entry_set_update_loop
    rw [Around.under_plainId PyProof.Rows.F.plain_set_update_loop]
    change wpAny _ A.in1 (pyNext (.ref I) >>= _) _ _ s
    apply wpAny_bind
    exact W.done s _ _ st fun z m => wpAny_pure (fin z (m.mono wider) (keep m hS))
  | succ r ih =>
    intro i s e st hS fin
    apply codeAny_builtin PyProof.Rows.F.entry_set_update_loop
    rw [Around.under_plainId PyProof.Rows.F.plain_set_update_loop]
    change wpAny _ A.in1 (pyNext (.ref I) >>= _) _ _ s
    apply wpAny_bind
    refine W.item i s _ _ (by omega) st fun v z pv st' m => ?_
    obtain ⟨t, x, hx, rfl⟩ := hP i v pv
    have S1 := keep m hS
    have ex : xs.take (i + 1) = xs.take i ++ [x] := by rw [List.take_add_one, hx]; rfl
    have room : (uniq (xs.take i)).length + 1 < scanBound := by
      have h1 := uniq_le (xs.take i)
      rw [List.length_take] at h1
      omega
    change wpAny _ A.in1 (holding [Value.str x t] (setAdd T (.str x t)) >>= _) _ _ z
    apply wpAny_bind
    apply wpAny_holding
    unfold setAdd
    apply wpAny_holding
    apply wpAny_bind
    apply (PySem.strKind prog w).pyHash (strKind_is _ _ x t)
    refine wpAny_setAddHashed_of (knd := PySem.strKind prog w) (k := x) (s := { z with toks := z.toks + 1 }) (strKind_is _ _ _ _) rfl S1 room fun h1 but S2 => ?_
    have S3 : h1.SetOf (PySem.strKind prog w) T (metS xs (i + 1)) (uniq (xs.take (i + 1))).length := by
      refine PyProof.Rows.SetOf_congr S2 (fun y => ?_) ?_
      · show (decide (y ∈ uniq (xs.take i)) || decide (y = x)) = decide (y ∈ uniq (xs.take (i + 1)))
        rw [ex]
        simp only [uniq_snoc, mem_once, Bool.decide_or]
      · rw [ex, uniq_snoc]
        unfold once
        split <;> simp_all
    refine wpAny_pure ⟨plainId_quiet PyProof.Rows.F.plain_set_update_loop _, ih (i + 1) _ (by omega) (W.frame _ z _ _ st' (Nat.le_succ _) fun b hb o ho => (but.2 b fun c => hT (c ▸ hb)).trans ho) S3 fun y my hy => fin y ?_ hy⟩
    exact Moved.trans W.gtrans ((m.mono wider).then_heap (Nat.le_succ _) fun b o hb ho => (but.2 b fun c => hb (c ▸ List.mem_cons_self)).trans ho) my
end
section
variable {prog : Program} {w : World} {A : Around} {E : Value → Shared → Prop} {s : Shared}
/-- a new set -/
abbrev newS (led : Bool) : Obj := { cls := .type "set", dict := none, data := .set #[] 0 (.fresh 0 0 led) }
set_option maxHeartbeats 6400000 in
theorem set_of_texts {l : Addr} {us : Array Value} {xs : List Str} {Q : Value → Shared → Prop} (hc : A.handled = none) (lu : s.heap.IsList l us) (ux : StrsAre us.toList xs) (few : xs.length + 1 < scanBound)
    (q : ∀ (h1 : Heap) (tk : Nat), h1.SetOf (PySem.strKind prog w) s.heap.objs.size (metS xs xs.length) (uniq (xs.take xs.length)).length → (∀ b o, b < s.heap.objs.size → s.heap.get? b = some o → h1.get? b = some o) → Q (.ref s.heap.objs.size) { s with heap := h1, toks := tk }) :
    wpAny (model prog w) A (call (.type "set") [.ref l]) Q E s := by
  obtain ⟨c, tl, hmro⟩ := PySem.F.called_set.mro
  obtain ⟨hmade, hsub⟩ := And.intro PySem.F.called_set.made PySem.F.called_set.sub
  obtain ⟨h1, h2⟩ := And.intro PySem.F.called_set.notType PySem.F.called_set.canCreate
  have hct := PySem.F.typeCall_set_1 (.ref l)
  have hz : us.size = xs.length := by rw [← Array.length_toList]; exact StrsAre.len_eq ux
  apply wpAny_call
  apply codeAny_of_tree
  change wpAny _ _ (callAny (.type "set") _) _ _ _
  refine wpAny_pure ⟨Code.quiet_builtin _ (by decide +kernel), ?_⟩
  apply codeAny_builtin PySem.F.entry_type_call
  rw [Around.under_plain (weight_type_call_type "set" [.ref l] []) rfl]
  repeat (any_goals (first | assumption | wp_step))
  refine codeAny_mono (code_set_new_1 (.ref l) (E := E) (Q₁ := fun v z => ∃ led, v = .ref s.heap.objs.size ∧ z = { s with heap := s.heap.push (newS led) }) fun led => ⟨led, rfl, rfl⟩) ?_
  rintro (e | fl) z hr
  · exact hr
  cases fl with
  | ret v =>
    obtain ⟨led, rfl, rfl⟩ := hr
    have at0 : (s.heap.push (newS led)).get? s.heap.objs.size = some (newS led) := Heap.get?_push_size _ rfl
    have ty : Shared.TypeIs { s with heap := s.heap.push (newS led) } (.ref s.heap.objs.size) "set" := ⟨_, at0, rfl⟩
    have hli := PySem.F.called_set.init.lookup
    have hbi := PySem.F.called_set.init.bind (.ref s.heap.objs.size)
    repeat (any_goals (first | assumption | wp_step))
    refine codeAny_mono (codeAny_call_builtin (R := wants (fun v z => v = .none ∧ ∃ h1 tk, z = { s with heap := h1, toks := tk } ∧ h1.SetOf (PySem.strKind prog w) s.heap.objs.size (metS xs xs.length) (uniq (xs.take xs.length)).length ∧ ∀ b o, b < s.heap.objs.size → s.heap.get? b = some o → h1.get? b = some o) E)
      PySem.F.called_set.init.plain PySem.F.entry_set_init (check_set_init_1 ty ?_)) ?_
    · obtain ⟨ol, atl, k1, nl, k2⟩ := lu
      obtain ⟨ocls, odict, odata, oslots⟩ := ol
      dsimp only at k1 k2
      cases k1
      cases k2
      have atl1 := Heap.get?_push_of_some (newS led) atl
      obtain ⟨e1, e2⟩ := And.intro PySem.F.sub_list_set PySem.F.sub_list_frozenset
      have e3 : (Value.type "list" == Value.type "dict") = false := by decide
      have lu1 : (s.heap.push (newS led)).IsList l us := ⟨_, atl1, rfl, nl, rfl⟩
      unfold Builtin.«set.__init__» noKeywords Builtin.Frozenset.updateFrom
      generalize hPI : pyIter = PI
      wp_walk
      subst hPI
      apply wpAny_pyIter_list lu1
      apply wpAny_bind
      apply wpAny_runValue
      have old : l < s.heap.objs.size := Heap.lt_size atl
      have sz1 : (s.heap.push (newS led)).objs.size = s.heap.objs.size + 1 := Heap.size_push ..
      have ne1 : l ≠ (s.heap.push (newS led)).objs.size := fun z => Nat.ne_of_lt (Nat.lt_succ_of_lt old) (z.trans sz1)
      have out : s.heap.objs.size ∉ [(s.heap.push (newS led)).objs.size, l] := by
        rw [sz1]
        intro z
        rcases List.mem_cons.mp z with z | z
        · exact absurd (show (s.heap.objs.size : Nat) = s.heap.objs.size + 1 from z) (by omega)
        · exact Nat.ne_of_gt old (List.mem_singleton.mp z)
      have calm : A.in1.in1.in1.handled = none := by simp [hc]
      have vals : ∀ (i : Nat) (v : Value), us[i]? = some v → ∃ t x, xs[i]? = some x ∧ v = .str x t := fun i v hv => by
        have hi : i < xs.length := by
          rw [← hz]
          exact (Array.getElem?_eq_some_iff.mp hv).1
        obtain ⟨t, et⟩ := SS.strs_at ux i v (by rw [Array.getElem?_toList]; exact hv)
        refine ⟨t, xs[i], List.getElem?_eq_getElem hi, ?_⟩
        rw [et, List.getD_eq_getElem?_getD, List.getElem?_eq_getElem hi]
        rfl
      refine set_turns ((Walks.list calm _ l ne1 us).toS) (T := s.heap.objs.size) out hz.symm (by omega) vals us.size 0 _ (Nat.zero_add _) ⟨⟨_, Heap.get?_push_size _ rfl, rfl, rfl⟩, lu1.push _⟩ ?_ ?_
      · exact PyProof.Rows.SetOf_congr ((PyProof.Rows.setObjOf_fresh (knd := PySem.strKind prog w) led).setOf (Heap.get?_push_of_some _ at0) (by unfold scanBound; omega)) (fun _ => rfl) rfl
      · rintro ⟨h1, g1, d1, t1, o1⟩ mv S1
        obtain ⟨rfl, rfl, rfl⟩ : g1 = s.gens ∧ d1 = s.drawn ∧ o1 = s.os := ⟨mv.gens, mv.drawn, mv.os⟩
        change wpAny _ _ _ _ _ _
        apply wpAny_pure
        change wpAny _ _ (ret Value.none) _ _ _
        rw [hz] at S1
        refine wpAny_pure ⟨rfl, h1, t1, rfl, S1, fun b o lt hb => mv.heap b o (fun z => ?_) (Heap.get?_push_of_some _ (Heap.get?_push_of_some _ hb))⟩
        rcases List.mem_cons.mp z with z | z
        · exact absurd (show (b : Nat) = s.heap.objs.size from z) (by omega)
        · exact absurd (show (b : Nat) = (s.heap.push (newS led)).objs.size from List.mem_singleton.mp z) (by omega)
    · rintro (e | fl) z hr
      · exact hr
      cases fl with
      | ret v =>
        obtain ⟨rfl, h1, tk, rfl, S1, old⟩ := hr
        repeat (any_goals (first | assumption | wp_step))
        exact q h1 tk S1 old
      | _ => exact hr.elim
  | _ => exact hr.elim
end
/-- len(set(xs)), xs a list of texts -/
def tLenS (K : KW) (ta : TE) : TE := fun σ H Q => ta σ H fun x H1 => ∃ l, ∃ xs : List Str, x = .ref l ∧ SqL K H1 l (xs.map V.str) ∧ xs.length ≤ 4000 ∧ Q (.int (uniq xs).length) H1
theorem pe_lenS {X : Cx} {a : Expr} {ta : TE} {p p2 q pos : Pos} (hc : X.calm = true) (hg : Gl X "len") (hm : X.mg "len" = none) (hg2 : Gl X "set") (hm2 : X.mg "set" = none) (ha : PE X a ta)
    (na : starEach [a] X.env = (false, eval a X.env) :: starEach [] X.env := by rfl) : PE X (.Call (.Name "len" p) [.Call (.Name "set" p2) [a] [] q] [] pos) (tLenS X.kw ta) := by
  constructor
  intro pins s σ H Q I h
  apply Call_ (ld_blt I hg hm boot_len ?_)
  apply PyProof.Rows.callWith_builtin1 (PyProof.Rows.args_cons ?_ rfl) rfl rfl
  apply Call_ (ld_blt I hg2 hm2 boot_set ?_)
  refine PyProof.Rows.callWith_type1 (PyProof.Rows.args_cons (thn (ha.run pins s σ H _ I h) ?_) na) na rfl
  rintro v s1 ⟨x, H1, I1, r1, l, xs, rfl, hq, few, q1⟩
  apply PyProof.Rows.args_nil
  cases r1
  obtain ⟨its, r, pl, hz⟩ := I1.list hq
  refine set_of_texts (I1.ok.hd hc) pl.isList (by simpa using strsAre_of r) (by unfold scanBound; omega) fun h1 tk S1 old => ?_
  apply PyProof.Rows.args_nil
  rw [List.take_length] at S1
  obtain ⟨o, es, ep, t, ho, hex, hd, _, _, _, hf, hn⟩ := S1
  have few2 := uniq_le xs
  have I2 : Inv X pins σ H1 { s1 with heap := h1, toks := tk } := I1.kept fun b o e => old b o (Heap.lt_size e) e
  exact call_len_set ho hex hd hf (by rw [hn]; omega) ⟨.int (uniq xs).length, H1, I2.tok _, ⟨_, by rw [hn]⟩, q1⟩
/-! ### scalars seen through a view -/
section
variable {K : KW} {w : Wd} {p : PV} {v : V}
theorem vw_cell {n : Nat} {x : PyData} (e : vw w.h (.cell n) = some x) : (∃ ds, w.h[n]? = some (.lst ds) ∧ x = .list ds) ∨ ∃ kvs, w.h[n]? = some (.dct kvs) ∧ x = .dict kvs := by
  simp only [vw] at e
  split at e
  · rename_i ds hn
    cases e
    exact .inl ⟨ds, hn, rfl⟩
  · rename_i ds hn
    cases e
    exact .inr ⟨ds, hn, rfl⟩
  · cases e
theorem vw_tc {ps : List PV} {x : PyData} (e : vw w.h (.tc ps) = some x) : ∃ ds, vws w.h ps = some ds ∧ x = .tuple ds := by
  simp only [vw] at e
  split at e
  · rename_i ds hn
    cases e
    exact ⟨ds, hn, rfl⟩
  · cases e
theorem vw_kl {h : Hh} {ds : List PyData} {x : PyData} (e : vw h (.kl ds) = some x) : False := by
  simp only [vw] at e
  cases e
theorem vw_exc {h : Hh} {c : String} {x : PyData} (e : vw h (.exc c) = some x) : False := by
  simp only [vw] at e
  cases e
theorem vw_int {i : Int} (q : VR K w p v) (e : vw w.h p = some (.int i)) : v = .int i := by
  cases q with
  | d q =>
    simp only [vw] at e
    cases e
    cases q
    rfl
  | cell h ev => rcases vw_cell e with ⟨_, _, z⟩ | ⟨_, _, z⟩ <;> cases z
  | kl r s => exact (vw_kl e).elim
  | exc _ _ _ => exact (vw_exc e).elim
  | tc f r s =>
    obtain ⟨_, _, z⟩ := vw_tc e
    cases z
theorem vw_str {i : Str} (q : VR K w p v) (e : vw w.h p = some (.str i)) : v = .str i := by
  cases q with
  | d q =>
    simp only [vw] at e
    cases e
    cases q
    rfl
  | cell h ev => rcases vw_cell e with ⟨_, _, z⟩ | ⟨_, _, z⟩ <;> cases z
  | kl r s => exact (vw_kl e).elim
  | exc _ _ _ => exact (vw_exc e).elim
  | tc f r s =>
    obtain ⟨_, _, z⟩ := vw_tc e
    cases z
theorem vw_dict (ok : Ok K w) {kvs : List (PyData × PyData)} (q : VR K w p v) (e : vw w.h p = some (.dict kvs)) : ∃ a xs, v = .ref a ∧ Rd w.H a (.dK xs) ∧ Rpk K w.F w.H xs kvs := by
  cases q with
  | d q =>
    simp only [vw] at e
    cases e
    cases q with
    | dct f r s => exact ⟨_, _, rfl, r, s⟩
  | @cell n v h ev =>
    rcases vw_cell e with ⟨_, _, z⟩ | ⟨kvs', hn, z⟩
    · cases z
    · cases z
      obtain ⟨_, xs, hx, s⟩ := ok.cel n _ hn
      exact ⟨_, xs, ev, .inl hx, s⟩
  | kl r s => exact (vw_kl e).elim
  | exc _ _ _ => exact (vw_exc e).elim
  | tc f r s =>
    obtain ⟨_, _, z⟩ := vw_tc e
    cases z
/-- a tuple, whatever it holds -/
theorem vw_tupA (ok : Ok K w) {ds : List PyData} (q : VR K w p v) (e : vw w.h p = some (.tuple ds)) : ∃ a xs, v = .ref a ∧ SqT K w.H a xs ∧ xs.length = ds.length := by
  cases q with
  | d q =>
    simp only [vw] at e
    cases e
    obtain ⟨a, xs, e1, e2, e3⟩ := vw_tup ok q
    exact ⟨a, xs, e1, e2, e3.length⟩
  | cell h ev => rcases vw_cell e with ⟨_, _, z⟩ | ⟨_, _, z⟩ <;> cases z
  | kl r s => exact (vw_kl e).elim
  | exc _ _ _ => exact (vw_exc e).elim
  | @tc a xs ps f r s =>
    obtain ⟨es, hn, z⟩ := vw_tc e
    cases z
    refine ⟨a, xs, rfl, .inl r, ?_⟩
    rw [← s.length]
    have : ∀ (ps : List PV) (es : List PyData), vws w.h ps = some es → ps.length = es.length := by
      intro ps
      induction ps with
      | nil =>
        intro es e
        simp only [vws] at e
        cases e
        rfl
      | cons p r ih =>
        intro es e
        simp only [vws] at e
        split at e
        · rename_i h1 h2
          cases e
          rw [List.length_cons, List.length_cons, ih _ h2]
        · cases e
    exact this ps ds hn
end

section
variable {K : KW} {w : Wd} {Q : VK}
/-- a new list: fixed, or a place -/
theorem post_lst {c : Bool} {ds : List PyData} {xs : List V} {rv : PV} {h' : Hh} {q : Addr} (ok : Ok K w) (e : mkL c ds w.h = .ok rv h') (p : Post K w h' rv Q) (r : Rps K w.F w.H xs ds) (hq : w.H q = none) : Q (.ref q) (upd w.H q (.lst xs)) := by
  unfold mkL at e
  split at e
  · cases c with
    | false =>
      cases e
      exact p (w.fix q (.lst xs)) _ (Wd.fix_ext ok hq) (Wd.fix_ok ok hq) rfl (.d (.lst (.inl rfl) (.inl upd_same) (r.keep (Wd.fix_kp hq))))
    | true =>
      cases e
      refine p (w.new q (.lst xs) (.lst ds)) _ (Wd.new_ext ok hq) (Wd.new_ok ok hq ⟨ok.fresh hq, xs, upd_same, r.keep (Wd.new_kp hq)⟩) rfl (.cell ?_ ?_)
      · show w.h.length < (w.h ++ [Cl.lst ds]).length
        rw [List.length_append]
        exact Nat.lt_succ_self _
      · show _ = V.ref (if w.h.length = w.h.length then q else _)
        rw [if_pos rfl]
  · cases e
theorem mkL_le {c : Bool} {ds : List PyData} {rv : PV} {h h' : Hh} (e : mkL c ds h = .ok rv h') : ds.length ≤ sizeLine := by
  unfold mkL at e
  split at e
  · rename_i z
    rw [sizeLine_eq]
    exact z
  · cases e
theorem post_tup {ds : List PyData} {xs : List V} {q : Addr} (ok : Ok K w) (p : Post K w w.h (.d (.tuple ds)) Q) (r : Rps K w.F w.H xs ds) (hq : w.H q = none) : Q (.ref q) (upd w.H q (.tup xs)) :=
  p (w.fix q (.tup xs)) _ (Wd.fix_ext ok hq) (Wd.fix_ok ok hq) rfl (.d (.tup (.inl rfl) (.inl upd_same) (r.keep (Wd.fix_kp hq))))
theorem post_tc {ps : List PV} {xs : List V} {q : Addr} (ok : Ok K w) (p : Post K w w.h (.tc ps) Q) (r : VRs K w ps xs) (hq : w.H q = none) : Q (.ref q) (upd w.H q (.tup xs)) :=
  p (w.fix q (.tup xs)) _ (Wd.fix_ext ok hq) (Wd.fix_ok ok hq) rfl (.tc (.inl rfl) (.inl upd_same) (r.ext (Wd.fix_ext ok hq)))
theorem post_dct {ds : List (PyData × PyData)} {xs : List (Key × V)} {q : Addr} (ok : Ok K w) (p : Post K w w.h (.d (.dict ds)) Q) (r : Rpk K w.F w.H xs ds) (hq : w.H q = none) : Q (.ref q) (upd w.H q (.dK xs)) :=
  p (w.fix q (.dK xs)) _ (Wd.fix_ext ok hq) (Wd.fix_ok ok hq) rfl (.d (.dct (.inl rfl) (.inl upd_same) (r.keep (Wd.fix_kp hq))))
end

/-! ### operators -/
section
variable {X : Cx}
theorem Rd.lst {pins : List (Addr × Obj)} {σ : L2.St} {H : Hp} {s : Shared} {l : Addr} {xs : List V} (I : Inv X pins σ H s) (hH : Rd H l (.lst xs)) : xs.length ≤ sizeLine ∧ ∃ (its : List Value) (n : Nat), Vals xs its ∧ xs.length = its.length ∧ s.heap.get? l = some { cls := .type "list", data := .seq its.toArray n } := by
  obtain ⟨z, its, n, r, e⟩ := hH.ok I.hok
  exact ⟨z, its, n, r, r.length, e⟩
def rCatR : R2 := fun x y H Q => ∃ l b xs zs, x = .ref l ∧ y = .ref b ∧ Rd H l (.lst xs) ∧ Rd H b (.lst zs) ∧ xs.length + zs.length ≤ sizeLine ∧ ∀ p, H p = none → Q (.ref p) (upd H p (.lst (xs ++ zs)))
theorem op_catR : OpR X (binaryOp .Add) rCatR := by
  intro pins s σ H x y v u Q I rx ry h
  obtain ⟨l, b, xs, zs, rfl, rfl, hH, hB, hz, q⟩ := h
  cases rx
  cases ry
  obtain ⟨z, its, n, r, hl, e⟩ := Rd.lst I hH
  obtain ⟨z2, its2, n2, r2, hl2, e2⟩ := Rd.lst I hB
  refine PySem.P.add_list e e2 ?_ (by rw [List.size_toArray, List.size_toArray]; omega)
  rw [show its.toArray ++ its2.toArray = (its ++ its2).toArray by simp]
  exact ⟨.ref _, _, I.lnew (t' := s.toks) (r.append r2) (by rw [List.length_append]; omega), rfl, q _ I.fresh⟩
theorem le_line {n : Nat} (h : n ≤ line) : n ≤ sizeLine := by rw [sizeLine_eq]; exact h
theorem lt_line {n : Nat} (h : n < line) : n < sizeLine := by rw [sizeLine_eq]; exact h
/-- the list that the law was given, and one more -/
theorem op_catK : OpR X (binaryOp .Add) (fun x y H Q => ∃ l b xs zs, x = .ref l ∧ y = .ref b ∧ SqL X.K H l xs ∧ SqL X.K H b zs ∧ xs.length + zs.length ≤ sizeLine ∧ ∀ p, H p = none → Q (.ref p) (upd H p (.lst (xs ++ zs)))) := by
  intro pins s σ H x y v u Q I rx ry h
  obtain ⟨l, b, xs, zs, rfl, rfl, hA, hB, few, q⟩ := h
  cases rx
  cases ry
  obtain ⟨us, ra, pa, _⟩ := I.list hA
  obtain ⟨ws, rb, pb, _⟩ := I.list hB
  obtain ⟨⟨c1, d1, t1, s1⟩, o1, k1, n1, e1⟩ := pa.isList
  obtain ⟨⟨c2, d2, t2, s2⟩, o2, k2, n2, e2⟩ := pb.isList
  dsimp only at k1 e1 k2 e2
  cases k1
  cases e1
  cases k2
  cases e2
  have l1 := ra.length
  have l2 := rb.length
  refine concat_meets ⟨_, o1, rfl⟩ ⟨_, o2, rfl⟩ noFill_list_add seq_list_add PySem.F.slot_list_add PySem.F.entry_list_add (PySem.F.args_list_add_2 _ _)
    (list_addW l b us.toArray ws.toArray n1 n2 d1 d2 s1 s2 (by rw [List.size_toArray, List.size_toArray]; omega)) ⟨o1, o2, ?_⟩
  rw [show us.toArray ++ ws.toArray = (us ++ ws).toArray by simp]
  exact ⟨.ref _, _, I.lnew (t' := s.toks) (ra.append rb) (by rw [List.length_append]; omega), rfl, q _ I.fresh⟩
theorem o_add (c : Bool) : OpR X (binaryOp .Add) (r2 X.kw (addM c)) := by
  intro pins s σ H x y v u Q I rx ry h
  obtain ⟨w, a, b, rv, h', rfl, ok, ra, rb, e, p⟩ := h
  unfold addM at e
  split at e
  · rename_i ds es eb
    split at e
    · rename_i hl
      cases ra with
      | kl r qx =>
        obtain ⟨m, ys, rfl, hy, qy⟩ := vw_list ok rb eb
        exact op_catK pins s σ _ _ _ v u Q I rx ry ⟨_, m, _, ys, rfl, rfl, r.imp (fun z => z.2) (fun z => z), .inl hy, by rw [qx.length, qy.length]; exact le_line hl, fun q hq => post_lst ok e p (qx.append qy) hq⟩
    · cases e
  · rename_i i j eb ea
    cases e
    exact op_add pins s σ _ x y v u Q I rx ry ⟨i, j, vw_int ra ea, vw_int rb eb, p.same ok (.d (.int _))⟩
  · rename_i i j eb ea
    split at e
    · rename_i hl
      cases e
      exact op_add_str pins s σ _ x y v u Q I rx ry ⟨i, j, vw_str ra ea, vw_str rb eb, le_line hl, p.same ok (.d (.str _))⟩
    · cases e
  · rename_i ds es eb ea
    split at e
    · rename_i hl
      obtain ⟨l, xs, rfl, hx, qx⟩ := vw_list ok ra ea
      obtain ⟨m, ys, rfl, hy, qy⟩ := vw_list ok rb eb
      exact op_catR pins s σ _ _ _ v u Q I rx ry ⟨l, m, xs, ys, rfl, rfl, hx, hy, by rw [qx.length, qy.length]; exact le_line hl, fun q hq => post_lst ok e p (qx.append qy) hq⟩
    · cases e
  · rename_i ds es eb ea
    split at e
    · split at e
      · rename_i hl
        cases ra with
        | d ra =>
          cases rb with
          | d rb =>
            simp only [vw] at ea eb
            cases ea
            cases eb
            cases e
            obtain ⟨l, xs, rfl, hx, qx⟩ := vw_tup ok ra
            obtain ⟨m, ys, rfl, hy, qy⟩ := vw_tup ok rb
            refine op_catA pins s σ _ _ _ v u Q I rx ry ⟨l, m, xs, ys, rfl, rfl, hx, hy, by rw [qx.length, qy.length]; exact le_line hl, fun z => ?_, fun _ z => ?_, fun _ _ q hq => ?_⟩
            · subst z
              cases qx
              exact p.same ok (.d rb)
            · subst z
              cases qy
              rw [List.append_nil] at p
              exact p.same ok (.d ra)
            · exact post_tup ok p (qx.append qy) hq
      · cases e
    · cases e
  · cases e
theorem o_sub : OpR X (binaryOp .Sub) (r2 X.kw subM) := by
  intro pins s σ H x y v u Q I rx ry h
  obtain ⟨w, a, b, rv, h', rfl, ok, ra, rb, e, p⟩ := h
  unfold subM at e
  split at e
  · rename_i i j
    cases e
    exact op_sub pins s σ _ x y v u Q I rx ry ⟨i, j, vw_int ra rfl, vw_int rb rfl, p.same ok (.d (.int _))⟩
  · cases e
/-- a list so many times -/
theorem op_repR : OpR X (binaryOp .Mult) (fun x y H Q => ∃ l k xs, x = .ref l ∧ y = .int k ∧ Rd H l (.lst xs) ∧ 0 ≤ k ∧ k < 1000000 ∧ xs.length * k.toNat ≤ sizeLine ∧ ∀ p, H p = none → Q (.ref p) (upd H p (.lst (List.replicate k.toNat xs).flatten))) := by
  intro pins s σ H x y v u Q I rx ry h
  obtain ⟨l, k, xs, rfl, rfl, rd, k0, k1, few, q⟩ := h
  cases rx
  obtain ⟨tk, rfl⟩ := ry
  obtain ⟨_, us, m, ru, lu, at1⟩ := Rd.lst I rd
  have few2 : us.toArray.size * k.toNat ≤ sizeLine := by
    rw [List.size_toArray, ← lu]
    exact few
  have c1 : ¬ us.toArray.size * k.toNat > (2 ^ 63 - 1) / 8 := by
    rw [sizeLine_eq] at few2
    omega
  have c2 : ¬ (!Builtin.List.listFitsIndex k) = true := by
    rw [fitsIndex_both (by omega) (by omega)]
    simp
  have c3 : ¬ Builtin.List.listTooLong (us.toArray.size * k.toNat) = true := by
    rw [notLongL few2]
    simp
  have all : List.foldl (fun a b => a ++ b) #[] (List.replicate (if us.toArray.isEmpty = true then 0 else k.toNat) us.toArray) = (List.replicate k.toNat us).flatten.toArray := by
    have go : ∀ j : Nat, List.foldl (fun a b => a ++ b) #[] (List.replicate j us.toArray) = (List.replicate j us).flatten.toArray := fun j => by
      simpa using foldl_rep us j []
    rw [go]
    cases us with
    | nil => simp
    | cons a r => rw [if_neg (by simp)]
  refine wpAny_binaryOp_repeat_ref (T := "list") (U := "int") (by decide) ⟨_, at1, rfl⟩ (fun z => typeIs_int z k tk) noFill_list_mul PySem.F.fills_int_mul PySem.F.slot_int_rmul repeat_list PySem.F.slot_int_index.lookup ?_
  refine call_meets PySem.F.slot_int_rmul (typeIs_int s k tk) PySem.F.entry_int_rmul (PySem.F.args_int_rmul_2 _ _) (int___rmul___int_list k tk l us.toArray m) ⟨at1, rfl, ⟨_, at1, rfl⟩, ?_⟩
  refine call_meets PySem.F.slot_list_mul ⟨_, at1, rfl⟩ PySem.F.entry_list_mul (PySem.F.args_list_mul_2 _ _) (AutoListH.list___mul___list_int_3 l us.toArray m k tk c2 c1 c3) ⟨at1, ?_⟩
  rw [all]
  exact ⟨.ref _, _, I.lnew (t' := s.toks) (ru.rep k.toNat) (by rw [PyProof.Rows.lm_len_rep_flat, Nat.mul_comm]; exact few), rfl, q _ I.fresh⟩
theorem rep_rps {K : KW} {F : Addr → Prop} {H : Hp} {xs : List V} {ds : List PyData} (q : Rps K F H xs ds) : ∀ n : Nat, Rps K F H (List.replicate n xs).flatten (List.replicate n ds).flatten
  | 0 => .nil
  | n + 1 => by
    rw [List.replicate_succ, List.replicate_succ, List.flatten_cons, List.flatten_cons]
    exact q.append (rep_rps q n)
theorem o_mul : OpR X (binaryOp .Mult) (r2 X.kw mulM) := by
  intro pins s σ H x y v u Q I rx ry h
  obtain ⟨w, a, b, rv, h', rfl, ok, ra, rb, e, p⟩ := h
  unfold mulM at e
  split at e
  · rename_i i j
    split at e
    · rename_i hb
      cases e
      exact op_mulW pins s σ _ x y v u Q I rx ry ⟨i, j, vw_int ra rfl, vw_int rb rfl, hb, p.same ok (.d (.int _))⟩
    · cases e
  · rename_i ds j
    split at e
    · rename_i hb
      cases e
      obtain ⟨l, xs, rfl, hx, qx⟩ := vw_list ok ra rfl
      refine op_repR pins s σ _ _ y v u Q I rx ry ⟨l, j, xs, rfl, vw_int rb rfl, hx, hb.1, hb.2.1, by rw [qx.length]; exact le_line hb.2.2, fun q hq => ?_⟩
      exact post_lst (c := false) ok (by unfold mkL; rw [if_pos]; rfl; rw [PyProof.Rows.lm_len_rep_flat, Nat.mul_comm]; exact hb.2.2) p (rep_rps qx j.toNat) hq
    · cases e
  · cases e
theorem o_mod : OpR X (binaryOp .Mod) (r2 X.kw modM) := by
  intro pins s σ H x y v u Q I rx ry h
  obtain ⟨w, a, b, rv, h', rfl, ok, ra, rb, e, p⟩ := h
  unfold modM at e
  split at e
  · rename_i i j
    split at e
    · rename_i hb
      cases e
      exact op_mod pins s σ _ x y v u Q I rx ry ⟨i, j, vw_int ra rfl, vw_int rb rfl, hb, p.same ok (.d (.int _))⟩
    · cases e
  · cases e
theorem o_fdiv : OpR X (binaryOp .FloorDiv) (r2 X.kw fdivM) := by
  intro pins s σ H x y v u Q I rx ry h
  obtain ⟨w, a, b, rv, h', rfl, ok, ra, rb, e, p⟩ := h
  unfold fdivM at e
  split at e
  · rename_i i j
    split at e
    · rename_i hb
      cases e
      exact op_fdivW pins s σ _ x y v u Q I rx ry ⟨i, j, vw_int ra rfl, vw_int rb rfl, hb, p.same ok (.d (.int _))⟩
    · cases e
  · cases e
theorem o_pow : OpR X (binaryOp .Pow) (r2 X.kw powM) := by
  intro pins s σ H x y v u Q I rx ry h
  obtain ⟨w, a, b, rv, h', rfl, ok, ra, rb, e, p⟩ := h
  unfold powM at e
  split at e
  · rename_i i j
    split at e
    · rename_i hb
      cases e
      exact op_pow pins s σ _ x y v u Q I rx ry ⟨i, j, vw_int ra rfl, vw_int rb rfl, hb, p.same ok (.d (.int _))⟩
    · cases e
  · cases e
theorem o_neg : UnR X (unaryOp .USub) (r1 X.kw negM) := by
  intro pins s σ H x v Q I rx h
  obtain ⟨w, a, rv, h', rfl, ok, ra, e, p⟩ := h
  unfold negM at e
  split at e
  · rename_i i
    cases e
    exact un_neg pins s σ _ x v Q I rx ⟨i, vw_int ra rfl, p.same ok (.d (.int _))⟩
  · cases e
/-! ### comparisons -/
theorem o_eq (hu : X.A.units + 64 < cLine) : OpR X (compareOp .Eq) (r2 X.kw (eqM false)) := by
  intro pins s σ H x y v u Q I rx ry h
  obtain ⟨w, a, b, rv, h', rfl, ok, ra, rb, e, p⟩ := h
  unfold eqM at e
  split at e
  · rename_i d1 d2 ea eb
    split at e
    · rename_i hs
      unfold ok2 at hs
      rw [Bool.and_eq_true] at hs
      cases e
      exact op_eqD hu pins s σ _ x y v u Q I rx ry ⟨d1, d2, vw_dp ok ra ea (SeqAt.canLay_of_shaped hs.1), vw_dp ok rb eb (SeqAt.canLay_of_shaped hs.2), hs.1, hs.2, p.same ok (.d (.bl _))⟩
    · cases e
  · cases e
theorem o_ne (hu : X.A.units + 64 < cLine) : OpR X (compareOp .NotEq) (r2 X.kw (eqM true)) := by
  intro pins s σ H x y v u Q I rx ry h
  obtain ⟨w, a, b, rv, h', rfl, ok, ra, rb, e, p⟩ := h
  unfold eqM at e
  split at e
  · rename_i d1 d2 ea eb
    split at e
    · rename_i hs
      unfold ok2 at hs
      rw [Bool.and_eq_true] at hs
      cases e
      exact op_neD hu pins s σ _ x y v u Q I rx ry ⟨d1, d2, vw_dp ok ra ea (SeqAt.canLay_of_shaped hs.1), vw_dp ok rb eb (SeqAt.canLay_of_shaped hs.2), hs.1, hs.2, p.same ok (.d (.bl _))⟩
    · cases e
  · cases e
theorem o_cmp {op : CmpOp} {f : Int → Int → Bool} (o : OpR X (compareOp op) (rI0 fun i j => .bl (f i j))) : OpR X (compareOp op) (r2 X.kw (cmpM f)) := by
  intro pins s σ H x y v u Q I rx ry h
  obtain ⟨w, a, b, rv, h', rfl, ok, ra, rb, e, p⟩ := h
  unfold cmpM at e
  split at e
  · rename_i i j
    cases e
    exact o pins s σ _ x y v u Q I rx ry ⟨i, j, vw_int ra rfl, vw_int rb rfl, p.same ok (.d (.bl _))⟩
  · cases e
theorem isNone_eq {K : KW} {w : Wd} {a : PV} {x : V} (r : VR K w a x) : isNone a = decide (x = .non) := by
  cases r with
  | d q => cases q <;> rfl
  | cell h e => subst e; rfl
  | tc f r s => rfl
  | kl r s => rfl
  | exc _ _ _ => rfl
/-! ### in -/
theorem flat_of {K : KW} {F : Addr → Prop} {H : Hp} {v : V} {d : PyData} (r : Rp K F H v d) (h : flatD d = true) : flatV v = true := by
  cases r <;> first | rfl | cases h
theorem flats_of {K : KW} {F : Addr → Prop} {H : Hp} : ∀ {vs : List V} {ds : List PyData}, Rps K F H vs ds → ds.all flatD = true → vs.all flatV = true
  | _, _, .nil, _ => rfl
  | _, _, .cons a b, h => by
    rw [List.all_cons, Bool.and_eq_true] at h
    rw [List.all_cons, Bool.and_eq_true]
    exact ⟨flat_of a h.1, flats_of b h.2⟩
theorem eqV_of {K : KW} {F : Addr → Prop} {H : Hp} {v y : V} {d e : PyData} (r : Rp K F H v d) (q : Rp K F H y e) (h : flatD d = true) (k : flatD e = true) : eqV v y = PyData.eqv d e := by
  cases r <;> cases q <;> first | (simp [flatD] at h; done) | (simp [flatD] at k; done) | simp [eqV, PyData.eqv]
theorem inV_of {K : KW} {F : Addr → Prop} {H : Hp} {y : V} {e : PyData} (q : Rp K F H y e) (k : flatD e = true) : ∀ {vs : List V} {ds : List PyData}, Rps K F H vs ds → ds.all flatD = true → inV y vs = ds.any fun z => PyData.eqv z e
  | _, _, .nil, _ => rfl
  | _, _, .cons a b, h => by
    rw [List.all_cons, Bool.and_eq_true] at h
    have ih := inV_of q k b h.2
    unfold inV at ih ⊢
    rw [List.any_cons, List.any_cons, eqV_of a q h.1 k, ih]
/-- keys -/
def toKey : PyData → Option Key
  | .int i => some (.inl i)
  | .str x => some (.inr x)
  | _ => none
theorem key_rp {K : KW} {F : Addr → Prop} {H : Hp} {v : V} {d : PyData} (r : Rp K F H v d) (h : isKey d = true) : ∃ k, d = kD k ∧ v = kV k := by
  cases r <;> first | exact ⟨.inl _, rfl, rfl⟩ | exact ⟨.inr _, rfl, rfl⟩ | cases h
theorem eqv_kD (a b : Key) : PyData.eqv (kD a) (kD b) = decide (a = b) := by
  cases a with
  | inl i => cases b with
    | inl j =>
      simp only [kD, PyData.eqv, key_ll]
    | inr y =>
      simp only [kD, PyData.eqv, key_lr]
  | inr x => cases b with
    | inl j =>
      simp only [kD, PyData.eqv, key_rl]
    | inr y =>
      simp only [kD, PyData.eqv, key_rr]
      exact Bool.beq_eq_decide_eq x y
theorem dget_rp {K : KW} {F : Addr → Prop} {H : Hp} (k : Key) : ∀ {xs : List (Key × V)} {kvs : List (PyData × PyData)}, Rpk K F H xs kvs →
    (valV xs k = none ∧ dget kvs (kD k) = none) ∨ ∃ v d, valV xs k = some v ∧ dget kvs (kD k) = some d ∧ Rp K F H v d
  | _, _, .nil => .inl ⟨rfl, rfl⟩
  | _, _, .cons (k := k1) (v := v) (vs := vs) (d := d) (ds := ds) a b => by
    have e : dget ((kD k1, d) :: ds) (kD k) = if decide (k1 = k) = true then some d else dget ds (kD k) := by
      show (if PyData.eqv (kD k1) (kD k) = true then some d else dget ds (kD k)) = _
      rw [eqv_kD]
    rw [e]
    by_cases h : k1 = k
    · rw [valV_pos (p := (k1, v)) h, decide_eq_true h, if_pos rfl]
      exact .inr ⟨v, d, rfl, rfl, a⟩
    · rw [valV_neg (p := (k1, v)) h, decide_eq_false h, if_neg Bool.false_ne_true]
      exact dget_rp k b
theorem dput_rp {K : KW} {F : Addr → Prop} {H : Hp} (k : Key) {v : V} {d : PyData} (r : Rp K F H v d) : ∀ {xs : List (Key × V)} {kvs : List (PyData × PyData)}, (xs.map (·.1)).Nodup → Rpk K F H xs kvs → Rpk K F H (putK xs k v) (dput kvs (kD k) d) := by
  intro xs
  induction xs with
  | nil =>
    intro kvs _ q
    cases q
    exact .cons r .nil
  | cons p t ih =>
    intro kvs nd q
    cases q with
    | @cons k1 v1 vs d1 ds a b =>
      rw [List.map_cons, List.nodup_cons] at nd
      have e : dput ((kD k1, d1) :: ds) (kD k) d = if decide (k1 = k) = true then (kD k1, d) :: ds else (kD k1, d1) :: dput ds (kD k) d := by
        show (if PyData.eqv (kD k1) (kD k) = true then (kD k1, d) :: ds else _) = _
        rw [eqv_kD]
      rw [e]
      by_cases h : k1 = k
      · subst h
        rw [decide_eq_true rfl, if_pos rfl]
        have e2 : putK ((k1, v1) :: t) k1 v = (k1, v) :: t := by
          unfold putK
          have ha : (((k1, v1) :: t).any fun kv => decide (kv.1 = k1)) = true := by simp
          simp only [ha, if_true, List.map_cons]
          congr 1
          have : ∀ (l : List (Key × V)), k1 ∉ l.map (·.1) → l.map (fun kv => if kv.1 = k1 then (kv.1, v) else kv) = l := by
            intro l
            induction l with
            | nil => intro _; rfl
            | cons x l il =>
              intro hn
              rw [List.map_cons, List.mem_cons, not_or] at hn
              rw [List.map_cons, if_neg (fun z => hn.1 z.symm), il hn.2]
          exact this t nd.1
        rw [e2]
        exact .cons r b
      · rw [decide_eq_false h, if_neg Bool.false_ne_true]
        have e2 : putK ((k1, v1) :: t) k v = (k1, v1) :: putK t k v := by
          unfold putK
          have ha : (((k1, v1) :: t).any fun kv => decide (kv.1 = k)) = (t.any fun kv => decide (kv.1 = k)) := by
            rw [List.any_cons, decide_eq_false h, Bool.false_or]
          rw [ha]
          split
          · rw [List.map_cons, if_neg h]
          · rfl
        rw [e2]
        exact .cons a (ih nd.2 b)
theorem dput_len (k v : PyData) : ∀ kvs : List (PyData × PyData), (dput kvs k v).length ≤ kvs.length + 1
  | [] => Nat.le_refl _
  | p :: r => by
    unfold dput
    split
    · exact Nat.le_succ _
    · rw [List.length_cons, List.length_cons]
      exact Nat.succ_le_succ (dput_len k v r)
end
end PL

set_option maxRecDepth 100000
set_option maxHeartbeats 4000000
/-! PL4: subscripts, built-in calls and methods, by values. -/
namespace PL
open PySem PySem.Spec PyProof.Rows L2
section
variable {X : Cx}
theorem ati_eq {α : Type} (xs : List α) (i : Int) : ati xs i = atI xs i := by
  unfold ati atI
  show (match ixN xs.length i with | some j => xs[j]? | none => none) = _
  cases ixN xs.length i <;> rfl
theorem ati_get {K : KW} {F : Addr → Prop} {H : Hp} {xs : List V} {ds : List PyData} {i : Int} {d : PyData} (q : Rps K F H xs ds) (e : ati ds i = some d) : ∃ x, atI xs i = some x ∧ Rp K F H x d := by
  rw [ati_eq] at e
  unfold atI at e ⊢
  rw [q.length]
  cases hj : ixN ds.length i with
  | none => rw [hj] at e; cases e
  | some j =>
    rw [hj] at e
    exact q.get e
theorem ati_getV {K : KW} {w : Wd} {xs : List V} {ds : List PV} {i : Int} {d : PV} (q : VRs K w ds xs) (e : ati ds i = some d) : ∃ x, atI xs i = some x ∧ VR K w d x := by
  rw [ati_eq] at e
  unfold atI at e ⊢
  rw [← q.length]
  cases hj : ixN ds.length i with
  | none => rw [hj] at e; cases e
  | some j =>
    rw [hj] at e
    exact q.get e
theorem ix_dct (hu : X.A.units + 1 < cLine) : IxR X (fun x y H Q => ∃ a xs k v, x = .ref a ∧ y = kV k ∧ Rd H a (.dK xs) ∧ valV xs k = some v ∧ Q v H) := by
  intro value slice pins s σ H x y v u Q I rx ry h hs
  obtain ⟨a, xs, k, z, rfl, rfl, hd, hv, q⟩ := h
  obtain rfl : v = Value.ref a := rx
  have g : DGet H a (kV k) (some z) := .inl ⟨xs, k, hd, rfl, hv.symm⟩
  exact tail_any (dict_typeIs I g) PySem.F.slot_dict_getitem.lookup (d_getItem hu I g ry fun w' s3 I3 rw' => ⟨z, H, I3, rw', q⟩) hs
theorem pick_ok {o : Option PyData} {h h' : Hh} {rv : PV} (e : pick o h = .ok rv h') : ∃ x, o = some x ∧ rv = .d x ∧ h' = h := by
  cases o with
  | none => cases e
  | some x =>
    cases e
    exact ⟨x, rfl, rfl, rfl⟩
/-! ### keys that are tuples of whole numbers -/
mutual
theorem nkey_data : ∀ {d : PyData} {k : NK}, nkey d = some k → k.data = d
  | .int i, k, e => by
    simp only [nkey] at e
    cases e
    simp only [NestedKey.data]
  | .str x, k, e => by
    simp only [nkey] at e
    cases e
    simp only [NestedKey.data]
  | .none, k, e => by
    simp only [nkey] at e
    cases e
    simp only [NestedKey.data]
  | .tuple ds, k, e => by
    simp only [nkey] at e
    split at e
    · rename_i ks hk
      cases e
      simp only [NestedKey.data, nkeys_data hk]
    · cases e
  | .bool _, k, e => by simp [nkey] at e
  | .list _, k, e => by simp [nkey] at e
  | .dict _, k, e => by simp [nkey] at e
theorem nkeys_data : ∀ {ds : List PyData} {ks : List NK}, nkeys ds = some ks → NestedKey.datas ks = ds
  | [], ks, e => by
    simp only [nkeys] at e
    cases e
    simp only [NestedKey.datas]
  | d :: ds, ks, e => by
    simp only [nkeys] at e
    split at e
    · rename_i k1 ks1 h1 h2
      cases e
      simp only [NestedKey.datas, nkey_data h1, nkeys_data h2]
    · cases e
end
section
variable {pins : List (Addr × Obj)} {σ : L2.St} {F : Addr → Prop} {H : Hp} {s : Shared}
mutual
theorem nest_at (I : Inv X pins σ H s) : ∀ {k : NK} {v : V} {u : Value}, Rp X.kw F H v k.data → RelV v u → NestedIs s.heap k u
  | .num i, v, u, r, rv => by
    simp only [NestedKey.data] at r
    cases r
    obtain ⟨t, rfl⟩ := rv
    exact .int i t
  | .tup ks, v, u, r, rv => by
    simp only [NestedKey.data] at r
    have go : ∀ {l : Addr} {xs : List V}, SqT X.K H l xs → Rps X.kw F H xs (NestedKey.datas ks) → NestedIs s.heap (.tup ks) (.ref l) := fun hx q => by
      obtain ⟨its, rr, ⟨o, ho, hc, n, hd⟩, _⟩ := I.tuple hx
      exact .tup ho hc hd (by simpa using nests_at I q rr)
    cases r with
    | tup f r q =>
      obtain rfl : u = Value.ref _ := rv
      exact go (.inl r) q
    | tupK r q =>
      obtain rfl : u = Value.ref _ := rv
      exact go (.inr r) q
  | .none, v, u, r, rv => by
    simp only [NestedKey.data] at r
    cases r
    obtain rfl : u = Value.none := rv
    exact .none
  | .text x, v, u, r, rv => by
    simp only [NestedKey.data] at r
    cases r
    obtain ⟨t, rfl⟩ := rv
    exact .text x t
theorem nests_at (I : Inv X pins σ H s) : ∀ {ks : List NK} {vs : List V} {us : List Value}, Rps X.kw F H vs (NestedKey.datas ks) → Vals vs us → NestedAll s.heap ks us
  | [], _, _, r, rv => by
    simp only [NestedKey.datas] at r
    cases r
    cases rv
    exact .nil
  | k :: ks, _, _, r, rv => by
    simp only [NestedKey.datas] at r
    cases r with
    | cons a b =>
      cases rv with
      | cons c d => exact .cons (nest_at I a c) (nests_at I b d)
end
theorem keyN_at (I : Inv X pins σ H s) {d : PyData} {k : NK} (e : keyN d = some k) {v : V} {u : Value} (r : Rp X.kw F H v d) (rv : RelV v u) : ∃ b, v = .ref b ∧ u = .ref b ∧ k.data = d ∧ k.depth ≤ 8 ∧ KeyAt s.heap k b := by
  unfold keyN at e
  split at e
  · rename_i ks hk
    split at e
    · rename_i hd
      cases e
      have h1 := nkey_data hk
      rw [← h1] at r
      have n := nest_at I r rv
      cases n with
      | tup h3 h4 h5 h6 =>
        have r2 := r
        simp only [NestedKey.data] at r2
        cases r2 with
        | tup f r3 q =>
          cases rv
          exact ⟨_, rfl, rfl, h1, hd, .tup h3 h4 h5 h6, hd⟩
        | tupK r3 q =>
          cases rv
          exact ⟨_, rfl, rfl, h1, hd, .tup h3 h4 h5 h6, hd⟩
    · cases e
  · cases e
theorem Rpn.at (I : Inv X pins σ H s) {xs : List NEnt} {kvs : List (NK × PyData)} (r : Rpn X.kw F H xs kvs) : ∀ p ∈ xs, KeyAt s.heap p.1 p.2.1 := by
  unfold Rpn at r
  induction r with
  | nil => intro p hp; cases hp
  | cons q _ ih =>
    intro p hp
    rcases List.mem_cons.mp hp with rfl | hp
    · exact ⟨nest_at I q.2.2.1 rfl, q.2.1⟩
    · exact ih p hp
end
theorem Rpn.len {K : KW} {F : Addr → Prop} {H : Hp} {xs : List NEnt} {kvs : List (NK × PyData)} (r : Rpn K F H xs kvs) : xs.length = kvs.length := Paired.length r
theorem nfind_rpn {K : KW} {F : Addr → Prop} {H : Hp} {k : NK} : ∀ {xs : List NEnt} {kvs : List (NK × PyData)}, Rpn K F H xs kvs → (nfind xs k = none ∧ nget kvs k = none) ∨ ∃ v d, nfind xs k = some v ∧ nget kvs k = some d ∧ Rp K F H v d
  | _, _, .nil => .inl ⟨rfl, rfl⟩
  | p :: xs, y :: kvs, .cons q t => by
    by_cases c : p.1 = k
    · have c2 : y.1 = k := by rw [← q.1]; exact c
      exact .inr ⟨p.2.2, y.2, by rw [nfind, if_pos c], by rw [nget, if_pos c2], q.2.2.2⟩
    · have c2 : ¬ y.1 = k := by rw [← q.1]; exact c
      rw [nfind, if_neg c, nget, if_neg c2]
      exact nfind_rpn t
theorem nput_rpn {K : KW} {F : Addr → Prop} {H : Hp} {k : NK} {b : Addr} {v : V} {d : PyData} (pl : k.depth ≤ 8) (rb : Rp K F H (.ref b) k.data) (rv : Rp K F H v d) : ∀ {xs : List NEnt} {kvs : List (NK × PyData)}, Rpn K F H xs kvs → Rpn K F H (nput xs k b v) (nset kvs k d)
  | _, _, .nil => .cons ⟨rfl, pl, rb, rv⟩ .nil
  | p :: xs, y :: kvs, .cons q t => by
    by_cases c : p.1 = k
    · have c2 : y.1 = k := by rw [← q.1]; exact c
      rw [nput, if_pos c, nset, if_pos c2]
      exact .cons ⟨q.1, q.2.1, q.2.2.1, rv⟩ t
    · have c2 : ¬ y.1 = k := by rw [← q.1]; exact c
      rw [nput, if_neg c, nset, if_neg c2]
      exact .cons q (nput_rpn pl rb rv t)
theorem vw_dcn {h : Hh} {n : Nat} {kvs : List (NK × PyData)} (e : h[n]? = some (.dcn kvs)) : vw h (.cell n) = none := by
  simp only [vw, e]
/-- the data's own index -/
theorem idxD_ok (hu : X.A.units + 1 < cLine) {value slice : Expr} {pins : List (Addr × Obj)} {s : Shared} {σ : L2.St} {w : Wd} {x y : V} {v u : Value} {Q : VK} (I : Inv X pins σ w.H s) (rx : RelV x v) (ry : RelV y u) {a b : PyData} {rv : PV} {h' : Hh} (ok : Ok X.kw w)
    (hl : ∀ ds, a = .list ds → ∃ l xs, x = .ref l ∧ Rd w.H l (.lst xs) ∧ Rps X.kw w.F w.H xs ds) (ht : ∀ ds, a = .tuple ds → ∃ l xs, x = .ref l ∧ SqT X.K w.H l xs ∧ Rps X.kw w.F w.H xs ds)
    (hdc : ∀ ds, a = .dict ds → ∃ l xs, x = .ref l ∧ Rd w.H l (.dK xs) ∧ Rpk X.kw w.F w.H xs ds) (rb : Rp X.kw w.F w.H y b) (e : idxD a b w.h = .ok rv h') (p : Post X.kw w h' rv Q)
    (hs : subscripted slice false v u = operate [v, u] (getItem v u)) : wpAny (model X.prog X.w) X.A (subscriptTail value slice v u) (EP X pins σ Q) X.xe s := by
  unfold idxD at e
  split at e
  · rename_i ds k
    obtain ⟨d, e1, rfl, rfl⟩ := pick_ok e
    obtain ⟨l, xs, rfl, hx, q⟩ := hl _ rfl
    obtain ⟨z, ez, qz⟩ := ati_get q e1
    cases rb
    exact ix_list value slice pins s σ _ _ _ v u Q I rx ry ⟨l, xs, k, z, rfl, rfl, .inl hx, ez, p.same ok (.d qz)⟩ hs
  · rename_i ds k
    obtain ⟨d, e1, rfl, rfl⟩ := pick_ok e
    obtain ⟨l, xs, rfl, hx, q⟩ := ht _ rfl
    obtain ⟨z, ez, qz⟩ := ati_get q e1
    cases rb
    exact ix_tup value slice pins s σ _ _ _ v u Q I rx ry ⟨l, xs, k, z, rfl, rfl, hx, ez, p.same ok (.d qz)⟩ hs
  · rename_i kvs
    split at e
    · rename_i hk
      obtain ⟨d, e1, rfl, rfl⟩ := pick_ok e
      obtain ⟨l, xs, rfl, hx, q⟩ := hdc _ rfl
      obtain ⟨k, rfl, rfl⟩ := key_rp rb hk
      rcases dget_rp k q with ⟨_, z⟩ | ⟨z, d', h1, h2, h3⟩
      · rw [z] at e1
        cases e1
      · rw [h2] at e1
        cases e1
        exact ix_dct hu value slice pins s σ _ _ _ v u Q I rx ry ⟨l, xs, k, z, rfl, rfl, hx, h1, p.same ok (.d h3)⟩ hs
    · cases e
  · cases e
theorem o_idx (hu9 : X.A.units + 64 < cLine) : IxR X (r2 X.kw idxM) := by
  have hu : X.A.units + 1 < cLine := by omega
  intro value slice pins s σ H x y v u Q I rx ry h hs
  obtain ⟨w, a, b, rv, h', rfl, ok, ra, rb, e, p⟩ := h
  unfold idxM at e
  split at e
  · rename_i ps k
    split at e
    · rename_i z ez
      cases e
      cases ra with
      | tc f r q =>
        obtain ⟨zv, e1, q1⟩ := ati_getV q ez
        cases rb with
        | d rb =>
          cases rb
          exact ix_tup value slice pins s σ _ _ _ v u Q I rx ry ⟨_, _, k, zv, rfl, rfl, .inl r, e1, p.same ok q1⟩ hs
    · cases e
  · rename_i ds k
    obtain ⟨d, e1, rfl, rfl⟩ := pick_ok e
    cases ra with
    | kl r q =>
      obtain ⟨z, ez, qz⟩ := ati_get q e1
      cases rb with
      | d rb =>
        cases rb
        exact ix_list value slice pins s σ _ _ _ v u Q I rx ry ⟨_, _, k, z, rfl, rfl, r.imp (fun z => z.2) (fun z => z), ez, p.same ok (.d qz)⟩ hs
  · rename_i a' i
    cases ra with
    | d ra =>
      cases rb with
      | d rb =>
        exact idxD_ok hu I rx ry ok (fun ds z => vw_list ok (p := .d _) (.d ra) (by rw [z]; rfl)) (fun ds z => vw_tup ok (by rw [← z]; exact ra)) (fun ds z => vw_dict ok (p := .d _) (.d ra) (by rw [z]; rfl)) rb e p hs
  · rename_i n i
    cases rb with
    | d rb =>
      split at e
      · rename_i ds hn
        have hv : vw w.h (.cell n) = some (.list ds) := by simp only [vw, hn]
        refine idxD_ok hu I rx ry ok (fun es z => ?_) (fun es z => by cases z) (fun es z => by cases z) rb e p hs
        cases z
        exact vw_list ok ra hv
      · rename_i ds hn
        have hv : vw w.h (.cell n) = some (.dict ds) := by simp only [vw, hn]
        refine idxD_ok hu I rx ry ok (fun es z => by cases z) (fun es z => by cases z) (fun es z => ?_) rb e p hs
        cases z
        exact vw_dict ok ra hv
      · rename_i kvs hn
        split at e
        · rename_i k hk
          obtain ⟨d, e1, rfl, rfl⟩ := pick_ok e
          cases ra with
          | cell hlt ev =>
            subst ev
            obtain rfl : v = Value.ref (w.r n) := rx
            obtain ⟨nf, xs, hx, q⟩ := (show ClOk X.kw w (w.r n) (.dcn kvs) from ok.cel n _ hn)
            obtain ⟨b, rfl, rfl, h1, h2, ky⟩ := keyN_at I hk rb ry
            rcases nfind_rpn (k := k) q with ⟨z1, z2⟩ | ⟨z, d', z1, z2, z3⟩
            · rw [z2] at e1
              cases e1
            · rw [z2] at e1
              cases e1
              have ty : s.TypeIs (.ref (w.r n)) "dict" := by
                obtain ⟨_, _, _, o, _, _, ho, ex, _⟩ := ndo_at I hx
                exact ⟨o, ho, ex.1⟩
              exact tail_any ty PySem.F.slot_dict_getitem.lookup (nd_get (by show X.A.units + 9 < cLine; omega) I hx (q.at I) ky z1 fun u' s3 I3 r3 => ⟨z, w.H, I3, r3, p.same ok (.d z3)⟩) hs
        · cases e
      · cases e
  · cases e
/-! ### slices -/
theorem six_eq (n d : Nat) (o : Option Int) : six n d o = HT.sIx n d o := by
  cases o <;> rfl
theorem cut_rps {K : KW} {F : Addr → Prop} {H : Hp} {xs : List V} {ds : List PyData} {lo hi : Option Int} (q : Rps K F H xs ds) : Rps K F H (cutV xs lo hi) (cut ds lo hi) := by
  unfold cutV cut
  simp only [six_eq]
  rw [q.length]
  exact (q.drop _).take _
def rSlc (K : KW) (c : Bool) : V → Option Int → Option Int → Hp → VK → Prop := fun x lo hi H Q => ∃ (w : Wd) (a rv : PV) (h' : Hh), w.H = H ∧ Ok K w ∧ VR K w a x ∧ slcM c a lo hi w.h = .ok rv h' ∧ Post K w h' rv Q
theorem cut_whole {ds : List PyData} {lo hi : Option Int} (h : HT.sIx ds.length 0 lo = 0 ∧ HT.sIx ds.length ds.length hi = ds.length) : cut ds lo hi = ds := by
  unfold cut
  simp only [six_eq, h.1, h.2, List.drop_zero, Nat.sub_zero, List.take_length]
theorem o_slc (c : Bool) : SlR X (rSlc X.kw c) := by
  intro pins s σ H x v vl vu lo hi sl Q I rx hs pl pu h
  refine (SlR.or sl_list sl_tupA) pins s σ H x v vl vu lo hi sl Q I rx hs pl pu ?_
  obtain ⟨w, a, rv, h', rfl, ok, ra, e, p⟩ := h
  unfold slcM at e
  split at e
  · rename_i ds
    cases ra with
    | kl r q => exact .inl ⟨_, _, rfl, r.imp (fun z => z.2) (fun z => z), fun z hz => post_lst ok e p (cut_rps q) hz⟩
  split at e
  · rename_i ds ea
    obtain ⟨l, xs, rfl, hx, q⟩ := vw_list ok ra ea
    exact .inl ⟨l, xs, rfl, .inl hx, fun z hz => post_lst ok e p (cut_rps q) hz⟩
  · rename_i ds ea
    split at e
    · cases ra with
      | d ra =>
        simp only [vw] at ea
        cases ea
        cases e
        obtain ⟨l, xs, rfl, hx, q⟩ := vw_tup ok ra
        refine .inr ⟨l, xs, rfl, hx, fun hw => ?_, fun _ z hz => post_tup ok p (cut_rps q) hz⟩
        rw [q.length] at hw
        rw [cut_whole hw] at p
        exact p.same ok (.d ra)
    · cases e
  · cases e
/-! ### in -/
theorem o_in (hu : X.A.units + 65 < cLine) : OpR X (compareOp .In) (r2 X.kw (inM false)) := by
  intro pins s σ H x y v u Q I rx ry h
  obtain ⟨w, a, b, rv, h', rfl, ok, ra, rb, e, p⟩ := h
  unfold inM at e
  split at e
  · cases e
  · rename_i x' y' hnt hy
    split at e
    · rename_i k hk
      cases e
      cases ra with
      | d ra =>
        unfold inD at hk
        split at hk
        · rename_i ds
          split at hk
          · rename_i hs
            unfold ok2 at hs
            rw [Bool.and_eq_true] at hs
            cases hk
            exact op_inD hu pins s σ _ x y v u Q I rx ry ⟨x', ds, ra.dp (SeqAt.canLay_of_shaped hs.1), vw_dp ok rb hy (SeqAt.canLay_of_shaped hs.2), hs.1, hs.2, p.same ok (.d (.bl _))⟩
          · cases hk
        · rename_i ds
          split at hk
          · rename_i hs
            rw [Bool.and_eq_true] at hs
            cases hk
            cases rb with
            | d rb =>
              simp only [vw] at hy
              cases hy
              obtain ⟨l, xs, rfl, hx, q⟩ := vw_tup ok rb
              refine op_in_seq pins s σ _ x _ v u Q I rx ry ⟨l, xs, rfl, .inr hx, flat_of ra hs.1, flats_of q hs.2, ?_⟩
              rw [if_neg Bool.false_ne_true, inV_of ra hs.1 q hs.2]
              exact p.same ok (.d (.bl _))
            | cell _ _ => rcases vw_cell hy with ⟨_, _, z⟩ | ⟨_, _, z⟩ <;> cases z
            | tc f r q => exact absurd rfl (hnt _)
            | kl r q => exact (vw_kl (by assumption)).elim
            | exc _ _ _ => exact (vw_exc (by assumption)).elim
          · cases hk
        · rename_i kvs
          split at hk
          · rename_i hkey
            cases hk
            obtain ⟨l, xs, rfl, hd, q⟩ := vw_dict ok rb hy
            obtain ⟨k, rfl, rfl⟩ := key_rp ra hkey
            obtain rfl : u = Value.ref l := ry
            refine d_in (by omega) I (.inl ⟨xs, k, hd, rfl, rfl⟩) rx fun s' I' => ⟨.bl _, w.H, I', rfl, ?_⟩
            rcases dget_rp k q with ⟨z1, z2⟩ | ⟨z, d', h1, h2, h3⟩
            · rw [z2] at p
              rw [z1]
              exact p.same ok (.d (.bl _))
            · rw [h2] at p
              rw [h1]
              exact p.same ok (.d (.bl _))
          · cases hk
        · cases hk
    · cases e
  · rename_i a' n hy
    split at e
    · rename_i kvs hn
      split at e
      · rename_i k hk
        cases e
        cases ra with
        | d ra =>
          cases rb with
          | cell hlt ev =>
            subst ev
            obtain rfl : u = Value.ref (w.r n) := ry
            obtain ⟨nf, xs, hx, q⟩ := (show ClOk X.kw w (w.r n) (.dcn kvs) from ok.cel n _ hn)
            obtain ⟨b, rfl, rfl, h1, h2, ky⟩ := keyN_at I hk ra rx
            refine nd_in (by omega) I hx (q.at I) ky fun s' I' => ⟨.bl ((nfind xs k).isSome), w.H, I', rfl, ?_⟩
            rcases nfind_rpn (k := k) q with ⟨z1, z2⟩ | ⟨z, d', z1, z2, z3⟩
            · rw [z2] at p
              rw [z1]
              exact p.same ok (.d (.bl _))
            · rw [z2] at p
              rw [z1]
              exact p.same ok (.d (.bl _))
      · cases e
    · cases e
  · cases e
theorem o_notIn (hu : X.A.units + 65 < cLine) : OpR X (compareOp .NotIn) (r2 X.kw (inM true)) := by
  intro pins s σ H x y v u Q I rx ry h
  obtain ⟨w, a, b, rv, h', rfl, ok, ra, rb, e, p⟩ := h
  unfold inM at e
  split at e
  · cases e
  · rename_i x' y' hnt hy
    split at e
    · rename_i k hk
      cases e
      cases ra with
      | d ra =>
        unfold inD at hk
        split at hk
        · rename_i ds
          split at hk
          · rename_i hs
            unfold ok2 at hs
            rw [Bool.and_eq_true] at hs
            cases hk
            exact op_notInD hu pins s σ _ x y v u Q I rx ry ⟨x', ds, ra.dp (SeqAt.canLay_of_shaped hs.1), vw_dp ok rb hy (SeqAt.canLay_of_shaped hs.2), hs.1, hs.2, p.same ok (.d (.bl _))⟩
          · cases hk
        · rename_i ds
          split at hk
          · rename_i hs
            rw [Bool.and_eq_true] at hs
            cases hk
            cases rb with
            | d rb =>
              simp only [vw] at hy
              cases hy
              obtain ⟨l, xs, rfl, hx, q⟩ := vw_tup ok rb
              refine op_notIn_seq pins s σ _ x _ v u Q I rx ry ⟨l, xs, rfl, .inr hx, flat_of ra hs.1, flats_of q hs.2, ?_⟩
              rw [if_pos rfl, inV_of ra hs.1 q hs.2]
              exact p.same ok (.d (.bl _))
            | cell _ _ => rcases vw_cell hy with ⟨_, _, z⟩ | ⟨_, _, z⟩ <;> cases z
            | tc f r q => exact absurd rfl (hnt _)
            | kl r q => exact (vw_kl (by assumption)).elim
            | exc _ _ _ => exact (vw_exc (by assumption)).elim
          · cases hk
        · rename_i kvs
          split at hk
          · rename_i hkey
            cases hk
            obtain ⟨l, xs, rfl, hd, q⟩ := vw_dict ok rb hy
            obtain ⟨k, rfl, rfl⟩ := key_rp ra hkey
            obtain rfl : u = Value.ref l := ry
            refine d_notIn (by omega) I (.inl ⟨xs, k, hd, rfl, rfl⟩) rx fun s' I' => ⟨.bl _, w.H, I', rfl, ?_⟩
            rcases dget_rp k q with ⟨z1, z2⟩ | ⟨z, d', h1, h2, h3⟩
            · rw [z2] at p
              rw [z1]
              exact p.same ok (.d (.bl _))
            · rw [h2] at p
              rw [h1]
              exact p.same ok (.d (.bl _))
          · cases hk
        · cases hk
    · cases e
  · rename_i a' n hy
    split at e
    · rename_i kvs hn
      split at e
      · rename_i k hk
        cases e
        cases ra with
        | d ra =>
          cases rb with
          | cell hlt ev =>
            subst ev
            obtain rfl : u = Value.ref (w.r n) := ry
            obtain ⟨nf, xs, hx, q⟩ := (show ClOk X.kw w (w.r n) (.dcn kvs) from ok.cel n _ hn)
            obtain ⟨b, rfl, rfl, h1, h2, ky⟩ := keyN_at I hk ra rx
            refine nd_notIn (by omega) I hx (q.at I) ky fun s' I' => ⟨.bl (!(nfind xs k).isSome), w.H, I', rfl, ?_⟩
            rcases nfind_rpn (k := k) q with ⟨z1, z2⟩ | ⟨z, d', z1, z2, z3⟩
            · rw [z2] at p
              rw [z1]
              exact p.same ok (.d (.bl _))
            · rw [z2] at p
              rw [z1]
              exact p.same ok (.d (.bl _))
      · cases e
    · cases e
  · cases e
/-! ### calls -/
theorem rs1 {K : KW} {p : Prim} {m : PV → Hh → Out PV} {xs : List V} {H : Hp} {Q : VK} (hm : ∀ vs h, primM p vs h = match vs with | [x] => m x h | _ => .stuck) (h : rs K (primM p) xs H Q) :
    ∃ (w : Wd) (a rv : PV) (x : V) (h' : Hh), xs = [x] ∧ w.H = H ∧ Ok K w ∧ VR K w a x ∧ m a w.h = .ok rv h' ∧ Post K w h' rv Q := by
  obtain ⟨w, as, rv, h', e0, ok, ra, e, p⟩ := h
  rw [hm] at e
  split at e
  · cases ra with
    | cons r t =>
      cases t
      exact ⟨w, _, rv, _, h', rfl, e0, ok, r, e, p⟩
  · cases e
theorem rs2 {K : KW} {p : Prim} {m : PV → PV → Hh → Out PV} {xs : List V} {H : Hp} {Q : VK} (hm : ∀ vs h, primM p vs h = match vs with | [x, y] => m x y h | _ => .stuck) (h : rs K (primM p) xs H Q) :
    ∃ (w : Wd) (a b rv : PV) (x y : V) (h' : Hh), xs = [x, y] ∧ w.H = H ∧ Ok K w ∧ VR K w a x ∧ VR K w b y ∧ m a b w.h = .ok rv h' ∧ Post K w h' rv Q := by
  obtain ⟨w, as, rv, h', e0, ok, ra, e, p⟩ := h
  rw [hm] at e
  split at e
  · cases ra with
    | cons r t =>
      cases t with
      | cons r2 t =>
        cases t
        exact ⟨w, _, _, rv, _, _, h', rfl, e0, ok, r, r2, e, p⟩
  · cases e
theorem hm1 {p : Prim} {m : PV → Hh → Out PV} (h0 : ∀ h, primM p [] h = .stuck) (h1 : ∀ x h, primM p [x] h = m x h) (h2 : ∀ x y r h, primM p (x :: y :: r) h = .stuck) : ∀ vs h, primM p vs h = match vs with | [x] => m x h | _ => .stuck
  | [], h => h0 h
  | [x], h => h1 x h
  | x :: y :: r, h => h2 x y r h
theorem hm2 {p : Prim} {m : PV → PV → Hh → Out PV} (h0 : ∀ h, primM p [] h = .stuck) (h1 : ∀ x h, primM p [x] h = .stuck) (h2 : ∀ x y h, primM p [x, y] h = m x y h) (h3 : ∀ x y z r h, primM p (x :: y :: z :: r) h = .stuck) :
    ∀ vs h, primM p vs h = match vs with | [x, y] => m x y h | _ => .stuck
  | [], h => h0 h
  | [x], h => h1 x h
  | [x, y], h => h2 x y h
  | x :: y :: z :: r, h => h3 x y z r h
theorem c_len : CallR X (.builtin "len") (rs X.kw (primM .len)) := by
  intro pins s σ H xs us Q I rx h
  obtain ⟨w, a, rv, x, h', rfl, rfl, ok, ra, e, p⟩ := rs1 (m := lenM) (hm1 (fun _ => rfl) (fun _ _ => rfl) fun _ _ _ _ => rfl) h
  unfold lenM at e
  split at e
  · cases e
    cases ra with
    | tc f r q =>
      rw [q.length] at p
      exact call_len_seq pins s σ _ _ us Q I rx ⟨_, _, rfl, .inr (.inl r), p.same ok (.d (.int _))⟩
  · cases e
    cases ra with
    | kl r q =>
      rw [← q.length] at p
      exact call_len_seq pins s σ _ _ us Q I rx ⟨_, _, rfl, .inl (r.imp (fun z => z.2) (fun z => z)), p.same ok (.d (.int _))⟩
  · split at e
    · rename_i z ea
      split at e
      · rename_i hl
        cases e
        have ex := vw_str ra ea
        subst ex
        exact call_len_str pins s σ _ _ us Q I rx ⟨z, rfl, le_line hl, p.same ok (.d (.int _))⟩
      · cases e
    · rename_i ds ea
      cases e
      obtain ⟨l, ys, rfl, hx, q⟩ := vw_list ok ra ea
      rw [← q.length] at p
      exact call_len_seq pins s σ _ _ us Q I rx ⟨l, ys, rfl, .inl (.inl hx), p.same ok (.d (.int _))⟩
    · rename_i ds ea
      cases e
      obtain ⟨l, ys, rfl, hx, q⟩ := vw_tupA ok ra ea
      rw [← q] at p
      exact call_len_seq pins s σ _ _ us Q I rx ⟨l, ys, rfl, .inr hx, p.same ok (.d (.int _))⟩
    · rename_i ds ea
      cases e
      obtain ⟨l, ys, rfl, hx, q⟩ := vw_dict ok ra ea
      rw [← q.length] at p
      obtain ⟨u, rfl, ru⟩ := vals1 rx
      obtain rfl : u = Value.ref l := ru
      exact d_len I hx fun t s' I' => ⟨.int _, w.H, I', ⟨t, rfl⟩, p.same ok (.d (.int _))⟩
    · cases e
    · split at e
      · rename_i n _ _ _ _ _
        split at e
        · rename_i kvs hn
          split at e
          case isFalse => cases e
          rename_i few
          cases e
          cases ra with
          | cell hlt ev =>
            subst ev
            obtain ⟨u, rfl, ru⟩ := vals1 rx
            obtain rfl : u = Value.ref _ := ru
            obtain ⟨nf, xs, hx, q⟩ := (show ClOk X.kw w (w.r _) (.dcn kvs) from ok.cel _ _ hn)
            rw [← q.len] at p few
            exact nd_len I hx (q.at I) (le_line few) fun t s' I' => ⟨.int _, w.H, I', ⟨t, rfl⟩, p.same ok (.d (.int _))⟩
        · cases e
      · cases e
theorem txts_rps {K : KW} {F : Addr → Prop} {H : Hp} : ∀ {ys : List V} {ds : List PyData} {xs : List Str}, Rps K F H ys ds → txts ds = some xs → ys = xs.map V.str
  | _, _, _, .nil, e => by
    cases e
    rfl
  | _, _, _, .cons a b, e => by
    cases a with
    | str x =>
      rw [txts] at e
      split at e
      · rename_i ys e1
        cases e
        rw [txts_rps b e1]
        rfl
      · cases e
    | _ => simp [txts] at e
theorem c_min2 (hc : X.calm = true) : CallR X (.builtin "min") (rs X.kw (primM .min2)) := by
  intro pins s σ H xs us Q I rx h
  obtain ⟨w, a, b, rv, x, y, h', rfl, rfl, ok, ra, rb, e, p⟩ := rs2 (m := min2M) (hm2 (fun _ => rfl) (fun _ _ => rfl) (fun _ _ _ => rfl) fun _ _ _ _ _ => rfl) h
  unfold min2M at e
  split at e
  · cases e
    exact call_min2 hc pins s σ _ _ us Q I rx ⟨_, _, by rw [vw_int ra rfl, vw_int rb rfl], p.same ok (.d (.int _))⟩
  · cases e
theorem c_max2 (hc : X.calm = true) : CallR X (.builtin "max") (rs X.kw (primM .max2)) := by
  intro pins s σ H xs us Q I rx h
  obtain ⟨w, a, b, rv, x, y, h', rfl, rfl, ok, ra, rb, e, p⟩ := rs2 (m := max2M) (hm2 (fun _ => rfl) (fun _ _ => rfl) (fun _ _ _ => rfl) fun _ _ _ _ _ => rfl) h
  unfold max2M at e
  split at e
  · cases e
    exact call_max2 hc pins s σ _ _ us Q I rx ⟨_, _, by rw [vw_int ra rfl, vw_int rb rfl], p.same ok (.d (.int _))⟩
  · cases e
theorem c_abs : CallR X (.builtin "abs") (rs X.kw (primM .abs)) := by
  intro pins s σ H xs us Q I rx h
  obtain ⟨w, a, rv, x, h', rfl, rfl, ok, ra, e, p⟩ := rs1 (m := absM) (hm1 (fun _ => rfl) (fun _ _ => rfl) fun _ _ _ _ => rfl) h
  unfold absM at e
  split at e
  · cases e
    exact call_abs pins s σ _ _ us Q I rx ⟨_, by rw [vw_int ra rfl], p.same ok (.d (.int _))⟩
  · cases e
theorem c_list (c : Bool) : CallR X (.type "list") (rs X.kw (primM (.listOf c))) := by
  intro pins s σ H xs us Q I rx h
  obtain ⟨w, a, rv, x, h', rfl, rfl, ok, ra, e, p⟩ := rs1 (m := listOfM c) (hm1 (fun _ => rfl) (fun _ _ => rfl) fun _ _ _ _ => rfl) h
  unfold listOfM at e
  split at e
  · cases e
  · rename_i ds hnt ea
    obtain ⟨l, ys, rfl, hx, q⟩ := vw_list ok ra ea
    exact call_list_of pins s σ _ _ us Q I rx ⟨l, ys, rfl, .inl (.inl hx), fun z hz => post_lst ok e p q hz⟩
  · rename_i ds hnt ea
    cases ra with
    | d ra =>
      simp only [vw] at ea
      cases ea
      obtain ⟨l, ys, rfl, hx, q⟩ := vw_tup ok ra
      exact call_list_of pins s σ _ _ us Q I rx ⟨l, ys, rfl, .inr hx, fun z hz => post_lst ok e p q hz⟩
    | cell _ _ => rcases vw_cell ea with ⟨_, _, z⟩ | ⟨_, _, z⟩ <;> cases z
    | tc f r q => exact absurd rfl (hnt _)
    | kl r q => exact (vw_kl (by assumption)).elim
    | exc _ _ _ => exact (vw_exc (by assumption)).elim
  · cases e
theorem c_tuple : CallR X (.type "tuple") (rs X.kw (primM .tupOf)) := by
  intro pins s σ H xs us Q I rx h
  obtain ⟨w, a, rv, x, h', rfl, rfl, ok, ra, e, p⟩ := rs1 (m := tupOfM) (hm1 (fun _ => rfl) (fun _ _ => rfl) fun _ _ _ _ => rfl) h
  unfold tupOfM at e
  split at e
  · cases e
  · rename_i ds hnt ea
    cases e
    obtain ⟨l, ys, rfl, hx, q⟩ := vw_list ok ra ea
    exact call_tuple_of pins s σ _ _ us Q I rx ⟨l, ys, rfl, .inl ⟨.inl hx, fun z hz => post_tup ok p q hz⟩⟩
  · rename_i ds hnt ea
    cases e
    cases ra with
    | d ra =>
      simp only [vw] at ea
      cases ea
      obtain ⟨l, ys, rfl, hx, q⟩ := vw_tup ok ra
      exact call_tuple_of pins s σ _ _ us Q I rx ⟨l, ys, rfl, .inr ⟨hx, p.same ok (.d ra)⟩⟩
    | cell _ _ => rcases vw_cell ea with ⟨_, _, z⟩ | ⟨_, _, z⟩ <;> cases z
    | tc f r q => exact absurd rfl (hnt _)
    | kl r q => exact (vw_kl (by assumption)).elim
    | exc _ _ _ => exact (vw_exc (by assumption)).elim
  · cases e
theorem c_int : CallR X (.type "int") (rs X.kw (primM .int)) := by
  intro pins s σ H xs us Q I rx h
  obtain ⟨w, a, rv, x, h', rfl, rfl, ok, ra, e, p⟩ := rs1 (m := intM) (hm1 (fun _ => rfl) (fun _ _ => rfl) fun _ _ _ _ => rfl) h
  unfold intM at e
  split at e
  · rename_i i
    cases e
    cases ra with
    | d ra =>
      cases ra
      exact call_int1 pins s σ _ _ us Q I rx (.inl ⟨i, rfl, p.same ok (.d (.int _))⟩)
  · rename_i k
    cases e
    cases ra with
    | d ra =>
      cases ra
      exact call_int1 pins s σ _ _ us Q I rx (.inr ⟨k, rfl, p.same ok (.d (.int _))⟩)
  · cases e
/-! ### isinstance of a built-in type -/
theorem ty_of {K : KW} {w : Wd} (ok : Ok K w) : ∀ {a : PV} {x : V} {d : PyData}, VR K w a x → vw w.h a = some d → TyX K w.H x (.type (tyD d))
  | _, _, _, .d q, e => by
    simp only [vw] at e
    cases e
    cases q with
    | non => exact .base .non
    | bl b => exact .base (.bl b)
    | int b => exact .base (.int b)
    | str b => exact .base (.str b)
    | lst f r q =>
      rcases r with r | ⟨o, r⟩
      · exact .base (.lst r)
      · exact .base (.frz r)
    | tup f r q =>
      rcases r with r | ⟨o, r⟩
      · exact .base (.tup r)
      · exact .fTuple r
    | tupK r q =>
      obtain ⟨o, its, n, h1, h2, _⟩ := r
      exact .kTuple h1 h2
    | dct f r q =>
      rcases r with r | ⟨o, r⟩
      · exact .base (.dK r)
      · exact .fDict r
  | _, _, _, @VR.cell _ _ n _ h ev, e => by
    subst ev
    rcases vw_cell e with ⟨ds, hn, rfl⟩ | ⟨ds, hn, rfl⟩
    · obtain ⟨_, xs, hx, _⟩ := ok.cel n _ hn
      exact .base (.lst hx)
    · obtain ⟨_, xs, hx, _⟩ := ok.cel n _ hn
      exact .base (.dK hx)
  | _, _, _, .tc f r q, e => by
    obtain ⟨ds, _, rfl⟩ := vw_tc e
    rcases r with r | ⟨o, r⟩
    · exact .base (.tup r)
    · exact .fTuple r
  | _, _, _, .kl r q, e => (vw_kl e).elim
def tyNames : List String := ["int", "bool", "str", "list", "tuple", "dict"]
theorem kit_all : (["NoneType", "bool", "int", "str", "list", "tuple", "dict"].all fun a => tyNames.all fun t => kitB a t == some (a == t || (t == "int" && a == "bool"))) = true := by decide +kernel
theorem tyD_mem (d : PyData) : tyD d ∈ ["NoneType", "bool", "int", "str", "list", "tuple", "dict"] := by
  cases d <;> simp [tyD]
theorem kit_d {K : PySem.W.Frag} (d : PyData) {t : String} (h : t ∈ tyNames) : PySem.W.kitOne K (.type (tyD d)) (.type t) = some (isTyD t d) := by
  have q := List.all_eq_true.mp (List.all_eq_true.mp kit_all _ (tyD_mem d)) t h
  exact kit_ty (eq_of_beq q)
theorem c_isTy {t : String} (ht : t ∈ tyNames) : CallR X (.builtin "isinstance") (fun xs H Q => ∃ (w : Wd) (a rv : PV) (x : V) (h' : Hh), xs = [x, .ty t] ∧ w.H = H ∧ Ok X.kw w ∧ VR X.kw w a x ∧ isTyM t a w.h = .ok rv h' ∧ Post X.kw w h' rv Q) := by
  intro pins s σ H xs us Q I rx h
  obtain ⟨w, a, rv, x, h', rfl, rfl, ok, ra, e, p⟩ := h
  unfold isTyM at e
  split at e
  · rename_i d ea
    cases e
    exact call_isi pins s σ _ _ us Q I rx ⟨x, .ty t, .type (tyD d), .type t, isTyD t d, rfl, .ty t, ty_of ok ra ea, kit_d d ht, p.same ok (.d (.bl _))⟩
  · cases e
/-! ### dict(xs) -/
theorem pairs_rp {K : KW} {F : Addr → Prop} {w : Wd} (ok : Ok K w) : ∀ {xs : List V} {ds : List PyData} {ps : List (PyData × PyData)}, Rps K w.F w.H xs ds → pairsD ds = some ps →
    ∃ (as : List Addr) (kvs : List (Key × V)), xs = as.map V.ref ∧ Paired (fun p kv => SqT K w.H p [kV kv.1, kv.2]) as kvs ∧ Rpk K w.F w.H kvs ps
  | _, _, _, .nil, e => by
    unfold pairsD at e
    cases e
    exact ⟨[], [], rfl, .nil, .nil⟩
  | _, _, _, .cons (d := d) a b, e => by
    unfold pairsD at e
    split at e
    · rename_i heq
      cases heq
    · rename_i k v r heq
      cases heq
      split at e
      · rename_i hk
        split at e
        · rename_i ps' hps
          cases e
          obtain ⟨as, kvs, rfl, hp, hr⟩ := pairs_rp (F := F) ok b hps
          obtain ⟨l, ys, rfl, hx, q⟩ := vw_tup ok a
          cases q with
          | cons q1 q2 =>
            cases q2 with
            | cons q2 q3 =>
              cases q3
              obtain ⟨key, rfl, rfl⟩ := key_rp q1 hk
              exact ⟨l :: as, (key, _) :: kvs, rfl, .cons hx hp, .cons q2 hr⟩
        · cases e
      · cases e
    · cases e
theorem dputs_rp {K : KW} {F : Addr → Prop} {H : Hp} : ∀ {more xs : List (Key × V)} {ms ds : List (PyData × PyData)}, (xs.map (·.1)).Nodup → Rpk K F H xs ds → Rpk K F H more ms → Rpk K F H (mergeK xs more) (dputs ds ms)
  | _, _, _, _, _, q, .nil => q
  | _, xs, _, ds, nd, q, .cons (k := k) (v := v) (d := d) a b => by
    show Rpk K F H (mergeK (putK xs k v) _) (dputs (dput ds (kD k) d) _)
    refine dputs_rp ?_ (dput_rp k a nd q) b
    unfold putK
    split
    · rw [List.map_map]
      have : ((fun x => x.1) ∘ fun (kv : Key × V) => if kv.1 = k then (kv.1, v) else kv) = fun x => x.1 := by
        funext x
        show (if x.1 = k then (x.1, v) else x).1 = x.1
        split <;> rfl
      rw [this]
      exact nd
    · rename_i hn
      rw [List.map_append, List.nodup_append]
      refine ⟨nd, by simp, fun a ha b hb => ?_⟩
      simp at hb
      subst hb
      intro hab
      subst hab
      obtain ⟨y, hy, hy2⟩ := List.mem_map.mp ha
      exact hn (List.any_eq_true.mpr ⟨y, hy, decide_eq_true hy2⟩)
theorem c_dict : X.calm = true → CallR X (.type "dict") (rs X.kw (primM .dictPairs)) := by
  intro hc pins s σ H xs us Q I rx h
  obtain ⟨w, a, rv, x, h', rfl, rfl, ok, ra, e, p⟩ := rs1 (m := dictPairsM) (hm1 (fun _ => rfl) (fun _ _ => rfl) fun _ _ _ _ => rfl) h
  unfold dictPairsM at e
  split at e
  · rename_i ds ea
    split at e
    · rename_i ps hps
      cases e
      obtain ⟨l, ys, rfl, hx, q⟩ := vw_list ok ra ea
      obtain ⟨as, kvs, rfl, hp, hr⟩ := pairs_rp (F := w.F) ok q hps
      exact call_dictP hc pins s σ _ _ us Q I rx ⟨l, as, kvs, rfl, .inl hx, hp, fun z hz => post_dct ok p (dputs_rp (by simp) .nil hr) hz⟩
    · cases e
  · cases e
theorem new_at {K : KW} {w : Wd} {Q : VK} {c : Cl} {o : HO} {q : Addr} (ok : Ok K w) (p : Post K w (w.h ++ [c]) (.cell w.h.length) Q) (hq : w.H q = none) (hc : ClOk K (w.new q o c) q c) : Q (.ref q) (upd w.H q o) := by
  refine p (w.new q o c) _ (Wd.new_ext ok hq) (Wd.new_ok ok hq hc) rfl (.cell ?_ ?_)
  · show w.h.length < (w.h ++ [c]).length
    rw [List.length_append]
    exact Nat.lt_succ_self _
  · show _ = V.ref (if w.h.length = w.h.length then q else _)
    rw [if_pos rfl]
theorem c_dictC : X.calm = true → CallR X (.type "dict") (rs X.kw (primM .dictPairsC)) := by
  intro hc pins s σ H xs us Q I rx h
  obtain ⟨w, a, rv, x, h', rfl, rfl, ok, ra, e, p⟩ := rs1 (m := dictPairsCM) (hm1 (fun _ => rfl) (fun _ _ => rfl) fun _ _ _ _ => rfl) h
  unfold dictPairsCM at e
  split at e
  · rename_i ds ea
    split at e
    · rename_i ps hps
      cases e
      obtain ⟨l, ys, rfl, hx, q⟩ := vw_list ok ra ea
      obtain ⟨as, kvs, rfl, hp, hr⟩ := pairs_rp (F := w.F) ok q hps
      exact call_dictP hc pins s σ _ _ us Q I rx ⟨l, as, kvs, rfl, .inl hx, hp, fun z hz => new_at ok p hz ⟨ok.fresh hz, _, upd_same, (dputs_rp (by simp) .nil hr).keep (Wd.new_kp hz)⟩⟩
    · cases e
  · cases e
/-! ### methods -/
theorem cell_lst {K : KW} {w : Wd} {n : Nat} {ds : List PyData} (ok : Ok K w) (hn : w.h[n]? = some (.lst ds)) : ¬ w.F (w.r n) ∧ ∃ xs, w.H (w.r n) = some (.lst xs) ∧ Rps K w.F w.H xs ds := ok.cel n _ hn
/-- a place's list is another one -/
theorem post_put {K : KW} {w : Wd} {n : Nat} {ds es : List PyData} {xs : List V} {rv : PV} {v : V} {Q : VK} (ok : Ok K w) (hn : w.h[n]? = some (.lst ds)) (p : Post K w (w.h.set n (.lst es)) rv Q) (q : Rps K w.F w.H xs es) (hv : VR K w rv v) : Q v (upd w.H (w.r n) (.lst xs)) := by
  have nf := (cell_lst ok hn).1
  exact p (w.put n (.lst xs) (.lst es)) v (Wd.put_ext ok hn (by intro z; cases z)) (Wd.put_ok ok hn (by intro z; cases z) ⟨nf, xs, upd_same, q.keep (Wd.put_kp nf)⟩) rfl (hv.ext (Wd.put_ext ok hn (by intro z; cases z)))
theorem m_index (hu : X.A.units + 65 < cLine) : MtR X "list.index" (fun x vs H Q => rs X.kw (primM .index) (x :: vs) H Q) := by
  intro pins s σ H x vs v us Q I rx rv h
  obtain ⟨w, a, b, r, x', y, h', ex, rfl, ok, ra, rb, e, p⟩ := rs2 (m := indexM) (hm2 (fun _ => rfl) (fun _ _ => rfl) (fun _ _ _ => rfl) fun _ _ _ _ _ => rfl) h
  cases ex
  unfold indexM at e
  split at e
  · rename_i ds d ea
    split at e
    · rename_i hs
      split at e
      · rename_i j hj
        cases e
        unfold ok2 at hs
        rw [Bool.and_eq_true] at hs
        obtain ⟨hl, h1, h2⟩ := List.findIdx?_eq_some_iff_getElem.mp hj
        have dl := vw_dp ok ra ea (SeqAt.canLay_of_shaped hs.1)
        cases rb with
        | d rb =>
          have dy := rb.dp (SeqAt.canLay_of_shaped hs.2)
          obtain ⟨l, ys, rfl, _, _⟩ := vw_list ok ra ea
          exact mt_indexD hu pins s σ _ _ _ v us Q I rx rv ⟨l, y, d, ds, j, ds[j], rfl, rfl, dl, dy, hs.1, hs.2, List.getElem?_eq_getElem hl, h1, fun m z hm hz => by
            have hm2 : m < ds.length := by omega
            rw [List.getElem?_eq_getElem hm2] at hz
            cases hz
            have := h2 m hm
            revert this
            cases PyData.eqv ds[m] d <;> simp, p.same ok (.d (.int _))⟩
      · cases e
    · cases e
  · cases e
theorem m_append : MtM X "list.append" (fun x vs H Q => rs X.kw (primM .append) (x :: vs) H Q) := by
  intro pins s σ H x vs v us Q I rx rv h
  obtain ⟨w, a, b, r, x', y, h', ex, rfl, ok, ra, rb, e, p⟩ := rs2 (m := appendM) (hm2 (fun _ => rfl) (fun _ _ => rfl) (fun _ _ _ => rfl) fun _ _ _ _ _ => rfl) h
  cases ex
  unfold appendM at e
  split at e
  · rename_i n d
    split at e
    · rename_i ds hn
      split at e
      · rename_i hl
        cases e
        obtain ⟨nf, xs, hx, q⟩ := cell_lst ok hn
        cases ra with
        | cell hlt ev =>
          subst ev
          cases rb with
          | d rb => exact mt_append pins s σ _ _ _ v us Q I rx rv ⟨_, xs, y, rfl, rfl, hx, by rw [q.length]; exact lt_line hl, post_put ok hn p (q.append (.cons rb .nil)) (.d .non)⟩
      · cases e
    · cases e
  · cases e
def rExtR : V → List V → Hp → VK → Prop := fun x vs H Q => ∃ l b xs zs, x = .ref l ∧ vs = [.ref b] ∧ H l = some (.lst xs) ∧ Rd H b (.lst zs) ∧ xs.length + zs.length ≤ sizeLine ∧ Q .non (upd H l (.lst (xs ++ zs)))
theorem mt_extR : MtM X "list.extend" rExtR := by
  intro pins s σ H x vs v us Q I rx rv h
  obtain ⟨l, b, xs, zs, rfl, rfl, hH, hB, hz, q⟩ := h
  cases rx
  obtain ⟨u, rfl, ru⟩ := rv.one
  cases ru
  obtain ⟨z, its, n, r, hl, e⟩ := I.lstM hH
  obtain ⟨z2, its2, n2, r2, hl2, e2⟩ := Rd.lst I hB
  have hsz : its.toArray.size + its2.toArray.size ≤ sizeLine := by rw [List.size_toArray, List.size_toArray]; omega
  have hno : ¬ (!its.toArray.isEmpty && Builtin.List.listTooLong (its.toArray.size + its2.toArray.size)) = true := by
    rw [notLongL hsz, Bool.and_false]
    exact Bool.false_ne_true
  refine call_meets F.slot_list_extend ⟨_, e, rfl⟩ F.entry_list_extend (F.args_list_extend_2 _ _)
    (AutoSeq1.list_extend_list_list_0 l its.toArray n b its2.toArray n2 hno (by rw [List.size_toArray]; omega) (by omega)) ⟨e, e2, ?_⟩
  refine ⟨.non, _, I.lset (its' := its ++ its2) hH e (by simp) (r.append r2) ?_, rfl, q⟩
  rw [List.length_append]
  omega
theorem m_extend : MtM X "list.extend" (fun x vs H Q => rs X.kw (primM .extend) (x :: vs) H Q) := by
  intro pins s σ H x vs v us Q I rx rv h
  obtain ⟨w, a, b, r, x', y, h', ex, rfl, ok, ra, rb, e, p⟩ := rs2 (m := extendM) (hm2 (fun _ => rfl) (fun _ _ => rfl) (fun _ _ _ => rfl) fun _ _ _ _ _ => rfl) h
  cases ex
  unfold extendM at e
  split at e
  · rename_i n zs hb
    split at e
    · rename_i ds hn
      split at e
      · rename_i hl
        cases e
        obtain ⟨nf, xs, hx, q⟩ := cell_lst ok hn
        obtain ⟨l, ys, rfl, hy, q2⟩ := vw_list ok rb hb
        cases ra with
        | cell hlt ev =>
          subst ev
          exact mt_extR pins s σ _ _ _ v us Q I rx rv ⟨_, l, xs, ys, rfl, rfl, hx, hy, by rw [q.length, q2.length]; exact le_line hl, post_put ok hn p (q.append q2) (.d .non)⟩
      · cases e
    · cases e
  · cases e
theorem m_pop : MtM X "list.pop" (fun x vs H Q => rs X.kw (primM .pop) (x :: vs) H Q) := by
  intro pins s σ H x vs v us Q I rx rv h
  obtain ⟨w, a, r, x', h', ex, rfl, ok, ra, e, p⟩ := rs1 (m := popM) (hm1 (fun _ => rfl) (fun _ _ => rfl) fun _ _ _ _ => rfl) h
  cases ex
  unfold popM at e
  split at e
  · rename_i n
    split at e
    · rename_i ds hn
      split at e
      · rename_i d hd
        cases e
        obtain ⟨nf, xs, hx, q⟩ := cell_lst ok hn
        obtain ⟨y, hy, qy⟩ := q.get hd
        cases ra with
        | cell hlt ev =>
          subst ev
          exact mt_pop pins s σ _ _ _ v us Q I rx rv ⟨_, xs, y, rfl, rfl, hx, by rw [q.length]; exact hy, post_put ok hn p q.dropLast (.d qy)⟩
      · cases e
    · cases e
  · cases e
theorem m_popAt : MtM X "list.pop" (fun x vs H Q => rs X.kw (primM .popAt) (x :: vs) H Q) := by
  intro pins s σ H x vs v us Q I rx rv h
  obtain ⟨w, a, b, r, x', y, h', ex, rfl, ok, ra, rb, e, p⟩ := rs2 (m := popAtM) (hm2 (fun _ => rfl) (fun _ _ => rfl) (fun _ _ _ => rfl) fun _ _ _ _ _ => rfl) h
  cases ex
  unfold popAtM at e
  split at e
  · rename_i n k
    split at e
    · rename_i ds hn
      split at e
      · rename_i j hj
        split at e
        · rename_i d hd
          cases e
          obtain ⟨nf, xs, hx, q⟩ := cell_lst ok hn
          obtain ⟨z, hz, qz⟩ := q.get hd
          have h1 : ixN xs.length k = some j := by rw [q.length]; exact hj
          obtain ⟨h2, h3, h4, h5⟩ := ixN_seq h1
          have hlen : xs.length ≤ sizeLine := (I.lstM hx).1
          have hs := sizeLine_eq
          cases rb with
          | d rb =>
            cases rb
            cases ra with
            | cell hlt ev =>
              subst ev
              exact mt_popAt pins s σ _ _ _ v us Q I rx rv ⟨_, xs, k, j, z, rfl, rfl, hx, by omega, by omega, h2, hz, post_put ok hn p (q.erase j) (.d qz)⟩
        · cases e
      · cases e
    · cases e
  · cases e
theorem rs3 {K : KW} {p : Prim} {m : PV → PV → PV → Hh → Out PV} {xs : List V} {H : Hp} {Q : VK} (h0 : ∀ h, primM p [] h = .stuck) (h1 : ∀ x h, primM p [x] h = .stuck) (h2 : ∀ x y h, primM p [x, y] h = .stuck) (h3 : ∀ x y z h, primM p [x, y, z] h = m x y z h) (h4 : ∀ x y z u r h, primM p (x :: y :: z :: u :: r) h = .stuck) (h : rs K (primM p) xs H Q) :
    ∃ (w : Wd) (a b c rv : PV) (x y z : V) (h' : Hh), xs = [x, y, z] ∧ w.H = H ∧ Ok K w ∧ VR K w a x ∧ VR K w b y ∧ VR K w c z ∧ m a b c w.h = .ok rv h' ∧ Post K w h' rv Q := by
  obtain ⟨w, as, rv, h', e0, ok, ra, e, p⟩ := h
  match as, ra, e with
  | [], _, e => rw [h0] at e; cases e
  | [_], _, e => rw [h1] at e; cases e
  | [_, _], _, e => rw [h2] at e; cases e
  | [a, b, c], .cons r1 (.cons r2 (.cons r3 .nil)), e => rw [h3] at e; exact ⟨w, a, b, c, rv, _, _, _, h', rfl, e0, ok, r1, r2, r3, e, p⟩
  | _ :: _ :: _ :: _ :: _, _, e => rw [h4] at e; cases e
theorem m_insert : MtM X "list.insert" (fun x vs H Q => rs X.kw (primM .insert) (x :: vs) H Q) := by
  intro pins s σ H x vs v us Q I rx rv h
  obtain ⟨w, a, b, c, r, x', y, z, h', ex, rfl, ok, ra, rb, rc, e, p⟩ := rs3 (m := insertM) (fun _ => rfl) (fun _ _ => rfl) (fun _ _ _ => rfl) (fun _ _ _ _ => rfl) (fun _ _ _ _ _ _ => rfl) h
  cases ex
  unfold insertM at e
  split at e
  · rename_i n k d
    split at e
    · rename_i ds hn
      split at e
      · rename_i hl
        cases e
        obtain ⟨nf, xs, hx, q⟩ := cell_lst ok hn
        cases ra with
        | cell hlt ev =>
          subst ev
          cases rb with
          | d rb =>
            cases rb
            cases rc with
            | d rc => exact mt_insert pins s σ _ _ _ v us Q I rx rv ⟨_, xs, k, z, rfl, rfl, hx, by rw [q.length]; exact lt_line hl.2.2, hl.1, by omega, post_put ok hn p (((q.take k.toNat).append (.cons rc .nil)).append (q.drop k.toNat)) (.d .non)⟩
      · cases e
    · cases e
  · cases e
theorem rps_rev {K : KW} {F : Addr → Prop} {H : Hp} : ∀ {xs : List V} {ds : List PyData}, Rps K F H xs ds → Rps K F H xs.reverse ds.reverse
  | _, _, .nil => .nil
  | _, _, .cons a b => by
    rw [List.reverse_cons, List.reverse_cons]
    exact (rps_rev b).append (.cons a .nil)
theorem bools_rps {K : KW} {F : Addr → Prop} {H : Hp} : ∀ {ys : List V} {ds : List PyData} {bs : List Bool}, Rps K F H ys ds → boolsD ds = some bs → ys = bs.map V.bl
  | _, _, _, .nil, e => by
    cases e
    rfl
  | _, _, _, .cons a b, e => by
    cases a with
    | bl k =>
      rw [boolsD] at e
      split at e
      · rename_i bs e1
        cases e
        rw [bools_rps b e1]
        rfl
      · cases e
    | _ => simp [boolsD] at e
theorem c_all (hc : X.calm = true) : CallR X (.builtin "all") (rs X.kw (primM .all)) := by
  intro pins s σ H xs us Q I rx h
  obtain ⟨w, a, rv, x, h', rfl, rfl, ok, ra, e, p⟩ := rs1 (m := allM) (hm1 (fun _ => rfl) (fun _ _ => rfl) fun _ _ _ _ => rfl) h
  unfold allM at e
  split at e
  · rename_i ds ea
    split at e
    · rename_i bs eb
      cases e
      obtain ⟨l, ys, rfl, hx, q⟩ := vw_list ok ra ea
      have ey := bools_rps q eb
      subst ey
      exact cr_all hc pins s σ _ _ us Q I rx ⟨l, bs, rfl, .inl hx, p.same ok (.d (.bl _))⟩
    · cases e
  · cases e
theorem m_clear : MtM X "list.clear" (fun x vs H Q => rs X.kw (primM .clear) (x :: vs) H Q) := by
  intro pins s σ H x vs v us Q I rx rv h
  obtain ⟨w, a, r, x', h', ex, rfl, ok, ra, e, p⟩ := rs1 (m := clearM) (hm1 (fun _ => rfl) (fun _ _ => rfl) fun _ _ _ _ => rfl) h
  cases ex
  unfold clearM at e
  split at e
  · rename_i n
    split at e
    · rename_i ds hn
      cases e
      obtain ⟨nf, xs, hx, q⟩ := cell_lst ok hn
      cases ra with
      | cell hlt ev =>
        subst ev
        exact mt_clear pins s σ _ _ _ v us Q I rx rv ⟨_, xs, rfl, rfl, hx, post_put ok hn p .nil (.d .non)⟩
    · cases e
  · cases e
/-! ### o[i] = v -/
def rPut (K : KW) : TSet := fun o i v H Q => ∃ (w : Wd) (a b c : PV) (h' : Hh), w.H = H ∧ Ok K w ∧ VR K w a o ∧ VR K w b i ∧ VR K w c v ∧ putM a b c w.h = .ok () h' ∧ ∀ w', Ext w w' → Ok K w' → w'.h = h' → Q w'.H
theorem o_put (hu9 : X.A.units + 64 < cLine) : PSet X (rPut X.kw) := by
  have hu : X.A.units + 1 < cLine := by omega
  intro pins s σ H o i v ov iv u Q I ro ri rv h
  obtain ⟨w, a, b, c, h', rfl, ok, ra, rb, rc, e, p⟩ := h
  unfold putM at e
  split at e
  · rename_i n b c
    split at e
    · rename_i ds hn
      split at e
      · rename_i k
        split at e
        · rename_i j hj
          cases e
          obtain ⟨nf, xs, hx, q⟩ := cell_lst ok hn
          cases ra with
          | cell hlt ev =>
            subst ev
            cases rb with
            | d rb =>
              cases rb
              cases rc with
              | d rc =>
                refine set_list pins s σ _ _ _ v ov iv u Q I ro ri rv ⟨_, xs, k, j, rfl, rfl, hx, by rw [q.length]; exact hj, ?_⟩
                exact p (w.put n (.lst (xs.set j v)) (.lst (ds.set j _))) (Wd.put_ext ok hn (by intro z; cases z)) (Wd.put_ok ok hn (by intro z; cases z) ⟨nf, _, upd_same, (q.set rc j).keep (Wd.put_kp nf)⟩) rfl
        · cases e
      · cases e
    · rename_i kvs hn
      split at e
      · rename_i hk
        cases e
        obtain ⟨nf, xs, hx, q⟩ := (show ClOk X.kw w (w.r n) (.dct kvs) from ok.cel n _ hn)
        cases ra with
        | cell hlt ev =>
          subst ev
          cases rb with
          | d rb =>
            cases rc with
            | d rc =>
              obtain ⟨key, rfl, rfl⟩ := key_rp rb hk.1
              obtain rfl : ov = Value.ref (w.r n) := ro
              have nd : (xs.map (·.1)).Nodup := by
                obtain ⟨_, _, vs, rel, o, es, ep, _, _, _, hnd⟩ := dk_of I.hok hx
                rw [rel.keys]
                first | exact hnd.2 | exact hnd.1 | (have := hnd; simp_all)
              refine d_setItem hu I (DPut.k (k := key) hx (by rw [q.length]; exact lt_line hk.2)) ri rv fun s' I' => ⟨_, I', ?_⟩
              exact p (w.put n (.dK (putK xs key v)) (.dct (dput kvs (kD key) _))) (Wd.put_ext ok hn (by intro z; cases z)) (Wd.put_ok ok hn (by intro z; cases z) ⟨nf, _, upd_same, (dput_rp key rc nd q).keep (Wd.put_kp nf)⟩) rfl
      · cases e
    · rename_i kvs hn
      split at e
      · rename_i k hk
        split at e
        · rename_i hl
          cases e
          obtain ⟨nf, xs, hx, q⟩ := (show ClOk X.kw w (w.r n) (.dcn kvs) from ok.cel n _ hn)
          cases ra with
          | cell hlt ev =>
            subst ev
            cases rb with
            | d rb =>
              cases rc with
              | d rc =>
                obtain ⟨b, rfl, rfl, h1, h2, ky⟩ := keyN_at I hk rb ri
                obtain rfl : ov = Value.ref (w.r n) := ro
                refine nd_set (by omega) I hx (q.at I) ky (by rw [q.len]; exact Nat.le_of_lt (lt_line hl)) rv fun s' I' => ⟨_, I', ?_⟩
                exact p (w.put n (NDO X.w (w.r n) (nput xs k b v)) (.dcn (nset kvs k _))) (Wd.put_ext ok hn (by intro z; cases z)) (Wd.put_ok ok hn (by intro z; cases z) ⟨nf, _, upd_same, (nput_rpn h2 (by rw [h1]; exact rb) rc q).keep (Wd.put_kp nf)⟩) rfl
        · cases e
      · cases e
    · cases e
  · cases e
end
end PL

set_option maxRecDepth 100000
set_option maxHeartbeats 4000000
/-! PL5: the text of an expression against the small language. -/
namespace PL
open PySem PySem.Spec PyProof.Rows L2

/-! ### what is seen of the text alone -/
def plainA : Expr → Bool
  | .Starred .. => false
  | _ => true
theorem starEach_plain {e : Expr} {es : List Expr} {env : Env} (h : plainA e = true) : starEach (e :: es) env = (false, eval e env) :: starEach es env := by
  cases e <;> first | rfl | cases h
theorem noStar {pos : Pos} {env : Env} : ∀ {es : List Expr}, es.all plainA = true → (backTo pos (starEach es env)).any (·.1) = false
  | [], _ => rfl
  | e :: es, h => by
    rw [List.all_cons, Bool.and_eq_true] at h
    rw [starEach_plain h.1]
    show (false || (backTo pos (starEach es env)).any (·.1)) = false
    rw [Bool.false_or]
    exact noStar h.2
theorem noStarAll {pos : Pos} {env : Env} : ∀ {es : List Expr}, es.all plainA = true → (backTo pos (starEach es env)).all (fun x => !x.1) = true
  | [], _ => rfl
  | e :: es, h => by
    rw [List.all_cons, Bool.and_eq_true] at h
    rw [starEach_plain h.1]
    show (true && (backTo pos (starEach es env)).all (fun x => !x.1)) = true
    rw [Bool.true_and]
    exact noStarAll h.2
/-- a test of it is its value's truth -/
def plainT : Expr → Bool
  | .UnaryOp .Not .. => false
  | .BoolOp .. => false
  | .IfExp .. => false
  | .Compare .. => false
  | _ => true
theorem isTrue_val {e : Expr} {env : Env} (h : plainT e = true) (whole : Sem Value) : isTrue e env whole = (do let v ← whole; standAt e.pos; holding [v] (truthy v)) := by
  cases e with
  | UnaryOp op a p => cases op <;> first | rfl | cases h
  | BoolOp => cases h
  | IfExp => cases h
  | Compare => cases h
  | _ => rfl
def notComp : Expr → Bool
  | .ListComp .. => false
  | .SetComp .. => false
  | .DictComp .. => false
  | _ => true
theorem noSwap {e : Expr} {t : Option Expr} {l : Nat} {env : Env} (h : notComp e = true) : swapsWith e t l env = pure false := by
  cases e <;> first | rfl | cases h
def notSet : Expr → Bool
  | .Set .. => false
  | _ => true
theorem noFold {e : Expr} {env : Env} (h : notSet e = true) (x : Value) : foldedSetIterable e env x = pure x := by
  cases e <;> first | rfl | cases h
def notCall0 : Expr → Bool
  | .Call (.Name ..) [] [] _ => false
  | _ => true
theorem attr_base {e : Expr} {m : Str} {env : Env} (h : notCall0 e = true) (t : Sem Value) : attributeBase e m env t = t := by
  cases e with
  | Call f a k p =>
    cases f with
    | Name x q =>
      cases a with
      | nil =>
        cases k with
        | nil => cases h
        | cons _ _ => rfl
      | cons _ _ => rfl
    | _ => rfl
  | _ => rfl
def notSlice : Expr → Bool
  | .Slice .. => false
  | _ => true
theorem plainIx {e : Expr} (h : notSlice e = true) : PlainIx e := by
  intro o i
  cases e <;> first | rfl | cases h
theorem noMark {e : Expr} {op : CmpOp} (h : notSet e = true) : behindInMarks op e = false := by
  cases e <;> first | rfl | cases h

/-! ### what is known where an expression stands -/
structure Ctx where
  N : List Str
  sc : Scope
  fnm : Str → Bool
  gl : List String
  fs : List String
  /-- what may be raised; what is asked of it -/
  xs : List String := []
  ys : List String := []
  /-- within an except suite -/
  hot : Bool := false
def nhot {α : Type} (c : Ctx) (o : Option α) : Option α := if c.hot then none else o
theorem nhot_ok {α : Type} {c : Ctx} {o : Option α} {x : α} (h : nhot c o = some x) : c.hot = false ∧ o = some x := by
  unfold nhot at h
  cases hh : c.hot with
  | true =>
    rw [hh] at h
    cases h
  | false =>
    rw [hh] at h
    exact ⟨rfl, h⟩
def kB (c : Ctx) (x : Str) (k : NameKind) : Bool := match c.sc.names.lookup x with
  | some k' => decide (k' = k)
  | none => false
theorem kB_eq {c : Ctx} {x : Str} {k : NameKind} (h : kB c x k = true) : c.sc.names.lookup x = some k := by
  unfold kB at h
  split at h
  · rename_i k' hk
    rw [hk, of_decide_eq_true h]
  · cases h
def visB (c : Ctx) (x : Str) : Bool := kB c x .local || kB c x .cell || kB c x .free
def locB (c : Ctx) (x : Str) : Bool := (kB c x .local || kB c x .cell) && (c.fnm x || kB c x .local)
def ndB (x : Str) : Bool := !(x == ("__debug__" : Str)) && !(x == ("__classdict__" : Str))
def builtinB (c : Ctx) (n : String) (x : Str) : Bool := decide (x = Str.ofString n) && kB c x .globalImplicit && c.gl.contains n
def constB (d : PyData) (k : Const) : Bool := match d, k with
  | .none, .none => true
  | .bool a, .bool b => a == b
  | .int a, .int b => decide (a = b)
  | .str a, .str b => decide (a = b)
  | _, _ => false
def spC (K : KW) (D : Defs) (k : Nat) (f : String) : Sp := fun vs H Q E => ∃ (df : Def) (w : Wd) (ps : List PV), D.lookup f = some df ∧ ps.length = df.ps.length ∧ w.H = H ∧ Ok K w ∧ VRs K w ps vs ∧ PostO K w (callN D k f ps w.h) Q E
/-- a class that is raised -/
structure XcOk (K : PySem.W.Frag) (mg : Str → Option Value) (c : String) (C : Addr) : Prop where
  n : NmC K c C
  g : mg (Str.ofString c) = some (.ref C)
  x : PySem.W.excIn K C He.veBase "ValueError.__new__" = true
  k : PySem.W.keepIn K (.ref C) = true
  b : PySem.W.subIn K (.ref C) (.type "BaseException") = some true
  v : PySem.W.subIn K (.ref C) (.type "ValueError") = some true
  t : PySem.W.typeIn K (.ref C) = some (.type "type")
  e : ExcC K C
/-- a class that is asked for -/
structure YcOk (K : PySem.W.Frag) (mg : Str → Option Value) (c : String) (C : Addr) : Prop where
  n : NmC K c C
  g : mg (Str.ofString c) = some (.ref C)
  b : PySem.W.subIn K (.ref C) (.type "BaseException") = some true
  d : PySem.W.hasDictIn K C = true
  t : PySem.W.typeIn K (.ref C) = some (.type "type")
structure ExOk (K : PySem.W.Frag) (mg : Str → Option Value) (xs ys : List String) : Prop where
  xc : ∀ c, c ∈ xs → ∃ C, XcOk K mg c C
  yc : ∀ c, c ∈ ys → ∃ C, YcOk K mg c C
  kt : ∀ c, c ∈ xs → ∀ c', c' ∈ ys → ∀ C C', NmC K c C → NmC K c' C' → PySem.W.subIn K (.ref C) (.ref C') = some (isSub c c')
  /-- ValueError by its name -/
  ve : mg (Str.ofString "ValueError") = none
theorem NmC.eq {K : PySem.W.Frag} {c : String} {C C' : Addr} (a : NmC K c C) (b : NmC K c C') : C = C' := by
  unfold NmC at a b
  rw [a] at b
  cases b
  rfl
/-- a class that is raised is within itself -/
theorem XcOk.self {K : PySem.W.Frag} {mg : Str → Option Value} {c : String} {C : Addr} (x : XcOk K mg c C) : PySem.W.subIn K (.ref C) (.ref C) = some true := by
  have q := x.x
  unfold PySem.W.excIn at q
  show PySem.W.mroIn K C (.ref C) = some true
  unfold PySem.W.mroIn PySem.W.clsIn
  split at q
  · rename_i dd cd sl ho
    split at q
    · rename_i C' bm k0 k1 k2 k3 n k5 hm hs
      simp only [Bool.and_eq_true, beq_iff_eq] at q
      have e : C' = C := q.1.1.1.1.1
      subst e
      rw [ho]
      simp [hm]
    · cases q
  · cases q
theorem YcOk.some {K : PySem.W.Frag} {mg : Str → Option Value} {c : String} {C : Addr} (y : YcOk K mg c C) : (PySem.W.clsIn K C).isSome = true := by
  have := y.d
  unfold PySem.W.hasDictIn at this
  cases e : PySem.W.clsIn K C with
  | none =>
    rw [e] at this
    cases this
  | some _ => rfl
theorem ExOk.kit {K : PySem.W.Frag} {mg : Str → Option Value} {xs ys : List String} (o : ExOk K mg xs ys) {c c' : String} {C C' : Addr} (h : c ∈ xs) (h' : c' ∈ ys) (n : NmC K c C) (n' : NmC K c' C') : PySem.W.kitOne K (.ref C) (.ref C') = some (isSub c c') := by
  have k := o.kt c h c' h' C C' n n'
  obtain ⟨C2, y⟩ := o.yc c' h'
  obtain rfl := y.n.eq n'
  unfold PySem.W.kitOne
  by_cases e : (Value.ref C == Value.ref C2) = true
  · rw [if_pos e]
    have e2 : C = C2 := Value.ref.inj (beq_iff_eq.mp e)
    subst e2
    obtain ⟨C3, x⟩ := o.xc c h
    obtain rfl := x.n.eq n
    rw [x.self] at k
    exact k
  · rw [if_neg e]
    have q : ((PySem.W.clsIn K C2).isSome && PySem.W.typeIn K (.ref C2) == some (.type "type")) = true := by
      rw [y.some, y.t]
      rfl
    exact (if_pos q).trans k
theorem ExOk.exm {K : PySem.W.Frag} {mg : Str → Option Value} {xs ys : List String} (o : ExOk K mg xs ys) {c c' : String} {C C' : Addr} (h : c ∈ xs) (h' : c' ∈ ys) (n : NmC K c C) (n' : NmC K c' C') : PySem.W.exmOne K (.ref C) (.ref C') = some (isSub c c') := by
  obtain ⟨C2, y⟩ := o.yc c' h'
  obtain rfl := y.n.eq n'
  exact PySem.W.exm_ref y.b y.d y.t (o.kt c h c' h' C C2 n n')
structure CtxOk (D : Defs) (k : Nat) (c : Ctx) (X : Cx) : Prop where
  N : X.N = c.N
  sc : X.env.scope = c.sc
  fn : X.fn = c.fnm
  calm : c.hot = false → X.calm = true
  nd : c.N.Nodup
  room : c.hot = false → Room k X.A
  u65 : X.A.units + 65 < cLine
  fk : X.env.scope.kind = .function
  gl : ∀ x, x ∈ c.gl → X.mg (Str.ofString x) = none
  fs : ∀ f, f ∈ c.fs → ∃ (df : Def) (a : Addr) (fd : FuncData), D.lookup f = some df ∧ X.mg (Str.ofString f) = some (.ref a) ∧ PySem.W.keepIn X.K (.ref a) = true ∧ Binds X.K fd df.ps [] ∧ FnOk X.prog X.w X.K X.mg X.base (L2.CX X.prog X.w) k a fd df.ps (spC X.kw D k f)
  ex : ExOk X.K X.mg c.xs c.ys
section
variable {D : Defs} {k : Nat} {c : Ctx} {X : Cx}
theorem CtxOk.kind (o : CtxOk D k c X) {x : Str} {q : NameKind} (h : kB c x q = true) : X.env.scope.names.lookup x = some q := by
  rw [o.sc]
  exact kB_eq h
theorem CtxOk.vis (o : CtxOk D k c X) {x : Str} (h : visB c x = true) : Vis X.env.scope x := by
  unfold visB at h
  rw [Bool.or_eq_true, Bool.or_eq_true] at h
  rcases h with (h | h) | h
  · exact .inl (o.kind h)
  · exact .inr (.inl (o.kind h))
  · exact .inr (.inr (o.kind h))
theorem CtxOk.loc (o : CtxOk D k c X) {x : Str} (h : locB c x = true) : Loc X.env.scope x ∧ (X.fn x = true ∨ X.env.scope.names.lookup x = some .local) := by
  unfold locB at h
  rw [Bool.and_eq_true, Bool.or_eq_true, Bool.or_eq_true] at h
  refine ⟨?_, ?_⟩
  · rcases h.1 with h | h
    · exact .inl (o.kind h)
    · exact .inr (o.kind h)
  · rcases h.2 with h | h
    · exact .inl (by rw [o.fn]; exact h)
    · exact .inr (o.kind h)
theorem nd_of {x : Str} (h : ndB x = true) : (x == ("__debug__" : Str)) = false ∧ (x == ("__classdict__" : Str)) = false := by
  unfold ndB at h
  rw [Bool.and_eq_true] at h
  constructor
  · have := h.1
    revert this
    cases x == ("__debug__" : Str) <;> simp
  · have := h.2
    revert this
    cases x == ("__classdict__" : Str) <;> simp
theorem CtxOk.blt (o : CtxOk D k c X) {n : String} {x : Str} (h : builtinB c n x = true) : x = Str.ofString n ∧ Gl X x ∧ X.mg x = none := by
  unfold builtinB at h
  rw [Bool.and_eq_true, Bool.and_eq_true] at h
  have e := of_decide_eq_true h.1.1
  refine ⟨e, o.kind h.1.2, ?_⟩
  rw [e]
  exact o.gl n (List.elem_iff.mp h.2)
end

/-! ### expressions with parts -/
inductive PEs (X : Cx) (Φ : String → List PV → Hh → Out PV) : Es → List Expr → Prop
  | nil : PEs X Φ .nil []
  | cons {e : E} {r : Es} {a : Expr} {as : List Expr} : plainA a = true → PE X a (tE X.kw (ev Φ e)) → PEs X Φ r as → PEs X Φ (.cons e r) (a :: as)
section
variable {X : Cx} {Φ : String → List PV → Hh → Out PV}
theorem PEs.plain : ∀ {es : Es} {as : List Expr}, PEs X Φ es as → as.all plainA = true
  | _, _, .nil => rfl
  | _, _, .cons h _ t => by
    rw [List.all_cons, Bool.and_eq_true]
    exact ⟨h, PEs.plain t⟩
theorem PEs.pa : ∀ {es : Es} {as : List Expr}, PEs X Φ es as → PA X as (tA X.kw (evs Φ es))
  | _, _, .nil => pa_nil.of fun σ H Q t => by
    obtain ⟨w, e, rs, h', rfl, ok, er, q, p⟩ := t
    simp only [evs] at q
    cases q
    exact p w [] (Ext.refl w) ok rfl .nil
  | .cons e1 r, _, .cons h pe t => by
    refine (pa_cons pe (PEs.pa t) (starEach_plain h)).of fun σ H Q q => ?_
    obtain ⟨w, e, rs, h', rfl, ok, er, q, p⟩ := q
    simp only [evs] at q
    obtain ⟨x, h1, qa, q⟩ := Out.bind_eq_ok q
    obtain ⟨xs, h2, qb, q⟩ := Out.bind_eq_ok q
    cases q
    refine ⟨w, e, x, h1, rfl, ok, er, qa, fun w1 v x1 ok1 e1 r1 => ?_⟩
    subst e1
    refine ⟨w1, e, xs, _, rfl, ok1, er.ext x1, qb, fun w2 vs x2 ok2 e2 r2 => ?_⟩
    exact p w2 (v :: vs) (x1.trans x2) ok2 e2 (.cons (r1.ext x2) r2)
theorem ev_one {p : Prim} {a : E} : ev Φ (.prim p (.cons a .nil)) = fun e h => (ev Φ a e h).bind fun x h1 => primM p [x] h1 := by
  funext e h
  simp only [ev, evs]
  cases ev Φ a e h <;> rfl
theorem ev_two {p : Prim} {a b : E} : ev Φ (.prim p (.cons a (.cons b .nil))) = fun e h => (ev Φ a e h).bind fun x h1 => (ev Φ b e h1).bind fun y h2 => primM p [x, y] h2 := by
  funext e h
  simp only [ev, evs]
  cases ev Φ a e h with
  | ok x h1 =>
    simp only [Out.bind_ok]
    cases ev Φ b e h1 <;> rfl
  | _ => rfl
theorem ev_args {p : Prim} {es : Es} : ev Φ (.prim p es) = fun e h => (evs Φ es e h).bind fun vs h1 => primM p vs h1 := by
  funext e h
  simp only [ev]
/-- operators -/
theorem pe_bin {op : Operator} {p : Prim} {m : PV → PV → Hh → Out PV} (o : OpR X (binaryOp op) (r2 X.kw m)) (hm : ∀ x y h, primM p [x, y] h = m x y h) {es : Es} {a b : Expr} {pos : Pos} (q : PEs X Φ es [a, b]) : PE X (.BinOp a op b pos) (tE X.kw (ev Φ (.prim p es))) := by
  cases q with
  | cons _ h1 q =>
    cases q with
    | cons _ h2 q =>
      cases q
      refine (pe_op o h1 h2).of fun σ H Q t => ?_
      rw [ev_two] at t
      simp only [hm] at t
      exact tE_two t
theorem pe_cmp2 {op : CmpOp} {p : Prim} {m : PV → PV → Hh → Out PV} (o : OpR X (compareOp op) (r2 X.kw m)) (hm : ∀ x y h, primM p [x, y] h = m x y h) {es : Es} {a b : Expr} {pos : Pos} (hb : behindInMarks op b = false) (q : PEs X Φ es [a, b]) :
    PE X (.Compare a [op] [b] pos) (tE X.kw (ev Φ (.prim p es))) := by
  cases q with
  | cons _ h1 q =>
    cases q with
    | cons _ h2 q =>
      cases q
      refine (pe_cmpR o h1 h2 hb).of fun σ H Q t => ?_
      rw [ev_two] at t
      simp only [hm] at t
      exact tE_two t
abbrev evB (Φ : String → List PV → Hh → Out PV) (e : E) : Ee → Hh → Out Bool := fun r h => (ev Φ e r h).bind asB
theorem asB_ok {v : PV} {h h' : Hh} {b : Bool} (e : asB v h = .ok b h') : v = bln b ∧ h' = h := by
  unfold asB at e
  split at e
  · cases e
    exact ⟨rfl, rfl⟩
  · cases e
/-- from an expression's test to its value -/
theorem tT_tE {K : KW} {m : EM} {σ : L2.St} {H : Hp} {Q : Bool → Hp → Prop} (t : tT K (fun e h => (m e h).bind asB) σ H Q) : tE K m σ H (fun x H1 => ∃ b, x = .bl b ∧ Q b H1) := by
  obtain ⟨w, e, b, h', rfl, ok, er, q, p⟩ := t
  obtain ⟨v, h1, qa, q⟩ := Out.bind_eq_ok q
  obtain ⟨rfl, rfl⟩ := asB_ok q
  refine ⟨w, e, bln b, _, rfl, ok, er, qa, fun w1 x x1 ok1 e1 r1 => ?_⟩
  cases r1 with
  | d r1 =>
    cases r1
    exact ⟨b, rfl, p w1 x1 ok1 e1⟩
theorem pt_plain {a : Expr} {e : E} (h : plainT a = true) (q : PE X a (tE X.kw (ev Φ e))) : PT X a (tT X.kw (evB Φ e)) :=
  (pt_val q (isTrue_val h)).of fun _ _ _ t => tT_tE t
theorem pt_cmp2 {op : CmpOp} {p : Prim} {m : PV → PV → Hh → Out PV} (o : OpR X (compareOp op) (r2 X.kw m)) (hm : ∀ x y h, primM p [x, y] h = m x y h) {es : Es} {a b : Expr} {pos : Pos} (hb : behindInMarks op b = false) (q : PEs X Φ es [a, b]) :
    PT X (.Compare a [op] [b] pos) (tT X.kw (evB Φ (.prim p es))) := by
  cases q with
  | cons _ h1 q =>
    cases q with
    | cons _ h2 q =>
      cases q
      refine (pt_cmpR o h1 h2 hb).of fun σ H Q t => ?_
      have t := tT_tE t
      rw [ev_two] at t
      simp only [hm] at t
      exact tE_two t
theorem pe_isN {neg : Bool} {p : Prim} {es : Es} {a : Expr} {j : Nat} {pos pos' : Pos} (hm : ∀ x h, primM p [x] h = .ok (bln (if neg then !isNone x else isNone x)) h) (q : PEs X Φ es [a]) :
    PE X (.Compare a [if neg then .IsNot else .Is] [.Constant .none j pos'] pos) (tE X.kw (ev Φ (.prim p es))) ∧ PT X (.Compare a [if neg then .IsNot else .Is] [.Constant .none j pos'] pos) (tT X.kw (evB Φ (.prim p es))) := by
  cases q with
  | @cons e1 _ _ _ _ h1 q =>
    cases q
    have key : ∀ (σ : L2.St) (H : Hp) (Q : VK), tE X.kw (ev Φ (.prim p (.cons e1 .nil))) σ H Q → tE X.kw (ev Φ e1) σ H fun x H1 => Q (.bl (if neg then !decide (x = .non) else decide (x = .non))) H1 := fun σ H Q t => by
      rw [ev_one] at t
      obtain ⟨w, e, rv, h', rfl, ok, er, q, p⟩ := t
      obtain ⟨x, h1, qa, q⟩ := Out.bind_eq_ok q
      rw [hm] at q
      cases q
      refine ⟨w, e, x, _, rfl, ok, er, qa, fun w1 v x1 ok1 e1 r1 => ?_⟩
      rw [isNone_eq r1] at p
      subst e1
      have := p w1 (.bl (if neg then !decide (v = .non) else decide (v = .non))) x1 ok1 rfl (.d (.bl _))
      exact this
    cases neg with
    | false =>
      refine ⟨(pe_cmp (pc_isN h1)).of fun σ H Q t => key σ H Q t, (pt_cmp (pc_isN h1)).of fun σ H Q t => key σ H _ (tT_tE t)⟩
    | true =>
      refine ⟨(pe_cmp (pc_notN h1)).of fun σ H Q t => key σ H Q t, (pt_cmp (pc_notN h1)).of fun σ H Q t => key σ H _ (tT_tE t)⟩
/-- built-in functions and types -/
theorem pe_blt {D : Defs} {k : Nat} {c : Ctx} {n id : String} {x : Str} {p : Prim} {es : Es} {as : List Expr} {px pos : Pos} (o : CtxOk D k c X) (hb : builtinB c n x = true) (hc : CallR X (.builtin id) (rs X.kw (primM p))) (hv : bootBuiltins (Str.ofString n) = some (.builtin id))
    (hn : Str.ofString n ≠ "__name__") (hd : (Str.ofString n == ("__debug__" : Str)) = false) (hne : as ≠ []) (q : PEs X Φ es as) : PE X (.Call (.Name x px) as [] pos) (tE X.kw (ev Φ (.prim p es))) := by
  obtain ⟨rfl, hg, hm⟩ := o.blt hb
  have pl := q.plain
  cases as with
  | nil => exact absurd rfl hne
  | cons a as =>
    rw [List.all_cons, Bool.and_eq_true] at pl
    refine (pe_callB hc hg hm hv q.pa hn hd (starEach_plain pl.1) (noStar pl.2)).of fun σ H Q t => ?_
    rw [ev_args] at t
    exact tE_args t
theorem pe_bty {D : Defs} {k : Nat} {c : Ctx} {n id : String} {x : Str} {p : Prim} {es : Es} {as : List Expr} {px pos : Pos} (o : CtxOk D k c X) (hb : builtinB c n x = true) (hc : CallR X (.type id) (rs X.kw (primM p))) (hv : bootBuiltins (Str.ofString n) = some (.type id))
    (hn : Str.ofString n ≠ "__name__") (hd : (Str.ofString n == ("__debug__" : Str)) = false) (hne : as ≠ []) (q : PEs X Φ es as) : PE X (.Call (.Name x px) as [] pos) (tE X.kw (ev Φ (.prim p es))) := by
  obtain ⟨rfl, hg, hm⟩ := o.blt hb
  have pl := q.plain
  cases as with
  | nil => exact absurd rfl hne
  | cons a as =>
    rw [List.all_cons, Bool.and_eq_true] at pl
    refine (pe_callTy hc hg hm hv q.pa hn hd (starEach_plain pl.1) (noStar pl.2)).of fun σ H Q t => ?_
    rw [ev_args] at t
    exact tE_args t
end
end PL

set_option maxRecDepth 100000
set_option maxHeartbeats 4000000
/-! PL6: what is walked, targets, comprehensions. -/
namespace PL
open PySem PySem.Spec PyProof.Rows L2

/-! ### what is walked -/
structure Src (K : KW) (J : L2.It) (w : Wd) (items : List PV) : Prop where
  go : ∀ (i : Nat) (w' : Wd), i < items.length → Kp w.F w.H w'.F w'.H → Ok K w' → J.go i w'.H
  stop : ∀ (w' : Wd), Kp w.F w.H w'.F w'.H → Ok K w' → J.stop items.length w'.H
  yld : ∀ (i : Nat) (w' : Wd) (x : V) (H' : Hp), i < items.length → Ext0 w w' → Ok K w' → J.yld i w'.H x H' → ∃ w'' p, Ext w' w'' ∧ Ok K w'' ∧ w''.h = w'.h ∧ w''.H = H' ∧ items[i]? = some p ∧ VR K w'' p x
section
variable {K : KW} {w : Wd}
theorem map_d_at {ds : List PyData} {i : Nat} (h : i < ds.length) : (ds.map PV.d)[i]? = some (.d ds[i]) := by
  rw [List.getElem?_map, List.getElem?_eq_getElem h]
  rfl
theorem src_list {a : Addr} {xs : List V} {ds : List PyData} (f : w.F a) (r : Rd w.H a (.lst xs)) (q : Rps K w.F w.H xs ds) : Src K (Itl K a) w (ds.map .d) := by
  refine ⟨fun i w' hi x ok => ?_, fun w' x ok => ?_, fun i w' v H' hi x ok y => ?_⟩
  · rw [List.length_map] at hi
    exact ⟨xs, xs[i]'(by rw [q.length]; exact hi), .inl (x.rd f r), List.getElem?_eq_getElem _⟩
  · exact ⟨xs, .inl (x.rd f r), by rw [List.length_map, q.length]; exact Nat.le_refl _⟩
  · rw [List.length_map] at hi
    obtain ⟨rfl, y⟩ := y
    have hv := y xs (.inl (x.kp.rd f r))
    obtain ⟨z, hz, qz⟩ := q.get (List.getElem?_eq_getElem hi)
    rw [hz] at hv
    cases hv
    exact ⟨w', _, Ext.refl w', ok, rfl, rfl, map_d_at hi, .d (qz.keep x.kp)⟩
theorem sqT_keep {F F' : Addr → Prop} {H H' : Hp} {a : Addr} {xs : List V} (x : Kp F H F' H') (h : (F a ∧ Rd H a (.tup xs)) ∨ KT K a xs) : SqT K H' a xs := by
  rcases h with ⟨f, r⟩ | r
  · exact .inl (x.rd f r)
  · exact .inr r
theorem src_tup {a : Addr} {xs : List V} {ds : List PyData} (h : (w.F a ∧ Rd w.H a (.tup xs)) ∨ KT K a xs) (q : Rps K w.F w.H xs ds) : Src K (Itt K a) w (ds.map .d) := by
  refine ⟨fun i w' hi x ok => ?_, fun w' x ok => ?_, fun i w' v H' hi x ok y => ?_⟩
  · rw [List.length_map] at hi
    exact ⟨xs, xs[i]'(by rw [q.length]; exact hi), sqT_keep x h, List.getElem?_eq_getElem _⟩
  · exact ⟨xs, sqT_keep x h, by rw [List.length_map, q.length]; exact Nat.le_refl _⟩
  · rw [List.length_map] at hi
    obtain ⟨rfl, y⟩ := y
    have hv := y xs (sqT_keep x.kp h)
    obtain ⟨z, hz, qz⟩ := q.get (List.getElem?_eq_getElem hi)
    rw [hz] at hv
    cases hv
    exact ⟨w', _, Ext.refl w', ok, rfl, rfl, map_d_at hi, .d (qz.keep x.kp)⟩
theorem src_tc {a : Addr} {xs : List V} {ps : List PV} (f : w.F a) (r : Rd w.H a (.tup xs)) (q : VRs K w ps xs) : Src K (Itt K a) w ps := by
  refine ⟨fun i w' hi x ok => ?_, fun w' x ok => ?_, fun i w' v H' hi x ok y => ?_⟩
  · exact ⟨xs, xs[i]'(by rw [← q.length]; exact hi), .inl (x.rd f r), List.getElem?_eq_getElem _⟩
  · exact ⟨xs, .inl (x.rd f r), by rw [← q.length]; exact Nat.le_refl _⟩
  · obtain ⟨rfl, y⟩ := y
    have hv := y xs (.inl (x.kp.rd f r))
    obtain ⟨z, hz, qz⟩ := q.get (List.getElem?_eq_getElem hi)
    rw [hz] at hv
    cases hv
    exact ⟨w', _, Ext.refl w', ok, rfl, rfl, List.getElem?_eq_getElem hi, qz.ext0 x⟩
theorem rngL_at {a b : Int} {i : Nat} (h : i < (b - a).toNat) : (rngL a b)[i]? = some (int (a + (i : Int))) := by
  unfold rngL
  rw [List.getElem?_map, List.getElem?_range h]
  rfl
theorem rngL_len (a b : Int) : (rngL a b).length = (b - a).toNat := by
  unfold rngL
  rw [List.length_map, List.length_range]
theorem src_rng {a b : Int} : Src K (Itr a (b - a).toNat) w (rngL a b) := by
  refine ⟨fun i w' hi x ok => ?_, fun w' x ok => ?_, fun i w' v H' hi x ok y => ?_⟩
  · rw [rngL_len] at hi
    exact hi
  · rw [rngL_len]
    exact Nat.le_refl (b - a).toNat
  · rw [rngL_len] at hi
    obtain ⟨rfl, rfl⟩ := y
    exact ⟨w', _, Ext.refl w', ok, rfl, rfl, rngL_at hi, .d (.int _)⟩
theorem zip_at {ds es : List PyData} {i : Nat} (h1 : i < ds.length) (h2 : i < es.length) : ((ds.zip es).map fun p => PV.d (.tuple [p.1, p.2]))[i]? = some (.d (.tuple [ds[i], es[i]])) := by
  rw [List.getElem?_map, List.getElem?_eq_getElem (by rw [List.length_zip]; omega), List.getElem_zip]
  rfl
theorem zip_len (ds es : List PyData) : ((ds.zip es).map fun p => PV.d (.tuple [p.1, p.2])).length = min ds.length es.length := by
  rw [List.length_map, List.length_zip]
theorem pair_new {w' : Wd} {T : Addr} {x y : V} {d e : PyData} (ok : Ok K w') (nT : w'.H T = none) (q1 : Rp K w'.F w'.H x d) (q2 : Rp K w'.F w'.H y e) : VR K (w'.fix T (.tup [x, y])) (.d (.tuple [d, e])) (.ref T) :=
  .d (.tup (.inl rfl) (.inl upd_same) (.cons (q1.keep (Wd.fix_kp nT)) (.cons (q2.keep (Wd.fix_kp nT)) .nil)))
theorem src_zip {a b : Addr} {xs ys : List V} {ds es : List PyData} (f : w.F a) (r : Rd w.H a (.lst xs)) (q : Rps K w.F w.H xs ds) (f2 : w.F b) (r2 : Rd w.H b (.lst ys)) (q2 : Rps K w.F w.H ys es) : Src K (Itz K a b) w ((ds.zip es).map fun p => .d (.tuple [p.1, p.2])) := by
  refine ⟨fun i w' hi x ok => ?_, fun w' x ok => ?_, fun i w' v H' hi x ok y => ?_⟩
  · rw [zip_len] at hi
    exact ⟨xs, ys, xs[i]'(by rw [q.length]; omega), ys[i]'(by rw [q2.length]; omega), .inl (x.rd f r), .inl (x.rd f2 r2), List.getElem?_eq_getElem _, List.getElem?_eq_getElem _⟩
  · refine ⟨xs, ys, .inl (x.rd f r), .inl (x.rd f2 r2), ?_⟩
    rw [zip_len, q.length, q2.length]
    omega
  · rw [zip_len] at hi
    have h1 : i < ds.length := by omega
    have h2 : i < es.length := by omega
    obtain ⟨T, z1, z2, rfl, nT, rfl, y1, y2⟩ := y
    have hv := y1 xs (.inl (x.kp.rd f r))
    have hv2 := y2 ys (.inl (x.kp.rd f2 r2))
    obtain ⟨u1, hz, qz⟩ := q.get (List.getElem?_eq_getElem h1)
    obtain ⟨u2, hz2, qz2⟩ := q2.get (List.getElem?_eq_getElem h2)
    rw [hz] at hv
    rw [hz2] at hv2
    cases hv
    cases hv2
    exact ⟨w'.fix T (.tup [z1, z2]), _, Wd.fix_ext ok nT, Wd.fix_ok ok nT, rfl, rfl, zip_at h1 h2, pair_new ok nT (qz.keep x.kp) (qz2.keep x.kp)⟩
theorem src_zipT {a b : Addr} {xs ys : List V} {ds es : List PyData} (h : (w.F a ∧ Rd w.H a (.tup xs)) ∨ KT K a xs) (q : Rps K w.F w.H xs ds) (h' : (w.F b ∧ Rd w.H b (.tup ys)) ∨ KT K b ys) (q2 : Rps K w.F w.H ys es) : Src K (RZ.ItzT K a b) w ((ds.zip es).map fun p => .d (.tuple [p.1, p.2])) := by
  refine ⟨fun i w' hi x ok => ?_, fun w' x ok => ?_, fun i w' v H' hi x ok y => ?_⟩
  · rw [zip_len] at hi
    exact ⟨xs, ys, xs[i]'(by rw [q.length]; omega), ys[i]'(by rw [q2.length]; omega), sqT_keep x h, sqT_keep x h', List.getElem?_eq_getElem _, List.getElem?_eq_getElem _⟩
  · refine ⟨xs, ys, sqT_keep x h, sqT_keep x h', ?_⟩
    rw [zip_len, q.length, q2.length]
    omega
  · rw [zip_len] at hi
    have h1 : i < ds.length := by omega
    have h2 : i < es.length := by omega
    obtain ⟨T, z1, z2, rfl, nT, rfl, y1, y2⟩ := y
    have hv := y1 xs (sqT_keep x.kp h)
    have hv2 := y2 ys (sqT_keep x.kp h')
    obtain ⟨u1, hz, qz⟩ := q.get (List.getElem?_eq_getElem h1)
    obtain ⟨u2, hz2, qz2⟩ := q2.get (List.getElem?_eq_getElem h2)
    rw [hz] at hv
    rw [hz2] at hv2
    cases hv
    cases hv2
    exact ⟨w'.fix T (.tup [z1, z2]), _, Wd.fix_ext ok nT, Wd.fix_ok ok nT, rfl, rfl, zip_at h1 h2, pair_new ok nT (qz.keep x.kp) (qz2.keep x.kp)⟩
theorem enum_at {ds : List PyData} {i : Nat} (h : i < ds.length) : (enumL ds)[i]? = some (.d (.tuple [.int i, ds[i]])) := by
  unfold enumL
  rw [List.getElem?_map, List.getElem?_zipIdx, List.getElem?_eq_getElem h]
  simp
theorem enum_len (ds : List PyData) : (enumL ds).length = ds.length := by
  unfold enumL
  rw [List.length_map, List.length_zipIdx]
theorem src_enum {a : Addr} {xs : List V} {ds : List PyData} (f : w.F a) (r : Rd w.H a (.lst xs)) (q : Rps K w.F w.H xs ds) : Src K (Ite K a) w (enumL ds) := by
  refine ⟨fun i w' hi x ok => ?_, fun w' x ok => ?_, fun i w' v H' hi x ok y => ?_⟩
  · rw [enum_len] at hi
    exact ⟨xs, xs[i]'(by rw [q.length]; exact hi), .inl (x.rd f r), List.getElem?_eq_getElem _⟩
  · exact ⟨xs, .inl (x.rd f r), by rw [enum_len, q.length]; exact Nat.le_refl _⟩
  · rw [enum_len] at hi
    obtain ⟨T, z1, rfl, nT, rfl, y1⟩ := y
    have hv := y1 xs (.inl (x.kp.rd f r))
    obtain ⟨u1, hz, qz⟩ := q.get (List.getElem?_eq_getElem hi)
    rw [hz] at hv
    cases hv
    exact ⟨w'.fix T (.tup [.int (i : Nat), z1]), _, Wd.fix_ext ok nT, Wd.fix_ok ok nT, rfl, rfl, enum_at hi, pair_new ok nT (.int _) (qz.keep x.kp)⟩
end
/-- a place, walked as it stands -/
structure SrcC (K : KW) (J : L2.It) (w : Wd) (n : Nat) : Prop where
  go : ∀ (i : Nat) (w' : Wd) (ds : List PyData), Ext0 w w' → Ok K w' → w'.h[n]? = some (.lst ds) → i < ds.length → J.go i w'.H
  stop : ∀ (i : Nat) (w' : Wd) (ds : List PyData), Ext0 w w' → Ok K w' → w'.h[n]? = some (.lst ds) → ds.length ≤ i → J.stop i w'.H
  yld : ∀ (i : Nat) (w' : Wd) (ds : List PyData) (x : V) (H' : Hp), Ext0 w w' → Ok K w' → w'.h[n]? = some (.lst ds) → i < ds.length → J.yld i w'.H x H' → H' = w'.H ∧ ∃ d, ds[i]? = some d ∧ VR K w' (.d d) x
def SrcS (K : KW) (J : L2.It) (w : Wd) : Itm → Prop
  | .items vs => Src K J w vs
  | .cell n => SrcC K J w n
theorem src_cell {K : KW} {w : Wd} {n : Nat} (hl : n < w.h.length) : SrcC K (Itl K (w.r n)) w n := by
  have key : ∀ (w' : Wd) (ds : List PyData), Ext0 w w' → Ok K w' → w'.h[n]? = some (.lst ds) → ∃ xs, w'.H (w.r n) = some (.lst xs) ∧ Rps K w'.F w'.H xs ds := fun w' ds x ok e => by
    obtain ⟨_, xs, hx, q⟩ := ok.cel n _ e
    rw [x.rh n hl] at hx
    exact ⟨xs, hx, q⟩
  refine ⟨fun i w' ds x ok e hi => ?_, fun i w' ds x ok e hi => ?_, fun i w' ds v H' x ok e hi y => ?_⟩
  · obtain ⟨xs, hx, q⟩ := key w' ds x ok e
    exact ⟨xs, xs[i]'(by rw [q.length]; exact hi), .inl (.inl hx), List.getElem?_eq_getElem _⟩
  · obtain ⟨xs, hx, q⟩ := key w' ds x ok e
    exact ⟨xs, .inl (.inl hx), by rw [q.length]; exact hi⟩
  · obtain ⟨xs, hx, q⟩ := key w' ds x ok e
    obtain ⟨rfl, y⟩ := y
    have hv := y xs (.inl (.inl hx))
    obtain ⟨z, hz, qz⟩ := q.get (List.getElem?_eq_getElem hi)
    rw [hz] at hv
    cases hv
    exact ⟨rfl, _, List.getElem?_eq_getElem hi, .d qz⟩
def tI (K : KW) (m : Ee → Hh → Out Itm) : TI := fun σ H R => ∃ (w : Wd) (e : Ee) (items : Itm) (h' : Hh), w.H = H ∧ Ok K w ∧ ER K w e σ ∧ m e w.h = .ok items h' ∧
  ∀ (w' : Wd) (J : L2.It), Ext w w' → Ok K w' → w'.h = h' → SrcS K J w' items → R J w'.H
section
variable {X : Cx} {Φ : String → List PV → Hh → Out PV}
/-- what a fixed list or tuple is -/
theorem rp_list {K : KW} {F : Addr → Prop} {H : Hp} {v : V} {ds : List PyData} (q : Rp K F H v (.list ds)) : ∃ a xs, v = .ref a ∧ F a ∧ Rd H a (.lst xs) ∧ Rps K F H xs ds := by
  cases q with
  | lst f r s => exact ⟨_, _, rfl, f, r, s⟩
theorem rp_tup {K : KW} {F : Addr → Prop} {H : Hp} {v : V} {ds : List PyData} (q : Rp K F H v (.tuple ds)) : ∃ a xs, v = .ref a ∧ ((F a ∧ Rd H a (.tup xs)) ∨ KT K a xs) ∧ Rps K F H xs ds := by
  cases q with
  | tup f r s => exact ⟨_, _, rfl, .inl ⟨f, r⟩, s⟩
  | tupK r s => exact ⟨_, _, rfl, .inr r, s⟩
theorem sqT_now {K : KW} {F : Addr → Prop} {H : Hp} {a : Addr} {xs : List V} (h : (F a ∧ Rd H a (.tup xs)) ∨ KT K a xs) : SqT K H a xs := sqT_keep (Kp.refl F H) h
theorem pi_seq {tg a : Expr} {e : E} (q : PE X a (tE X.kw (ev Φ e))) : PI X tg a (tI X.kw (evIt Φ (.seq e))) := by
  refine ⟨fun pins s σ H R I t => ?_⟩
  obtain ⟨w, r, items, h', rfl, ok, er, m, p⟩ := t
  simp only [evIt] at m
  obtain ⟨x, h1, qa, m⟩ := Out.bind_eq_ok m
  unfold seqS at m
  split at m
  · rename_i n
    split at m
    · rename_i ds hn
      cases m
      refine (pi_list q).run pins s σ _ R I ⟨w, r, _, _, rfl, ok, er, qa, fun w1 v x1 ok1 e1 r1 => ?_⟩
      subst e1
      cases r1 with
      | cell hl ev =>
        obtain ⟨_, xs, hx, _⟩ := ok1.cel n _ hn
        exact ⟨_, ev, ⟨xs, .inl (.inl hx)⟩, p w1 _ x1 ok1 rfl (src_cell hl)⟩
    · cases m
  obtain ⟨vs, h2, m, mm⟩ := Out.bind_eq_ok m
  cases mm
  unfold seqM at m
  split at m
  · cases m
    refine (pi_list q).run pins s σ _ R I ⟨w, r, _, _, rfl, ok, er, qa, fun w1 v x1 ok1 e1 r1 => ?_⟩
    cases r1 with
    | d r1 =>
      obtain ⟨l, xs, rfl, f, rd, qs⟩ := rp_list r1
      exact ⟨l, rfl, ⟨xs, .inl rd⟩, p w1 _ x1 ok1 e1 (src_list f rd qs)⟩
  · cases m
    refine (pi_tup q).run pins s σ _ R I ⟨w, r, _, _, rfl, ok, er, qa, fun w1 v x1 ok1 e1 r1 => ?_⟩
    cases r1 with
    | d r1 =>
      obtain ⟨l, xs, rfl, rd, qs⟩ := rp_tup r1
      exact ⟨l, rfl, ⟨xs, sqT_now rd⟩, p w1 _ x1 ok1 e1 (src_tup rd qs)⟩
  · cases m
    refine (pi_tup q).run pins s σ _ R I ⟨w, r, _, _, rfl, ok, er, qa, fun w1 v x1 ok1 e1 r1 => ?_⟩
    cases r1 with
    | tc f rd qs => exact ⟨_, rfl, ⟨_, .inl rd⟩, p w1 _ x1 ok1 e1 (src_tc f rd qs)⟩
  · cases m
theorem tA_imp {K : KW} {m : Ee → Hh → Out (List PV)} {σ : L2.St} {H : Hp} {Q Q' : List V → Hp → Prop} (t : tA K m σ H Q) (h : ∀ vs H, Q vs H → Q' vs H) : tA K m σ H Q' := by
  obtain ⟨w, e, rs, h', a, b, c, d, p⟩ := t
  exact ⟨w, e, rs, h', a, b, c, d, fun w' vs x ok e r => h _ _ (p w' vs x ok e r)⟩
theorem pi_r1 {D : Defs} {k : Nat} {c : Ctx} {x : Str} {e : E} {tg a : Expr} {px pos : Pos} (o : CtxOk D k c X) (hb : builtinB c "range" x = true) (pl : plainA a = true) (q : PE X a (tE X.kw (ev Φ e))) : PI X tg (.Call (.Name x px) [a] [] pos) (tI X.kw (evIt Φ (.rng1 e))) := by
  obtain ⟨rfl, hg, hm⟩ := o.blt hb
  refine ⟨fun pins s σ H R I t => (pi_range1 hg hm (pa_cons q pa_nil (starEach_plain pl)) (starEach_plain pl)).run pins s σ H R I ?_⟩
  obtain ⟨w, r, items, h', rfl, ok, er, m, p⟩ := t
  simp only [evIt] at m
  obtain ⟨v, h1, qa, m⟩ := Out.bind_eq_ok m
  refine ⟨w, r, v, h1, rfl, ok, er, qa, fun w1 z x1 ok1 e1 r1 => ?_⟩
  unfold rng1M at m
  split at m
  · rename_i b
    split at m
    · rename_i hl
      cases m
      cases r1 with
      | d r1 =>
        cases r1
        have hl : -(16777216 : Int) ≤ b ∧ b ≤ 16777216 := hl
        refine ⟨b, rfl, by omega, by omega, ?_⟩
        have z := p w1 (Itr 0 (b - 0).toNat) x1 ok1 e1 src_rng
        rw [Int.sub_zero] at z
        exact z
    · cases m
  · cases m
theorem pi_r2 {D : Defs} {k : Nat} {c : Ctx} {x : Str} {e f : E} {tg a b : Expr} {px pos : Pos} (o : CtxOk D k c X) (hb : builtinB c "range" x = true) (pl : plainA a = true) (pl2 : plainA b = true) (q : PE X a (tE X.kw (ev Φ e))) (q2 : PE X b (tE X.kw (ev Φ f))) :
    PI X tg (.Call (.Name x px) [a, b] [] pos) (tI X.kw (evIt Φ (.rng2 e f))) := by
  obtain ⟨rfl, hg, hm⟩ := o.blt hb
  refine ⟨fun pins s σ H R I t => (pi_range2 hg hm (pa_cons q (pa_cons q2 pa_nil (starEach_plain pl2)) (starEach_plain pl)) (by rw [starEach_plain pl, starEach_plain pl2]; rfl) (by rw [starEach_plain pl2]; rfl)).run pins s σ H R I ?_⟩
  obtain ⟨w, r, items, h', rfl, ok, er, m, p⟩ := t
  simp only [evIt] at m
  obtain ⟨v, h1, qa, m1⟩ := Out.bind_eq_ok m
  obtain ⟨u, h2, qb, m2⟩ := Out.bind_eq_ok m1
  clear m m1
  refine ⟨w, r, v, h1, rfl, ok, er, qa, fun w1 z x1 ok1 e1 r1 => ?_⟩
  subst e1
  refine ⟨w1, r, u, h2, rfl, ok1, er.ext x1, qb, fun w2 z2 x2 ok2 e2 r2 => ?_⟩
  unfold rng2M at m2
  split at m2
  · rename_i a b
    split at m2
    · rename_i hl
      cases m2
      have hl : -(16777216 : Int) ≤ a ∧ a ≤ 16777216 ∧ -(16777216 : Int) ≤ b ∧ b ≤ 16777216 := hl
      cases r1 with
      | d r1 =>
        cases r1
        cases r2 with
        | d r2 =>
          cases r2
          exact ⟨a, b, rfl, ⟨by omega, by omega, by omega, by omega⟩, p w2 (Itr a (b - a).toNat) (x1.trans x2) ok2 e2 src_rng⟩
    · cases m2
  · cases m2
theorem pi_zp {D : Defs} {k : Nat} {c : Ctx} {x : Str} {e f : E} {a b : Expr} {elts : List Expr} {kk : Nat} {tpos px pos : Pos} (o : CtxOk D k c X) (hb : builtinB c "zip" x = true) (pl : plainA a = true) (pl2 : plainA b = true) (q : PE X a (tE X.kw (ev Φ e))) (q2 : PE X b (tE X.kw (ev Φ f))) :
    PI X (.Tuple elts kk tpos) (.Call (.Name x px) [a, b] [] pos) (tI X.kw (evIt Φ (.zip e f))) := by
  obtain ⟨rfl, hg, hm⟩ := o.blt hb
  refine ⟨fun pins s σ H R I t => (RZ.pi_zipA hg hm (pa_cons q (pa_cons q2 pa_nil (starEach_plain pl2)) (starEach_plain pl)) (starEach_plain pl) (noStar (by rw [List.all_cons, pl2]; rfl))).run pins s σ H R I ?_⟩
  obtain ⟨w, r, items, h', rfl, ok, er, m, p⟩ := t
  simp only [evIt] at m
  obtain ⟨v, h1, qa, m1⟩ := Out.bind_eq_ok m
  obtain ⟨u, h2, qb, m2⟩ := Out.bind_eq_ok m1
  clear m m1
  refine ⟨w, r, v, h1, rfl, ok, er, qa, fun w1 z x1 ok1 e1 r1 => ?_⟩
  subst e1
  refine ⟨w1, r, u, h2, rfl, ok1, er.ext x1, qb, fun w2 z2 x2 ok2 e2 r2 => ?_⟩
  unfold zipM at m2
  split at m2
  · cases m2
    have r1 := r1.ext x2
    cases r1 with
    | d r1 =>
      cases r2 with
      | d r2 =>
        obtain ⟨l, xs, rfl, f1, rd1, qs1⟩ := rp_list r1
        obtain ⟨l2, ys, rfl, f2, rd2, qs2⟩ := rp_list r2
        exact ⟨l, l2, xs, ys, rfl, .inl ⟨.inl rd1, .inl rd2, p w2 _ (x1.trans x2) ok2 e2 (src_zip f1 rd1 qs1 f2 rd2 qs2)⟩⟩
  · cases m2
    have r1 := r1.ext x2
    cases r1 with
    | d r1 =>
      cases r2 with
      | d r2 =>
        obtain ⟨l, xs, rfl, rd1, qs1⟩ := rp_tup r1
        obtain ⟨l2, ys, rfl, rd2, qs2⟩ := rp_tup r2
        exact ⟨l, l2, xs, ys, rfl, .inr ⟨sqT_now rd1, sqT_now rd2, p w2 _ (x1.trans x2) ok2 e2 (src_zipT rd1 qs1 rd2 qs2)⟩⟩
  · cases m2
theorem pi_en {D : Defs} {k : Nat} {c : Ctx} {x : Str} {e : E} {a : Expr} {elts : List Expr} {kk : Nat} {tpos px pos : Pos} (o : CtxOk D k c X) (hb : builtinB c "enumerate" x = true) (pl : plainA a = true) (q : PE X a (tE X.kw (ev Φ e))) :
    PI X (.Tuple elts kk tpos) (.Call (.Name x px) [a] [] pos) (tI X.kw (evIt Φ (.enum e))) := by
  obtain ⟨rfl, hg, hm⟩ := o.blt hb
  refine ⟨fun pins s σ H R I t => (pi_enum hg hm (pa_cons q pa_nil (starEach_plain pl)) (starEach_plain pl)).run pins s σ H R I ?_⟩
  obtain ⟨w, r, items, h', rfl, ok, er, m, p⟩ := t
  simp only [evIt] at m
  obtain ⟨v, h1, qa, m⟩ := Out.bind_eq_ok m
  refine ⟨w, r, v, h1, rfl, ok, er, qa, fun w1 z x1 ok1 e1 r1 => ?_⟩
  unfold enumM at m
  split at m
  · cases m
    cases r1 with
    | d r1 =>
      obtain ⟨l, xs, rfl, f1, rd1, qs1⟩ := rp_list r1
      exact ⟨l, xs, rfl, .inl rd1, p w1 _ x1 ok1 e1 (src_enum f1 rd1 qs1)⟩
  · cases m
end
end PL

set_option maxRecDepth 100000
set_option maxHeartbeats 4000000
/-! PL7: targets and comprehensions. -/
namespace PL
open PySem PySem.Spec PyProof.Rows L2

/-! ### targets -/
mutual
def slots : Tg → List Nat
  | .nm i => [i]
  | .tup ts => slotss ts
def slotss : List Tg → List Nat
  | [] => []
  | t :: ts => slots t ++ slotss ts
end
def Off (is : List Nat) (σ σ' : L2.St) : Prop := σ'.length = σ.length ∧ ∀ j : Nat, j ∉ is → σ'[j]? = σ[j]?
theorem Off.refl (is : List Nat) (σ : L2.St) : Off is σ σ := ⟨rfl, fun _ _ => rfl⟩
theorem Off.trans {is js : List Nat} {σ σ1 σ2 : L2.St} (a : Off is σ σ1) (b : Off js σ1 σ2) : Off (is ++ js) σ σ2 :=
  ⟨b.1.trans a.1, fun j h => by
    rw [List.mem_append, not_or] at h
    exact (b.2 j h.2).trans (a.2 j h.1)⟩
theorem Off.set (i : Nat) (v : Option V) (σ : L2.St) : Off [i] σ (σ.set i v) :=
  ⟨List.length_set, fun j h => List.getElem?_set_ne (by intro z; subst z; simp at h)⟩
mutual
def mT (c : Ctx) : Tg → Expr → Bool
  | .nm i, a => match a with
    | .Name x _ => decide (c.N[i]? = some x) && locB c x
    | _ => false
  | .tup ts, a => match a with
    | .Tuple es _ _ => !c.hot && mTs c ts es
    | _ => false
def mTs (c : Ctx) : List Tg → List Expr → Bool
  | [], [] => true
  | t :: ts, a :: as => plainA a && mT c t a && mTs c ts as
  | _, _ => false
end
def gT (K : KW) (t : Tg) : TG := fun v σ H Q => ∃ (w : Wd) (e : Ee) (p : PV) (e' : Ee), w.H = H ∧ Ok K w ∧ ER K w e σ ∧ VR K w p v ∧ setT t e p = some e' ∧
  ∀ (w' : Wd) (σ' : L2.St), Ext w w' → Ok K w' → w'.h = w.h → ER K w' e' σ' → Off (slots t) σ σ' → Q σ' w'.H
def gTs (K : KW) (ts : List Tg) : TGs := fun vs σ H Q => ∃ (w : Wd) (e : Ee) (ps : List PV) (e' : Ee), w.H = H ∧ Ok K w ∧ ER K w e σ ∧ VRs K w ps vs ∧ setTs ts e ps = some e' ∧
  ∀ (w' : Wd) (σ' : L2.St), Ext w w' → Ok K w' → w'.h = w.h → ER K w' e' σ' → Off (slotss ts) σ σ' → Q σ' w'.H
theorem assignEach_plain {e : Expr} {es : List Expr} {env : Env} (h : plainA e = true) : assignEach (e :: es) env = (false, assign e env) :: assignEach es env := by
  cases e <;> first | rfl | cases h
theorem assignEach_len {env : Env} : ∀ {es : List Expr}, es.all plainA = true → (assignEach es env).length = es.length
  | [], _ => rfl
  | e :: es, h => by
    rw [List.all_cons, Bool.and_eq_true] at h
    rw [assignEach_plain h.1, List.length_cons, List.length_cons, assignEach_len h.2]
theorem assignEach_find {env : Env} {es : List Expr} (h : es.all plainA = true) : (assignEach es env).findIdx? (·.1) = none := by
  have q : ∀ es : List Expr, es.all plainA = true → ∀ x ∈ assignEach es env, x.1 = false := by
    intro es
    induction es with
    | nil =>
      intro _ x hx
      cases hx
    | cons e es ih =>
      intro h x hx
      rw [List.all_cons, Bool.and_eq_true] at h
      rw [assignEach_plain h.1] at hx
      rcases List.mem_cons.mp hx with rfl | hx
      · rfl
      · exact ih h.2 x hx
  exact List.findIdx?_eq_none_iff.mpr (q es h)
theorem mTs_plain {c : Ctx} : ∀ {ts : List Tg} {as : List Expr}, mTs c ts as = true → as.all plainA = true ∧ ts.length = as.length
  | [], [], _ => ⟨rfl, rfl⟩
  | [], _ :: _, h => by simp [mTs] at h
  | _ :: _, [], h => by simp [mTs] at h
  | t :: ts, a :: as, h => by
    simp only [mTs, Bool.and_eq_true] at h
    obtain ⟨h1, h2⟩ := mTs_plain h.2
    exact ⟨by rw [List.all_cons, Bool.and_eq_true]; exact ⟨h.1.1, h1⟩, by rw [List.length_cons, List.length_cons, h2]⟩
theorem vrs_map {K : KW} {w : Wd} : ∀ {xs : List V} {ds : List PyData}, Rps K w.F w.H xs ds → VRs K w (ds.map .d) xs
  | _, _, .nil => .nil
  | _, _, .cons a b => .cons (.d a) (vrs_map b)
section
variable {D : Defs} {k : Nat} {c : Ctx} {X : Cx}
theorem pg_tup_of {ts : List Tg} {es : List Expr} {kk : Nat} {pos : Pos} (o : CtxOk D k c X) (nh : c.hot = false) (m : mTs c ts es = true) (h : PGs X es (gTs X.kw ts)) : PG X (.Tuple es kk pos) (gT X.kw (.tup ts)) := by
  obtain ⟨pl, len⟩ := mTs_plain m
  have hn : (assignEach es X.env).length = es.length := assignEach_len pl
  have hf := assignEach_find (env := X.env) pl
  refine ⟨fun pins s σ H v u Q I r g => ?_⟩
  obtain ⟨w, e, p, e', rfl, ok, er, rv, q, post⟩ := g
  simp only [setT] at q
  split at q
  · rename_i ds
    split at q
    · rename_i hl
      cases rv with
      | d rv =>
        obtain ⟨a, xs, rfl, hx, qs⟩ := vw_tup ok rv
        exact (pg_tup (o.calm nh) h hn hf).run pins s σ _ _ u Q I r ⟨a, xs, rfl, hx, by rw [qs.length, ← hl, len], w, e, _, e', rfl, ok, er, vrs_map qs, q, post⟩
    · cases q
  · rename_i ds
    split at q
    · rename_i hl
      cases rv with
      | d rv =>
        obtain ⟨a, xs, rfl, f, hx, qs⟩ := rp_list rv
        exact (pg_lst (o.calm nh) h hn hf).run pins s σ _ _ u Q I r ⟨a, xs, rfl, .inl hx, by rw [qs.length, ← hl, len], w, e, _, e', rfl, ok, er, vrs_map qs, q, post⟩
    · cases q
  · rename_i ps
    split at q
    · rename_i hl
      cases rv with
      | tc f hx qs =>
        exact (pg_tup (o.calm nh) h hn hf).run pins s σ _ _ u Q I r ⟨_, _, rfl, .inl hx, by rw [← qs.length, ← hl, len], w, e, _, e', rfl, ok, er, qs, q, post⟩
    · cases q
  · cases q
mutual
theorem pg_ok (o : CtxOk D k c X) : ∀ (t : Tg) (a : Expr), mT c t a = true → PG X a (gT X.kw t)
  | .nm i, a, m => by
    simp only [mT] at m
    split at m
    · rename_i x pos
      rw [Bool.and_eq_true] at m
      obtain ⟨hl, hf⟩ := o.loc m.2
      refine (pg_name (by rw [o.N]; exact o.nd) (by rw [o.N]; exact of_decide_eq_true m.1) hl hf).of fun v σ H Q g => ?_
      obtain ⟨w, e, p, e', rfl, ok, er, rv, q, post⟩ := g
      simp only [setT] at q
      cases q
      exact post w _ (Ext.refl w) ok rfl (er.set i rv) (Off.set i _ σ)
    · cases m
  | .tup ts, a, m => by
    simp only [mT] at m
    split at m
    · rw [Bool.and_eq_true, Bool.not_eq_true'] at m
      exact pg_tup_of o m.1 m.2 (pgs_ok o ts _ m.2)
    · cases m
theorem pgs_ok (o : CtxOk D k c X) : ∀ (ts : List Tg) (as : List Expr), mTs c ts as = true → PGs X as (gTs X.kw ts)
  | [], [], _ => ⟨fun pins s σ H vs us Q I r g => (pgs_nil (X := X)).run pins s σ H vs us Q I r (by
      obtain ⟨w, e, ps, e', rfl, ok, er, rv, q, post⟩ := g
      cases ps with
      | nil =>
        simp only [setTs] at q
        cases q
        cases rv
        exact ⟨rfl, post w σ (Ext.refl w) ok rfl er (Off.refl _ σ)⟩
      | cons _ _ => simp [setTs] at q)⟩
  | [], _ :: _, m => by simp [mTs] at m
  | _ :: _, [], m => by simp [mTs] at m
  | t :: ts, a :: as, m => by
    simp only [mTs, Bool.and_eq_true] at m
    have h1 := pg_ok o t a m.1.2
    have h2 := pgs_ok o ts as m.2
    refine ⟨fun pins s σ H vs us Q I r g => (pgs_cons h1 h2 (by rw [assignEach_plain m.1.1]; rfl)).run pins s σ H vs us Q I r ?_⟩
    obtain ⟨w, e, ps, e', rfl, ok, er, rv, q, post⟩ := g
    cases rv with
    | nil => simp [setTs] at q
    | cons rv1 rvr =>
      simp only [setTs] at q
      split at q
      · rename_i e1 h1
        refine ⟨_, _, rfl, w, e, _, e1, rfl, ok, er, rv1, h1, fun w1 σ1 x1 ok1 hh1 er1 off1 => ?_⟩
        refine ⟨w1, e1, _, e', rfl, ok1, er1, rvr.ext x1, q, fun w2 σ2 x2 ok2 hh2 er2 off2 => ?_⟩
        exact post w2 σ2 (x1.trans x2) ok2 (hh2.trans hh1) er2 (off1.trans off2)
      · cases q
end
end

/-! ### the block of a comprehension -/
def blkCtx (c : Ctx) (scope : Scope) : Ctx := { c with sc := relS scope c.sc, fnm := fun x => scope.names.lookup x == some .cell }
theorem ctx_blk {D : Defs} {k : Nat} {c : Ctx} {X : Cx} (o : CtxOk D k c X) {scope : Scope} (hk : scope.kind = .function) (s : Shared) (H : Hp) (C : Addr) (cl : List (Str × Addr)) (fp : List Addr) :
    CtxOk D k (blkCtx c scope) (X.blk s H scope (compEnvC scope cl C X.env) fp) where
  N := o.N
  sc := by
    show relS scope X.env.scope = relS scope c.sc
    rw [o.sc]
  fn := rfl
  calm := o.calm
  nd := o.nd
  room := o.room
  u65 := o.u65
  fk := hk
  gl := o.gl
  fs := o.fs
  ex := o.ex
/-- a list under way is held aside -/
theorem adopt_fix {K : KW} {w : Wd} {q : Addr} {xs : List V} (ok : Ok K w) (hq : w.H q = some (.lst xs)) (nf : ¬ w.F q) (ng : ¬ w.G q) (na : ∀ n c, w.h[n]? = some c → c ≠ Cl.dead → w.r n ≠ q) :
    Ext w ⟨fun a => a = q ∨ w.F a, w.H, w.r, w.h, w.G⟩ ∧ Ok K ⟨fun a => a = q ∨ w.F a, w.H, w.r, w.h, w.G⟩ := by
  refine ⟨⟨⟨⟨fun _ f => .inr f, fun _ _ _ e => e⟩, fun _ _ => rfl, Nat.le_refl _⟩, rfl, fun _ _ => rfl⟩, ⟨fun a f => ?_, fun n c e => ?_, ok.inj, fun a g => ?_⟩⟩
  · rcases f with rfl | f
    · exact ⟨_, hq⟩
    · exact ok.live a f
  · rcases dead_or c with rfl | nd
    · exact True.intro
    refine ClOk.keep (w' := ⟨fun a => a = q ∨ w.F a, w.H, w.r, w.h, w.G⟩) ⟨fun _ f => .inr f, fun _ _ _ e => e⟩ (fun nf' f => ?_) (fun _ => rfl) (ok.cel n c e)
    rcases f with f | f
    · exact na n c e nd f
    · exact nf' f
  · obtain ⟨g1, g2, g3⟩ := ok.gd a g
    refine ⟨fun f => ?_, g2, g3⟩
    rcases f with f | f
    · subst f
      exact ng g
    · exact g1 f
theorem adopt_new {K : KW} {w : Wd} {q : Addr} {xs : List V} {ds : List PyData} (ok : Ok K w) (hq : w.H q = some (.lst xs)) (nf : ¬ w.F q) (ng : ¬ w.G q) (na : ∀ n c, w.h[n]? = some c → c ≠ Cl.dead → w.r n ≠ q) (r : Rps K w.F w.H xs ds) :
    Ext w ⟨w.F, w.H, fun n => if n = w.h.length then q else w.r n, w.h ++ [.lst ds], w.G⟩ ∧ Ok K ⟨w.F, w.H, fun n => if n = w.h.length then q else w.r n, w.h ++ [.lst ds], w.G⟩ := by
  have at_ : ∀ n d, (w.h ++ [Cl.lst ds])[n]? = some d → (n < w.h.length ∧ w.h[n]? = some d) ∨ (n = w.h.length ∧ d = .lst ds) := fun n d e => by
    by_cases hn : n < w.h.length
    · rw [List.getElem?_append_left hn] at e
      exact .inl ⟨hn, e⟩
    · rw [List.getElem?_append_right (Nat.le_of_not_lt hn)] at e
      have h0 : n - w.h.length = 0 := by
        cases q : n - w.h.length with
        | zero => rfl
        | succ m =>
          rw [q] at e
          simp at e
      rw [h0] at e
      simp at e
      exact .inr ⟨by omega, e.symm⟩
  have hl : w.h.length ≤ (w.h ++ [Cl.lst ds]).length := by
    rw [List.length_append]
    exact Nat.le_add_right _ _
  refine ⟨⟨⟨Kp.refl _ _, fun n h => if_neg (Nat.ne_of_lt h), hl⟩, rfl, fun _ _ => rfl⟩, ⟨ok.live, fun n d e => ?_, fun n m cn cm e1 e2 n1 n2 z => ?_, fun a g => ?_⟩⟩
  · rcases at_ n d e with ⟨hn, e⟩ | ⟨hn, hd⟩
    · show ClOk K _ (if n = w.h.length then q else w.r n) d
      rw [if_neg (Nat.ne_of_lt hn)]
      rcases dead_or d with rfl | nd
      · exact True.intro
      exact ClOk.keep (w' := ⟨w.F, w.H, fun n => if n = w.h.length then q else w.r n, w.h ++ [.lst ds], w.G⟩) (Kp.refl _ _) (fun f => f) (fun _ => rfl) (ok.cel n d e)
    · show ClOk K _ (if n = w.h.length then q else w.r n) d
      rw [if_pos hn, hd]
      exact ⟨nf, xs, hq, r⟩
  · replace z : (if n = w.h.length then q else w.r n) = (if m = w.h.length then q else w.r m) := z
    rcases at_ n cn e1 with ⟨hn, f1⟩ | ⟨hn, _⟩
    · rcases at_ m cm e2 with ⟨hm, f2⟩ | ⟨hm, _⟩
      · rw [if_neg (Nat.ne_of_lt hn), if_neg (Nat.ne_of_lt hm)] at z
        exact ok.inj n m cn cm f1 f2 n1 n2 z
      · rw [if_neg (Nat.ne_of_lt hn), if_pos hm] at z
        exact absurd z (na n cn f1 n1)
    · rcases at_ m cm e2 with ⟨hm, f2⟩ | ⟨hm, _⟩
      · rw [if_pos hn, if_neg (Nat.ne_of_lt hm)] at z
        exact absurd z.symm (na m cm f2 n2)
      · rw [hn, hm]
  · obtain ⟨g1, g2, g3⟩ := ok.gd a g
    refine ⟨g1, g2, fun n d e nd => ?_⟩
    show (if n = w.h.length then q else w.r n) ≠ a
    rcases at_ n d e with ⟨hn, f1⟩ | ⟨hn, _⟩
    · rw [if_neg (Nat.ne_of_lt hn)]
      exact g3 n d f1 nd
    · rw [if_pos hn]
      intro z
      subst z
      exact ng g
theorem wipe_off {is vs : List Nat} {σ σ' : L2.St} (h : Off is σ σ') (hs : ∀ i ∈ is, i ∈ vs) : wipe σ' vs = wipe σ vs := by
  have len : ∀ (τ : L2.St) (vs : List Nat), (wipe τ vs).length = τ.length := wipe_length
  have at_ : ∀ (τ : L2.St) (vs : List Nat) (j : Nat), (wipe τ vs)[j]? = if j ∈ vs then (if j < τ.length then some none else none) else τ[j]? := by
    intro τ vs
    induction vs with
    | nil =>
      intro j
      simp [wipe]
    | cons v vs ih =>
      intro j
      unfold wipe
      by_cases hj : j = v
      · subst hj
        by_cases hl : j < τ.length
        · rw [List.getElem?_set_self (by rw [len]; exact hl)]
          simp [hl]
        · rw [List.getElem?_eq_none (by rw [List.length_set, len]; omega)]
          simp [hl]
      · rw [List.getElem?_set_ne (Ne.symm hj), ih]
        simp [hj]
  refine List.ext_getElem? fun j => ?_
  rw [at_, at_, h.1]
  by_cases hj : j ∈ vs
  · rw [if_pos hj, if_pos hj]
  · rw [if_neg hj, if_neg hj]
    exact h.2 j fun z => hj (hs j z)
theorem wipe_wipe {vs : List Nat} {σ : L2.St} : wipe (wipe σ vs) vs = wipe σ vs := by
  refine wipe_off (is := vs) ⟨wipe_length σ vs, fun j hj => ?_⟩ fun i h => h
  have : ∀ (vs : List Nat), j ∉ vs → (wipe σ vs)[j]? = σ[j]? := by
    intro vs
    induction vs with
    | nil => intro _; rfl
    | cons v vs ih =>
      intro h
      rw [List.mem_cons, not_or] at h
      unfold wipe
      rw [List.getElem?_set_ne (Ne.symm h.1), ih h.2]
  exact this vs hj
section
variable {X : Cx} {Φ : String → List PV → Hh → Out PV}
/-- the turns of a comprehension, from its rule's reading -/
theorem tLc_cell {K : KW} {c : Bool} {t : Tg} {cond : Ee → Hh → Out Bool} {elt : EM} {own : List Nat} {σ : L2.St} {Q : VK} {e : Ee} {w1 : Wd} {J : L2.It} {n : Nat} {ds : List PyData} {h2 h' : Hh} {rv : PV} {L : Addr} (hs : ∀ i ∈ slots t, i ∈ own)
    (src : SrcC K J w1 n) (ok1 : Ok K w1) (er1 : ER K w1 (wipeE e own) (wipe σ own)) (qb : compC t cond elt (wipeE e own) n (line + 1) 0 w1.h = .ok ds h2) (qc : mkL c ds h2 = .ok rv h') (p1 : Post K w1 h' rv Q) (hL : w1.H L = none) :
    ∃ W : Nat → Nat → Hp → Prop, (∃ m, W 0 m (upd w1.H L (.lst []))) ∧ ∀ i m H, W i m H →
  (J.stop i H ∧ Q (.ref L) H) ∨ (J.go i H ∧ ∃ Nx : Hp → Prop, (∀ H', Nx H' → ∃ m', m' < m ∧ W (i + 1) m' H') ∧ ∀ x H', J.yld i H x H' → gT K t x (wipe σ own) H' fun σ2 H2 => wipe σ2 own = wipe σ own ∧ tT K cond σ2 H2 fun b H3 =>
    if b = true then tE K elt σ2 H3 fun y H4 => ∃ acc, H4 L = some (.lst acc) ∧ acc.length < sizeLine ∧ Nx (upd H4 L (.lst (acc ++ [y]))) else Nx H3) := by
  have nfL := ok1.fresh hL
  -- the state ahead of turn i
  refine ⟨fun i m H => ∃ (w2 : Wd) (acc rest : List PyData) (xs : List V), w2.H = H ∧ Ok K w2 ∧ Ext0 w1 w2 ∧ w2.G = (fun a => a = L ∨ w1.G a) ∧ (∀ a, w1.G a → w2.H a = w1.H a) ∧ w2.H L = some (.lst xs) ∧ Rps K w2.F w2.H xs acc ∧
      acc.length ≤ i ∧ acc ++ rest = ds ∧ compC t cond elt (wipeE e own) n m i w2.h = .ok rest h2, ⟨line + 1, ?_⟩, ?_⟩
  · have kp0 : Kp w1.F w1.H w1.F (upd w1.H L (.lst [])) := ⟨fun _ f => f, fun a u _ e => by rw [upd_ne (ne_of_none e hL)]; exact e⟩
    refine ⟨⟨w1.F, upd w1.H L (.lst []), w1.r, w1.h, fun a => a = L ∨ w1.G a⟩, [], ds, [], rfl, ⟨fun a f => ?_, fun n' cc e => ?_, ok1.inj, fun a g => ?_⟩, ⟨kp0, fun _ _ => rfl, Nat.le_refl _⟩, rfl, fun a g => upd_ne (ok1.gne g hL), upd_same, .nil, Nat.zero_le _, rfl, qb⟩
    · obtain ⟨u, e⟩ := ok1.live a f
      exact ⟨u, kp0.fr a u f e⟩
    · rcases dead_or cc with rfl | nd
      · exact True.intro
      obtain ⟨u, hu⟩ := (ok1.cel n' cc e).there nd
      exact ClOk.keep (w' := ⟨w1.F, upd w1.H L (.lst []), w1.r, w1.h, fun a => a = L ∨ w1.G a⟩) kp0 (fun f => f) (fun _ => upd_ne (ne_of_none hu hL)) (ok1.cel n' cc e)
    · rcases g with rfl | g
      · refine ⟨nfL, ⟨_, upd_same⟩, fun n' cc e nd => ?_⟩
        obtain ⟨u, hu⟩ := (ok1.cel n' cc e).there nd
        exact ne_of_none hu hL
      · obtain ⟨g1, ⟨u, g2⟩, g3⟩ := ok1.gd a g
        exact ⟨g1, ⟨u, (upd_ne (ne_of_none g2 hL)).trans g2⟩, g3⟩
  · rintro i m H ⟨w2, acc, rest, xs, rfl, ok2, x2, g2, gh2, hL2, qs, hacc, hds, run⟩
    have L2 := ok2.gd L (by rw [g2]; exact .inl rfl)
    cases m with
    | zero =>
      unfold compC at run
      cases run
    | succ m =>
    unfold compC at run
    split at run
    rotate_left
    · cases run
    rename_i dd hcell
    split at run
    rotate_left
    · rename_i dx hdx
      have hlt : i < dd.length := (List.getElem?_eq_some_iff.mp hdx).1
      refine .inr ⟨src.go i w2 dd x2 ok2 hcell hlt, fun H' => ∃ (w3 : Wd) (acc' rest' : List PyData) (xs' : List V), w3.H = H' ∧ Ok K w3 ∧ Ext0 w1 w3 ∧ w3.G = (fun a => a = L ∨ w1.G a) ∧ (∀ a, w1.G a → w3.H a = w1.H a) ∧ w3.H L = some (.lst xs') ∧ Rps K w3.F w3.H xs' acc' ∧
          acc'.length ≤ i + 1 ∧ acc' ++ rest' = ds ∧ compC t cond elt (wipeE e own) n m (i + 1) w3.h = .ok rest' h2, fun H' nx => ⟨m, by omega, nx⟩, fun x H' y => ?_⟩
      obtain ⟨rfl, d3, hd3, rv3⟩ := src.yld i w2 dd x H' x2 ok2 hcell hlt y
      rw [hdx] at hd3
      cases hd3
      have x3 : Ext w2 w2 := Ext.refl w2
      have ok3 := ok2
      have hh3 : w2.h = w2.h := rfl
      split at run
      · cases run
      · rename_i e3 he3
        obtain ⟨b, h4, rc, run⟩ := Out.bind_eq_ok run
        have er3 : ER K w2 (wipeE e own) (wipe σ own) := er1.ext0 (x2.trans x3.toExt0)
        refine ⟨w2, wipeE e own, .d dx, e3, rfl, ok3, er3, rv3, he3, fun w4 σ4 x4 ok4 hh4 er4 off4 => ?_⟩
        refine ⟨(wipe_off off4 hs).trans (by rw [wipe_wipe]), ?_⟩
        refine ⟨w4, e3, b, h4, rfl, ok4, er4, by rw [hh4, hh3]; exact rc, fun w5 x5 ok5 hh5 => ?_⟩
        have x35 := (x3.trans x4).trans x5
        have g5 : w5.G = (fun a => a = L ∨ w1.G a) := x35.g.trans g2
        have gh5 : ∀ a, w1.G a → w5.H a = w1.H a := fun a ga => (x35.gh a (by rw [g2]; exact .inr ga)).trans (gh2 a ga)
        have hL5 : w5.H L = some (.lst xs) := (x35.gh L (by rw [g2]; exact .inl rfl)).trans hL2
        cases b with
        | false =>
          refine iteF ?_
          exact ⟨w5, acc, rest, xs, rfl, ok5, x2.trans x35.toExt0, g5, gh5, hL5, qs.keep x35.kp, Nat.le_succ_of_le hacc, hds, by rw [hh5]; exact run⟩
        | true =>
          refine iteT ?_
          obtain ⟨yv, h6, re, run⟩ := Out.bind_eq_ok run
          split at run
          · rename_i yd
            obtain ⟨rest6, h7, rr, run⟩ := Out.bind_eq_ok run
            cases run
            refine ⟨w5, e3, .d yd, h6, rfl, ok5, er4.ext x5, by rw [hh5]; exact re, fun w6 v6 x6 ok6 hh6 r6 => ?_⟩
            have x36 := x35.trans x6
            have hL6 : w6.H L = some (.lst xs) := (x6.gh L (by rw [g5]; exact .inl rfl)).trans hL5
            have g6 : w6.G = (fun a => a = L ∨ w1.G a) := x6.g.trans g5
            have L6 := ok6.gd L (by rw [g6]; exact .inl rfl)
            have hacclen : xs.length < sizeLine := by
              have hle := qs.length
              have h8 := mkL_le qc
              have h9 := congrArg List.length hds
              rw [List.length_append, List.length_cons] at h9
              omega
            refine ⟨xs, hL6, hacclen, ?_⟩
            have kp7 : Kp w6.F w6.H w6.F (upd w6.H L (.lst (xs ++ [v6]))) := ⟨fun _ f => f, fun a u f e => by rw [upd_ne (fun z => L6.1 (by rw [← z]; exact f))]; exact e⟩
            cases r6 with
            | d r6 =>
              refine ⟨⟨w6.F, upd w6.H L (.lst (xs ++ [v6])), w6.r, w6.h, w6.G⟩, acc ++ [yd], rest6, xs ++ [v6], rfl, ⟨fun a f => ?_, fun n' cc e => ?_, ok6.inj, fun a g => ?_⟩, ⟨(x2.trans x36.toExt0).kp.trans kp7, (x2.trans x36.toExt0).rh, (x2.trans x36.toExt0).len⟩, g6, fun a ga => ?_, upd_same, ((qs.keep x36.kp).append (.cons r6 .nil)).keep kp7, ?_, ?_, ?_⟩
              · obtain ⟨u, e⟩ := ok6.live a f
                exact ⟨u, kp7.fr a u f e⟩
              · rcases dead_or cc with rfl | nd
                · exact True.intro
                exact ClOk.keep (w' := ⟨w6.F, upd w6.H L (.lst (xs ++ [v6])), w6.r, w6.h, w6.G⟩) kp7 (fun f => f) (fun _ => upd_ne (L6.2.2 n' cc e nd)) (ok6.cel n' cc e)
              · obtain ⟨g1, ⟨u, g3⟩, g4⟩ := ok6.gd a g
                refine ⟨g1, ?_, g4⟩
                by_cases ha : a = L
                · subst ha
                  exact ⟨_, upd_same⟩
                · exact ⟨u, (upd_ne ha).trans g3⟩
              · have ne : a ≠ L := ok1.gne ga hL
                exact (upd_ne ne).trans ((x6.gh a (by rw [g5]; exact .inr ga)).trans (gh5 a ga))
              · rw [List.length_append, List.length_singleton]
                omega
              · rw [List.append_assoc]
                exact hds
              · show compC t cond elt (wipeE e own) n m (i + 1) w6.h = _
                rw [hh6]
                exact rr
          · cases run
    · rename_i hdx
      have hge : dd.length ≤ i := List.getElem?_eq_none_iff.mp hdx
      refine .inl ⟨src.stop i w2 dd x2 ok2 hcell hge, ?_⟩
      cases run
      rw [List.append_nil] at hds
      subst hds
      -- the list is let out
      have okD : Ok K ⟨w2.F, w2.H, w2.r, w2.h, w1.G⟩ := ⟨ok2.live, fun n' cc e => ClOk.keep (w' := ⟨w2.F, w2.H, w2.r, w2.h, w1.G⟩) (Kp.refl _ _) (fun f => f) (fun _ => rfl) (ok2.cel n' cc e), ok2.inj, fun a g => ok2.gd a (by rw [g2]; exact .inr g)⟩
      have xD : Ext w1 ⟨w2.F, w2.H, w2.r, w2.h, w1.G⟩ := ⟨⟨x2.kp, x2.rh, x2.len⟩, rfl, gh2⟩
      have ngL : ¬ w1.G L := fun g => ok1.gne g hL rfl
      have pD := p1.ext xD
      unfold mkL at qc
      split at qc
      · cases c with
        | false =>
          cases qc
          obtain ⟨xa, oka⟩ := adopt_fix (w := ⟨w2.F, w2.H, w2.r, w2.h, w1.G⟩) okD hL2 L2.1 ngL L2.2.2
          exact pD ⟨fun a => a = L ∨ w2.F a, w2.H, w2.r, w2.h, w1.G⟩ (.ref L) xa oka rfl (.d (.lst (.inl rfl) (.inl hL2) (qs.keep xa.kp)))
        | true =>
          cases qc
          obtain ⟨xa, oka⟩ := adopt_new (w := ⟨w2.F, w2.H, w2.r, w2.h, w1.G⟩) okD hL2 L2.1 ngL L2.2.2 qs
          refine pD ⟨w2.F, w2.H, fun n => if n = w2.h.length then L else w2.r n, w2.h ++ [.lst acc], w1.G⟩ (.ref L) xa oka rfl (.cell ?_ ?_)
          · show w2.h.length < (w2.h ++ [Cl.lst acc]).length
            rw [List.length_append]
            exact Nat.lt_succ_self _
          · show V.ref L = V.ref (if w2.h.length = w2.h.length then L else _)
            rw [if_pos rfl]
      · cases qc
theorem tLc_of {K : KW} {c : Bool} {t : Tg} {it : Ee → Hh → Out Itm} {cond : Ee → Hh → Out Bool} {elt : EM} {own : List Nat} {σ : L2.St} {H : Hp} {Q : VK} (hs : ∀ i ∈ slots t, i ∈ own)
    (h : tE K (fun e h => (it e h).bind fun vs h1 => (compS t cond elt (wipeE e own) vs h1).bind fun ds h2 => mkL c ds h2) σ H Q) : tLc (tI K it) (gT K t) (tT K cond) (tE K elt) own σ H Q := by
  obtain ⟨w, e, rv, h', rfl, ok, er, m, p⟩ := h
  obtain ⟨items, h1, qa, m⟩ := Out.bind_eq_ok m
  obtain ⟨ds, h2, qb, qc⟩ := Out.bind_eq_ok m
  clear m
  refine ⟨w, e, items, h1, rfl, ok, er, qa, fun w1 J x1 ok1 e1 src => ?_⟩
  subst e1
  have er1 := (er.ext x1).wipe own
  have p1 := p.ext x1
  clear p qa er ok
  intro L hL
  have nfL := ok1.fresh hL
  rcases items with items | n
  rotate_left
  · exact tLc_cell hs src ok1 er1 qb qc p1 hL
  replace qb : compL t cond elt (wipeE e own) items w1.h = .ok ds h2 := qb
  replace src : Src K J w1 items := src
  -- the state ahead of turn i
  refine ⟨fun i m H => m = items.length - i ∧ i ≤ items.length ∧ ∃ (w2 : Wd) (acc rest : List PyData) (xs : List V), w2.H = H ∧ Ok K w2 ∧ Ext0 w1 w2 ∧ w2.G = (fun a => a = L ∨ w1.G a) ∧ (∀ a, w1.G a → w2.H a = w1.H a) ∧ w2.H L = some (.lst xs) ∧ Rps K w2.F w2.H xs acc ∧
      acc.length ≤ i ∧ acc ++ rest = ds ∧ compL t cond elt (wipeE e own) (items.drop i) w2.h = .ok rest h2, ⟨items.length, rfl, Nat.zero_le _, ?_⟩, ?_⟩
  · have kp0 : Kp w1.F w1.H w1.F (upd w1.H L (.lst [])) := ⟨fun _ f => f, fun a u _ e => by rw [upd_ne (ne_of_none e hL)]; exact e⟩
    refine ⟨⟨w1.F, upd w1.H L (.lst []), w1.r, w1.h, fun a => a = L ∨ w1.G a⟩, [], ds, [], rfl, ⟨fun a f => ?_, fun n cc e => ?_, ok1.inj, fun a g => ?_⟩, ⟨kp0, fun _ _ => rfl, Nat.le_refl _⟩, rfl, fun a g => upd_ne (ok1.gne g hL), upd_same, .nil, Nat.zero_le _, rfl, by rw [List.drop_zero]; exact qb⟩
    · obtain ⟨u, e⟩ := ok1.live a f
      exact ⟨u, kp0.fr a u f e⟩
    · rcases dead_or cc with rfl | nd
      · exact True.intro
      obtain ⟨u, hu⟩ := (ok1.cel n cc e).there nd
      exact ClOk.keep (w' := ⟨w1.F, upd w1.H L (.lst []), w1.r, w1.h, fun a => a = L ∨ w1.G a⟩) kp0 (fun f => f) (fun _ => upd_ne (ne_of_none hu hL)) (ok1.cel n cc e)
    · rcases g with rfl | g
      · refine ⟨nfL, ⟨_, upd_same⟩, fun n cc e nd => ?_⟩
        obtain ⟨u, hu⟩ := (ok1.cel n cc e).there nd
        exact ne_of_none hu hL
      · obtain ⟨g1, ⟨u, g2⟩, g3⟩ := ok1.gd a g
        exact ⟨g1, ⟨u, (upd_ne (ne_of_none g2 hL)).trans g2⟩, g3⟩
  · rintro i m H ⟨rfl, hi, w2, acc, rest, xs, rfl, ok2, x2, g2, gh2, hL2, qs, hacc, hds, run⟩
    have L2 := ok2.gd L (by rw [g2]; exact .inl rfl)
    by_cases hlt : i < items.length
    · refine .inr ⟨src.go i w2 hlt x2.kp ok2, fun H' => ∃ (w3 : Wd) (acc' rest' : List PyData) (xs' : List V), w3.H = H' ∧ Ok K w3 ∧ Ext0 w1 w3 ∧ w3.G = (fun a => a = L ∨ w1.G a) ∧ (∀ a, w1.G a → w3.H a = w1.H a) ∧ w3.H L = some (.lst xs') ∧ Rps K w3.F w3.H xs' acc' ∧
          acc'.length ≤ i + 1 ∧ acc' ++ rest' = ds ∧ compL t cond elt (wipeE e own) (items.drop (i + 1)) w3.h = .ok rest' h2, fun H' nx => ⟨items.length - (i + 1), by omega, rfl, hlt, nx⟩, fun x H' y => ?_⟩
      obtain ⟨w3, p3, x3, ok3, hh3, rfl, hp3, rv3⟩ := src.yld i w2 x H' hlt x2 ok2 y
      have hdrop : items.drop i = p3 :: items.drop (i + 1) := by
        have e0 : items[i]'hlt = p3 := by
          rw [List.getElem?_eq_getElem hlt] at hp3
          exact Option.some.inj hp3
        rw [← e0]
        exact List.drop_eq_getElem_cons hlt
      rw [hdrop] at run
      unfold compL at run
      split at run
      · cases run
      · rename_i e3 he3
        obtain ⟨b, h4, rc, run⟩ := Out.bind_eq_ok run
        have er3 : ER K w3 (wipeE e own) (wipe σ own) := er1.ext0 (x2.trans x3.toExt0)
        refine ⟨w3, wipeE e own, p3, e3, rfl, ok3, er3, rv3, he3, fun w4 σ4 x4 ok4 hh4 er4 off4 => ?_⟩
        refine ⟨(wipe_off off4 hs).trans (by rw [wipe_wipe]), ?_⟩
        refine ⟨w4, e3, b, h4, rfl, ok4, er4, by rw [hh4, hh3]; exact rc, fun w5 x5 ok5 hh5 => ?_⟩
        have x35 := (x3.trans x4).trans x5
        have g5 : w5.G = (fun a => a = L ∨ w1.G a) := x35.g.trans g2
        have gh5 : ∀ a, w1.G a → w5.H a = w1.H a := fun a ga => (x35.gh a (by rw [g2]; exact .inr ga)).trans (gh2 a ga)
        have hL5 : w5.H L = some (.lst xs) := (x35.gh L (by rw [g2]; exact .inl rfl)).trans hL2
        cases b with
        | false =>
          refine iteF ?_
          exact ⟨w5, acc, rest, xs, rfl, ok5, x2.trans x35.toExt0, g5, gh5, hL5, qs.keep x35.kp, Nat.le_succ_of_le hacc, hds, by rw [hh5]; exact run⟩
        | true =>
          refine iteT ?_
          obtain ⟨yv, h6, re, run⟩ := Out.bind_eq_ok run
          split at run
          · rename_i yd
            obtain ⟨rest6, h7, rr, run⟩ := Out.bind_eq_ok run
            cases run
            refine ⟨w5, e3, .d yd, h6, rfl, ok5, er4.ext x5, by rw [hh5]; exact re, fun w6 v6 x6 ok6 hh6 r6 => ?_⟩
            have x36 := x35.trans x6
            have hL6 : w6.H L = some (.lst xs) := (x6.gh L (by rw [g5]; exact .inl rfl)).trans hL5
            have g6 : w6.G = (fun a => a = L ∨ w1.G a) := x6.g.trans g5
            have L6 := ok6.gd L (by rw [g6]; exact .inl rfl)
            have hacclen : xs.length < sizeLine := by
              have hle := qs.length
              have h8 := mkL_le qc
              have h9 := congrArg List.length hds
              rw [List.length_append, List.length_cons] at h9
              omega
            refine ⟨xs, hL6, hacclen, ?_⟩
            have kp7 : Kp w6.F w6.H w6.F (upd w6.H L (.lst (xs ++ [v6]))) := ⟨fun _ f => f, fun a u f e => by rw [upd_ne (fun z => L6.1 (by rw [← z]; exact f))]; exact e⟩
            cases r6 with
            | d r6 =>
              refine ⟨⟨w6.F, upd w6.H L (.lst (xs ++ [v6])), w6.r, w6.h, w6.G⟩, acc ++ [yd], rest6, xs ++ [v6], rfl, ⟨fun a f => ?_, fun n cc e => ?_, ok6.inj, fun a g => ?_⟩, ⟨(x2.trans x36.toExt0).kp.trans kp7, (x2.trans x36.toExt0).rh, (x2.trans x36.toExt0).len⟩, g6, fun a ga => ?_, upd_same, ((qs.keep x36.kp).append (.cons r6 .nil)).keep kp7, ?_, ?_, ?_⟩
              · obtain ⟨u, e⟩ := ok6.live a f
                exact ⟨u, kp7.fr a u f e⟩
              · rcases dead_or cc with rfl | nd
                · exact True.intro
                exact ClOk.keep (w' := ⟨w6.F, upd w6.H L (.lst (xs ++ [v6])), w6.r, w6.h, w6.G⟩) kp7 (fun f => f) (fun _ => upd_ne (L6.2.2 n cc e nd)) (ok6.cel n cc e)
              · obtain ⟨g1, ⟨u, g3⟩, g4⟩ := ok6.gd a g
                refine ⟨g1, ?_, g4⟩
                by_cases ha : a = L
                · subst ha
                  exact ⟨_, upd_same⟩
                · exact ⟨u, (upd_ne ha).trans g3⟩
              · have ne : a ≠ L := ok1.gne ga hL
                exact (upd_ne ne).trans ((x6.gh a (by rw [g5]; exact .inr ga)).trans (gh5 a ga))
              · rw [List.length_append, List.length_singleton]
                omega
              · rw [List.append_assoc]
                exact hds
              · show compL t cond elt (wipeE e own) (items.drop (i + 1)) w6.h = _
                rw [hh6]
                exact rr
          · cases run
    · have e0 : i = items.length := by omega
      subst e0
      refine .inl ⟨src.stop w2 x2.kp ok2, ?_⟩
      rw [List.drop_length] at run
      unfold compL at run
      cases run
      rw [List.append_nil] at hds
      subst hds
      -- the list is let out
      have okD : Ok K ⟨w2.F, w2.H, w2.r, w2.h, w1.G⟩ := ⟨ok2.live, fun n cc e => ClOk.keep (w' := ⟨w2.F, w2.H, w2.r, w2.h, w1.G⟩) (Kp.refl _ _) (fun f => f) (fun _ => rfl) (ok2.cel n cc e), ok2.inj, fun a g => ok2.gd a (by rw [g2]; exact .inr g)⟩
      have xD : Ext w1 ⟨w2.F, w2.H, w2.r, w2.h, w1.G⟩ := ⟨⟨x2.kp, x2.rh, x2.len⟩, rfl, gh2⟩
      have ngL : ¬ w1.G L := fun g => ok1.gne g hL rfl
      have pD := p1.ext xD
      unfold mkL at qc
      split at qc
      · cases c with
        | false =>
          cases qc
          obtain ⟨xa, oka⟩ := adopt_fix (w := ⟨w2.F, w2.H, w2.r, w2.h, w1.G⟩) okD hL2 L2.1 ngL L2.2.2
          exact pD ⟨fun a => a = L ∨ w2.F a, w2.H, w2.r, w2.h, w1.G⟩ (.ref L) xa oka rfl (.d (.lst (.inl rfl) (.inl hL2) (qs.keep xa.kp)))
        | true =>
          cases qc
          obtain ⟨xa, oka⟩ := adopt_new (w := ⟨w2.F, w2.H, w2.r, w2.h, w1.G⟩) okD hL2 L2.1 ngL L2.2.2 qs
          refine pD ⟨w2.F, w2.H, fun n => if n = w2.h.length then L else w2.r n, w2.h ++ [.lst acc], w1.G⟩ (.ref L) xa oka rfl (.cell ?_ ?_)
          · show w2.h.length < (w2.h ++ [Cl.lst acc]).length
            rw [List.length_append]
            exact Nat.lt_succ_self _
          · show V.ref L = V.ref (if w2.h.length = w2.h.length then L else _)
            rw [if_pos rfl]
      · cases qc
end
end PL

set_option maxRecDepth 100000
set_option maxHeartbeats 4000000
/-! PL8: dict(zip(a, b)); the text of the operations. -/
namespace PL
open PySem PySem.Spec PyProof.Rows L2

section
variable {X : Cx} {Φ : String → List PV → Hh → Out PV}
theorem keys_rp {K : KW} {F : Addr → Prop} {H : Hp} : ∀ {xs : List V} {ds : List PyData}, Rps K F H xs ds → ds.all isKey = true → ∃ ks : List Key, ds = ks.map kD ∧ xs = ks.map kV
  | _, _, .nil, _ => ⟨[], rfl, rfl⟩
  | _, _, .cons a b, h => by
    rw [List.all_cons, Bool.and_eq_true] at h
    obtain ⟨k, rfl, rfl⟩ := key_rp a h.1
    obtain ⟨ks, rfl, rfl⟩ := keys_rp b h.2
    exact ⟨k :: ks, rfl, rfl⟩
theorem zip_rpk {K : KW} {F : Addr → Prop} {H : Hp} : ∀ {ks : List Key} {ys : List V} {es : List PyData}, Rps K F H ys es → Rpk K F H (ks.zip ys) ((ks.map kD).zip es)
  | [], _, _, _ => .nil
  | _ :: _, _, _, .nil => .nil
  | k :: ks, _, _, .cons a b => .cons a (zip_rpk b)
/-- keys and values that come one behind the other -/
theorem zip_kv : ∀ {ks : List Key} {ys : List V} {us vs : List Value}, Vals (ks.map kV) us → Vals ys vs → ∃ kvs : List (Key × Value), KV (ks.zip ys) kvs ∧ kvs.length = min us.length vs.length ∧
    ∀ (i : Nat) (k v : Value), us[i]? = some k → vs[i]? = some v → ∃ key, kvs[i]? = some (key, v) ∧ keyIs key k = true
  | [], _, _, _, .nil, _ => ⟨[], .nil, by simp, fun i k v h _ => by simp at h⟩
  | k :: ks, _, _, _, .cons r t, .nil => ⟨[], .nil, by simp, fun i k v _ h => by simp at h⟩
  | k :: ks, _, _, _, .cons (b := u) r t, .cons (b := v0) r2 t2 => by
    obtain ⟨kvs, h1, h2, h3⟩ := zip_kv (ks := ks) t t2
    refine ⟨(k, v0) :: kvs, .cons ⟨rfl, r2⟩ h1, by rw [List.length_cons, List.length_cons, List.length_cons, h2]; omega, fun i kk v e1 e2 => ?_⟩
    cases i with
    | zero =>
      simp at e1 e2
      subst e1
      subst e2
      exact ⟨k, rfl, (by cases k with | inl i => (obtain ⟨t, rfl⟩ := r; exact keyIs_int i t) | inr x => (obtain ⟨t, rfl⟩ := r; exact keyIs_str x t))⟩
    | succ i =>
      obtain ⟨key, e3, e4⟩ := h3 i kk v (by simpa using e1) (by simpa using e2)
      exact ⟨key, by simpa using e3, e4⟩
theorem Inv_turnLaid {pins : List (Addr × Obj)} {σ : L2.St} {H : Hp} {s : Shared} {h' : Heap} {t' : Nat} {ch : List Addr} {p : Addr} {ob : HO} (I : Inv X pins σ H s) (hp : H p = none) (hs : s.heap.objs.size ≤ p)
    (kk : ∀ b o, b ∉ ch → s.heap.get? b = some o → h'.get? b = some o) (hf : ∀ b ∈ ch, FpOk X pins H b) (new : ObjOk X.prog X.w (upd H p ob) h' p ob) : Inv X pins σ (upd H p ob) { s with heap := h', toks := t' } := by
  have nit : ∀ b u, H b = some u → b ∉ ch := fun b u e z => by
    have q := (hf b z).1
    rw [q] at e
    cases e
  have np : ∀ b o, s.heap.get? b = some o → b ≠ p := fun b o e => Nat.ne_of_lt (Nat.lt_of_lt_of_le (Heap.lt_size e) hs)
  refine I.step (g' := s.gens) (d' := s.drawn) (ch := ch) (fun b hb => ⟨(hf b hb).2.2.2.1, (hf b hb).2.1, (hf b hb).2.2.2.2.1, (hf b hb).2.2.2.2.2⟩) (fun b o _ _ hc e _ => kk b o hc e) (fun b o _ _ hc e _ => ⟨o.slots, kk b o hc e⟩)
    (fun b o _ e n => by rw [upd_ne (np b o e)]; exact n) (fun b o hc e => ⟨o, kk b o hc e⟩) (fun b xs e => by rw [upd_ne (ne_of_none e hp)]; exact e) (fun b o u e => by rw [upd_ne (ne_of_none e hp)]; exact e)
    (fun b ps e => ⟨#[], by rw [upd_ne (ne_of_none e hp), e]; simp⟩) (fun m hm => ?_) (fun b u e => ?_) I.bare
  · obtain ⟨o, es, ep, ho, r⟩ := hm
    exact ⟨o, es, ep, kk _ o (fun z => (hf _ z).2.1 rfl) ho, r⟩
  · by_cases hb : b = p
    · subst hb
      rw [upd_same] at e
      cases e
      exact new
    · rw [upd_ne hb] at e
      refine (I.hok b u e).stay (fun c v hc q => kk c v ?_ q) (fun c q => by rw [upd_ne (ne_of_none q hp)]; exact q) fun c xs q => by rw [upd_ne (ne_of_none q hp)]; exact q
      rcases hc with z | z
      · rw [z]
        exact nit b u e
      · exact nit c _ z
theorem pe_dictZip {D : Defs} {k : Nat} {c : Ctx} {x z : Str} {es : Es} {a b : Expr} {px pz pos pos' : Pos} (o : CtxOk D k c X) (nh : c.hot = false) (hb : builtinB c "dict" x = true) (hb2 : builtinB c "zip" z = true) (q : PEs X Φ es [a, b]) :
    PE X (.Call (.Name x px) [.Call (.Name z pz) [a, b] [] pos'] [] pos) (tE X.kw (ev Φ (.prim .dictZip es))) := by
  obtain ⟨rfl, hg, hm⟩ := o.blt hb
  obtain ⟨rfl, hg2, hm2'⟩ := o.blt hb2
  have pl := q.plain
  rw [List.all_cons, Bool.and_eq_true, List.all_cons, Bool.and_eq_true] at pl
  have pa := q.pa
  refine ⟨fun pins s σ H Q I t => ?_⟩
  rw [ev_args] at t
  have t := tE_args t
  refine wpAny_Call_Name_kw (ld_blt I hg hm PyProof.Rows.boot_dict ?_)
  refine PyProof.Rows.callWith_type1 ?_ rfl rfl
  show wpAny _ _ (spliced [(false, eval (.Call (.Name (Str.ofString "zip") pz) [a, b] [] pos') X.env)]) _ _ s
  refine Calls.spliced_cons ?_
  refine Call_ (ld_blt I hg2 hm2' PyProof.Rows.boot_zip (PyProof.Rows.callWith_type1 (thn (pa.run pos' pins s σ H _ I t) fun us s1 ⟨vs, H1, I1, r1, q1⟩ => ?_) (starEach_plain pl.1) (noStar (by rw [List.all_cons, pl.2.1]; rfl))))
  obtain ⟨w, va, vb, rv, xv, yv, h', ex, rfl, ok, ra, rb, e, p⟩ := rs2 (m := dictZipM) (hm2 (fun _ => rfl) (fun _ _ => rfl) (fun _ _ _ => rfl) fun _ _ _ _ _ => rfl) q1
  subst ex
  unfold dictZipM at e
  split at e
  · rename_i ks ds ea eb
    split at e
    · rename_i hk
      cases e
      obtain ⟨l1, xs, rfl, hx, qx⟩ := vw_list ok ra ea
      obtain ⟨l2, ys, rfl, hy, qy⟩ := vw_list ok rb eb
      obtain ⟨keys, rfl, rfl⟩ := keys_rp qx hk
      obtain ⟨u1, u2, rfl, e1, e2⟩ := vals2 r1
      cases e1
      cases e2
      obtain ⟨its, rx, plx, zx⟩ := I1.list (.inl hx)
      obtain ⟨its2, ry, ply, zy⟩ := I1.list (.inl hy)
      refine call_zip_2 plx.isList ply.isList fun h2 hz hTI hTO i1 i2 hsz hkeep => ?_
      refine Calls.spliced_nil ?_
      have I2 : Inv X pins σ w.H { s1 with heap := h2 } := I1.kept (t' := s1.toks) hkeep
      have ap := PySem.W.ktu_apart s1.heap.objs.size l1 l2 plx.lt ply.lt
      obtain ⟨kvs, kv1, kv2, kv3⟩ := zip_kv rx ry
      have hlen : (keys.zip ys).length ≤ sizeLine := by
        have h0 := Paired.length kv1
        rw [h0, kv2]
        have h1 := rx.length
        omega
      refine PySem.call_dict_pairs (knd := mixKind X.prog X.w) (kvs := kvs) (PairArg.zip (s1.heap.objs.size + 4) (s1.heap.objs.size + 2) (s1.heap.objs.size + 3) s1.heap.objs.size (s1.heap.objs.size + 1) l1 l2 ap its.toArray its2.toArray) (I2.ok.hd (o.calm nh))
        ⟨hz, hTI, ⟨_, _, hTO⟩, i1, i2, ?_, ?_⟩ ⟨by rw [kv2]; simp, fun i key v hr => ?_⟩ ?_ fun h3 tk hd3 hk3 => ?_
      · exact plx.isList.at fun o' e' => hkeep _ o' e'
      · exact ply.isList.at fun o' e' => hkeep _ o' e'
      · obtain ⟨key', z1, z2⟩ := kv3 i key v (by simpa using hr.1) (by simpa using hr.2)
        exact ⟨key', z1, z2⟩
      · have h0 := rx.length
        simp only [List.size_toArray]
        omega
      · have hp : w.H h2.objs.size = none := I2.hok.fresh (Nat.le_refl _)
        have big : (h2.objs.size == sysModules) = false := beq_eq_false_iff_ne.mpr (Nat.ne_of_gt I2.big)
        have hml : (mergeK [] (keys.zip ys)).length ≤ sizeLine := by
          have := length_mergeK (keys.zip ys) []
          rw [List.length_nil, Nat.zero_add] at this
          omega
        refine ⟨.ref h2.objs.size, upd w.H h2.objs.size (.dK (mergeK [] (keys.zip ys))), Inv_turnLaid (s := { s1 with heap := h2 }) (ch := [s1.heap.objs.size + 4, s1.heap.objs.size + 3, s1.heap.objs.size, s1.heap.objs.size + 1]) I2 hp (Nat.le_refl _) hk3 (fun b hb => ?_) ⟨hml, big, merged [] kvs, KV.merge kv1 .nil, hd3⟩, rfl, ?_⟩
        · have hle : s1.heap.objs.size ≤ b := by
            simp only [List.mem_cons, List.not_mem_nil, or_false] at hb
            rcases hb with z | z | z | z
            · rw [z]; exact Nat.le_add_right _ _
            · rw [z]; exact Nat.le_add_right _ _
            · rw [z]; exact Nat.le_refl _
            · rw [z]; exact Nat.le_add_right _ _
          exact I1.fpOk hle (I1.hok.fresh hle)
        · exact post_dct ok p (dputs_rp (by simp) .nil (zip_rpk qy)) hp
    · cases e
  · cases e
end
end PL

set_option maxRecDepth 100000
set_option maxHeartbeats 4000000
/-! PL9: the text of an expression, and that it computes what the language says. -/
namespace PL
open PySem PySem.Spec PyProof.Rows L2

def mBlt (c : Ctx) (n : String) (a : Expr) : Option (List Expr) := match a with
  | .Call (.Name x _) [y] [] _ => if builtinB c n x then some [y] else none
  | _ => none
def mBin (op : Operator) (a : Expr) : Option (List Expr) := match a with
  | .BinOp x op' y _ => if op' = op then some [x, y] else none
  | _ => none
def mCmp (op : CmpOp) (a : Expr) : Option (List Expr) := match a with
  | .Compare x [op'] [y] _ => if op' = op ∧ notSet y = true then some [x, y] else none
  | _ => none
def mIsN (op : CmpOp) (a : Expr) : Option (List Expr) := match a with
  | .Compare x [op'] [.Constant .none _ _] _ => if op' = op then some [x] else none
  | _ => none
def mTup (a : Expr) : Option (List Expr) := match a with
  | .Tuple es _ _ => some es
  | _ => none
def mLst (a : Expr) : Option (List Expr) := match a with
  | .List es _ => some es
  | _ => none
def mIdx (a : Expr) : Option (List Expr) := match a with
  | .Subscript x i _ => if notSlice i then some [x, i] else none
  | _ => none
def mSlc (lo hi : Bool) (a : Expr) : Option (List Expr) := match a with
  | .Subscript x (.Slice l u none _) _ => (match lo, hi, l, u with
    | false, false, none, none => some [x]
    | true, false, some l, none => some [x, l]
    | false, true, none, some u => some [x, u]
    | true, true, some l, some u => some [x, l, u]
    | _, _, _, _ => none)
  | _ => none
def mNeg (a : Expr) : Option (List Expr) := match a with
  | .UnaryOp .USub x _ => some [x]
  | _ => none
def mIsTy (c : Ctx) (t : String) (a : Expr) : Option (List Expr) := match a with
  | .Call (.Name x _) [y, .Name z _] [] _ => if builtinB c "isinstance" x ∧ builtinB c t z ∧ tyNames.contains t then some [y] else none
  | _ => none
def mDZ (c : Ctx) (a : Expr) : Option (List Expr) := match a with
  | .Call (.Name x _) [.Call (.Name z _) [y, u] [] _] [] _ => if builtinB c "dict" x ∧ builtinB c "zip" z then some [y, u] else none
  | _ => none
def mBlt2 (c : Ctx) (n : String) (a : Expr) : Option (List Expr) := match a with
  | .Call (.Name x _) [y, z] [] _ => if builtinB c n x then some [y, z] else none
  | _ => none
def mLS (c : Ctx) (a : Expr) : Option (List Expr) := match a with
  | .Call (.Name x _) [.Call (.Name z _) [y] [] _] [] _ => if builtinB c "len" x ∧ builtinB c "set" z then some [y] else none
  | _ => none
def mLR (c : Ctx) (a : Expr) : Option (List Expr) := match a with
  | .Call (.Name x _) [.Call (.Name z _) [y] [] _] [] _ => if builtinB c "list" x ∧ builtinB c "range" z then some [y] else none
  | _ => none
def mRev (a : Expr) : Option (List Expr) := match a with
  | .Subscript x (.Slice none none (some (.UnaryOp .USub (.Constant (.int 1) _ _) _)) _) _ => some [x]
  | _ => none
def mStp (a : Expr) : Option (List Expr) := match a with
  | .Subscript x (.Slice none none (some k) _) _ => some [x, k]
  | _ => none
def mDN (a : Expr) : Option (List Expr) := match a with
  | .Dict [] [] _ => some []
  | _ => none
/-- the names of classes -/
def mNames (c : Ctx) : List String → List Expr → Bool
  | [], [] => true
  | s :: ss, .Name x _ :: es => decide (x = Str.ofString s) && kB c x .globalImplicit && ndB x && (c.ys.contains s || s == "ValueError") && mNames c ss es
  | _, _ => false
def mIsX (c : Ctx) (tup : Bool) (xs cs : List String) (a : Expr) : Option (List Expr) := match a with
  | .Call (.Name x _) [y, z] [] _ => if builtinB c "isinstance" x ∧ xs.all (fun d => c.xs.contains d) ∧ cs.length ≤ 100 then (match tup, z with
    | true, .Tuple es _ _ => if mNames c cs es then some [y] else none
    | false, z => if mNames c cs [z] then some [y] else none
    | _, _ => none) else none
  | _ => none
def mP (c : Ctx) (p : Prim) (a : Expr) : Option (List Expr) := match p with
  | .tup => mTup a
  | .lst _ => mLst a
  | .idx => mIdx a
  | .slc _ lo hi => mSlc lo hi a
  | .add _ => mBin .Add a
  | .sub => mBin .Sub a
  | .mul => mBin .Mult a
  | .mod => mBin .Mod a
  | .fdiv => mBin .FloorDiv a
  | .pow => mBin .Pow a
  | .neg => mNeg a
  | .eq => mCmp .Eq a
  | .ne => mCmp .NotEq a
  | .lt => mCmp .Lt a
  | .le => mCmp .LtE a
  | .gt => mCmp .Gt a
  | .ge => mCmp .GtE a
  | .isN => mIsN .Is a
  | .notN => mIsN .IsNot a
  | .inn => mCmp .In a
  | .notIn => mCmp .NotIn a
  | .len => mBlt c "len" a
  | .listOf _ => mBlt c "list" a
  | .tupOf => mBlt c "tuple" a
  | .int => mBlt c "int" a
  | .isTy t => mIsTy c t a
  | .dictPairs => nhot c (mBlt c "dict" a)
  | .dictPairsC => nhot c (mBlt c "dict" a)
  | .dictZip => nhot c (mDZ c a)
  | .isBl => mCmp .Is a
  | .notBl => mCmp .IsNot a
  | .lenSet => nhot c (mLS c a)
  | .min2 => nhot c (mBlt2 c "min" a)
  | .max2 => nhot c (mBlt2 c "max" a)
  | .abs => mBlt c "abs" a
  | .dnew => mDN a
  | .lstRng _ => nhot c (mLR c a)
  | .rev _ => mRev a
  | .stp _ => mStp a
  | .all => nhot c (mBlt c "all" a)
  | .dnewN => mDN a
  | .isExc t xs cs => mIsX c t xs cs a
  | _ => none
section
variable {D : Defs} {k : Nat} {c : Ctx} {X : Cx} {Φ : String → List PV → Hh → Out PV}
abbrev EO (X : Cx) (Φ : String → List PV → Hh → Out PV) (e : E) (a : Expr) : Prop := PE X a (tE X.kw (ev Φ e)) ∧ PT X a (tT X.kw (evB Φ e))
theorem eo_plain {e : E} {a : Expr} (h : plainT a = true) (q : PE X a (tE X.kw (ev Φ e))) : EO X Φ e a := ⟨q, pt_plain h q⟩
theorem eo_bin {op : Operator} {p : Prim} {m : PV → PV → Hh → Out PV} (o : OpR X (binaryOp op) (r2 X.kw m)) (hm : ∀ x y h, primM p [x, y] h = m x y h) {es : Es} {a : Expr} {subs : List Expr} (h : mBin op a = some subs) (q : PEs X Φ es subs) : EO X Φ (.prim p es) a := by
  unfold mBin at h
  split at h
  · split at h
    · rename_i he
      subst he
      cases h
      exact eo_plain rfl (pe_bin o hm q)
    · cases h
  · cases h
theorem eo_cmp {op : CmpOp} {p : Prim} {m : PV → PV → Hh → Out PV} (o : OpR X (compareOp op) (r2 X.kw m)) (hm : ∀ x y h, primM p [x, y] h = m x y h) {es : Es} {a : Expr} {subs : List Expr} (h : mCmp op a = some subs) (q : PEs X Φ es subs) : EO X Φ (.prim p es) a := by
  unfold mCmp at h
  split at h
  · split at h
    · rename_i he
      obtain ⟨he, hs⟩ := he
      subst he
      cases h
      exact ⟨pe_cmp2 o hm (noMark hs) q, pt_cmp2 o hm (noMark hs) q⟩
    · cases h
  · cases h
theorem eo_isN {neg : Bool} {op : CmpOp} (hop : op = if neg then .IsNot else .Is) {p : Prim} (hm : ∀ x h, primM p [x] h = .ok (bln (if neg then !isNone x else isNone x)) h) {es : Es} {a : Expr} {subs : List Expr} (h : mIsN op a = some subs) (q : PEs X Φ es subs) : EO X Φ (.prim p es) a := by
  unfold mIsN at h
  split at h
  · split at h
    · rename_i he
      subst he
      cases h
      rw [hop]
      exact pe_isN hm q
    · cases h
  · cases h
theorem eo_blt {n id : String} {p : Prim} (o : CtxOk D k c X) (hc : CallR X (.builtin id) (rs X.kw (primM p))) (hv : bootBuiltins (Str.ofString n) = some (.builtin id)) (hn : Str.ofString n ≠ "__name__") (hd : (Str.ofString n == ("__debug__" : Str)) = false) {es : Es} {a : Expr} {subs : List Expr} (h : mBlt c n a = some subs) (q : PEs X Φ es subs) :
    EO X Φ (.prim p es) a := by
  unfold mBlt at h
  split at h
  · split at h
    · rename_i hb
      cases h
      exact eo_plain rfl (pe_blt o hb hc hv hn hd (by simp) q)
    · cases h
  · cases h
theorem eo_blt2 {n id : String} {p : Prim} (o : CtxOk D k c X) (hc : CallR X (.builtin id) (rs X.kw (primM p))) (hv : bootBuiltins (Str.ofString n) = some (.builtin id)) (hn : Str.ofString n ≠ "__name__") (hd : (Str.ofString n == ("__debug__" : Str)) = false) {es : Es} {a : Expr} {subs : List Expr} (h : mBlt2 c n a = some subs) (q : PEs X Φ es subs) :
    EO X Φ (.prim p es) a := by
  unfold mBlt2 at h
  split at h
  · split at h
    · rename_i hb
      cases h
      exact eo_plain rfl (pe_blt o hb hc hv hn hd (by simp) q)
    · cases h
  · cases h
theorem eo_ls (o : CtxOk D k c X) (nh : c.hot = false) {es : Es} {a : Expr} {subs : List Expr} (h : mLS c a = some subs) (q : PEs X Φ es subs) : EO X Φ (.prim .lenSet es) a := by
  unfold mLS at h
  split at h
  · split at h
    · rename_i hb
      cases h
      obtain ⟨rfl, hg, hm⟩ := o.blt hb.1
      obtain ⟨rfl, hg2, hm2'⟩ := o.blt hb.2
      have pl := q.plain
      rw [List.all_cons, Bool.and_eq_true] at pl
      cases q with
      | cons _ h1 q =>
        cases q
        refine eo_plain rfl ((pe_lenS (o.calm nh) hg hm hg2 hm2' h1 (starEach_plain pl.1)).of fun σ H Q tt => ?_)
        rw [ev_one] at tt
        obtain ⟨w, e, rv, h', rfl, ok, er, m, p⟩ := tt
        obtain ⟨x, h1', qa, m1⟩ := Out.bind_eq_ok m
        refine ⟨w, e, x, h1', rfl, ok, er, qa, fun w1 v x1 ok1 e1 r1 => ?_⟩
        subst e1
        replace m1 : lenSetM x w1.h = .ok rv h' := m1
        unfold lenSetM at m1
        split at m1
        · rename_i ds ea
          split at m1
          · rename_i xs ex
            split at m1
            · rename_i few
              cases m1
              obtain ⟨l, ys, rfl, hx, qx⟩ := vw_list ok1 r1 ea
              have ey := txts_rps qx ex
              subst ey
              exact ⟨l, xs, rfl, .inl hx, few, (p.ext x1).same ok1 (.d (.int _))⟩
            · cases m1
          · cases m1
        · cases m1
    · cases h
  · cases h
theorem rg_rps {K : KW} {F : Addr → Prop} {H : Hp} (b : Int) : Rps K F H (rgV 0 b) ((List.range b.toNat).map fun (i : Nat) => PyData.int i) := by
  unfold rgV
  rw [show (b - 0).toNat = b.toNat by rw [Int.sub_zero]]
  generalize List.range b.toNat = l
  induction l with
  | nil => exact .nil
  | cons i l ih =>
    refine .cons ?_ ih
    show Rp K F H (V.int (0 + (i : Int))) (.int i)
    rw [Int.zero_add]
    exact .int _
theorem eo_lr {cf : Bool} (o : CtxOk D k c X) (nh : c.hot = false) {es : Es} {a : Expr} {subs : List Expr} (h : mLR c a = some subs) (q : PEs X Φ es subs) : EO X Φ (.prim (.lstRng cf) es) a := by
  unfold mLR at h
  split at h
  · split at h
    · rename_i hb
      cases h
      obtain ⟨rfl, hg, hm⟩ := o.blt hb.1
      obtain ⟨rfl, hg2, hm2'⟩ := o.blt hb.2
      have pl := q.plain
      rw [List.all_cons, Bool.and_eq_true] at pl
      cases q with
      | cons _ h1 q =>
        cases q
        refine eo_plain rfl ((pe_listRg (o.calm nh) hg hm (prg_1 hg2 hm2' h1 (starEach_plain pl.1))).of fun σ H Q tt => ?_)
        rw [ev_one] at tt
        obtain ⟨w, e, rv, h', rfl, ok, er, m, p⟩ := tt
        obtain ⟨x, h1', qa, m1⟩ := Out.bind_eq_ok m
        refine ⟨w, e, x, h1', rfl, ok, er, qa, fun w1 v x1 ok1 e1 r1 => ?_⟩
        subst e1
        replace m1 : lstRngM cf x w1.h = .ok rv h' := m1
        unfold lstRngM at m1
        split at m1
        · rename_i b
          split at m1
          · rename_i hl
            cases r1 with
            | d r1 =>
              cases r1
              refine ⟨b, rfl, ⟨by omega, by omega, ?_, ?_, ?_⟩, fun z hz => post_lst ok1 m1 (p.ext x1) (rg_rps b) hz⟩
              · have := hl.2
                unfold line at this
                omega
              · have := hl.1
                unfold line at this
                omega
              · have := hl.1
                unfold line at this
                omega
          · cases m1
        · cases m1
    · cases h
  · cases h
theorem eo_rev {cf : Bool} {es : Es} {a : Expr} {subs : List Expr} (h : mRev a = some subs) (q : PEs X Φ es subs) : EO X Φ (.prim (.rev cf) es) a := by
  unfold mRev at h
  split at h
  · cases h
    cases q with
    | cons _ h1 q =>
      cases q
      refine eo_plain rfl ((pe_revL h1).of fun σ H Q tt => ?_)
      rw [ev_one] at tt
      obtain ⟨w, e, rv, h', rfl, ok, er, m, p⟩ := tt
      obtain ⟨x, h1', qa, m1⟩ := Out.bind_eq_ok m
      refine ⟨w, e, x, h1', rfl, ok, er, qa, fun w1 v x1 ok1 e1 r1 => ?_⟩
      subst e1
      replace m1 : revM cf x w1.h = .ok rv h' := m1
      unfold revM at m1
      split at m1
      · rename_i ds ea
        obtain ⟨l, ys, rfl, hx, qx⟩ := vw_list ok1 r1 ea
        exact ⟨l, ys, rfl, .inl hx, fun z hz => post_lst ok1 m1 (p.ext x1) (rps_rev qx) hz⟩
      · cases m1
  · cases h
/-- xs[::k] of a list, k 1 or -1 -/
def tStpL (K : PySem.W.Frag) (te tk : TE) : TE := fun σ H Q => te σ H fun x H1 => tPart tk σ H1 fun o H2 => ∃ a xs i, x = .ref a ∧ o = some i ∧ (i = 1 ∨ i = -1) ∧ SqL K H2 a xs ∧ ∀ p, H2 p = none → Q (.ref p) (upd H2 p (.lst (if i = 1 then xs else xs.reverse)))
theorem slicePick_one (its : Array Value) : slicePick its none none (some 1) = its := slicePick_all its
theorem pe_stpL {e ek : Expr} {te tk : TE} {p3 pos : Pos} (he : PE X e te) (hk : PE X ek tk) : PE X (.Subscript e (.Slice none none (some ek) p3) pos) (tStpL X.K te tk) := by
  refine ⟨fun pins s σ H Q I h => ?_⟩
  refine Subscript_ (thn (he.run pins s σ H _ I h) fun v s1 ⟨x, H1, I1, r1, q1⟩ => ?_)
  have hst : PO X (some ek) (tPart tk) := po_some hk
  refine wpAny_Slice (thn (po_none.run pins s1 σ H1 (fun o H2 => o = none ∧ H2 = H1) I1 ⟨rfl, rfl⟩) fun vl s2 ⟨l, H2, I2, pl, el, e2⟩ => ?_)
  subst el e2
  refine thn (po_none.run pins s2 σ H2 (fun o H3 => o = none ∧ H3 = H2) I2 ⟨rfl, rfl⟩) fun vu s3 ⟨u, H3, I3, pu, eu, e3⟩ => ?_
  subst eu e3
  refine thn (hst.run pins s3 σ H3 _ I3 q1) fun vs s4 ⟨o, H4, I4, ps, a, xs, i, ex, eo, hi, hx, q⟩ => ?_
  subst ex eo
  cases r1
  have I5 : Inv X pins σ H4 { s4 with heap := s4.heap.push { cls := .type "slice", data := .fields #[vl, vu, vs] } } := I4.kept (t' := s4.toks) fun b ob q => Heap.get?_push_of_some _ q
  obtain ⟨its, r, ht, hz⟩ := I5.list hx
  have hlen := r.length
  show wpAny (model X.prog X.w) X.A (subscriptTail e (.Slice none none (some ek) p3) (.ref a) (.ref s4.heap.objs.size)) (EP X pins σ Q) X.xe { s4 with heap := s4.heap.push { cls := .type "slice", data := .fields #[vl, vu, vs] } }
  refine tail_any (ops := [.ref a, .ref s4.heap.objs.size]) ht.isList.typeIs (PySem.slot_list_getitem.lookup) ?_ (by with_unfolding_all rfl)
  have hk0 : (some i : Option Int) ≠ some 0 := by
    rcases hi with rfl | rfl <;> decide
  refine wpAny_getItem_list_slice ht.isList (Heap.IsSliceOf.new _ vl vu vs) pl pu ps hk0 ?_ (by rw [List.size_toArray]; omega)
  rcases hi with rfl | rfl
  · rw [slicePick_one]
    refine ⟨.ref _, _, I5.laid (t' := s4.toks) (o := .lst xs) (fun b ob q => Heap.get?_push_of_some _ q) (Nat.le_refl _) ?_, rfl, q _ (I5.hok.fresh (Nat.le_refl _))⟩
    exact ⟨hz, _, 0, r, Heap.get?_push_size _ rfl⟩
  · rw [PySem.W.krv_pick]
    refine ⟨.ref _, _, I5.laid (t' := s4.toks) (o := .lst xs.reverse) (fun b ob q => Heap.get?_push_of_some _ q) (Nat.le_refl _) ?_, rfl, q _ (I5.hok.fresh (Nat.le_refl _))⟩
    exact ⟨by rw [List.length_reverse]; exact hz, _, 0, r.reverse, Heap.get?_push_size _ rfl⟩
theorem eo_stp {cf : Bool} {es : Es} {a : Expr} {subs : List Expr} (h : mStp a = some subs) (q : PEs X Φ es subs) : EO X Φ (.prim (.stp cf) es) a := by
  unfold mStp at h
  split at h
  · cases h
    cases q with
    | cons _ h1 q =>
      cases q with
      | cons _ h2 q =>
        cases q
        refine eo_plain rfl ((pe_stpL h1 h2).of fun σ H Q t => ?_)
        rw [ev_two] at t
        obtain ⟨w, e, rv, h', rfl, ok, er, m, p⟩ := t
        obtain ⟨x, h1', qa, m1⟩ := Out.bind_eq_ok m
        obtain ⟨y, h2', qb, m2⟩ := Out.bind_eq_ok m1
        clear m m1
        refine ⟨w, e, x, h1', rfl, ok, er, qa, fun w1 v x1 ok1 e1 r1 => ?_⟩
        subst e1
        refine ⟨w1, e, y, h2', rfl, ok1, er.ext x1, qb, fun w2 u x2 ok2 e2 r2 => ?_⟩
        subst e2
        replace m2 : stpM cf x y w2.h = .ok rv h' := m2
        unfold stpM at m2
        split at m2
        · rename_i ds i ea
          cases r2 with
          | d r2 =>
            cases r2
            obtain ⟨l, ys, rfl, hx, qx⟩ := vw_list ok2 (r1.ext x2) ea
            split at m2
            · rename_i hi
              subst hi
              exact ⟨1, rfl, l, ys, 1, rfl, rfl, .inl rfl, .inl hx, fun z hz => post_lst ok2 m2 (p.ext (x1.trans x2)) qx hz⟩
            · split at m2
              · rename_i hi
                subst hi
                exact ⟨-1, rfl, l, ys, -1, rfl, rfl, .inr rfl, .inl hx, fun z hz => post_lst ok2 m2 (p.ext (x1.trans x2)) (rps_rev qx) hz⟩
              · cases m2
        · cases m2
  · cases h
theorem eo_dnew {es : Es} {a : Expr} {subs : List Expr} (h : mDN a = some subs) (q : PEs X Φ es subs) : EO X Φ (.prim .dnew es) a ∧ EO X Φ (.prim .dnewN es) a := by
  unfold mDN at h
  split at h
  · cases h
    cases q
    constructor
    · refine eo_plain rfl (pe_dnewK.of fun σ H Q t => ?_)
      obtain ⟨w, e, rv, h', rfl, ok, er, ev1, p⟩ := t
      replace ev1 : Out.ok (PV.cell w.h.length) (w.h ++ [.dct []]) = .ok rv h' := by
        rw [← ev1]
        simp only [ev, evs, Out.bind_ok, primM]
      cases ev1
      exact fun q hq => new_at ok p hq ⟨ok.fresh hq, [], upd_same, .nil⟩
    · refine eo_plain rfl (pe_dnewN.of fun σ H Q t => ?_)
      obtain ⟨w, e, rv, h', rfl, ok, er, ev1, p⟩ := t
      replace ev1 : Out.ok (PV.cell w.h.length) (w.h ++ [.dcn []]) = .ok rv h' := by
        rw [← ev1]
        simp only [ev, evs, Out.bind_ok, primM]
      cases ev1
      exact fun q hq => new_at ok p hq ⟨ok.fresh hq, [], upd_same, .nil⟩
  · cases h
theorem eo_bty {n id : String} {p : Prim} (o : CtxOk D k c X) (hc : CallR X (.type id) (rs X.kw (primM p))) (hv : bootBuiltins (Str.ofString n) = some (.type id)) (hn : Str.ofString n ≠ "__name__") (hd : (Str.ofString n == ("__debug__" : Str)) = false) {es : Es} {a : Expr} {subs : List Expr} (h : mBlt c n a = some subs) (q : PEs X Φ es subs) :
    EO X Φ (.prim p es) a := by
  unfold mBlt at h
  split at h
  · split at h
    · rename_i hb
      cases h
      exact eo_plain rfl (pe_bty o hb hc hv hn hd (by simp) q)
    · cases h
  · cases h
theorem eo_tup {es : Es} {a : Expr} {subs : List Expr} (h : mTup a = some subs) (q : PEs X Φ es subs) : EO X Φ (.prim .tup es) a := by
  unfold mTup at h
  split at h
  · cases h
    refine eo_plain rfl ((pe_tup q.pa).of fun σ H Q t => ?_)
    rw [ev_args] at t
    refine tA_imp (tE_args t) fun vs H1 ⟨w, as, rv, h', e1, ok, ra, e, p⟩ => ?_
    subst e1
    have e : tupM as w.h = .ok rv h' := by
      cases as <;> exact e
    unfold tupM at e
    split at e
    · rename_i ds hds
      have qs := pures_vr ra hds
      split at e
      · rename_i hl
        cases e
        exact ⟨by rw [qs.length]; exact le_line hl, fun z hz => post_tup ok p qs hz⟩
      · cases e
    · split at e
      · rename_i hl
        cases e
        exact ⟨by rw [← ra.length]; exact le_line hl, fun z hz => post_tc ok p ra hz⟩
      · cases e
  · cases h
theorem eo_lst {cf : Bool} {es : Es} {a : Expr} {subs : List Expr} (h : mLst a = some subs) (q : PEs X Φ es subs) : EO X Φ (.prim (.lst cf) es) a := by
  unfold mLst at h
  split at h
  · cases h
    refine eo_plain rfl ((pe_lst q.pa).of fun σ H Q t => ?_)
    rw [ev_args] at t
    refine tA_imp (tE_args t) fun vs H1 ⟨w, as, rv, h', e1, ok, ra, e, p⟩ => ?_
    subst e1
    have e : lstM cf as w.h = .ok rv h' := by
      cases as <;> exact e
    unfold lstM at e
    split at e
    · rename_i ds hds
      have qs := pures_vr ra hds
      exact ⟨by rw [qs.length]; exact mkL_le e, fun z hz => post_lst ok e p qs hz⟩
    · cases e
  · cases h
theorem eo_idx (o : CtxOk D k c X) {es : Es} {a : Expr} {subs : List Expr} (h : mIdx a = some subs) (q : PEs X Φ es subs) : EO X Φ (.prim .idx es) a := by
  unfold mIdx at h
  split at h
  · split at h
    · rename_i hn
      cases h
      have hu := o.u65
      cases q with
      | cons _ h1 q =>
        cases q with
        | cons _ h2 q =>
          cases q
          refine eo_plain rfl ((pe_ix (o_idx (by omega)) h1 h2 (plainIx hn)).of fun σ H Q t => ?_)
          rw [ev_two] at t
          exact tE_two (m := idxM) t
    · cases h
  · cases h
theorem eo_neg {es : Es} {a : Expr} {subs : List Expr} (h : mNeg a = some subs) (q : PEs X Φ es subs) : EO X Φ (.prim .neg es) a := by
  unfold mNeg at h
  split at h
  · cases h
    cases q with
    | cons _ h1 q =>
      cases q
      refine eo_plain rfl ((pe_un o_neg h1).of fun σ H Q t => ?_)
      rw [ev_one] at t
      exact tE_one (m := negM) t
  · cases h
theorem slc_vals {K : KW} {w : Wd} {a : PV} {x : V} {cf : Bool} {lo hi : Option Int} {rv : PV} {h' : Hh} {Q : VK} (ok : Ok K w) (r : VR K w a x) (e : slcM cf a lo hi w.h = .ok rv h') (p : Post K w h' rv Q) : rSlc K cf x lo hi w.H Q := ⟨w, a, rv, h', rfl, ok, r, e, p⟩
theorem oi_eq {v : PV} {i : Int} (h : oi v = some i) : v = int i := by
  unfold oi at h
  split at h
  · cases h
    rfl
  · cases h
theorem ev_three {p : Prim} {a b d : E} : ev Φ (.prim p (.cons a (.cons b (.cons d .nil)))) = fun e h => (ev Φ a e h).bind fun x h1 => (ev Φ b e h1).bind fun y h2 => (ev Φ d e h2).bind fun z h3 => primM p [x, y, z] h3 := by
  funext e h
  simp only [ev, evs]
  cases ev Φ a e h with
  | ok x h1 =>
    simp only [Out.bind_ok]
    cases ev Φ b e h1 with
    | ok y h2 =>
      simp only [Out.bind_ok]
      cases ev Φ d e h2 <;> rfl
    | _ => rfl
  | _ => rfl
theorem bltTys : (tyNames.all fun t => decide (bootBuiltins (Str.ofString t) = some (.type t))) = true := by decide +kernel
theorem bltTy {t : String} (h : t ∈ tyNames) : bootBuiltins (Str.ofString t) = some (.type t) := of_decide_eq_true (List.all_eq_true.mp bltTys t h)
theorem nameTys : (tyNames.all fun t => decide (Str.ofString t ≠ "__name__") && decide ((Str.ofString t == ("__debug__" : Str)) = false)) = true := by decide +kernel
theorem nameTy {t : String} (h : t ∈ tyNames) : Str.ofString t ≠ "__name__" ∧ (Str.ofString t == ("__debug__" : Str)) = false := by
  have q := List.all_eq_true.mp nameTys t h
  rw [Bool.and_eq_true] at q
  exact ⟨of_decide_eq_true q.1, of_decide_eq_true q.2⟩
theorem eo_slc {cf lo hi : Bool} {es : Es} {a : Expr} {subs : List Expr} (h : mSlc lo hi a = some subs) (q : PEs X Φ es subs) : EO X Φ (.prim (.slc cf lo hi) es) a := by
  unfold mSlc at h
  split at h
  · split at h
    · cases h
      cases q with
      | cons _ h1 q =>
        cases q
        refine eo_plain rfl ((pe_slice (o_slc cf) h1 po_none po_none).of fun σ H Q t => ?_)
        rw [ev_one] at t
        obtain ⟨w, e, rv, h', rfl, ok, er, m, p⟩ := t
        obtain ⟨x, h1', qa, m⟩ := Out.bind_eq_ok m
        refine ⟨w, e, x, h1', rfl, ok, er, qa, fun w1 v x1 ok1 e1 r1 => ?_⟩
        subst e1
        exact slc_vals ok1 r1 m (p.ext x1)
    · cases h
      cases q with
      | cons _ h1 q =>
        cases q with
        | cons _ h2 q =>
          cases q
          refine eo_plain rfl ((pe_slice (o_slc cf) h1 (po_some h2) po_none).of fun σ H Q t => ?_)
          rw [ev_two] at t
          obtain ⟨w, e, rv, h', rfl, ok, er, m, p⟩ := t
          obtain ⟨x, h1', qa, m1⟩ := Out.bind_eq_ok m
          obtain ⟨y, h2', qb, m2⟩ := Out.bind_eq_ok m1
          clear m m1
          refine ⟨w, e, x, h1', rfl, ok, er, qa, fun w1 v x1 ok1 e1 r1 => ?_⟩
          subst e1
          refine ⟨w1, e, y, h2', rfl, ok1, er.ext x1, qb, fun w2 u x2 ok2 e2 r2 => ?_⟩
          subst e2
          have m2 : (match oi y with | some i => slcM cf x (some i) none w2.h | none => Out.stuck) = .ok rv h' := m2
          split at m2
          · rename_i i hi
            obtain rfl := oi_eq hi
            cases r2 with
            | d r2 =>
              cases r2
              exact ⟨i, rfl, slc_vals ok2 (r1.ext x2) m2 (p.ext (x1.trans x2))⟩
          · cases m2
    · cases h
      cases q with
      | cons _ h1 q =>
        cases q with
        | cons _ h2 q =>
          cases q
          refine eo_plain rfl ((pe_slice (o_slc cf) h1 po_none (po_some h2)).of fun σ H Q t => ?_)
          rw [ev_two] at t
          obtain ⟨w, e, rv, h', rfl, ok, er, m, p⟩ := t
          obtain ⟨x, h1', qa, m1⟩ := Out.bind_eq_ok m
          obtain ⟨y, h2', qb, m2⟩ := Out.bind_eq_ok m1
          clear m m1
          refine ⟨w, e, x, h1', rfl, ok, er, qa, fun w1 v x1 ok1 e1 r1 => ?_⟩
          subst e1
          refine ⟨w1, e, y, h2', rfl, ok1, er.ext x1, qb, fun w2 u x2 ok2 e2 r2 => ?_⟩
          subst e2
          have m2 : (match oi y with | some i => slcM cf x none (some i) w2.h | none => Out.stuck) = .ok rv h' := m2
          split at m2
          · rename_i i hi
            obtain rfl := oi_eq hi
            cases r2 with
            | d r2 =>
              cases r2
              exact ⟨i, rfl, slc_vals ok2 (r1.ext x2) m2 (p.ext (x1.trans x2))⟩
          · cases m2
    · cases h
      cases q with
      | cons _ h1 q =>
        cases q with
        | cons _ h2 q =>
          cases q with
          | cons _ h3 q =>
            cases q
            refine eo_plain rfl ((pe_slice (o_slc cf) h1 (po_some h2) (po_some h3)).of fun σ H Q t => ?_)
            rw [ev_three] at t
            obtain ⟨w, e, rv, h', rfl, ok, er, m, p⟩ := t
            obtain ⟨x, h1', qa, m1⟩ := Out.bind_eq_ok m
            obtain ⟨y, h2', qb, m2⟩ := Out.bind_eq_ok m1
            obtain ⟨z, h3', qc, m3⟩ := Out.bind_eq_ok m2
            clear m m1 m2
            refine ⟨w, e, x, h1', rfl, ok, er, qa, fun w1 v x1 ok1 e1 r1 => ?_⟩
            subst e1
            refine ⟨w1, e, y, h2', rfl, ok1, er.ext x1, qb, fun w2 u x2 ok2 e2 r2 => ?_⟩
            subst e2
            have m3 : (match oi y, oi z with | some i, some j => slcM cf x (some i) (some j) h3' | _, _ => Out.stuck) = .ok rv h' := m3
            split at m3
            · rename_i i j hi hj
              obtain rfl := oi_eq hi
              obtain rfl := oi_eq hj
              cases r2 with
              | d r2 =>
                cases r2
                refine ⟨i, rfl, w2, e, _, h3', rfl, ok2, (er.ext x1).ext x2, qc, fun w3 u3 x3 ok3 e3 r3 => ?_⟩
                subst e3
                cases r3 with
                | d r3 =>
                  cases r3
                  exact ⟨j, rfl, slc_vals ok3 ((r1.ext x2).ext x3) m3 (p.ext ((x1.trans x2).trans x3))⟩
            · cases m3
    · cases h
  · cases h
theorem eo_isTy {t : String} (o : CtxOk D k c X) {es : Es} {a : Expr} {subs : List Expr} (h : mIsTy c t a = some subs) (q : PEs X Φ es subs) : EO X Φ (.prim (.isTy t) es) a := by
  unfold mIsTy at h
  split at h
  · split at h
    · rename_i hb
      obtain ⟨hb1, hb2, hb3⟩ := hb
      cases h
      obtain ⟨rfl, hg, hm⟩ := o.blt hb1
      obtain ⟨rfl, hg2, hm2'⟩ := o.blt hb2
      have ht : t ∈ tyNames := List.elem_iff.mp hb3
      have hv : bootBuiltins (Str.ofString t) = some (.type t) := bltTy ht
      have nb := nameTy ht
      have pl := q.plain
      rw [List.all_cons, Bool.and_eq_true] at pl
      cases q with
      | cons _ h1 q =>
        cases q
        refine eo_plain rfl ((pe_callB (c_isTy ht) hg hm PyProof.Rows.boot_isinstance (pa_cons h1 (pa_cons (pe_bltn (v := .ty t) hg2 hm2' hv rfl nb.1 nb.2) pa_nil rfl) (starEach_plain pl.1)) (by decide) (by decide) (starEach_plain pl.1) rfl).of fun σ H Q tt => ?_)
        rw [ev_one] at tt
        obtain ⟨w, e, rv, h', rfl, ok, er, m, p⟩ := tt
        obtain ⟨x, h1', qa, m1⟩ := Out.bind_eq_ok m
        refine ⟨w, e, x, h1', rfl, ok, er, qa, fun w1 v x1 ok1 e1 r1 => ?_⟩
        subst e1
        exact ⟨w1, x, rv, v, h', rfl, rfl, ok1, r1, m1, p.ext x1⟩
    · cases h
  · cases h
theorem eo_dz (o : CtxOk D k c X) (nh : c.hot = false) {es : Es} {a : Expr} {subs : List Expr} (h : mDZ c a = some subs) (q : PEs X Φ es subs) : EO X Φ (.prim .dictZip es) a := by
  unfold mDZ at h
  split at h
  · split at h
    · rename_i hb
      cases h
      exact eo_plain rfl (pe_dictZip o nh hb.1 hb.2 q)
    · cases h
  · cases h
theorem o_isBl : OpR X (compareOp .Is) (r2 X.kw (isBlM false)) := by
  intro pins s σ H x y v u Q I rx ry h
  obtain ⟨w, a, b, rv, h', rfl, ok, ra, rb, e, p⟩ := h
  unfold isBlM at e
  split at e
  · rename_i i j
    cases e
    cases ra with
    | d ra =>
      cases ra
      cases rb with
      | d rb =>
        cases rb
        exact op_is_bl pins s σ _ _ _ v u Q I rx ry ⟨i, j, rfl, rfl, p.same ok (.d (.bl _))⟩
  · cases e
theorem o_notBl : OpR X (compareOp .IsNot) (r2 X.kw (isBlM true)) := by
  intro pins s σ H x y v u Q I rx ry h
  obtain ⟨w, a, b, rv, h', rfl, ok, ra, rb, e, p⟩ := h
  unfold isBlM at e
  split at e
  · rename_i i j
    cases e
    cases ra with
    | d ra =>
      cases ra
      cases rb with
      | d rb =>
        cases rb
        exact op_isnot_bl pins s σ _ _ _ v u Q I rx ry ⟨i, j, rfl, rfl, p.same ok (.d (.bl _))⟩
  · cases e
/-- isinstance(e, ..) of an exception that is held -/
def rIsX (K : KW) : List V → Hp → VK → Prop := fun vs H Q => ∃ (a C : Addr) (y : V) (u : Value) (b : Bool), vs = [.ref a, y] ∧ H a = some (PLX.EXO a C) ∧ ExcC K C ∧ ClsV y u ∧ PySem.W.kitOne K (.ref C) u = some b ∧ Q (.bl b) H
def rIsXT (K : KW) : List V → Hp → VK → Prop := fun vs H Q => ∃ (a C tp : Addr) (ys : List V) (us : List Value) (b : Bool), vs = [.ref a, .ref tp] ∧ H a = some (PLX.EXO a C) ∧ ExcC K C ∧ H tp = some (.tup ys) ∧ Paired ClsV ys us ∧ PySem.W.kitAny K (.ref C) us = some b ∧ Q (.bl b) H
theorem exo_at {pins : List (Addr × Obj)} {σ : L2.St} {H : Hp} {s : Shared} {a C : Addr} (I : Inv X pins σ H s) (e : H a = some (PLX.EXO a C)) : ∃ o, PySem.W.InstAt s.heap a o C none := by
  obtain ⟨o, vs, h1, h2, h3, h4⟩ := (I.hok a _ e).1
  obtain ⟨oc, od, oda, osl⟩ := o
  dsimp only at h2 h3 h4
  subst h2 h3 h4
  exact ⟨_, h1, rfl, rfl, trivial⟩
theorem call_isX : CallR X (.builtin "isinstance") (rIsX X.kw) := by
  intro pins s σ H xs us Q I r h
  obtain ⟨a, C, y, u, b, rfl, ea, xc, cy, kt, q⟩ := h
  obtain ⟨u1, u2, rfl, r1, r2⟩ := vals2 r
  cases (show u1 = Value.ref a from r1)
  have e2 := cy.eq r2
  subst e2
  obtain ⟨o, J⟩ := exo_at I ea
  exact PySem.W.kia_one (PySem.W.handS_kitx_exc xc.hg xc.hk xc.hs xc.hd xc.ha xc.hn xc.ht xc.hm) I.kIn J kt (fun z => nomatch z) fun tk => ⟨.bl b, H, I.tok tk, rfl, q⟩
theorem call_isXT : CallR X (.builtin "isinstance") (rIsXT X.kw) := by
  intro pins s σ H xs us Q I r h
  obtain ⟨a, C, tp, ys, ws, b, rfl, ea, xc, et, cy, kt, q⟩ := h
  obtain ⟨u1, u2, rfl, r1, r2⟩ := vals2 r
  cases (show u1 = Value.ref a from r1)
  cases (show u2 = Value.ref tp from r2)
  obtain ⟨_, its, rv, o, h1, h2, n, h3⟩ := (show ObjOk X.prog X.w H s.heap tp (.tup ys) from I.hok tp _ et)
  have e3 := ClsV.all cy rv
  subst e3
  obtain ⟨oc, od, dt, sl⟩ := o
  simp only at h2 h3
  subst h2 h3
  obtain ⟨o, J⟩ := exo_at I ea
  exact PySem.W.kia_tup (PySem.W.handS_kitx_exc xc.hg xc.hk xc.hs xc.hd xc.ha xc.hn xc.ht xc.hm) I.kIn J h1 kt (fun z => nomatch z) fun tk => ⟨.bl b, H, I.tok tk, rfl, q⟩
/-- a class by its name -/
theorem cls_pe (o : CtxOk D k c X) {s : String} {x : Str} {px : Pos} (h : (decide (x = Str.ofString s) && kB c x .globalImplicit && ndB x && (c.ys.contains s || s == "ValueError")) = true) :
    ∃ (v : V) (u : Value), PE X (.Name x px) (tC v) ∧ ClsV v u ∧ ∀ d, d ∈ c.xs → ∀ C, NmC X.K d C → PySem.W.kitOne X.K (.ref C) u = some (isSub d s) := by
  simp only [Bool.and_eq_true, Bool.or_eq_true, decide_eq_true_eq] at h
  obtain ⟨⟨⟨rfl, hg⟩, hn⟩, hy⟩ := h
  by_cases hm : c.ys.contains s = true
  · obtain ⟨C', y⟩ := o.ex.yc s (List.elem_iff.mp hm)
    exact ⟨.ref C', .ref C', pe_glob (o.kind hg) y.g rfl (nd_of hn).1, .own C', fun d hd C n => o.ex.kit hd (List.elem_iff.mp hm) n y.n⟩
  · rcases hy with hy | hy
    · exact absurd hy hm
    · have e := eq_of_beq hy
      subst e
      refine ⟨.ty "ValueError", .type "ValueError", pe_bltn (o.kind hg) o.ex.ve (by rfl) rfl (by decide) (nd_of hn).1, .ty _, fun d hd C n => ?_⟩
      obtain ⟨C2, x⟩ := o.ex.xc d hd
      obtain rfl := x.n.eq n
      have q : PySem.W.kitCls X.K (.ref C2) (.type "ValueError") = some true := by
        show (if PySem.W.kitMeta "ValueError" = true then PySem.W.subIn X.K (.ref C2) (.type "ValueError") else none) = some true
        rw [if_pos (by decide +kernel)]
        exact x.v
      have e2 : isSub d "ValueError" = true := by simp [isSub]
      rw [e2]
      exact (if_neg (by simp)).trans q
theorem cls_pa (o : CtxOk D k c X) : ∀ {ss : List String} {es : List Expr}, mNames c ss es = true →
    ∃ (vs : List V) (us : List Value), PA X es (fun _ H Q => Q vs H) ∧ Paired ClsV vs us ∧ vs.length = es.length ∧ es.all plainA = true ∧ ∀ d, d ∈ c.xs → ∀ C, NmC X.K d C → PySem.W.kitAny X.K (.ref C) us = some (ss.any (isSub d))
  | [], [], _ => ⟨[], [], pa_nil.of fun _ _ _ q => q, .nil, rfl, rfl, fun _ _ _ _ => rfl⟩
  | [], _ :: _, h => by simp [mNames] at h
  | _ :: _, [], h => by simp [mNames] at h
  | s :: ss, e :: es, h => by
    unfold mNames at h
    split at h
    · rename_i h1 _
      cases h1
    · rename_i s' ss' x px es' h1 h2
      cases h1
      cases h2
      rw [Bool.and_eq_true] at h
      obtain ⟨v, u, p1, c1, k1⟩ := cls_pe (px := px) o h.1
      obtain ⟨vs, us, p2, c2, l2, a2, k2⟩ := cls_pa o h.2
      refine ⟨v :: vs, u :: us, (pa_cons p1 p2 (starEach_plain rfl)).of fun _ _ _ q => q, .cons c1 c2, congrArg (· + 1) l2, by rw [List.all_cons, a2]; rfl, fun d hd C n => ?_⟩
      unfold PySem.W.kitAny
      rw [k1 d hd C n]
      cases hb : isSub d s with
      | true =>
        rw [List.any_cons, hb]
        rfl
      | false =>
        rw [List.any_cons, hb, Bool.false_or]
        exact k2 d hd C n
    · cases h
theorem mNames_len : ∀ {ss : List String} {es : List Expr}, mNames c ss es = true → ss.length = es.length
  | [], [], _ => rfl
  | [], _ :: _, h => by simp [mNames] at h
  | _ :: _, [], h => by simp [mNames] at h
  | s :: ss, e :: es, h => by
    unfold mNames at h
    split at h
    · rename_i h1 _
      cases h1
    · rename_i h1 h2
      cases h1
      cases h2
      rw [Bool.and_eq_true] at h
      exact congrArg (· + 1) (mNames_len h.2)
    · cases h
theorem isExcM_ok {xs cs : List String} {x rv : PV} {h h' : Hh} (e : isExcM xs cs x h = .ok rv h') : ∃ d, x = .exc d ∧ d ∈ xs ∧ rv = bln (cs.any (isSub d)) ∧ h' = h := by
  unfold isExcM at e
  split at e
  · split at e
    · rename_i hx
      cases e
      exact ⟨_, rfl, List.elem_iff.mp hx, rfl, rfl⟩
    · cases e
  · cases e
theorem eo_isX {tup : Bool} {xs cs : List String} (o : CtxOk D k c X) {es : Es} {a : Expr} {subs : List Expr} (h : mIsX c tup xs cs a = some subs) (q : PEs X Φ es subs) : EO X Φ (.prim (.isExc tup xs cs) es) a := by
  unfold mIsX at h
  split at h
  · split at h
    · rename_i x px y z pos hb
      obtain ⟨hb1, hxs, hcl⟩ := hb
      obtain ⟨rfl, hg, hm⟩ := o.blt hb1
      have inx : ∀ d, d ∈ xs → d ∈ c.xs := fun d hd => List.elem_iff.mp (List.all_eq_true.mp hxs d hd)
      split at h
      · rename_i es2 kk2 pos2
        split at h
        · rename_i hn
          cases h
          have pl := q.plain
          rw [List.all_cons, Bool.and_eq_true] at pl
          obtain ⟨vs, us, p2, c2, l2, a2, k2⟩ := cls_pa o hn
          cases q with
          | cons _ h1 q =>
            cases q
            refine eo_plain rfl ((pe_callB call_isXT hg hm PyProof.Rows.boot_isinstance (pa_cons h1 (pa_cons (pe_tup p2) pa_nil rfl) (starEach_plain pl.1)) (by decide) (by decide) (starEach_plain pl.1) rfl).of fun σ H Q tt => ?_)
            rw [ev_one] at tt
            obtain ⟨w, e, rv, h', rfl, ok, er, m, p⟩ := tt
            obtain ⟨x, h1', qa, m1⟩ := Out.bind_eq_ok m
            refine ⟨w, e, x, h1', rfl, ok, er, qa, fun w1 v x1 ok1 e1 r1 => ?_⟩
            subst e1
            obtain ⟨d, rfl, hd, rfl, rfl⟩ := isExcM_ok m1
            cases r1 with
            | @exc _ av C f ea n =>
              obtain ⟨C2, xc⟩ := o.ex.xc d (inx d hd)
              obtain rfl := xc.n.eq n
              refine ⟨?_, fun tp htp => ?_⟩
              · have := mNames_len hn
                rw [l2, ← this, sizeLine_eq]
                omega
              · refine ⟨av, _, tp, vs, us, _, rfl, ?_, xc.e, upd_same, c2, k2 d (inx d hd) _ n, ?_⟩
                · rw [upd_ne (ne_of_none ea htp)]
                  exact ea
                · exact (p.ext x1) (w1.fix tp (.tup vs)) (.bl _) (Wd.fix_ext ok1 htp) (Wd.fix_ok ok1 htp) rfl (.d (.bl _))
        · cases h
      · split at h
        · rename_i hn
          cases h
          have pl := q.plain
          rw [List.all_cons, Bool.and_eq_true] at pl
          obtain ⟨vs, us, p2, c2, l2, a2, k2⟩ := cls_pa o hn
          cases q with
          | cons _ h1 q =>
            cases q
            refine eo_plain rfl ((pe_callB call_isX hg hm PyProof.Rows.boot_isinstance (pa_cons h1 p2 (starEach_plain pl.1)) (by decide) (by decide) (starEach_plain pl.1) (noStar a2)).of fun σ H Q tt => ?_)
            rw [ev_one] at tt
            obtain ⟨w, e, rv, h', rfl, ok, er, m, p⟩ := tt
            obtain ⟨x, h1', qa, m1⟩ := Out.bind_eq_ok m
            refine ⟨w, e, x, h1', rfl, ok, er, qa, fun w1 v x1 ok1 e1 r1 => ?_⟩
            subst e1
            obtain ⟨d, rfl, hd, rfl, rfl⟩ := isExcM_ok m1
            cases r1 with
            | @exc _ av C f ea n =>
              obtain ⟨C2, xc⟩ := o.ex.xc d (inx d hd)
              obtain rfl := xc.n.eq n
              have kk := k2 d (inx d hd) _ n
              have hl := mNames_len hn
              rw [List.length_singleton] at l2
              cases c2 with
              | nil => simp at l2
              | @cons y u ys us' cy cr =>
                cases cr with
                | cons _ _ => simp at l2
                | nil =>
                  refine ⟨av, _, y, u, _, rfl, ea, xc.e, cy, ?_, (p.ext x1).same ok1 (.d (.bl _))⟩
                  unfold PySem.W.kitAny at kk
                  split at kk
                  · rename_i hk
                    rw [hk]
                    exact kk
                  · rename_i hk
                    rw [hk]
                    exact kk
                  · cases kk
        · cases h
      · cases h
    · cases h
  · cases h
theorem prim_ok (o : CtxOk D k c X) {p : Prim} {es : Es} {a : Expr} {subs : List Expr} (h : mP c p a = some subs) (q : PEs X Φ es subs) : EO X Φ (.prim p es) a := by
  have hu := o.u65
  cases p with
  | tup => exact eo_tup h q
  | lst cf => exact eo_lst h q
  | idx => exact eo_idx o h q
  | slc cf lo hi => exact eo_slc h q
  | add cf => exact eo_bin (o_add cf) (fun _ _ _ => rfl) h q
  | sub => exact eo_bin o_sub (fun _ _ _ => rfl) h q
  | mul => exact eo_bin o_mul (fun _ _ _ => rfl) h q
  | mod => exact eo_bin o_mod (fun _ _ _ => rfl) h q
  | fdiv => exact eo_bin o_fdiv (fun _ _ _ => rfl) h q
  | pow => exact eo_bin o_pow (fun _ _ _ => rfl) h q
  | neg => exact eo_neg h q
  | eq => exact eo_cmp (o_eq (by omega)) (fun _ _ _ => rfl) h q
  | ne => exact eo_cmp (o_ne (by omega)) (fun _ _ _ => rfl) h q
  | lt => exact eo_cmp (o_cmp op_lt) (fun _ _ _ => rfl) h q
  | le => exact eo_cmp (o_cmp op_le) (fun _ _ _ => rfl) h q
  | gt => exact eo_cmp (o_cmp op_gt) (fun _ _ _ => rfl) h q
  | ge => exact eo_cmp (o_cmp op_ge) (fun _ _ _ => rfl) h q
  | isN => exact eo_isN (neg := false) rfl (fun _ _ => rfl) h q
  | notN => exact eo_isN (neg := true) rfl (fun _ _ => rfl) h q
  | inn => exact eo_cmp (o_in hu) (fun _ _ _ => rfl) h q
  | notIn => exact eo_cmp (o_notIn hu) (fun _ _ _ => rfl) h q
  | len => exact eo_blt o c_len PySem.boot_len (by decide) (by decide) h q
  | listOf cf => exact eo_bty o (c_list cf) PyProof.Rows.boot_list (by decide) (by decide) h q
  | tupOf => exact eo_bty o c_tuple PyProof.Rows.boot_tuple (by decide) (by decide) h q
  | int => exact eo_bty o c_int PyProof.Rows.boot_int (by decide) (by decide) h q
  | isTy t => exact eo_isTy o h q
  | dictPairs => exact eo_bty o (c_dict (o.calm (nhot_ok h).1)) PyProof.Rows.boot_dict (by decide) (by decide) (nhot_ok h).2 q
  | dictPairsC => exact eo_bty o (c_dictC (o.calm (nhot_ok h).1)) PyProof.Rows.boot_dict (by decide) (by decide) (nhot_ok h).2 q
  | dictZip => exact eo_dz o (nhot_ok h).1 (nhot_ok h).2 q
  | isBl => exact eo_cmp o_isBl (fun _ _ _ => rfl) h q
  | notBl => exact eo_cmp o_notBl (fun _ _ _ => rfl) h q
  | lenSet => exact eo_ls o (nhot_ok h).1 (nhot_ok h).2 q
  | min2 => exact eo_blt2 o (c_min2 (o.calm (nhot_ok h).1)) PyProof.Rows.boot_min (by decide) (by decide) (nhot_ok h).2 q
  | max2 => exact eo_blt2 o (c_max2 (o.calm (nhot_ok h).1)) PyProof.Rows.boot_max (by decide) (by decide) (nhot_ok h).2 q
  | abs => exact eo_blt o c_abs PyProof.Rows.boot_abs (by decide) (by decide) h q
  | dnew => exact (eo_dnew h q).1
  | lstRng cf => exact eo_lr o (nhot_ok h).1 (nhot_ok h).2 q
  | rev cf => exact eo_rev h q
  | stp cf => exact eo_stp h q
  | all => exact eo_blt o (c_all (o.calm (nhot_ok h).1)) PyProof.Rows.boot_all (by decide) (by decide) (nhot_ok h).2 q
  | dnewN => exact (eo_dnew h q).2
  | isExc t xs cs => exact eo_isX o h q
  | _ => cases h
end
end PL

set_option maxRecDepth 100000
set_option maxHeartbeats 4000000
/-! PL10: all expressions. -/
namespace PL
open PySem PySem.Spec PyProof.Rows L2

def cmpOf : Prim → Option CmpOp
  | .lt => some .Lt
  | .le => some .LtE
  | .gt => some .Gt
  | .ge => some .GtE
  | _ => none
/-- a method's name, and how many arguments -/
def mName : Prim → Option (String × Nat)
  | .append => some ("append", 1)
  | .extend => some ("extend", 1)
  | .pop => some ("pop", 0)
  | .popAt => some ("pop", 1)
  | .clear => some ("clear", 0)
  | .get1 => some ("get", 1)
  | .get2 => some ("get", 2)
  | .index => some ("index", 1)
  | .count => some ("count", 1)
  | .insert => some ("insert", 2)
  | _ => none
def methB (p : Prim) (m : Str) (n : Nat) : Bool := match mName p with
  | some (s, k) => decide (m = Str.ofString s) && n == k
  | none => false
def ownOf (c : Ctx) : List Nat → Option (List (Str × Nat))
  | [] => some []
  | i :: r => match c.N[i]?, ownOf c r with
    | some x, some l => some ((x, i) :: l)
    | _, _ => none
mutual
def mE (c : Ctx) : E → Expr → Bool
  | .var i, a => (match a with
    | .Name x _ => decide (c.N[i]? = some x) && visB c x && ndB x
    | _ => false)
  | .cst d, a => (match a with
    | .Constant k _ _ => constB d k
    | _ => false)
  | .prim p es, a => (match mP c p a with
    | some subs => mEs c es subs
    | none => false)
  | .and es, a => (match a with
    | .BoolOp .And as _ => !as.isEmpty && mEs c es as
    | _ => false)
  | .or es, a => (match a with
    | .BoolOp .Or as _ => !as.isEmpty && mEs c es as
    | _ => false)
  | .orv e1 e2, a => (match a with
    | .BoolOp .Or [x, y] _ => mE c e1 x && mE c e2 y
    | _ => false)
  | .not e, a => (match a with
    | .UnaryOp .Not b _ => mE c e b
    | _ => false)
  | .chain p q e1 e2 e3, a => (match a with
    | .Compare x [o1, o2] [y, z] _ => decide (cmpOf p = some o1) && decide (cmpOf q = some o2) && mE c e1 x && mE c e2 y && mE c e3 z && notSet z
    | _ => false)
  | .ite e1 e2 e3, a => (match a with
    | .IfExp x y z _ => mE c e1 x && mE c e2 y && mE c e3 z
    | _ => false)
  | .call f es, a => (match a with
    | .Call (.Name x _) as [] _ => !c.hot && decide (x = Str.ofString f) && kB c x .globalImplicit && c.fs.contains f && ndB x && mEs c es as
    | _ => false)
  | .meth p o es, a => (match a with
    | .Call (.Attribute b m ap) as [] cp => methB p m as.length && notCall0 b && (ap.endLine == cp.line) && mE c o b && mEs c es as
    | _ => false)
  | .comp _ own t it cond elt, a => (match a with
    | .ListComp ea [⟨ta, ia, ifs, asy⟩] scope _ => !c.hot && (match ownOf c own with
      | some l => decide (asy = 0) && blkC c.N c.sc scope l && (slots t).all (fun i => own.contains i) && mT (blkCtx c scope) t ta && mIt c it ta ia && notSet ia && mCond (blkCtx c scope) cond ifs && mE (blkCtx c scope) elt ea
      | none => false)
    | _ => false)
  | .frz e, a => mE c e a
def mEs (c : Ctx) : Es → List Expr → Bool
  | .nil, as => (match as with
    | [] => true
    | _ => false)
  | .cons e r, as => (match as with
    | a :: as => plainA a && mE c e a && mEs c r as
    | [] => false)
def mIt (c : Ctx) : It → Expr → Expr → Bool
  | .seq e, _, a => mE c e a
  | .rng1 e, _, a => (match a with
    | .Call (.Name x _) [b] [] _ => builtinB c "range" x && plainA b && mE c e b
    | _ => false)
  | .rng2 e f, _, a => (match a with
    | .Call (.Name x _) [b, d] [] _ => builtinB c "range" x && plainA b && plainA d && mE c e b && mE c f d
    | _ => false)
  | .zip e f, t, a => (match t, a with
    | .Tuple _ _ _, .Call (.Name x _) [b, d] [] _ => builtinB c "zip" x && plainA b && plainA d && mE c e b && mE c f d
    | _, _ => false)
  | .enum e, t, a => (match t, a with
    | .Tuple _ _ _, .Call (.Name x _) [b] [] _ => builtinB c "enumerate" x && plainA b && mE c e b
    | _, _ => false)
def mCond (c : Ctx) : Es → List Expr → Bool
  | .nil, as => (match as with
    | [] => true
    | _ => false)
  | .cons e r, as => (match as with
    | [a] => (match r with
      | .nil => mE c e a
      | _ => false)
    | _ => false)
end
section
variable {D : Defs} {k : Nat} {c : Ctx} {X : Cx}
/-- the parts of and, or -/
inductive EOs (X : Cx) (Φ : String → List PV → Hh → Out PV) : Es → List Expr → Prop
  | nil : EOs X Φ .nil []
  | cons {e : E} {r : Es} {a : Expr} {as : List Expr} : plainA a = true → EO X Φ e a → EOs X Φ r as → EOs X Φ (.cons e r) (a :: as)
theorem EOs.pes {Φ : String → List PV → Hh → Out PV} : ∀ {es : Es} {as : List Expr}, EOs X Φ es as → PEs X Φ es as
  | _, _, .nil => .nil
  | _, _, .cons h q r => .cons h q.1 r.pes
section
variable {Φ : String → List PV → Hh → Out PV}
theorem evB_ok {e : E} {r : Ee} {h h' : Hh} {b : Bool} (q : evB Φ e r h = .ok b h') : ev Φ e r h = .ok (bln b) h' := by
  obtain ⟨v, h1, qa, q⟩ := Out.bind_eq_ok q
  obtain ⟨rfl, rfl⟩ := asB_ok q
  exact qa
theorem asB_bln (b : Bool) (h : Hh) : asB (bln b) h = .ok b h := rfl
/-- and -/
theorem and_ok : ∀ {es : Es} {as : List Expr} {pos : Pos}, EOs X Φ es as → as ≠ [] → PE X (.BoolOp .And as pos) (tE X.kw (evAnd Φ es)) ∧ PW X (.BoolOp .And as pos) (tT X.kw fun e h => (evAnd Φ es e h).bind asB)
  | _, _, _, .nil, hn => absurd rfl hn
  | _, _, pos, .cons (e := e) h q .nil, _ => by
    have key : ∀ (r : Ee) (h : Hh), evAnd Φ (.cons e .nil) r h = (ev Φ e r h).bind fun v h1 => (asB v h1).bind fun b h2 => .ok (bln b) h2 := fun r h => by
      simp only [evAnd]
      cases ev Φ e r h with
      | ok v h1 =>
        simp only [Out.bind_ok]
        cases asB v h1 with
        | ok b h2 => cases b <;> rfl
        | _ => rfl
      | _ => rfl
    refine ⟨(pe_one q.1).of fun σ H Q t => ?_, ⟨fun wh pins s σ H Q I t => (pw_and1 q.2).run wh pins s σ H Q I ?_⟩⟩
    · obtain ⟨w, r, rv, h', rfl, ok, er, m, p⟩ := t
      rw [key] at m
      obtain ⟨v, h1, qa, m⟩ := Out.bind_eq_ok m
      obtain ⟨b, h2, qb, m⟩ := Out.bind_eq_ok m
      obtain ⟨rfl, rfl⟩ := asB_ok qb
      cases m
      exact ⟨w, r, _, _, rfl, ok, er, qa, p⟩
    · obtain ⟨w, r, rv, h', rfl, ok, er, m, p⟩ := t
      obtain ⟨v, h1, qa, m⟩ := Out.bind_eq_ok m
      rw [key] at qa
      obtain ⟨v2, h3, qa, m2⟩ := Out.bind_eq_ok qa
      obtain ⟨b, h2, qb, m2⟩ := Out.bind_eq_ok m2
      obtain ⟨rfl, rfl⟩ := asB_ok qb
      cases m2
      refine ⟨w, r, b, h1, rfl, ok, er, ?_, ?_⟩
      · show (ev Φ e r w.h).bind asB = _
        rw [qa]
        rfl
      · cases m
        exact p
  | _, _, pos, .cons (e := e) h q (.cons (e := e2) (r := r2) h2 q2 t2), _ => by
    obtain ⟨i1, i2⟩ := and_ok (pos := pos) (.cons h2 q2 t2) (by simp)
    refine ⟨(pe_and q.1 i1).of fun σ H Q t => ?_, ⟨fun wh pins s σ H Q I t => (pw_and q.2 i2).run wh pins s σ H Q I ?_⟩⟩
    · obtain ⟨w, r, rv, h', rfl, ok, er, m, p⟩ := t
      rw [evAnd] at m
      obtain ⟨v, h1, qa, m⟩ := Out.bind_eq_ok m
      obtain ⟨b, h3, qb, m⟩ := Out.bind_eq_ok m
      obtain ⟨rfl, rfl⟩ := asB_ok qb
      refine ⟨w, r, _, _, rfl, ok, er, qa, fun w1 x x1 ok1 e1 r1 => ?_⟩
      subst e1
      cases r1 with
      | d r1 =>
        cases r1
        refine ⟨b, rfl, ?_⟩
        cases b with
        | true => exact iteT ⟨w1, r, rv, h', rfl, ok1, er.ext x1, m, p.ext x1⟩
        | false =>
          cases m
          exact iteF ((p.ext x1).same ok1 (.d (.bl _)))
    · obtain ⟨w, r, rb, h', rfl, ok, er, m, p⟩ := t
      obtain ⟨v0, h0, m0, m1⟩ := Out.bind_eq_ok m
      rw [evAnd] at m0
      obtain ⟨v, h1, qa, m0a⟩ := Out.bind_eq_ok m0
      obtain ⟨b, h3, qb, m0b⟩ := Out.bind_eq_ok m0a
      clear m0 m0a
      obtain ⟨rfl, rfl⟩ := asB_ok qb
      refine ⟨w, r, b, h3, rfl, ok, er, ?_, fun w1 x1 ok1 e1 => ?_⟩
      · show (ev Φ e r w.h).bind asB = _
        rw [qa]
        rfl
      · subst e1
        cases b with
        | true => exact iteT ⟨w1, r, rb, h', rfl, ok1, er.ext x1, by
            show (evAnd Φ _ r w1.h).bind asB = _
            dsimp only at m0b
            rw [m0b]
            exact m1, fun w2 x2 ok2 e2 => p w2 (x1.trans x2) ok2 e2⟩
        | false =>
          cases m0b
          cases m1
          exact iteF (p w1 x1 ok1 rfl)
theorem isLst_asB {v : PV} {h h' : Hh} {b : Bool} (e : asB v h = .ok b h') : isLst v h = false := by
  obtain ⟨rfl, rfl⟩ := asB_ok e
  rfl
theorem truL_isLst {v : PV} {h : Hh} (e : truL v h = some true) : isLst v h = true := by
  unfold truL at e
  unfold isLst
  split at e
  · cases e
  · split at e
    · rename_i ds hv
      simp only [hv]
    · cases e
/-- or, of lists -/
theorem orv_ok {e1 e2 : E} {a b : Expr} {pos : Pos} (q1 : EO X Φ e1 a) (q2 : EO X Φ e2 b) : EO X Φ (.orv e1 e2) (.BoolOp .Or [a, b] pos) := by
  refine ⟨(pe_orT q1.1 (pe_one q2.1)).of fun σ H Q t => ?_, ⟨fun pins s σ H Q I t => ?_⟩⟩
  · obtain ⟨w, r, rv, h', rfl, ok, er, m, p⟩ := t
    rw [ev] at m
    obtain ⟨v, h1, qa, m⟩ := Out.bind_eq_ok m
    refine ⟨w, r, v, h1, rfl, ok, er, qa, fun w1 x x1 ok1 hh1 r1 => ?_⟩
    subst hh1
    have tv : ∀ k, truL v w1.h = some k → TruV X.K x w1.H k := fun k hk => by
      unfold truL at hk
      split at hk
      · cases hk
        cases r1 with
        | d r1 =>
          cases r1
          rfl
      · split at hk
        · rename_i ds hv
          cases hk
          obtain ⟨l, xs, rfl, hx, qx⟩ := vw_list ok1 r1 hv
          refine .inl ⟨xs, .inl hx, ?_⟩
          cases qx <;> rfl
        · cases hk
    split at m
    · rename_i ht
      cases m
      exact ⟨true, tv _ ht, p w1 x x1 ok1 rfl r1⟩
    · rename_i ht
      obtain ⟨u, h2, qb, m⟩ := Out.bind_eq_ok m
      split at m
      · cases m
        exact ⟨false, tv _ ht, w1, r, _, _, rfl, ok1, er.ext x1, qb, p.ext x1⟩
      · cases m
    · cases m
  · obtain ⟨w, r, rv, h', rfl, ok, er, m, p⟩ := t
    replace m : (ev Φ (.orv e1 e2) r w.h).bind asB = .ok rv h' := m
    obtain ⟨v, h1, qa, m2⟩ := Out.bind_eq_ok m
    have hl := isLst_asB m2
    rw [ev] at qa
    obtain ⟨v2, h2, qa, m⟩ := Out.bind_eq_ok qa
    split at m
    · rename_i ht
      cases m
      rw [truL_isLst ht] at hl
      cases hl
    · obtain ⟨u, h3, qb, m⟩ := Out.bind_eq_ok m
      split at m
      · rename_i hu
        cases m
        rw [hu] at hl
        cases hl
      · cases m
    · cases m
/-- or -/
theorem or_ok : ∀ {es : Es} {as : List Expr} {pos : Pos}, EOs X Φ es as → as ≠ [] → PE X (.BoolOp .Or as pos) (tE X.kw (evOr Φ es)) ∧ PW X (.BoolOp .Or as pos) (tT X.kw fun e h => (evOr Φ es e h).bind asB)
  | _, _, _, .nil, hn => absurd rfl hn
  | _, _, pos, .cons (e := e) h q .nil, _ => by
    have key : ∀ (r : Ee) (h : Hh), evOr Φ (.cons e .nil) r h = (ev Φ e r h).bind fun v h1 => (asB v h1).bind fun b h2 => .ok (bln b) h2 := fun r h => by
      simp only [evOr]
      cases ev Φ e r h with
      | ok v h1 =>
        simp only [Out.bind_ok]
        cases asB v h1 with
        | ok b h2 => cases b <;> rfl
        | _ => rfl
      | _ => rfl
    refine ⟨(pe_one q.1).of fun σ H Q t => ?_, ⟨fun wh pins s σ H Q I t => (pw_or1 q.2).run wh pins s σ H Q I ?_⟩⟩
    · obtain ⟨w, r, rv, h', rfl, ok, er, m, p⟩ := t
      rw [key] at m
      obtain ⟨v, h1, qa, m⟩ := Out.bind_eq_ok m
      obtain ⟨b, h2, qb, m⟩ := Out.bind_eq_ok m
      obtain ⟨rfl, rfl⟩ := asB_ok qb
      cases m
      exact ⟨w, r, _, _, rfl, ok, er, qa, p⟩
    · obtain ⟨w, r, rv, h', rfl, ok, er, m, p⟩ := t
      obtain ⟨v, h1, qa, m⟩ := Out.bind_eq_ok m
      rw [key] at qa
      obtain ⟨v2, h3, qa, m2⟩ := Out.bind_eq_ok qa
      obtain ⟨b, h2, qb, m2⟩ := Out.bind_eq_ok m2
      obtain ⟨rfl, rfl⟩ := asB_ok qb
      cases m2
      refine ⟨w, r, b, h1, rfl, ok, er, ?_, ?_⟩
      · show (ev Φ e r w.h).bind asB = _
        rw [qa]
        rfl
      · cases m
        exact p
  | _, _, pos, .cons (e := e) h q (.cons (e := e2) (r := r2) h2 q2 t2), _ => by
    obtain ⟨i1, i2⟩ := or_ok (pos := pos) (.cons h2 q2 t2) (by simp)
    refine ⟨(pe_or q.1 i1).of fun σ H Q t => ?_, ⟨fun wh pins s σ H Q I t => (pw_or q.2 i2).run wh pins s σ H Q I ?_⟩⟩
    · obtain ⟨w, r, rv, h', rfl, ok, er, m, p⟩ := t
      rw [evOr] at m
      obtain ⟨v, h1, qa, m⟩ := Out.bind_eq_ok m
      obtain ⟨b, h3, qb, m⟩ := Out.bind_eq_ok m
      obtain ⟨rfl, rfl⟩ := asB_ok qb
      refine ⟨w, r, _, _, rfl, ok, er, qa, fun w1 x x1 ok1 e1 r1 => ?_⟩
      subst e1
      cases r1 with
      | d r1 =>
        cases r1
        refine ⟨b, rfl, ?_⟩
        cases b with
        | false => exact iteF ⟨w1, r, rv, h', rfl, ok1, er.ext x1, m, p.ext x1⟩
        | true =>
          cases m
          exact iteT ((p.ext x1).same ok1 (.d (.bl _)))
    · obtain ⟨w, r, rb, h', rfl, ok, er, m, p⟩ := t
      obtain ⟨v0, h0, m0, m1⟩ := Out.bind_eq_ok m
      rw [evOr] at m0
      obtain ⟨v, h1, qa, m0a⟩ := Out.bind_eq_ok m0
      obtain ⟨b, h3, qb, m0b⟩ := Out.bind_eq_ok m0a
      clear m0 m0a
      obtain ⟨rfl, rfl⟩ := asB_ok qb
      refine ⟨w, r, b, h3, rfl, ok, er, ?_, fun w1 x1 ok1 e1 => ?_⟩
      · show (ev Φ e r w.h).bind asB = _
        rw [qa]
        rfl
      · subst e1
        cases b with
        | false => exact iteF ⟨w1, r, rb, h', rfl, ok1, er.ext x1, by
            show (evOr Φ _ r w1.h).bind asB = _
            dsimp only at m0b
            rw [m0b]
            exact m1, fun w2 x2 ok2 e2 => p w2 (x1.trans x2) ok2 e2⟩
        | true =>
          cases m0b
          cases m1
          exact iteT (p w1 x1 ok1 rfl)
/-- a < b < c -/
theorem cmpOf_ok {p : Prim} {op : CmpOp} (h : cmpOf p = some op) : ∃ f : Int → Int → Bool, OpR X (compareOp op) (rI0 fun i j => .bl (f i j)) ∧ ∀ x y h, primM p [x, y] h = cmpM f x y h := by
  cases p <;> simp only [cmpOf] at h <;> cases h
  · exact ⟨_, op_lt, fun _ _ _ => rfl⟩
  · exact ⟨_, op_le, fun _ _ _ => rfl⟩
  · exact ⟨_, op_gt, fun _ _ _ => rfl⟩
  · exact ⟨_, op_ge, fun _ _ _ => rfl⟩
theorem cmpM_ok {f : Int → Int → Bool} {x y rv : PV} {h h' : Hh} (q : cmpM f x y h = .ok rv h') : ∃ i j, x = int i ∧ y = int j ∧ rv = bln (f i j) ∧ h' = h := by
  unfold cmpM at q
  split at q
  · rename_i i j
    cases q
    exact ⟨i, j, rfl, rfl, rfl, rfl⟩
  · cases q
theorem vr_int {K : KW} {w : Wd} {i : Int} {v : V} (r : VR K w (int i) v) : v = .int i := by
  cases r with
  | d r =>
    cases r
    rfl
variable {Φ : String → List PV → Hh → Out PV}
theorem chain_ok {p q : Prim} {e1 e2 e3 : E} {x y z : Expr} {o1 o2 : CmpOp} {pos : Pos} (h1 : cmpOf p = some o1) (h2 : cmpOf q = some o2) (a1 : EO X Φ e1 x) (a2 : EO X Φ e2 y) (a3 : EO X Φ e3 z) (hz : notSet z = true) : EO X Φ (.chain p q e1 e2 e3) (.Compare x [o1, o2] [y, z] pos) := by
  obtain ⟨f, of, mf⟩ := cmpOf_ok (X := X) h1
  obtain ⟨g, og, mg⟩ := cmpOf_ok (X := X) h2
  have key : ∀ (σ : L2.St) (H : Hp) (Q : VK), tE X.kw (ev Φ (.chain p q e1 e2 e3)) σ H Q → tChain (rI0 fun i j => .bl (f i j)) (rI0 fun i j => .bl (g i j)) (tE X.kw (ev Φ e1)) (tE X.kw (ev Φ e2)) (tE X.kw (ev Φ e3)) σ H Q := fun σ H Q t => by
    obtain ⟨w, r, rv, h', rfl, ok, er, m, post⟩ := t
    rw [ev] at m
    obtain ⟨v1, k1, m1, m⟩ := Out.bind_eq_ok m
    obtain ⟨v2, k2, m2, m⟩ := Out.bind_eq_ok m
    obtain ⟨v3, k3, m3, m⟩ := Out.bind_eq_ok m
    obtain ⟨b, k4, m4, m⟩ := Out.bind_eq_ok m
    rw [mf] at m3
    obtain ⟨i, j, rfl, rfl, rfl, rfl⟩ := cmpM_ok m3
    have e4 := asB_ok m4
    obtain ⟨e5, e6⟩ := e4
    have e7 : f i j = b := by
      have : (PV.d (.bool (f i j))) = .d (.bool b) := e5
      injection this with z
      injection z
    subst e6
    refine ⟨w, r, _, k1, rfl, ok, er, m1, fun w1 u1 x1 ok1 hh1 r1 => ?_⟩
    subst hh1
    refine ⟨w1, r, _, _, rfl, ok1, er.ext x1, m2, fun w2 u2 x2 ok2 hh2 r2 => ?_⟩
    have r1 := vr_int (r1.ext x2)
    have r2' := vr_int r2
    subst r1
    subst r2'
    refine ⟨i, j, rfl, rfl, f i j, rfl, ?_⟩
    rw [e7]
    cases b with
    | false =>
      cases m
      subst hh2
      exact iteF ((post.ext (x1.trans x2)).same ok2 (.d (.bl _)))
    | true =>
      refine iteT ?_
      obtain ⟨v4, k5, m5, m⟩ := Out.bind_eq_ok m
      rw [mg] at m
      obtain ⟨i', j', e8, rfl, rfl, rfl⟩ := cmpM_ok m
      have e9 : j = i' := by
        have : (PV.d (.int j)) = .d (.int i') := e8
        injection this with z
        injection z
      subst e9
      subst hh2
      refine ⟨w2, r, _, _, rfl, ok2, (er.ext x1).ext x2, m5, fun w3 u3 x3 ok3 hh3 r3 => ?_⟩
      have r3' := vr_int r3
      subst r3'
      subst hh3
      exact ⟨j, j', rfl, rfl, (post.ext ((x1.trans x2).trans x3)).same ok3 (.d (.bl _))⟩
  refine ⟨(pe_chain of og a1.1 a2.1 a3.1 (show lastMarks [o1, o2] [y, z] = false from noMark hz)).of fun σ H Q t => key σ H Q t, (pt_chain of og a1.1 a2.1 a3.1 (show lastMarks [o1, o2] [y, z] = false from noMark hz)).of fun σ H Q t => ?_⟩
  exact key σ H _ (tT_tE t)
/-- a if c else b -/
theorem ite_ok {e1 e2 e3 : E} {x y z : Expr} {pos : Pos} (a1 : EO X Φ e1 x) (a2 : EO X Φ e2 y) (a3 : EO X Φ e3 z) : EO X Φ (.ite e1 e2 e3) (.IfExp x y z pos) := by
  refine ⟨(pe_ifExp a1.2 a2.1 a3.1).of fun σ H Q t => ?_, ⟨fun pins s σ H Q I t => ?_⟩⟩
  · obtain ⟨w, r, rv, h', rfl, ok, er, m, p⟩ := t
    rw [ev] at m
    obtain ⟨v, h1, m1, m⟩ := Out.bind_eq_ok m
    obtain ⟨b, h2, m2, m⟩ := Out.bind_eq_ok m
    refine ⟨w, r, b, h2, rfl, ok, er, by show (ev Φ e1 r w.h).bind asB = _; rw [m1]; exact m2, fun w1 x1 ok1 hh1 => ?_⟩
    subst hh1
    cases b with
    | true => exact iteT ⟨w1, r, rv, h', rfl, ok1, er.ext x1, m, p.ext x1⟩
    | false => exact iteF ⟨w1, r, rv, h', rfl, ok1, er.ext x1, m, p.ext x1⟩
  · obtain ⟨w, r, rb, h', rfl, ok, er, m, p⟩ := t
    obtain ⟨v0, h0, m0, mb⟩ := Out.bind_eq_ok m
    rw [ev] at m0
    obtain ⟨v, h1, m1, m0a⟩ := Out.bind_eq_ok m0
    obtain ⟨b, h2, m2, m0b⟩ := Out.bind_eq_ok m0a
    clear m0 m0a m
    show wpAny _ _ (do if ← isTrue x X.env (eval x X.env) then isTrue y X.env (eval y X.env) else isTrue z X.env (eval z X.env)) _ _ _
    refine wpAny_bind (thn (a1.2.run pins s σ _ (fun b' H' => b' = b ∧ ∃ w1 : Wd, w1.H = H' ∧ Ext w w1 ∧ Ok X.kw w1 ∧ w1.h = h2) I ⟨w, r, b, h2, rfl, ok, er, by show (ev Φ e1 r w.h).bind asB = _; rw [m1]; exact m2, fun w1 x1 ok1 hh1 => ⟨rfl, w1, rfl, x1, ok1, hh1⟩⟩) fun b' s1 ⟨H1, I1, eb, w1, ew, x1, ok1, hh1⟩ => ?_)
    subst eb
    subst ew
    subst hh1
    cases b' with
    | true =>
      rw [if_pos rfl]
      refine (thn (a2.2.run pins s1 σ _ Q I1 ⟨w1, r, rb, h', rfl, ok1, er.ext x1, ?_, fun w2 x2 ok2 hh2 => p w2 (x1.trans x2) ok2 hh2⟩) fun _ _ q => q)
      show (ev Φ e2 r w1.h).bind asB = _
      dsimp only at m0b
      rw [m0b]
      exact mb
    | false =>
      rw [if_neg Bool.false_ne_true]
      refine (thn (a3.2.run pins s1 σ _ Q I1 ⟨w1, r, rb, h', rfl, ok1, er.ext x1, ?_, fun w2 x2 ok2 hh2 => p w2 (x1.trans x2) ok2 hh2⟩) fun _ _ q => q)
      show (ev Φ e3 r w1.h).bind asB = _
      dsimp only at m0b
      rw [m0b]
      exact mb
theorem frz1_ok {K : KW} {w : Wd} {v : PV} {x : V} {d : PyData} {h' : Hh} (ok : Ok K w) (r : VR K w v x) (e : frz1 v w.h = .ok d h') : ∃ w' : Wd, Ext w w' ∧ Ok K w' ∧ w'.h = h' ∧ w'.H = w.H ∧ Rp K w'.F w'.H x d := by
  unfold frz1 at e
  split at e
  · cases e
    cases r with
    | d r => exact ⟨w, Ext.refl w, ok, rfl, rfl, r⟩
  · rename_i n
    split at e
    · rename_i ds hn
      cases e
      cases r with
      | cell hl ex =>
        subst ex
        obtain ⟨nf, xs, hx, qs⟩ := cell_lst ok hn
        exact ⟨w.frz n, Wd.frz_ext, Wd.frz_ok ok hn (by intro z; cases z), rfl, rfl, .lst (.inl rfl) (.inl hx) (qs.keep (Wd.frz_ext (w := w) (n := n)).kp)⟩
    · rename_i ds hn
      cases e
      cases r with
      | cell hl ex =>
        subst ex
        obtain ⟨nf, xs, hx, qs⟩ := (show ClOk K w (w.r n) (.dct ds) from ok.cel n _ hn)
        exact ⟨w.frz n, Wd.frz_ext, Wd.frz_ok ok hn (by intro z; cases z), rfl, rfl, .dct (.inl rfl) (.inl hx) (qs.keep (Wd.frz_ext (w := w) (n := n)).kp)⟩
    · cases e
  · cases e
theorem frzs_ok {K : KW} : ∀ {ps : List PV} {w : Wd} {xs : List V} {ds : List PyData} {h' : Hh}, Ok K w → VRs K w ps xs → frzs ps w.h = .ok ds h' → ∃ w' : Wd, Ext w w' ∧ Ok K w' ∧ w'.h = h' ∧ w'.H = w.H ∧ Rps K w'.F w'.H xs ds
  | [], w, xs, ds, h', ok, r, e => by
    unfold frzs at e
    cases e
    cases r
    exact ⟨w, Ext.refl w, ok, rfl, rfl, .nil⟩
  | v :: r, w, xs, ds, h', ok, q, e => by
    unfold frzs at e
    obtain ⟨x, h1, e1, e⟩ := Out.bind_eq_ok e
    obtain ⟨rest, h2, e2, e⟩ := Out.bind_eq_ok e
    cases e
    cases q with
    | cons q1 q2 =>
      obtain ⟨w1, x1, ok1, hh1, hH1, r1⟩ := frz1_ok ok q1 e1
      subst hh1
      obtain ⟨w2, x2, ok2, hh2, hH2, r2⟩ := frzs_ok ok1 (q2.ext x1) e2
      exact ⟨w2, x1.trans x2, ok2, hh2, hH2.trans hH1, .cons (r1.keep x2.kp) r2⟩
/-- a value is fixed -/
theorem frzM_ok {K : KW} {w1 : Wd} {v rv : PV} {x : V} {h' : Hh} (ok1 : Ok K w1) (r1 : VR K w1 v x) (m : frzM v w1.h = .ok rv h') : ∃ w2 : Wd, Ext w1 w2 ∧ Ok K w2 ∧ w2.h = h' ∧ w2.H = w1.H ∧ VR K w2 rv x := by
  unfold frzM at m
  split at m
  · cases m
    exact ⟨w1, Ext.refl w1, ok1, rfl, rfl, r1⟩
  · rename_i n
    split at m
    · rename_i ds hn
      cases m
      cases r1 with
      | cell hl ex =>
        subst ex
        obtain ⟨nf, xs, hx, qs⟩ := cell_lst ok1 hn
        exact ⟨w1.frz n, Wd.frz_ext, Wd.frz_ok ok1 hn (by intro z; cases z), rfl, rfl, .d (.lst (.inl rfl) (.inl hx) (qs.keep (Wd.frz_ext (w := w1) (n := n)).kp))⟩
    · rename_i ds hn
      cases m
      cases r1 with
      | cell hl ex =>
        subst ex
        obtain ⟨nf, xs, hx, qs⟩ := (show ClOk K w1 (w1.r n) (.dct ds) from ok1.cel n _ hn)
        exact ⟨w1.frz n, Wd.frz_ext, Wd.frz_ok ok1 hn (by intro z; cases z), rfl, rfl, .d (.dct (.inl rfl) (.inl hx) (qs.keep (Wd.frz_ext (w := w1) (n := n)).kp))⟩
    · cases m
  · obtain ⟨ds, h2, m2, m⟩ := Out.bind_eq_ok m
    cases m
    cases r1 with
    | tc f rd qs =>
      obtain ⟨w2, x2, ok2, hh2, hH2, r2⟩ := frzs_ok ok1 qs m2
      exact ⟨w2, x2, ok2, hh2, hH2, .d (.tup (x2.kp.fz _ f) (x2.kp.rd f rd) r2)⟩
  · cases m
  · cases m
theorem frz_ok {e : E} {a : Expr} (q : EO X Φ e a) : EO X Φ (.frz e) a := by
  refine ⟨q.1.of fun σ H Q t => ?_, q.2.of fun σ H Q t => ?_⟩
  · obtain ⟨w, r, rv, h', rfl, ok, er, m, p⟩ := t
    rw [ev] at m
    obtain ⟨v, h1, m1, m⟩ := Out.bind_eq_ok m
    refine ⟨w, r, v, h1, rfl, ok, er, m1, fun w1 x x1 ok1 hh1 r1 => ?_⟩
    subst hh1
    obtain ⟨w2, x2, ok2, hh2, hH2, r2⟩ := frzM_ok ok1 r1 m
    have := p w2 _ (x1.trans x2) ok2 hh2 r2
    rw [hH2] at this
    exact this
  · obtain ⟨w, r, b, h', rfl, ok, er, m, p⟩ := t
    obtain ⟨v, h1, m1, m⟩ := Out.bind_eq_ok m
    obtain ⟨rfl, rfl⟩ := asB_ok m
    rw [ev] at m1
    obtain ⟨v2, h2, m2, m1⟩ := Out.bind_eq_ok m1
    unfold frzM at m1
    split at m1
    · cases m1
      refine ⟨w, r, b, _, rfl, ok, er, ?_, p⟩
      show (ev Φ e r w.h).bind asB = _
      rw [m2]
      rfl
    · split at m1 <;> cases m1
    · obtain ⟨ds, h3, m3, m1⟩ := Out.bind_eq_ok m1
      cases m1
    · cases m1
    · cases m1
theorem callN_len {f : String} {df : Def} {vs : List PV} {rv : PV} {h h' : Hh} (h1 : D.lookup f = some df) (e : callN D k f vs h = .ok rv h') : vs.length = df.ps.length := by
  cases k with
  | zero => cases e
  | succ k =>
    unfold callN at e
    rw [h1] at e
    dsimp only at e
    split at e
    · assumption
    · cases e
theorem callN_lenX {f : String} {df : Def} {vs : List PV} {c : String} {h h' : Hh} (h1 : D.lookup f = some df) (e : callN D k f vs h = .exn c h') : vs.length = df.ps.length := by
  cases k with
  | zero => cases e
  | succ k =>
    unfold callN at e
    rw [h1] at e
    dsimp only at e
    split at e
    · assumption
    · cases e
/-- where the promise lets nothing out -/
theorem passF {X : Cx} : Passes (L2.CX X.prog X.w) X E0 := fun _ _ _ _ _ _ _ h => by
  obtain ⟨_, _, _, _, _, _, _, _, _, _, _, _, e⟩ := h
  exact e.elim
/-- f(..) -/
theorem call_ok {f : String} {es : Es} {x : Str} {as : List Expr} {px pos : Pos} (o : CtxOk D k c X) (nh : c.hot = false) (hx : x = Str.ofString f) (hg : kB c x .globalImplicit = true) (hf : f ∈ c.fs) (hnd : ndB x = true) (q : PEs X (callN D k) es as) : PE X (.Call (.Name x px) as [] pos) (tE X.kw (ev (callN D k) (.call f es))) := by
  obtain ⟨df, a, fd, h1, h2, h3, h4, h5⟩ := o.fs f hf
  subst hx
  have pl := q.plain
  have eqn : ev (callN D k) (.call f es) = fun e h => (evs (callN D k) es e h).bind fun vs h1 => callN D k f vs h1 := by
    funext e h
    simp only [ev]
  have key : ∀ (σ : L2.St) (H : Hp) (Q : VK), tE X.kw (ev (callN D k) (.call f es)) σ H Q → tA X.kw (evs (callN D k) es) σ H fun vs H1 => spC X.kw D k f (vs ++ []) H1 Q E0 := fun σ H Q t => by
    rw [eqn] at t
    refine tA_imp (tE_args t) fun vs H1 ⟨w, as', rv, h', e1, ok, ra, e, p⟩ => ?_
    rw [List.append_nil]
    refine ⟨df, w, as', h1, callN_len h1 e, e1, ok, ra, by rw [e]; exact p⟩
  cases as with
  | nil =>
    refine (pe_call0 h5 (o.room nh) (o.kind hg) h2 h3 h4 .nil passF (nd_of hnd).1).of fun σ H Q t => ?_
    cases q
    obtain ⟨w, r, rs', h', rfl, ok, er, m, p⟩ := key σ H Q t
    simp only [evs] at m
    cases m
    exact p w [] (Ext.refl w) ok rfl .nil
  | cons b bs =>
    rw [List.all_cons, Bool.and_eq_true] at pl
    exact (pe_call h5 (o.room nh) (o.kind hg) h2 h3 h4 .nil passF q.pa (nd_of hnd).1 (starEach_plain pl.1) (noStar pl.2)).of fun σ H Q t => key σ H Q t
end
end
end PL

set_option maxRecDepth 100000
set_option maxHeartbeats 4000000
/-! PL11: methods; every expression computes what the language says. -/
namespace PL
open PySem PySem.Spec PyProof.Rows L2
section
variable {D : Defs} {k : Nat} {c : Ctx} {X : Cx} {Φ : String → List PV → Hh → Out PV}
/-- l.count(x): how many are equal -/
theorem mt_countD (hu : X.A.units + 65 < cLine) : MtR X "list.count" (fun x vs H Q => ∃ (a : Addr) (y : V) (d : PyData) (ds : List PyData), x = V.ref a ∧ vs = [y] ∧ Dp X.K H (V.ref a) (.list ds) ∧ Dp X.K H y d ∧ SeqAt.shaped (.list ds) = true ∧ SeqAt.shaped d = true ∧ Q (.int ((ds.countP fun z => PyData.eqv z d : Nat) : Int)) H) := by
  intro pins s σ H x xs v us Q I rx rxs h
  obtain ⟨a, y, d, ds, rfl, rfl, hl, hy, sl, sd, q⟩ := h
  cases rx
  cases rxs with
  | cons ry rt =>
    rename_i uy ut
    cases rt
    obtain ⟨bs, r1⟩ := Dp.reads I d y uy hy ry
    have hxs : PyData.canLayAll0 ds = true := SeqAt.canLay_of_shaped sl
    have hroom : X.A.units + 1 + min (PyData.depthAll ds) d.depth < cLine := room_in_shaped sd hu
    cases hl with
    | lst hs ha =>
      obtain ⟨its, rv, ⟨⟨cls, dd, data, sls⟩, n, ho, hc, hdn, hdt⟩, hlen⟩ := I.list hs
      simp only at hc hdt
      subst hc hdt
      obtain ⟨as, h4⟩ := Dp.readsAll I ds _ its ha rv
      have hmap : its.map (SeqAt.readOf s.heap) = ds := SeqAt.readsAll_map ds its as hxs h4
      refine call_meets PySem.F.slot_list_count ⟨_, ho, rfl⟩ PySem.F.entry_list_count (PySem.F.args_list_count_2 _ _)
        (SeqAt.list_countAt a its.toArray n dd sls uy (fun u => PyData.eqv (SeqAt.readOf s.heap u) d)) ⟨ho, SeqAt.items_eqAt (vs := its.toArray) (show ReadsAll s.heap its.toArray.toList ds as from h4) r1 hxs (SeqAt.canLay_of_shaped sd) hroom, ?_⟩
      have e : its.countP (fun u => PyData.eqv (SeqAt.readOf s.heap u) d) = ds.countP fun z => PyData.eqv z d := by
        rw [← hmap, List.countP_map]
        rfl
      refine ⟨.int ((ds.countP fun z => PyData.eqv z d : Nat) : Int), H, I.tok _, ⟨s.toks, ?_⟩, q⟩
      show Value.int ((List.countP (fun u => PyData.eqv (SeqAt.readOf s.heap u) d) its : Nat) : Int) s.toks = _
      rw [e]
theorem m_count (hu : X.A.units + 65 < cLine) : MtR X "list.count" (fun x vs H Q => rs X.kw (primM .count) (x :: vs) H Q) := by
  intro pins s σ H x vs v us Q I rx rv h
  obtain ⟨w, a, b, r, x', y, h', ex, rfl, ok, ra, rb, e, p⟩ := rs2 (m := countM) (hm2 (fun _ => rfl) (fun _ _ => rfl) (fun _ _ _ => rfl) fun _ _ _ _ _ => rfl) h
  cases ex
  unfold countM at e
  split at e
  · rename_i ds d ea
    split at e
    · rename_i hs
      cases e
      unfold ok2 at hs
      rw [Bool.and_eq_true] at hs
      have dl := vw_dp ok ra ea (SeqAt.canLay_of_shaped hs.1)
      cases rb with
      | d rb =>
        have dy := rb.dp (SeqAt.canLay_of_shaped hs.2)
        obtain ⟨l, ys, rfl, _, _⟩ := vw_list ok ra ea
        exact mt_countD hu pins s σ _ _ _ v us Q I rx rv ⟨l, y, d, ds, rfl, rfl, dl, dy, hs.1, hs.2, p.same ok (.d (.int _))⟩
    · cases e
  · cases e
theorem kind_list {K : KW} {w : Wd} {a : PV} {x : V} (ok : Ok K w) (r : VR K w a x) (h : kindOk "list" a w.h = true) : tyV K "list" x w.H := by
  unfold kindOk at h
  split at h
  · rename_i ds e
    obtain ⟨l, xs, rfl, hx, _⟩ := vw_list ok r e
    exact .inl ⟨rfl, xs, .inl hx⟩
  · exact absurd h (by decide)
  · exact absurd h (by decide)
  · cases h
theorem kind_dict {K : KW} {w : Wd} {a : PV} {x : V} (ok : Ok K w) (r : VR K w a x) (h : kindOk "dict" a w.h = true) : ∃ l, x = .ref l ∧ IsD w.H l := by
  unfold kindOk at h
  split at h
  · exact absurd h (by decide)
  · rename_i ds e
    obtain ⟨l, xs, rfl, hx, _⟩ := vw_dict ok r e
    exact ⟨l, rfl, .inl ⟨xs, hx⟩⟩
  · exact absurd h (by decide)
  · cases h
theorem meth_parts {p : Prim} {o : E} {es : Es} {σ : L2.St} {H : Hp} {Q : VK} (hp : mTy p = "list") (t : tE X.kw (ev Φ (.meth p o es)) σ H Q) :
    tE X.kw (ev Φ o) σ H fun x H1 => tyV X.K "list" x H1 ∧ tA X.kw (evs Φ es) σ H1 fun xs H2 => rs X.kw (primM p) (x :: xs) H2 Q := by
  obtain ⟨w, r, rv, h', rfl, ok, er, m, post⟩ := t
  rw [ev] at m
  obtain ⟨v, h1, m1, m2⟩ := Out.bind_eq_ok m
  clear m
  rw [hp] at m2
  split at m2
  · rename_i hk
    obtain ⟨vs, h2, m3, m4⟩ := Out.bind_eq_ok m2
    clear m2
    refine ⟨w, r, v, h1, rfl, ok, er, m1, fun w1 x x1 ok1 hh1 r1 => ?_⟩
    subst hh1
    refine ⟨kind_list ok1 r1 hk, w1, r, vs, h2, rfl, ok1, er.ext x1, m3, fun w2 xs x2 ok2 hh2 rs2 => ?_⟩
    subst hh2
    exact ⟨w2, v :: vs, rv, h', rfl, ok2, .cons (r1.ext x2) rs2, m4, post.ext (x1.trans x2)⟩
  · cases m2
theorem meth1 {p : Prim} {s id : String} {o : E} {es : Es} {b : Expr} {m : Str} {as : List Expr} {ap cp : Pos} (slot : Slot "list" (Str.ofString s) id) (hty : typeOf (.builtin id) = pure (.type "method_descriptor")) (hm : MtR X id (fun x vs H Q => rs X.kw (primM p) (x :: vs) H Q))
    (hp : mTy p = "list") (hs : m = Str.ofString s) (hn : as.length = 1) (h0 : notCall0 b = true) (hl : (ap.endLine == cp.line) = true) (ho : PE X b (tE X.kw (ev Φ o))) (q : PEs X Φ es as) : PE X (.Call (.Attribute b m ap) as [] cp) (tE X.kw (ev Φ (.meth p o es))) := by
  subst hs
  have pl := q.plain
  cases as with
  | nil => cases hn
  | cons a as =>
    cases as with
    | cons _ _ => simp at hn
    | nil =>
      have pl2 := pl
      rw [List.all_cons, Bool.and_eq_true] at pl
      refine (pe_bm PySem.F.plainAttrs_list slot hty hm ho q.pa (attr_base h0 _) ?_ hl (starEach_plain pl.1) rfl).of fun σ H Q t => meth_parts hp t
      rw [noStarAll pl2]
      rfl
theorem meth2 {p : Prim} {s id : String} {o : E} {es : Es} {b : Expr} {m : Str} {as : List Expr} {ap cp : Pos} (slot : Slot "list" (Str.ofString s) id) (hty : typeOf (.builtin id) = pure (.type "method_descriptor")) (hm : MtR X id (fun x vs H Q => rs X.kw (primM p) (x :: vs) H Q))
    (hp : mTy p = "list") (hs : m = Str.ofString s) (hn : as.length = 2) (h0 : notCall0 b = true) (hl : (ap.endLine == cp.line) = true) (ho : PE X b (tE X.kw (ev Φ o))) (q : PEs X Φ es as) : PE X (.Call (.Attribute b m ap) as [] cp) (tE X.kw (ev Φ (.meth p o es))) := by
  subst hs
  have pl := q.plain
  match as, hn, q, pl with
  | [a, a2], _, q, pl =>
    have pl2 := pl
    rw [List.all_cons, Bool.and_eq_true] at pl
    refine (pe_bm PySem.F.plainAttrs_list slot hty hm ho q.pa (attr_base h0 _) ?_ hl (starEach_plain pl.1) (noStar pl.2)).of fun σ H Q t => meth_parts hp t
    rw [noStarAll pl2]
    rfl
theorem meth0 {p : Prim} {s id : String} {o : E} {es : Es} {b : Expr} {m : Str} {as : List Expr} {ap cp : Pos} (slot : Slot "list" (Str.ofString s) id) (hty : typeOf (.builtin id) = pure (.type "method_descriptor")) (hm : MtR X id (fun x vs H Q => rs X.kw (primM p) (x :: vs) H Q))
    (hp : mTy p = "list") (hs : m = Str.ofString s) (hn : as.length = 0) (h0 : notCall0 b = true) (hl : (ap.endLine == cp.line) = true) (ho : PE X b (tE X.kw (ev Φ o))) (q : PEs X Φ es as) : PE X (.Call (.Attribute b m ap) as [] cp) (tE X.kw (ev Φ (.meth p o es))) := by
  subst hs
  cases q with
  | cons _ _ _ => simp at hn
  | nil =>
    refine (pe_bm0 PySem.F.plainAttrs_list slot hty hm ho (attr_base h0 _) hl).of fun σ H Q t => ?_
    obtain ⟨w, r, rv, h', e1, ok, er, m1, post⟩ := meth_parts hp t
    refine ⟨w, r, rv, h', e1, ok, er, m1, fun w1 x x1 ok1 hh1 r1 => ?_⟩
    obtain ⟨ty, w2, r2, vs, h2, e2, ok2, er2, m2, post2⟩ := post w1 x x1 ok1 hh1 r1
    refine ⟨ty, ?_⟩
    simp only [evs] at m2
    cases m2
    have z := post2 w2 [] (Ext.refl w2) ok2 rfl .nil
    rw [e2] at z
    exact z
theorem getM_ok {o kk dv rv : PV} {h h' : Hh} (e : getM o kk dv h = .ok rv h') : ∃ kvs key x, vw h o = some (.dict kvs) ∧ kk = .d key ∧ dv = .d x ∧ isKey key = true ∧ rv = .d ((dget kvs key).getD x) ∧ h' = h := by
  unfold getM at e
  split at e
  · rename_i kvs key x e1
    split at e
    · rename_i hk
      cases e
      exact ⟨kvs, key, x, e1, rfl, rfl, hk, rfl, rfl⟩
    · cases e
  · cases e
theorem get_vals {K : KW} {w : Wd} {kvs : List (PyData × PyData)} {key : Key} {x : PyData} {a : Addr} {xs : List (Key × V)} {xv : V} {Q : VK} (ok : Ok K w) (hd : Rd w.H a (.dK xs)) (q : Rpk K w.F w.H xs kvs) (rx : Rp K w.F w.H xv x) (p : Post K w w.h (.d ((dget kvs (kD key)).getD x)) Q) :
    ∃ o, DGet w.H a (kV key) o ∧ Q (o.getD xv) w.H := by
  refine ⟨valV xs key, .inl ⟨xs, key, hd, rfl, rfl⟩, ?_⟩
  rcases dget_rp key q with ⟨z1, z2⟩ | ⟨z, d, h1, h2, h3⟩
  · rw [z2] at p
    rw [z1]
    exact p.same ok (.d rx)
  · rw [h2] at p
    rw [h1]
    exact p.same ok (.d h3)
theorem get1_ok {o : E} {es : Es} {b : Expr} {m : Str} {as : List Expr} {ap cp : Pos} (ctx : CtxOk D k c X) (hs : m = Str.ofString "get") (hn : as.length = 1) (h0 : notCall0 b = true) (hl : (ap.endLine == cp.line) = true) (ho : PE X b (tE X.kw (ev Φ o))) (q : PEs X Φ es as) :
    PE X (.Call (.Attribute b m ap) as [] cp) (tE X.kw (ev Φ (.meth .get1 o es))) := by
  subst hs
  have pl := q.plain
  have hu := ctx.u65
  cases q with
  | nil => cases hn
  | @cons e1 _ a _ hp1 h1 q =>
    cases q with
    | cons _ _ _ => simp at hn
    | nil =>
      refine (pe_dget1 (by omega) ho h1 ⟨attr_base h0 _, by rw [noStarAll pl]; rfl, hl, by rw [starEach_plain hp1]; rfl⟩).of fun σ H Q t => ?_
      obtain ⟨w, r, rv, h', rfl, ok, er, m, post⟩ := t
      rw [ev] at m
      obtain ⟨v, k1, m1, m2⟩ := Out.bind_eq_ok m
      clear m
      split at m2
      · rename_i hk
        obtain ⟨vs, k2, m3, m4⟩ := Out.bind_eq_ok m2
        simp only [evs] at m3
        obtain ⟨u, k3, m5, m6⟩ := Out.bind_eq_ok m3
        cases m6
        clear m2 m3
        refine ⟨w, r, v, k1, rfl, ok, er, m1, fun w1 x x1 ok1 hh1 r1 => ?_⟩
        subst hh1
        obtain ⟨l, rfl, hd⟩ := kind_dict ok1 r1 hk
        refine ⟨l, rfl, hd, w1, r, u, k2, rfl, ok1, er.ext x1, m5, fun w2 y x2 ok2 hh2 r2 => ?_⟩
        subst hh2
        obtain ⟨kvs, key, xx, g1, rfl, g3, g4, rfl, rfl⟩ := getM_ok (dv := .d .none) m4
        cases g3
        obtain ⟨l', xs, el, hx, qs⟩ := vw_dict ok2 (r1.ext x2) g1
        cases el
        cases r2 with
        | d r2 =>
          obtain ⟨ky, rfl, rfl⟩ := key_rp r2 g4
          exact get_vals ok2 hx qs .non (post.ext (x1.trans x2))
      · cases m2
theorem get2_ok {o : E} {es : Es} {b : Expr} {m : Str} {as : List Expr} {ap cp : Pos} (ctx : CtxOk D k c X) (hs : m = Str.ofString "get") (hn : as.length = 2) (h0 : notCall0 b = true) (hl : (ap.endLine == cp.line) = true) (ho : PE X b (tE X.kw (ev Φ o))) (q : PEs X Φ es as) :
    PE X (.Call (.Attribute b m ap) as [] cp) (tE X.kw (ev Φ (.meth .get2 o es))) := by
  subst hs
  have pl := q.plain
  have hu := ctx.u65
  cases q with
  | nil => cases hn
  | cons hp1 h1 q =>
    cases q with
    | nil => simp at hn
    | cons hp2 h2 q =>
      cases q with
      | cons _ _ _ => simp at hn
      | nil =>
        refine (pe_dget2 (by omega) ho h1 h2 ⟨attr_base h0 _, by rw [noStarAll pl]; rfl, hl, by rw [starEach_plain hp1, starEach_plain hp2]; rfl⟩).of fun σ H Q t => ?_
        obtain ⟨w, r, rv, h', rfl, ok, er, m, post⟩ := t
        rw [ev] at m
        obtain ⟨v, k1, m1, m2⟩ := Out.bind_eq_ok m
        clear m
        split at m2
        · rename_i hk
          obtain ⟨vs, k2, m3, m4⟩ := Out.bind_eq_ok m2
          simp only [evs] at m3
          obtain ⟨u, k3, m5, m6⟩ := Out.bind_eq_ok m3
          obtain ⟨us, k4, m7, m8⟩ := Out.bind_eq_ok m6
          obtain ⟨u2, k5, m9, m10⟩ := Out.bind_eq_ok m7
          cases m10
          cases m8
          clear m2 m3 m6 m7
          refine ⟨w, r, v, k1, rfl, ok, er, m1, fun w1 x x1 ok1 hh1 r1 => ?_⟩
          subst hh1
          obtain ⟨l, rfl, hd⟩ := kind_dict ok1 r1 hk
          refine ⟨l, rfl, hd, w1, r, u, k3, rfl, ok1, er.ext x1, m5, fun w2 y x2 ok2 hh2 r2 => ?_⟩
          subst hh2
          refine ⟨w2, r, u2, k2, rfl, ok2, (er.ext x1).ext x2, m9, fun w3 z x3 ok3 hh3 r3 => ?_⟩
          subst hh3
          obtain ⟨kvs, key, xx, g1, rfl, rfl, g4, rfl, rfl⟩ := getM_ok m4
          obtain ⟨l', xs, el, hx, qs⟩ := vw_dict ok3 ((r1.ext x2).ext x3) g1
          cases el
          have r2 := r2.ext x3
          cases r2 with
          | d r2 =>
            cases r3 with
            | d r3 =>
              obtain ⟨ky, rfl, rfl⟩ := key_rp r2 g4
              exact get_vals ok3 hx qs r3 (post.ext ((x1.trans x2).trans x3))
        · cases m2
theorem meth_ok {p : Prim} {o : E} {es : Es} {b : Expr} {m : Str} {as : List Expr} {ap cp : Pos} (ctx : CtxOk D k c X) (hm : methB p m as.length = true) (h0 : notCall0 b = true) (hl : (ap.endLine == cp.line) = true) (ho : PE X b (tE X.kw (ev Φ o))) (q : PEs X Φ es as) :
    PE X (.Call (.Attribute b m ap) as [] cp) (tE X.kw (ev Φ (.meth p o es))) := by
  unfold methB at hm
  split at hm
  · rename_i s n hn
    rw [Bool.and_eq_true] at hm
    have hs := of_decide_eq_true hm.1
    have hlen := eq_of_beq hm.2
    cases p <;> simp only [mName] at hn <;> cases hn
    · exact meth1 PySem.F.slot_list_append PySem.F.type_list_append m_append rfl hs hlen h0 hl ho q
    · exact meth1 PySem.F.slot_list_extend PySem.F.type_list_extend m_extend rfl hs hlen h0 hl ho q
    · exact meth0 PySem.F.slot_list_pop PySem.F.type_list_pop m_pop rfl hs hlen h0 hl ho q
    · exact meth1 PySem.F.slot_list_pop PySem.F.type_list_pop m_popAt rfl hs hlen h0 hl ho q
    · exact meth0 PySem.F.slot_list_clear PySem.F.type_list_clear m_clear rfl hs hlen h0 hl ho q
    · exact get1_ok ctx hs hlen h0 hl ho q
    · exact get2_ok ctx hs hlen h0 hl ho q
    · exact meth1 PySem.F.slot_list_index PySem.F.type_list_index (m_index ctx.u65) rfl hs hlen h0 hl ho q
    · exact meth2 PySem.F.slot_list_insert PySem.F.type_list_insert m_insert rfl hs hlen h0 hl ho q
    · exact meth1 PySem.F.slot_list_count PySem.F.type_list_count (m_count ctx.u65) rfl hs hlen h0 hl ho q
  · cases hm
end
end PL

set_option maxRecDepth 100000
set_option maxHeartbeats 4000000
/-! PL12: every expression computes what the language says. -/
namespace PL
open PySem PySem.Spec PyProof.Rows L2
section
variable {D : Defs} {k : Nat}
theorem var_ok {Φ : String → List PV → Hh → Out PV} {c : Ctx} {X : Cx} (o : CtxOk D k c X) {i : Nat} {x : Str} {pos : Pos} (h1 : c.N[i]? = some x) (h2 : visB c x = true) (h3 : ndB x = true) : PE X (.Name x pos) (tE X.kw (ev Φ (.var i))) := by
  obtain ⟨n1, n2⟩ := nd_of h3
  refine (pe_var (by rw [o.N]; exact h1) (o.vis h2) n1 n2).of fun σ H Q t => ?_
  obtain ⟨w, r, rv, h', rfl, ok, er, m, p⟩ := t
  rw [ev] at m
  split at m
  · rename_i v hv
    cases m
    obtain ⟨z, hz, rz⟩ := er.get i _ (by assumption)
    exact ⟨z, hz, p.same ok rz⟩
  · cases m
theorem cst_ok {Φ : String → List PV → Hh → Out PV} {c : Ctx} {X : Cx} {d : PyData} {kk : Const} {j : Nat} {pos : Pos} (h : constB d kk = true) : PE X (.Constant kk j pos) (tE X.kw (ev Φ (.cst d))) := by
  have key : ∀ (v : V), (∀ (F : Addr → Prop) (H : Hp), Rp X.kw F H v d) → ∀ σ H Q, tE X.kw (ev Φ (.cst d)) σ H Q → Q v H := fun v hv σ H Q t => by
    obtain ⟨w, r, rv, h', rfl, ok, er, m, p⟩ := t
    rw [ev] at m
    cases m
    exact p.same ok (.d (hv _ _))
  unfold constB at h
  split at h
  · exact pe_non.of (key _ fun _ _ => .non)
  · rename_i a b
    obtain rfl := eq_of_beq h
    exact pe_bl.of (key _ fun _ _ => .bl _)
  · rename_i a b
    obtain rfl := of_decide_eq_true h
    exact pe_int.of (key _ fun _ _ => .int _)
  · rename_i a b
    obtain rfl := of_decide_eq_true h
    exact pe_str.of (key _ fun _ _ => .str _)
  · cases h
theorem ownOf_ix {c : Ctx} : ∀ {own : List Nat} {l : List (Str × Nat)}, ownOf c own = some l → l.map (·.2) = own
  | [], l, h => by
    simp only [ownOf] at h
    cases h
    rfl
  | i :: r, l, h => by
    unfold ownOf at h
    split at h
    · rename_i x l' hx hl
      cases h
      rw [List.map_cons, ownOf_ix hl]
    · cases h
theorem plainT_blt {x : Str} {px pos : Pos} {as : List Expr} : plainT (.Call (.Name x px) as [] pos) = true := rfl
mutual
theorem ev_ok : ∀ (e : E) (c : Ctx) (X : Cx) (a : Expr), CtxOk D k c X → mE c e a = true → EO X (callN D k) e a
  | .var i, c, X, a, o, m => by
    unfold mE at m
    split at m
    · rename_i x pos
      rw [Bool.and_eq_true, Bool.and_eq_true] at m
      exact eo_plain rfl (var_ok o (of_decide_eq_true m.1.1) m.1.2 m.2)
    · cases m
  | .cst d, c, X, a, o, m => by
    unfold mE at m
    split at m
    · exact eo_plain rfl (cst_ok (c := c) m)
    · cases m
  | .prim p es, c, X, a, o, m => by
    unfold mE at m
    split at m
    · rename_i subs hs
      exact prim_ok o hs (evs_ok es c X subs o m).pes
    · cases m
  | .and es, c, X, a, o, m => by
    unfold mE at m
    split at m
    · rename_i as pos
      rw [Bool.and_eq_true] at m
      obtain ⟨h1, h2⟩ := and_ok (pos := pos) (evs_ok es c X as o m.2) (by intro z; subst z; simp at m)
      refine ⟨h1.of fun σ H Q t => ?_, h2.pt.of fun σ H Q t => ?_⟩
      · have e : ev (callN D k) (.and es) = evAnd (callN D k) es := by
          funext r h
          simp only [ev]
        rw [e] at t
        exact t
      · have e : evB (callN D k) (.and es) = fun r h => (evAnd (callN D k) es r h).bind asB := by
          funext r h
          simp only [evB, ev]
        rw [e] at t
        exact t
    · cases m
  | .or es, c, X, a, o, m => by
    unfold mE at m
    split at m
    · rename_i as pos
      rw [Bool.and_eq_true] at m
      obtain ⟨h1, h2⟩ := or_ok (pos := pos) (evs_ok es c X as o m.2) (by intro z; subst z; simp at m)
      refine ⟨h1.of fun σ H Q t => ?_, h2.pt.of fun σ H Q t => ?_⟩
      · have e : ev (callN D k) (.or es) = evOr (callN D k) es := by
          funext r h
          simp only [ev]
        rw [e] at t
        exact t
      · have e : evB (callN D k) (.or es) = fun r h => (evOr (callN D k) es r h).bind asB := by
          funext r h
          simp only [evB, ev]
        rw [e] at t
        exact t
    · cases m
  | .orv e1 e2, c, X, a, o, m => by
    unfold mE at m
    split at m
    · rw [Bool.and_eq_true] at m
      exact orv_ok (ev_ok e1 c X _ o m.1) (ev_ok e2 c X _ o m.2)
    · cases m
  | .not e, c, X, a, o, m => by
    unfold mE at m
    split at m
    · rename_i b pos
      have q := ev_ok e c X b o m
      refine ⟨(pe_not q.1).of fun σ H Q t => ?_, (pt_not q.2).of fun σ H Q t => ?_⟩
      · obtain ⟨w, r, rv, h', rfl, ok, er, m, p⟩ := t
        rw [ev] at m
        obtain ⟨v, h1, m1, m2⟩ := Out.bind_eq_ok m
        obtain ⟨b', h2, m3, m4⟩ := Out.bind_eq_ok m2
        obtain ⟨rfl, rfl⟩ := asB_ok m3
        cases m4
        refine ⟨w, r, _, _, rfl, ok, er, m1, fun w1 x x1 ok1 hh1 r1 => ?_⟩
        cases r1 with
        | d r1 =>
          cases r1
          subst hh1
          exact ⟨b', rfl, (p.ext x1).same ok1 (.d (.bl _))⟩
      · obtain ⟨w, r, rb, h', rfl, ok, er, m, p⟩ := t
        obtain ⟨v, h1, m1, m2⟩ := Out.bind_eq_ok m
        rw [ev] at m1
        obtain ⟨v', h1', m1', m3⟩ := Out.bind_eq_ok m1
        obtain ⟨b', h2, m4, m5⟩ := Out.bind_eq_ok m3
        cases m5
        cases m2
        refine ⟨w, r, b', h', rfl, ok, er, ?_, fun w1 x1 ok1 hh1 => p w1 x1 ok1 hh1⟩
        show (ev _ e r w.h).bind asB = _
        rw [m1']
        exact m4
    · cases m
  | .chain p q e1 e2 e3, c, X, a, o, m => by
    unfold mE at m
    split at m
    · simp only [Bool.and_eq_true, decide_eq_true_eq] at m
      exact chain_ok m.1.1.1.1.1 m.1.1.1.1.2 (ev_ok e1 c X _ o m.1.1.1.2) (ev_ok e2 c X _ o m.1.1.2) (ev_ok e3 c X _ o m.1.2) m.2
    · cases m
  | .ite e1 e2 e3, c, X, a, o, m => by
    unfold mE at m
    split at m
    · simp only [Bool.and_eq_true] at m
      exact ite_ok (ev_ok e1 c X _ o m.1.1) (ev_ok e2 c X _ o m.1.2) (ev_ok e3 c X _ o m.2)
    · cases m
  | .call f es, c, X, a, o, m => by
    unfold mE at m
    split at m
    · simp only [Bool.and_eq_true, decide_eq_true_eq] at m
      simp only [Bool.not_eq_true'] at m
      exact eo_plain rfl (call_ok o m.1.1.1.1.1 m.1.1.1.1.2 m.1.1.1.2 (List.elem_iff.mp m.1.1.2) m.1.2 (evs_ok es c X _ o m.2).pes)
    · cases m
  | .meth p b es, c, X, a, o, m => by
    unfold mE at m
    split at m
    · simp only [Bool.and_eq_true] at m
      exact eo_plain rfl (meth_ok o m.1.1.1.1 m.1.1.1.2 m.1.1.2 (ev_ok b c X _ o m.1.2).1 (evs_ok es c X _ o m.2).pes)
    · cases m
  | .comp cf own t it cond elt, c, X, a, o, m => by
    unfold mE at m
    split at m
    · rename_i ea ta ia ifs asy scope pos
      rw [Bool.and_eq_true, Bool.not_eq_true'] at m
      obtain ⟨nh, m⟩ := m
      split at m
      · rename_i l hl
        simp only [Bool.and_eq_true, decide_eq_true_eq] at m
        obtain ⟨⟨⟨⟨⟨⟨⟨m1, m2⟩, m3⟩, m4⟩, m5⟩, m6⟩, m7⟩, m8⟩ := m
        subst m1
        have hb := blkOk_by m2
        have hb' : BlkOk X.N X.env.scope scope l := by
          rw [o.N, o.sc]
          exact hb
        have hi := it_ok it c X ta ia o m5
        have hsl : ∀ i ∈ slots t, i ∈ own := fun i hi => List.elem_iff.mp (List.all_eq_true.mp m3 i hi)
        have q := pe_lc (X := X) (pos := pos) (elt := ea) (tg := ta) (ifs := ifs) (g := gT X.kw t) (tt := tT X.kw (evConds (callN D k) cond)) (te := tE X.kw (ev (callN D k) elt)) (o.calm nh) (by rw [o.N]; exact o.nd) hi hb' (fun s H C cl fp => pg_ok (ctx_blk o hb.kind s H C cl fp) t ta m4)
          (fun s H C cl fp => cond_ok cond (blkCtx c scope) _ ifs (ctx_blk o hb.kind s H C cl fp) m7) (fun s H C cl fp => (ev_ok elt (blkCtx c scope) _ ea (ctx_blk o hb.kind s H C cl fp) m8).1) (noFold m6)
        refine eo_plain rfl (q.of fun σ H Q tt => ?_)
        rw [ownOf_ix hl]
        have e : ev (callN D k) (.comp cf own t it cond elt) = fun e h => (evIt (callN D k) it e h).bind fun vs h1 => (compS t (evConds (callN D k) cond) (ev (callN D k) elt) (wipeE e own) vs h1).bind fun ds h2 => mkL cf ds h2 := by
          funext r h
          simp only [ev]
        rw [e] at tt
        exact tLc_of hsl tt
      · cases m
    · cases m
  | .frz e, c, X, a, o, m => by
    unfold mE at m
    exact frz_ok (ev_ok e c X a o m)
theorem evs_ok : ∀ (es : Es) (c : Ctx) (X : Cx) (as : List Expr), CtxOk D k c X → mEs c es as = true → EOs X (callN D k) es as
  | .nil, c, X, as, o, m => by
    unfold mEs at m
    split at m
    · exact .nil
    · cases m
  | .cons e r, c, X, as, o, m => by
    unfold mEs at m
    split at m
    · simp only [Bool.and_eq_true] at m
      exact .cons m.1.1 (ev_ok e c X _ o m.1.2) (evs_ok r c X _ o m.2)
    · cases m
theorem it_ok : ∀ (it : It) (c : Ctx) (X : Cx) (t a : Expr), CtxOk D k c X → mIt c it t a = true → PI X t a (tI X.kw (evIt (callN D k) it))
  | .seq e, c, X, t, a, o, m => by
    unfold mIt at m
    exact pi_seq (ev_ok e c X a o m).1
  | .rng1 e, c, X, t, a, o, m => by
    unfold mIt at m
    split at m
    · simp only [Bool.and_eq_true] at m
      exact pi_r1 o m.1.1 m.1.2 (ev_ok e c X _ o m.2).1
    · cases m
  | .rng2 e f, c, X, t, a, o, m => by
    unfold mIt at m
    split at m
    · simp only [Bool.and_eq_true] at m
      exact pi_r2 o m.1.1.1.1 m.1.1.1.2 m.1.1.2 (ev_ok e c X _ o m.1.2).1 (ev_ok f c X _ o m.2).1
    · cases m
  | .zip e f, c, X, t, a, o, m => by
    unfold mIt at m
    split at m
    · simp only [Bool.and_eq_true] at m
      exact pi_zp o m.1.1.1.1 m.1.1.1.2 m.1.1.2 (ev_ok e c X _ o m.1.2).1 (ev_ok f c X _ o m.2).1
    · cases m
  | .enum e, c, X, t, a, o, m => by
    unfold mIt at m
    split at m
    · simp only [Bool.and_eq_true] at m
      exact pi_en o m.1.1 m.1.2 (ev_ok e c X _ o m.2).1
    · cases m
theorem cond_ok : ∀ (es : Es) (c : Ctx) (X : Cx) (as : List Expr), CtxOk D k c X → mCond c es as = true → PTs X as (tT X.kw (evConds (callN D k) es))
  | .nil, c, X, as, o, m => by
    unfold mCond at m
    split at m
    · refine ⟨fun pins s σ H Q I t => pts_nil.run pins s σ H Q I ?_⟩
      obtain ⟨w, r, rb, h', rfl, ok, er, m, p⟩ := t
      rw [evConds] at m
      cases m
      exact p w (Ext.refl w) ok rfl
    · cases m
  | .cons e r, c, X, as, o, m => by
    unfold mCond at m
    split at m
    · split at m
      · refine ⟨fun pins s σ H Q I t => (pts_one (ev_ok e c X _ o m).2).run pins s σ H Q I ?_⟩
        have eq : evConds (callN D k) (.cons e .nil) = evB (callN D k) e := by
          funext r h
          simp only [evConds, evB]
        rw [eq] at t
        exact t
      · cases m
    · cases m
end
/-! ### expressions that may raise -/
theorem tX_strict {K : KW} {W : WX} {m : EM} {σ : L2.St} {H : Hp} {Q : VK} (t : tX K W (fun r h => strict (m r h)) σ H Q) : tE K m σ H Q := by
  obtain ⟨w, e, rfl, ok, er, p⟩ := t
  cases q : m e w.h with
  | ok rv h' =>
    simp only [q, strict] at p
    exact ⟨w, e, rv, h', rfl, ok, er, q, p⟩
  | exn c h' =>
    simp only [q, strict] at p
    exact p.elim
  | stuck =>
    simp only [q, strict] at p
    exact p.elim
theorem frz1_exn (v : PV) (h : Hh) {c : String} {h' : Hh} (e : frz1 v h = .exn c h') : False := by
  unfold frz1 at e
  split at e
  · cases e
  · split at e <;> cases e
  · cases e
theorem frzs_exn : ∀ (vs : List PV) (h : Hh) {c : String} {h' : Hh}, frzs vs h = .exn c h' → False
  | [], h, c, h', e => by
    unfold frzs at e
    cases e
  | v :: r, h, c, h', e => by
    unfold frzs at e
    cases q : frz1 v h with
    | ok x h1 =>
      rw [q, Out.bind_ok] at e
      cases q2 : frzs r h1 with
      | ok xs h2 =>
        rw [q2] at e
        cases e
      | exn c2 h2 => exact frzs_exn r h1 q2
      | stuck =>
        rw [q2] at e
        cases e
    | exn c2 h2 => exact frz1_exn v h q
    | stuck =>
      rw [q] at e
      cases e
theorem tX_frz {K : KW} {W : WX} {m : EM} {σ : L2.St} {H : Hp} {Q : VK} (t : tX K W (fun r h => (m r h).bind fun v h1 => frzM v h1) σ H Q) : tX K W m σ H Q := by
  obtain ⟨w, e, rfl, ok, er, p⟩ := t
  refine ⟨w, e, rfl, ok, er, ?_⟩
  cases q : m e w.h with
  | exn c h' =>
    simp only [q, Out.bind_exn] at p
    exact p
  | stuck =>
    simp only [q, Out.bind_stuck] at p
    exact p.elim
  | ok v h1 =>
    simp only [q, Out.bind_ok] at p
    intro w1 x x1 ok1 hh1 r1
    subst hh1
    cases q2 : frzM v w1.h with
    | ok rv h' =>
      rw [q2] at p
      obtain ⟨w2, x2, ok2, hh2, hH2, r2⟩ := frzM_ok ok1 r1 q2
      have := p w2 _ (x1.trans x2) ok2 hh2 r2
      rw [hH2] at this
      exact this
    | exn c h' =>
      exfalso
      unfold frzM at q2
      split at q2
      · cases q2
      · split at q2 <;> cases q2
      · cases q3 : frzs _ w1.h with
        | ok ds h3 =>
          rw [q3] at q2
          cases q2
        | exn c3 h3 => exact frzs_exn _ _ q3
        | stuck =>
          rw [q3] at q2
          cases q2
      · cases q2
      · cases q2
    | stuck =>
      rw [q2] at p
      exact p.elim
theorem tAX_cons {K : KW} {W : WX} {m : EM} {ms : Ee → Hh → Out (List PV)} {σ : L2.St} {H : Hp} {Q : List V → Hp → Prop} (t : tAX K W (fun e h => (m e h).bind fun v h1 => (ms e h1).bind fun vs h2 => .ok (v :: vs) h2) σ H Q) :
    tX K W m σ H fun x H1 => tAX K W ms σ H1 fun xs H2 => Q (x :: xs) H2 := by
  obtain ⟨w, e, rfl, ok, er, p⟩ := t
  refine ⟨w, e, rfl, ok, er, ?_⟩
  cases q : m e w.h with
  | exn c h' =>
    simp only [q, Out.bind_exn] at p
    exact p
  | stuck =>
    simp only [q, Out.bind_stuck] at p
    exact p.elim
  | ok v h1 =>
    simp only [q, Out.bind_ok] at p
    intro w1 x x1 ok1 hh1 r1
    subst hh1
    refine ⟨w1, e, rfl, ok1, er.ext x1, ?_⟩
    cases q2 : ms e w1.h with
    | exn c h' =>
      simp only [q2, Out.bind_exn] at p
      exact PostX.ext (c := c) (h' := h') (E := fun cls d H' => W cls d σ H') p x1
    | stuck =>
      simp only [q2, Out.bind_stuck] at p
      exact p.elim
    | ok vs h2 =>
      simp only [q2, Out.bind_ok] at p
      intro w2 xs x2 ok2 hh2 r2
      exact p w2 (x :: xs) (x1.trans x2) ok2 hh2 (.cons (r1.ext x2) r2)
theorem tAX_call {K : KW} {W : WX} {ms : Ee → Hh → Out (List PV)} {f : String} {df : Def} {σ : L2.St} {H : Hp} {Q : VK} (hf : D.lookup f = some df) (t : tX K W (fun e h => (ms e h).bind fun vs h1 => callN D k f vs h1) σ H Q) :
    tAX K W ms σ H fun vs H1 => spC K D k f vs H1 Q (WE W σ) := by
  obtain ⟨w, e, rfl, ok, er, p⟩ := t
  refine ⟨w, e, rfl, ok, er, ?_⟩
  cases q : ms e w.h with
  | exn c h' =>
    simp only [q, Out.bind_exn] at p
    exact p
  | stuck =>
    simp only [q, Out.bind_stuck] at p
    exact p.elim
  | ok vs h1 =>
    simp only [q, Out.bind_ok] at p
    intro w1 xs x1 ok1 hh1 r1
    subst hh1
    refine ⟨df, w1, vs, hf, ?_, rfl, ok1, r1, p.ext x1⟩
    cases q2 : callN D k f vs w1.h with
    | ok rv h' => exact callN_len hf q2
    | exn c h' => exact callN_lenX hf q2
    | stuck =>
      rw [q2] at p
      exact p.elim
theorem evX_call {Φ : String → List PV → Hh → Out PV} {f : String} {a : E} {r : Es} : evX Φ (.call f (.cons a r)) = fun e h => (evsX Φ (.cons a r) e h).bind fun vs h1 => Φ f vs h1 := by
  funext e h
  rw [evX, if_neg (by simp [esNil])]
/-- all but calls and what is fixed -/
def plainX : E → Bool
  | .call _ (.cons _ _) => false
  | .frz _ => false
  | _ => true
theorem evX_plain {Φ : String → List PV → Hh → Out PV} {e : E} (h : plainX e = true) : evX Φ e = fun r s => strict (ev Φ e r s) := by
  funext r s
  cases e with
  | call f es =>
    cases es with
    | nil =>
      rw [evX]
      exact if_pos rfl
    | cons a b => cases h
  | frz a => cases h
  | _ => simp only [evX]
mutual
theorem evX_ok {W : WX} : ∀ (e : E) (c : Ctx) (X : Cx) (a : Expr), CtxOk D k c X → Takes X W → mE c e a = true → PE X a (tX X.kw W (evX (callN D k) e))
  | .call f .nil, c, X, a, o, tk, m => by
    rw [evX_plain rfl]
    exact (ev_ok _ c X a o m).1.of fun σ H Q t => tX_strict t
  | .call f (.cons e1 r), c, X, a, o, tk, m => by
    unfold mE at m
    split at m
    · rename_i x px as pos
      simp only [Bool.and_eq_true, decide_eq_true_eq, Bool.not_eq_true'] at m
      obtain ⟨⟨⟨⟨⟨nh, rfl⟩, hg⟩, hf⟩, hnd⟩, ma⟩ := m
      obtain ⟨df, ad, fd, h1, h2, h3, h4, h5⟩ := o.fs f (List.elem_iff.mp hf)
      have pas := evsX_ok (.cons e1 r) c X as o tk ma
      cases as with
      | nil => simp [mEs] at ma
      | cons b bs =>
        have pl := (evs_ok (.cons e1 r) c X (b :: bs) o ma).pes.plain
        rw [List.all_cons, Bool.and_eq_true] at pl
        rw [evX_call]
        exact (pe_callS h5 (o.room nh) (o.kind hg) h2 h3 h4 (passAt tk) pas (nd_of hnd).1 (starEach_plain pl.1) (noStar pl.2)).of fun σ H Q t => tAX_call h1 t
    · cases m
  | .frz e, c, X, a, o, tk, m => by
    unfold mE at m
    have q : evX (callN D k) (.frz e) = fun r h => (evX (callN D k) e r h).bind fun v h1 => frzM v h1 := by
      funext r h
      simp only [evX]
    rw [q]
    exact (evX_ok e c X a o tk m).of fun σ H Q t => tX_frz t
  | .var i, c, X, a, o, tk, m => by rw [evX_plain rfl]; exact (ev_ok _ c X a o m).1.of fun σ H Q t => tX_strict t
  | .cst d, c, X, a, o, tk, m => by rw [evX_plain rfl]; exact (ev_ok _ c X a o m).1.of fun σ H Q t => tX_strict t
  | .prim p es, c, X, a, o, tk, m => by rw [evX_plain rfl]; exact (ev_ok _ c X a o m).1.of fun σ H Q t => tX_strict t
  | .and es, c, X, a, o, tk, m => by rw [evX_plain rfl]; exact (ev_ok _ c X a o m).1.of fun σ H Q t => tX_strict t
  | .or es, c, X, a, o, tk, m => by rw [evX_plain rfl]; exact (ev_ok _ c X a o m).1.of fun σ H Q t => tX_strict t
  | .orv e1 e2, c, X, a, o, tk, m => by rw [evX_plain rfl]; exact (ev_ok _ c X a o m).1.of fun σ H Q t => tX_strict t
  | .not e, c, X, a, o, tk, m => by rw [evX_plain rfl]; exact (ev_ok _ c X a o m).1.of fun σ H Q t => tX_strict t
  | .chain p q e1 e2 e3, c, X, a, o, tk, m => by rw [evX_plain rfl]; exact (ev_ok _ c X a o m).1.of fun σ H Q t => tX_strict t
  | .ite e1 e2 e3, c, X, a, o, tk, m => by rw [evX_plain rfl]; exact (ev_ok _ c X a o m).1.of fun σ H Q t => tX_strict t
  | .meth p b es, c, X, a, o, tk, m => by rw [evX_plain rfl]; exact (ev_ok _ c X a o m).1.of fun σ H Q t => tX_strict t
  | .comp cf own t it cond elt, c, X, a, o, tk, m => by rw [evX_plain rfl]; exact (ev_ok _ c X a o m).1.of fun σ H Q t => tX_strict t
theorem evsX_ok {W : WX} : ∀ (es : Es) (c : Ctx) (X : Cx) (as : List Expr), CtxOk D k c X → Takes X W → mEs c es as = true → PA X as (tAX X.kw W (evsX (callN D k) es))
  | .nil, c, X, as, o, tk, m => by
    unfold mEs at m
    split at m
    · refine pa_nil.of fun σ H Q t => ?_
      obtain ⟨w, e, rfl, ok, er, p⟩ := t
      simp only [evsX] at p
      exact p w [] (Ext.refl w) ok rfl .nil
    · cases m
  | .cons e r, c, X, as, o, tk, m => by
    unfold mEs at m
    split at m
    · simp only [Bool.and_eq_true] at m
      refine (pa_cons (evX_ok e c X _ o tk m.1.2) (evsX_ok r c X _ o tk m.2) (starEach_plain m.1.1)).of fun σ H Q t => ?_
      have q : evsX (callN D k) (.cons e r) = fun s h => (evX (callN D k) e s h).bind fun v h1 => (evsX (callN D k) r s h1).bind fun vs h2 => .ok (v :: vs) h2 := by
        funext s h
        simp only [evsX]
      rw [q] at t
      exact tAX_cons t
    · cases m
end
end
end PL

set_option maxRecDepth 100000
set_option maxHeartbeats 4000000
/-! PL13: every statement does what the language says. -/
namespace PL
open PySem PySem.Spec PyProof.Rows L2

def PostS (K : KW) (w : Wd) (W : WX) (Z : Ends) : Res → Prop
  | .next e h => ∀ (w' : Wd) (σ' : L2.St), Ext w w' → Ok K w' → w'.h = h → ER K w' e σ' → Z.nx σ' w'.H
  | .ret v h => ∀ (w' : Wd) (x : V), Ext w w' → Ok K w' → w'.h = h → VR K w' v x → Z.rt x w'.H
  | .brk e h => ∀ (w' : Wd) (σ' : L2.St), Ext w w' → Ok K w' → w'.h = h → ER K w' e σ' → Z.bk σ' w'.H
  | .cnt e h => ∀ (w' : Wd) (σ' : L2.St), Ext w w' → Ok K w' → w'.h = h → ER K w' e σ' → Z.ct σ' w'.H
  | .exn c e h => ∀ (w' : Wd) (σ' : L2.St) (C : Addr), Ext w w' → Ok K w' → w'.h = h → ER K w' e σ' → NmC K c C → W (.ref C) none σ' w'.H
  | .stuck => False
theorem PostS.ext {K : KW} {w w1 : Wd} {W : WX} {Z : Ends} {r : Res} (p : PostS K w W Z r) (x : Ext w w1) : PostS K w1 W Z r := by
  cases r with
  | next e h => exact fun w' σ' y => p w' σ' (x.trans y)
  | ret v h => exact fun w' σ' y => p w' σ' (x.trans y)
  | brk e h => exact fun w' σ' y => p w' σ' (x.trans y)
  | cnt e h => exact fun w' σ' y => p w' σ' (x.trans y)
  | exn c e h => exact fun w' σ' C y => p w' σ' C (x.trans y)
  | stuck => exact p
abbrev SM := Ee → Hh → Res
def tS (K : KW) (W : WX) (m : SM) : TS := fun Z σ H => ∃ (w : Wd) (e : Ee), w.H = H ∧ Ok K w ∧ ER K w e σ ∧ PostS K w W Z (m e w.h)
theorem res_post {K : KW} {w : Wd} {W : WX} {Z : Ends} {α : Type} {m : Out α} {e : Ee} {f : α → Hh → Res} (p : PostS K w W Z ((strict m).res e f)) : ∃ a h, m = .ok a h ∧ PostS K w W Z (f a h) := by
  cases m with
  | ok a h => exact ⟨a, h, rfl, p⟩
  | exn c h => exact False.elim p
  | stuck => exact False.elim p
section
variable {K : KW} {W : WX}
theorem tS_seq {m : SM} {n : SM} {Z : Ends} {σ : L2.St} {H : Hp} (t : tS K W (fun e h => match m e h with
    | .next e1 h1 => n e1 h1
    | q => q) Z σ H) : tSeq (tS K W m) (tS K W n) Z σ H := by
  obtain ⟨w, e, rfl, ok, er, p⟩ := t
  refine ⟨w, e, rfl, ok, er, ?_⟩
  replace p : PostS K w W Z (match m e w.h with
    | .next e1 h1 => n e1 h1
    | q => q) := p
  split at p
  · rename_i e1 h1 q
    rw [q]
    exact fun w' σ' x ok' hh er' => ⟨w', e1, rfl, ok', er', by rw [hh]; exact p.ext x⟩
  · rename_i q nq
    cases hm : m e w.h with
    | next e1 h1 => exact absurd hm (nq e1 h1)
    | ret v h => rw [hm] at p; exact p
    | brk e1 h => rw [hm] at p; exact p
    | cnt e1 h => rw [hm] at p; exact p
    | exn c e1 h => rw [hm] at p; exact p
    | stuck => rw [hm] at p; exact p
theorem tS_drop {m : EM} {Z : Ends} {σ : L2.St} {H : Hp} (t : tS K W (fun e h => (m e h).res e fun _ h1 => .next e h1) Z σ H) : tDrop (tX K W m) Z σ H := by
  obtain ⟨w, e, rfl, ok, er, p⟩ := t
  refine ⟨w, e, rfl, ok, er, ?_⟩
  cases q : m e w.h with
  | ok a h =>
    simp only [q, Out.res_ok] at p
    exact fun w' v x ok' hh r => p w' σ x ok' hh (er.ext x)
  | exn c h =>
    simp only [q, Out.res_exn] at p
    exact fun w' C x ok' hh n => p w' σ C x ok' hh (er.ext x) n
  | stuck =>
    simp only [q, Out.res_stuck] at p
    exact p
theorem tS_ret {m : EM} {Z : Ends} {σ : L2.St} {H : Hp} (t : tS K W (fun e h => (m e h).res e fun v h1 => .ret v h1) Z σ H) : tRet (tX K W m) Z σ H := by
  obtain ⟨w, e, rfl, ok, er, p⟩ := t
  refine ⟨w, e, rfl, ok, er, ?_⟩
  cases q : m e w.h with
  | ok a h =>
    simp only [q, Out.res_ok] at p
    exact p
  | exn c h =>
    simp only [q, Out.res_exn] at p
    exact fun w' C x ok' hh n => p w' σ C x ok' hh (er.ext x) n
  | stuck =>
    simp only [q, Out.res_stuck] at p
    exact p
theorem tS_if {m : EM} {a b : SM} {Z : Ends} {σ : L2.St} {H : Hp} (t : tS K W (fun e h => (strict ((m e h).bind asB)).res e fun k h2 => (match k with
    | true => a e h2
    | false => b e h2)) Z σ H) : tIfS (tT K fun e h => (m e h).bind asB) (tS K W a) (tS K W b) Z σ H := by
  obtain ⟨w, e, rfl, ok, er, p⟩ := t
  obtain ⟨k, h2, q2, p⟩ := res_post p
  refine ⟨w, e, k, h2, rfl, ok, er, q2, fun w' x ok' hh => ?_⟩
  cases k with
  | true =>
    rw [if_pos rfl]
    exact ⟨w', e, rfl, ok', er.ext x, by rw [hh]; exact p.ext x⟩
  | false =>
    rw [if_neg (by decide)]
    exact ⟨w', e, rfl, ok', er.ext x, by rw [hh]; exact p.ext x⟩
theorem tS_asg {m : EM} {tg : Tg} {Z : Ends} {σ : L2.St} {H : Hp} (t : tS K W (fun e h => (m e h).res e fun v h1 => (match setT tg e v with
    | some e1 => .next e1 h1
    | none => .stuck)) Z σ H) : tAsg (tX K W m) (gT K tg) Z σ H := by
  obtain ⟨w, e, rfl, ok, er, p⟩ := t
  refine ⟨w, e, rfl, ok, er, ?_⟩
  cases q : m e w.h with
  | ok v h1 =>
    simp only [q, Out.res_ok] at p
    split at p
    · rename_i e1 q2
      exact fun w' x y ok' hh r => ⟨w', e, v, e1, rfl, ok', er.ext y, r, q2, fun w2 σ2 y2 ok2 hh2 er2 _ => p w2 σ2 (y.trans y2) ok2 (hh2.trans hh) er2⟩
    · exact False.elim p
  | exn c h =>
    simp only [q, Out.res_exn] at p
    exact fun w' C x ok' hh n => p w' σ C x ok' hh (er.ext x) n
  | stuck =>
    simp only [q, Out.res_stuck] at p
    exact p
theorem tS_put {mx ma mi : EM} {Z : Ends} {σ : L2.St} {H : Hp} (t : tS K W (fun e h => (strict (mx e h)).res e fun v h1 => (strict (ma e h1)).res e fun o h2 => (strict (mi e h2)).res e fun k h3 => (strict <| putM o k v h3).res e fun _ h4 => .next e h4) Z σ H) :
    tAsg (tE K mx) (gSub (tE K ma) (tE K mi) (rPut K)) Z σ H := by
  obtain ⟨w, e, rfl, ok, er, p⟩ := t
  obtain ⟨v, h1, q1, p1⟩ := res_post p
  obtain ⟨o, h2, q2, p2⟩ := res_post p1
  obtain ⟨k, h3, q3, p3⟩ := res_post p2
  obtain ⟨_, h4, q4, p4⟩ := res_post p3
  refine ⟨w, e, v, h1, rfl, ok, er, q1, fun w1 x1 y1 ok1 hh1 r1 => ?_⟩
  subst hh1
  refine ⟨w1, e, o, h2, rfl, ok1, er.ext y1, q2, fun w2 x2 y2 ok2 hh2 r2 => ?_⟩
  subst hh2
  refine ⟨w2, e, k, h3, rfl, ok2, (er.ext y1).ext y2, q3, fun w3 x3 y3 ok3 hh3 r3 => ?_⟩
  subst hh3
  refine ⟨w3, o, k, v, h4, rfl, ok3, r2.ext y3, r3, (r1.ext y2).ext y3, q4, fun w4 y4 ok4 hh4 => ?_⟩
  exact p4 w4 σ (((y1.trans y2).trans y3).trans y4) ok4 hh4 ((((er.ext y1).ext y2).ext y3).ext y4)
theorem tS_aug {m : EM} {p : Prim} {i : Nat} {Z : Ends} {σ : L2.St} {H : Hp} (t : tS K W (fun e h => (match e[i]? with
    | some (some x) => (strict (m e h)).res e fun y h1 => (strict (augM p x y h1)).res e fun z h2 => .next (e.set i (some z)) h2
    | _ => .stuck)) Z σ H) : tAug i (tE K m) (r2 K (augM p)) Z σ H := by
  obtain ⟨w, e, rfl, ok, er, p⟩ := t
  replace p : PostS K w W Z (match e[i]? with
    | some (some x) => (strict (m e w.h)).res e fun y h1 => (strict (augM _ x y h1)).res e fun z h2 => .next (e.set i (some z)) h2
    | _ => .stuck) := p
  split at p
  · rename_i x hx
    obtain ⟨y, h1, q1, p1⟩ := res_post p
    obtain ⟨z, h2, q2, p2⟩ := res_post p1
    obtain ⟨v, hv, rv⟩ := er.get i x hx
    refine ⟨v, hv, w, e, y, h1, rfl, ok, er, q1, fun w1 x1 y1 ok1 hh1 r1 => ?_⟩
    subst hh1
    exact ⟨w1, x, y, z, h2, rfl, ok1, rv.ext y1, r1, q2, fun w2 u y2 ok2 hh2 r2 => p2 w2 _ (y1.trans y2) ok2 hh2 (((er.ext y1).ext y2).set i r2)⟩
  · exact False.elim p
theorem tS_while {mc : Ee → Hh → Out Bool} {mb : SM} {n : Nat} {Z : Ends} {σ : L2.St} {H : Hp} (t : tS K W (whlL (fun e h => strict (mc e h)) mb n) Z σ H) : tWhile (tT K mc) (tS K W mb) Z σ H := by
  refine ⟨fun m σ H => tS K W (whlL (fun e h => strict (mc e h)) mb m) Z σ H, ⟨n, t⟩, fun m σ H t => ?_⟩
  obtain ⟨w, e, rfl, ok, er, p⟩ := t
  cases m with
  | zero => exact False.elim p
  | succ m =>
    unfold whlL at p
    obtain ⟨b, h1, q, p⟩ := res_post p
    refine ⟨w, e, b, h1, rfl, ok, er, q, fun w' x ok' hh => ?_⟩
    subst hh
    cases b with
    | false =>
      rw [if_neg (by decide)]
      exact p w' σ x ok' rfl (er.ext x)
    | true =>
      rw [if_pos rfl]
      refine ⟨fun σ' H' => tS K W (whlL (fun e h => strict (mc e h)) mb m) Z σ' H', fun σ' H' q => ⟨m, Nat.lt_succ_self m, q⟩, w', e, rfl, ok', er.ext x, ?_⟩
      replace p := p.ext x
      cases hb : mb e w'.h with
      | next e2 h2 =>
        simp only [hb] at p
        exact fun w2 σ2 y ok2 hh2 er2 => ⟨w2, e2, rfl, ok2, er2, by rw [hh2]; exact p.ext y⟩
      | cnt e2 h2 =>
        simp only [hb] at p
        exact fun w2 σ2 y ok2 hh2 er2 => ⟨w2, e2, rfl, ok2, er2, by rw [hh2]; exact p.ext y⟩
      | brk e2 h2 =>
        simp only [hb] at p
        exact p
      | ret v h2 =>
        simp only [hb] at p
        exact p
      | exn c e2 h2 =>
        simp only [hb] at p
        exact p
      | stuck =>
        simp only [hb] at p
        exact p
theorem tS_for {mi : Ee → Hh → Out Itm} {tg : Tg} {mb : SM} {Z : Ends} {σ : L2.St} {H : Hp} (t : tS K W (fun e h => (strict (mi e h)).res e fun vs h1 => forS tg mb vs e h1) Z σ H) : tFor (tI K mi) (gT K tg) (tS K W mb) Z σ H := by
  obtain ⟨w, e, rfl, ok, er, p⟩ := t
  obtain ⟨items, h1, q, p⟩ := res_post p
  refine ⟨w, e, items, h1, rfl, ok, er, q, fun w1 J x1 ok1 hh1 src => ?_⟩
  subst hh1
  rcases items with items | n
  rotate_left
  · replace src : SrcC K J w1 n := src
    replace p : PostS K w W Z (forC tg mb n (line + 1) 0 e w1.h) := p
    refine ⟨fun i m σ H => ∃ (w2 : Wd) (e2 : Ee), w2.H = H ∧ Ext w1 w2 ∧ Ok K w2 ∧ ER K w2 e2 σ ∧ PostS K w2 W Z (forC tg mb n m i e2 w2.h), ⟨line + 1, w1, e, rfl, Ext.refl w1, ok1, er.ext x1, p.ext x1⟩, fun i m σ H hW => ?_⟩
    obtain ⟨w2, e2, rfl, x2, ok2, er2, p2⟩ := hW
    cases m with
    | zero => exact False.elim p2
    | succ m =>
      unfold forC at p2
      split at p2
      · rename_i dd hcell
        split at p2
        · rename_i hdx
          exact .inl ⟨src.stop i w2 dd x2.toExt0 ok2 hcell (List.getElem?_eq_none_iff.mp hdx), p2 w2 σ (Ext.refl w2) ok2 rfl er2⟩
        · rename_i dx hdx
          have hlt : i < dd.length := (List.getElem?_eq_some_iff.mp hdx).1
          refine .inr ⟨src.go i w2 dd x2.toExt0 ok2 hcell hlt, fun σ' H' => ∃ (w3 : Wd) (e3 : Ee), w3.H = H' ∧ Ext w1 w3 ∧ Ok K w3 ∧ ER K w3 e3 σ' ∧ PostS K w3 W Z (forC tg mb n m (i + 1) e3 w3.h), fun σ' H' z => ⟨m, Nat.lt_succ_self m, z⟩, fun x H' y => ?_⟩
          obtain ⟨rfl, d3, hd3, rv3⟩ := src.yld i w2 dd x H' x2.toExt0 ok2 hcell hlt y
          rw [hdx] at hd3
          cases hd3
          split at p2
          · exact False.elim p2
          · rename_i e3 hs
            refine ⟨w2, e2, .d dx, e3, rfl, ok2, er2, rv3, hs, fun w4 σ4 x4 ok4 hh4 er4 _ => ?_⟩
            refine ⟨w4, e3, rfl, ok4, er4, ?_⟩
            rw [hh4]
            replace p2 := p2.ext x4
            cases hb : mb e3 w2.h with
            | next e5 h5 =>
              simp only [hb] at p2
              exact fun w5 σ5 x5 ok5 hh5 er5 => ⟨w5, e5, rfl, (x2.trans x4).trans x5, ok5, er5, by rw [hh5]; exact p2.ext x5⟩
            | cnt e5 h5 =>
              simp only [hb] at p2
              exact fun w5 σ5 x5 ok5 hh5 er5 => ⟨w5, e5, rfl, (x2.trans x4).trans x5, ok5, er5, by rw [hh5]; exact p2.ext x5⟩
            | brk e5 h5 =>
              simp only [hb] at p2
              exact p2
            | ret v h5 =>
              simp only [hb] at p2
              exact p2
            | exn c e5 h5 =>
              simp only [hb] at p2
              exact p2
            | stuck =>
              simp only [hb] at p2
              exact p2
      · exact False.elim p2
  replace src : Src K J w1 items := src
  replace p : PostS K w W Z (forL tg mb items e w1.h) := p
  refine ⟨fun i m σ H => m + i = items.length ∧ ∃ (w2 : Wd) (e2 : Ee), w2.H = H ∧ Ext w1 w2 ∧ Ok K w2 ∧ ER K w2 e2 σ ∧ PostS K w2 W Z (forL tg mb (items.drop i) e2 w2.h), ⟨items.length, rfl, w1, e, rfl, Ext.refl w1, ok1, er.ext x1, p.ext x1⟩, fun i m σ H hW => ?_⟩
  obtain ⟨hm, w2, e2, rfl, x2, ok2, er2, p2⟩ := hW
  by_cases hi : i < items.length
  · refine .inr ⟨src.go i w2 hi x2.kp ok2, fun σ' H' => (m - 1) + (i + 1) = items.length ∧ ∃ (w3 : Wd) (e3 : Ee), w3.H = H' ∧ Ext w1 w3 ∧ Ok K w3 ∧ ER K w3 e3 σ' ∧ PostS K w3 W Z (forL tg mb (items.drop (i + 1)) e3 w3.h), fun σ' H' z => ⟨m - 1, by omega, z⟩, fun x H' y => ?_⟩
    obtain ⟨w3, pv, x3, ok3, hh3, rfl, at_, vr⟩ := src.yld i w2 x H' hi x2.toExt0 ok2 y
    rw [List.drop_eq_getElem_cons hi] at p2
    have e0 : items[i] = pv := by
      rw [List.getElem?_eq_getElem hi] at at_
      exact Option.some.inj at_
    rw [e0] at p2
    unfold forL at p2
    split at p2
    · exact False.elim p2
    · rename_i e3 hs
      refine ⟨w3, e2, pv, e3, rfl, ok3, er2.ext x3, vr, hs, fun w4 σ4 x4 ok4 hh4 er4 _ => ?_⟩
      refine ⟨w4, e3, rfl, ok4, er4, ?_⟩
      have h4 : w4.h = w2.h := hh4.trans hh3
      have x24 := x3.trans x4
      rw [h4]
      replace p2 := p2.ext x24
      cases hb : mb e3 w2.h with
      | next e5 h5 =>
        simp only [hb] at p2
        exact fun w5 σ5 x5 ok5 hh5 er5 => ⟨by omega, w5, e5, rfl, (x2.trans x24).trans x5, ok5, er5, by rw [hh5]; exact p2.ext x5⟩
      | cnt e5 h5 =>
        simp only [hb] at p2
        exact fun w5 σ5 x5 ok5 hh5 er5 => ⟨by omega, w5, e5, rfl, (x2.trans x24).trans x5, ok5, er5, by rw [hh5]; exact p2.ext x5⟩
      | brk e5 h5 =>
        simp only [hb] at p2
        exact p2
      | ret v h5 =>
        simp only [hb] at p2
        exact p2
      | exn c e5 h5 =>
        simp only [hb] at p2
        exact p2
      | stuck =>
        simp only [hb] at p2
        exact p2
  · have e0 : i = items.length := by omega
    subst e0
    rw [List.drop_length] at p2
    unfold forL at p2
    exact .inl ⟨src.stop w2 x2.kp ok2, p2 w2 σ (Ext.refl w2) ok2 rfl er2⟩
end

/-! ### the match of statements -/
def notTup : Expr → Bool
  | .Tuple .. => false
  | .List .. => false
  | _ => true
theorem noStores {tg a : Expr} {env : Env} (h : notTup tg = true ∨ notTup a = true) : swappedStores [tg] a env = pure none := by
  rcases h with h | h
  · unfold swappedStores
    cases tg <;> first | rfl | cases h
  · unfold swappedStores
    cases a <;> first | (cases tg <;> rfl) | cases h
theorem noSole {tg a : Expr} {l : Nat} {env : Env} (h : notComp a = true) : swapsWithSole [tg] a l env = pure false := by
  show swapsWith a (some tg) l env = pure false
  exact noSwap h
/-- a comprehension on its own line's name -/
def swB (c : Ctx) (tg a : Expr) : Bool := match a, tg with
  | .ListComp _ _ scope pos, .Name y py => kB c y .local && py.line == pos.line && !(scope.names.any fun (n, k) => n == y && (k == .local || k == .cell))
  | _, _ => false
def swN (c : Ctx) (tg a : Expr) : Bool := match a, tg with
  | .ListComp _ _ _ pos, .Name y py => kB c y .cell || !(py.line == pos.line)
  | .ListComp _ _ _ _, .Tuple _ _ _ => true
  | a, _ => notComp a
section
variable {D : Defs} {k : Nat} {c : Ctx} {X : Cx}
theorem swN_ok (o : CtxOk D k c X) {tg a : Expr} {l : Nat} (h : swN c tg a = true) : swapsWithSole [tg] a l X.env = pure false := by
  show swapsWith a (some tg) l X.env = pure false
  unfold swN at h
  split at h
  · rename_i pos y py
    unfold swapsWith
    rw [Bool.or_eq_true] at h
    rcases h with h | h
    · have ky : X.env.kindOf y = some .cell := o.kind h
      simp only [ky]
      simp [pure, StateT.pure]
    · have hl : (py.line == pos.line) = false := by
        revert h
        cases (py.line == pos.line) <;> simp
      simp only [Expr.pos, hl]
      simp
  · rfl
  · exact noSwap h
mutual
def mS (c : Ctx) : S → Stmt → Bool
  | .expr e, a => (match a with
    | .Expr b _ => notComp b && mE c e b
    | _ => false)
  | .asg t e, a => (match a with
    | .Assign [tg] b _ => plainA tg && (notTup tg || notTup b) && mT c t tg && ((swN c tg b && mE c e b) || (match e, t with
      | .comp .., .nm _ => !c.hot && swB c tg b && mE c e b
      | _, _ => false))
    | _ => false)
  | .put x i e, a => (match a with
    | .Assign [.Subscript o j _] b _ => notSlice j && notComp b && mE c e b && mE c x o && mE c i j
    | _ => false)
  | .aug i p e, a => (match a with
    | .AugAssign (.Name x _) op b _ => decide (c.N[i]? = some x) && locB c x && (match p, op with
      | .add _, .Add => true
      | .sub, .Sub => true
      | _, _ => false) && mE c e b
    | _ => false)
  | .ite e b d, a => (match a with
    | .If x y z _ => mE c e x && mSs c b y && mSs c d z
    | _ => false)
  | .whl _ e b, a => (match a with
    | .While x y z _ => mE c e x && mSs c b y && z.isEmpty
    | _ => false)
  | .for_ t it b, a => (match a with
    | .For tg ia y z _ => !c.hot && mT c t tg && mIt c it tg ia && notSet ia && mSs c b y && z.isEmpty
    | _ => false)
  | .ret e, a => (match a with
    | .Return (some b) _ => mE c e b
    | _ => false)
  | .ret0, a => (match a with
    | .Return none _ => true
    | _ => false)
  | .raise d, a => (match a with
    | .Raise (some (.Call (.Name x _) [.Constant (.str _) _ _] [] _)) none _ => !c.hot && decide (x = Str.ofString d) && kB c x .globalImplicit && ndB x && c.xs.contains d
    | _ => false)
  | .try_ i cl xs b hs, a => (match a with
    | .Try body [.ExceptHandler (some (.Name x _)) (some n) (b0 :: suite) _] [] [] _ => !c.hot && decide (c.N[i]? = some n) && kB c n .local && decide (x = Str.ofString cl) && kB c x .globalImplicit && ndB x && c.ys.contains cl && xs.all (fun d => c.xs.contains d) && mSs c b body && mSs { c with hot := true } hs (b0 :: suite)
    | _ => false)
  | .pass, a => (match a with
    | .Pass _ => true
    | .Expr (.Constant (.str _) _ _) _ => true
    | _ => false)
  | .brk, a => (match a with
    | .Break _ => true
    | _ => false)
  | .cnt, a => (match a with
    | .Continue _ => true
    | _ => false)
def mSs (c : Ctx) : Ss → List Stmt → Bool
  | .nil, as => (match as with
    | [] => true
    | _ => false)
  | .cons s r, as => (match as with
    | a :: as => mS c s a && mSs c r as
    | [] => false)
end
/-! ### every statement -/
theorem o_aug {p : Prim} {op : Operator} (h : (match p, op with
      | .add _, .Add => true
      | .sub, .Sub => true
      | _, _ => false) = true) : PIp X op (r2 X.kw (augM p)) := by
  split at h
  · intro pins s σ H x y v u Q I rx ry t
    obtain ⟨w, a, b, rv, h', rfl, ok, ra, rb, e, p⟩ := t
    unfold augM at e
    split at e
    · cases e
      rename_i i j _
      cases ra with
      | d ra =>
        cases ra
        cases rb with
        | d rb =>
          cases rb
          exact iop_add pins s σ _ _ _ v u Q I rx ry ⟨i, j, rfl, rfl, p.same ok (.d (.int _))⟩
    · rename_i i j _
      split at e
      · rename_i hl
        cases e
        cases ra with
        | d ra =>
          cases ra
          cases rb with
          | d rb =>
            cases rb
            exact iop_add_str pins s σ _ _ _ v u Q I rx ry ⟨i, j, rfl, rfl, hl, p.same ok (.d (.str _))⟩
      · cases e
    · rename_i z
      cases z
    · cases e
  · intro pins s σ H x y v u Q I rx ry t
    obtain ⟨w, a, b, rv, h', rfl, ok, ra, rb, e, p⟩ := t
    unfold augM at e
    split at e
    · rename_i z
      cases z
    · rename_i z
      cases z
    · cases e
      rename_i i j _
      cases ra with
      | d ra =>
        cases ra
        cases rb with
        | d rb =>
          cases rb
          exact iop_sub pins s σ _ _ _ v u Q I rx ry ⟨i, j, rfl, rfl, p.same ok (.d (.int _))⟩
    · cases e
  · cases h
theorem subAssign {o i : Expr} {pos : Pos} {env : Env} (h : notSlice i = true) (v : Value) : assign (.Subscript o i pos) env v = (do
      let ov ← holding [v] (eval o env)
      let iv ← holding [v, ov] (eval i env)
      standAt pos
      holding [v, ov, iv] (setItem ov iv v)
      release [v, ov, iv] []) := by
  cases i <;> first | rfl | cases h
/-- what may leave the code -/
structure StX (X : Cx) (W : WX) : Prop where
  tk : Takes X W
  hp : PassesOwn (model X.prog X.w) X.A X.env X.xe
  hs : X.stack = X.env :: X.outer
  hf : X.env.frame = some X.env.locals
  hex : X.ex = []
abbrev W0 : WX := fun _ _ _ _ => False
theorem takes0 {X : Cx} : Takes X W0 := fun _ _ h => by
  obtain ⟨_, _, _, _, _, _, _, _, _, _, _, _, _, _, _, _, e⟩ := h
  exact e.elim
theorem ctx_tr {c : Ctx} {X : Cx} (o : CtxOk D k c X) (pn : List (Addr × Obj)) (xe : Value → Shared → Prop) : CtxOk D k c (X.tr pn xe) :=
  ⟨o.N, o.sc, o.fn, o.calm, o.nd, o.room, o.u65, o.fk, o.gl, o.fs, o.ex⟩
theorem ctx_suite {c : Ctx} {X : Cx} (o : CtxOk D k c X) (a : Addr) (pn : List (Addr × Obj)) : CtxOk D k { c with hot := true } (X.suite a pn) :=
  ⟨o.N, o.sc, o.fn, (fun z => nomatch z), o.nd, (fun z => nomatch z), o.u65, o.fk, o.gl, o.fs, o.ex⟩
theorem tS_try {K : KW} {mg : Str → Option Value} {W : WX} {c : Ctx} {i : Nat} {cl : String} {CL : Addr} {xs : List String} {mb mh : SM} {Z : Ends} {σ : L2.St} {H : Hp} (ex : ExOk K mg c.xs c.ys) (inx : ∀ d, d ∈ xs → d ∈ c.xs) (iny : cl ∈ c.ys) (nl : NmC K cl CL)
    (t : tS K W (fun e h => (match mb e h with
    | .exn d e1 h1 => if xs.contains d then (if isSub d cl then (match mh (e1.set i (some (.exc d))) h1 with
        | .next e2 h2 => .next (e2.set i none) h2
        | .ret v h2 => .ret v h2
        | .brk e2 h2 => .brk (e2.set i none) h2
        | .cnt e2 h2 => .cnt (e2.set i none) h2
        | _ => .stuck) else .exn d e1 h1) else .stuck
    | q => q)) Z σ H) : tS K (PLX.wHeld K (.ref CL) i (tS K W0 mh) W Z) mb Z σ H := by
  obtain ⟨w, e, rfl, ok, er, p⟩ := t
  refine ⟨w, e, rfl, ok, er, ?_⟩
  dsimp only at p
  cases q : mb e w.h with
  | next e1 h1 => rw [q] at p; exact p
  | ret v h1 => rw [q] at p; exact p
  | brk e1 h1 => rw [q] at p; exact p
  | cnt e1 h1 => rw [q] at p; exact p
  | stuck => rw [q] at p; exact p
  | exn d e1 h1 =>
    rw [q] at p
    dsimp only at p
    split at p
    · rename_i hx
      have hd := inx d (List.elem_iff.mp hx)
      intro w' σ' C x ok' hh er' n
      refine ⟨isSub d cl, ex.exm hd iny n nl, fun hb => ?_, fun hb => ⟨C, rfl, rfl, fun a na => ?_⟩⟩
      · rw [hb, if_neg (by decide)] at p
        exact p w' σ' C x ok' hh er' n
      · rw [hb, if_pos rfl] at p
        have fx := Wd.fix_ext (o := PLX.EXO a C) ok' na
        refine ⟨w'.fix a (PLX.EXO a C), e1.set i (some (.exc d)), rfl, Wd.fix_ok ok' na, (er'.ext fx).set i (.exc (.inl rfl) upd_same n), ?_⟩
        replace p := p.ext (x.trans fx)
        have hh2 : (w'.fix a (PLX.EXO a C)).h = h1 := hh
        rw [hh2]
        cases q2 : mh (e1.set i (some (.exc d))) h1 with
        | next e2 h2 =>
          rw [q2] at p
          exact fun w3 σ3 x3 ok3 hh3 er3 => p w3 _ x3 ok3 hh3 (er3.unset i)
        | ret v h2 => rw [q2] at p; exact p
        | brk e2 h2 =>
          rw [q2] at p
          exact fun w3 σ3 x3 ok3 hh3 er3 => p w3 _ x3 ok3 hh3 (er3.unset i)
        | cnt e2 h2 =>
          rw [q2] at p
          exact fun w3 σ3 x3 ok3 hh3 er3 => p w3 _ x3 ok3 hh3 (er3.unset i)
        | exn d2 e2 h2 => rw [q2] at p; exact p.elim
        | stuck => rw [q2] at p; exact p
    · exact p.elim
mutual
theorem st_ok : ∀ (s : S) (c : Ctx) (X : Cx) (W : WX) (a : Stmt), CtxOk D k c X → StX X W → mS c s a = true → PS X a (tS X.kw W (ex (callN D k) s))
  | .expr e, c, X, W, a, o, hp, m => by
    unfold mS at m
    split at m
    · rw [Bool.and_eq_true] at m
      refine (ps_expr (evX_ok e c X _ o hp.tk m.2) (noSwap m.1)).of fun Z σ H t => tS_drop ?_
      have q : ex (callN D k) (.expr e) = fun r h => (evX (callN D k) e r h).res r fun _ h1 => .next r h1 := by
        funext r h
        simp only [ex]
      rw [q] at t
      exact t
    · cases m
  | .asg tg e, c, X, W, a, o, hp, m => by
    unfold mS at m
    split at m
    · rename_i tga b pos
      simp only [Bool.and_eq_true, Bool.or_eq_true] at m
      obtain ⟨⟨⟨m1, m2⟩, m3⟩, m4⟩ := m
      have q : ex (callN D k) (.asg tg e) = fun r h => (evX (callN D k) e r h).res r fun v h1 => (match setT tg r v with
          | some e1 => .next e1 h1
          | none => .stuck) := by
        funext r h
        simp only [ex]
        try rfl
      rw [q]
      rcases m4 with m4 | m4
      · exact (ps_asg (evX_ok e c X b o hp.tk m4.2) (pg_ok o tg tga m3) (swN_ok o m4.1) (noStores m2) (by rw [assignEach_plain m1]; rfl)).of fun Z σ H t => tS_asg t
      · split at m4
        · rename_i cf own t it cond elt i
          rw [Bool.and_eq_true, Bool.and_eq_true, Bool.not_eq_true'] at m4
          obtain ⟨⟨nh, m4⟩, m5⟩ := m4
          unfold mE at m5
          split at m5
          · rename_i ea ta ia ifs asy scope cpos
            rw [Bool.and_eq_true] at m5
            replace m5 := m5.2
            split at m5
            · rename_i l hl
              simp only [Bool.and_eq_true, decide_eq_true_eq] at m5
              obtain ⟨⟨⟨⟨⟨⟨⟨n1, n2⟩, n3⟩, n4⟩, n5⟩, n6⟩, n7⟩, n8⟩ := m5
              subst n1
              unfold swB at m4
              split at m4
              · rename_i heq
                cases heq
                simp only [Bool.and_eq_true] at m4
                rename_i y py
                simp only [mT] at m3
                rw [Bool.and_eq_true] at m3
                have hb := blkOk_by n2
                have hb' : BlkOk X.N X.env.scope scope l := by
                  rw [o.N, o.sc]
                  exact hb
                have hi := it_ok it c X ta ia o n5
                have hsl : ∀ i ∈ slots t, i ∈ own := fun i hi => List.elem_iff.mp (List.all_eq_true.mp n3 i hi)
                have ky := o.kind m4.1.1
                have q := ps_setLc (X := X) (i := i) (y := y) (py := py) (pos := cpos) (spos := pos) (elt := ea) (tg := ta) (ifs := ifs) (g := gT X.kw t) (tt := tT X.kw (evConds (callN D k) cond)) (te := tE X.kw (ev (callN D k) elt)) (o.calm nh) (by rw [o.N]; exact o.nd) (by rw [o.N]; exact of_decide_eq_true m3.1) ky (sw_true o.fk ky m4.1.2 (by
                    revert m4
                    intro m4
                    have := m4.2
                    revert this
                    cases (scope.names.any fun (n, k) => n == y && (k == .local || k == .cell)) <;> simp)) hi hb' (fun s H C cl fp => pg_ok (ctx_blk o hb.kind s H C cl fp) t ta n4)
                  (fun s H C cl fp => cond_ok cond (blkCtx c scope) _ ifs (ctx_blk o hb.kind s H C cl fp) n7) (fun s H C cl fp => (ev_ok elt (blkCtx c scope) _ ea (ctx_blk o hb.kind s H C cl fp) n8).1) (noFold n6)
                refine q.of fun Z σ H tt => ?_
                rw [ownOf_ix hl]
                have e : ev (callN D k) (.comp cf own t it cond elt) = fun e h => (evIt (callN D k) it e h).bind fun vs h1 => (compS t (evConds (callN D k) cond) (ev (callN D k) elt) (wipeE e own) vs h1).bind fun ds h2 => mkL cf ds h2 := by
                  funext r h
                  simp only [ev]
                have tt1 := tS_asg (m := evX (callN D k) (.comp cf own t it cond elt)) (tg := .nm i) tt
                rw [evX_plain rfl] at tt1
                have tt2 := tX_strict tt1
                rw [e] at tt2
                show tLc _ _ _ _ _ σ H (fun x H1 => gName i x σ H1 Z.nx)
                refine tLc_of (c := cf) hsl ?_
                obtain ⟨w, e3, rv, h3, rfl, ok3, er3, q3, p3⟩ := tt2
                refine ⟨w, e3, rv, h3, rfl, ok3, er3, q3, fun w4 v4 x4 ok4 hh4 r4 => ?_⟩
                obtain ⟨w5, e5, p5, e5', h5, ok5, er5, vr5, s5, f5⟩ := p3 w4 v4 x4 ok4 hh4 r4
                simp only [setT] at s5
                cases s5
                rw [← h5]
                exact f5 w5 _ (Ext.refl w5) ok5 rfl (er5.set i vr5) (Off.set i _ σ)
              · cases m4
            · cases m5
          · cases m5
        · cases m4
    · cases m
  | .put x i e, c, X, W, a, o, hp, m => by
    unfold mS at m
    split at m
    · simp only [Bool.and_eq_true] at m
      obtain ⟨⟨⟨⟨m1, m2⟩, m3⟩, m4⟩, m5⟩ := m
      refine (ps_asg (ev_ok e c X _ o m3).1 (pg_sub (ev_ok x c X _ o m4).1 (ev_ok i c X _ o m5).1 (o_put (by have := o.u65; omega)) (subAssign m1)) (noSole m2) (noStores (.inl rfl))).of fun Z σ H t => tS_put (W := W) ?_
      have q : ex (callN D k) (.put x i e) = fun r h => (strict (ev (callN D k) e r h)).res r fun v h1 => (strict (ev (callN D k) x r h1)).res r fun o h2 => (strict (ev (callN D k) i r h2)).res r fun k h3 => (strict <| putM o k v h3).res r fun _ h4 => .next r h4 := by
        funext r h
        simp only [ex]
      rw [q] at t
      exact t
    · cases m
  | .aug i p e, c, X, W, a, o, hp, m => by
    unfold mS at m
    split at m
    · simp only [Bool.and_eq_true] at m
      obtain ⟨⟨⟨m1, m2⟩, m3⟩, m4⟩ := m
      obtain ⟨hl, hf⟩ := o.loc m2
      refine (ps_aug (by rw [o.N]; exact o.nd) (by rw [o.N]; exact of_decide_eq_true m1) hl (ev_ok e c X _ o m4).1 (o_aug m3) hf).of fun Z σ H t => tS_aug (W := W) ?_
      have q : ex (callN D k) (.aug i p e) = fun r h => (match r[i]? with
          | some (some x) => (strict (ev (callN D k) e r h)).res r fun y h1 => (strict (augM p x y h1)).res r fun z h2 => .next (r.set i (some z)) h2
          | _ => .stuck) := by
        funext r h
        simp only [ex]
        try rfl
      rw [q] at t
      exact t
    · cases m
  | .ite e b d, c, X, W, a, o, hp, m => by
    unfold mS at m
    split at m
    · simp only [Bool.and_eq_true] at m
      obtain ⟨⟨m1, m2⟩, m3⟩ := m
      refine (ps_if (ev_ok e c X _ o m1).2 (sts_ok b c X W _ o hp m2) (sts_ok d c X W _ o hp m3)).of fun Z σ H t => tS_if (W := W) ?_
      have q : ex (callN D k) (.ite e b d) = fun r h => (strict ((ev (callN D k) e r h).bind asB)).res r fun kk h2 => (match kk with
          | true => exs (callN D k) b r h2
          | false => exs (callN D k) d r h2) := by
        funext r h
        simp only [ex]
        try rfl
      rw [q] at t
      exact t
    · cases m
  | .whl n e b, c, X, W, a, o, hp, m => by
    unfold mS at m
    split at m
    · rename_i x y z pos
      simp only [Bool.and_eq_true] at m
      obtain ⟨⟨m1, m2⟩, m3⟩ := m
      have hz : z = [] := List.isEmpty_iff.mp m3
      subst hz
      refine (ps_while hp.hp (ev_ok e c X _ o m1).2 (sts_ok b c X W _ o hp m2)).of fun Z σ H t => tS_while (W := W) (n := n) ?_
      have q : ex (callN D k) (.whl n e b) = whlL (fun e1 h1 => strict ((ev (callN D k) e e1 h1).bind asB)) (fun e1 h1 => exs (callN D k) b e1 h1) n := by
        funext r h
        simp only [ex]
      rw [q] at t
      exact t
    · cases m
  | .for_ tg it b, c, X, W, a, o, hp, m => by
    unfold mS at m
    split at m
    · rename_i tga ia y z pos
      simp only [Bool.and_eq_true] at m
      obtain ⟨⟨⟨⟨⟨nh, m1⟩, m2⟩, m3⟩, m4⟩, m5⟩ := m
      rw [Bool.not_eq_true'] at nh
      have hz : z = [] := List.isEmpty_iff.mp m5
      subst hz
      refine (ps_for hp.hp (o.calm nh) (it_ok it c X tga ia o m2) (pg_ok o tg tga m1) (sts_ok b c X W _ o hp m4) (noFold m3)).of fun Z σ H t => tS_for (W := W) ?_
      have q : ex (callN D k) (.for_ tg it b) = fun r h => (strict (evIt (callN D k) it r h)).res r fun vs h1 => forS tg (fun e1 h2 => exs (callN D k) b e1 h2) vs r h1 := by
        funext r h
        simp only [ex]
      rw [q] at t
      exact t
    · cases m
  | .ret e, c, X, W, a, o, hp, m => by
    unfold mS at m
    split at m
    · refine (ps_ret (evX_ok e c X _ o hp.tk m)).of fun Z σ H t => tS_ret ?_
      have q : ex (callN D k) (.ret e) = fun r h => (evX (callN D k) e r h).res r fun v h1 => .ret v h1 := by
        funext r h
        simp only [ex]
      rw [q] at t
      exact t
    · cases m
  | .ret0, c, X, W, a, o, hp, m => by
    unfold mS at m
    split at m
    · refine ps_retN.of fun Z σ H t => ?_
      obtain ⟨w, e, rfl, ok, er, p⟩ := t
      simp only [ex] at p
      exact p w _ (Ext.refl w) ok rfl (.d .non)
    · cases m
  | .raise d, c, X, W, a, o, hp, m => by
    unfold mS at m
    split at m
    · simp only [Bool.and_eq_true, decide_eq_true_eq, Bool.not_eq_true'] at m
      obtain ⟨⟨⟨⟨nh, rfl⟩, hg⟩, hn⟩, hd⟩ := m
      obtain ⟨C, x⟩ := o.ex.xc d (List.elem_iff.mp hd)
      refine (ps_raise (o.calm nh) hp.tk (pmk_own PySem.F.excBase_ValueError x.x x.g x.k (raises_own x.b x.t) (o.kind hg) (nd_of hn).1)).of fun Z σ H t => ?_
      obtain ⟨w, e, rfl, ok, er, p⟩ := t
      simp only [ex] at p
      exact p w _ C (Ext.refl w) ok rfl er x.n
    · cases m
  | .try_ i cl xs b hs, c, X, W, a, o, hp, m => by
    unfold mS at m
    split at m
    · rename_i body x np n b0 suite pos' pos
      simp only [Bool.and_eq_true, decide_eq_true_eq, Bool.not_eq_true'] at m
      obtain ⟨⟨⟨⟨⟨⟨⟨⟨⟨nh, hi⟩, hl⟩, rfl⟩, hg⟩, hn⟩, hy⟩, hx⟩, m1⟩, m2⟩ := m
      obtain ⟨CL, y⟩ := o.ex.yc cl (List.elem_iff.mp hy)
      have inx : ∀ d, d ∈ xs → d ∈ c.xs := fun d hd => List.elem_iff.mp (List.all_eq_true.mp hx d hd)
      refine (PLX.ps_try_held (tb := fun W' => tS X.kw W' (exs (callN D k) b)) (ts := tS X.kw W0 (exs (callN D k) hs)) hp.hs hp.hf hp.hex (by rw [o.N]; exact o.nd) (by rw [o.N]; exact hi) (o.kind hl) ⟨o.kind hg, (nd_of hn).1, .inl y.g⟩ hp.tk
        (fun W' pn xe tk' hp' => sts_ok b c (X.tr pn xe) W' body (ctx_tr o pn xe) ⟨tk', hp', hp.hs, hp.hf, hp.hex⟩ m1)
        (fun a pn => sts_ok hs _ (X.suite a pn) W0 (b0 :: suite) (ctx_suite o a pn) ⟨takes0, PassesOwn.never, hp.hs, hp.hf, hp.hex⟩ m2)).of fun Z σ H t => ?_
      have q : ex (callN D k) (.try_ i cl xs b hs) = fun e h => (match exs (callN D k) b e h with
          | .exn d e1 h1 => if xs.contains d then (if isSub d cl then (match exs (callN D k) hs (e1.set i (some (.exc d))) h1 with
              | .next e2 h2 => .next (e2.set i none) h2
              | .ret v h2 => .ret v h2
              | .brk e2 h2 => .brk (e2.set i none) h2
              | .cnt e2 h2 => .cnt (e2.set i none) h2
              | _ => .stuck) else .exn d e1 h1) else .stuck
          | q => q) := by
        funext r h
        simp only [ex]
        try rfl
      rw [q] at t
      exact tS_try o.ex inx (List.elem_iff.mp hy) y.n t
    · cases m
  | .pass, c, X, W, a, o, hp, m => by
    have key : ∀ Z σ H, tS X.kw W (ex (callN D k) .pass) Z σ H → tNext Z σ H := fun Z σ H t => by
      obtain ⟨w, e, rfl, ok, er, p⟩ := t
      simp only [ex] at p
      exact p w _ (Ext.refl w) ok rfl er
    unfold mS at m
    split at m
    · exact ps_pass.of key
    · exact ps_doc.of key
    · cases m
  | .brk, c, X, W, a, o, hp, m => by
    unfold mS at m
    split at m
    · refine ps_break.of fun Z σ H t => ?_
      obtain ⟨w, e, rfl, ok, er, p⟩ := t
      simp only [ex] at p
      exact p w _ (Ext.refl w) ok rfl er
    · cases m
  | .cnt, c, X, W, a, o, hp, m => by
    unfold mS at m
    split at m
    · refine ps_continue.of fun Z σ H t => ?_
      obtain ⟨w, e, rfl, ok, er, p⟩ := t
      simp only [ex] at p
      exact p w _ (Ext.refl w) ok rfl er
    · cases m
theorem sts_ok : ∀ (s : Ss) (c : Ctx) (X : Cx) (W : WX) (as : List Stmt), CtxOk D k c X → StX X W → mSs c s as = true → PSs X as (tS X.kw W (exs (callN D k) s))
  | .nil, c, X, W, as, o, hp, m => by
    unfold mSs at m
    split at m
    · refine pss_nil.of fun Z σ H t => ?_
      obtain ⟨w, e, rfl, ok, er, p⟩ := t
      simp only [exs] at p
      exact p w _ (Ext.refl w) ok rfl er
    · cases m
  | .cons s r, c, X, W, as, o, hp, m => by
    unfold mSs at m
    split at m
    · rw [Bool.and_eq_true] at m
      refine (pss_cons (st_ok s c X W _ o hp m.1) (sts_ok r c X W _ o hp m.2)).of fun Z σ H t => tS_seq (W := W) ?_
      have q : exs (callN D k) (.cons s r) = fun e h => match ex (callN D k) s e h with
          | .next e1 h1 => exs (callN D k) r e1 h1
          | q => q := by
        funext e h
        simp only [exs]
        try rfl
      rw [q] at t
      exact t
    · cases m
end
end
end PL

set_option maxRecDepth 100000
set_option maxHeartbeats 4000000
/-! PL14: every def does what the language says. -/
namespace PL
open PySem PySem.Spec PyProof.Rows L2
section
variable {K : KW}
theorem packs_ok {n : Nat} {h : Hh} : ∀ {vs : List PV} {ms : List Nat} {vs' : List PV} {m : List Nat}, packs n h vs ms = some (vs', m) →
    (∃ t, m = ms ++ t) ∧ (ms.Nodup → m.Nodup) ∧ ((∀ k ∈ ms, n ≤ k) → ∀ k ∈ m, n ≤ k) ∧
    ∀ (w' w'' : Wd) (xs : List V), VRs K w' vs xs → w''.F = w'.F → w''.H = w'.H → (∀ i, i < n → w''.r i = w'.r i) → (∀ j k, m[j]? = some k → w''.r (n + j) = w'.r k) → n + m.length ≤ w''.h.length → VRs K w'' vs' xs
  | [], ms, vs', m, e => by
    unfold packs at e
    cases e
    refine ⟨⟨[], by rw [List.append_nil]⟩, fun h => h, fun h => h, fun w' w'' xs r _ _ _ _ _ => ?_⟩
    cases r
    exact .nil
  | .d x :: r, ms, vs', m, e => by
    unfold packs at e
    split at e
    · rename_i vs1 m1 h1
      cases e
      obtain ⟨a, b, c, d⟩ := packs_ok h1
      refine ⟨a, b, c, fun w' w'' xs q e1 e2 e3 e4 e5 => ?_⟩
      cases q with
      | cons q1 q2 =>
        refine .cons ?_ (d w' w'' _ q2 e1 e2 e3 e4 e5)
        cases q1 with
        | d q1 => exact .d (by rw [e1, e2]; exact q1)
    · cases e
  | .cell k :: r, ms, vs', m, e => by
    unfold packs at e
    split at e
    · rename_i hk
      split at e
      · rename_i vs1 m1 h1
        cases e
        obtain ⟨a, b, c, d⟩ := packs_ok h1
        refine ⟨a, b, c, fun w' w'' xs q e1 e2 e3 e4 e5 => ?_⟩
        cases q with
        | cons q1 q2 =>
          refine .cons ?_ (d w' w'' _ q2 e1 e2 e3 e4 e5)
          cases q1 with
          | cell q0 q1 => exact .cell (by omega) (by rw [q1, e3 k hk])
      · cases e
    · rename_i hk
      split at e
      · cases e
      · rename_i hc
        split at e
        · rename_i vs1 m1 h1
          cases e
          obtain ⟨⟨t, ht⟩, b, c, d⟩ := packs_ok h1
          have nk : k ∉ ms := fun z => hc (List.elem_iff.mpr z)
          refine ⟨⟨k :: t, by rw [ht, List.append_assoc]; rfl⟩, fun nd => b ?_, fun al => c ?_, fun w' w'' xs q e1 e2 e3 e4 e5 => ?_⟩
          · rw [List.nodup_append]
            refine ⟨nd, by simp, fun x hx y hy z => ?_⟩
            rw [List.mem_singleton] at hy
            subst hy
            subst z
            exact nk hx
          · intro x hx
            rcases List.mem_append.mp hx with hx | hx
            · exact al x hx
            · rw [List.mem_singleton] at hx
              omega
          · cases q with
            | cons q1 q2 =>
              refine .cons ?_ (d w' w'' _ q2 e1 e2 e3 e4 e5)
              have at_ : m[ms.length]? = some k := by
                rw [ht, List.getElem?_append_left (by rw [List.length_append, List.length_singleton]; omega), List.getElem?_append_right (Nat.le_refl _), Nat.sub_self]
                rfl
              have hl := (List.getElem?_eq_some_iff.mp at_).1
              cases q1 with
              | cell q0 q1 => exact .cell (by omega) (by rw [q1, e4 _ _ at_])
        · cases e
  | .tc _ :: _, ms, vs', m, e => by
    unfold packs at e
    cases e
  | .kl _ :: _, ms, vs', m, e => by
    unfold packs at e
    cases e
  | .exc d :: r, ms, vs', m, e => by
    unfold packs at e
    split at e
    · rename_i vs1 m1 h1
      cases e
      obtain ⟨a, b, c, d⟩ := packs_ok h1
      refine ⟨a, b, c, fun w' w'' xs q e1 e2 e3 e4 e5 => ?_⟩
      cases q with
      | cons q1 q2 =>
        refine .cons ?_ (d w' w'' _ q2 e1 e2 e3 e4 e5)
        cases q1 with
        | exc q1 q3 q4 => exact .exc (by rw [e1]; exact q1) (by rw [e2]; exact q3) q4
    · cases e
theorem cellsAt_get {h : Hh} : ∀ {ms : List Nat} {cs : List Cl}, cellsAt h ms = some cs → cs.length = ms.length ∧ ∀ (j : Nat) (c : Cl), cs[j]? = some c → ∃ k, ms[j]? = some k ∧ h[k]? = some c
  | [], cs, e => by
    unfold cellsAt at e
    cases e
    exact ⟨rfl, fun j c h => by simp at h⟩
  | k :: r, cs, e => by
    unfold cellsAt at e
    split at e
    · rename_i c cs' h1 h2
      cases e
      obtain ⟨a, b⟩ := cellsAt_get h2
      refine ⟨by rw [List.length_cons, List.length_cons, a], fun j d hj => ?_⟩
      cases j with
      | zero =>
        simp at hj
        subst hj
        exact ⟨k, rfl, h1⟩
      | succ j =>
        rw [List.getElem?_cons_succ] at hj
        obtain ⟨k', e1, e2⟩ := b j d hj
        exact ⟨k', by rw [List.getElem?_cons_succ]; exact e1, e2⟩
    · cases e
/-- the world behind a call -/
def Wd.cut (w' : Wd) (n : Nat) (m : List Nat) (cs : List Cl) : Wd := ⟨w'.F, w'.H, fun i => if i < n then w'.r i else w'.r (m.getD (i - n) 0), w'.h.take n ++ cs, w'.G⟩
theorem cut_at {w' : Wd} {n : Nat} {m : List Nat} {cs : List Cl} (hn : n ≤ w'.h.length) (hc : cellsAt w'.h m = some cs) {i : Nat} {c : Cl} (e : (w'.cut n m cs).h[i]? = some c) :
    (i < n ∧ w'.h[i]? = some c ∧ (w'.cut n m cs).r i = w'.r i) ∨ (∃ k, n ≤ i ∧ m[i - n]? = some k ∧ w'.h[k]? = some c ∧ (w'.cut n m cs).r i = w'.r k) := by
  have hl : (w'.h.take n).length = n := by rw [List.length_take]; omega
  by_cases hi : i < n
  · refine .inl ⟨hi, ?_, if_pos hi⟩
    replace e : (w'.h.take n ++ cs)[i]? = some c := e
    rw [List.getElem?_append_left (by omega), List.getElem?_take_of_lt hi] at e
    exact e
  · replace e : (w'.h.take n ++ cs)[i]? = some c := e
    rw [List.getElem?_append_right (by omega), hl] at e
    obtain ⟨_, b⟩ := cellsAt_get hc
    obtain ⟨k, e1, e2⟩ := b _ _ e
    refine .inr ⟨k, by omega, e1, e2, ?_⟩
    show (if i < n then w'.r i else w'.r (m.getD (i - n) 0)) = w'.r k
    rw [if_neg hi, List.getD_eq_getElem?_getD, e1]
    rfl
theorem cut_ok {w w' : Wd} {n : Nat} {m : List Nat} {cs : List Cl} (x : Ext w w') (ok : Ok K w') (hn : n = w.h.length) (hc : cellsAt w'.h m = some cs) (nd : m.Nodup) (ge : ∀ k ∈ m, n ≤ k) : Ext w (w'.cut n m cs) ∧ Ok K (w'.cut n m cs) := by
  have hn' : n ≤ w'.h.length := by rw [hn]; exact x.len
  have hl : (w'.h.take n).length = n := by rw [List.length_take]; omega
  refine ⟨⟨⟨x.kp, fun i hi => ?_, ?_⟩, x.g, x.gh⟩, ok.live, fun i c e => ?_, fun i j ci cj e1 e2 n1 n2 q => ?_, fun a g => ?_⟩
  · rw [← x.rh i hi]
    exact if_pos (by omega)
  · show w.h.length ≤ (w'.h.take n ++ cs).length
    rw [List.length_append, hl]
    omega
  · rcases cut_at hn' hc e with ⟨_, e1, e2⟩ | ⟨k, _, _, e1, e2⟩
    · rw [e2]
      exact ClOk.keep (w := w') (w' := w'.cut n m cs) (Kp.refl _ _) (fun f => f) (fun _ => rfl) (ok.cel i c e1)
    · rw [e2]
      exact ClOk.keep (w := w') (w' := w'.cut n m cs) (Kp.refl _ _) (fun f => f) (fun _ => rfl) (ok.cel k c e1)
  · rcases cut_at hn' hc e1 with ⟨a1, b1, c1⟩ | ⟨k1, a1, m1, b1, c1⟩
    · rcases cut_at hn' hc e2 with ⟨a2, b2, c2⟩ | ⟨k2, a2, m2, b2, c2⟩
      · rw [c1, c2] at q
        exact ok.inj i j ci cj b1 b2 n1 n2 q
      · rw [c1, c2] at q
        have h1 := ok.inj i k2 ci cj b1 b2 n1 n2 q
        have h2 := ge k2 (List.mem_of_getElem? m2)
        omega
    · rcases cut_at hn' hc e2 with ⟨a2, b2, c2⟩ | ⟨k2, a2, m2, b2, c2⟩
      · rw [c1, c2] at q
        have h1 := ok.inj k1 j ci cj b1 b2 n1 n2 q
        have h2 := ge k1 (List.mem_of_getElem? m1)
        omega
      · rw [c1, c2] at q
        have h1 := ok.inj k1 k2 ci cj b1 b2 n1 n2 q
        subst h1
        have h3 := (List.getElem?_inj (List.getElem?_eq_some_iff.mp m1).1 nd).mp (m1.trans m2.symm)
        omega
  · obtain ⟨g1, g2, g3⟩ := ok.gd a g
    refine ⟨g1, g2, fun i c e nc => ?_⟩
    rcases cut_at hn' hc e with ⟨_, e1, e2⟩ | ⟨k, _, _, e1, e2⟩
    · rw [e2]
      exact g3 i c e1 nc
    · rw [e2]
      exact g3 k c e1 nc
theorem pack_ok {w w' : Wd} {v rv : PV} {x : V} {h' : Hh} (xt : Ext w w') (ok : Ok K w') (r : VR K w' v x) (e : pack w.h.length v w'.h = .ok rv h') : ∃ w'' : Wd, Ext w w'' ∧ Ok K w'' ∧ w''.h = h' ∧ w''.H = w'.H ∧ VR K w'' rv x := by
  have hl : (w'.h.take w.h.length).length = w.h.length := by
    rw [List.length_take]
    have := xt.len
    omega
  have triv := cut_ok (n := w.h.length) (m := []) (cs := []) xt ok rfl rfl .nil (fun _ h => by cases h)
  unfold pack at e
  split at e
  · cases e
    cases r with
    | d r => exact ⟨_, triv.1, triv.2, by show _ ++ [] = _; rw [List.append_nil], rfl, .d r⟩
  · split at e
    · rename_i k hk
      cases e
      cases r with
      | cell q0 q1 =>
        refine ⟨_, triv.1, triv.2, by show _ ++ [] = _; rw [List.append_nil], rfl, .cell ?_ ?_⟩
        · show _ < (w'.h.take w.h.length ++ []).length
          rw [List.append_nil, hl]
          exact hk
        · rw [q1]
          show V.ref _ = V.ref (if k < w.h.length then _ else _)
          rw [if_pos hk]
    · rename_i k hk
      split at e
      · rename_i c hc
        cases e
        have q := cut_ok (n := w.h.length) (m := [k]) (cs := [c]) xt ok rfl (by simp [cellsAt, hc]) (by simp) (fun j h => by rw [List.mem_singleton] at h; omega)
        cases r with
        | cell q0 q1 =>
          refine ⟨_, q.1, q.2, rfl, rfl, .cell ?_ ?_⟩
          · show _ < (w'.h.take w.h.length ++ [c]).length
            rw [List.length_append, hl]
            exact Nat.lt_succ_self _
          · rw [q1]
            show V.ref _ = V.ref (if w.h.length < w.h.length then _ else w'.r ([k].getD (w.h.length - w.h.length) 0))
            rw [if_neg (Nat.lt_irrefl _), Nat.sub_self]
            rfl
      · cases e
  · split at e
    · rename_i vs ms hp
      split at e
      · rename_i cs hc
        cases e
        obtain ⟨_, b, c, d⟩ := packs_ok (K := K) hp
        have nd := b .nil
        have ge := c (fun _ h => by cases h)
        have q := cut_ok (n := w.h.length) (m := ms) (cs := cs) xt ok rfl hc nd ge
        obtain ⟨cl, _⟩ := cellsAt_get hc
        cases r with
        | tc f rd qs =>
          refine ⟨_, q.1, q.2, rfl, rfl, .tc f rd (d w' (w'.cut w.h.length ms cs) _ qs rfl rfl (fun i hi => if_pos hi) (fun j k hj => ?_) ?_)⟩
          · show (if w.h.length + j < w.h.length then _ else w'.r (ms.getD (w.h.length + j - w.h.length) 0)) = _
            rw [if_neg (by omega), Nat.add_sub_cancel_left, List.getD_eq_getElem?_getD, hj]
            rfl
          · show _ ≤ (w'.h.take w.h.length ++ cs).length
            rw [List.length_append, hl, cl]
            exact Nat.le_refl _
      · cases e
    · cases e
  · cases e
  · cases e
    cases r with
    | exc f ea n => exact ⟨_, triv.1, triv.2, by show _ ++ [] = _; rw [List.append_nil], rfl, .exc f ea n⟩
/-- how a body ends -/
theorem finish_ok {w : Wd} {r : Res} {Q : VK} {E : XK} (p : PostO K w (finish w.h.length r) Q E) : PostS K w (fun cls d _ H => E cls d H) { nx := fun _ H' => Q .non H', rt := Q } r := by
  cases r with
  | next e1 h1 =>
    intro w' σ' x ok hh er
    subst hh
    simp only [finish] at p
    cases q : pack w.h.length (.d .none) w'.h with
    | ok rv h2 =>
      rw [q] at p
      obtain ⟨w2, x2, ok2, hh2, hH, r2⟩ := pack_ok x ok (.d .non) q
      have := p w2 .non x2 ok2 hh2 r2
      rw [hH] at this
      exact this
    | exn c h2 =>
      unfold pack at q
      cases q
    | stuck =>
      rw [q] at p
      exact p.elim
  | ret v h1 =>
    intro w' y x ok hh r
    subst hh
    simp only [finish] at p
    cases q : pack w.h.length v w'.h with
    | ok rv h2 =>
      rw [q] at p
      obtain ⟨w2, x2, ok2, hh2, hH, r2⟩ := pack_ok x ok r q
      have := p w2 y x2 ok2 hh2 r2
      rw [hH] at this
      exact this
    | exn c h2 =>
      exfalso
      unfold pack at q
      split at q
      · cases q
      · split at q
        · cases q
        · split at q <;> cases q
      · split at q
        · split at q <;> cases q
        · cases q
      · cases q
      · cases q
    | stuck =>
      rw [q] at p
      exact p.elim
  | brk e1 h1 => exact p.elim
  | cnt e1 h1 => exact p.elim
  | stuck => exact p.elim
  | exn c e1 h1 =>
    intro w' σ' C x ok hh er n
    subst hh
    obtain ⟨x2, ok2⟩ := cut_ok (n := w.h.length) (m := []) (cs := []) x ok rfl rfl .nil (fun _ h => by cases h)
    exact p (w'.cut w.h.length [] []) C x2 ok2 (by show _ ++ [] = _; rw [List.append_nil]) n
theorem er_start {w : Wd} {N : List Str} {ps : List PV} {vs : List V} (r : VRs K w ps vs) : ER K w (startE N ps) (L2.start N vs) := by
  have hl := r.length
  refine ⟨?_, fun i p h => ?_⟩
  · unfold startE L2.start
    rw [List.length_append, List.length_append, List.length_map, List.length_map, List.length_replicate, List.length_replicate, hl]
  · unfold startE at h
    by_cases hi : i < ps.length
    · rw [List.getElem?_append_left (by rw [List.length_map]; exact hi), List.getElem?_map, List.getElem?_eq_getElem hi] at h
      obtain ⟨v, h1, h2⟩ := r.get (List.getElem?_eq_getElem hi)
      cases h
      refine ⟨v, ?_, h2⟩
      unfold L2.start
      rw [List.getElem?_append_left (by rw [List.length_map]; omega), List.getElem?_map, h1]
      rfl
    · rw [List.getElem?_append_right (by rw [List.length_map]; omega), List.getElem?_replicate] at h
      split at h <;> cases h
end
/-! ### a program -/
structure Item where
  nm : String
  st : Stmt
  df : Def
def defsOf (is : List Item) : Defs := is.map fun i => (i.nm, i.df)
def ctxOf (gl fs xs ys : List String) (i : Item) : Ctx := ⟨i.df.N, defScope i.st, fun _ => true, gl, fs, xs, ys, false⟩
/-- the names of a def, looked at -/
def scB (N P : List Str) (sc : Scope) : Bool := decide (sc.kind = .function) && (!sc.isCoroutine && (!sc.isGenerator && (decide N.Nodup && (decide (N.take P.length = P) && (P.all (fun x => decide (sc.names.lookup x = some .local ∨ sc.names.lookup x = some .cell)) && sc.names.all fun y => decide (y.2 ≠ .free))))))
theorem scB_ok {N P : List Str} {sc : Scope} (h : scB N P sc = true) : FnScope N P sc := by
  unfold scB at h
  simp only [Bool.and_eq_true, Bool.not_eq_true', decide_eq_true_eq, List.all_eq_true] at h
  exact ⟨h.1, h.2.1, h.2.2.1, h.2.2.2.1, h.2.2.2.2.1, h.2.2.2.2.2.1, h.2.2.2.2.2.2⟩
def okItem (gl fs xs ys : List String) (i : Item) : Bool := scB i.df.N i.df.ps (defScope i.st) && mSs (ctxOf gl fs xs ys i) i.df.body (defBody i.st)
section
variable {P : Program} {w : World} {K : PySem.W.Frag} {mg : Str → Option Value} {base : Heap}
structure Held (K : PySem.W.Frag) (mg : Str → Option Value) (i : Item) (f : Addr) (fd : FuncData) : Prop where
  fn : Fun K (Str.ofString i.nm) (Str.ofString i.nm) i.st f fd
  mg : mg (Str.ofString i.nm) = some (.ref f)
  bd : Binds K fd i.df.ps []
theorem look_of {is : List Item} (nd : (is.map (·.nm)).Nodup) {i : Item} (h : i ∈ is) : (defsOf is).lookup i.nm = some i.df := by
  unfold defsOf
  induction is with
  | nil => cases h
  | cons j r ih =>
    rw [List.map_cons, List.nodup_cons] at nd
    rw [List.map_cons, List.lookup_cons]
    rcases List.mem_cons.mp h with rfl | h
    · rw [beq_self_eq_true]
    · have ne : i.nm ≠ j.nm := fun z => nd.1 (by rw [← z]; exact List.mem_map_of_mem h)
      have : (i.nm == j.nm) = false := by
        rw [beq_eq_false_iff_ne]
        exact ne
      rw [this]
      exact ih nd.2 h
theorem fn_all {is : List Item} {gl fs xs ys : List String} (nd : (is.map (·.nm)).Nodup) (hg : ∀ x ∈ gl, mg (Str.ofString x) = none) (hx : ExOk K mg xs ys) (ck : is.all (okItem gl fs xs ys) = true) (hf : ∀ f ∈ fs, ∃ i ∈ is, i.nm = f) (held : ∀ i ∈ is, ∃ f fd, Held K mg i f fd) :
    ∀ (k : Nat) (i : Item) (f : Addr) (fd : FuncData), i ∈ is → Held K mg i f fd → FnOk P w K mg base (L2.CX P w) k f fd i.df.ps (spC ⟨K, w⟩ (defsOf is) k i.nm)
  | 0, i, f, fd, hi, hd => by
    have no : ∀ vs H Q E, ¬ spC ⟨K, w⟩ (defsOf is) 0 i.nm vs H Q E := fun vs H Q E h => by
      obtain ⟨df, w, ps, _, _, _, _, _, e⟩ := h
      exact e
    exact ⟨fun vs H Q E h => (no vs H Q E h).elim, fun A outer s H args us vs Q E hr he hb hv hs => (no vs H Q E hs).elim⟩
  | k + 1, i, f, fd, hi, hd => by
    have ci := List.all_eq_true.mp ck i hi
    unfold okItem at ci
    rw [Bool.and_eq_true] at ci
    have sc : FnScope i.df.N i.df.ps (defScope i.st) := scB_ok ci.1
    refine hd.fn.okX sc (fun vs H Q E h => ?_) fun cdv A outer s H vs Q E hr h => ?_
    · obtain ⟨df, w, ps, e, hl, _, _, vr, _⟩ := h
      rw [look_of nd hi] at e
      cases e
      rw [← vr.length, hl]
    · obtain ⟨df, w0, ps, e, hl, rfl, ok, vr, run⟩ := h
      rw [look_of nd hi] at e
      cases e
      have o : CtxOk (defsOf is) k (ctxOf gl fs xs ys i) (cxOf (L2.CX P w) P w K mg base i.df.N (Str.ofString i.nm) (defScope i.st) f cdv A outer s w0.H E) := by
        refine ⟨rfl, rfl, rfl, fun _ => rfl, sc.nd, fun _ => hr, ?_, sc.kind, hg, fun g hgm => ?_, hx⟩
        · have := hr.un
          show (A.deeper _).units + 65 < cLine
          omega
        obtain ⟨j, hj, rfl⟩ := hf g hgm
        obtain ⟨fj, fdj, hdj⟩ := held j hj
        exact ⟨j.df, fj, fdj, look_of nd hj, hdj.mg, hdj.fn.kp, hdj.bd, fn_all nd hg hx ck hf held k j fj fdj hj hdj⟩
      refine ⟨tS ⟨K, w⟩ (fun cls d _ H => E cls d H) (exs (callN (defsOf is) k) i.df.body), sts_ok i.df.body _ _ _ _ o ⟨takes_of rfl rfl rfl rfl, passes_of rfl, rfl, rfl, rfl⟩ ci.2, w0, startE i.df.N ps, rfl, ok, er_start vr, ?_⟩
      unfold callN at run
      rw [look_of nd hi] at run
      simp only [hl, if_true] at run
      exact finish_ok run
end
/-! ### the law -/
def spLaw (K : PySem.W.Frag) : Sp := fun vs H Q _ => ∃ (a : Addr) (ns : List Int), vs = [.ref a] ∧ SqL K H a (ns.map V.int) ∧ ns.length ≤ 63 ∧ Only H ∧ ∀ H', Q (.bl true) H'
theorem ints_rp {K : KW} {F : Addr → Prop} {H : Hp} : ∀ ns : List Int, Rps K F H (ns.map V.int) (ns.map PyData.int)
  | [] => .nil
  | n :: r => .cons (.int n) (ints_rp r)
theorem law_sp {K : KW} {D : Defs} {k : Nat} {f : String} {df : Def} (hf : D.lookup f = some df) (hl : df.ps.length = 1) (good : ∀ ns : List Int, ns.length ≤ 63 → ∃ h', callN D k f [.kl (ns.map .int)] [] = .ok (bln true) h') {vs : List V} {H : Hp} {Q : VK} {E : XK} (h : spLaw K vs H Q E) : spC K D k f vs H Q E := by
  obtain ⟨a, ns, rfl, hS, hlen, hO, q⟩ := h
  obtain ⟨h', e⟩ := good ns hlen
  have hp : ∀ (w' : Wd) (v : V), VR K w' (bln true) v → Q v w'.H := fun w' v r => by
    cases r with
    | d r =>
      cases r
      exact q _
  rcases hS with hS | hS
  · refine ⟨df, ⟨fun b => b = a, H, fun _ => a, [], fun _ => False⟩, [.kl (ns.map .int)], hf, by rw [hl]; rfl, rfl, ⟨fun b hb => ?_, fun n c e => by simp at e, fun n m cn cm e => by simp at e, fun b g => g.elim⟩, .cons (.kl (.inl ⟨rfl, hS⟩) (ints_rp ns)) .nil, by rw [e]; exact fun w' v _ _ _ r => hp w' v r⟩
    subst hb
    rcases hS with hS | ⟨o, hS⟩
    · exact ⟨_, hS⟩
    · exact ⟨_, hS⟩
  · exact ⟨df, ⟨fun _ => False, H, fun _ => a, [], fun _ => False⟩, [.kl (ns.map .int)], hf, by rw [hl]; rfl, rfl, ⟨fun b hb => hb.elim, fun n c e => by simp at e, fun n m cn cm e => by simp at e, fun b g => g.elim⟩, .cons (.kl (.inr hS) (ints_rp ns)) .nil, by rw [e]; exact fun w' v _ _ _ r => hp w' v r⟩
theorem cxF {P : Program} {w : World} {o : List Env} {H : Hp} {s : Shared} {e : Value} {s' : Shared} (h : L2.CX P w o H s (fun _ _ _ => False) e s') : False := by
  obtain ⟨_, _, _, _, _, _, _, _, _, _, _, _, z⟩ := h
  exact z
end PL

set_option maxRecDepth 100000
set_option maxHeartbeats 4000000
/-! PL15: what is wanted behind, for the small language. -/
namespace PL
open PySem

def wp {α : Type} (m : Out α) (Q : α → Hh → Prop) : Prop := match m with
  | .ok a h => Q a h
  | _ => False
section
variable {α β : Type}
@[simp ↓] theorem wp_ok (a : α) (h : Hh) (Q : α → Hh → Prop) : wp (.ok a h) Q = Q a h := rfl
@[simp ↓] theorem wp_stuck (Q : α → Hh → Prop) : wp (.stuck) Q = False := rfl
@[simp ↓] theorem wp_exn (c : String) (h : Hh) (Q : α → Hh → Prop) : wp (.exn c h) Q = False := rfl
@[simp ↓] theorem wp_bind (m : Out α) (f : α → Hh → Out β) (Q : β → Hh → Prop) : wp (m.bind f) Q = wp m fun a h => wp (f a h) Q := by
  cases m <;> rfl
theorem wp_mono {m : Out α} {Q Q' : α → Hh → Prop} (h : wp m Q) (i : ∀ a h, Q a h → Q' a h) : wp m Q' := by
  cases m with
  | ok a h1 => exact i a h1 h
  | exn c h1 => exact h
  | stuck => exact h
theorem wp_get {m : Out α} {Q : α → Hh → Prop} (h : wp m Q) : ∃ a h1, m = .ok a h1 ∧ Q a h1 := by
  cases m with
  | ok a h1 => exact ⟨a, h1, rfl, h⟩
  | exn c h1 => exact h.elim
  | stuck => exact h.elim
end
@[simp ↓] theorem wp_strict {α : Type} (m : Out α) (Q : α → Hh → Prop) : wp (strict m) Q = wp m Q := by
  cases m <;> rfl
structure Zs where
  nx : Ee → Hh → Prop
  rt : PV → Hh → Prop
  bk : Ee → Hh → Prop := fun _ _ => False
  ct : Ee → Hh → Prop := fun _ _ => False
def ws (r : Res) (Z : Zs) : Prop := match r with
  | .next e h => Z.nx e h
  | .ret v h => Z.rt v h
  | .brk e h => Z.bk e h
  | .cnt e h => Z.ct e h
  | _ => False
@[simp ↓] theorem ws_next (e : Ee) (h : Hh) (Z : Zs) : ws (.next e h) Z = Z.nx e h := rfl
@[simp ↓] theorem ws_ret (v : PV) (h : Hh) (Z : Zs) : ws (.ret v h) Z = Z.rt v h := rfl
@[simp ↓] theorem ws_brk (e : Ee) (h : Hh) (Z : Zs) : ws (.brk e h) Z = Z.bk e h := rfl
@[simp ↓] theorem ws_cnt (e : Ee) (h : Hh) (Z : Zs) : ws (.cnt e h) Z = Z.ct e h := rfl
@[simp ↓] theorem ws_exn (c : String) (e : Ee) (h : Hh) (Z : Zs) : ws (.exn c e h) Z = False := rfl
@[simp ↓] theorem ws_stuck (Z : Zs) : ws .stuck Z = False := rfl
@[simp ↓] theorem ws_res {α : Type} (m : Out α) (e : Ee) (f : α → Hh → Res) (Z : Zs) : ws (m.res e f) Z = wp m fun a h => ws (f a h) Z := by
  cases m <;> rfl
def gotV (o : Option (Option PV)) (h : Hh) (Q : PV → Hh → Prop) : Prop := match o with
  | some (some v) => Q v h
  | _ => False
@[simp ↓] theorem gotV_some (v : PV) (h : Hh) (Q : PV → Hh → Prop) : gotV (some (some v)) h Q = Q v h := rfl
theorem ws_mono {r : Res} {Z Z' : Zs} (w : ws r Z) (n : ∀ e h, Z.nx e h → Z'.nx e h) (t : ∀ v h, Z.rt v h → Z'.rt v h) (b : ∀ e h, Z.bk e h → Z'.bk e h) (c : ∀ e h, Z.ct e h → Z'.ct e h) : ws r Z' := by
  cases r with
  | next e h => exact n _ _ w
  | ret v h => exact t _ _ w
  | brk e h => exact b _ _ w
  | cnt e h => exact c _ _ w
  | exn c e h => exact w
  | stuck => exact w
section
variable (Φ : String → List PV → Hh → Out PV)
mutual
theorem evX_ev : ∀ (a : E) (e : Ee) (h : Hh) (Q : PV → Hh → Prop), wp (evX Φ a e h) Q = wp (ev Φ a e h) Q
  | .call f .nil, e, h, Q => by rw [evX_plain rfl]; exact wp_strict _ _
  | .call f (.cons a r), e, h, Q => by
    rw [evX_call]
    simp only [ev, wp_bind]
    exact evsX_evs (.cons a r) e h _
  | .frz a, e, h, Q => by
    simp only [evX, ev, wp_bind]
    exact evX_ev a _ _ _
  | .var _, _, _, _ => by rw [evX_plain rfl]; exact wp_strict _ _
  | .cst _, _, _, _ => by rw [evX_plain rfl]; exact wp_strict _ _
  | .prim _ _, _, _, _ => by rw [evX_plain rfl]; exact wp_strict _ _
  | .and _, _, _, _ => by rw [evX_plain rfl]; exact wp_strict _ _
  | .or _, _, _, _ => by rw [evX_plain rfl]; exact wp_strict _ _
  | .orv _ _, _, _, _ => by rw [evX_plain rfl]; exact wp_strict _ _
  | .not _, _, _, _ => by rw [evX_plain rfl]; exact wp_strict _ _
  | .chain _ _ _ _ _, _, _, _ => by rw [evX_plain rfl]; exact wp_strict _ _
  | .ite _ _ _, _, _, _ => by rw [evX_plain rfl]; exact wp_strict _ _
  | .meth _ _ _, _, _, _ => by rw [evX_plain rfl]; exact wp_strict _ _
  | .comp _ _ _ _ _ _, _, _, _ => by rw [evX_plain rfl]; exact wp_strict _ _
theorem evsX_evs : ∀ (a : Es) (e : Ee) (h : Hh) (Q : List PV → Hh → Prop), wp (evsX Φ a e h) Q = wp (evs Φ a e h) Q
  | .nil, _, _, _ => rfl
  | .cons a r, e, h, Q => by
    simp only [evsX, evs, wp_bind]
    rw [evX_ev a]
    congr
    funext v h1
    rw [evsX_evs r]
end
theorem ws_whl_strict {c : Ee → Hh → Out Bool} {b : Ee → Hh → Res} {Z : Zs} : ∀ (n : Nat) (e : Ee) (h : Hh), ws (whlL (fun e1 h1 => strict (c e1 h1)) b n e h) Z = ws (whlL c b n e h) Z
  | 0, _, _ => rfl
  | n + 1, e, h => by
    unfold whlL
    rw [ws_res, ws_res, wp_strict]
    congr
    funext k h1
    cases k with
    | false => rfl
    | true =>
      dsimp only
      cases b e h1 with
      | next e2 h2 => exact ws_whl_strict n e2 h2
      | cnt e2 h2 => exact ws_whl_strict n e2 h2
      | _ => rfl
@[simp ↓] theorem W_nil (e : Ee) (h : Hh) (Z : Zs) : ws (exs Φ .nil e h) Z = Z.nx e h := by simp only [exs, ws_next]
@[simp ↓] theorem W_cons (s : S) (r : Ss) (e : Ee) (h : Hh) (Z : Zs) : ws (exs Φ (.cons s r) e h) Z = ws (ex Φ s e h) { Z with nx := fun e1 h1 => ws (exs Φ r e1 h1) Z } := by
  simp only [exs]
  cases ex Φ s e h <;> rfl
@[simp ↓] theorem W_expr (a : E) (e : Ee) (h : Hh) (Z : Zs) : ws (ex Φ (.expr a) e h) Z = wp (ev Φ a e h) fun _ h1 => Z.nx e h1 := by simp only [ex, ws_res, ws_next, evX_ev]
@[simp ↓] theorem W_asg (i : Nat) (a : E) (e : Ee) (h : Hh) (Z : Zs) : ws (ex Φ (.asg (.nm i) a) e h) Z = wp (ev Φ a e h) fun v h1 => Z.nx (e.set i (some v)) h1 := by
  simp only [ex, ws_res, setT, ws_next, evX_ev]
def sT (t : Tg) (e : Ee) (v : PV) (N : Ee → Prop) : Prop := match setT t e v with
  | some e1 => N e1
  | none => False
@[simp ↓] theorem W_asgT (ts : List Tg) (a : E) (e : Ee) (h : Hh) (Z : Zs) : ws (ex Φ (.asg (.tup ts) a) e h) Z = wp (ev Φ a e h) fun v h1 => sT (.tup ts) e v fun e1 => Z.nx e1 h1 := by
  simp only [ex, ws_res, evX_ev]
  congr
  funext v h1
  unfold sT
  cases setT (.tup ts) e v <;> rfl
@[simp ↓] theorem W_put (a i x : E) (e : Ee) (h : Hh) (Z : Zs) : ws (ex Φ (.put a i x) e h) Z = wp (ev Φ x e h) fun v h1 => wp (ev Φ a e h1) fun o h2 => wp (ev Φ i e h2) fun k h3 => wp (putM o k v h3) fun _ h4 => Z.nx e h4 := by
  simp only [ex, ws_res, ws_next, wp_strict]
@[simp ↓] theorem W_ite (c : E) (a b : Ss) (e : Ee) (h : Hh) (Z : Zs) : ws (ex Φ (.ite c a b) e h) Z = wp (ev Φ c e h) fun v h1 => wp (asB v h1) fun k h2 => (k = true → ws (exs Φ a e h2) Z) ∧ (k = false → ws (exs Φ b e h2) Z) := by
  simp only [ex, ws_res, wp_strict, wp_bind]
  congr
  funext v h1
  congr
  funext k h2
  cases k <;> simp
theorem W_augX (i : Nat) (p : Prim) (a : E) (e : Ee) (h : Hh) (Z : Zs) {x : PV} (hx : e[i]? = some (some x)) : ws (ex Φ (.aug i p a) e h) Z = wp (ev Φ a e h) fun y h1 => wp (augM p x y h1) fun z h2 => Z.nx (e.set i (some z)) h2 := by
  simp only [ex, hx, ws_res, ws_next, wp_strict]
@[simp ↓] theorem W_aug (i : Nat) (p : Prim) (a : E) (e : Ee) (h : Hh) (Z : Zs) : ws (ex Φ (.aug i p a) e h) Z = gotV e[i]? h fun x _ => wp (ev Φ a e h) fun y h1 => wp (augM p x y h1) fun z h2 => Z.nx (e.set i (some z)) h2 := by
  simp only [ex]
  rcases e[i]? with _ | _ | v <;> simp [gotV]
@[simp ↓] theorem W_ret (a : E) (e : Ee) (h : Hh) (Z : Zs) : ws (ex Φ (.ret a) e h) Z = wp (ev Φ a e h) fun v h1 => Z.rt v h1 := by simp only [ex, ws_res, ws_ret, evX_ev]
@[simp ↓] theorem W_ret0 (e : Ee) (h : Hh) (Z : Zs) : ws (ex Φ .ret0 e h) Z = Z.rt (.d .none) h := by simp only [ex, ws_ret]
@[simp ↓] theorem W_raise (c : String) (e : Ee) (h : Hh) (Z : Zs) : ws (ex Φ (.raise c) e h) Z = False := by simp only [ex, ws_exn]
@[simp ↓] theorem W_pass (e : Ee) (h : Hh) (Z : Zs) : ws (ex Φ .pass e h) Z = Z.nx e h := by simp only [ex, ws_next]
@[simp ↓] theorem W_brk (e : Ee) (h : Hh) (Z : Zs) : ws (ex Φ .brk e h) Z = Z.bk e h := by simp only [ex, ws_brk]
@[simp ↓] theorem W_cnt (e : Ee) (h : Hh) (Z : Zs) : ws (ex Φ .cnt e h) Z = Z.ct e h := by simp only [ex, ws_cnt]
@[simp ↓] theorem W_for (t : Tg) (it : It) (b : Ss) (e : Ee) (h : Hh) (Z : Zs) : ws (ex Φ (.for_ t it b) e h) Z = wp (evIt Φ it e h) fun s h1 => ws (forS t (fun e1 h2 => exs Φ b e1 h2) s e h1) Z := by simp only [ex, ws_res, wp_strict]
@[simp ↓] theorem W_forS (t : Tg) (b : Ee → Hh → Res) (vs : List PV) (e : Ee) (h : Hh) : forS t b (.items vs) e h = forL t b vs e h := rfl
@[simp ↓] theorem W_forSC (t : Tg) (b : Ee → Hh → Res) (n : Nat) (e : Ee) (h : Hh) : forS t b (.cell n) e h = forC t b n (line + 1) 0 e h := rfl
@[simp ↓] theorem W_whl (n : Nat) (c : E) (b : Ss) (e : Ee) (h : Hh) (Z : Zs) : ws (ex Φ (.whl n c b) e h) Z = ws (whlL (fun e1 h1 => (ev Φ c e1 h1).bind asB) (fun e1 h1 => exs Φ b e1 h1) n e h) Z := by
  simp only [ex]
  exact ws_whl_strict n e h
/-- a for loop, by what is left of its items -/
theorem for_rule {t : Tg} {body : Ee → Hh → Res} {Z : Zs} (I : List PV → Ee → Hh → Prop) (hs : ∀ v r e h, I (v :: r) e h → sT t e v fun e1 => ws (body e1 h) { nx := I r, rt := Z.rt, bk := Z.nx, ct := I r }) (hd : ∀ e h, I [] e h → Z.nx e h) :
    ∀ (vs : List PV) (e : Ee) (h : Hh), I vs e h → ws (forL t body vs e h) Z
  | [], e, h, i => by
    unfold forL
    exact hd e h i
  | v :: r, e, h, i => by
    have q := hs v r e h i
    unfold forL
    unfold sT at q
    split at q
    · rename_i e1 he
      rw [he]
      revert q
      cases hb : body e1 h with
      | next e2 h2 => exact fun q => by simp only [hb]; exact for_rule I hs hd r e2 h2 q
      | cnt e2 h2 => exact fun q => by simp only [hb]; exact for_rule I hs hd r e2 h2 q
      | brk e2 h2 => exact fun q => by simp only [hb]; exact q
      | ret v2 h2 => exact fun q => by simp only [hb]; exact q
      | exn c e2 h2 => exact fun q => q.elim
      | stuck => exact fun q => q.elim
    · exact q.elim
/-- a while loop, by a measure -/
theorem whl_rule {c : Ee → Hh → Out Bool} {body : Ee → Hh → Res} {Z : Zs} (I : Nat → Ee → Hh → Prop)
    (hs : ∀ m e h, I m e h → wp (c e h) fun k h1 => (k = true → ws (body e h1) { nx := fun e2 h2 => ∃ j, j < m ∧ I j e2 h2, rt := Z.rt, bk := Z.nx, ct := fun e2 h2 => ∃ j, j < m ∧ I j e2 h2 }) ∧ (k = false → Z.nx e h1)) :
    ∀ (n m : Nat) (e : Ee) (h : Hh), m < n → I m e h → ws (whlL c body n e h) Z
  | 0, m, e, h, hm, i => by omega
  | n + 1, m, e, h, hm, i => by
    have q := hs m e h i
    unfold whlL
    rw [ws_res]
    refine wp_mono q fun k h1 ⟨q1, q2⟩ => ?_
    cases k with
    | false => exact q2 rfl
    | true =>
      have q := q1 rfl
      revert q
      cases hb : body e h1 with
      | next e2 h2 => exact fun ⟨j, hj, q⟩ => whl_rule I hs n j e2 h2 (by omega) q
      | cnt e2 h2 => exact fun ⟨j, hj, q⟩ => whl_rule I hs n j e2 h2 (by omega) q
      | brk e2 h2 => exact fun q => q
      | ret v2 h2 => exact fun q => q
      | exn c e2 h2 => exact fun q => q.elim
      | stuck => exact fun q => q.elim
/-- a comprehension, by what is left and what is made -/
theorem comp_rule {t : Tg} {cond : Ee → Hh → Out Bool} {elt : Ee → Hh → Out PV} {e : Ee} {Q : List PyData → Hh → Prop} (I : List PV → List PyData → Hh → Prop)
    (hs : ∀ v r acc h, I (v :: r) acc h → sT t e v fun e1 => wp (cond e1 h) fun b h1 => (b = true → wp (elt e1 h1) fun y h2 => ∃ x, y = .d x ∧ I r (acc ++ [x]) h2) ∧ (b = false → I r acc h1)) (hd : ∀ acc h, I [] acc h → Q acc h) :
    ∀ (vs : List PV) (acc : List PyData) (h : Hh), I vs acc h → wp (compL t cond elt e vs h) fun ds h1 => Q (acc ++ ds) h1
  | [], acc, h, i => by
    unfold compL
    rw [wp_ok, List.append_nil]
    exact hd acc h i
  | v :: r, acc, h, i => by
    have q := hs v r acc h i
    unfold compL
    unfold sT at q
    split at q
    · rename_i e1 he
      rw [he]
      show wp ((cond e1 h).bind _) _
      rw [wp_bind]
      refine wp_mono q fun b h1 ⟨q1, q2⟩ => ?_
      cases b with
      | false => exact comp_rule I hs hd r acc h1 (q2 rfl)
      | true =>
        show wp ((elt e1 h1).bind _) _
        rw [wp_bind]
        refine wp_mono (q1 rfl) fun y h2 ⟨x, ey, ix⟩ => ?_
        subst ey
        show wp ((compL t cond elt e r h2).bind _) _
        rw [wp_bind]
        refine wp_mono (comp_rule I hs hd r (acc ++ [x]) h2 ix) fun ds h3 q3 => ?_
        rw [wp_ok]
        rw [List.append_assoc] at q3
        exact q3
    · exact q.elim
/-! expressions -/
@[simp ↓] theorem V_var (i : Nat) (e : Ee) (h : Hh) (Q : PV → Hh → Prop) : wp (ev Φ (.var i) e h) Q = gotV e[i]? h Q := by
  simp only [ev]
  rcases e[i]? with _ | _ | v <;> simp [gotV]
@[simp ↓] theorem V_cst (x : PyData) (e : Ee) (h : Hh) (Q : PV → Hh → Prop) : wp (ev Φ (.cst x) e h) Q = Q (.d x) h := by simp only [ev, wp_ok]
@[simp ↓] theorem V_prim (p : Prim) (es : Es) (e : Ee) (h : Hh) (Q : PV → Hh → Prop) : wp (ev Φ (.prim p es) e h) Q = wp (evs Φ es e h) fun vs h1 => wp (primM p vs h1) Q := by simp only [ev, wp_bind]
@[simp ↓] theorem V_nil (e : Ee) (h : Hh) (Q : List PV → Hh → Prop) : wp (evs Φ .nil e h) Q = Q [] h := by simp only [evs, wp_ok]
@[simp ↓] theorem V_cons (a : E) (r : Es) (e : Ee) (h : Hh) (Q : List PV → Hh → Prop) : wp (evs Φ (.cons a r) e h) Q = wp (ev Φ a e h) fun v h1 => wp (evs Φ r e h1) fun vs h2 => Q (v :: vs) h2 := by
  simp only [evs, wp_bind, wp_ok]
@[simp ↓] theorem V_and1 (a : E) (e : Ee) (h : Hh) (Q : PV → Hh → Prop) : wp (evAnd Φ (.cons a .nil) e h) Q = wp (ev Φ a e h) fun v h1 => wp (asB v h1) fun k h2 => Q (bln k) h2 := by
  simp only [evAnd, wp_bind]
  congr
  funext v h1
  congr
  funext k h2
  cases k <;> rfl
@[simp ↓] theorem V_and2 (a b : E) (r : Es) (e : Ee) (h : Hh) (Q : PV → Hh → Prop) : wp (evAnd Φ (.cons a (.cons b r)) e h) Q = wp (ev Φ a e h) fun v h1 => wp (asB v h1) fun k h2 => (k = true → wp (evAnd Φ (.cons b r) e h2) Q) ∧ (k = false → Q (bln false) h2) := by
  rw [evAnd]
  simp only [wp_bind]
  congr
  funext v h1
  congr
  funext k h2
  cases k <;> simp
@[simp ↓] theorem V_or1 (a : E) (e : Ee) (h : Hh) (Q : PV → Hh → Prop) : wp (evOr Φ (.cons a .nil) e h) Q = wp (ev Φ a e h) fun v h1 => wp (asB v h1) fun k h2 => Q (bln k) h2 := by
  simp only [evOr, wp_bind]
  congr
  funext v h1
  congr
  funext k h2
  cases k <;> rfl
@[simp ↓] theorem V_or2 (a b : E) (r : Es) (e : Ee) (h : Hh) (Q : PV → Hh → Prop) : wp (evOr Φ (.cons a (.cons b r)) e h) Q = wp (ev Φ a e h) fun v h1 => wp (asB v h1) fun k h2 => (k = true → Q (bln true) h2) ∧ (k = false → wp (evOr Φ (.cons b r) e h2) Q) := by
  rw [evOr]
  simp only [wp_bind]
  congr
  funext v h1
  congr
  funext k h2
  cases k <;> simp
@[simp ↓] theorem V_and (es : Es) (e : Ee) (h : Hh) (Q : PV → Hh → Prop) : wp (ev Φ (.and es) e h) Q = wp (evAnd Φ es e h) Q := by simp only [ev]
@[simp ↓] theorem V_or (es : Es) (e : Ee) (h : Hh) (Q : PV → Hh → Prop) : wp (ev Φ (.or es) e h) Q = wp (evOr Φ es e h) Q := by simp only [ev]
@[simp ↓] theorem V_orv (a b : E) (e : Ee) (h : Hh) (Q : PV → Hh → Prop) : wp (ev Φ (.orv a b) e h) Q = wp (ev Φ a e h) fun v h1 => (truL v h1 = some true ∧ Q v h1) ∨ (truL v h1 = some false ∧ wp (ev Φ b e h1) fun u h2 => isLst u h2 = true ∧ Q u h2) := by
  rw [ev, wp_bind]
  congr
  funext v h1
  rcases truL v h1 with _ | (_ | _)
  · simp
  · simp only [wp_bind]
    have : (fun (u : PV) (h2 : Hh) => wp (if isLst u h2 then Out.ok u h2 else Out.stuck) Q) = fun u h2 => isLst u h2 = true ∧ Q u h2 := by
      funext u h2
      cases isLst u h2 <;> simp
    rw [this]
    simp
  · simp
@[simp ↓] theorem V_not (a : E) (e : Ee) (h : Hh) (Q : PV → Hh → Prop) : wp (ev Φ (.not a) e h) Q = wp (ev Φ a e h) fun v h1 => wp (asB v h1) fun k h2 => Q (bln (!k)) h2 := by simp only [ev, wp_bind, wp_ok]
@[simp ↓] theorem V_chain (p q : Prim) (a b c : E) (e : Ee) (h : Hh) (Q : PV → Hh → Prop) : wp (ev Φ (.chain p q a b c) e h) Q = wp (ev Φ a e h) fun x h1 => wp (ev Φ b e h1) fun y h2 => wp (primM p [x, y] h2) fun v h3 => wp (asB v h3) fun k h4 =>
      (k = true → wp (ev Φ c e h4) fun z h5 => wp (primM q [y, z] h5) Q) ∧ (k = false → Q (bln false) h4) := by
  rw [ev]
  simp only [wp_bind]
  congr
  funext x h1
  congr
  funext y h2
  congr
  funext v h3
  congr
  funext k h4
  cases k <;> simp
@[simp ↓] theorem V_ite (c a b : E) (e : Ee) (h : Hh) (Q : PV → Hh → Prop) : wp (ev Φ (.ite c a b) e h) Q = wp (ev Φ c e h) fun v h1 => wp (asB v h1) fun k h2 => (k = true → wp (ev Φ a e h2) Q) ∧ (k = false → wp (ev Φ b e h2) Q) := by
  rw [ev]
  simp only [wp_bind]
  congr
  funext v h1
  congr
  funext k h2
  cases k <;> simp
@[simp ↓] theorem V_call (f : String) (es : Es) (e : Ee) (h : Hh) (Q : PV → Hh → Prop) : wp (ev Φ (.call f es) e h) Q = wp (evs Φ es e h) fun vs h1 => wp (Φ f vs h1) Q := by simp only [ev, wp_bind]
@[simp ↓] theorem V_meth (p : Prim) (o : E) (es : Es) (e : Ee) (h : Hh) (Q : PV → Hh → Prop) : wp (ev Φ (.meth p o es) e h) Q = wp (ev Φ o e h) fun x h1 => kindOk (mTy p) x h1 = true ∧ wp (evs Φ es e h1) fun vs h2 => wp (primM p (x :: vs) h2) Q := by
  rw [ev]
  simp only [wp_bind]
  congr
  funext x h1
  cases kindOk (mTy p) x h1 <;> simp
@[simp ↓] theorem V_comp (c : Bool) (own : List Nat) (t : Tg) (it : It) (cond : Es) (elt : E) (e : Ee) (h : Hh) (Q : PV → Hh → Prop) : wp (ev Φ (.comp c own t it cond elt) e h) Q =
    wp (evIt Φ it e h) fun s h1 => wp (compS t (fun e1 h2 => evConds Φ cond e1 h2) (fun e1 h2 => ev Φ elt e1 h2) (wipeE e own) s h1) fun ds h2 => wp (mkL c ds h2) Q := by
  simp only [ev, wp_bind]
@[simp ↓] theorem V_compS (t : Tg) (cond : Ee → Hh → Out Bool) (elt : Ee → Hh → Out PV) (e : Ee) (vs : List PV) (h : Hh) : compS t cond elt e (.items vs) h = compL t cond elt e vs h := rfl
@[simp ↓] theorem V_compSC (t : Tg) (cond : Ee → Hh → Out Bool) (elt : Ee → Hh → Out PV) (e : Ee) (n : Nat) (h : Hh) : compS t cond elt e (.cell n) h = compC t cond elt e n (line + 1) 0 h := rfl
@[simp ↓] theorem V_frz (a : E) (e : Ee) (h : Hh) (Q : PV → Hh → Prop) : wp (ev Φ (.frz a) e h) Q = wp (ev Φ a e h) fun v h1 => wp (frzM v h1) Q := by simp only [ev, wp_bind]
@[simp ↓] theorem V_c0 (e : Ee) (h : Hh) (Q : Bool → Hh → Prop) : wp (evConds Φ .nil e h) Q = Q true h := by simp only [evConds, wp_ok]
@[simp ↓] theorem V_c1 (a : E) (r : Es) (e : Ee) (h : Hh) (Q : Bool → Hh → Prop) : wp (evConds Φ (.cons a r) e h) Q = wp (ev Φ a e h) fun v h1 => wp (asB v h1) Q := by simp only [evConds, wp_bind]
@[simp ↓] theorem V_seq (a : E) (e : Ee) (h : Hh) (Q : Itm → Hh → Prop) : wp (evIt Φ (.seq a) e h) Q = wp (ev Φ a e h) fun v h1 => wp (seqS v h1) Q := by simp only [evIt, wp_bind]
@[simp ↓] theorem V_rng1 (a : E) (e : Ee) (h : Hh) (Q : Itm → Hh → Prop) : wp (evIt Φ (.rng1 a) e h) Q = wp (ev Φ a e h) fun v h1 => wp (rng1M v h1) fun vs h2 => Q (.items vs) h2 := by simp only [evIt, wp_bind, wp_ok]
@[simp ↓] theorem V_rng2 (a b : E) (e : Ee) (h : Hh) (Q : Itm → Hh → Prop) : wp (evIt Φ (.rng2 a b) e h) Q = wp (ev Φ a e h) fun v h1 => wp (ev Φ b e h1) fun u h2 => wp (rng2M v u h2) fun vs h3 => Q (.items vs) h3 := by simp only [evIt, wp_bind, wp_ok]
@[simp ↓] theorem V_zip (a b : E) (e : Ee) (h : Hh) (Q : Itm → Hh → Prop) : wp (evIt Φ (.zip a b) e h) Q = wp (ev Φ a e h) fun v h1 => wp (ev Φ b e h1) fun u h2 => wp (zipM v u h2) fun vs h3 => Q (.items vs) h3 := by simp only [evIt, wp_bind, wp_ok]
@[simp ↓] theorem V_enum (a : E) (e : Ee) (h : Hh) (Q : Itm → Hh → Prop) : wp (evIt Φ (.enum a) e h) Q = wp (ev Φ a e h) fun v h1 => wp (enumM v h1) fun vs h2 => Q (.items vs) h2 := by simp only [evIt, wp_bind, wp_ok]
end
@[simp ↓] theorem asB_b (b : Bool) (h : Hh) : asB (bln b) h = .ok b h := rfl
@[simp ↓] theorem asB_d (b : Bool) (h : Hh) : asB (.d (.bool b)) h = .ok b h := rfl
/-! the prims, at values of a shape -/
section
variable (h : Hh)
def idxC (o : Option Cl) (i : PyData) (h : Hh) : Out PV := match o with
  | some (.lst ds) => idxD (.list ds) i h
  | some (.dct kvs) => idxD (.dict kvs) i h
  | some (.dcn kvs) => (match keyN i with
    | some k => pick (nget kvs k) h
    | none => .stuck)
  | _ => .stuck
theorem P_idxC_dcn {kvs : List (NK × PyData)} {i : PyData} {k : NK} (e : keyN i = some k) : idxC (some (.dcn kvs)) i h = pick (nget kvs k) h := by
  unfold idxC
  simp only [e]
@[simp] theorem P_idx_cell (n : Nat) (i : PyData) : idxM (.cell n) (.d i) h = idxC h[n]? i h := by
  unfold idxM idxC
  rfl
@[simp] theorem P_idxC_lst (ds : List PyData) (k : Int) : idxC (some (.lst ds)) (.int k) h = pick (ati ds k) h := rfl
@[simp] theorem P_idxC_dct (kvs : List (PyData × PyData)) (i : PyData) : idxC (some (.dct kvs)) i h = if isKey i then pick (dget kvs i) h else .stuck := by
  unfold idxC idxD
  rfl
@[simp] theorem P_idx_tc (ps : List PV) (k : Int) : idxM (.tc ps) (.d (.int k)) h = (match ati ps k with
    | some v => .ok v h
    | none => .stuck) := rfl
@[simp] theorem P_idx_kl (ds : List PyData) (k : Int) : idxM (.kl ds) (.d (.int k)) h = pick (ati ds k) h := rfl
@[simp] theorem P_idx_lst (ds : List PyData) (k : Int) : idxM (.d (.list ds)) (.d (.int k)) h = pick (ati ds k) h := rfl
@[simp] theorem P_idx_tup (ds : List PyData) (k : Int) : idxM (.d (.tuple ds)) (.d (.int k)) h = pick (ati ds k) h := rfl
@[simp] theorem P_idx_dct (kvs : List (PyData × PyData)) (k : PyData) : idxM (.d (.dict kvs)) (.d k) h = if isKey k then pick (dget kvs k) h else .stuck := by
  unfold idxM idxD
  rfl
@[simp] theorem P_pick (x : PyData) : pick (some x) h = .ok (.d x) h := rfl
@[simp] theorem P_add (c : Bool) (i j : Int) : addM c (.d (.int i)) (.d (.int j)) h = .ok (.d (.int (i + j))) h := by
  unfold addM
  simp only [vw, int]
@[simp] theorem P_addK (c : Bool) (i j : List PyData) : addM c (.kl i) (.d (.list j)) h = if i.length + j.length ≤ line then mkL c (i ++ j) h else .stuck := by
  unfold addM
  simp only [vw]
@[simp] theorem P_addS (c : Bool) (i j : Str) : addM c (.d (.str i)) (.d (.str j)) h = if i.length + j.length ≤ line then .ok (.d (.str (i ++ j))) h else .stuck := by
  unfold addM
  simp only [vw]
@[simp] theorem P_addL (c : Bool) (i j : List PyData) : addM c (.d (.list i)) (.d (.list j)) h = if i.length + j.length ≤ line then mkL c (i ++ j) h else .stuck := by
  unfold addM
  simp only [vw]
@[simp] theorem P_sub (i j : Int) : subM (.d (.int i)) (.d (.int j)) h = .ok (.d (.int (i - j))) h := rfl
@[simp] theorem P_mul (i j : Int) : mulM (.d (.int i)) (.d (.int j)) h = if bits i + bits j < 1000000 then .ok (.d (.int (i * j))) h else .stuck := rfl
@[simp] theorem P_mulL (ds : List PyData) (j : Int) : mulM (.d (.list ds)) (.d (.int j)) h = if 0 ≤ j ∧ j < 1000000 ∧ ds.length * j.toNat ≤ line then .ok (.d (.list (List.replicate j.toNat ds).flatten)) h else .stuck := rfl
@[simp] theorem P_mod (i j : Int) : modM (.d (.int i)) (.d (.int j)) h = if 0 < j then .ok (.d (.int (i % j))) h else .stuck := rfl
@[simp] theorem P_fdiv (i j : Int) : fdivM (.d (.int i)) (.d (.int j)) h = if 0 < j ∧ bits j < 9000 then .ok (.d (.int (i / j))) h else .stuck := rfl
@[simp] theorem P_pow (i j : Int) : powM (.d (.int i)) (.d (.int j)) h = if 0 ≤ j ∧ j ≤ 1000000 ∧ i.natAbs < 2 ^ 64 then .ok (.d (.int (i ^ j.toNat))) h else .stuck := rfl
@[simp] theorem P_neg (i : Int) : negM (.d (.int i)) h = .ok (.d (.int (-i))) h := rfl
@[simp] theorem P_cmp (p : Int → Int → Bool) (i j : Int) : cmpM p (.d (.int i)) (.d (.int j)) h = .ok (.d (.bool (p i j))) h := rfl
def eqV (neg : Bool) (x y : Option PyData) (h : Hh) : Out PV := match x, y with
  | some a, some b => if ok2 a b then .ok (bln (if neg then !PyData.eqv a b else PyData.eqv a b)) h else .stuck
  | _, _ => .stuck
@[simp] theorem P_eq (neg : Bool) (x y : PV) : eqM neg x y h = eqV neg (vw h x) (vw h y) h := by
  unfold eqM eqV
  rfl
@[simp] theorem P_eqV (neg : Bool) (a b : PyData) : eqV neg (some a) (some b) h = if ok2 a b then .ok (.d (.bool (if neg then !PyData.eqv a b else PyData.eqv a b))) h else .stuck := rfl
@[simp] theorem P_vw_d (x : PyData) : vw h (.d x) = some x := by simp only [vw]
def vwC (o : Option Cl) : Option PyData := match o with
  | some (.lst ds) => some (.list ds)
  | some (.dct kvs) => some (.dict kvs)
  | _ => none
@[simp] theorem P_vw_cell (n : Nat) : vw h (.cell n) = vwC h[n]? := by
  rw [vw]
  unfold vwC
  rfl
@[simp] theorem P_vwC_lst (ds : List PyData) : vwC (some (.lst ds)) = some (.list ds) := rfl
@[simp] theorem P_vwC_dct (ds : List (PyData × PyData)) : vwC (some (.dct ds)) = some (.dict ds) := rfl
def inC (neg : Bool) (a : PyData) (o : Option Cl) (h : Hh) : Out PV := match o with
  | some (.dcn kvs) => (match keyN a with
    | some k => .ok (.d (.bool (if neg then !(nget kvs k).isSome else (nget kvs k).isSome))) h
    | none => .stuck)
  | _ => .stuck
theorem P_in_dcn {neg : Bool} {a : PyData} {n : Nat} {kvs : List (NK × PyData)} {k : NK} (e : h[n]? = some (.dcn kvs)) (ek : keyN a = some k) : inM neg (.d a) (.cell n) h = .ok (.d (.bool (if neg then !(nget kvs k).isSome else (nget kvs k).isSome))) h := by
  unfold inM
  simp only [vw, e, ek]
  try rfl
@[simp] theorem P_in_d (neg : Bool) (a b : PyData) : inM neg (.d a) (.d b) h = (match inD a b with
    | some k => .ok (.d (.bool (if neg then !k else k))) h
    | none => .stuck) := by
  unfold inM
  simp only [vw, bln]
  try rfl
def lenV (o : Option PyData) (h : Hh) : Out PV := match o with
    | some (.str s) => if s.length ≤ line then .ok (.d (.int s.length)) h else .stuck
    | some (.list ds) => .ok (.d (.int ds.length)) h
    | some (.tuple ds) => .ok (.d (.int ds.length)) h
    | some (.dict kvs) => .ok (.d (.int kvs.length)) h
    | _ => .stuck
@[simp] theorem P_len_kl (ds : List PyData) : lenM (.kl ds) h = .ok (.d (.int ds.length)) h := rfl
@[simp] theorem P_len_d (x : PyData) : lenM (.d x) h = lenV (some x) h := by
  unfold lenM lenV
  simp only [vw, int]
  cases x <;> rfl
def lenC (o : Option Cl) (h : Hh) : Out PV := match o with
  | some (.lst ds) => .ok (.d (.int ds.length)) h
  | some (.dct kvs) => .ok (.d (.int kvs.length)) h
  | some (.dcn kvs) => if kvs.length ≤ line then .ok (.d (.int kvs.length)) h else .stuck
  | _ => .stuck
@[simp] theorem P_len_cell (n : Nat) : lenM (.cell n) h = lenC h[n]? h := by
  unfold lenM lenC
  simp only [P_vw_cell, int]
  rcases h[n]? with _ | (_ | _ | _ | _) <;> rfl
@[simp] theorem P_lenC_lst (ds : List PyData) : lenC (some (.lst ds)) h = .ok (.d (.int ds.length)) h := rfl
@[simp] theorem P_lenC_dct (ds : List (PyData × PyData)) : lenC (some (.dct ds)) h = .ok (.d (.int ds.length)) h := rfl
@[simp] theorem P_lenC_dcn (ds : List (NK × PyData)) : lenC (some (.dcn ds)) h = if ds.length ≤ line then .ok (.d (.int ds.length)) h else .stuck := rfl
@[simp] theorem P_len_lst (ds : List PyData) : lenV (some (.list ds)) h = .ok (.d (.int ds.length)) h := rfl
@[simp] theorem P_len_tup (ds : List PyData) : lenV (some (.tuple ds)) h = .ok (.d (.int ds.length)) h := rfl
@[simp] theorem P_len_dct (ds : List (PyData × PyData)) : lenV (some (.dict ds)) h = .ok (.d (.int ds.length)) h := rfl
@[simp] theorem P_listOf_l (c : Bool) (ds : List PyData) : listOfM c (.d (.list ds)) h = mkL c ds h := rfl
@[simp] theorem P_listOf_t (c : Bool) (ds : List PyData) : listOfM c (.d (.tuple ds)) h = mkL c ds h := rfl
@[simp] theorem P_tupOf_l (ds : List PyData) : tupOfM (.d (.list ds)) h = .ok (.d (.tuple ds)) h := rfl
@[simp] theorem P_tupOf_t (ds : List PyData) : tupOfM (.d (.tuple ds)) h = .ok (.d (.tuple ds)) h := rfl
@[simp] theorem P_int_i (i : Int) : intM (.d (.int i)) h = .ok (.d (.int i)) h := rfl
@[simp] theorem P_int_b (b : Bool) : intM (.d (.bool b)) h = .ok (.d (.int (if b then 1 else 0))) h := rfl
@[simp] theorem P_lstRng (c : Bool) (b : Int) : lstRngM c (.d (.int b)) h = if b ≤ line ∧ -line ≤ b then mkL c ((List.range b.toNat).map fun (i : Nat) => PyData.int i) h else .stuck := rfl
@[simp] theorem P_rev (c : Bool) (ds : List PyData) : revM c (.d (.list ds)) h = mkL c ds.reverse h := rfl
@[simp] theorem P_all (ds : List PyData) : allM (.d (.list ds)) h = (match boolsD ds with
    | some bs => .ok (bln (bs.all id)) h
    | none => .stuck) := rfl
@[simp] theorem P_min2 (i j : Int) : min2M (.d (.int i)) (.d (.int j)) h = .ok (.d (.int (if j < i then j else i))) h := rfl
@[simp] theorem P_max2 (i j : Int) : max2M (.d (.int i)) (.d (.int j)) h = .ok (.d (.int (if j > i then j else i))) h := rfl
@[simp] theorem P_abs (i : Int) : absM (.d (.int i)) h = .ok (.d (.int (if i < 0 then -i else i))) h := rfl
@[simp] theorem P_isBl (neg a b : Bool) : isBlM neg (.d (.bool a)) (.d (.bool b)) h = .ok (.d (.bool (if neg then !decide (a = b) else decide (a = b)))) h := rfl
theorem P_index {ds : List PyData} {d : PyData} (ho : ok2 (.list ds) d = true) {j : Nat} (hj : ds.findIdx? (fun z => PyData.eqv z d) = some j) (h : Hh) : indexM (.d (.list ds)) (.d d) h = .ok (.d (.int j)) h := by
  unfold indexM
  simp only [vw, ho, if_true, hj]
  rfl
@[simp] theorem P_isTy (t : String) (x : PyData) : isTyM t (.d x) h = .ok (.d (.bool (isTyD t x))) h := rfl
@[simp] theorem P_pures_nil : pures [] = some [] := rfl
def consO (x : PyData) (o : Option (List PyData)) : Option (List PyData) := match o with
  | some xs => some (x :: xs)
  | none => none
@[simp] theorem P_pures_cons (x : PyData) (r : List PV) : pures (.d x :: r) = consO x (pures r) := by
  rw [pures]
  unfold consO
  rfl
@[simp] theorem P_consO (x : PyData) (xs : List PyData) : consO x (some xs) = some (x :: xs) := rfl
def tupO (o : Option (List PyData)) (vs : List PV) (h : Hh) : Out PV := match o with
  | some ds => if ds.length ≤ line then .ok (.d (.tuple ds)) h else .stuck
  | none => if vs.length ≤ line then .ok (.tc vs) h else .stuck
@[simp] theorem P_tup (vs : List PV) : tupM vs h = tupO (pures vs) vs h := by
  unfold tupM tupO
  rfl
@[simp] theorem P_tupO (ds : List PyData) (vs : List PV) : tupO (some ds) vs h = if ds.length ≤ line then .ok (.d (.tuple ds)) h else .stuck := rfl
def lstO (c : Bool) (o : Option (List PyData)) (h : Hh) : Out PV := match o with
  | some ds => mkL c ds h
  | none => .stuck
@[simp] theorem P_lst (c : Bool) (vs : List PV) : lstM c vs h = lstO c (pures vs) h := by
  unfold lstM lstO
  rfl
@[simp] theorem P_lstO (c : Bool) (ds : List PyData) : lstO c (some ds) h = mkL c ds h := rfl
@[simp] theorem P_mkL_t (ds : List PyData) : mkL true ds h = if ds.length ≤ line then .ok (.cell h.length) (h ++ [.lst ds]) else .stuck := by
  unfold mkL
  simp
@[simp] theorem P_mkL_f (ds : List PyData) : mkL false ds h = if ds.length ≤ line then .ok (.d (.list ds)) h else .stuck := by
  unfold mkL
  simp
def putC (o : Option Cl) (n : Nat) (i x : PyData) (h : Hh) : Out Unit := match o with
    | some (.lst ds) => (match i with
      | .int k => (match ixn ds.length k with
        | some j => .ok () (h.set n (.lst (ds.set j x)))
        | none => .stuck)
      | _ => .stuck)
    | some (.dct kvs) => if isKey i ∧ kvs.length < line then .ok () (h.set n (.dct (dput kvs i x))) else .stuck
    | some (.dcn kvs) => (match keyN i with
      | some k => if kvs.length < line then .ok () (h.set n (.dcn (nset kvs k x))) else .stuck
      | none => .stuck)
    | _ => .stuck
theorem P_putC_dcn {kvs : List (NK × PyData)} {i x : PyData} {n : Nat} {k : NK} (e : keyN i = some k) : putC (some (.dcn kvs)) n i x h = if kvs.length < line then .ok () (h.set n (.dcn (nset kvs k x))) else .stuck := by
  unfold putC
  simp only [e]
@[simp] theorem P_put (n : Nat) (i x : PyData) : putM (.cell n) (.d i) (.d x) h = putC h[n]? n i x h := by
  unfold putM putC
  rfl
def putL (o : Option Nat) (n : Nat) (ds : List PyData) (x : PyData) (h : Hh) : Out Unit := match o with
        | some j => .ok () (h.set n (.lst (ds.set j x)))
        | none => .stuck
@[simp] theorem P_putC_lst (n : Nat) (ds : List PyData) (k : Int) (x : PyData) : putC (some (.lst ds)) n (.int k) x h = putL (ixn ds.length k) n ds x h := by
  unfold putC putL
  rfl
@[simp] theorem P_putL (j n : Nat) (ds : List PyData) (x : PyData) : putL (some j) n ds x h = .ok () (h.set n (.lst (ds.set j x))) := rfl
@[simp] theorem P_pack (n : Nat) (x : PyData) : pack n (.d x) h = .ok (.d x) (h.take n) := rfl
def frzC (o : Option Cl) (n : Nat) (h : Hh) : Out PV := match o with
    | some (.lst ds) => .ok (.d (.list ds)) (h.set n .dead)
    | some (.dct kvs) => .ok (.d (.dict kvs)) (h.set n .dead)
    | _ => .stuck
@[simp] theorem P_frz_d (x : PyData) : frzM (.d x) h = .ok (.d x) h := rfl
@[simp] theorem P_frz_cell (n : Nat) : frzM (.cell n) h = frzC h[n]? n h := by
  unfold frzM frzC
  rfl
@[simp] theorem P_frzC (ds : List PyData) (n : Nat) : frzC (some (.lst ds)) n h = .ok (.d (.list ds)) (h.set n .dead) := rfl
def appC (o : Option Cl) (n : Nat) (x : PyData) (h : Hh) : Out PV := match o with
    | some (.lst ds) => if ds.length < line then .ok (.d .none) (h.set n (.lst (ds ++ [x]))) else .stuck
    | _ => .stuck
@[simp] theorem P_app (n : Nat) (x : PyData) : appendM (.cell n) (.d x) h = appC h[n]? n x h := by
  unfold appendM appC
  rfl
@[simp] theorem P_appC (n : Nat) (ds : List PyData) (x : PyData) : appC (some (.lst ds)) n x h = if ds.length < line then .ok (.d .none) (h.set n (.lst (ds ++ [x]))) else .stuck := rfl
def popAtC (o : Option Cl) (n : Nat) (k : Int) (h : Hh) : Out PV := match o with
    | some (.lst ds) => (match ixn ds.length k with
      | some j => (match ds[j]? with
        | some x => .ok (.d x) (h.set n (.lst (ds.eraseIdx j)))
        | none => .stuck)
      | none => .stuck)
    | _ => .stuck
@[simp] theorem P_popAt (n : Nat) (k : Int) : popAtM (.cell n) (.d (.int k)) h = popAtC h[n]? n k h := by
  unfold popAtM popAtC
  rfl
@[simp] theorem P_seq_l (xs : List PyData) : seqS (.d (.list xs)) h = .ok (.items (xs.map .d)) h := rfl
@[simp] theorem P_seq_t (xs : List PyData) : seqS (.d (.tuple xs)) h = .ok (.items (xs.map .d)) h := rfl
@[simp] theorem P_seq_tc (xs : List PV) : seqS (.tc xs) h = .ok (.items xs) h := rfl
def seqC (o : Option Cl) (n : Nat) (h : Hh) : Out Itm := match o with
  | some (.lst _) => .ok (.cell n) h
  | _ => .stuck
@[simp] theorem P_seq_cell (n : Nat) : seqS (.cell n) h = seqC h[n]? n h := by
  unfold seqS seqC
  rfl
@[simp] theorem P_seqC (n : Nat) (ds : List PyData) : seqC (some (.lst ds)) n h = .ok (.cell n) h := rfl
@[simp] theorem P_rng1 (b : Int) : rng1M (.d (.int b)) h = if -line ≤ b ∧ b ≤ line then .ok (rngL 0 b) h else .stuck := rfl
@[simp] theorem P_zip_l (xs ys : List PyData) : zipM (.d (.list xs)) (.d (.list ys)) h = .ok ((xs.zip ys).map fun p => .d (.tuple [p.1, p.2])) h := rfl
@[simp] theorem P_slc (c : Bool) (ds : List PyData) (lo hi : Option Int) : slcM c (.d (.list ds)) lo hi h = mkL c (cut ds lo hi) h := rfl
@[simp] theorem P_slcK (c : Bool) (ds : List PyData) (lo hi : Option Int) : slcM c (.kl ds) lo hi h = mkL c (cut ds lo hi) h := rfl
@[simp] theorem P_slcT (c : Bool) (ds : List PyData) (lo hi : Option Int) : slcM c (.d (.tuple ds)) lo hi h = .ok (.d (.tuple (cut ds lo hi))) h := rfl
@[simp] theorem P_oi (i : Int) : oi (.d (.int i)) = some i := rfl
@[simp] theorem P_kind_l (T : String) (n : Nat) (h : Hh) : kindOk T (.cell n) h = (match vwC h[n]? with
  | some (.list _) => T == "list"
  | some (.dict _) => T == "dict"
  | some (.str _) => T == "str"
  | _ => false) := by
  unfold kindOk
  rw [P_vw_cell]
  try rfl
theorem P_ixn {n : Nat} {i : Int} (h0 : 0 ≤ i) (h1 : i < n) : ixn n i = some i.toNat := by
  unfold ixn
  rw [if_pos h0, if_pos h1]
@[simp] theorem P_ati0 {α : Type} (x : α) (r : List α) : ati (x :: r) 0 = some x := by
  unfold ati
  rw [P_ixn (by omega) (by simp)]
  rfl
@[simp] theorem P_ati1 {α : Type} (x y : α) (r : List α) : ati (x :: y :: r) 1 = some y := by
  unfold ati
  rw [P_ixn (by omega) (by simp; omega)]
  rfl
@[simp] theorem P_ati2 {α : Type} (x y z : α) (r : List α) : ati (x :: y :: z :: r) 2 = some z := by
  unfold ati
  rw [P_ixn (by omega) (by simp; omega)]
  rfl
theorem P_atiN {α : Type} {xs : List α} {i : Int} (h0 : 0 ≤ i) (h1 : i < xs.length) : ∃ x, ati xs i = some x ∧ x ∈ xs := by
  unfold ati
  rw [P_ixn h0 h1]
  exact ⟨xs[i.toNat]'(by omega), List.getElem?_eq_getElem (by omega), List.getElem_mem _⟩
end
/-- a call -/
theorem call_rule {D : Defs} {k : Nat} {f : String} {df : Def} {vs : List PV} {h : Hh} {Q : PV → Hh → Prop} (hl : D.lookup f = some df) (hn : vs.length = df.ps.length)
    (w : ws (exs (callN D k) df.body (startE df.N vs) h) { nx := fun _ h1 => Q (.d .none) (h1.take h.length), rt := fun v h1 => wp (pack h.length v h1) Q }) : wp (callN D (k + 1) f vs h) Q := by
  unfold callN
  rw [hl]
  simp only [hn, if_true]
  revert w
  cases exs (callN D k) df.body (startE df.N vs) h <;> exact fun w => w
end PL

set_option maxRecDepth 100000
set_option maxHeartbeats 4000000
/-! PL16: the texts of what the laws k01 .. k12 draw. -/
namespace PL.A
open PySem PL
abbrev fuel : Nat := 1000000000
def d__law_stir : Def := ⟨["cell", "k"], ["cell", "k", "number"],
  (.cons (.asg (.nm 2) (.prim (.add false) (.cons (.prim (.add false) (.cons (.prim .mul (.cons (.prim .mod (.cons (.var 0) (.cons (.prim .pow (.cons (.cst (.int 10)) (.cons (.cst (.int 40)) .nil))) .nil))) (.cons (.cst (.int 48271)) .nil))) (.cons (.prim .mul (.cons (.prim .mul (.cons (.prim .pow (.cons (.cst (.int 3)) (.cons (.cst (.int 60)) .nil))) (.cons (.prim (.add false) (.cons (.var 1) (.cons (.cst (.int 1)) .nil))) .nil))) (.cons (.prim (.add false) (.cons (.var 1) (.cons (.cst (.int 1)) .nil))) .nil))) .nil))) (.cons (.var 1) .nil))))
  (.cons (.asg (.nm 2) (.prim (.add false) (.cons (.prim .mul (.cons (.var 2) (.cons (.var 2) .nil))) (.cons (.prim .mul (.cons (.cst (.int 69621)) (.cons (.var 2) .nil))) .nil))))
  (.cons (.ret (.prim .fdiv (.cons (.prim .mod (.cons (.prim .mul (.cons (.var 2) (.cons (.var 2) .nil))) (.cons (.prim (.add false) (.cons (.prim .pow (.cons (.cst (.int 10)) (.cons (.cst (.int 61)) .nil))) (.cons (.cst (.int 7)) .nil))) .nil))) (.cons (.cst (.int 8)) .nil))))
  .nil)))⟩
def d__law_deck : Def := ⟨["cell"], ["cell"],
  (.cons (.ite (.prim .ge (.cons (.var 0) (.cons (.prim .pow (.cons (.cst (.int 10)) (.cons (.cst (.int 18)) .nil))) .nil))) (.cons (.ret (.prim (.lst true) (.cons (.prim .sub (.cons (.var 0) (.cons (.prim .pow (.cons (.cst (.int 10)) (.cons (.cst (.int 18)) .nil))) .nil))) .nil)))
  .nil) .nil)
  (.cons (.ret (.prim (.lst true) (.cons (.prim (.add false) (.cons (.prim .mul (.cons (.prim (.add false) (.cons (.prim .mul (.cons (.call "_law_stir" (.cons (.var 0) (.cons (.cst (.int 1)) .nil))) (.cons (.prim .pow (.cons (.cst (.int 10)) (.cons (.cst (.int 60)) .nil))) .nil))) (.cons (.call "_law_stir" (.cons (.var 0) (.cons (.cst (.int 2)) .nil))) .nil))) (.cons (.prim .pow (.cons (.cst (.int 10)) (.cons (.cst (.int 60)) .nil))) .nil))) (.cons (.call "_law_stir" (.cons (.var 0) (.cons (.cst (.int 3)) .nil))) .nil))) .nil)))
  .nil))⟩
def d__law_take : Def := ⟨["deck", "many"], ["deck", "many", "taken"],
  (.cons (.asg (.nm 2) (.prim .mod (.cons (.prim .idx (.cons (.var 0) (.cons (.cst (.int 0)) .nil))) (.cons (.var 1) .nil))))
  (.cons (.put (.var 0) (.cst (.int 0)) (.prim .fdiv (.cons (.prim .idx (.cons (.var 0) (.cons (.cst (.int 0)) .nil))) (.cons (.var 1) .nil))))
  (.cons (.ret (.var 2))
  .nil)))⟩
def d__law_sum : Def := ⟨["deck", "names", "deep"], ["deck", "names", "deep", "way", "one"],
  (.cons (.asg (.nm 3) (.call "_law_take" (.cons (.var 0) (.cons (.cst (.int 4)) .nil))))
  (.cons (.ite (.or (.cons (.prim .eq (.cons (.var 3) (.cons (.cst (.int 0)) .nil))) (.cons (.and (.cons (.prim .eq (.cons (.var 3) (.cons (.cst (.int 1)) .nil))) (.cons (.prim .eq (.cons (.var 1) (.cons (.prim (.lst false) .nil) .nil))) .nil))) (.cons (.and (.cons (.prim .gt (.cons (.var 3) (.cons (.cst (.int 1)) .nil))) (.cons (.prim .eq (.cons (.var 2) (.cons (.cst (.int 0)) .nil))) .nil))) .nil)))) (.cons (.ret (.prim .tup (.cons (.cst (.str "number")) (.cons (.call "_law_take" (.cons (.var 0) (.cons (.prim .idx (.cons (.prim (.lst false) (.cons (.cst (.int 9)) (.cons (.cst (.int 9)) (.cons (.cst (.int 9)) (.cons (.cst (.int 9)) (.cons (.cst (.int 40)) (.cons (.cst (.int 100)) (.cons (.cst (.int 1000)) (.cons (.prim .pow (.cons (.cst (.int 10)) (.cons (.cst (.int 30)) .nil))) .nil))))))))) (.cons (.call "_law_take" (.cons (.var 0) (.cons (.cst (.int 8)) .nil))) .nil))) .nil))) .nil))))
  .nil) .nil)
  (.cons (.ite (.prim .eq (.cons (.var 3) (.cons (.cst (.int 1)) .nil))) (.cons (.ret (.prim .tup (.cons (.cst (.str "box")) (.cons (.prim .idx (.cons (.var 1) (.cons (.call "_law_take" (.cons (.var 0) (.cons (.prim .len (.cons (.var 1) .nil)) .nil))) .nil))) .nil))))
  .nil) .nil)
  (.cons (.asg (.nm 4) (.call "_law_sum" (.cons (.var 0) (.cons (.var 1) (.cons (.prim .sub (.cons (.var 2) (.cons (.cst (.int 1)) .nil))) .nil)))))
  (.cons (.ret (.prim .tup (.cons (.prim .idx (.cons (.prim (.lst false) (.cons (.cst (.str "plus")) (.cons (.cst (.str "less")) .nil))) (.cons (.prim .sub (.cons (.var 3) (.cons (.cst (.int 2)) .nil))) .nil))) (.cons (.var 4) (.cons (.call "_law_sum" (.cons (.var 0) (.cons (.var 1) (.cons (.prim .sub (.cons (.var 2) (.cons (.cst (.int 1)) .nil))) .nil)))) .nil)))))
  .nil)))))⟩
def d__law_condition : Def := ⟨["deck", "names", "deep"], ["deck", "names", "deep", "way", "one"],
  (.cons (.asg (.nm 3) (.call "_law_take" (.cons (.var 0) (.cons (.cst (.int 6)) .nil))))
  (.cons (.ite (.prim .eq (.cons (.var 3) (.cons (.cst (.int 0)) .nil))) (.cons (.ret (.prim .tup (.cons (.cst (.str "yes")) .nil)))
  .nil) .nil)
  (.cons (.ite (.and (.cons (.prim .eq (.cons (.var 3) (.cons (.cst (.int 4)) .nil))) (.cons (.prim .gt (.cons (.var 2) (.cons (.cst (.int 0)) .nil))) .nil))) (.cons (.ret (.prim .tup (.cons (.cst (.str "not")) (.cons (.call "_law_condition" (.cons (.var 0) (.cons (.var 1) (.cons (.prim .sub (.cons (.var 2) (.cons (.cst (.int 1)) .nil))) .nil)))) .nil))))
  .nil) .nil)
  (.cons (.ite (.and (.cons (.prim .eq (.cons (.var 3) (.cons (.cst (.int 5)) .nil))) (.cons (.prim .gt (.cons (.var 2) (.cons (.cst (.int 0)) .nil))) .nil))) (.cons (.asg (.nm 4) (.call "_law_condition" (.cons (.var 0) (.cons (.var 1) (.cons (.prim .sub (.cons (.var 2) (.cons (.cst (.int 1)) .nil))) .nil)))))
  (.cons (.ret (.prim .tup (.cons (.cst (.str "both")) (.cons (.var 4) (.cons (.call "_law_condition" (.cons (.var 0) (.cons (.var 1) (.cons (.prim .sub (.cons (.var 2) (.cons (.cst (.int 1)) .nil))) .nil)))) .nil)))))
  .nil)) .nil)
  (.cons (.asg (.nm 4) (.call "_law_sum" (.cons (.var 0) (.cons (.var 1) (.cons (.var 2) .nil)))))
  (.cons (.ret (.prim .tup (.cons (.prim .idx (.cons (.prim (.lst false) (.cons (.cst (.str "same")) (.cons (.cst (.str "under")) .nil))) (.cons (.prim .mod (.cons (.var 3) (.cons (.cst (.int 2)) .nil))) .nil))) (.cons (.var 4) (.cons (.call "_law_sum" (.cons (.var 0) (.cons (.var 1) (.cons (.var 2) .nil)))) .nil)))))
  .nil))))))⟩
def d__law_boxes : Def := ⟨["deck"], ["deck", "names", "boxes", "k"],
  (.cons (.asg (.nm 1) (.prim (.lst true) (.cons (.cst (.str "a")) (.cons (.cst (.str "zz")) (.cons (.cst (.str "box")) (.cons (.cst (.str "longname")) (.cons (.cst (.str "q")) (.cons (.cst (.str "no")) (.cons (.cst (.str "put")) (.cons (.cst (.str "same")) .nil))))))))))
  (.cons (.asg (.nm 2) (.prim (.lst true) .nil))
  (.cons (.for_ (.nm 3) (.rng1 (.call "_law_take" (.cons (.var 0) (.cons (.cst (.int 5)) .nil)))) (.cons (.expr (.meth .append (.var 2) (.cons (.prim .tup (.cons (.meth .popAt (.var 1) (.cons (.call "_law_take" (.cons (.var 0) (.cons (.prim .len (.cons (.var 1) .nil)) .nil))) .nil)) (.cons (.prim (.add false) (.cons (.cst (.int 1)) (.cons (.call "_law_take" (.cons (.var 0) (.cons (.prim .idx (.cons (.prim (.lst false) (.cons (.cst (.int 4)) (.cons (.cst (.int 4)) (.cons (.cst (.int 16)) .nil)))) (.cons (.call "_law_take" (.cons (.var 0) (.cons (.cst (.int 3)) .nil))) .nil))) .nil))) .nil))) .nil))) .nil)))
  .nil))
  (.cons (.ret (.frz (.var 2)))
  .nil))))⟩
def d__law_node : Def := ⟨["deck", "names", "many"], ["deck", "names", "many", "kind", "behind"],
  (.cons (.asg (.nm 3) (.prim .idx (.cons (.prim (.lst false) (.cons (.cst (.str "put")) (.cons (.cst (.str "say")) (.cons (.cst (.str "test")) (.cons (.cst (.str "put")) (.cons (.cst (.str "end")) (.cons (.cst (.str "test")) .nil))))))) (.cons (.call "_law_take" (.cons (.var 0) (.cons (.cst (.int 6)) .nil))) .nil))))
  (.cons (.asg (.nm 4) (.call "_law_take" (.cons (.var 0) (.cons (.var 2) .nil))))
  (.cons (.ite (.and (.cons (.prim .eq (.cons (.var 3) (.cons (.cst (.str "put")) .nil))) (.cons (.prim .ne (.cons (.var 1) (.cons (.prim (.lst false) .nil) .nil))) .nil))) (.cons (.ret (.prim .tup (.cons (.cst (.str "put")) (.cons (.prim .idx (.cons (.var 1) (.cons (.call "_law_take" (.cons (.var 0) (.cons (.prim .len (.cons (.var 1) .nil)) .nil))) .nil))) (.cons (.call "_law_sum" (.cons (.var 0) (.cons (.var 1) (.cons (.cst (.int 2)) .nil)))) (.cons (.var 4) .nil))))))
  .nil) .nil)
  (.cons (.ite (.prim .eq (.cons (.var 3) (.cons (.cst (.str "test")) .nil))) (.cons (.ret (.prim .tup (.cons (.cst (.str "test")) (.cons (.call "_law_condition" (.cons (.var 0) (.cons (.var 1) (.cons (.cst (.int 2)) .nil)))) (.cons (.var 4) (.cons (.call "_law_take" (.cons (.var 0) (.cons (.var 2) .nil))) .nil))))))
  .nil) .nil)
  (.cons (.ite (.prim .eq (.cons (.var 3) (.cons (.cst (.str "end")) .nil))) (.cons (.ret (.prim .tup (.cons (.cst (.str "end")) .nil)))
  .nil) .nil)
  (.cons (.ret (.prim .tup (.cons (.cst (.str "say")) (.cons (.call "_law_sum" (.cons (.var 0) (.cons (.var 1) (.cons (.cst (.int 2)) .nil)))) (.cons (.var 4) .nil)))))
  .nil))))))⟩
def d__law_program : Def := ⟨["deck", "most"], ["deck", "most", "boxes", "names", "left", "inputs", "k", "many", "name", "size"],
  (.cons (.asg (.nm 2) (.call "_law_boxes" (.cons (.var 0) .nil)))
  (.cons (.asg (.nm 3) (.comp false [8, 9] (.tup [(.nm 8), (.nm 9)]) (.seq (.var 2)) .nil (.var 8)))
  (.cons (.asg (.nm 4) (.prim (.listOf true) (.cons (.var 3) .nil)))
  (.cons (.asg (.nm 5) (.prim (.lst true) .nil))
  (.cons (.for_ (.nm 6) (.rng1 (.call "_law_take" (.cons (.var 0) (.cons (.prim (.add false) (.cons (.prim .len (.cons (.var 2) .nil)) (.cons (.cst (.int 1)) .nil))) .nil)))) (.cons (.expr (.meth .append (.var 5) (.cons (.meth .popAt (.var 4) (.cons (.call "_law_take" (.cons (.var 0) (.cons (.prim .len (.cons (.var 4) .nil)) .nil))) .nil)) .nil)))
  .nil))
  (.cons (.asg (.nm 7) (.prim (.add false) (.cons (.cst (.int 1)) (.cons (.call "_law_take" (.cons (.var 0) (.cons (.var 1) .nil))) .nil))))
  (.cons (.ret (.prim .tup (.cons (.var 2) (.cons (.frz (.var 5)) (.cons (.comp false [6] (.nm 6) (.rng1 (.var 7)) .nil (.call "_law_node" (.cons (.var 0) (.cons (.var 3) (.cons (.var 7) .nil))))) .nil)))))
  .nil)))))))⟩
def d__law_copied : Def := ⟨["program"], ["program"],
  (.cons (.ret (.prim .tup (.cons (.prim (.listOf false) (.cons (.prim .idx (.cons (.var 0) (.cons (.cst (.int 0)) .nil))) .nil)) (.cons (.prim (.listOf false) (.cons (.prim .idx (.cons (.var 0) (.cons (.cst (.int 1)) .nil))) .nil)) (.cons (.prim (.listOf false) (.cons (.prim .idx (.cons (.var 0) (.cons (.cst (.int 2)) .nil))) .nil)) .nil)))))
  .nil)⟩
def d__law_sum9 : Def := ⟨["deck", "names", "deep"], ["deck", "names", "deep", "way", "one"],
  (.cons (.asg (.nm 3) (.call "_law_take" (.cons (.var 0) (.cons (.cst (.int 4)) .nil))))
  (.cons (.ite (.or (.cons (.prim .eq (.cons (.var 3) (.cons (.cst (.int 0)) .nil))) (.cons (.and (.cons (.prim .eq (.cons (.var 3) (.cons (.cst (.int 1)) .nil))) (.cons (.prim .eq (.cons (.var 1) (.cons (.prim (.lst false) .nil) .nil))) .nil))) (.cons (.and (.cons (.prim .gt (.cons (.var 3) (.cons (.cst (.int 1)) .nil))) (.cons (.prim .eq (.cons (.var 2) (.cons (.cst (.int 0)) .nil))) .nil))) .nil)))) (.cons (.ret (.prim .tup (.cons (.cst (.str "number")) (.cons (.call "_law_take" (.cons (.var 0) (.cons (.cst (.int 9)) .nil))) .nil))))
  .nil) .nil)
  (.cons (.ite (.prim .eq (.cons (.var 3) (.cons (.cst (.int 1)) .nil))) (.cons (.ret (.prim .tup (.cons (.cst (.str "box")) (.cons (.prim .idx (.cons (.var 1) (.cons (.call "_law_take" (.cons (.var 0) (.cons (.prim .len (.cons (.var 1) .nil)) .nil))) .nil))) .nil))))
  .nil) .nil)
  (.cons (.asg (.nm 4) (.call "_law_sum" (.cons (.var 0) (.cons (.var 1) (.cons (.prim .sub (.cons (.var 2) (.cons (.cst (.int 1)) .nil))) .nil)))))
  (.cons (.ret (.prim .tup (.cons (.prim .idx (.cons (.prim (.lst false) (.cons (.cst (.str "plus")) (.cons (.cst (.str "less")) .nil))) (.cons (.prim .sub (.cons (.var 3) (.cons (.cst (.int 2)) .nil))) .nil))) (.cons (.var 4) (.cons (.call "_law_sum" (.cons (.var 0) (.cons (.var 1) (.cons (.prim .sub (.cons (.var 2) (.cons (.cst (.int 1)) .nil))) .nil)))) .nil)))))
  .nil)))))⟩
structure Gn (D : Defs) : Prop where
  _law_stir : D.lookup "_law_stir" = some d__law_stir
  _law_deck : D.lookup "_law_deck" = some d__law_deck
  _law_take : D.lookup "_law_take" = some d__law_take
  _law_sum : D.lookup "_law_sum" = some d__law_sum ∨ D.lookup "_law_sum" = some d__law_sum9
  _law_condition : D.lookup "_law_condition" = some d__law_condition
  _law_boxes : D.lookup "_law_boxes" = some d__law_boxes
  _law_node : D.lookup "_law_node" = some d__law_node
  _law_program : D.lookup "_law_program" = some d__law_program
end PL.A

set_option maxRecDepth 100000
set_option maxHeartbeats 400000
/-! PL17: what the laws k01 .. k12 draw: the deck, sums. -/
namespace PL.A
open PySem PL
/-- behind: the deck at n is a deck, all else ahead is as it was -/
structure Sl (n : Nat) (h h' : Hh) : Prop where
  len : h.length ≤ h'.length
  dk : ∃ d, h'[n]? = some (.lst [.int d])
  at_ : ∀ i, i < h.length → i ≠ n → h'[i]? = h[i]?
def Dk (n : Nat) (h : Hh) : Prop := ∃ d, h[n]? = some (.lst [.int d])
theorem Sl.refl {n : Nat} {h : Hh} (d : Dk n h) : Sl n h h := ⟨Nat.le_refl _, d, fun _ _ _ => rfl⟩
theorem Sl.trans {n : Nat} {h h1 h2 : Hh} (a : Sl n h h1) (b : Sl n h1 h2) : Sl n h h2 :=
  ⟨Nat.le_trans a.len b.len, b.dk, fun i hi hn => (b.at_ i (Nat.lt_of_lt_of_le hi a.len) hn).trans (a.at_ i hi hn)⟩
theorem Dk.lt {n : Nat} {h : Hh} (d : Dk n h) : n < h.length := by
  obtain ⟨d, e⟩ := d
  exact (List.getElem?_eq_some_iff.mp e).1
/-- as a call leaves it -/
def Sc (n : Nat) (h h' : Hh) : Prop := Sl n h h' ∧ h'.length = h.length
theorem Sl.cut {n : Nat} {h h' : Hh} (d : Dk n h) (s : Sl n h h') : Sc n h (h'.take h.length) := by
  have hn := d.lt
  refine ⟨⟨?_, ?_, fun i hi hne => ?_⟩, ?_⟩
  · rw [List.length_take]
    have := s.len
    omega
  · obtain ⟨x, e⟩ := s.dk
    exact ⟨x, by rw [List.getElem?_take_of_lt hn]; exact e⟩
  · rw [List.getElem?_take_of_lt hi]
    exact s.at_ i hi hne
  · rw [List.length_take]
    have := s.len
    omega
theorem wp_pick {xs : List PyData} {t : Int} {h : Hh} {Q : PV → Hh → Prop} (h0 : 0 ≤ t) (h1 : t < xs.length) (q : ∀ x, x ∈ xs → Q (.d x) h) : wp (pick (ati xs t) h) Q := by
  obtain ⟨x, e, m⟩ := P_atiN h0 h1
  rw [e]
  exact q x m
theorem bits_lt {m : Int} {n : Nat} (h0 : 0 ≤ m) (h : m < 2 ^ n) (hn : 0 < n) : bits m < n := by
  unfold bits
  have h2 : m.natAbs < 2 ^ n := by
    have : (m.natAbs : Int) < ((2 ^ n : Nat) : Int) := by
      rw [Int.natAbs_of_nonneg h0, Int.natCast_pow]
      exact h
    exact Int.ofNat_lt.mp this
  by_cases z : m.natAbs = 0
  · rw [z]
    simpa using hn
  · exact (Nat.log2_lt z).mpr h2
section
variable {D : Defs} (G : Gn D)
include G
theorem take_run {k n : Nat} {m : Int} {h : Hh} (d : Dk n h) (hm : 0 < m) (hb : bits m < 9000) {Q : PV → Hh → Prop} (q : ∀ t h', 0 ≤ t → t < m → Sc n h h' → Q (.d (.int t)) h') : wp (callN D (k + 1) "_law_take" [.cell n, .d (.int m)] h) Q := by
  refine call_rule G._law_take rfl ?_
  obtain ⟨x, e⟩ := id d
  have hl := d.lt
  simp [d__law_take, startE, primM, e, ixn, hm, hb]
  refine q _ _ (Int.emod_nonneg _ (by omega)) (Int.emod_lt_of_pos _ hm) (Sl.cut d ⟨by simp, ⟨x / m, by simp [hl]⟩, fun i hi hn => ?_⟩)
  rw [List.getElem?_set_ne (Ne.symm hn)]
end
/-! ### sums -/
inductive Sm where
  | num (i : Int)
  | box (x : Str)
  | plus (a b : Sm)
  | less (a b : Sm)
def Sm.d : Sm → PyData
  | .num i => .tuple [.str "number", .int i]
  | .box x => .tuple [.str "box", .str x]
  | .plus a b => .tuple [.str "plus", a.d, b.d]
  | .less a b => .tuple [.str "less", a.d, b.d]
def Sm.good (names : List Str) : Nat → Sm → Prop
  | 0, _ => False
  | _ + 1, .num i => 0 ≤ i ∧ i < 10 ^ 30
  | _ + 1, .box x => x ∈ names
  | n + 1, .plus a b => a.good names n ∧ b.good names n
  | n + 1, .less a b => a.good names n ∧ b.good names n
/-- names that may stand -/
structure Nm (names : List Str) : Prop where
  len : names.length ≤ 8
  ok : ∀ x ∈ names, PyData.strOk x = true
abbrev nL (names : List Str) : PyData := .list (names.map .str)
theorem shaped_nm {names : List Str} (h : Nm names) : SeqAt.shaped (nL names) = true := by
  have h1 : ∀ l : List Str, (∀ x ∈ l, PyData.strOk x = true) → PyData.canLayAll0 (l.map .str) = true := by
    intro l
    induction l with
    | nil => intro _; rfl
    | cons x r ih =>
      intro h
      show (PyData.canLay0 (.str x) && PyData.canLayAll0 (r.map .str)) = true
      rw [ih fun y hy => h y (List.mem_cons_of_mem _ hy)]
      simp [PyData.canLay0, h x List.mem_cons_self]
  have h2 : ∀ l : List Str, PyData.depthAll (l.map .str) ≤ 1 := by
    intro l
    induction l with
    | nil => simp [PyData.depthAll]
    | cons x r ih =>
      simp only [List.map_cons, PyData.depthAll, PyData.depth]
      omega
  have h3 := h2 names
  refine Bool.and_eq_true_iff.mpr ⟨h1 names h.ok, decide_eq_true ?_⟩
  show PyData.depth (.list (names.map .str)) ≤ 64
  rw [PyData.depth]
  omega
theorem eqv_nil (xs : List PyData) : PyData.eqv (.list xs) (.list []) = xs.isEmpty := by
  cases xs <;> simp [PyData.eqv, PyData.eqvAll]
theorem ok2_l {a b : PyData} (h1 : SeqAt.shaped a = true) (h2 : SeqAt.shaped b = true) : ok2 a b = true := by
  unfold ok2
  rw [h1, h2]
  rfl
theorem ok2_int (i j : Int) : ok2 (.int i) (.int j) = true := by
  simp [ok2, SeqAt.shaped, PyData.canLay0, PyData.depth]
theorem eqv_int (i j : Int) : PyData.eqv (.int i) (.int j) = decide (i = j) := by
  simp [PyData.eqv]
  rfl
theorem pow30 {i : Int} (h0 : 0 ≤ i) (h : i ≤ 10 ^ 30) : bits i < 9000 := Nat.lt_trans (bits_lt (n := 128) h0 (Int.lt_of_le_of_lt h (by decide)) (by decide)) (by decide)
section
variable {D : Defs} (G : Gn D)
include G
theorem num_tail {k n : Nat} {h : Hh} (d : Dk n h) {Q : PV → Hh → Prop} (q : ∀ i h', 0 ≤ i → i < 10 ^ 30 → Sc n h h' → Q (.d (.int i)) h') :
    wp (callN D (k + 1) "_law_take" [.cell n, .d (.int 8)] h) fun v h1 => wp (idxM (.d (.list [.int 9, .int 9, .int 9, .int 9, .int 40, .int 100, .int 1000, .int 1000000000000000000000000000000])) v h1) fun v h1 => wp (callN D (k + 1) "_law_take" [.cell n, v] h1) Q := by
  refine take_run G d (by decide) (by decide) fun t h1 t0 t1 s1 => ?_
  rw [P_idx_lst]
  refine wp_pick t0 t1 fun x hx => ?_
  have hm : ∃ m : Int, x = .int m ∧ 0 < m ∧ m ≤ 10 ^ 30 := by
    simp only [List.mem_cons, List.not_mem_nil, or_false] at hx
    rcases hx with rfl | rfl | rfl | rfl | rfl | rfl | rfl | rfl <;> exact ⟨_, rfl, by decide, by decide⟩
  obtain ⟨m, rfl, m0, m1⟩ := hm
  exact take_run G s1.1.dk m0 (pow30 (by omega) m1) fun i h2 i0 i1 s2 => q i h2 i0 (by omega) ⟨s1.1.trans s2.1, s2.2.trans s1.2⟩
theorem box_tail {names : List Str} (hN : Nm names) (ne : names ≠ []) {k n : Nat} {h : Hh} (d : Dk n h) {Q : PV → Hh → Prop} (q : ∀ x h', x ∈ names → Sc n h h' → Q (.d (.str x)) h') :
    wp (callN D (k + 1) "_law_take" [.cell n, .d (.int names.length)] h) fun v h1 => wp (idxM (.d (nL names)) v h1) Q := by
  have hl := List.length_pos_iff.mpr ne
  have h8 := hN.len
  refine take_run G d (by omega) (pow30 (by omega) (by omega)) fun t h1 t0 t1 s1 => ?_
  rw [P_idx_lst]
  refine wp_pick t0 (by rw [List.length_map]; exact t1) fun x hx => ?_
  obtain ⟨y, hy, rfl⟩ := List.mem_map.mp hx
  exact q y h1 hy s1
theorem sum_runA (L : D.lookup "_law_sum" = some d__law_sum) {names : List Str} (hN : Nm names) : ∀ (deep k n : Nat) (h : Hh), Dk n h → ∀ {Q : PV → Hh → Prop}, (∀ (s : Sm) h', s.good names (deep + 1) → Sc n h h' → Q (.d s.d) h') →
    wp (callN D (k + deep + 2) "_law_sum" [.cell n, .d (nL names), .d (.int deep)] h) Q := by
  have okn : ok2 (nL names) (.list []) = true := ok2_l (shaped_nm hN) (by decide)
  intro deep
  induction deep with
  | zero =>
    intro k n h d Q q
    refine call_rule L rfl ?_
    simp [d__law_sum, startE, primM]
    refine take_run G d (by decide) (by decide) fun way h1 w0 w1 s1 => ?_
    have d1 : Dk n h1 := s1.1.dk
    have w : way = 0 ∨ way = 1 ∨ way = 2 ∨ way = 3 := by omega
    have fin : ∀ i h2, 0 ≤ i → i < 10 ^ 30 → Sc n h1 h2 → Q (.d (.tuple [.str "number", .int i])) (h2.take h.length) := fun i h2 i0 i1 s2 => q (.num i) _ ⟨i0, i1⟩ (Sl.cut d (s1.1.trans s2.1))
    by_cases ne : names = []
    · subst ne
      rcases w with rfl | rfl | rfl | rfl <;> (simp [primM, okn, eqv_nil, ok2_int, eqv_int, line]; refine num_tail G d1 fun i h2 i0 i1 s2 => ?_; simp; exact fin i h2 i0 i1 s2)
    · rcases w with rfl | rfl | rfl | rfl
      · simp [primM, okn, eqv_nil, ok2_int, eqv_int, line, ne]
        refine num_tail G d1 fun i h2 i0 i1 s2 => ?_
        simp
        exact fin i h2 i0 i1 s2
      · simp [primM, okn, eqv_nil, ok2_int, eqv_int, line, ne]
        refine box_tail G hN ne d1 fun x h2 hx s2 => ?_
        simp
        exact q (.box x) _ hx (Sl.cut d (s1.1.trans s2.1))
      · simp [primM, okn, eqv_nil, ok2_int, eqv_int, line, ne]
        refine num_tail G d1 fun i h2 i0 i1 s2 => ?_
        simp
        exact fin i h2 i0 i1 s2
      · simp [primM, okn, eqv_nil, ok2_int, eqv_int, line, ne]
        refine num_tail G d1 fun i h2 i0 i1 s2 => ?_
        simp
        exact fin i h2 i0 i1 s2
  | succ deep ih =>
    intro k n h d Q q
    refine call_rule L rfl ?_
    have e0 : ¬ ((deep : Int) + 1 = 0) := by omega
    have e1 : (deep : Int) + 1 - 1 = deep := by omega
    simp [d__law_sum, startE, primM]
    refine take_run (k := k + deep + 1) G d (by decide) (by decide) fun way h1 w0 w1 s1 => ?_
    have d1 : Dk n h1 := s1.1.dk
    have w : way = 0 ∨ way = 1 ∨ way = 2 ∨ way = 3 := by omega
    have fin : ∀ i h2, 0 ≤ i → i < 10 ^ 30 → Sc n h1 h2 → Q (.d (.tuple [.str "number", .int i])) (h2.take h.length) := fun i h2 i0 i1 s2 => q (.num i) _ ⟨i0, i1⟩ (Sl.cut d (s1.1.trans s2.1))
    rcases w with rfl | rfl | rfl | rfl
    · simp [primM, okn, eqv_nil, ok2_int, eqv_int, line, e0, e1]
      refine num_tail (k := k + deep + 1) G d1 fun i h2 i0 i1 s2 => ?_
      simp
      exact fin i h2 i0 i1 s2
    · by_cases ne : names = []
      · subst ne
        simp [primM, okn, eqv_nil, ok2_int, eqv_int, line, e0, e1]
        refine num_tail (k := k + deep + 1) G d1 fun i h2 i0 i1 s2 => ?_
        simp
        exact fin i h2 i0 i1 s2
      · simp [primM, okn, eqv_nil, ok2_int, eqv_int, line, ne, e0, e1]
        refine box_tail (k := k + deep + 1) G hN ne d1 fun x h2 hx s2 => ?_
        simp
        exact q (.box x) _ hx (Sl.cut d (s1.1.trans s2.1))
    · simp [primM, okn, eqv_nil, ok2_int, eqv_int, line, e0, e1]
      refine ih k n h1 d1 fun a h2 ha s2 => ?_
      simp
      refine ih k n h2 s2.1.dk fun b h3 hb s3 => ?_
      simp
      exact q (.plus a b) _ ⟨ha, hb⟩ (Sl.cut d ((s1.1.trans s2.1).trans s3.1))
    · simp [primM, okn, eqv_nil, ok2_int, eqv_int, line, e0, e1]
      refine ih k n h1 d1 fun a h2 ha s2 => ?_
      simp
      refine ih k n h2 s2.1.dk fun b h3 hb s3 => ?_
      simp
      exact q (.less a b) _ ⟨ha, hb⟩ (Sl.cut d ((s1.1.trans s2.1).trans s3.1))
theorem num_tail9 {k n : Nat} {h : Hh} (d : Dk n h) {Q : PV → Hh → Prop} (q : ∀ i h', 0 ≤ i → i < 10 ^ 30 → Sc n h h' → Q (.d (.int i)) h') :
    wp (callN D (k + 1) "_law_take" [.cell n, .d (.int 9)] h) Q :=
  take_run G d (by decide) (by decide) fun t h1 t0 t1 s1 => q t h1 t0 (Int.lt_trans t1 (by decide)) s1
theorem sum_runB (L : D.lookup "_law_sum" = some d__law_sum9) {names : List Str} (hN : Nm names) : ∀ (deep k n : Nat) (h : Hh), Dk n h → ∀ {Q : PV → Hh → Prop}, (∀ (s : Sm) h', s.good names (deep + 1) → Sc n h h' → Q (.d s.d) h') →
    wp (callN D (k + deep + 2) "_law_sum" [.cell n, .d (nL names), .d (.int deep)] h) Q := by
  have okn : ok2 (nL names) (.list []) = true := ok2_l (shaped_nm hN) (by decide)
  intro deep
  induction deep with
  | zero =>
    intro k n h d Q q
    refine call_rule L rfl ?_
    simp [d__law_sum9, startE, primM]
    refine take_run G d (by decide) (by decide) fun way h1 w0 w1 s1 => ?_
    have d1 : Dk n h1 := s1.1.dk
    have w : way = 0 ∨ way = 1 ∨ way = 2 ∨ way = 3 := by omega
    have fin : ∀ i h2, 0 ≤ i → i < 10 ^ 30 → Sc n h1 h2 → Q (.d (.tuple [.str "number", .int i])) (h2.take h.length) := fun i h2 i0 i1 s2 => q (.num i) _ ⟨i0, i1⟩ (Sl.cut d (s1.1.trans s2.1))
    by_cases ne : names = []
    · subst ne
      rcases w with rfl | rfl | rfl | rfl <;> (simp [primM, okn, eqv_nil, ok2_int, eqv_int, line]; refine num_tail9 G d1 fun i h2 i0 i1 s2 => ?_; simp; exact fin i h2 i0 i1 s2)
    · rcases w with rfl | rfl | rfl | rfl
      · simp [primM, okn, eqv_nil, ok2_int, eqv_int, line, ne]
        refine num_tail9 G d1 fun i h2 i0 i1 s2 => ?_
        simp
        exact fin i h2 i0 i1 s2
      · simp [primM, okn, eqv_nil, ok2_int, eqv_int, line, ne]
        refine box_tail G hN ne d1 fun x h2 hx s2 => ?_
        simp
        exact q (.box x) _ hx (Sl.cut d (s1.1.trans s2.1))
      · simp [primM, okn, eqv_nil, ok2_int, eqv_int, line, ne]
        refine num_tail9 G d1 fun i h2 i0 i1 s2 => ?_
        simp
        exact fin i h2 i0 i1 s2
      · simp [primM, okn, eqv_nil, ok2_int, eqv_int, line, ne]
        refine num_tail9 G d1 fun i h2 i0 i1 s2 => ?_
        simp
        exact fin i h2 i0 i1 s2
  | succ deep ih =>
    intro k n h d Q q
    refine call_rule L rfl ?_
    have e0 : ¬ ((deep : Int) + 1 = 0) := by omega
    have e1 : (deep : Int) + 1 - 1 = deep := by omega
    simp [d__law_sum9, startE, primM]
    refine take_run (k := k + deep + 1) G d (by decide) (by decide) fun way h1 w0 w1 s1 => ?_
    have d1 : Dk n h1 := s1.1.dk
    have w : way = 0 ∨ way = 1 ∨ way = 2 ∨ way = 3 := by omega
    have fin : ∀ i h2, 0 ≤ i → i < 10 ^ 30 → Sc n h1 h2 → Q (.d (.tuple [.str "number", .int i])) (h2.take h.length) := fun i h2 i0 i1 s2 => q (.num i) _ ⟨i0, i1⟩ (Sl.cut d (s1.1.trans s2.1))
    rcases w with rfl | rfl | rfl | rfl
    · simp [primM, okn, eqv_nil, ok2_int, eqv_int, line, e0, e1]
      refine num_tail9 (k := k + deep + 1) G d1 fun i h2 i0 i1 s2 => ?_
      simp
      exact fin i h2 i0 i1 s2
    · by_cases ne : names = []
      · subst ne
        simp [primM, okn, eqv_nil, ok2_int, eqv_int, line, e0, e1]
        refine num_tail9 (k := k + deep + 1) G d1 fun i h2 i0 i1 s2 => ?_
        simp
        exact fin i h2 i0 i1 s2
      · simp [primM, okn, eqv_nil, ok2_int, eqv_int, line, ne, e0, e1]
        refine box_tail (k := k + deep + 1) G hN ne d1 fun x h2 hx s2 => ?_
        simp
        exact q (.box x) _ hx (Sl.cut d (s1.1.trans s2.1))
    · simp [primM, okn, eqv_nil, ok2_int, eqv_int, line, e0, e1]
      refine ih k n h1 d1 fun a h2 ha s2 => ?_
      simp
      refine ih k n h2 s2.1.dk fun b h3 hb s3 => ?_
      simp
      exact q (.plus a b) _ ⟨ha, hb⟩ (Sl.cut d ((s1.1.trans s2.1).trans s3.1))
    · simp [primM, okn, eqv_nil, ok2_int, eqv_int, line, e0, e1]
      refine ih k n h1 d1 fun a h2 ha s2 => ?_
      simp
      refine ih k n h2 s2.1.dk fun b h3 hb s3 => ?_
      simp
      exact q (.less a b) _ ⟨ha, hb⟩ (Sl.cut d ((s1.1.trans s2.1).trans s3.1))
theorem sum_run {names : List Str} (hN : Nm names) (deep k n : Nat) (h : Hh) (d : Dk n h) {Q : PV → Hh → Prop} (q : ∀ (s : Sm) h', s.good names (deep + 1) → Sc n h h' → Q (.d s.d) h') :
    wp (callN D (k + deep + 2) "_law_sum" [.cell n, .d (nL names), .d (.int deep)] h) Q := by
  rcases G._law_sum with L | L
  · exact sum_runA G L hN deep k n h d q
  · exact sum_runB G L hN deep k n h d q
end
end PL.A

set_option maxRecDepth 100000
set_option maxHeartbeats 1000000
/-! PL18: what the laws k01 .. k12 draw: conditions, boxes, nodes, programs. -/
namespace PL.A
open PySem PL
inductive Cn where
  | yes
  | not (c : Cn)
  | both (a b : Cn)
  | same (a b : Sm)
  | under (a b : Sm)
def Cn.d : Cn → PyData
  | .yes => .tuple [.str "yes"]
  | .not c => .tuple [.str "not", c.d]
  | .both a b => .tuple [.str "both", a.d, b.d]
  | .same a b => .tuple [.str "same", a.d, b.d]
  | .under a b => .tuple [.str "under", a.d, b.d]
def Cn.good (names : List Str) : Nat → Cn → Prop
  | 0, _ => False
  | _ + 1, .yes => True
  | n + 1, .not c => c.good names n
  | n + 1, .both a b => a.good names n ∧ b.good names n
  | n + 1, .same a b => a.good names (n + 1) ∧ b.good names (n + 1)
  | n + 1, .under a b => a.good names (n + 1) ∧ b.good names (n + 1)
section
variable {D : Defs} (G : Gn D)
include G
theorem cond_run {names : List Str} (hN : Nm names) : ∀ (deep k n : Nat) (h : Hh), Dk n h → ∀ {Q : PV → Hh → Prop}, (∀ (s : Cn) h', s.good names (deep + 1) → Sc n h h' → Q (.d s.d) h') →
    wp (callN D (k + deep + 3) "_law_condition" [.cell n, .d (nL names), .d (.int deep)] h) Q := by
  intro deep
  induction deep with
  | zero =>
    intro k n h d Q q
    refine call_rule G._law_condition rfl ?_
    simp [d__law_condition, startE, primM]
    refine take_run (k := k + 1) G d (by decide) (by decide) fun way h1 w0 w1 s1 => ?_
    have d1 : Dk n h1 := s1.1.dk
    have w : way = 0 ∨ way = 1 ∨ way = 2 ∨ way = 3 ∨ way = 4 ∨ way = 5 := by omega
    rcases w with rfl | rfl | rfl | rfl | rfl | rfl
    · simp [primM, ok2_int, eqv_int, line]
      exact q .yes _ True.intro (Sl.cut d s1.1)
    all_goals
      simp [primM, ok2_int, eqv_int, line]
      refine sum_run (deep := 0) (k := k) G hN n h1 d1 fun a h2 ha s2 => ?_
      simp
      refine sum_run (deep := 0) (k := k) G hN n h2 s2.1.dk fun b h3 hb s3 => ?_
      simp
    · exact q (.under a b) _ ⟨ha, hb⟩ (Sl.cut d ((s1.1.trans s2.1).trans s3.1))
    · exact q (.same a b) _ ⟨ha, hb⟩ (Sl.cut d ((s1.1.trans s2.1).trans s3.1))
    · exact q (.under a b) _ ⟨ha, hb⟩ (Sl.cut d ((s1.1.trans s2.1).trans s3.1))
    · exact q (.same a b) _ ⟨ha, hb⟩ (Sl.cut d ((s1.1.trans s2.1).trans s3.1))
    · exact q (.under a b) _ ⟨ha, hb⟩ (Sl.cut d ((s1.1.trans s2.1).trans s3.1))
  | succ deep ih =>
    intro k n h d Q q
    refine call_rule G._law_condition rfl ?_
    have e0 : (0 : Int) < (deep : Int) + 1 := by omega
    have e1 : (deep : Int) + 1 - 1 = deep := by omega
    simp [d__law_condition, startE, primM]
    refine take_run (k := k + deep + 2) G d (by decide) (by decide) fun way h1 w0 w1 s1 => ?_
    have d1 : Dk n h1 := s1.1.dk
    have w : way = 0 ∨ way = 4 ∨ way = 5 ∨ way = 1 ∨ way = 2 ∨ way = 3 := by omega
    rcases w with rfl | rfl | rfl | rfl | rfl | rfl
    · simp [primM, ok2_int, eqv_int, line, e0, e1]
      exact q .yes _ True.intro (Sl.cut d s1.1)
    · simp [primM, ok2_int, eqv_int, line, e0, e1]
      refine ih k n h1 d1 fun a h2 ha s2 => ?_
      simp
      exact q (.not a) _ ha (Sl.cut d (s1.1.trans s2.1))
    · simp [primM, ok2_int, eqv_int, line, e0, e1]
      refine ih k n h1 d1 fun a h2 ha s2 => ?_
      simp
      refine ih k n h2 s2.1.dk fun b h3 hb s3 => ?_
      simp
      exact q (.both a b) _ ⟨ha, hb⟩ (Sl.cut d ((s1.1.trans s2.1).trans s3.1))
    all_goals
      simp [primM, ok2_int, eqv_int, line, e0, e1]
      refine sum_run (deep := deep + 1) (k := k) G hN n h1 d1 fun a h2 ha s2 => ?_
      simp
      refine sum_run (deep := deep + 1) (k := k) G hN n h2 s2.1.dk fun b h3 hb s3 => ?_
      simp
    · exact q (.under a b) _ ⟨ha, hb⟩ (Sl.cut d ((s1.1.trans s2.1).trans s3.1))
    · exact q (.same a b) _ ⟨ha, hb⟩ (Sl.cut d ((s1.1.trans s2.1).trans s3.1))
    · exact q (.under a b) _ ⟨ha, hb⟩ (Sl.cut d ((s1.1.trans s2.1).trans s3.1))
end
end PL.A

set_option maxRecDepth 100000
set_option maxHeartbeats 1000000
/-! PL19: boxes. -/
namespace PL.A
open PySem PL
theorem Sl.set {n : Nat} {h h' : Hh} (s : Sl n h h') {i : Nat} {c : Cl} (hi : h.length ≤ i) (hn : i ≠ n) : Sl n h (h'.set i c) := by
  refine ⟨by rw [List.length_set]; exact s.len, ?_, fun j hj hne => ?_⟩
  · rw [List.getElem?_set_ne hn]
    exact s.dk
  · rw [List.getElem?_set_ne (by omega)]
    exact s.at_ j hj hne
theorem Sl.push {n : Nat} {h h' : Hh} (s : Sl n h h') (c : Cl) : Sl n h (h' ++ [c]) := by
  obtain ⟨x, e⟩ := s.dk
  have hl := (List.getElem?_eq_some_iff.mp e).1
  refine ⟨by rw [List.length_append]; have := s.len; omega, ⟨x, by rw [List.getElem?_append_left hl]; exact e⟩, fun j hj hne => ?_⟩
  rw [List.getElem?_append_left (by have := s.len; omega)]
  exact s.at_ j hj hne
theorem Sc.get {n : Nat} {h h' : Hh} (s : Sc n h h') {i : Nat} {c : Cl} (e : h[i]? = some c) (hn : i ≠ n) : h'[i]? = some c := by
  rw [s.1.at_ i (List.getElem?_eq_some_iff.mp e).1 hn]
  exact e
theorem erase_map {α β : Type} (f : α → β) : ∀ (l : List α) (i : Nat), (l.map f).eraseIdx i = (l.eraseIdx i).map f
  | [], _ => rfl
  | _ :: _, 0 => rfl
  | x :: r, i + 1 => by
    show f x :: (r.map f).eraseIdx i = f x :: (r.eraseIdx i).map f
    rw [erase_map f r i]
theorem erase_perm {α : Type} : ∀ (l : List α) (i : Nat) (h : i < l.length), (l[i] :: l.eraseIdx i).Perm l
  | x :: r, 0, _ => List.Perm.refl _
  | x :: r, i + 1, h => by
    have hr : i < r.length := by simpa using h
    show (r[i] :: x :: r.eraseIdx i).Perm (x :: r)
    exact (List.Perm.swap _ _ _).trans ((erase_perm r i hr).cons x)
theorem wp_popS {N : Nat} {ns : List Str} {t : Int} {h : Hh} {Q : PV → Hh → Prop} (h0 : 0 ≤ t) (h1 : t < ns.length) (q : ∀ x rest, (x :: rest).Perm ns → Q (.d (.str x)) (h.set N (.lst (rest.map .str)))) : wp (popAtC (some (.lst (ns.map .str))) N t h) Q := by
  have hj : t.toNat < ns.length := by omega
  unfold popAtC
  have e1 : ixn (ns.map PyData.str).length t = some t.toNat := P_ixn h0 (by rw [List.length_map]; exact h1)
  have e2 : (ns.map PyData.str)[t.toNat]? = some (.str ns[t.toNat]) := by
    rw [List.getElem?_map, List.getElem?_eq_getElem hj]
    rfl
  have e3 : (ns.map PyData.str).eraseIdx t.toNat = (ns.eraseIdx t.toNat).map .str := by
    exact erase_map _ _ _
  simp only [e1, e2, e3]
  exact q _ _ (erase_perm ns t.toNat hj)
def base8 : List Str := ["a", "zz", "box", "longname", "q", "no", "put", "same"]
theorem base_nd : base8.Nodup := by decide +kernel
theorem base_ok : ∀ x ∈ base8, PyData.strOk x = true := by decide +kernel
abbrev Bs := List (Str × Int)
def bD (bs : Bs) : List PyData := bs.map fun b => .tuple [.str b.1, .int b.2]
structure Bx (bs : Bs) : Prop where
  sub : (bs.map (·.1)).Nodup ∧ ∀ x ∈ bs.map (·.1), PyData.strOk x = true
  len : bs.length ≤ 4
  sz : ∀ b ∈ bs, 1 ≤ b.2 ∧ b.2 ≤ 16
theorem Bx.nd {bs : Bs} (b : Bx bs) : (bs.map (·.1)).Nodup := b.sub.1
theorem Bx.nm {bs : Bs} (b : Bx bs) : Nm (bs.map (·.1)) := ⟨by rw [List.length_map]; have := b.len; omega, b.sub.2⟩
theorem base_sub {ns r : List Str} (p : (ns ++ r).Perm base8) : ns.Nodup ∧ ∀ x ∈ ns, PyData.strOk x = true :=
  ⟨(List.nodup_append.mp (p.nodup_iff.mpr base_nd)).1, fun x hx => base_ok x (p.mem_iff.mp (List.mem_append_left _ hx))⟩
section
variable {D : Defs} (G : Gn D)
include G
theorem boxes_run {k n : Nat} {h : Hh} (d : Dk n h) {Q : PV → Hh → Prop} (q : ∀ bs h', Bx bs → (∀ x ∈ bs.map (·.1), x ∈ base8) → Sc n h h' → Q (.d (.list (bD bs))) h') : wp (callN D (k + 2) "_law_boxes" [.cell n] h) Q := by
  have hn := d.lt
  refine call_rule G._law_boxes rfl ?_
  simp [d__law_boxes, startE, primM, line]
  generalize hH : h ++ [Cl.lst [PyData.str (Str.ofString "a"), PyData.str (Str.ofString "zz"), PyData.str (Str.ofString "box"), PyData.str (Str.ofString "longname"), PyData.str (Str.ofString "q"), PyData.str (Str.ofString "no"), PyData.str (Str.ofString "put"), PyData.str (Str.ofString "same")], Cl.lst []] = H
  have S0 : Sl n h H := by
    rw [← hH]
    have := ((Sl.refl d).push (Cl.lst (base8.map .str))).push (Cl.lst [])
    rw [List.append_assoc] at this
    exact this
  have a0 : H[h.length]? = some (.lst (base8.map .str)) := by
    rw [← hH, List.getElem?_append_right (Nat.le_refl _), Nat.sub_self]
    rfl
  have b0 : H[h.length + 1]? = some (.lst (bD [])) := by
    rw [← hH, List.getElem?_append_right (by omega), Nat.add_sub_cancel_left]
    rfl
  refine take_run G S0.dk (by decide) (by decide) fun m h1 m0 m1 s1 => ?_
  have hm : -16777216 ≤ m ∧ m ≤ 16777216 := by omega
  simp [line, hm]
  obtain ⟨I, hI⟩ : ∃ I : List PV → Ee → Hh → Prop, I = fun r e h2 => ∃ bs ns z, e = [some (.cell n), some (.cell h.length), some (.cell (h.length + 1)), z] ∧ Sl n h h2 ∧ h2[h.length]? = some (.lst (ns.map .str)) ∧ h2[h.length + 1]? = some (.lst (bD bs)) ∧ (bs.map (·.1) ++ ns).Perm base8 ∧ bs.length + r.length ≤ 4 ∧ ∀ b ∈ bs, 1 ≤ b.2 ∧ b.2 ≤ 16 := ⟨_, rfl⟩
  refine for_rule I ?_ ?_ _ _ _ ?_
  · intro v r e h2 hi
    rw [hI] at hi
    obtain ⟨bs, ns, z, rfl, S2, a2, b2, pm, hl, sz⟩ := hi
    have hlen := pm.length_eq
    rw [List.length_append, List.length_map] at hlen
    have h8 : base8.length = 8 := rfl
    have hr : r.length + 1 + bs.length ≤ 4 := by
      rw [List.length_cons] at hl
      omega
    have hn5 : 5 ≤ ns.length := by omega
    have nsl : (0 : Int) < ns.length := by omega
    simp [sT, setT, primM, b2, a2, mTy]
    refine take_run G S2.dk nsl (pow30 (by omega) (by omega)) fun t h3 t0 t1 s3 => ?_
    have a3 := s3.get a2 (by omega)
    have b3 := s3.get b2 (by omega)
    simp [primM, a3]
    refine wp_popS t0 t1 fun x rest px => ?_
    have S3 : Sl n h (h3.set h.length (.lst (rest.map .str))) := (S2.trans s3.1).set (Nat.le_refl _) (by omega)
    have l3 : h.length < h3.length := (List.getElem?_eq_some_iff.mp a3).1
    have a4 : (h3.set h.length (.lst (rest.map .str)))[h.length]? = some (.lst (rest.map .str)) := List.getElem?_set_self l3
    have b4 : (h3.set h.length (.lst (rest.map .str)))[h.length + 1]? = some (.lst (bD bs)) := by
      rw [List.getElem?_set_ne (by omega)]
      exact b3
    generalize h3.set h.length (.lst (rest.map .str)) = h4 at *
    simp [primM, line]
    refine take_run G S3.dk (by decide) (by decide) fun t2 h5 t20 t21 s5 => ?_
    simp
    refine wp_pick t20 t21 fun y hy => ?_
    have hm : ∃ m : Int, y = .int m ∧ 0 < m ∧ m ≤ 16 := by
      simp only [List.mem_cons, List.not_mem_nil, or_false] at hy
      rcases hy with rfl | rfl | rfl <;> exact ⟨_, rfl, by decide, by decide⟩
    obtain ⟨y, rfl, y0, y1⟩ := hm
    refine take_run G s5.1.dk y0 (pow30 (by omega) (by omega)) fun t3 h6 t30 t31 s6 => ?_
    have a6 := s6.get (s5.get a4 (by omega)) (by omega)
    have b6 := s6.get (s5.get b4 (by omega)) (by omega)
    have S6 := (S3.trans s5.1).trans s6.1
    have l6 : h.length + 1 < h6.length := (List.getElem?_eq_some_iff.mp b6).1
    have hbl : (bD bs).length < 16777216 := by
      unfold bD
      rw [List.length_map]
      omega
    simp [primM, line, b6, hbl]
    rw [hI]
    refine ⟨bs ++ [(x, 1 + t3)], rest, _, rfl, S6.set (by omega) (by omega), ?_, ?_, ?_, ?_, ?_⟩
    · rw [List.getElem?_set_ne (by omega)]
      exact a6
    · rw [List.getElem?_set_self l6]
      unfold bD
      simp
    · rw [List.map_append, List.append_assoc]
      exact (px.append_left _).trans pm
    · rw [List.length_append, List.length_singleton]
      omega
    · intro b hb
      rcases List.mem_append.mp hb with hb | hb
      · exact sz b hb
      · rw [List.mem_singleton] at hb
        subst hb
        show 1 ≤ 1 + t3 ∧ 1 + t3 ≤ 16
        omega
  · intro e h2 hi
    rw [hI] at hi
    obtain ⟨bs, ns, z, rfl, S2, a2, b2, pm, hl, sz⟩ := hi
    simp [b2]
    exact q bs _ ⟨base_sub pm, by rw [List.length_nil] at hl; omega, sz⟩ (fun x hx => pm.mem_iff.mp (List.mem_append_left _ hx)) (Sl.cut d (S2.set (by omega) (by omega)))
  · rw [hI]
    refine ⟨[], base8, none, rfl, S0.trans s1.1, s1.get a0 (by omega), s1.get b0 (by omega), List.Perm.refl _, ?_, by simp⟩
    rw [rngL_len, List.length_nil]
    omega
end
end PL.A

set_option maxRecDepth 100000
set_option maxHeartbeats 1000000
/-! PL20: nodes and programs. -/
namespace PL.A
open PySem PL
theorem map_inj' {α β : Type} {f : α → β} (hf : ∀ x y, f x = f y → x = y) : ∀ {a b : List α}, a.map f = b.map f → a = b
  | [], [], _ => rfl
  | [], _ :: _, h => by simp at h
  | _ :: _, [], h => by simp at h
  | x :: r, y :: s, h => by
    rw [List.map_cons, List.map_cons, List.cons.injEq] at h
    rw [hf x y h.1, map_inj' hf h.2]
theorem ofs_inj {a b : String} (h : Str.ofString a = Str.ofString b) : a = b := by
  rw [Str.ofString_eq_toList, Str.ofString_eq_toList] at h
  have h1 : (a.toList.map Char.toNat) = (b.toList.map Char.toNat) := by
    have := congrArg (fun s : Str => s.cps.toList) h
    simpa using this
  exact String.toList_inj.mp (map_inj' (fun x y e => Char.ext (UInt32.toNat_inj.mp e)) h1)
theorem strOk_ofs (a : String) : PyData.strOk (Str.ofString a) = true := by
  rw [Str.ofString_eq_toList]
  unfold PyData.strOk
  rw [Array.all_eq_true']
  intro x hx
  rw [List.mem_toArray] at hx
  obtain ⟨c, _, rfl⟩ := List.mem_map.mp hx
  have := c.valid
  exact decide_eq_true (by
    rcases this with h | h
    · exact Nat.lt_trans h (by decide)
    · exact h.2)
@[simp] theorem eqv_ofs (a b : String) : PyData.eqv (.str (Str.ofString a)) (.str (Str.ofString b)) = decide (a = b) := by
  simp only [PyData.eqv]
  by_cases h : a = b
  · subst h
    simp
  · rw [decide_eq_false h, beq_eq_false_iff_ne]
    exact fun z => h (ofs_inj z)
theorem shaped_str {x : Str} (h : PyData.strOk x = true) : SeqAt.shaped (.str x) = true := Bool.and_eq_true_iff.mpr ⟨h, decide_eq_true (Nat.zero_le _)⟩
@[simp] theorem ok2_ofs (a b : String) : ok2 (.str (Str.ofString a)) (.str (Str.ofString b)) = true := ok2_l (shaped_str (strOk_ofs a)) (shaped_str (strOk_ofs b))
theorem tst (n : Nat) : PyData.eqv (.str "put") (.str "say") = false ∧ PyData.eqv (.str "put") (.str "put") = true := by
  simp
inductive Nd where
  | put (x : Str) (s : Sm) (b : Int)
  | say (s : Sm) (b : Int)
  | test (c : Cn) (a b : Int)
  | fin
def Nd.d : Nd → PyData
  | .put x s b => .tuple [.str "put", .str x, s.d, .int b]
  | .say s b => .tuple [.str "say", s.d, .int b]
  | .test c a b => .tuple [.str "test", c.d, .int a, .int b]
  | .fin => .tuple [.str "end"]
/-- sums and conditions so high at most -/
def Nd.goodN (N : Nat) (names : List Str) (many : Int) : Nd → Prop
  | .put x s b => x ∈ names ∧ s.good names N ∧ 0 ≤ b ∧ b < many
  | .say s b => s.good names N ∧ 0 ≤ b ∧ b < many
  | .test c a b => c.good names N ∧ 0 ≤ a ∧ a < many ∧ 0 ≤ b ∧ b < many
  | .fin => True
abbrev Nd.good (names : List Str) (many : Int) (s : Nd) : Prop := s.goodN 3 names many
section
variable {D : Defs} (G : Gn D)
include G
theorem node_run {names : List Str} (hN : Nm names) {k n : Nat} {h : Hh} {many : Int} (m0 : 0 < many) (m1 : many ≤ 64) (d : Dk n h) {Q : PV → Hh → Prop} (q : ∀ (s : Nd) h', s.good names many → Sc n h h' → Q (.d s.d) h') :
    wp (callN D (k + 6) "_law_node" [.cell n, .d (nL names), .d (.int many)] h) Q := by
  have okn : ok2 (nL names) (.list []) = true := ok2_l (shaped_nm hN) (by decide)
  have hb : bits many < 9000 := pow30 (by omega) (by omega)
  refine call_rule G._law_node rfl ?_
  simp [d__law_node, startE, primM, line]
  refine take_run (k := k + 4) G d (by decide) (by decide) fun way h1 w0 w1 s1 => ?_
  have w : way = 0 ∨ way = 3 ∨ way = 1 ∨ way = 2 ∨ way = 5 ∨ way = 4 := by omega
  have d1 : Dk n h1 := s1.1.dk
  have say : ∀ (b : Int) (h2 : Hh), 0 ≤ b → b < many → Sc n h1 h2 → wp (callN D (k + 5) "_law_sum" [.cell n, .d (nL names), .d (.int 2)] h2) fun v h3 => wp (tupO (consO (.str "say") (pures [v, .d (.int b)])) [.d (.str "say"), v, .d (.int b)] h3) fun v h4 => wp (pack h.length v h4) Q := fun b h2 b0 b1 s2 => by
    refine sum_run (deep := 2) (k := k + 1) G hN n h2 s2.1.dk fun a h3 ha s3 => ?_
    simp [line]
    exact q (.say a b) _ ⟨ha, b0, b1⟩ (Sl.cut d ((s1.1.trans s2.1).trans s3.1))
  rcases w with rfl | rfl | rfl | rfl | rfl | rfl
  all_goals simp [ati, ixn]
  all_goals refine take_run (k := k + 4) G d1 m0 hb fun b h2 b0 b1 s2 => ?_
  all_goals try simp [primM, okn, eqv_nil, line]
  · refine ⟨fun ne => ?_, fun _ => say b h2 b0 b1 s2⟩
    refine box_tail (k := k + 4) G hN ne s2.1.dk fun x h3 hx s3 => ?_
    refine sum_run (deep := 2) (k := k + 1) G hN n h3 s3.1.dk fun a h4 ha s4 => ?_
    simp [line]
    exact q (.put x a b) _ ⟨hx, ha, b0, b1⟩ (Sl.cut d (((s1.1.trans s2.1).trans s3.1).trans s4.1))
  · refine ⟨fun ne => ?_, fun _ => say b h2 b0 b1 s2⟩
    refine box_tail (k := k + 4) G hN ne s2.1.dk fun x h3 hx s3 => ?_
    refine sum_run (deep := 2) (k := k + 1) G hN n h3 s3.1.dk fun a h4 ha s4 => ?_
    simp [line]
    exact q (.put x a b) _ ⟨hx, ha, b0, b1⟩ (Sl.cut d (((s1.1.trans s2.1).trans s3.1).trans s4.1))
  · exact say b h2 b0 b1 s2
  · refine cond_run (deep := 2) (k := k) G hN n h2 s2.1.dk fun a h4 ha s4 => ?_
    refine take_run (k := k + 4) G s4.1.dk m0 hb fun b' h5 b0' b1' s5 => ?_
    simp [line]
    exact q (.test a b b') _ ⟨ha, b0, b1, b0', b1'⟩ (Sl.cut d (((s1.1.trans s2.1).trans s4.1).trans s5.1))
  · refine cond_run (deep := 2) (k := k) G hN n h2 s2.1.dk fun a h4 ha s4 => ?_
    refine take_run (k := k + 4) G s4.1.dk m0 hb fun b' h5 b0' b1' s5 => ?_
    simp [line]
    exact q (.test a b b') _ ⟨ha, b0, b1, b0', b1'⟩ (Sl.cut d (((s1.1.trans s2.1).trans s4.1).trans s5.1))
  · exact q .fin _ True.intro (Sl.cut d (s1.1.trans s2.1))
end
theorem names_comp (Φ : String → List PV → Hh → Out PV) {i j : Nat} (ne : i ≠ j) {e : Ee} (hi : i < e.length) {Q : List PyData → Hh → Prop} : ∀ {bs : Bs} {h : Hh}, Q (bs.map fun b => .str b.1) h →
    wp (compL (.tup [.nm i, .nm j]) (fun e1 h2 => evConds Φ .nil e1 h2) (fun e1 h2 => ev Φ (.var i) e1 h2) e ((bD bs).map .d) h) Q := by
  intro bs h q
  refine wp_mono (comp_rule (fun r acc h' => ∃ bs' : Bs, r = (bD bs').map .d ∧ acc ++ (bs'.map fun b => .str b.1) = (bs.map fun b => .str b.1) ∧ h' = h) (Q := Q) ?_ ?_ _ [] h ⟨bs, rfl, rfl, rfl⟩) (fun ds h1 q => q)
  · rintro v r acc h' ⟨bs', e1, e2, rfl⟩
    cases bs' with
    | nil => simp [bD] at e1
    | cons b bs' =>
      simp [bD] at e1
      obtain ⟨rfl, rfl⟩ := e1
      have g : ((e.set i (some (PV.d (.str b.1)))).set j (some (PV.d (.int b.2))))[i]? = some (some (PV.d (.str b.1))) := by
        rw [List.getElem?_set_ne (Ne.symm ne), List.getElem?_set_self hi]
      simp [sT, setT, setTs, g]
      exact ⟨bs', by simp [bD], by rw [← e2]; simp⟩
  · rintro acc h' ⟨bs', e1, e2, rfl⟩
    cases bs' with
    | nil =>
      rw [List.map_nil, List.append_nil] at e2
      rw [e2]
      exact q
    | cons b bs' => simp [bD] at e1
structure Pg where
  bs : Bs
  ins : List Str
  nds : List Nd
def Pg.names (p : Pg) : List Str := p.bs.map (·.1)
def Pg.d (p : Pg) : PyData := .tuple [.list (bD p.bs), nL p.ins, .list (p.nds.map Nd.d)]
structure Pg.good (most : Int) (p : Pg) : Prop where
  bx : Bx p.bs
  ins : ∃ r, (p.ins ++ r).Perm p.names
  n0 : 0 < p.nds.length
  n1 : (p.nds.length : Int) ≤ most
  nd : ∀ s ∈ p.nds, s.good p.names p.nds.length
  base : ∀ x ∈ p.names, x ∈ base8
end PL.A

set_option maxRecDepth 100000
set_option maxHeartbeats 1000000
/-! PL21: programs, decks. -/
namespace PL.A
open PySem PL
section
variable {D : Defs} (G : Gn D)
include G
theorem program_run {k n : Nat} {h : Hh} {most : Int} (m0 : 0 < most) (m1 : most ≤ 60) (d : Dk n h) {Q : PV → Hh → Prop} (q : ∀ (p : Pg) h', p.good most → Sc n h h' → Q (.d p.d) h') :
    wp (callN D (k + 7) "_law_program" [.cell n, .d (.int most)] h) Q := by
  have hn := d.lt
  refine call_rule G._law_program rfl ?_
  simp [d__law_program, startE, primM, line]
  refine boxes_run (k := k + 4) G d fun bs h1 hbs hbase s1 => ?_
  have hl1 := s1.2
  have hl4 := hbs.len
  simp [wipeE, line]
  refine names_comp _ (by decide) (by simp) ?_
  have hsz : (bs.map fun b => PyData.str b.1) = (bs.map (·.1)).map .str := by simp
  have hln : (bs.map (·.1)).length = bs.length := by simp
  have hlb : (bD bs).length = bs.length := by simp [bD]
  rw [hsz]
  generalize hN : bs.map (·.1) = names at *
  have nm : Nm names := by rw [← hN]; exact hbs.nm
  have hle : names.length ≤ 16777216 := by omega
  simp [primM, line, hle]
  generalize hH : h1 ++ [Cl.lst (names.map .str), Cl.lst []] = H
  have S0 : Sl n h H := by
    rw [← hH]
    have := (s1.1.push (Cl.lst (names.map .str))).push (Cl.lst [])
    rw [List.append_assoc] at this
    exact this
  have a0 : H[h1.length]? = some (.lst (names.map .str)) := by
    rw [← hH, List.getElem?_append_right (Nat.le_refl _), Nat.sub_self]
    rfl
  have b0 : H[h1.length + 1]? = some (.lst (([] : List Str).map .str)) := by
    rw [← hH, List.getElem?_append_right (by omega), Nat.add_sub_cancel_left]
    rfl
  refine take_run (k := k + 5) G S0.dk (by omega) (pow30 (by omega) (by omega)) fun m h2 z0 z1 s2 => ?_
  have hm : -16777216 ≤ m ∧ m ≤ 16777216 := by omega
  simp [line, hm]
  obtain ⟨I, hI⟩ : ∃ I : List PV → Ee → Hh → Prop, I = fun r e h3 => ∃ (ins left : List Str) (z : Option PV), e = [some (.cell n), some (.d (.int most)), some (.d (.list (bD bs))), some (.d (nL names)), some (.cell h1.length), some (.cell (h1.length + 1)), z, none, none, none] ∧ Sl n h h3 ∧ h3[h1.length]? = some (.lst (left.map .str)) ∧ h3[h1.length + 1]? = some (.lst (ins.map .str)) ∧ (ins ++ left).Perm names ∧ ins.length + r.length ≤ names.length := ⟨_, rfl⟩
  refine for_rule I ?_ ?_ _ _ _ ?_
  · intro v r e h3 hi
    rw [hI] at hi
    obtain ⟨ins, left, z, rfl, S3, a3, b3, pm, hl⟩ := hi
    have hlen := pm.length_eq
    rw [List.length_append] at hlen
    rw [List.length_cons] at hl
    have nsl : (0 : Int) < left.length := by omega
    simp [sT, setT, primM, b3, a3, mTy]
    refine take_run (k := k + 5) G S3.dk nsl (pow30 (by omega) (by omega)) fun t h4 t0 t1 s4 => ?_
    have a4 := s4.get a3 (by omega)
    have b4 := s4.get b3 (by omega)
    simp [primM, a4]
    refine wp_popS t0 t1 fun x rest px => ?_
    have l4 : h1.length < h4.length := (List.getElem?_eq_some_iff.mp a4).1
    have l5 : h1.length + 1 < h4.length := (List.getElem?_eq_some_iff.mp b4).1
    have b5 : (h4.set h1.length (.lst (rest.map .str)))[h1.length + 1]? = some (.lst (ins.map .str)) := by
      rw [List.getElem?_set_ne (by omega)]
      exact b4
    have hil : ins.length < 16777216 := by omega
    simp [primM, line, b5, hil]
    rw [hI]
    refine ⟨ins ++ [x], rest, _, rfl, ((S3.trans s4.1).set (by omega) (by omega)).set (by omega) (by omega), ?_, ?_, ?_, ?_⟩
    · rw [List.getElem?_set_ne (by omega), List.getElem?_set_self l4]
    · rw [List.getElem?_set_self (by rw [List.length_set]; exact l5), List.map_append]
      rfl
    · rw [List.append_assoc]
      exact (px.append_left _).trans pm
    · rw [List.length_append, List.length_singleton]
      omega
  · intro e h3 hi
    rw [hI] at hi
    obtain ⟨ins, left, z, rfl, S3, a3, b3, pm, hl⟩ := hi
    simp
    refine take_run (k := k + 5) G S3.dk m0 (pow30 (by omega) (by omega)) fun t h4 t0 t1 s4 => ?_
    have b4 := s4.get b3 (by omega)
    have ht : -16777216 ≤ 1 + t ∧ 1 + t ≤ 16777216 := by omega
    simp [b4, line, ht]
    have S4 : Sl n h (h4.set (h1.length + 1) .dead) := (S3.trans s4.1).set (by omega) (by omega)
    have rl : (rngL 0 (1 + t)).length = (1 + t).toNat := by
      rw [rngL_len]
      congr 1
      omega
    refine wp_mono (comp_rule (fun r acc h5 => ∃ nds : List Nd, acc = nds.map Nd.d ∧ (∀ s ∈ nds, s.good names (1 + t)) ∧ Sl n h h5 ∧ nds.length + r.length = (1 + t).toNat) (Q := fun acc h5 => ∃ nds : List Nd, acc = nds.map Nd.d ∧ (∀ s ∈ nds, s.good names (1 + t)) ∧ Sl n h h5 ∧ nds.length = (1 + t).toNat) ?_ ?_ _ [] _ ⟨[], rfl, by simp, S4, by rw [rl]; simp⟩) ?_
    · rintro v r acc h5 ⟨nds, rfl, g, S5, hc⟩
      simp [sT, setT]
      refine node_run G nm (by omega) (by omega) S5.dk fun s h6 gs s6 => ?_
      refine ⟨_, rfl, nds ++ [s], by simp, ?_, S5.trans s6.1, ?_⟩
      · intro y hy
        rcases List.mem_append.mp hy with hy | hy
        · exact g y hy
        · rw [List.mem_singleton] at hy
          subst hy
          exact gs
      · rw [List.length_cons] at hc
        rw [List.length_append, List.length_singleton]
        omega
    · rintro acc h5 ⟨nds, rfl, g, S5, hc⟩
      exact ⟨nds, rfl, g, S5, by rw [List.length_nil] at hc; omega⟩
    · rintro ds h5 ⟨nds, e5, g, S5, hc⟩
      rw [List.nil_append] at e5
      subst e5
      have hle2 : nds.length ≤ 16777216 := by omega
      have hc2 : (nds.length : Int) = 1 + t := by omega
      simp [hle2, line]
      refine q ⟨bs, ins, nds⟩ _ ⟨hbs, ⟨left, ?_⟩, ?_, ?_, fun s hs => ?_, ?_⟩ (Sl.cut d S5)
      · show (ins ++ left).Perm (bs.map (·.1))
        rw [hN]
        exact pm
      · show 0 < nds.length
        omega
      · show (nds.length : Int) ≤ most
        omega
      · show s.good (bs.map (·.1)) (nds.length : Int)
        rw [hN, hc2]
        exact g s hs
      · show ∀ x ∈ bs.map (·.1), x ∈ base8
        rw [hN]
        exact hbase
  · rw [hI]
    refine ⟨[], names, none, rfl, S0.trans s2.1, s2.get a0 (by omega), s2.get b0 (by omega), List.Perm.refl _, ?_⟩
    rw [rngL_len, List.length_nil]
    omega
omit G in
theorem copied_run (L : D.lookup "_law_copied" = some d__law_copied) {k : Nat} {h : Hh} {p : Pg} {Q : PV → Hh → Prop} (l1 : p.bs.length ≤ line) (l2 : p.ins.length ≤ line) (l3 : p.nds.length ≤ line) (q : Q (.d p.d) h) : wp (callN D (k + 1) "_law_copied" [.d p.d] h) Q := by
  refine call_rule L rfl ?_
  have h1 : (bD p.bs).length ≤ line := by simp [bD]; exact l1
  simp [d__law_copied, startE, primM, Pg.d, h1, l2, l3]
  unfold line
  simp
  exact q
end
end PL.A

set_option maxRecDepth 100000
set_option maxHeartbeats 1000000
/-! PL22: decks. -/
namespace PL.A
open PySem PL
/-- of so many binary places -/
def Bd (n : Nat) (i : Int) : Prop := i.natAbs < 2 ^ n
theorem Bd.bits {n : Nat} {i : Int} (h : Bd n i) : bits i ≤ n := by
  unfold PL.bits
  by_cases z : i.natAbs = 0
  · rw [z]
    simp
  · exact Nat.le_of_lt ((Nat.log2_lt z).mpr h)
theorem Bd.mul {n m : Nat} {i j : Int} (a : Bd n i) (b : Bd m j) : Bd (n + m) (i * j) := by
  unfold Bd at *
  rw [Int.natAbs_mul, Nat.pow_add]
  exact Nat.mul_lt_mul'' a b
theorem Bd.mono {n m : Nat} {i : Int} (a : Bd n i) (h : n ≤ m) : Bd m i := Nat.lt_of_lt_of_le a (Nat.pow_le_pow_right (by decide) h)
theorem Bd.add {n : Nat} {i j : Int} (a : Bd n i) (b : Bd n j) : Bd (n + 1) (i + j) := by
  unfold Bd at *
  have := Int.natAbs_add_le i j
  rw [Nat.pow_succ]
  omega
theorem Bd.sub {n : Nat} {i j : Int} (a : Bd n i) (b : Bd n j) : Bd (n + 1) (i - j) := by
  unfold Bd at *
  have := Int.natAbs_sub_le i j
  rw [Nat.pow_succ]
  omega
theorem Bd.of {n : Nat} {i : Int} (h0 : 0 ≤ i) (h1 : i < 2 ^ n) : Bd n i := by
  unfold Bd
  have : (i.natAbs : Int) < ((2 ^ n : Nat) : Int) := by
    rw [Int.natAbs_of_nonneg h0, Int.natCast_pow]
    exact h1
  exact Int.ofNat_lt.mp this
@[simp] theorem int_eq (i : Int) : int i = .d (.int i) := rfl
theorem wp_if {α : Type} {c : Prop} [Decidable c] {m : Out α} {Q : α → Hh → Prop} (hc : c) (q : wp m Q) : wp (if c then m else .stuck) Q := by
  rw [if_pos hc]
  exact q
section
variable {D : Defs} (G : Gn D)
include G
theorem stir_run {k : Nat} {cell : Int} {j : Int} {h : Hh} (j0 : 0 ≤ j) (j1 : j < 16) {Q : PV → Hh → Prop} (q : ∀ v, Bd 210 v → Q (.d (.int v)) h) : wp (callN D (k + 1) "_law_stir" [.d (.int cell), .d (.int j)] h) Q := by
  refine call_rule G._law_stir rfl ?_
  have b1 : Bd 133 (cell % 10000000000000000000000000000000000000000) := Bd.of (Int.emod_nonneg _ (by decide)) (Int.lt_trans (Int.emod_lt_of_pos _ (by decide)) (by decide))
  have b2 : Bd 5 (j + 1) := Bd.of (by omega) (by omega)
  have bj : Bd 5 j := Bd.of (by omega) (by omega)
  simp [d__law_stir, startE, primM]
  refine wp_if ?_ ?_
  · have := b1.bits
    have := (show Bd 16 48271 by unfold Bd; decide).bits
    omega
  have b3 := b1.mul (show Bd 16 48271 by unfold Bd; decide)
  generalize cell % 10000000000000000000000000000000000000000 * 48271 = c1 at *
  simp
  refine wp_if ?_ ?_
  · have := b2.bits
    have := (show Bd 100 42391158275216203514294433201 by unfold Bd; decide).bits
    omega
  have b4 := (show Bd 100 42391158275216203514294433201 by unfold Bd; decide).mul b2
  generalize 42391158275216203514294433201 * (j + 1) = c2 at *
  simp
  refine wp_if ?_ ?_
  · have := b4.bits
    have := b2.bits
    omega
  have b5 := b4.mul b2
  generalize c2 * (j + 1) = c3 at *
  simp
  have b6 := ((b3.add (b5.mono (by decide))).add (bj.mono (by decide)))
  generalize c1 + c3 + j = c4 at *
  refine wp_if ?_ ?_
  · have := b6.bits
    omega
  simp
  refine wp_if ?_ ?_
  · have := b6.bits
    have := (show Bd 20 69621 by unfold Bd; decide).bits
    omega
  have b7 := (b6.mul b6).add (((show Bd 20 69621 by unfold Bd; decide).mul b6).mono (by decide))
  simp
  generalize c4 * c4 + 69621 * c4 = c5 at *
  refine wp_if ?_ ?_
  · have := b7.bits
    omega
  have b8 : 0 ≤ c5 * c5 % 10000000000000000000000000000000000000000000000000000000000007 / 8 := Int.ediv_nonneg (Int.emod_nonneg _ (by decide)) (by decide)
  have b9 : c5 * c5 % 10000000000000000000000000000000000000000000000000000000000007 / 8 < 2 ^ 210 := by
    have : c5 * c5 % 10000000000000000000000000000000000000000000000000000000000007 < 10000000000000000000000000000000000000000000000000000000000007 := Int.emod_lt_of_pos _ (by decide)
    omega
  simp
  refine wp_if (show bits 8 < 9000 by decide) ?_
  simp
  exact q _ (Bd.of b8 b9)
theorem deck_run {k : Nat} {cell : Int} {h : Hh} {Q : PV → Hh → Prop} (q : ∀ d, Q (.cell h.length) (h ++ [.lst [.int d]])) : wp (callN D (k + 2) "_law_deck" [.d (.int cell)] h) Q := by
  refine call_rule G._law_deck rfl ?_
  simp [d__law_deck, startE, primM, line]
  refine ⟨fun _ => ?_, fun _ => ?_⟩
  · simp [pack]
    exact q _
  · refine stir_run G (by decide) (by decide) fun v1 h1 => ?_
    refine wp_if ?_ ?_
    · have := h1.bits
      have := (show Bd 210 1000000000000000000000000000000000000000000000000000000000000 by unfold Bd; decide).bits
      omega
    try simp
    refine stir_run G (by decide) (by decide) fun v2 h2 => ?_
    try simp
    have h3 := (h1.mul (show Bd 210 1000000000000000000000000000000000000000000000000000000000000 by unfold Bd; decide)).add (h2.mono (by decide))
    refine wp_if ?_ ?_
    · have := h3.bits
      have := (show Bd 210 1000000000000000000000000000000000000000000000000000000000000 by unfold Bd; decide).bits
      omega
    try simp
    refine stir_run G (by decide) (by decide) fun v3 h4 => ?_
    simp [line, pack]
    exact q _
end
end PL.A

set_option maxRecDepth 100000
set_option maxHeartbeats 4000000
/-! PL23: texts of k03. -/
namespace PL.A
open PySem PL
def d_boxes_named : Def := ⟨["told"], ["told", "found", "pile", "one", "part"],
  (.cons (.asg (.nm 1) (.prim (.lst true) .nil))
  (.cons (.asg (.nm 2) (.prim (.lst true) (.cons (.var 0) .nil)))
  (.cons (.whl fuel (.prim .ne (.cons (.var 2) (.cons (.prim (.lst false) .nil) .nil))) (.cons (.asg (.nm 3) (.meth .pop (.var 2) .nil))
  (.cons (.ite (.prim .eq (.cons (.prim .idx (.cons (.var 3) (.cons (.cst (.int 0)) .nil))) (.cons (.cst (.str "box")) .nil))) (.cons (.expr (.meth .append (.var 1) (.cons (.prim .idx (.cons (.var 3) (.cons (.cst (.int 1)) .nil))) .nil)))
  .nil) (.cons (.expr (.meth .extend (.var 2) (.cons (.comp false [4] (.nm 4) (.seq (.prim (.slc false true false) (.cons (.var 3) (.cons (.cst (.int 1)) .nil)))) (.cons (.prim (.isTy "tuple") (.cons (.var 4) .nil)) .nil) (.var 4)) .nil)))
  .nil))
  .nil)))
  (.cons (.ret (.frz (.var 1)))
  .nil))))⟩
def d_names_of : Def := ⟨["program"], ["program", "name", "size"],
  (.cons (.ret (.comp false [1, 2] (.tup [(.nm 1), (.nm 2)]) (.seq (.prim .idx (.cons (.var 0) (.cons (.cst (.int 0)) .nil)))) .nil (.var 1)))
  .nil)⟩
def d_worth_in : Def := ⟨["known", "told"], ["known", "told"],
  (.cons (.ite (.prim .eq (.cons (.prim .idx (.cons (.var 1) (.cons (.cst (.int 0)) .nil))) (.cons (.cst (.str "number")) .nil))) (.cons (.ret (.prim .idx (.cons (.var 1) (.cons (.cst (.int 1)) .nil))))
  .nil) .nil)
  (.cons (.ite (.prim .eq (.cons (.prim .idx (.cons (.var 1) (.cons (.cst (.int 0)) .nil))) (.cons (.cst (.str "box")) .nil))) (.cons (.ret (.prim .idx (.cons (.var 0) (.cons (.prim .idx (.cons (.var 1) (.cons (.cst (.int 1)) .nil))) .nil))))
  .nil) .nil)
  (.cons (.ite (.prim .eq (.cons (.prim .idx (.cons (.var 1) (.cons (.cst (.int 0)) .nil))) (.cons (.cst (.str "plus")) .nil))) (.cons (.ret (.prim (.add false) (.cons (.call "worth_in" (.cons (.var 0) (.cons (.prim .idx (.cons (.var 1) (.cons (.cst (.int 1)) .nil))) .nil))) (.cons (.call "worth_in" (.cons (.var 0) (.cons (.prim .idx (.cons (.var 1) (.cons (.cst (.int 2)) .nil))) .nil))) .nil))))
  .nil) .nil)
  (.cons (.ret (.prim .sub (.cons (.call "worth_in" (.cons (.var 0) (.cons (.prim .idx (.cons (.var 1) (.cons (.cst (.int 1)) .nil))) .nil))) (.cons (.call "worth_in" (.cons (.var 0) (.cons (.prim .idx (.cons (.var 1) (.cons (.cst (.int 2)) .nil))) .nil))) .nil))))
  .nil))))⟩
def d_need_worths : Def := ⟨["program", "worths"], ["program", "worths", "worth", "name", "size"],
  (.cons (.ite (.prim .ne (.cons (.prim .len (.cons (.var 1) .nil)) (.cons (.prim .len (.cons (.prim .idx (.cons (.var 0) (.cons (.cst (.int 0)) .nil))) .nil)) .nil))) (.cons (.raise "NoWorths")
  .nil) .nil)
  (.cons (.for_ (.tup [(.nm 2), (.tup [(.nm 3), (.nm 4)])]) (.zip (.var 1) (.prim .idx (.cons (.var 0) (.cons (.cst (.int 0)) .nil)))) (.cons (.ite (.not (.chain .le .lt (.cst (.int 0)) (.var 2) (.var 4))) (.cons (.raise "NoWorths")
  .nil) .nil)
  .nil))
  .nil))⟩
def d_known_by : Def := ⟨["program", "worths"], ["program", "worths"],
  (.cons (.ret (.prim .dictZip (.cons (.call "names_of" (.cons (.var 0) .nil)) (.cons (.var 1) .nil))))
  .nil)⟩
def d_need_known : Def := ⟨["program", "worths", "told"], ["program", "worths", "told", "known", "name"],
  (.cons (.expr (.call "need_worths" (.cons (.var 0) (.cons (.var 1) .nil))))
  (.cons (.asg (.nm 3) (.call "known_by" (.cons (.var 0) (.cons (.var 1) .nil))))
  (.cons (.ite (.prim .ne (.cons (.comp false [4] (.nm 4) (.seq (.call "boxes_named" (.cons (.var 2) .nil))) (.cons (.prim .notIn (.cons (.var 4) (.cons (.var 3) .nil))) .nil) (.var 4)) (.cons (.prim (.lst false) .nil) .nil))) (.cons (.raise "NoProgram")
  .nil) .nil)
  (.cons (.ret (.var 3))
  .nil))))⟩
def d_sum_worth : Def := ⟨["program", "worths", "sum_told"], ["program", "worths", "sum_told"],
  (.cons (.ret (.call "worth_in" (.cons (.call "need_known" (.cons (.var 0) (.cons (.var 1) (.cons (.var 2) .nil)))) (.cons (.var 2) .nil))))
  .nil)⟩
def d__law_value : Def := ⟨["known", "told"], ["known", "told", "one", "other", "part"],
  (.cons (.ite (.prim .eq (.cons (.prim .idx (.cons (.var 1) (.cons (.cst (.int 0)) .nil))) (.cons (.cst (.str "number")) .nil))) (.cons (.ret (.prim .idx (.cons (.var 1) (.cons (.cst (.int 1)) .nil))))
  .nil) .nil)
  (.cons (.ite (.prim .eq (.cons (.prim .idx (.cons (.var 1) (.cons (.cst (.int 0)) .nil))) (.cons (.cst (.str "box")) .nil))) (.cons (.ret (.prim .idx (.cons (.var 0) (.cons (.prim .idx (.cons (.var 1) (.cons (.cst (.int 1)) .nil))) .nil))))
  .nil) .nil)
  (.cons (.asg (.tup [(.nm 2), (.nm 3)]) (.comp false [4] (.nm 4) (.seq (.prim (.slc false true false) (.cons (.var 1) (.cons (.cst (.int 1)) .nil)))) .nil (.call "_law_value" (.cons (.var 0) (.cons (.var 4) .nil)))))
  (.cons (.ret (.prim (.add false) (.cons (.var 2) (.cons (.prim .mul (.cons (.prim .idx (.cons (.prim (.lst false) (.cons (.cst (.int 1)) (.cons (.prim .neg (.cons (.cst (.int 1)) .nil)) .nil))) (.cons (.prim .int (.cons (.prim .eq (.cons (.prim .idx (.cons (.var 1) (.cons (.cst (.int 0)) .nil))) (.cons (.cst (.str "less")) .nil))) .nil)) .nil))) (.cons (.var 3) .nil))) .nil))))
  .nil))))⟩
def d__law_holds : Def := ⟨["known", "told"], ["known", "told", "off", "part"],
  (.cons (.ite (.prim .inn (.cons (.prim .idx (.cons (.var 1) (.cons (.cst (.int 0)) .nil))) (.cons (.prim .tup (.cons (.cst (.str "yes")) (.cons (.cst (.str "not")) .nil))) .nil))) (.cons (.ret (.or (.cons (.prim .eq (.cons (.prim .idx (.cons (.var 1) (.cons (.cst (.int 0)) .nil))) (.cons (.cst (.str "yes")) .nil))) (.cons (.not (.call "_law_holds" (.cons (.var 0) (.cons (.prim .idx (.cons (.var 1) (.cons (.cst (.int 1)) .nil))) .nil)))) .nil))))
  .nil) .nil)
  (.cons (.ite (.prim .eq (.cons (.prim .idx (.cons (.var 1) (.cons (.cst (.int 0)) .nil))) (.cons (.cst (.str "both")) .nil))) (.cons (.ret (.prim .eq (.cons (.comp false [3] (.nm 3) (.seq (.prim (.slc false true false) (.cons (.var 1) (.cons (.cst (.int 1)) .nil)))) (.cons (.not (.call "_law_holds" (.cons (.var 0) (.cons (.var 3) .nil)))) .nil) (.var 3)) (.cons (.prim (.lst false) .nil) .nil))))
  .nil) .nil)
  (.cons (.asg (.nm 2) (.prim .sub (.cons (.call "_law_value" (.cons (.var 0) (.cons (.prim .idx (.cons (.var 1) (.cons (.cst (.int 2)) .nil))) .nil))) (.cons (.call "_law_value" (.cons (.var 0) (.cons (.prim .idx (.cons (.var 1) (.cons (.cst (.int 1)) .nil))) .nil))) .nil))))
  (.cons (.ret (.prim .idx (.cons (.prim (.lst false) (.cons (.prim .gt (.cons (.var 2) (.cons (.cst (.int 0)) .nil))) (.cons (.prim .eq (.cons (.var 2) (.cons (.cst (.int 0)) .nil))) .nil))) (.cons (.prim .int (.cons (.prim .eq (.cons (.prim .idx (.cons (.var 1) (.cons (.cst (.int 0)) .nil))) (.cons (.cst (.str "same")) .nil))) .nil)) .nil))))
  .nil))))⟩
def d__law_worths : Def := ⟨["deck", "boxes"], ["deck", "boxes", "name", "size"],
  (.cons (.ret (.comp false [2, 3] (.tup [(.nm 2), (.nm 3)]) (.seq (.var 1)) .nil (.call "_law_take" (.cons (.var 0) (.cons (.var 3) .nil)))))
  .nil)⟩
def d__law_known : Def := ⟨["program", "worths"], ["program", "worths", "k"],
  (.cons (.ret (.prim .dictPairs (.cons (.comp false [2] (.nm 2) (.rng1 (.prim .len (.cons (.var 1) .nil))) .nil (.prim .tup (.cons (.prim .idx (.cons (.prim .idx (.cons (.prim .idx (.cons (.var 0) (.cons (.cst (.int 0)) .nil))) (.cons (.var 2) .nil))) (.cons (.cst (.int 0)) .nil))) (.cons (.prim .idx (.cons (.var 1) (.cons (.var 2) .nil))) .nil)))) .nil)))
  .nil)⟩
def d__law_deep : Def := ⟨["deck", "names", "many"], ["deck", "names", "many", "told", "k", "other"],
  (.cons (.asg (.nm 3) (.call "_law_sum" (.cons (.var 0) (.cons (.var 1) (.cons (.cst (.int 0)) .nil)))))
  (.cons (.for_ (.nm 4) (.rng1 (.var 2)) (.cons (.asg (.nm 5) (.call "_law_sum" (.cons (.var 0) (.cons (.var 1) (.cons (.cst (.int 0)) .nil)))))
  (.cons (.asg (.nm 3) (.prim .idx (.cons (.prim (.lst false) (.cons (.prim .tup (.cons (.cst (.str "plus")) (.cons (.var 3) (.cons (.var 5) .nil)))) (.cons (.prim .tup (.cons (.cst (.str "less")) (.cons (.var 5) (.cons (.var 3) .nil)))) (.cons (.prim .tup (.cons (.cst (.str "less")) (.cons (.var 3) (.cons (.var 5) .nil)))) .nil)))) (.cons (.call "_law_take" (.cons (.var 0) (.cons (.cst (.int 3)) .nil))) .nil))))
  .nil)))
  (.cons (.ret (.var 3))
  .nil)))⟩
end PL.A

set_option maxRecDepth 100000
set_option maxHeartbeats 1000000
/-! PL24: what a sum is worth. -/
namespace PL.A
open PySem PL
abbrev Kw := List (Str × Int)
def kd (kw : Kw) : List (PyData × PyData) := kw.map fun p => (.str p.1, .int p.2)
def Sm.val (kw : Kw) : Sm → Int
  | .num i => i
  | .box x => (kw.lookup x).getD 0
  | .plus a b => a.val kw + b.val kw
  | .less a b => a.val kw - b.val kw
theorem eqv_strs (x y : Str) : PyData.eqv (.str x) (.str y) = (x == y) := by
  simp only [PyData.eqv]
theorem dget_kd (x : Str) : ∀ kw : Kw, dget (kd kw) (.str x) = (kw.lookup x).map .int
  | [] => rfl
  | p :: r => by
    show (if PyData.eqv (.str p.1) (.str x) then some (.int p.2) else dget (kd r) (.str x)) = _
    rw [eqv_strs, dget_kd x r, List.lookup_cons]
    by_cases h : p.1 = x
    · subst h
      simp
    · have h1 : (p.1 == x) = false := beq_eq_false_iff_ne.mpr h
      have h2 : (x == p.1) = false := beq_eq_false_iff_ne.mpr (Ne.symm h)
      rw [h1, h2]
      simp
theorem good_mono {names : List Str} : ∀ {s : Sm} {n m : Nat}, n ≤ m → s.good names n → s.good names m
  | _, 0, _, _, g => by cases g
  | s, n + 1, 0, h, _ => by omega
  | .num _, n + 1, m + 1, _, g => g
  | .box _, n + 1, m + 1, _, g => g
  | .plus a b, n + 1, m + 1, h, g => ⟨good_mono (by omega) g.1, good_mono (by omega) g.2⟩
  | .less a b, n + 1, m + 1, h, g => ⟨good_mono (by omega) g.1, good_mono (by omega) g.2⟩
/-- every name is known -/
structure Kn (names : List Str) (kw : Kw) : Prop where
  all : ∀ x ∈ names, ∃ w, kw.lookup x = some w
  sz : ∀ x w, kw.lookup x = some w → Bd 100 w
theorem val_bd {names : List Str} {kw : Kw} (K : Kn names kw) : ∀ {s : Sm} {n : Nat}, s.good names n → Bd (100 + n) (s.val kw)
  | _, 0, g => by cases g
  | .num i, n + 1, g => (Bd.of (n := 100) g.1 (Int.lt_trans g.2 (by decide))).mono (by omega)
  | .box x, n + 1, g => by
    obtain ⟨w, e⟩ := K.all x g
    show Bd _ ((kw.lookup x).getD 0)
    rw [e]
    exact (K.sz x w e).mono (by omega)
  | .plus a b, n + 1, g => (val_bd K g.1).add (val_bd K g.2)
  | .less a b, n + 1, g => (val_bd K g.1).sub (val_bd K g.2)
@[simp] theorem isKey_str (x : Str) : isKey (.str x) = true := rfl
@[simp] theorem isKey_int (x : Int) : isKey (.int x) = true := rfl
section
variable {D : Defs}
theorem worth_run (L : D.lookup "worth_in" = some d_worth_in) {names : List Str} {kw : Kw} (K : Kn names kw) {h : Hh} : ∀ {n k : Nat} {s : Sm} {Q : PV → Hh → Prop}, s.good names n → Q (.d (.int (s.val kw))) h →
    wp (callN D (k + n) "worth_in" [.d (.dict (kd kw)), .d s.d] h) Q
  | 0, _, _, _, g, _ => by cases g
  | n + 1, k, s, Q, g, q => by
    refine call_rule (k := k + n) L rfl ?_
    cases s with
    | num i =>
      simp [d_worth_in, startE, primM, Sm.d]
      exact q
    | box x =>
      obtain ⟨w, e⟩ := K.all x g
      have q2 : Q (.d (.int ((kw.lookup x).getD 0))) h := q
      rw [e] at q2
      simp [d_worth_in, startE, primM, Sm.d, dget_kd, e]
      exact q2
    | plus a b =>
      simp [d_worth_in, startE, primM, Sm.d]
      refine worth_run L K g.1 ?_
      try simp
      refine worth_run L K g.2 ?_
      try simp
      exact q
    | less a b =>
      simp [d_worth_in, startE, primM, Sm.d]
      refine worth_run L K g.1 ?_
      try simp
      refine worth_run L K g.2 ?_
      try simp
      exact q
theorem cut1 (x : PyData) (r : List PyData) : cut (x :: r) (some 1) none = r := by
  unfold cut six
  simp
theorem value_run (L : D.lookup "_law_value" = some d__law_value) {names : List Str} {kw : Kw} (K : Kn names kw) {h : Hh} : ∀ {n k : Nat} {s : Sm} {Q : PV → Hh → Prop}, n ≤ 60 → s.good names n → Q (.d (.int (s.val kw))) h →
    wp (callN D (k + n) "_law_value" [.d (.dict (kd kw)), .d s.d] h) Q
  | 0, _, _, _, _, g, _ => by cases g
  | n + 1, k, s, Q, hn, g, q => by
    refine call_rule (k := k + n) L rfl ?_
    cases s with
    | num i =>
      simp [d__law_value, startE, primM, Sm.d]
      exact q
    | box x =>
      obtain ⟨w, e⟩ := K.all x g
      have q2 : Q (.d (.int ((kw.lookup x).getD 0))) h := q
      rw [e] at q2
      simp [d__law_value, startE, primM, Sm.d, dget_kd, e]
      exact q2
    | plus a b =>
      have hb := (val_bd K g.2).bits
      have b1 : bits 1 + bits (b.val kw) < 1000000 := by
        have : bits 1 = 0 := by decide
        omega
      simp [d__law_value, startE, primM, Sm.d, cut1, compL, sT, setT, setTs, wipeE, line]
      refine value_run L K (by omega) g.1 ?_
      simp [compL, sT, setT, setTs, wipeE, line]
      refine value_run L K (by omega) g.2 ?_
      simp [compL, sT, setT, setTs, wipeE, line, b1, isTyD, tyD]
      exact q
    | less a b =>
      have hb := (val_bd K g.2).bits
      have b1 : bits (-1) + bits (b.val kw) < 1000000 := by
        have : bits (-1) = 0 := by decide
        omega
      simp [d__law_value, startE, primM, Sm.d, cut1, compL, sT, setT, setTs, wipeE, line]
      refine value_run L K (by omega) g.1 ?_
      simp [compL, sT, setT, setTs, wipeE, line]
      refine value_run L K (by omega) g.2 ?_
      simp [compL, sT, setT, setTs, wipeE, line, b1, isTyD, tyD]
      have e : a.val kw + -b.val kw = a.val kw - b.val kw := by omega
      rw [e]
      exact q
end
end PL.A

set_option maxRecDepth 100000
set_option maxHeartbeats 1000000
/-! PL25: the boxes that a sum names. -/
namespace PL.A
open PySem PL
def popC (o : Option Cl) (n : Nat) (h : Hh) : Out PV := match o with
    | some (.lst ds) => (match ds[ds.length - 1]? with
      | some x => .ok (.d x) (h.set n (.lst ds.dropLast))
      | none => .stuck)
    | _ => .stuck
@[simp] theorem P_pop (n : Nat) (h : Hh) : popM (.cell n) h = popC h[n]? n h := by
  unfold popM popC
  rfl
@[simp] theorem P_popC (n : Nat) (ds : List PyData) (x : PyData) (h : Hh) : popC (some (.lst (ds ++ [x]))) n h = .ok (.d x) (h.set n (.lst ds)) := by
  unfold popC
  simp
def extC (o : Option Cl) (n : Nat) (zs : List PyData) (h : Hh) : Out PV := match o with
    | some (.lst ds) => if ds.length + zs.length ≤ line then .ok (.d .none) (h.set n (.lst (ds ++ zs))) else .stuck
    | _ => .stuck
@[simp] theorem P_ext (n : Nat) (zs : List PyData) (h : Hh) : extendM (.cell n) (.d (.list zs)) h = extC h[n]? n zs h := by
  unfold extendM extC
  simp only [vw]
  try rfl
@[simp] theorem P_extC (n : Nat) (ds zs : List PyData) (h : Hh) : extC (some (.lst ds)) n zs h = if ds.length + zs.length ≤ line then .ok (.d .none) (h.set n (.lst (ds ++ zs))) else .stuck := rfl
theorem take_set' {h : Hh} {n i : Nat} {c : Cl} (hi : n ≤ i) : (h.set i c).take n = h.take n := by
  apply List.ext_getElem?
  intro j
  by_cases hj : j < n
  · rw [List.getElem?_take_of_lt hj, List.getElem?_take_of_lt hj, List.getElem?_set_ne (by omega)]
  · rw [List.getElem?_eq_none (by rw [List.length_take]; omega), List.getElem?_eq_none (by rw [List.length_take]; omega)]
def Sm.sz : Sm → Nat
  | .plus a b => a.sz + b.sz + 1
  | .less a b => a.sz + b.sz + 1
  | _ => 1
theorem sz_pos : ∀ s : Sm, 0 < s.sz
  | .num _ => Nat.zero_lt_one
  | .box _ => Nat.zero_lt_one
  | .plus _ _ => Nat.succ_pos _
  | .less _ _ => Nat.succ_pos _
theorem sz_good {names : List Str} : ∀ {s : Sm} {n : Nat}, s.good names n → s.sz < 2 ^ n
  | _, 0, g => by cases g
  | .num _, n + 1, _ => by
    have := Nat.two_pow_pos n
    show 1 < 2 ^ (n + 1)
    rw [Nat.pow_succ]
    omega
  | .box _, n + 1, _ => by
    have := Nat.two_pow_pos n
    show 1 < 2 ^ (n + 1)
    rw [Nat.pow_succ]
    omega
  | .plus a b, n + 1, g => by
    have h1 := sz_good g.1
    have h2 := sz_good g.2
    show a.sz + b.sz + 1 < 2 ^ (n + 1)
    rw [Nat.pow_succ]
    omega
  | .less a b, n + 1, g => by
    have h1 := sz_good g.1
    have h2 := sz_good g.2
    show a.sz + b.sz + 1 < 2 ^ (n + 1)
    rw [Nat.pow_succ]
    omega
/-- data that may be compared, so deep at most -/
structure Sh (n : Nat) (d : PyData) : Prop where
  lay : d.canLay0 = true
  dep : d.depth ≤ n
theorem Sh.shaped {n : Nat} {d : PyData} (s : Sh n d) (h : n ≤ 64) : SeqAt.shaped d = true := Bool.and_eq_true_iff.mpr ⟨s.lay, decide_eq_true (Nat.le_trans s.dep h)⟩
theorem Sh.mono {n m : Nat} {d : PyData} (s : Sh n d) (h : n ≤ m) : Sh m d := ⟨s.lay, Nat.le_trans s.dep h⟩
theorem sh_all {n : Nat} : ∀ {l : List PyData}, (∀ d ∈ l, Sh n d) → PyData.canLayAll0 l = true ∧ PyData.depthAll l ≤ n
  | [], _ => ⟨rfl, Nat.zero_le _⟩
  | x :: r, h => by
    obtain ⟨h1, h2⟩ := sh_all (l := r) fun d hd => h d (List.mem_cons_of_mem _ hd)
    have h3 := h x List.mem_cons_self
    refine ⟨?_, ?_⟩
    · simp only [PyData.canLayAll0, h3.lay, h1, Bool.and_self]
    · simp only [PyData.depthAll]
      have := h3.dep
      omega
theorem Sh.list {n : Nat} {l : List PyData} (h : ∀ d ∈ l, Sh n d) : Sh (n + 1) (.list l) := by
  obtain ⟨h1, h2⟩ := sh_all h
  exact ⟨by simp only [PyData.canLay0, h1], by simp only [PyData.depth]; omega⟩
theorem Sh.tup {n : Nat} {l : List PyData} (h : ∀ d ∈ l, Sh n d) : Sh (n + 1) (.tuple l) := by
  obtain ⟨h1, h2⟩ := sh_all h
  exact ⟨by simp only [PyData.canLay0, h1], by simp only [PyData.depth]; omega⟩
theorem Sh.int (n : Nat) (i : Int) : Sh n (.int i) := ⟨rfl, Nat.zero_le _⟩
theorem Sh.str {n : Nat} {x : Str} (h : PyData.strOk x = true) : Sh n (.str x) := ⟨h, Nat.zero_le _⟩
theorem Sh.ofs (n : Nat) (x : String) : Sh n (.str (Str.ofString x)) := .str (strOk_ofs x)
theorem sh_sm {names : List Str} (hN : Nm names) : ∀ {s : Sm} {n : Nat}, s.good names n → Sh n s.d
  | _, 0, g => by cases g
  | .num i, n + 1, _ => .tup fun d hd => by
    simp only [List.mem_cons, List.not_mem_nil, or_false] at hd
    rcases hd with rfl | rfl
    · exact .ofs _ _
    · exact .int _ _
  | .box x, n + 1, g => .tup fun d hd => by
    simp only [List.mem_cons, List.not_mem_nil, or_false] at hd
    rcases hd with rfl | rfl
    · exact .ofs _ _
    · exact .str (hN.ok x g)
  | .plus a b, n + 1, g => .tup fun d hd => by
    simp only [List.mem_cons, List.not_mem_nil, or_false] at hd
    rcases hd with rfl | rfl | rfl
    · exact .ofs _ _
    · exact sh_sm hN g.1
    · exact sh_sm hN g.2
  | .less a b, n + 1, g => .tup fun d hd => by
    simp only [List.mem_cons, List.not_mem_nil, or_false] at hd
    rcases hd with rfl | rfl | rfl
    · exact .ofs _ _
    · exact sh_sm hN g.1
    · exact sh_sm hN g.2
def szs (ss : List Sm) : Nat := (ss.map Sm.sz).sum
theorem szs_len : ∀ ss : List Sm, ss.length ≤ szs ss
  | [] => Nat.le_refl _
  | s :: r => by
    have := szs_len r
    have := sz_pos s
    show r.length + 1 ≤ (s.sz :: r.map Sm.sz).sum
    rw [List.sum_cons]
    unfold szs at *
    omega
theorem szs_app (a b : List Sm) : szs (a ++ b) = szs a + szs b := by
  unfold szs
  rw [List.map_append, List.sum_append]
theorem isTup_sm (s : Sm) : isTyD "tuple" s.d = true := by
  cases s <;> rfl
section
variable {D : Defs}
theorem named_run (L : D.lookup "boxes_named" = some d_boxes_named) {names : List Str} (hN : Nm names) {h : Hh} {N k : Nat} (hN2 : N ≤ 22) {s : Sm} {Q : PV → Hh → Prop} (g : s.good names N) (q : ∀ bx : List Str, (∀ x ∈ bx, x ∈ names) → bx.length < 2 ^ 22 → Q (.d (nL bx)) h) :
    wp (callN D (k + 1) "boxes_named" [.d s.d] h) Q := by
  refine call_rule L rfl ?_
  simp [d_boxes_named, startE, primM, line]
  obtain ⟨I, hI⟩ : ∃ I : Nat → Ee → Hh → Prop, I = fun m e h2 => ∃ (ss : List Sm) (bx : List Str) (z : Option PV), e = [some (.d s.d), some (.cell h.length), some (.cell (h.length + 1)), z, none] ∧ h2.take h.length = h ∧ h.length + 2 ≤ h2.length ∧ h2[h.length]? = some (.lst (bx.map .str)) ∧ h2[h.length + 1]? = some (.lst (ss.map Sm.d)) ∧ (∀ x ∈ bx, x ∈ names) ∧ (∀ t ∈ ss, t.good names N) ∧ m = szs ss ∧ bx.length + szs ss < 2 ^ 22 := ⟨_, rfl⟩
  have hs := sz_good g
  have hp : 2 ^ N ≤ 2 ^ 22 := Nat.pow_le_pow_right (by decide) hN2
  refine whl_rule I ?_ _ s.sz _ _ (by unfold fuel; omega) ?_
  · intro m e h2 hi
    rw [hI] at hi
    obtain ⟨ss, bx, z, rfl, e1, e2, a2, b2, hb, hss, rfl, hc⟩ := hi
    have shp : ok2 (.list (ss.map Sm.d)) (.list []) = true := ok2_l ((Sh.list (n := N) fun d hd => by
      obtain ⟨t, ht, rfl⟩ := List.mem_map.mp hd
      exact sh_sm hN (hss t ht)).shaped (by omega)) (by decide)
    simp [primM, b2, shp, eqv_nil, line]
    refine ⟨fun ne => ?_, fun hz => ?_⟩
    · obtain ⟨r, t, rfl⟩ : ∃ r t, ss = r ++ [t] := by
        rcases List.eq_nil_or_concat ss with z | ⟨r, t, z⟩
        · exact absurd z ne
        · exact ⟨r, t, by rw [z, List.concat_eq_append]⟩
      have ht := hss t (by simp)
      have hr : ∀ u ∈ r, u.good names N := fun u hu => hss u (List.mem_append_left _ hu)
      have hsz : szs (r ++ [t]) = szs r + t.sz := by
        rw [szs_app]
        simp [szs]
      have hrl := szs_len r
      have l2 : h.length + 1 < h2.length := by omega
      have l1 : h.length < h2.length := by omega
      simp [b2, mTy]
      have a3 : (h2.set (h.length + 1) (.lst (r.map Sm.d)))[h.length]? = some (.lst (bx.map .str)) := by
        rw [List.getElem?_set_ne (by omega)]
        exact a2
      have b3 : (h2.set (h.length + 1) (.lst (r.map Sm.d)))[h.length + 1]? = some (.lst (r.map Sm.d)) := List.getElem?_set_self l2
      have e3 : (h2.set (h.length + 1) (.lst (r.map Sm.d))).take h.length = h := by
        rw [take_set' (by omega), e1]
      have e4 : (h2.set (h.length + 1) (.lst (r.map Sm.d))).length = h2.length := List.length_set
      generalize h2.set (h.length + 1) (.lst (r.map Sm.d)) = h3 at *
      cases t with
      | box x =>
        have hbl : bx.length < 16777216 := by omega
        simp [Sm.d, primM, a3, line, hbl, mTy]
        refine ⟨szs r, by rw [hsz]; have := sz_pos (.box x); omega, ?_⟩
        rw [hI]
        refine ⟨r, bx ++ [x], _, rfl, by rw [take_set' (Nat.le_refl _), e3], by rw [List.length_set]; omega, ?_, ?_, ?_, hr, rfl, ?_⟩
        · rw [List.getElem?_set_self (by omega), List.map_append]
          rfl
        · rw [List.getElem?_set_ne (by omega)]
          exact b3
        · intro y hy
          rcases List.mem_append.mp hy with hy | hy
          · exact hb y hy
          · rw [List.mem_singleton] at hy
            subst hy
            cases N with
            | zero => cases ht
            | succ N => exact ht
        · have : (Sm.box x).sz = 1 := rfl
          rw [List.length_append, List.length_singleton]
          omega
      | num i =>
        have hrl2 : r.length ≤ 16777216 := by omega
        simp [Sm.d, primM, b3, line, hrl2, mTy, cut1, compL, sT, setT, wipeE, isTyD, tyD]
        refine ⟨szs r, by rw [hsz]; have := sz_pos (.num i); omega, ?_⟩
        rw [hI]
        refine ⟨r, bx, _, rfl, by rw [take_set' (by omega), e3], by rw [List.length_set]; omega, ?_, ?_, hb, hr, rfl, ?_⟩
        · rw [List.getElem?_set_ne (by omega)]
          exact a3
        · rw [List.getElem?_set_self (by omega)]
        · omega
      | plus a b =>
        have hab : (Sm.plus a b).sz = a.sz + b.sz + 1 := rfl
        have hs2 : szs (r ++ [a, b]) = szs r + (a.sz + b.sz) := by
          rw [szs_app]
          simp [szs]
        have pa := sz_pos a
        have pb := sz_pos b
        have hrl2 : r.length + 2 ≤ 16777216 := by omega
        simp [Sm.d, primM, b3, line, hrl2, mTy, cut1, compL, sT, setT, wipeE, isTup_sm]
        refine ⟨szs (r ++ [a, b]), by omega, ?_⟩
        rw [hI]
        refine ⟨r ++ [a, b], bx, _, rfl, by rw [take_set' (by omega), e3], by rw [List.length_set]; omega, ?_, ?_, hb, ?_, rfl, ?_⟩
        · rw [List.getElem?_set_ne (by omega)]
          exact a3
        · rw [List.getElem?_set_self (by omega), List.map_append]
          rfl
        · intro u hu
          rcases List.mem_append.mp hu with hu | hu
          · exact hr u hu
          · cases N with
            | zero => cases ht
            | succ N =>
              simp only [List.mem_cons, List.not_mem_nil, or_false] at hu
              rcases hu with rfl | rfl
              · exact good_mono (Nat.le_succ _) ht.1
              · exact good_mono (Nat.le_succ _) ht.2
        · omega
      | less a b =>
        have hab : (Sm.less a b).sz = a.sz + b.sz + 1 := rfl
        have hs2 : szs (r ++ [a, b]) = szs r + (a.sz + b.sz) := by
          rw [szs_app]
          simp [szs]
        have pa := sz_pos a
        have pb := sz_pos b
        have hrl2 : r.length + 2 ≤ 16777216 := by omega
        simp [Sm.d, primM, b3, line, hrl2, mTy, cut1, compL, sT, setT, wipeE, isTup_sm]
        refine ⟨szs (r ++ [a, b]), by omega, ?_⟩
        rw [hI]
        refine ⟨r ++ [a, b], bx, _, rfl, by rw [take_set' (by omega), e3], by rw [List.length_set]; omega, ?_, ?_, hb, ?_, rfl, ?_⟩
        · rw [List.getElem?_set_ne (by omega)]
          exact a3
        · rw [List.getElem?_set_self (by omega), List.map_append]
          rfl
        · intro u hu
          rcases List.mem_append.mp hu with hu | hu
          · exact hr u hu
          · cases N with
            | zero => cases ht
            | succ N =>
              simp only [List.mem_cons, List.not_mem_nil, or_false] at hu
              rcases hu with rfl | rfl
              · exact good_mono (Nat.le_succ _) ht.1
              · exact good_mono (Nat.le_succ _) ht.2
        · omega
    · subst hz
      simp [a2]
      rw [take_set' (Nat.le_refl _), e1]
      exact q bx hb (by omega)
  · rw [hI]
    refine ⟨[s], [], none, rfl, by simp, by simp, by simp, by simp, by simp, by simpa using g, by simp [szs], by simp [szs]; omega⟩
end
end PL.A

set_option maxRecDepth 100000
set_option maxHeartbeats 1000000
/-! PL26: worths, what is known. -/
namespace PL.A
open PySem PL
def Wk : Bs → List Int → Prop
  | [], [] => True
  | b :: bs, w :: ws => 0 ≤ w ∧ w < b.2 ∧ Wk bs ws
  | _, _ => False
abbrev iL (ws : List Int) : PyData := .list (ws.map .int)
abbrev kwOf (bs : Bs) (ws : List Int) : Kw := (bs.map (·.1)).zip ws
theorem Wk.len : ∀ {bs : Bs} {ws : List Int}, Wk bs ws → ws.length = bs.length
  | [], [], _ => rfl
  | [], _ :: _, h => h.elim
  | _ :: _, [], h => h.elim
  | _ :: _, _ :: _, h => congrArg (· + 1) (Wk.len h.2.2)
theorem Wk.kn : ∀ {bs : Bs} {ws : List Int}, Wk bs ws → (∀ b ∈ bs, b.2 ≤ 16) → Kn (bs.map (·.1)) (kwOf bs ws)
  | [], [], _, _ => ⟨fun _ h => (by cases h), fun _ _ h => (by cases h)⟩
  | [], _ :: _, h, _ => h.elim
  | _ :: _, [], h, _ => h.elim
  | b :: bs, w :: ws, h, hs => by
    have k := Wk.kn h.2.2 fun c hc => hs c (List.mem_cons_of_mem _ hc)
    have hb := hs b List.mem_cons_self
    refine ⟨fun x hx => ?_, fun x v e => ?_⟩
    · show ∃ v, ((b.1, w) :: kwOf bs ws).lookup x = some v
      rw [List.lookup_cons]
      by_cases e : x = b.1
      · subst e
        simp
      · have : (x == b.1) = false := beq_eq_false_iff_ne.mpr e
        rw [this]
        rw [List.map_cons] at hx
        rcases List.mem_cons.mp hx with hx | hx
        · exact absurd hx e
        · exact k.all x hx
    · replace e : ((b.1, w) :: kwOf bs ws).lookup x = some v := e
      rw [List.lookup_cons] at e
      split at e
      · cases e
        exact Bd.of h.1 (by have := h.2.1; omega)
      · exact k.sz x v e
theorem dput_new : ∀ {acc : Kw} {x : Str} {w : Int}, x ∉ acc.map (·.1) → dput (kd acc) (.str x) (.int w) = kd (acc ++ [(x, w)])
  | [], _, _, _ => rfl
  | p :: r, x, w, h => by
    rw [List.map_cons, List.mem_cons, not_or] at h
    show (if PyData.eqv (.str p.1) (.str x) then _ else _) = _
    have : (p.1 == x) = false := beq_eq_false_iff_ne.mpr (Ne.symm h.1)
    rw [eqv_strs, this]
    show (PyData.str p.1, PyData.int p.2) :: dput (kd r) (.str x) (.int w) = _
    rw [dput_new h.2]
    rfl
theorem dputs_nd : ∀ {kw acc : Kw}, ((acc ++ kw).map (·.1)).Nodup → dputs (kd acc) (kd kw) = kd (acc ++ kw)
  | [], acc, _ => by
    rw [List.append_nil]
    rfl
  | p :: r, acc, h => by
    show dputs (dput (kd acc) (.str p.1) (.int p.2)) (kd r) = _
    have hx : p.1 ∉ acc.map (·.1) := by
      rw [List.map_append, List.nodup_append] at h
      exact fun z => h.2.2 p.1 z p.1 (by simp) rfl
    rw [dput_new hx, dputs_nd (by rw [List.append_assoc]; exact h), List.append_assoc]
    rfl
theorem fst_zip : ∀ {xs : List Str} {ws : List Int}, ws.length = xs.length → (xs.zip ws).map (·.1) = xs
  | [], _, _ => rfl
  | _ :: _, [], h => by simp at h
  | x :: xs, w :: ws, h => by
    show x :: (xs.zip ws).map (·.1) = _
    rw [fst_zip (by simpa using h)]
theorem zip_kd : ∀ (xs : List Str) (ws : List Int), (xs.map PyData.str).zip (ws.map PyData.int) = kd (xs.zip ws)
  | [], _ => rfl
  | _ :: _, [] => rfl
  | x :: xs, w :: ws => by
    show (PyData.str x, PyData.int w) :: (xs.map PyData.str).zip (ws.map PyData.int) = _
    rw [zip_kd xs ws]
    rfl
theorem keys_ok (xs : List Str) : (xs.map PyData.str).all isKey = true := by
  rw [List.all_map]
  exact List.all_eq_true.mpr fun _ _ => rfl
@[simp] theorem P_dictZip (ks vs : List PyData) (h : Hh) : dictZipM (.d (.list ks)) (.d (.list vs)) h = if ks.all isKey then .ok (.d (.dict (dputs [] (ks.zip vs)))) h else .stuck := rfl
theorem kd_zip {p : Pg} {ws : List Int} (nd : p.names.Nodup) (hw : Wk p.bs ws) : dputs [] ((p.names.map PyData.str).zip (ws.map .int)) = kd (kwOf p.bs ws) := by
  rw [zip_kd]
  have := dputs_nd (kw := p.names.zip ws) (acc := []) (by
    rw [List.nil_append, fst_zip (by rw [hw.len, Pg.names, List.length_map])]
    exact nd)
  rw [List.nil_append] at this
  exact this
section
variable {D : Defs}
theorem names_run (L : D.lookup "names_of" = some d_names_of) {k : Nat} {h : Hh} {p : Pg} (hl : p.bs.length ≤ 4) {Q : PV → Hh → Prop} (q : Q (.d (nL p.names)) h) : wp (callN D (k + 1) "names_of" [.d p.d] h) Q := by
  refine call_rule L rfl ?_
  simp [d_names_of, startE, primM, Pg.d, wipeE]
  refine names_comp _ (by decide) (by simp) ?_
  have h1 : p.bs.length ≤ 16777216 := by omega
  simp [line, h1]
  have e : (p.bs.map fun b => PyData.str b.1) = p.names.map .str := by simp [Pg.names]
  rw [e]
  exact q
theorem need_run (L : D.lookup "need_worths" = some d_need_worths) {k : Nat} {h : Hh} {p : Pg} {ws : List Int} (hw : Wk p.bs ws) {Q : PV → Hh → Prop} (q : Q (.d .none) h) : wp (callN D (k + 1) "need_worths" [.d p.d, .d (iL ws)] h) Q := by
  refine call_rule L rfl ?_
  have hl := hw.len
  have hbl : (bD p.bs).length = p.bs.length := by simp [bD]
  simp [d_need_worths, startE, primM, Pg.d, ok2_int, eqv_int, hbl, hl]
  obtain ⟨I, hI⟩ : ∃ I : List PV → Ee → Hh → Prop, I = fun r e h' => ∃ (bs : Bs) (vs : List Int) (z1 z2 z3 : Option PV), r = ((vs.map PyData.int).zip (bD bs)).map (fun p => .d (.tuple [p.1, p.2])) ∧ Wk bs vs ∧ h' = h ∧ e = [some (.d p.d), some (.d (iL ws)), z1, z2, z3] := ⟨_, rfl⟩
  refine for_rule I ?_ ?_ _ _ _ ?_
  · intro v r e h' hi
    rw [hI] at hi
    obtain ⟨bs, vs, z1, z2, z3, er, hk, rfl, rfl⟩ := hi
    cases bs with
    | nil =>
      cases vs with
      | nil => simp [bD] at er
      | cons _ _ => exact hk.elim
    | cons b bs =>
      cases vs with
      | nil => exact hk.elim
      | cons w vs =>
        simp [bD] at er
        obtain ⟨rfl, rfl⟩ := er
        have h0 := hk.1
        have h1 := hk.2.1
        simp [sT, setT, setTs, primM, h0, h1]
        rw [hI]
        exact ⟨bs, vs, _, _, _, by simp [bD], hk.2.2, rfl, rfl⟩
  · intro e h' hi
    rw [hI] at hi
    obtain ⟨bs, vs, z1, z2, z3, er, hk, rfl, rfl⟩ := hi
    simp
    exact q
  · rw [hI]
    exact ⟨p.bs, ws, none, none, none, by simp, hw, rfl, rfl⟩
theorem known_run (L : D.lookup "known_by" = some d_known_by) (L2 : D.lookup "names_of" = some d_names_of) {k : Nat} {h : Hh} {p : Pg} {ws : List Int} (hb : Bx p.bs) (hw : Wk p.bs ws) {Q : PV → Hh → Prop} (q : Q (.d (.dict (kd (kwOf p.bs ws)))) h) : wp (callN D (k + 2) "known_by" [.d p.d, .d (iL ws)] h) Q := by
  refine call_rule L rfl ?_
  simp [d_known_by, startE, primM]
  refine names_run L2 hb.len ?_
  have e := keys_ok p.names
  simp only [P_dictZip, gotV_some, V_nil]
  rw [e]
  simp
  rw [kd_zip hb.nd hw]
  exact q
theorem known_go (L : D.lookup "need_known" = some d_need_known) (L1 : D.lookup "need_worths" = some d_need_worths) (L2 : D.lookup "known_by" = some d_known_by) (L3 : D.lookup "names_of" = some d_names_of) (L4 : D.lookup "boxes_named" = some d_boxes_named)
    {k : Nat} {h : Hh} {p : Pg} {ws : List Int} (hb : Bx p.bs) (hw : Wk p.bs ws) {N : Nat} (hN : N ≤ 22) {s : Sm} (g : s.good p.names N) {Q : PV → Hh → Prop} (q : Q (.d (.dict (kd (kwOf p.bs ws)))) h) : wp (callN D (k + 3) "need_known" [.d p.d, .d (iL ws), .d s.d] h) Q := by
  have kn := hw.kn fun b hb' => (hb.sz b hb').2
  refine call_rule L rfl ?_
  simp [d_need_known, startE, primM, wipeE]
  refine need_run (k := k + 1) L1 hw ?_
  try simp
  refine known_run (k := k) L2 L3 hb hw ?_
  try simp
  refine named_run (k := k + 1) L4 hb.nm hN g fun bx hbx hl => ?_
  try simp
  refine wp_mono (comp_rule (fun r acc h' => (∀ v ∈ r, ∃ x ∈ p.names, v = .d (.str x)) ∧ acc = [] ∧ h' = h) (Q := fun acc h' => acc = [] ∧ h' = h) ?_ ?_ _ [] h ⟨?_, rfl, rfl⟩) ?_
  · rintro v r acc h' ⟨hv, rfl, rfl⟩
    obtain ⟨x, hx, rfl⟩ := hv v List.mem_cons_self
    obtain ⟨w, ew⟩ := kn.all x hx
    simp [sT, setT, primM, wipeE, inD, dget_kd, ew]
    exact fun v hv' => hv v (List.mem_cons_of_mem _ hv')
  · rintro acc h' ⟨_, rfl, rfl⟩
    exact ⟨rfl, rfl⟩
  · intro v hv
    obtain ⟨x, hx, rfl⟩ := List.mem_map.mp hv
    exact ⟨x, hbx x hx, rfl⟩
  · rintro ds h' ⟨e1, rfl⟩
    rw [List.nil_append] at e1
    subst e1
    have e2 : ok2 (.list []) (.list []) = true := by decide
    simp [line, e2, eqv_nil, primM]
    exact q
theorem sum_worth_run (L0 : D.lookup "sum_worth" = some d_sum_worth) (L : D.lookup "need_known" = some d_need_known) (L1 : D.lookup "need_worths" = some d_need_worths) (L2 : D.lookup "known_by" = some d_known_by) (L3 : D.lookup "names_of" = some d_names_of) (L4 : D.lookup "boxes_named" = some d_boxes_named) (L5 : D.lookup "worth_in" = some d_worth_in)
    {k : Nat} {h : Hh} {p : Pg} {ws : List Int} (hb : Bx p.bs) (hw : Wk p.bs ws) {N : Nat} (hN : N ≤ 22) {s : Sm} (g : s.good p.names N) {Q : PV → Hh → Prop} (q : Q (.d (.int (s.val (kwOf p.bs ws)))) h) : wp (callN D (k + 30) "sum_worth" [.d p.d, .d (iL ws), .d s.d] h) Q := by
  have kn := hw.kn fun b hb' => (hb.sz b hb').2
  refine call_rule (k := k + 29) L0 rfl ?_
  simp [d_sum_worth, startE, primM]
  refine known_go (k := k + 26) L L1 L2 L3 L4 hb hw hN g ?_
  try simp
  refine worth_run (k := k + 7) (n := 22) L5 kn (good_mono hN g) ?_
  try simp
  exact q
end
section
variable {D : Defs} (G : Gn D)
include G
theorem worths_run (L : D.lookup "_law_worths" = some d__law_worths) {k n : Nat} {h : Hh} {bs : Bs} (hb : Bx bs) (d : Dk n h) {Q : PV → Hh → Prop} (q : ∀ (ws : List Int) h', Wk bs ws → Sc n h h' → Q (.d (iL ws)) h') : wp (callN D (k + 2) "_law_worths" [.cell n, .d (.list (bD bs))] h) Q := by
  refine call_rule L rfl ?_
  simp [d__law_worths, startE, primM, wipeE]
  obtain ⟨J, hJ⟩ : ∃ J : List PV → List PyData → Hh → Prop, J = fun r acc h' => ∃ (b1 b2 : Bs) (w1 : List Int), bs = b1 ++ b2 ∧ r = (bD b2).map .d ∧ acc = w1.map .int ∧ Wk b1 w1 ∧ Sl n h h' := ⟨_, rfl⟩
  refine wp_mono (comp_rule J (Q := fun acc h' => ∃ ws : List Int, acc = ws.map .int ∧ Wk bs ws ∧ Sl n h h') ?_ ?_ _ [] h ?_) ?_
  · intro v r acc h' hi
    rw [hJ] at hi
    obtain ⟨b1, b2, w1, eb, er, rfl, hw, S⟩ := hi
    cases b2 with
    | nil => simp [bD] at er
    | cons b b2 =>
      simp [bD] at er
      obtain ⟨rfl, rfl⟩ := er
      have hs := hb.sz b (by rw [eb]; simp)
      simp [sT, setT, setTs]
      refine take_run (k := k) G S.dk (by omega) (pow30 (by omega) (by omega)) fun t h2 t0 t1 s2 => ?_
      refine ⟨_, rfl, ?_⟩
      rw [hJ]
      refine ⟨b1 ++ [b], b2, w1 ++ [t], by rw [eb]; simp, by simp [bD], by simp, ?_, S.trans s2.1⟩
      have wk_app : ∀ (b1 : Bs) (w1 : List Int), Wk b1 w1 → Wk (b1 ++ [b]) (w1 ++ [t]) := by
        intro b1
        induction b1 with
        | nil =>
          intro w1 hw
          cases w1 with
          | nil => exact ⟨t0, t1, True.intro⟩
          | cons _ _ => exact hw.elim
        | cons c b1 ih =>
          intro w1 hw
          cases w1 with
          | nil => exact hw.elim
          | cons w w1 => exact ⟨hw.1, hw.2.1, ih w1 hw.2.2⟩
      exact wk_app b1 w1 hw
  · intro acc h' hi
    rw [hJ] at hi
    obtain ⟨b1, b2, w1, eb, er, rfl, hw, S⟩ := hi
    cases b2 with
    | nil =>
      rw [List.append_nil] at eb
      subst eb
      exact ⟨w1, rfl, hw, S⟩
    | cons b b2 => simp [bD] at er
  · rw [hJ]
    exact ⟨[], bs, [], rfl, rfl, rfl, True.intro, Sl.refl d⟩
  · rintro ds h' ⟨ws, e, hw, S⟩
    rw [List.nil_append] at e
    subst e
    have hl : ws.length ≤ 16777216 := by
      have := hw.len
      have := hb.len
      omega
    simp [line, hl]
    exact q ws _ hw (Sl.cut d S)
end
end PL.A

set_option maxRecDepth 100000
set_option maxHeartbeats 1000000
/-! PL27: what the laws know, deep sums, shapes. -/
namespace PL.A
open PySem PL
theorem ati_nat {α : Type} {xs : List α} {j : Nat} (h : j < xs.length) : ati xs (j : Int) = some xs[j] := by
  unfold ati
  rw [P_ixn (by omega) (by omega)]
  show xs[(j : Int).toNat]? = _
  rw [Int.toNat_natCast, List.getElem?_eq_getElem h]
def prs (kw : Kw) : List PyData := kw.map fun p => .tuple [.str p.1, .int p.2]
theorem pairs_kd : ∀ kw : Kw, pairsD (prs kw) = some (kd kw)
  | [] => rfl
  | p :: r => by
    show pairsD (.tuple [.str p.1, .int p.2] :: prs r) = _
    unfold pairsD
    rw [pairs_kd r]
    rfl
@[simp] theorem P_dictPairs (ds : List PyData) (h : Hh) : dictPairsM (.d (.list ds)) h = (match pairsD ds with
    | some ps => .ok (.d (.dict (dputs [] ps))) h
    | none => .stuck) := rfl
theorem rng_drop {n : Int} {j : Nat} {v : PV} {r : List PV} (e : v :: r = (rngL 0 n).drop j) : j < n.toNat ∧ v = .d (.int j) ∧ r = (rngL 0 n).drop (j + 1) := by
  have hl : (rngL 0 n).length = n.toNat := by
    rw [rngL_len]
    congr 1
    omega
  have hj : j < (rngL 0 n).length := by
    have := congrArg List.length e
    rw [List.length_cons, List.length_drop] at this
    omega
  rw [List.drop_eq_getElem_cons hj] at e
  obtain ⟨e1, e2⟩ := List.cons.inj e
  refine ⟨by omega, ?_, e2⟩
  rw [e1]
  have := rngL_at (a := 0) (b := n) (i := j) (by rw [rngL_len] at hj; exact hj)
  rw [List.getElem?_eq_getElem hj] at this
  rw [Option.some.inj this, Int.zero_add]
  rfl
section
variable {D : Defs}
theorem lknown_run (L : D.lookup "_law_known" = some d__law_known) {k : Nat} {h : Hh} {p : Pg} {ws : List Int} (hb : Bx p.bs) (hw : Wk p.bs ws) {Q : PV → Hh → Prop} (q : Q (.d (.dict (kd (kwOf p.bs ws)))) h) : wp (callN D (k + 1) "_law_known" [.d p.d, .d (iL ws)] h) Q := by
  refine call_rule L rfl ?_
  have hl := hw.len
  have h4 := hb.len
  have hlw : -16777216 ≤ (ws.length : Int) ∧ (ws.length : Int) ≤ 16777216 := by omega
  have hkl : (kwOf p.bs ws).length = ws.length := by
    unfold kwOf
    rw [List.length_zip, List.length_map]
    omega
  simp [d__law_known, startE, primM, wipeE, line, hlw]
  obtain ⟨J, hJ⟩ : ∃ J : List PV → List PyData → Hh → Prop, J = fun r acc h' => ∃ j : Nat, r = (rngL 0 ws.length).drop j ∧ j ≤ ws.length ∧ acc = (prs (kwOf p.bs ws)).take j ∧ h' = h := ⟨_, rfl⟩
  refine wp_mono (comp_rule J (Q := fun acc h' => acc = prs (kwOf p.bs ws) ∧ h' = h) ?_ ?_ _ [] h ?_) ?_
  · intro v r acc h' hi
    rw [hJ] at hi
    obtain ⟨j, er, hj, rfl, rfl⟩ := hi
    obtain ⟨j1, rfl, e2⟩ := rng_drop er
    have hj1 : j < ws.length := by omega
    have hj2 : j < p.bs.length := by omega
    have a1 : ati (bD p.bs) (j : Int) = some (.tuple [.str (p.bs[j]).1, .int (p.bs[j]).2]) := by
      rw [ati_nat (by unfold bD; rw [List.length_map]; exact hj2)]
      simp [bD]
    have a2 : ati (ws.map PyData.int) (j : Int) = some (.int ws[j]) := by
      rw [ati_nat (by rw [List.length_map]; exact hj1)]
      simp
    simp [sT, setT, wipeE, primM, Pg.d, a1, a2, line]
    rw [hJ]
    refine ⟨j + 1, e2, hj1, ?_, rfl⟩
    rw [List.take_add_one]
    congr 1
    have hk : j < (kwOf p.bs ws).length := by omega
    unfold prs
    rw [List.getElem?_map, List.getElem?_eq_getElem hk]
    simp [kwOf]
  · intro acc h' hi
    rw [hJ] at hi
    obtain ⟨j, er, hj, rfl, rfl⟩ := hi
    refine ⟨?_, rfl⟩
    have e1 := congrArg List.length er
    rw [List.length_drop, rngL_len, List.length_nil] at e1
    rw [List.take_of_length_le]
    unfold prs
    rw [List.length_map, hkl]
    omega
  · rw [hJ]
    exact ⟨0, rfl, Nat.zero_le _, rfl, rfl⟩
  · rintro ds h' ⟨e, rfl⟩
    rw [List.nil_append] at e
    subst e
    have e2 : dputs [] (kd (kwOf p.bs ws)) = kd (kwOf p.bs ws) := by
      have := kd_zip (p := p) hb.nd hw
      rw [zip_kd] at this
      exact this
    have e3 : (prs (kwOf p.bs ws)).length ≤ 16777216 := by
      unfold prs
      rw [List.length_map, hkl]
      omega
    simp [line, e3, pairs_kd, e2]
    exact q
end
section
variable {D : Defs} (G : Gn D)
include G
theorem deep_run (L : D.lookup "_law_deep" = some d__law_deep) {names : List Str} (hN : Nm names) {k n many : Nat} {h : Hh} (hm : many ≤ 40) (d : Dk n h) {Q : PV → Hh → Prop} (q : ∀ (s : Sm) h', s.good names (many + 1) → Sc n h h' → Q (.d s.d) h') :
    wp (callN D (k + 3) "_law_deep" [.cell n, .d (nL names), .d (.int many)] h) Q := by
  refine call_rule L rfl ?_
  simp [d__law_deep, startE, primM]
  refine sum_run (deep := 0) (k := k) G hN n h d fun s h1 hs s1 => ?_
  have hmm : -16777216 ≤ (many : Int) ∧ (many : Int) ≤ 16777216 := by omega
  simp [line, hmm]
  obtain ⟨I, hI⟩ : ∃ I : List PV → Ee → Hh → Prop, I = fun r e h2 => ∃ (s : Sm) (z1 z2 : Option PV), e = [some (.cell n), some (.d (nL names)), some (.d (.int many)), some (.d s.d), z1, z2] ∧ s.good names (many + 1 - r.length) ∧ r.length ≤ many ∧ Sl n h h2 := ⟨_, rfl⟩
  refine for_rule I ?_ ?_ _ _ _ ?_
  · intro v r e h2 hi
    rw [hI] at hi
    obtain ⟨s, z1, z2, rfl, g, hl, S⟩ := hi
    rw [List.length_cons] at g hl
    simp [sT, setT, primM]
    refine sum_run (deep := 0) (k := k) G hN n h2 S.dk fun o h3 ho s3 => ?_
    simp [line, primM]
    refine take_run (k := k + 1) G s3.1.dk (by decide) (by decide) fun t h4 t0 t1 s4 => ?_
    have e1 : many + 1 - r.length = (many + 1 - (r.length + 1)) + 1 := by omega
    have ho2 : o.good names (many + 1 - (r.length + 1)) := good_mono (by omega) ho
    have w : t = 0 ∨ t = 1 ∨ t = 2 := by omega
    rcases w with rfl | rfl | rfl
    · simp
      rw [hI]
      exact ⟨.plus s o, _, _, rfl, by rw [e1]; exact ⟨g, ho2⟩, by omega, (S.trans s3.1).trans s4.1⟩
    · simp
      rw [hI]
      exact ⟨.less o s, _, _, rfl, by rw [e1]; exact ⟨ho2, g⟩, by omega, (S.trans s3.1).trans s4.1⟩
    · simp
      rw [hI]
      exact ⟨.less s o, _, _, rfl, by rw [e1]; exact ⟨g, ho2⟩, by omega, (S.trans s3.1).trans s4.1⟩
  · intro e h2 hi
    rw [hI] at hi
    obtain ⟨s, z1, z2, rfl, g, hl, S⟩ := hi
    simp
    exact q s _ g (Sl.cut d S)
  · rw [hI]
    refine ⟨s, none, none, rfl, ?_, ?_, s1.1⟩
    · rw [rngL_len]
      have : many + 1 - ((many : Int) - 0).toNat = 1 := by omega
      rw [this]
      exact hs
    · rw [rngL_len]
      omega
end
theorem sh_cn {names : List Str} (hN : Nm names) : ∀ {s : Cn} {n : Nat}, s.good names n → Sh (n + 1) s.d
  | _, 0, g => by cases g
  | .yes, n + 1, _ => .tup fun d hd => by
    simp only [List.mem_cons, List.not_mem_nil, or_false] at hd
    rcases hd with rfl
    exact .ofs _ _
  | .not a, n + 1, g => .tup fun d hd => by
    simp only [List.mem_cons, List.not_mem_nil, or_false] at hd
    rcases hd with rfl | rfl
    · exact .ofs _ _
    · exact sh_cn hN g
  | .both a b, n + 1, g => .tup fun d hd => by
    simp only [List.mem_cons, List.not_mem_nil, or_false] at hd
    rcases hd with rfl | rfl | rfl
    · exact .ofs _ _
    · exact sh_cn hN g.1
    · exact sh_cn hN g.2
  | .same a b, n + 1, g => .tup fun d hd => by
    simp only [List.mem_cons, List.not_mem_nil, or_false] at hd
    rcases hd with rfl | rfl | rfl
    · exact .ofs _ _
    · exact sh_sm hN g.1
    · exact sh_sm hN g.2
  | .under a b, n + 1, g => .tup fun d hd => by
    simp only [List.mem_cons, List.not_mem_nil, or_false] at hd
    rcases hd with rfl | rfl | rfl
    · exact .ofs _ _
    · exact sh_sm hN g.1
    · exact sh_sm hN g.2
theorem sh_nd {names : List Str} (hN : Nm names) {m : Int} : ∀ {s : Nd}, s.good names m → Sh 5 s.d
  | .put x s b, g => .tup fun d hd => by
    simp only [List.mem_cons, List.not_mem_nil, or_false] at hd
    rcases hd with rfl | rfl | rfl | rfl
    · exact .ofs _ _
    · exact .str (hN.ok _ g.1)
    · exact (sh_sm hN g.2.1).mono (by decide)
    · exact .int _ _
  | .say s b, g => .tup fun d hd => by
    simp only [List.mem_cons, List.not_mem_nil, or_false] at hd
    rcases hd with rfl | rfl | rfl
    · exact .ofs _ _
    · exact (sh_sm hN g.1).mono (by decide)
    · exact .int _ _
  | .test c a b, g => .tup fun d hd => by
    simp only [List.mem_cons, List.not_mem_nil, or_false] at hd
    rcases hd with rfl | rfl | rfl | rfl
    · exact .ofs _ _
    · exact sh_cn hN g.1
    · exact .int _ _
    · exact .int _ _
  | .fin, g => .tup fun d hd => by
    simp only [List.mem_cons, List.not_mem_nil, or_false] at hd
    rcases hd with rfl
    exact .ofs _ _
theorem sh_pg {p : Pg} {most : Int} (g : p.good most) : Sh 7 p.d := by
  have nm : Nm p.names := g.bx.nm
  refine .tup fun d hd => ?_
  simp only [List.mem_cons, List.not_mem_nil, or_false] at hd
  rcases hd with rfl | rfl | rfl
  · refine (Sh.list (n := 1) fun d hd => ?_).mono (by decide)
    obtain ⟨b, hb, rfl⟩ := List.mem_map.mp hd
    refine Sh.tup (n := 0) fun d hd => ?_
    simp only [List.mem_cons, List.not_mem_nil, or_false] at hd
    rcases hd with rfl | rfl
    · exact .str (nm.ok _ (List.mem_map_of_mem hb))
    · exact .int _ _
  · refine (Sh.list (n := 0) fun d hd => ?_).mono (by decide)
    obtain ⟨x, hx, rfl⟩ := List.mem_map.mp hd
    obtain ⟨r, pm⟩ := g.ins
    exact .str (nm.ok _ (pm.mem_iff.mp (List.mem_append_left _ hx)))
  · refine (Sh.list (n := 5) fun d hd => ?_).mono (by decide)
    obtain ⟨s, hs, rfl⟩ := List.mem_map.mp hd
    exact sh_nd nm (g.nd s hs)
theorem sh_il (ws : List Int) : Sh 1 (iL ws) := Sh.list (n := 0) fun d hd => by
  obtain ⟨x, hx, rfl⟩ := List.mem_map.mp hd
  exact .int _ _
theorem cut_map {α β : Type} (f : α → β) (xs : List α) (lo hi : Option Int) : cut (xs.map f) lo hi = (cut xs lo hi).map f := by
  unfold cut
  simp
theorem cut_len {α : Type} (xs : List α) (lo hi : Option Int) : (cut xs lo hi).length ≤ xs.length := by
  unfold cut
  rw [List.length_take, List.length_drop]
  omega
end PL.A

set_option maxRecDepth 100000
set_option maxHeartbeats 4000000
/-! PL28: texts of k04. -/
namespace PL.A
open PySem PL
def d_holds_in : Def := ⟨["known", "condition"], ["known", "condition", "one", "other"],
  (.cons (.ite (.prim .eq (.cons (.prim .idx (.cons (.var 1) (.cons (.cst (.int 0)) .nil))) (.cons (.cst (.str "yes")) .nil))) (.cons (.ret (.cst (.bool true)))
  .nil) .nil)
  (.cons (.ite (.prim .eq (.cons (.prim .idx (.cons (.var 1) (.cons (.cst (.int 0)) .nil))) (.cons (.cst (.str "not")) .nil))) (.cons (.ret (.not (.call "holds_in" (.cons (.var 0) (.cons (.prim .idx (.cons (.var 1) (.cons (.cst (.int 1)) .nil))) .nil)))))
  .nil) .nil)
  (.cons (.ite (.prim .eq (.cons (.prim .idx (.cons (.var 1) (.cons (.cst (.int 0)) .nil))) (.cons (.cst (.str "both")) .nil))) (.cons (.ret (.and (.cons (.call "holds_in" (.cons (.var 0) (.cons (.prim .idx (.cons (.var 1) (.cons (.cst (.int 1)) .nil))) .nil))) (.cons (.call "holds_in" (.cons (.var 0) (.cons (.prim .idx (.cons (.var 1) (.cons (.cst (.int 2)) .nil))) .nil))) .nil))))
  .nil) .nil)
  (.cons (.asg (.nm 2) (.call "worth_in" (.cons (.var 0) (.cons (.prim .idx (.cons (.var 1) (.cons (.cst (.int 1)) .nil))) .nil))))
  (.cons (.asg (.nm 3) (.call "worth_in" (.cons (.var 0) (.cons (.prim .idx (.cons (.var 1) (.cons (.cst (.int 2)) .nil))) .nil))))
  (.cons (.ite (.prim .eq (.cons (.prim .idx (.cons (.var 1) (.cons (.cst (.int 0)) .nil))) (.cons (.cst (.str "same")) .nil))) (.cons (.ret (.prim .eq (.cons (.var 2) (.cons (.var 3) .nil))))
  .nil) .nil)
  (.cons (.ret (.prim .lt (.cons (.var 2) (.cons (.var 3) .nil))))
  .nil)))))))⟩
def d_holds_at : Def := ⟨["program", "worths", "condition"], ["program", "worths", "condition"],
  (.cons (.ret (.call "holds_in" (.cons (.call "need_known" (.cons (.var 0) (.cons (.var 1) (.cons (.var 2) .nil)))) (.cons (.var 2) .nil))))
  .nil)⟩
end PL.A

set_option maxRecDepth 100000
set_option maxHeartbeats 2000000
/-! PL29: the boxes that a sum or a condition names. -/
namespace PL.A
open PySem PL
inductive Tm where
  | su (s : Sm)
  | co (c : Cn)
def Tm.d : Tm → PyData
  | .su s => s.d
  | .co c => c.d
def Cn.sz : Cn → Nat
  | .yes => 1
  | .not c => c.sz + 1
  | .both a b => a.sz + b.sz + 1
  | .same a b => a.sz + b.sz + 1
  | .under a b => a.sz + b.sz + 1
def Tm.sz : Tm → Nat
  | .su s => s.sz
  | .co c => c.sz
def Tm.good (names : List Str) (n : Nat) : Tm → Prop
  | .su s => s.good names n
  | .co c => c.good names n
theorem cgood_mono {names : List Str} : ∀ {s : Cn} {n m : Nat}, n ≤ m → s.good names n → s.good names m
  | _, 0, _, _, g => by cases g
  | s, n + 1, 0, h, _ => by omega
  | .yes, n + 1, m + 1, _, g => g
  | .not a, n + 1, m + 1, h, g => cgood_mono (s := a) (by omega) g
  | .both a b, n + 1, m + 1, h, g => ⟨cgood_mono (by omega) g.1, cgood_mono (by omega) g.2⟩
  | .same a b, n + 1, m + 1, h, g => ⟨good_mono h g.1, good_mono h g.2⟩
  | .under a b, n + 1, m + 1, h, g => ⟨good_mono h g.1, good_mono h g.2⟩
theorem csz_pos (c : Cn) : 0 < c.sz := by
  cases c <;> simp [Cn.sz]
theorem csz_good {names : List Str} : ∀ {s : Cn} {n : Nat}, s.good names n → s.sz < 2 ^ (n + 1)
  | _, 0, g => by cases g
  | .yes, n + 1, _ => by
    have := Nat.two_pow_pos n
    show 1 < 2 ^ (n + 1 + 1)
    rw [Nat.pow_succ, Nat.pow_succ]
    omega
  | .not a, n + 1, g => by
    have h1 := csz_good (s := a) g
    have := Nat.two_pow_pos (n + 1)
    show a.sz + 1 < 2 ^ (n + 1 + 1)
    rw [Nat.pow_succ]
    omega
  | .both a b, n + 1, g => by
    have h1 := csz_good g.1
    have h2 := csz_good g.2
    show a.sz + b.sz + 1 < 2 ^ (n + 1 + 1)
    rw [Nat.pow_succ]
    omega
  | .same a b, n + 1, g => by
    have h1 := sz_good g.1
    have h2 := sz_good g.2
    show a.sz + b.sz + 1 < 2 ^ (n + 1 + 1)
    rw [Nat.pow_succ]
    omega
  | .under a b, n + 1, g => by
    have h1 := sz_good g.1
    have h2 := sz_good g.2
    show a.sz + b.sz + 1 < 2 ^ (n + 1 + 1)
    rw [Nat.pow_succ]
    omega
theorem szT_pos : ∀ t : Tm, 0 < t.sz
  | .su s => sz_pos s
  | .co c => csz_pos c
theorem szT_good {names : List Str} : ∀ {t : Tm} {n : Nat}, t.good names n → t.sz < 2 ^ (n + 1)
  | .su s, n, g => Nat.lt_of_lt_of_le (sz_good g) (Nat.pow_le_pow_right (by decide) (Nat.le_succ _))
  | .co c, n, g => csz_good g
theorem sh_tm {names : List Str} (hN : Nm names) : ∀ {t : Tm} {n : Nat}, t.good names n → Sh (n + 1) t.d
  | .su s, n, g => (sh_sm hN g).mono (Nat.le_succ _)
  | .co c, n, g => sh_cn hN g
def szsT (ss : List Tm) : Nat := (ss.map Tm.sz).sum
theorem szsT_len : ∀ ss : List Tm, ss.length ≤ szsT ss
  | [] => Nat.le_refl _
  | s :: r => by
    have := szsT_len r
    have := szT_pos s
    show r.length + 1 ≤ (s.sz :: r.map Tm.sz).sum
    rw [List.sum_cons]
    unfold szsT at *
    omega
theorem szsT_app (a b : List Tm) : szsT (a ++ b) = szsT a + szsT b := by
  unfold szsT
  rw [List.map_append, List.sum_append]
theorem isTup_cn (s : Cn) : isTyD "tuple" s.d = true := by
  cases s <;> rfl
section
variable {D : Defs}
theorem named_runT (L : D.lookup "boxes_named" = some d_boxes_named) {names : List Str} (hN : Nm names) {h : Hh} {N k : Nat} (hN2 : N ≤ 20) {s : Tm} {Q : PV → Hh → Prop} (g : s.good names N) (q : ∀ bx : List Str, (∀ x ∈ bx, x ∈ names) → bx.length < 2 ^ 22 → Q (.d (nL bx)) h) :
    wp (callN D (k + 1) "boxes_named" [.d s.d] h) Q := by
  refine call_rule L rfl ?_
  simp [d_boxes_named, startE, primM, line]
  obtain ⟨I, hI⟩ : ∃ I : Nat → Ee → Hh → Prop, I = fun m e h2 => ∃ (ss : List Tm) (bx : List Str) (z : Option PV), e = [some (.d s.d), some (.cell h.length), some (.cell (h.length + 1)), z, none] ∧ h2.take h.length = h ∧ h.length + 2 ≤ h2.length ∧ h2[h.length]? = some (.lst (bx.map .str)) ∧ h2[h.length + 1]? = some (.lst (ss.map Tm.d)) ∧ (∀ x ∈ bx, x ∈ names) ∧ (∀ t ∈ ss, t.good names N) ∧ m = szsT ss ∧ bx.length + szsT ss < 2 ^ 22 := ⟨_, rfl⟩
  have hs := szT_good g
  have hp : 2 ^ (N + 1) ≤ 2 ^ 22 := Nat.pow_le_pow_right (by decide) (by omega)
  refine whl_rule I ?_ _ s.sz _ _ (by unfold fuel; omega) ?_
  · intro m e h2 hi
    rw [hI] at hi
    obtain ⟨ss, bx, z, rfl, e1, e2, a2, b2, hb, hss, rfl, hc⟩ := hi
    have shp : ok2 (.list (ss.map Tm.d)) (.list []) = true := ok2_l ((Sh.list (n := N + 1) fun d hd => by
      obtain ⟨t, ht, rfl⟩ := List.mem_map.mp hd
      exact sh_tm hN (hss t ht)).shaped (by omega)) (by decide)
    simp [primM, b2, shp, eqv_nil, line]
    refine ⟨fun ne => ?_, fun hz => ?_⟩
    · obtain ⟨r, t, rfl⟩ : ∃ r t, ss = r ++ [t] := by
        rcases List.eq_nil_or_concat ss with z | ⟨r, t, z⟩
        · exact absurd z ne
        · exact ⟨r, t, by rw [z, List.concat_eq_append]⟩
      have ht := hss t (by simp)
      have hr : ∀ u ∈ r, u.good names N := fun u hu => hss u (List.mem_append_left _ hu)
      have hsz : szsT (r ++ [t]) = szsT r + t.sz := by
        rw [szsT_app]
        simp [szsT]
      have hrl := szsT_len r
      have l2 : h.length + 1 < h2.length := by omega
      have l1 : h.length < h2.length := by omega
      simp [b2, mTy]
      have a3 : (h2.set (h.length + 1) (.lst (r.map Tm.d)))[h.length]? = some (.lst (bx.map .str)) := by
        rw [List.getElem?_set_ne (by omega)]
        exact a2
      have b3 : (h2.set (h.length + 1) (.lst (r.map Tm.d)))[h.length + 1]? = some (.lst (r.map Tm.d)) := List.getElem?_set_self l2
      have e3 : (h2.set (h.length + 1) (.lst (r.map Tm.d))).take h.length = h := by
        rw [take_set' (by omega), e1]
      have e4 : (h2.set (h.length + 1) (.lst (r.map Tm.d))).length = h2.length := List.length_set
      generalize h2.set (h.length + 1) (.lst (r.map Tm.d)) = h3 at *
      rcases t with (i | x | ⟨a, b⟩ | ⟨a, b⟩) | (_ | c | ⟨a, b⟩ | ⟨a, b⟩ | ⟨a, b⟩)
      · skip
        have hrl2 : r.length ≤ 16777216 := by omega
        have hz1 := szT_pos (.su (.num i))
        simp [Tm.d, Sm.d, Cn.d, primM, b3, line, hrl2, mTy, cut1, compL, sT, setT, wipeE, isTyD, tyD]
        refine ⟨szsT r, by omega, ?_⟩
        rw [hI]
        refine ⟨r, bx, _, rfl, by rw [take_set' (by omega), e3], by rw [List.length_set]; omega, ?_, ?_, hb, hr, rfl, ?_⟩
        · rw [List.getElem?_set_ne (by omega)]
          exact a3
        · rw [List.getElem?_set_self (by omega)]
        · omega
      · skip
        have hbl : bx.length < 16777216 := by omega
        simp [Tm.d, Sm.d, primM, a3, line, hbl, mTy]
        refine ⟨szsT r, by rw [hsz]; have := szT_pos (.su (.box x)); omega, ?_⟩
        rw [hI]
        refine ⟨r, bx ++ [x], _, rfl, by rw [take_set' (Nat.le_refl _), e3], by rw [List.length_set]; omega, ?_, ?_, ?_, hr, rfl, ?_⟩
        · rw [List.getElem?_set_self (by omega), List.map_append]
          rfl
        · rw [List.getElem?_set_ne (by omega)]
          exact b3
        · intro y hy
          rcases List.mem_append.mp hy with hy | hy
          · exact hb y hy
          · rw [List.mem_singleton] at hy
            subst hy
            cases N with
            | zero => cases ht
            | succ N => exact ht
        · have : (Tm.su (Sm.box x)).sz = 1 := rfl
          rw [List.length_append, List.length_singleton]
          omega
      · skip
        have hab : (Tm.sz (.su (.plus a b))) = (Tm.su a).sz + (Tm.su b).sz + 1 := rfl
        have hs2 : szsT (r ++ [Tm.su a, Tm.su b]) = szsT r + ((Tm.su a).sz + (Tm.su b).sz) := by
          rw [szsT_app]
          simp [szsT]
        have pa := szT_pos (Tm.su a)
        have pb := szT_pos (Tm.su b)
        have hrl2 : r.length + 2 ≤ 16777216 := by omega
        simp [Tm.d, Sm.d, Cn.d, primM, b3, line, hrl2, mTy, cut1, compL, sT, setT, wipeE, isTup_sm, isTup_cn]
        refine ⟨szsT (r ++ [Tm.su a, Tm.su b]), by omega, ?_⟩
        rw [hI]
        refine ⟨r ++ [Tm.su a, Tm.su b], bx, _, rfl, by rw [take_set' (by omega), e3], by rw [List.length_set]; omega, ?_, ?_, hb, ?_, rfl, ?_⟩
        · rw [List.getElem?_set_ne (by omega)]
          exact a3
        · rw [List.getElem?_set_self (by omega), List.map_append]
          rfl
        · intro u hu
          rcases List.mem_append.mp hu with hu | hu
          · exact hr u hu
          · cases N with
            | zero => cases ht
            | succ N =>
              simp only [List.mem_cons, List.not_mem_nil, or_false] at hu
              rcases hu with rfl | rfl
              · exact good_mono (Nat.le_succ _) ht.1
              · exact good_mono (Nat.le_succ _) ht.2
        · omega
      · skip
        have hab : (Tm.sz (.su (.less a b))) = (Tm.su a).sz + (Tm.su b).sz + 1 := rfl
        have hs2 : szsT (r ++ [Tm.su a, Tm.su b]) = szsT r + ((Tm.su a).sz + (Tm.su b).sz) := by
          rw [szsT_app]
          simp [szsT]
        have pa := szT_pos (Tm.su a)
        have pb := szT_pos (Tm.su b)
        have hrl2 : r.length + 2 ≤ 16777216 := by omega
        simp [Tm.d, Sm.d, Cn.d, primM, b3, line, hrl2, mTy, cut1, compL, sT, setT, wipeE, isTup_sm, isTup_cn]
        refine ⟨szsT (r ++ [Tm.su a, Tm.su b]), by omega, ?_⟩
        rw [hI]
        refine ⟨r ++ [Tm.su a, Tm.su b], bx, _, rfl, by rw [take_set' (by omega), e3], by rw [List.length_set]; omega, ?_, ?_, hb, ?_, rfl, ?_⟩
        · rw [List.getElem?_set_ne (by omega)]
          exact a3
        · rw [List.getElem?_set_self (by omega), List.map_append]
          rfl
        · intro u hu
          rcases List.mem_append.mp hu with hu | hu
          · exact hr u hu
          · cases N with
            | zero => cases ht
            | succ N =>
              simp only [List.mem_cons, List.not_mem_nil, or_false] at hu
              rcases hu with rfl | rfl
              · exact good_mono (Nat.le_succ _) ht.1
              · exact good_mono (Nat.le_succ _) ht.2
        · omega
      · skip
        have hrl2 : r.length ≤ 16777216 := by omega
        have hz1 := szT_pos (.co .yes)
        simp [Tm.d, Sm.d, Cn.d, primM, b3, line, hrl2, mTy, cut1, compL, sT, setT, wipeE, isTyD, tyD]
        refine ⟨szsT r, by omega, ?_⟩
        rw [hI]
        refine ⟨r, bx, _, rfl, by rw [take_set' (by omega), e3], by rw [List.length_set]; omega, ?_, ?_, hb, hr, rfl, ?_⟩
        · rw [List.getElem?_set_ne (by omega)]
          exact a3
        · rw [List.getElem?_set_self (by omega)]
        · omega
      · skip
        have hab : (Tm.sz (.co (.not c))) = (Tm.co c).sz + 1 := rfl
        have hs2 : szsT (r ++ [Tm.co c]) = szsT r + (Tm.co c).sz := by
          rw [szsT_app]
          simp [szsT]
        have pa := szT_pos (Tm.co c)
        have hrl2 : r.length + 1 ≤ 16777216 := by omega
        simp [Tm.d, Sm.d, Cn.d, primM, b3, line, hrl2, mTy, cut1, compL, sT, setT, wipeE, isTup_sm, isTup_cn]
        refine ⟨szsT (r ++ [Tm.co c]), by omega, ?_⟩
        rw [hI]
        refine ⟨r ++ [Tm.co c], bx, _, rfl, by rw [take_set' (by omega), e3], by rw [List.length_set]; omega, ?_, ?_, hb, ?_, rfl, ?_⟩
        · rw [List.getElem?_set_ne (by omega)]
          exact a3
        · rw [List.getElem?_set_self (by omega), List.map_append]
          rfl
        · intro u hu
          rcases List.mem_append.mp hu with hu | hu
          · exact hr u hu
          · cases N with
            | zero => cases ht
            | succ N =>
              simp only [List.mem_cons, List.not_mem_nil, or_false] at hu
              rcases hu with rfl
              exact cgood_mono (Nat.le_succ _) ht
        · omega
      · skip
        have hab : (Tm.sz (.co (.both a b))) = (Tm.co a).sz + (Tm.co b).sz + 1 := rfl
        have hs2 : szsT (r ++ [Tm.co a, Tm.co b]) = szsT r + ((Tm.co a).sz + (Tm.co b).sz) := by
          rw [szsT_app]
          simp [szsT]
        have pa := szT_pos (Tm.co a)
        have pb := szT_pos (Tm.co b)
        have hrl2 : r.length + 2 ≤ 16777216 := by omega
        simp [Tm.d, Sm.d, Cn.d, primM, b3, line, hrl2, mTy, cut1, compL, sT, setT, wipeE, isTup_sm, isTup_cn]
        refine ⟨szsT (r ++ [Tm.co a, Tm.co b]), by omega, ?_⟩
        rw [hI]
        refine ⟨r ++ [Tm.co a, Tm.co b], bx, _, rfl, by rw [take_set' (by omega), e3], by rw [List.length_set]; omega, ?_, ?_, hb, ?_, rfl, ?_⟩
        · rw [List.getElem?_set_ne (by omega)]
          exact a3
        · rw [List.getElem?_set_self (by omega), List.map_append]
          rfl
        · intro u hu
          rcases List.mem_append.mp hu with hu | hu
          · exact hr u hu
          · cases N with
            | zero => cases ht
            | succ N =>
              simp only [List.mem_cons, List.not_mem_nil, or_false] at hu
              rcases hu with rfl | rfl
              · exact cgood_mono (Nat.le_succ _) ht.1
              · exact cgood_mono (Nat.le_succ _) ht.2
        · omega
      · skip
        have hab : (Tm.sz (.co (.same a b))) = (Tm.su a).sz + (Tm.su b).sz + 1 := rfl
        have hs2 : szsT (r ++ [Tm.su a, Tm.su b]) = szsT r + ((Tm.su a).sz + (Tm.su b).sz) := by
          rw [szsT_app]
          simp [szsT]
        have pa := szT_pos (Tm.su a)
        have pb := szT_pos (Tm.su b)
        have hrl2 : r.length + 2 ≤ 16777216 := by omega
        simp [Tm.d, Sm.d, Cn.d, primM, b3, line, hrl2, mTy, cut1, compL, sT, setT, wipeE, isTup_sm, isTup_cn]
        refine ⟨szsT (r ++ [Tm.su a, Tm.su b]), by omega, ?_⟩
        rw [hI]
        refine ⟨r ++ [Tm.su a, Tm.su b], bx, _, rfl, by rw [take_set' (by omega), e3], by rw [List.length_set]; omega, ?_, ?_, hb, ?_, rfl, ?_⟩
        · rw [List.getElem?_set_ne (by omega)]
          exact a3
        · rw [List.getElem?_set_self (by omega), List.map_append]
          rfl
        · intro u hu
          rcases List.mem_append.mp hu with hu | hu
          · exact hr u hu
          · cases N with
            | zero => cases ht
            | succ N =>
              simp only [List.mem_cons, List.not_mem_nil, or_false] at hu
              rcases hu with rfl | rfl
              · exact ht.1
              · exact ht.2
        · omega
      · skip
        have hab : (Tm.sz (.co (.under a b))) = (Tm.su a).sz + (Tm.su b).sz + 1 := rfl
        have hs2 : szsT (r ++ [Tm.su a, Tm.su b]) = szsT r + ((Tm.su a).sz + (Tm.su b).sz) := by
          rw [szsT_app]
          simp [szsT]
        have pa := szT_pos (Tm.su a)
        have pb := szT_pos (Tm.su b)
        have hrl2 : r.length + 2 ≤ 16777216 := by omega
        simp [Tm.d, Sm.d, Cn.d, primM, b3, line, hrl2, mTy, cut1, compL, sT, setT, wipeE, isTup_sm, isTup_cn]
        refine ⟨szsT (r ++ [Tm.su a, Tm.su b]), by omega, ?_⟩
        rw [hI]
        refine ⟨r ++ [Tm.su a, Tm.su b], bx, _, rfl, by rw [take_set' (by omega), e3], by rw [List.length_set]; omega, ?_, ?_, hb, ?_, rfl, ?_⟩
        · rw [List.getElem?_set_ne (by omega)]
          exact a3
        · rw [List.getElem?_set_self (by omega), List.map_append]
          rfl
        · intro u hu
          rcases List.mem_append.mp hu with hu | hu
          · exact hr u hu
          · cases N with
            | zero => cases ht
            | succ N =>
              simp only [List.mem_cons, List.not_mem_nil, or_false] at hu
              rcases hu with rfl | rfl
              · exact ht.1
              · exact ht.2
        · omega
    · subst hz
      simp [a2]
      rw [take_set' (Nat.le_refl _), e1]
      exact q bx hb (by omega)
  · rw [hI]
    refine ⟨[s], [], none, rfl, by simp, by simp, by simp, by simp, by simp, by simpa using g, by simp [szsT], by simp [szsT]; omega⟩
end
end PL.A

set_option maxRecDepth 100000
set_option maxHeartbeats 2000000
/-! PL30: whether a condition holds. -/
namespace PL.A
open PySem PL
@[simp] theorem bln_eq (b : Bool) : bln b = .d (.bool b) := rfl
def Cn.hold (kw : Kw) : Cn → Bool
  | .yes => true
  | .not c => !c.hold kw
  | .both a b => a.hold kw && b.hold kw
  | .same a b => decide (a.val kw = b.val kw)
  | .under a b => decide (a.val kw < b.val kw)
section
variable {D : Defs}
theorem known_goT (L : D.lookup "need_known" = some d_need_known) (L1 : D.lookup "need_worths" = some d_need_worths) (L2 : D.lookup "known_by" = some d_known_by) (L3 : D.lookup "names_of" = some d_names_of) (L4 : D.lookup "boxes_named" = some d_boxes_named)
    {k : Nat} {h : Hh} {p : Pg} {ws : List Int} (hb : Bx p.bs) (hw : Wk p.bs ws) {N : Nat} (hN : N ≤ 20) {s : Tm} (g : s.good p.names N) {Q : PV → Hh → Prop} (q : Q (.d (.dict (kd (kwOf p.bs ws)))) h) : wp (callN D (k + 3) "need_known" [.d p.d, .d (iL ws), .d s.d] h) Q := by
  have kn := hw.kn fun b hb' => (hb.sz b hb').2
  refine call_rule L rfl ?_
  simp [d_need_known, startE, primM, wipeE]
  refine need_run (k := k + 1) L1 hw ?_
  try simp
  refine known_run (k := k) L2 L3 hb hw ?_
  try simp
  refine named_runT (k := k + 1) L4 hb.nm hN g fun bx hbx hl => ?_
  try simp
  refine wp_mono (comp_rule (fun r acc h' => (∀ v ∈ r, ∃ x ∈ p.names, v = .d (.str x)) ∧ acc = [] ∧ h' = h) (Q := fun acc h' => acc = [] ∧ h' = h) ?_ ?_ _ [] h ⟨?_, rfl, rfl⟩) ?_
  · rintro v r acc h' ⟨hv, rfl, rfl⟩
    obtain ⟨x, hx, rfl⟩ := hv v List.mem_cons_self
    obtain ⟨w, ew⟩ := kn.all x hx
    simp [sT, setT, primM, wipeE, inD, dget_kd, ew]
    exact fun v hv' => hv v (List.mem_cons_of_mem _ hv')
  · rintro acc h' ⟨_, rfl, rfl⟩
    exact ⟨rfl, rfl⟩
  · intro v hv
    obtain ⟨x, hx, rfl⟩ := List.mem_map.mp hv
    exact ⟨x, hbx x hx, rfl⟩
  · rintro ds h' ⟨e1, rfl⟩
    rw [List.nil_append] at e1
    subst e1
    have e2 : ok2 (.list []) (.list []) = true := by decide
    simp [line, e2, eqv_nil, primM]
    exact q
theorem holds_run (L : D.lookup "holds_in" = some d_holds_in) (L5 : D.lookup "worth_in" = some d_worth_in) {names : List Str} {kw : Kw} (K : Kn names kw) {h : Hh} : ∀ {n k : Nat} {s : Cn} {Q : PV → Hh → Prop}, s.good names n → Q (.d (.bool (s.hold kw))) h →
    wp (callN D (k + n + 1) "holds_in" [.d (.dict (kd kw)), .d s.d] h) Q
  | 0, _, _, _, g, _ => by cases g
  | n + 1, k, s, Q, g, q => by
    refine call_rule (k := k + n + 1) L rfl ?_
    cases s with
    | yes =>
      simp [d_holds_in, startE, primM, Cn.d]
      exact q
    | not c =>
      simp [d_holds_in, startE, primM, Cn.d]
      refine holds_run L L5 K g ?_
      try simp
      exact q
    | both a b =>
      simp [d_holds_in, startE, primM, Cn.d]
      refine holds_run L L5 K g.1 ?_
      have q2 : Q (.d (.bool (a.hold kw && b.hold kw))) h := q
      cases ha : a.hold kw with
      | true =>
        rw [ha] at q2
        simp
        refine holds_run L L5 K g.2 ?_
        simp
        simpa using q2
      | false =>
        rw [ha] at q2
        simp
        simpa using q2
    | same a b =>
      simp [d_holds_in, startE, primM, Cn.d]
      refine worth_run (k := k) (n := n + 1) L5 K g.1 ?_
      try simp
      refine worth_run (k := k) (n := n + 1) L5 K g.2 ?_
      simp [primM, ok2_int, eqv_int]
      exact q
    | under a b =>
      simp [d_holds_in, startE, primM, Cn.d]
      refine worth_run (k := k) (n := n + 1) L5 K g.1 ?_
      try simp
      refine worth_run (k := k) (n := n + 1) L5 K g.2 ?_
      simp [primM, ok2_int, eqv_int]
      exact q
theorem holds_at_run (L0 : D.lookup "holds_at" = some d_holds_at) (L : D.lookup "need_known" = some d_need_known) (L1 : D.lookup "need_worths" = some d_need_worths) (L2 : D.lookup "known_by" = some d_known_by) (L3 : D.lookup "names_of" = some d_names_of) (L4 : D.lookup "boxes_named" = some d_boxes_named) (L5 : D.lookup "worth_in" = some d_worth_in) (L6 : D.lookup "holds_in" = some d_holds_in)
    {k : Nat} {h : Hh} {p : Pg} {ws : List Int} (hb : Bx p.bs) (hw : Wk p.bs ws) {s : Cn} (g : s.good p.names 20) {Q : PV → Hh → Prop} (q : Q (.d (.bool (s.hold (kwOf p.bs ws)))) h) : wp (callN D (k + 30) "holds_at" [.d p.d, .d (iL ws), .d s.d] h) Q := by
  have kn := hw.kn fun b hb' => (hb.sz b hb').2
  refine call_rule (k := k + 29) L0 rfl ?_
  simp [d_holds_at, startE, primM]
  refine known_goT (k := k + 26) (N := 20) (s := .co s) L L1 L2 L3 L4 hb hw (by decide) g ?_
  try simp
  refine holds_run (k := k + 8) (n := 20) L6 L5 kn g ?_
  try simp
  exact q
theorem lholds_run (L : D.lookup "_law_holds" = some d__law_holds) (L5 : D.lookup "_law_value" = some d__law_value) {names : List Str} (hN : Nm names) {kw : Kw} (K : Kn names kw) {h : Hh} : ∀ {n k : Nat} {s : Cn} {Q : PV → Hh → Prop}, n ≤ 60 → s.good names n → Q (.d (.bool (s.hold kw))) h →
    wp (callN D (k + n + 1) "_law_holds" [.d (.dict (kd kw)), .d s.d] h) Q
  | 0, _, _, _, _, g, _ => by cases g
  | n + 1, k, s, Q, hn, g, q => by
    refine call_rule (k := k + n + 1) L rfl ?_
    cases s with
    | yes =>
      simp [d__law_holds, startE, primM, Cn.d, inD, flatD, line]
      exact q
    | not c =>
      simp [d__law_holds, startE, primM, Cn.d, inD, flatD, line]
      refine lholds_run L L5 hN K (by omega) g ?_
      try simp
      exact q
    | both a b =>
      have e2 : ok2 (.list []) (.list []) = true := by decide
      have ea : ok2 (.list [a.d]) (.list []) = true := ok2_l ((Sh.list (n := n + 1) fun d hd => by
        rw [List.mem_singleton] at hd
        subst hd
        exact sh_cn hN g.1).shaped (by omega)) (by decide)
      have eb : ok2 (.list [b.d]) (.list []) = true := ok2_l ((Sh.list (n := n + 1) fun d hd => by
        rw [List.mem_singleton] at hd
        subst hd
        exact sh_cn hN g.2).shaped (by omega)) (by decide)
      have eab : ok2 (.list [a.d, b.d]) (.list []) = true := ok2_l ((Sh.list (n := n + 1) fun d hd => by
        simp only [List.mem_cons, List.not_mem_nil, or_false] at hd
        rcases hd with rfl | rfl
        · exact sh_cn hN g.1
        · exact sh_cn hN g.2).shaped (by omega)) (by decide)
      have q2 : Q (.d (.bool (a.hold kw && b.hold kw))) h := q
      simp [d__law_holds, startE, primM, Cn.d, inD, flatD, line, cut1, compL, sT, setT, setTs, wipeE]
      refine lholds_run L L5 hN K (by omega) g.1 ?_
      cases ha : a.hold kw with
      | true =>
        rw [ha] at q2
        simp [compL, sT, setT, setTs, wipeE]
        refine lholds_run L L5 hN K (by omega) g.2 ?_
        cases hb : b.hold kw with
        | true =>
          rw [hb] at q2
          simp [compL, e2, eqv_nil, line]
          exact q2
        | false =>
          rw [hb] at q2
          simp [compL, eb, eqv_nil, line]
          exact q2
      | false =>
        rw [ha] at q2
        simp [compL, sT, setT, setTs, wipeE]
        refine lholds_run L L5 hN K (by omega) g.2 ?_
        cases hb : b.hold kw with
        | true =>
          simp [compL, ea, eqv_nil, line]
          exact q2
        | false =>
          simp [compL, eab, eqv_nil, line]
          exact q2
    | same a b =>
      simp [d__law_holds, startE, primM, Cn.d, inD, flatD, line]
      refine value_run (k := k) (n := n + 1) L5 K hn g.2 ?_
      try simp
      refine value_run (k := k) (n := n + 1) L5 K hn g.1 ?_
      simp [primM, ok2_int, eqv_int, line]
      have q2 : Q (.d (.bool (decide (a.val kw = b.val kw)))) h := q
      have e : ∀ x : Bool, x = decide (a.val kw = b.val kw) → Q (.d (.bool x)) h := fun x hx => by rw [hx]; exact q2
      refine e _ ?_
      rw [decide_eq_decide] <;> omega
    | under a b =>
      simp [d__law_holds, startE, primM, Cn.d, inD, flatD, line]
      refine value_run (k := k) (n := n + 1) L5 K hn g.2 ?_
      try simp
      refine value_run (k := k) (n := n + 1) L5 K hn g.1 ?_
      simp [primM, ok2_int, eqv_int, line]
      have q2 : Q (.d (.bool (decide (a.val kw < b.val kw)))) h := q
      have e : ∀ x : Bool, x = decide (a.val kw < b.val kw) → Q (.d (.bool x)) h := fun x hx => by rw [hx]; exact q2
      refine e _ ?_
      rw [decide_eq_decide] <;> omega
end
end PL.A

set_option maxRecDepth 100000
set_option maxHeartbeats 4000000
/-! PL31: the text of a step; its result holds lists that may be changed. -/
namespace PL.A
open PySem PL
def d_step_from : Def := ⟨["program", "place", "worths"], ["program", "place", "worths", "node", "known", "found", "at"],
  (.cons (.expr (.call "need_worths" (.cons (.var 0) (.cons (.var 2) .nil))))
  (.cons (.asg (.nm 3) (.prim .idx (.cons (.prim .idx (.cons (.var 0) (.cons (.cst (.int 2)) .nil))) (.cons (.var 1) .nil))))
  (.cons (.asg (.nm 4) (.call "known_by" (.cons (.var 0) (.cons (.var 2) .nil))))
  (.cons (.ite (.prim .eq (.cons (.prim .idx (.cons (.var 3) (.cons (.cst (.int 0)) .nil))) (.cons (.cst (.str "end")) .nil))) (.cons (.ret (.cst .none))
  .nil) .nil)
  (.cons (.ite (.prim .eq (.cons (.prim .idx (.cons (.var 3) (.cons (.cst (.int 0)) .nil))) (.cons (.cst (.str "say")) .nil))) (.cons (.ret (.prim .tup (.cons (.prim (.lst true) (.cons (.call "worth_in" (.cons (.var 4) (.cons (.prim .idx (.cons (.var 3) (.cons (.cst (.int 1)) .nil))) .nil))) .nil)) (.cons (.prim .idx (.cons (.var 3) (.cons (.cst (.int 2)) .nil))) (.cons (.prim (.listOf true) (.cons (.var 2) .nil)) .nil)))))
  .nil) .nil)
  (.cons (.ite (.prim .eq (.cons (.prim .idx (.cons (.var 3) (.cons (.cst (.int 0)) .nil))) (.cons (.cst (.str "test")) .nil))) (.cons (.ret (.prim .tup (.cons (.prim (.lst true) .nil) (.cons (.prim .idx (.cons (.var 3) (.cons (.prim .sub (.cons (.cst (.int 3)) (.cons (.prim .int (.cons (.call "holds_in" (.cons (.var 4) (.cons (.prim .idx (.cons (.var 3) (.cons (.cst (.int 1)) .nil))) .nil))) .nil)) .nil))) .nil))) (.cons (.prim (.listOf true) (.cons (.var 2) .nil)) .nil)))))
  .nil) .nil)
  (.cons (.asg (.nm 5) (.prim (.listOf true) (.cons (.var 2) .nil)))
  (.cons (.asg (.nm 6) (.meth .index (.call "names_of" (.cons (.var 0) .nil)) (.cons (.prim .idx (.cons (.var 3) (.cons (.cst (.int 1)) .nil))) .nil)))
  (.cons (.put (.var 5) (.var 6) (.prim .mod (.cons (.call "worth_in" (.cons (.var 4) (.cons (.prim .idx (.cons (.var 3) (.cons (.cst (.int 2)) .nil))) .nil))) (.cons (.prim .idx (.cons (.prim .idx (.cons (.prim .idx (.cons (.var 0) (.cons (.cst (.int 0)) .nil))) (.cons (.var 6) .nil))) (.cons (.cst (.int 1)) .nil))) .nil))))
  (.cons (.ret (.prim .tup (.cons (.prim (.lst true) .nil) (.cons (.prim .idx (.cons (.var 3) (.cons (.cst (.int 3)) .nil))) (.cons (.var 5) .nil)))))
  .nil))))))))))⟩
def d__law_copiedT : Def := ⟨["program"], ["program"],
  (.cons (.ret (.prim .tup (.cons (.prim (.listOf true) (.cons (.prim .idx (.cons (.var 0) (.cons (.cst (.int 0)) .nil))) .nil)) (.cons (.prim (.listOf true) (.cons (.prim .idx (.cons (.var 0) (.cons (.cst (.int 1)) .nil))) .nil)) (.cons (.prim (.listOf true) (.cons (.prim .idx (.cons (.var 0) (.cons (.cst (.int 2)) .nil))) .nil)) .nil)))))
  .nil)⟩
def d__law_step : Def := ⟨["program", "place", "worths"], ["program", "place", "worths", "node", "known", "found", "k", "number", "name", "size"],
  (.cons (.asg (.nm 3) (.prim .idx (.cons (.prim .idx (.cons (.var 0) (.cons (.cst (.int 2)) .nil))) (.cons (.var 1) .nil))))
  (.cons (.asg (.nm 4) (.call "_law_known" (.cons (.var 0) (.cons (.var 2) .nil))))
  (.cons (.ite (.prim .eq (.cons (.prim .idx (.cons (.var 3) (.cons (.cst (.int 0)) .nil))) (.cons (.cst (.str "end")) .nil))) (.cons (.ret (.cst .none))
  .nil) .nil)
  (.cons (.ite (.prim .eq (.cons (.prim .idx (.cons (.var 3) (.cons (.cst (.int 0)) .nil))) (.cons (.cst (.str "say")) .nil))) (.cons (.ret (.prim .tup (.cons (.prim (.lst false) (.cons (.call "_law_value" (.cons (.var 4) (.cons (.prim .idx (.cons (.var 3) (.cons (.cst (.int 1)) .nil))) .nil))) .nil)) (.cons (.prim .idx (.cons (.var 3) (.cons (.cst (.int 2)) .nil))) (.cons (.prim (.listOf false) (.cons (.var 2) .nil)) .nil)))))
  .nil) .nil)
  (.cons (.ite (.prim .eq (.cons (.prim .idx (.cons (.var 3) (.cons (.cst (.int 0)) .nil))) (.cons (.cst (.str "test")) .nil))) (.cons (.ret (.prim .tup (.cons (.prim (.lst false) .nil) (.cons (.prim .idx (.cons (.prim (.lst false) (.cons (.prim .idx (.cons (.var 3) (.cons (.cst (.int 3)) .nil))) (.cons (.prim .idx (.cons (.var 3) (.cons (.cst (.int 2)) .nil))) .nil))) (.cons (.prim .int (.cons (.call "_law_holds" (.cons (.var 4) (.cons (.prim .idx (.cons (.var 3) (.cons (.cst (.int 1)) .nil))) .nil))) .nil)) .nil))) (.cons (.prim (.listOf false) (.cons (.var 2) .nil)) .nil)))))
  .nil) .nil)
  (.cons (.asg (.nm 5) (.prim (.lst true) .nil))
  (.cons (.for_ (.nm 6) (.rng1 (.prim .len (.cons (.var 2) .nil))) (.cons (.asg (.tup [(.nm 8), (.nm 9)]) (.prim .idx (.cons (.prim .idx (.cons (.var 0) (.cons (.cst (.int 0)) .nil))) (.cons (.var 6) .nil))))
  (.cons (.asg (.nm 7) (.prim .idx (.cons (.var 2) (.cons (.var 6) .nil))))
  (.cons (.ite (.prim .eq (.cons (.var 8) (.cons (.prim .idx (.cons (.var 3) (.cons (.cst (.int 1)) .nil))) .nil))) (.cons (.asg (.nm 7) (.prim .mod (.cons (.call "_law_value" (.cons (.var 4) (.cons (.prim .idx (.cons (.var 3) (.cons (.cst (.int 2)) .nil))) .nil))) (.cons (.var 9) .nil))))
  .nil) .nil)
  (.cons (.expr (.meth .append (.var 5) (.cons (.var 7) .nil)))
  .nil)))))
  (.cons (.ret (.prim .tup (.cons (.prim (.lst false) .nil) (.cons (.prim .idx (.cons (.var 3) (.cons (.cst (.int 3)) .nil))) (.cons (.frz (.var 5)) .nil)))))
  .nil))))))))⟩
end PL.A

set_option maxRecDepth 100000
set_option maxHeartbeats 1000000
/-! PL32: a step. -/
namespace PL.A
open PySem PL
@[simp] theorem getA (h xs : Hh) (i : Nat) : (h ++ xs)[h.length + i]? = xs[i]? := by
  rw [List.getElem?_append_right (Nat.le_add_right _ _), Nat.add_sub_cancel_left]
@[simp] theorem getA0 (h xs : Hh) : (h ++ xs)[h.length]? = xs[0]? := getA h xs 0
@[simp] theorem setA (h xs : Hh) (i : Nat) (c : Cl) : (h ++ xs).set (h.length + i) c = h ++ xs.set i c := by
  rw [List.set_append_right _ _ (Nat.le_add_right _ _), Nat.add_sub_cancel_left]
@[simp] theorem setA0 (h xs : Hh) (c : Cl) : (h ++ xs).set h.length c = h ++ xs.set 0 c := setA h xs 0 c
theorem node_at {p : Pg} {j : Nat} {s : Nd} (e : p.nds[j]? = some s) (h : Hh) : idxM (.d (.list (p.nds.map Nd.d))) (.d (.int j)) h = .ok (.d s.d) h := by
  obtain ⟨hj, e⟩ := List.getElem?_eq_some_iff.mp e
  rw [P_idx_lst, ati_nat (by rw [List.length_map]; exact hj)]
  simp [e]
@[simp] theorem P_pg0 (p : Pg) (h : Hh) : idxM (.d p.d) (.d (.int 0)) h = .ok (.d (.list (bD p.bs))) h := rfl
@[simp] theorem P_pg2 (p : Pg) (h : Hh) : idxM (.d p.d) (.d (.int 2)) h = .ok (.d (.list (p.nds.map Nd.d))) h := by
  unfold Pg.d
  simp
@[simp] theorem P_ati3 {α : Type} (x y z u : α) (r : List α) : ati (x :: y :: z :: u :: r) 3 = some u := by
  unfold ati
  rw [P_ixn (by omega) (by simp; omega)]
  rfl
/-- the worths behind a put -/
def putW : Bs → List Int → Str → Int → List Int
  | b :: bs, w :: ws, x, v => (if b.1 = x then v % b.2 else w) :: putW bs ws x v
  | _, _, _, _ => []
theorem idx_names : ∀ {names : List Str} {x : Str}, x ∈ names → ∃ j : Nat, (names.map PyData.str).findIdx? (fun z => PyData.eqv z (.str x)) = some j ∧ names[j]? = some x
  | [], _, h => by cases h
  | y :: r, x, h => by
    by_cases e : y = x
    · subst e
      exact ⟨0, by simp [List.findIdx?_cons, eqv_strs], rfl⟩
    · rcases List.mem_cons.mp h with h | h
      · exact absurd h.symm e
      · obtain ⟨j, h1, h2⟩ := idx_names h
        refine ⟨j + 1, ?_, by rw [List.getElem?_cons_succ]; exact h2⟩
        have he : (y == x) = false := beq_eq_false_iff_ne.mpr e
        rw [List.map_cons, List.findIdx?_cons, eqv_strs, he, h1]
        rfl
theorem putW_out {v : Int} {x : Str} : ∀ {bs : Bs} {ws : List Int}, x ∉ bs.map (·.1) → Wk bs ws → putW bs ws x v = ws
  | [], [], _, _ => rfl
  | [], _ :: _, _, h => h.elim
  | _ :: _, [], _, h => h.elim
  | b :: bs, w :: ws, hx, h => by
    rw [List.map_cons, List.mem_cons, not_or] at hx
    show (if b.1 = x then v % b.2 else w) :: putW bs ws x v = w :: ws
    rw [if_neg (Ne.symm hx.1), putW_out hx.2 h.2.2]
theorem putW_eq {v : Int} {x : Str} : ∀ {bs : Bs} {ws : List Int} {j : Nat} {b : Str × Int}, (bs.map (·.1)).Nodup → Wk bs ws → bs[j]? = some b → b.1 = x → putW bs ws x v = ws.set j (v % b.2)
  | [], _, _, _, _, _, h, _ => by simp at h
  | _ :: _, [], _, _, _, h, _, _ => h.elim
  | c :: bs, w :: ws, 0, b, nd, hw, h, e => by
    simp at h
    subst h
    rw [List.map_cons, List.nodup_cons] at nd
    show (if c.1 = x then v % c.2 else w) :: putW bs ws x v = (v % c.2) :: ws
    rw [if_pos e, putW_out (by rw [← e]; exact nd.1) hw.2.2]
  | c :: bs, w :: ws, j + 1, b, nd, hw, h, e => by
    rw [List.map_cons, List.nodup_cons] at nd
    rw [List.getElem?_cons_succ] at h
    have ne : c.1 ≠ x := fun z => nd.1 (by rw [z, ← e]; exact List.mem_map_of_mem (List.mem_of_getElem? h))
    show (if c.1 = x then v % c.2 else w) :: putW bs ws x v = w :: ws.set j (v % b.2)
    rw [if_neg ne, putW_eq nd.2 hw.2.2 h e]
@[simp] theorem P_pures_cell (n : Nat) (r : List PV) : pures (.cell n :: r) = none := rfl
@[simp] theorem P_consO_none (x : PyData) : consO x none = none := rfl
@[simp] theorem P_tupO_none (vs : List PV) (h : Hh) : tupO none vs h = if vs.length ≤ line then .ok (.tc vs) h else .stuck := rfl
section
variable {D : Defs}
theorem step_run (L : D.lookup "step_from" = some d_step_from) (L1 : D.lookup "need_worths" = some d_need_worths) (L2 : D.lookup "known_by" = some d_known_by) (L3 : D.lookup "names_of" = some d_names_of) (L5 : D.lookup "worth_in" = some d_worth_in) (L6 : D.lookup "holds_in" = some d_holds_in)
    {k : Nat} {h : Hh} {p : Pg} {ws : List Int} (hb : Bx p.bs) (hw : Wk p.bs ws) {j N : Nat} (hN : N ≤ 21) {many : Int} {s : Nd} (e : p.nds[j]? = some s) (gs : s.goodN N p.names many) {Q : PV → Hh → Prop}
    (q0 : s = .fin → Q (.d .none) h)
    (q1 : ∀ a b, s = .say a b → Q (.tc [.cell h.length, .d (.int b), .cell (h.length + 1)]) (h ++ [.lst [.int (a.val (kwOf p.bs ws))], .lst (ws.map .int)]))
    (q2 : ∀ c a b, s = .test c a b → Q (.tc [.cell h.length, .d (.int (if c.hold (kwOf p.bs ws) then a else b)), .cell (h.length + 1)]) (h ++ [.lst [], .lst (ws.map .int)]))
    (q3 : ∀ x a b, s = .put x a b → Q (.tc [.cell h.length, .d (.int b), .cell (h.length + 1)]) (h ++ [.lst [], .lst ((putW p.bs ws x (a.val (kwOf p.bs ws))).map .int)])) :
    wp (callN D (k + 31) "step_from" [.d p.d, .d (.int j), .d (iL ws)] h) Q := by
  have nlt : ¬ (h.length + 1 < h.length) := by omega
  have kn := hw.kn fun b' hb' => (hb.sz b' hb').2
  have hl : ws.length ≤ 16777216 := by
    have := hw.len
    have := hb.len
    omega
  refine call_rule (k := k + 30) L rfl ?_
  simp [d_step_from, startE, primM, node_at e]
  refine need_run (k := k + 29) L1 hw ?_
  try simp [node_at e]
  refine known_run (k := k + 28) L2 L3 hb hw ?_
  cases s with
  | fin =>
    simp [Nd.d, primM]
    exact q0 rfl
  | say a b =>
    simp [Nd.d, primM]
    refine worth_run (k := k + 8) (n := 22) L5 kn (good_mono (by omega) gs.1) ?_
    simp [line, hl, primM, pack, packs, cellsAt, nlt]
    exact q1 a b rfl
  | test c a b =>
    simp [Nd.d, primM, line]
    refine holds_run (k := k + 8) (n := 21) L6 L5 kn (cgood_mono hN gs.1) ?_
    cases hc : c.hold (kwOf p.bs ws) with
    | true =>
      have := q2 c a b rfl
      rw [hc] at this
      simp [line, hl, primM, pack, packs, cellsAt, nlt]
      simpa using this
    | false =>
      have := q2 c a b rfl
      rw [hc] at this
      simp [line, hl, primM, pack, packs, cellsAt, nlt]
      simpa using this
  | put x a b =>
    simp [Nd.d, primM, line, hl]
    refine names_run (k := k + 29) L3 hb.len ?_
    obtain ⟨j2, f1, f2⟩ := idx_names (names := p.names) gs.1
    have hk : kindOk (mTy .index) (.d (nL p.names)) (h ++ [Cl.lst (ws.map .int)]) = true := rfl
    have hix : ok2 (nL p.names) (.str x) = true := ok2_l (shaped_nm hb.nm) (shaped_str (hb.nm.ok x gs.1))
    refine ⟨hk, ?_⟩
    obtain ⟨b2, hb2, hx2⟩ : ∃ b2, p.bs[j2]? = some b2 ∧ b2.1 = x := by
      rw [Pg.names, List.getElem?_map] at f2
      cases hb2 : p.bs[j2]? with
      | none => rw [hb2] at f2; cases f2
      | some b2 =>
        rw [hb2] at f2
        exact ⟨b2, rfl, Option.some.inj f2⟩
    obtain ⟨j2l, e2⟩ := List.getElem?_eq_some_iff.mp hb2
    have ab : ati (bD p.bs) (j2 : Int) = some (.tuple [.str b2.1, .int b2.2]) := by
      rw [ati_nat (by unfold bD; rw [List.length_map]; exact j2l)]
      simp [bD, e2]
    have sz := hb.sz b2 (List.mem_of_getElem? hb2)
    have szp : 0 < b2.2 := by omega
    have iw : ixn ws.length (j2 : Int) = some j2 := by
      have := hw.len
      rw [P_ixn (by omega) (by omega)]
      rfl
    simp [primM, P_index hix f1]
    refine worth_run (k := k + 8) (n := 22) L5 kn (good_mono (by omega) gs.2.1) ?_
    simp [primM, ab, szp, iw]
    have := q3 x a b rfl
    rw [putW_eq hb.nd hw hb2 hx2] at this
    simp [line, pack, packs, cellsAt, nlt]
    rw [List.map_set] at this
    exact this
end
end PL.A

set_option maxRecDepth 100000
set_option maxHeartbeats 1000000
/-! PL33: a step, reckoned by the law. -/
namespace PL.A
open PySem PL
/-- a step by the law: None, or what is said, where to, the worths -/
def Nd.due (kw : Kw) (bs : Bs) (ws : List Int) : Nd → PyData
  | .fin => .none
  | .say s b => .tuple [.list [.int (s.val kw)], .int b, iL ws]
  | .test c a b => .tuple [.list [], .int (if c.hold kw then a else b), iL ws]
  | .put x s b => .tuple [.list [], .int b, iL (putW bs ws x (s.val kw))]
theorem putW_len {v : Int} {x : Str} : ∀ {bs : Bs} {ws : List Int}, Wk bs ws → (putW bs ws x v).length = ws.length
  | [], [], _ => rfl
  | [], _ :: _, h => h.elim
  | _ :: _, [], h => h.elim
  | _ :: _, _ :: _, h => congrArg (· + 1) (putW_len h.2.2)
theorem putW_get {v : Int} {x : Str} : ∀ {bs : Bs} {ws : List Int} {i : Nat}, Wk bs ws → (h1 : i < bs.length) → (h2 : i < ws.length) → (putW bs ws x v)[i]? = some (if (bs[i]).1 = x then v % (bs[i]).2 else ws[i])
  | [], _, _, _, h1, _ => by simp at h1
  | _ :: _, [], _, h, _, _ => h.elim
  | b :: bs, w :: ws, 0, h, _, _ => rfl
  | b :: bs, w :: ws, i + 1, h, h1, h2 => by
    show (putW bs ws x v)[i]? = _
    exact putW_get h.2.2 (by simpa using h1) (by simpa using h2)
section
variable {D : Defs}
theorem lstep_run (L : D.lookup "_law_step" = some d__law_step) (L2 : D.lookup "_law_known" = some d__law_known) (L5 : D.lookup "_law_value" = some d__law_value) (L6 : D.lookup "_law_holds" = some d__law_holds)
    {k : Nat} {h : Hh} {p : Pg} {ws : List Int} (hb : Bx p.bs) (hw : Wk p.bs ws) {j N : Nat} (hN : N ≤ 21) {many : Int} {s : Nd} (e : p.nds[j]? = some s) (gs : s.goodN N p.names many) {Q : PV → Hh → Prop}
    (q : Q (.d (s.due (kwOf p.bs ws) p.bs ws)) h) :
    wp (callN D (k + 31) "_law_step" [.d p.d, .d (.int j), .d (iL ws)] h) Q := by
  have kn := hw.kn fun b' hb' => (hb.sz b' hb').2
  have h4 := hb.len
  have hwl := hw.len
  have hl : ws.length ≤ 16777216 := by omega
  refine call_rule (k := k + 30) L rfl ?_
  simp [d__law_step, startE, primM, node_at e]
  refine lknown_run (k := k + 29) L2 hb hw ?_
  cases s with
  | fin =>
    simp [Nd.d, primM]
    exact q
  | say a b =>
    simp [Nd.d, primM]
    refine value_run (k := k + 8) (n := 22) L5 kn (by decide) (good_mono (by omega) gs.1) ?_
    simp [line, hl, primM]
    exact q
  | test c a b =>
    simp [Nd.d, primM, line]
    refine lholds_run (k := k + 8) (n := 21) L6 L5 hb.nm kn (by decide) (cgood_mono hN gs.1) ?_
    have q2 : Q (.d (.tuple [.list [], .int (if c.hold (kwOf p.bs ws) then a else b), iL ws])) h := q
    cases hc : c.hold (kwOf p.bs ws) with
    | true =>
      rw [hc] at q2
      simp [line, hl, primM]
      simpa using q2
    | false =>
      rw [hc] at q2
      simp [line, hl, primM]
      simpa using q2
  | put x a b =>
    have hm : -16777216 ≤ (ws.length : Int) ∧ (ws.length : Int) ≤ 16777216 := by omega
    simp [Nd.d, primM, line, hl, hm]
    have hpl : (putW p.bs ws x (a.val (kwOf p.bs ws))).length = ws.length := putW_len hw
    obtain ⟨I, hI⟩ : ∃ I : List PV → Ee → Hh → Prop, I = fun r e h' => ∃ (i : Nat) (z6 z7 z8 z9 : Option PV), r = (rngL 0 ws.length).drop i ∧ i ≤ ws.length ∧ h' = h ++ [Cl.lst (((putW p.bs ws x (a.val (kwOf p.bs ws))).take i).map .int)] ∧
        e = [some (.d p.d), some (.d (.int j)), some (.d (iL ws)), some (.d (.tuple [.str (Str.ofString "put"), .str x, a.d, .int b])), some (.d (.dict (kd (kwOf p.bs ws)))), some (.cell h.length), z6, z7, z8, z9] := ⟨_, rfl⟩
    refine for_rule I ?_ ?_ _ _ _ ?_
    · intro v r e h' hi
      rw [hI] at hi
      obtain ⟨i, z6, z7, z8, z9, er, hil, rfl, rfl⟩ := hi
      obtain ⟨i1, rfl, e2⟩ := rng_drop er
      have hi1 : i < ws.length := by omega
      have hi2 : i < p.bs.length := by omega
      have a1 : ati (bD p.bs) (i : Int) = some (.tuple [.str (p.bs[i]).1, .int (p.bs[i]).2]) := by
        rw [ati_nat (by unfold bD; rw [List.length_map]; exact hi2)]
        simp [bD]
      have a2 : ati (ws.map PyData.int) (i : Int) = some (.int ws[i]) := by
        rw [ati_nat (by rw [List.length_map]; exact hi1)]
        simp
      have sz := hb.sz _ (List.getElem_mem hi2)
      have szp : 0 < (p.bs[i]).2 := by omega
      have oks : ok2 (.str (p.bs[i]).1) (.str x) = true := ok2_l (shaped_str (hb.nm.ok _ (List.mem_map_of_mem (List.getElem_mem hi2)))) (shaped_str (hb.nm.ok x gs.1))
      have pg := putW_get (x := x) (v := a.val (kwOf p.bs ws)) hw hi2 hi1
      have hlt : ((putW p.bs ws x (a.val (kwOf p.bs ws))).take i).length < 16777216 := by
        rw [List.length_take]
        omega
      have hmin : min i (putW p.bs ws x (a.val (kwOf p.bs ws))).length < 16777216 := by omega
      have tk : (putW p.bs ws x (a.val (kwOf p.bs ws))).take (i + 1) = (putW p.bs ws x (a.val (kwOf p.bs ws))).take i ++ [if (p.bs[i]).1 = x then a.val (kwOf p.bs ws) % (p.bs[i]).2 else ws[i]] := by
        rw [List.take_add_one, pg]
        rfl
      simp [sT, setT, setTs, primM, a1, a2, oks, eqv_strs]
      refine ⟨fun hx => ?_, fun hx => ?_⟩
      · refine value_run (k := k + 8) (n := 22) L5 kn (by decide) (good_mono (by omega) gs.2.1) ?_
        simp [szp, primM, line, mTy, hmin]
        rw [hI]
        refine ⟨i + 1, _, _, _, _, e2, hi1, ?_, rfl⟩
        rw [tk, if_pos hx]
        simp
      · simp [szp, primM, line, mTy, hmin]
        rw [hI]
        refine ⟨i + 1, _, _, _, _, e2, hi1, ?_, rfl⟩
        rw [tk, if_neg hx]
        simp
    · intro e h' hi
      rw [hI] at hi
      obtain ⟨i, z6, z7, z8, z9, er, hil, rfl, rfl⟩ := hi
      have e1 := congrArg List.length er
      rw [List.length_drop, rngL_len, List.length_nil] at e1
      have ei : i = ws.length := by omega
      subst ei
      rw [← hpl, List.take_length]
      simp [line]
      exact q
    · rw [hI]
      exact ⟨0, none, none, none, none, rfl, Nat.zero_le _, by simp, rfl⟩
end
end PL.A

set_option maxRecDepth 100000
set_option maxHeartbeats 4000000
/-! PL34: the texts of runs; a step's result is data that no one changes. -/
namespace PL.A
open PySem PL
def d_step_fromF : Def := ⟨["program", "place", "worths"], ["program", "place", "worths", "node", "known", "found", "at"],
  (.cons (.expr (.call "need_worths" (.cons (.var 0) (.cons (.var 2) .nil))))
  (.cons (.asg (.nm 3) (.prim .idx (.cons (.prim .idx (.cons (.var 0) (.cons (.cst (.int 2)) .nil))) (.cons (.var 1) .nil))))
  (.cons (.asg (.nm 4) (.call "known_by" (.cons (.var 0) (.cons (.var 2) .nil))))
  (.cons (.ite (.prim .eq (.cons (.prim .idx (.cons (.var 3) (.cons (.cst (.int 0)) .nil))) (.cons (.cst (.str "end")) .nil))) (.cons (.ret (.cst .none))
  .nil) .nil)
  (.cons (.ite (.prim .eq (.cons (.prim .idx (.cons (.var 3) (.cons (.cst (.int 0)) .nil))) (.cons (.cst (.str "say")) .nil))) (.cons (.ret (.prim .tup (.cons (.prim (.lst false) (.cons (.call "worth_in" (.cons (.var 4) (.cons (.prim .idx (.cons (.var 3) (.cons (.cst (.int 1)) .nil))) .nil))) .nil)) (.cons (.prim .idx (.cons (.var 3) (.cons (.cst (.int 2)) .nil))) (.cons (.prim (.listOf false) (.cons (.var 2) .nil)) .nil)))))
  .nil) .nil)
  (.cons (.ite (.prim .eq (.cons (.prim .idx (.cons (.var 3) (.cons (.cst (.int 0)) .nil))) (.cons (.cst (.str "test")) .nil))) (.cons (.ret (.prim .tup (.cons (.prim (.lst false) .nil) (.cons (.prim .idx (.cons (.var 3) (.cons (.prim .sub (.cons (.cst (.int 3)) (.cons (.prim .int (.cons (.call "holds_in" (.cons (.var 4) (.cons (.prim .idx (.cons (.var 3) (.cons (.cst (.int 1)) .nil))) .nil))) .nil)) .nil))) .nil))) (.cons (.prim (.listOf false) (.cons (.var 2) .nil)) .nil)))))
  .nil) .nil)
  (.cons (.asg (.nm 5) (.prim (.listOf true) (.cons (.var 2) .nil)))
  (.cons (.asg (.nm 6) (.meth .index (.call "names_of" (.cons (.var 0) .nil)) (.cons (.prim .idx (.cons (.var 3) (.cons (.cst (.int 1)) .nil))) .nil)))
  (.cons (.put (.var 5) (.var 6) (.prim .mod (.cons (.call "worth_in" (.cons (.var 4) (.cons (.prim .idx (.cons (.var 3) (.cons (.cst (.int 2)) .nil))) .nil))) (.cons (.prim .idx (.cons (.prim .idx (.cons (.prim .idx (.cons (.var 0) (.cons (.cst (.int 0)) .nil))) (.cons (.var 6) .nil))) (.cons (.cst (.int 1)) .nil))) .nil))))
  (.cons (.ret (.prim .tup (.cons (.prim (.lst false) .nil) (.cons (.prim .idx (.cons (.var 3) (.cons (.cst (.int 3)) .nil))) (.cons (.frz (.var 5)) .nil)))))
  .nil))))))))))⟩
def d_first_worths : Def := ⟨["program", "inputs"], ["program", "inputs", "sizes", "given", "worth", "name"],
  (.cons (.asg (.nm 2) (.prim .dictPairs (.cons (.prim .idx (.cons (.var 0) (.cons (.cst (.int 0)) .nil))) .nil)))
  (.cons (.ite (.prim .ne (.cons (.prim .len (.cons (.var 1) .nil)) (.cons (.prim .len (.cons (.prim .idx (.cons (.var 0) (.cons (.cst (.int 1)) .nil))) .nil)) .nil))) (.cons (.raise "NoWorths")
  .nil) .nil)
  (.cons (.for_ (.tup [(.nm 4), (.nm 5)]) (.zip (.var 1) (.prim .idx (.cons (.var 0) (.cons (.cst (.int 1)) .nil)))) (.cons (.ite (.not (.chain .le .lt (.cst (.int 0)) (.var 4) (.prim .idx (.cons (.var 2) (.cons (.var 5) .nil))))) (.cons (.raise "NoWorths")
  .nil) .nil)
  .nil))
  (.cons (.asg (.nm 3) (.prim .dictZip (.cons (.prim .idx (.cons (.var 0) (.cons (.cst (.int 1)) .nil))) (.cons (.var 1) .nil))))
  (.cons (.ret (.comp false [5] (.nm 5) (.seq (.call "names_of" (.cons (.var 0) .nil))) .nil (.meth .get2 (.var 3) (.cons (.var 5) (.cons (.cst (.int 0)) .nil)))))
  .nil)))))⟩
def d_said_in : Def := ⟨["program", "inputs", "steps"], ["program", "inputs", "steps", "place", "worths", "said", "turn", "behind", "more"],
  (.cons (.asg (.nm 3) (.cst (.int 0)))
  (.cons (.asg (.nm 4) (.call "first_worths" (.cons (.var 0) (.cons (.var 1) .nil))))
  (.cons (.asg (.nm 5) (.prim (.lst true) .nil))
  (.cons (.for_ (.nm 6) (.rng1 (.var 2)) (.cons (.asg (.nm 7) (.call "step_from" (.cons (.var 0) (.cons (.var 3) (.cons (.var 4) .nil)))))
  (.cons (.ite (.prim .isN (.cons (.var 7) .nil)) (.cons (.ret (.var 5))
  .nil) .nil)
  (.cons (.asg (.tup [(.nm 8), (.nm 3), (.nm 4)]) (.var 7))
  (.cons (.expr (.meth .extend (.var 5) (.cons (.var 8) .nil)))
  .nil)))))
  (.cons (.ret (.var 5))
  .nil)))))⟩
def d__law_first : Def := ⟨["program", "inputs"], ["program", "inputs", "found", "name", "size", "number"],
  (.cons (.asg (.nm 2) (.prim (.lst true) .nil))
  (.cons (.for_ (.tup [(.nm 3), (.nm 4)]) (.seq (.prim .idx (.cons (.var 0) (.cons (.cst (.int 0)) .nil)))) (.cons (.asg (.nm 5) (.cst (.int 0)))
  (.cons (.ite (.prim .inn (.cons (.var 3) (.cons (.prim .idx (.cons (.var 0) (.cons (.cst (.int 1)) .nil))) .nil))) (.cons (.asg (.nm 5) (.prim .idx (.cons (.var 1) (.cons (.meth .index (.prim .idx (.cons (.var 0) (.cons (.cst (.int 1)) .nil))) (.cons (.var 3) .nil)) .nil))))
  .nil) .nil)
  (.cons (.expr (.meth .append (.var 2) (.cons (.var 5) .nil)))
  .nil))))
  (.cons (.ret (.frz (.var 2)))
  .nil)))⟩
def d__law_walk : Def := ⟨["program", "inputs", "most"], ["program", "inputs", "most", "here", "rows", "said", "behind"],
  (.cons (.asg (.nm 3) (.prim .tup (.cons (.cst (.int 0)) (.cons (.call "_law_first" (.cons (.var 0) (.cons (.var 1) .nil))) .nil))))
  (.cons (.asg (.nm 4) (.prim (.lst true) (.cons (.var 3) .nil)))
  (.cons (.asg (.nm 5) (.prim (.lst true) .nil))
  (.cons (.whl fuel (.prim .lt (.cons (.prim .len (.cons (.var 5) .nil)) (.cons (.var 2) .nil))) (.cons (.asg (.nm 6) (.call "_law_step" (.cons (.var 0) (.cons (.prim .idx (.cons (.var 3) (.cons (.cst (.int 0)) .nil))) (.cons (.prim .idx (.cons (.var 3) (.cons (.cst (.int 1)) .nil))) .nil)))))
  (.cons (.ite (.prim .isN (.cons (.var 6) .nil)) (.cons (.ret (.prim .tup (.cons (.frz (.var 4)) (.cons (.frz (.var 5)) (.cons (.cst (.bool true)) .nil)))))
  .nil) .nil)
  (.cons (.expr (.meth .append (.var 5) (.cons (.prim .idx (.cons (.var 6) (.cons (.cst (.int 0)) .nil))) .nil)))
  (.cons (.asg (.nm 3) (.prim .tup (.cons (.prim .idx (.cons (.var 6) (.cons (.cst (.int 1)) .nil))) (.cons (.prim .idx (.cons (.var 6) (.cons (.cst (.int 2)) .nil))) .nil))))
  (.cons (.expr (.meth .append (.var 4) (.cons (.var 3) .nil)))
  .nil))))))
  (.cons (.ret (.prim .tup (.cons (.frz (.var 4)) (.cons (.frz (.var 5)) (.cons (.cst (.bool false)) .nil)))))
  .nil)))))⟩
def d__law_inputs : Def := ⟨["deck", "program"], ["deck", "program", "sizes", "name"],
  (.cons (.asg (.nm 2) (.prim .dictPairs (.cons (.prim .idx (.cons (.var 1) (.cons (.cst (.int 0)) .nil))) .nil)))
  (.cons (.ret (.comp false [3] (.nm 3) (.seq (.prim .idx (.cons (.var 1) (.cons (.cst (.int 1)) .nil)))) .nil (.call "_law_take" (.cons (.var 0) (.cons (.prim .idx (.cons (.var 2) (.cons (.var 3) .nil))) .nil)))))
  .nil))⟩
end PL.A

set_option maxRecDepth 100000
set_option maxHeartbeats 1000000
/-! PL35: steps of a run, what stands at the beginning. -/
namespace PL.A
open PySem PL
/-- programs that are gone through -/
structure Pw (p : Pg) : Prop where
  bx : Bx p.bs
  ins : ∀ x ∈ p.ins, x ∈ p.names
  ind : p.ins.Nodup
  il : p.ins.length ≤ 4
  n0 : 0 < p.nds.length
  n1 : p.nds.length ≤ 60
  nd : ∀ s ∈ p.nds, s.goodN 21 p.names p.nds.length
theorem Nd.up {names : List Str} {m : Int} {N M : Nat} (hNM : N ≤ M) : ∀ {s : Nd}, s.goodN N names m → s.goodN M names m
  | .fin, _ => True.intro
  | .say _ _, g => ⟨good_mono hNM g.1, g.2⟩
  | .put _ _ _, g => ⟨g.1, good_mono hNM g.2.1, g.2.2⟩
  | .test _ _ _, g => ⟨cgood_mono hNM g.1, g.2⟩
theorem Pg.good.pw {most : Int} {p : Pg} (g : p.good most) (hm : most ≤ 60) : Pw p := by
  obtain ⟨r, pm⟩ := g.ins
  have nd := g.bx.nd
  refine ⟨g.bx, fun x hx => pm.mem_iff.mp (List.mem_append_left _ hx), ?_, ?_, g.n0, by have := g.n1; omega, fun s hs => Nd.up (by decide) (g.nd s hs)⟩
  · exact (List.nodup_append.mp (pm.nodup_iff.mpr nd)).1
  · have := pm.length_eq
    rw [List.length_append, Pg.names, List.length_map] at this
    have := g.bx.len
    omega
/-- a step -/
def stp (p : Pg) (j : Nat) (ws : List Int) : Option (List Int × Nat × List Int) := match p.nds[j]? with
  | some (.say s b) => some ([s.val (kwOf p.bs ws)], b.toNat, ws)
  | some (.test c a b) => some ([], (if c.hold (kwOf p.bs ws) then a else b).toNat, ws)
  | some (.put x s b) => some ([], b.toNat, putW p.bs ws x (s.val (kwOf p.bs ws)))
  | _ => none
def stD : Option (List Int × Nat × List Int) → PyData
  | none => .none
  | some (l, j, ws) => .tuple [iL l, .int j, iL ws]
theorem putW_wk {v : Int} {x : Str} : ∀ {bs : Bs} {ws : List Int}, (∀ b ∈ bs, 1 ≤ b.2 ∧ b.2 ≤ 16) → Wk bs ws → Wk bs (putW bs ws x v)
  | [], [], _, _ => True.intro
  | [], _ :: _, _, h => h.elim
  | _ :: _, [], _, h => h.elim
  | b :: bs, w :: ws, hs, h => by
    have hb := hs b List.mem_cons_self
    have ih := putW_wk (v := v) (x := x) (fun c hc => hs c (List.mem_cons_of_mem _ hc)) h.2.2
    show Wk (b :: bs) ((if b.1 = x then v % b.2 else w) :: putW bs ws x v)
    split
    · exact ⟨Int.emod_nonneg _ (by omega), Int.emod_lt_of_pos _ (by omega), ih⟩
    · exact ⟨h.1, h.2.1, ih⟩
theorem stp_due {p : Pg} (g : Pw p) {j : Nat} {ws : List Int} {s : Nd} (e : p.nds[j]? = some s) : s.due (kwOf p.bs ws) p.bs ws = stD (stp p j ws) := by
  have gs := g.nd s (List.mem_of_getElem? e)
  unfold stp
  rw [e]
  have nn : ∀ b : Int, 0 ≤ b → PyData.int b = .int ((b.toNat : Nat) : Int) := fun b h => by rw [Int.toNat_of_nonneg h]
  cases s with
  | fin => rfl
  | say a b =>
    show PyData.tuple [.list [.int _], .int b, iL ws] = .tuple [.list [.int _], .int _, iL ws]
    rw [← nn b gs.2.1]
  | put x a b =>
    show PyData.tuple [.list [], .int b, _] = .tuple [.list [], .int _, _]
    rw [← nn b gs.2.2.1]
  | test c a b =>
    show PyData.tuple [.list [], .int _, iL ws] = .tuple [.list [], .int _, iL ws]
    rw [← nn]
    split
    · exact gs.2.1
    · exact gs.2.2.2.1
theorem stp_ok {p : Pg} (g : Pw p) {j : Nat} {ws : List Int} (hw : Wk p.bs ws) {l : List Int} {j' : Nat} {ws' : List Int} (e : stp p j ws = some (l, j', ws')) : j' < p.nds.length ∧ Wk p.bs ws' ∧ l.length ≤ 1 := by
  unfold stp at e
  cases hn : p.nds[j]? with
  | none => rw [hn] at e; cases e
  | some s =>
    rw [hn] at e
    have gs := g.nd s (List.mem_of_getElem? hn)
    cases s with
    | fin => cases e
    | say a b =>
      simp only [Option.some.injEq, Prod.mk.injEq] at e
      obtain ⟨rfl, rfl, rfl⟩ := e
      have := gs.2
      exact ⟨by omega, hw, by simp⟩
    | put x a b =>
      simp only [Option.some.injEq, Prod.mk.injEq] at e
      obtain ⟨rfl, rfl, rfl⟩ := e
      have := gs.2.2
      exact ⟨by omega, putW_wk g.bx.sz hw, by simp⟩
    | test c a b =>
      simp only [Option.some.injEq, Prod.mk.injEq] at e
      obtain ⟨rfl, rfl, rfl⟩ := e
      have := gs.2
      exact ⟨by split <;> omega, hw, by simp⟩
section
variable {D : Defs}
/-- a step of the program -/
theorem stepF_run (L : D.lookup "step_from" = some d_step_fromF) (L1 : D.lookup "need_worths" = some d_need_worths) (L2 : D.lookup "known_by" = some d_known_by) (L3 : D.lookup "names_of" = some d_names_of) (L5 : D.lookup "worth_in" = some d_worth_in) (L6 : D.lookup "holds_in" = some d_holds_in)
    {k : Nat} {h : Hh} {p : Pg} {ws : List Int} (g : Pw p) (hw : Wk p.bs ws) {j : Nat} (hj : j < p.nds.length) {Q : PV → Hh → Prop}
    (q : Q (.d (stD (stp p j ws))) h) :
    wp (callN D (k + 31) "step_from" [.d p.d, .d (.int j), .d (iL ws)] h) Q := by
  have hb := g.bx
  have e := List.getElem?_eq_getElem hj
  rw [← stp_due g e] at q
  have gs := g.nd _ (List.getElem_mem hj)
  generalize p.nds[j] = s at *
  have nlt : ¬ (h.length + 1 < h.length) := by omega
  have kn := hw.kn fun b' hb' => (hb.sz b' hb').2
  have hl : ws.length ≤ 16777216 := by
    have := hw.len
    have := hb.len
    omega
  refine call_rule (k := k + 30) L rfl ?_
  simp [d_step_fromF, startE, primM, node_at e]
  refine need_run (k := k + 29) L1 hw ?_
  try simp [node_at e]
  refine known_run (k := k + 28) L2 L3 hb hw ?_
  cases s with
  | fin =>
    simp [Nd.d, primM]
    exact q
  | say a b =>
    simp [Nd.d, primM]
    refine worth_run (k := k + 8) (n := 22) L5 kn (good_mono (by omega) gs.1) ?_
    simp [line, hl, primM]
    exact q
  | test c a b =>
    simp [Nd.d, primM, line]
    refine holds_run (k := k + 8) (n := 21) L6 L5 kn gs.1 ?_
    have q2 : Q (.d (.tuple [.list [], .int (if c.hold (kwOf p.bs ws) then a else b), iL ws])) h := q
    cases hc : c.hold (kwOf p.bs ws) with
    | true =>
      rw [hc] at q2
      simp [line, hl, primM]
      simpa using q2
    | false =>
      rw [hc] at q2
      simp [line, hl, primM]
      simpa using q2
  | put x a b =>
    simp [Nd.d, primM, line, hl]
    refine names_run (k := k + 29) L3 hb.len ?_
    obtain ⟨j2, f1, f2⟩ := idx_names (names := p.names) gs.1
    have hk : kindOk (mTy .index) (.d (nL p.names)) (h ++ [Cl.lst (ws.map .int)]) = true := rfl
    have hix : ok2 (nL p.names) (.str x) = true := ok2_l (shaped_nm hb.nm) (shaped_str (hb.nm.ok x gs.1))
    refine ⟨hk, ?_⟩
    obtain ⟨b2, hb2, hx2⟩ : ∃ b2, p.bs[j2]? = some b2 ∧ b2.1 = x := by
      rw [Pg.names, List.getElem?_map] at f2
      cases hb2 : p.bs[j2]? with
      | none => rw [hb2] at f2; cases f2
      | some b2 =>
        rw [hb2] at f2
        exact ⟨b2, rfl, Option.some.inj f2⟩
    obtain ⟨j2l, e2⟩ := List.getElem?_eq_some_iff.mp hb2
    have ab : ati (bD p.bs) (j2 : Int) = some (.tuple [.str b2.1, .int b2.2]) := by
      rw [ati_nat (by unfold bD; rw [List.length_map]; exact j2l)]
      simp [bD, e2]
    have sz := hb.sz b2 (List.mem_of_getElem? hb2)
    have szp : 0 < b2.2 := by omega
    have iw : ixn ws.length (j2 : Int) = some j2 := by
      have := hw.len
      rw [P_ixn (by omega) (by omega)]
      rfl
    simp [primM, P_index hix f1]
    refine worth_run (k := k + 8) (n := 22) L5 kn (good_mono (by omega) gs.2.1) ?_
    simp [primM, ab, szp, iw]
    have q2 : Q (.d (.tuple [.list [], .int b, iL (putW p.bs ws x (a.val (kwOf p.bs ws)))])) h := q
    rw [putW_eq hb.nd hw hb2 hx2] at q2
    simp [line]
    rw [iL, List.map_set] at q2
    exact q2
theorem lstepP_run (L : D.lookup "_law_step" = some d__law_step) (L2 : D.lookup "_law_known" = some d__law_known) (L5 : D.lookup "_law_value" = some d__law_value) (L6 : D.lookup "_law_holds" = some d__law_holds)
    {k : Nat} {h : Hh} {p : Pg} {ws : List Int} (g : Pw p) (hw : Wk p.bs ws) {j : Nat} (hj : j < p.nds.length) {Q : PV → Hh → Prop} (q : Q (.d (stD (stp p j ws))) h) :
    wp (callN D (k + 31) "_law_step" [.d p.d, .d (.int j), .d (iL ws)] h) Q := by
  have e := List.getElem?_eq_getElem hj
  rw [← stp_due g e] at q
  exact lstep_run L L2 L5 L6 g.bx hw (Nat.le_refl _) e (g.nd _ (List.getElem_mem hj)) q
end
/-- inputs' worths -/
def Iv (bs : Bs) : List Str → List Int → Prop
  | [], [] => True
  | x :: xs, w :: ws => 0 ≤ w ∧ (∃ z, bs.lookup x = some z ∧ w < z) ∧ Iv bs xs ws
  | _, _ => False
theorem Iv.len {bs : Bs} : ∀ {xs : List Str} {ws : List Int}, Iv bs xs ws → ws.length = xs.length
  | [], [], _ => rfl
  | [], _ :: _, h => h.elim
  | _ :: _, [], h => h.elim
  | _ :: _, _ :: _, h => congrArg (· + 1) (Iv.len h.2.2)
theorem Iv.at {bs : Bs} : ∀ {xs : List Str} {ws : List Int} {x : Str} {w : Int}, Iv bs xs ws → (xs.zip ws).lookup x = some w → 0 ≤ w ∧ ∃ z, bs.lookup x = some z ∧ w < z
  | [], [], _, _, _, e => by cases e
  | [], _ :: _, _, _, h, _ => h.elim
  | _ :: _, [], _, _, h, _ => h.elim
  | y :: xs, v :: ws, x, w, h, e => by
    rw [List.zip_cons_cons, List.lookup_cons] at e
    by_cases c : x = y
    · subst c
      simp at e
      subst e
      exact ⟨h.1, h.2.1⟩
    · rw [beq_eq_false_iff_ne.mpr c] at e
      exact Iv.at h.2.2 e
/-- all worths at the beginning -/
def fst (p : Pg) (ws : List Int) : List Int := p.bs.map fun b => ((p.ins.zip ws).lookup b.1).getD 0
theorem lookup_nd : ∀ {bs : Bs} {b : Str × Int}, (bs.map (·.1)).Nodup → b ∈ bs → bs.lookup b.1 = some b.2
  | [], _, _, h => by cases h
  | c :: bs, b, nd, h => by
    rw [List.map_cons, List.nodup_cons] at nd
    rw [show (c :: bs).lookup b.1 = (if b.1 == c.1 then some c.2 else bs.lookup b.1) from by rw [List.lookup_cons]; cases b.1 == c.1 <;> rfl]
    rcases List.mem_cons.mp h with rfl | h
    · simp
    · have ne : b.1 ≠ c.1 := fun e => nd.1 (e ▸ List.mem_map_of_mem h)
      rw [beq_eq_false_iff_ne.mpr ne]
      exact lookup_nd nd.2 h
theorem fst_wk {p : Pg} (g : Pw p) {ws : List Int} (hi : Iv p.bs p.ins ws) : Wk p.bs (fst p ws) := by
  have key : ∀ l : Bs, (∀ b ∈ l, b ∈ p.bs) → Wk l (l.map fun b => ((p.ins.zip ws).lookup b.1).getD 0) := by
    intro l
    induction l with
    | nil => exact fun _ => True.intro
    | cons b l ih =>
      intro hl
      have hb := hl b List.mem_cons_self
      have sz := g.bx.sz b hb
      have e := lookup_nd g.bx.nd hb
      have z : 0 ≤ ((p.ins.zip ws).lookup b.1).getD 0 ∧ ((p.ins.zip ws).lookup b.1).getD 0 < b.2 := by
        cases c : (p.ins.zip ws).lookup b.1 with
        | none =>
          simp
          omega
        | some w =>
          obtain ⟨w0, z, ez, wz⟩ := hi.at c
          rw [e] at ez
          cases ez
          exact ⟨w0, wz⟩
      exact ⟨z.1, z.2, ih fun c hc => hl c (List.mem_cons_of_mem _ hc)⟩
  exact key p.bs fun _ h => h
theorem pairs_bD : ∀ bs : Bs, pairsD (bD bs) = some (kd bs) := pairs_kd
theorem dputs_bs {bs : Bs} (nd : (bs.map (·.1)).Nodup) : dputs [] (kd bs) = kd bs := by
  have := dputs_nd (kw := bs) (acc := []) nd
  exact this
section
variable {D : Defs}
theorem first_run (L : D.lookup "first_worths" = some d_first_worths) (L3 : D.lookup "names_of" = some d_names_of) {k : Nat} {h : Hh} {p : Pg} (g : Pw p) {ws : List Int} (hi : Iv p.bs p.ins ws) {Q : PV → Hh → Prop} (q : Q (.d (iL (fst p ws))) h) :
    wp (callN D (k + 2) "first_worths" [.d p.d, .d (iL ws)] h) Q := by
  refine call_rule L rfl ?_
  have hl := hi.len
  have i4 := g.il
  have b4 := g.bx.len
  simp [d_first_worths, startE, primM, Pg.d, ok2_int, eqv_int, hl, pairs_bD, dputs_bs g.bx.nd]
  obtain ⟨I, hI⟩ : ∃ I : List PV → Ee → Hh → Prop, I = fun r e h' => ∃ (xs : List Str) (vs : List Int) (z1 z2 : Option PV), r = ((vs.map PyData.int).zip (xs.map PyData.str)).map (fun p => .d (.tuple [p.1, p.2])) ∧ Iv p.bs xs vs ∧ h' = h ∧ e = [some (.d p.d), some (.d (iL ws)), some (.d (.dict (kd p.bs))), none, z1, z2] := ⟨_, rfl⟩
  refine for_rule I ?_ ?_ _ _ _ ?_
  · intro v r e h' hi
    rw [hI] at hi
    obtain ⟨xs, vs, z1, z2, er, hk, rfl, rfl⟩ := hi
    cases xs with
    | nil =>
      cases vs with
      | nil => simp at er
      | cons _ _ => exact hk.elim
    | cons x xs =>
      cases vs with
      | nil => exact hk.elim
      | cons w vs =>
        simp at er
        obtain ⟨rfl, rfl⟩ := er
        obtain ⟨h0, ⟨z, ez, hz⟩, hk2⟩ := hk
        simp [sT, setT, setTs, primM, h0, isKey, dget_kd, ez, hz]
        rw [hI]
        exact ⟨xs, vs, _, _, by simp, hk2, rfl, rfl⟩
  · intro e h' hi
    rw [hI] at hi
    obtain ⟨xs, vs, z1, z2, er, hk, rfl, rfl⟩ := hi
    have e1 := keys_ok p.ins
    simp [primM, Pg.d, wipeE]
    have ed : dputs [] ((p.ins.map PyData.str).zip (ws.map .int)) = kd (p.ins.zip ws) := by
      rw [zip_kd]
      have := dputs_nd (kw := p.ins.zip ws) (acc := []) (by rw [List.nil_append, fst_zip hl]; exact g.ind)
      exact this
    rw [ed]
    refine names_run (p := p) L3 g.bx.len ?_
    simp
    refine wp_mono (comp_rule (fun r acc h'' => ∃ bs : Bs, r = (bs.map fun b => PV.d (.str b.1)) ∧ acc ++ (bs.map fun b => PyData.int (((p.ins.zip ws).lookup b.1).getD 0)) = (fst p ws).map .int ∧ h'' = h') (Q := fun acc h'' => acc = (fst p ws).map .int ∧ h'' = h') ?_ ?_ _ [] h' ⟨p.bs, by simp [Pg.names], by simp [fst], rfl⟩) ?_
    · rintro v r acc h'' ⟨bs, e1, e2, rfl⟩
      cases bs with
      | nil => simp at e1
      | cons b bs =>
        simp at e1
        obtain ⟨rfl, rfl⟩ := e1
        have kk : kindOk (mTy .get2) (.d (.dict (kd (p.ins.zip ws)))) h'' = true := rfl
        simp [sT, setT, primM, kk, getM, isKey, dget_kd]
        refine ⟨bs, rfl, ?_⟩
        rw [← e2]
        simp
    · rintro acc h'' ⟨bs, e1, e2, rfl⟩
      cases bs with
      | nil =>
        rw [List.map_nil, List.append_nil] at e2
        exact ⟨e2, rfl⟩
      | cons b bs => simp at e1
    · rintro ds h'' ⟨e1, rfl⟩
      rw [List.nil_append] at e1
      subst e1
      have e3 : (fst p ws).length ≤ 16777216 := by
        rw [fst, List.length_map]
        omega
      simp [line, e3]
      exact q
  · rw [hI]
    exact ⟨p.ins, ws, none, none, by simp, hi, rfl, rfl⟩
theorem lfirst_run (L : D.lookup "_law_first" = some d__law_first) {k : Nat} {h : Hh} {p : Pg} (g : Pw p) {ws : List Int} (hi : Iv p.bs p.ins ws) {Q : PV → Hh → Prop} (q : Q (.d (iL (fst p ws))) h) :
    wp (callN D (k + 1) "_law_first" [.d p.d, .d (iL ws)] h) Q := by
  refine call_rule L rfl ?_
  have hl := hi.len
  have i4 := g.il
  have b4 := g.bx.len
  have inm : Nm p.ins := ⟨by omega, fun x hx => g.bx.nm.ok x (g.ins x hx)⟩
  simp [d__law_first, startE, primM, Pg.d, line]
  obtain ⟨I, hI⟩ : ∃ I : List PV → Ee → Hh → Prop, I = fun r e h' => ∃ (b1 b2 : Bs) (z1 z2 z3 : Option PV), p.bs = b1 ++ b2 ∧ r = (bD b2).map .d ∧ h' = h ++ [.lst (b1.map fun b => PyData.int (((p.ins.zip ws).lookup b.1).getD 0))] ∧ e = [some (.d p.d), some (.d (iL ws)), some (.cell h.length), z1, z2, z3] := ⟨_, rfl⟩
  refine for_rule I ?_ ?_ _ _ _ ?_
  · intro v r e h' hii
    rw [hI] at hii
    obtain ⟨b1, b2, z1, z2, z3, eb, er, rfl, rfl⟩ := hii
    cases b2 with
    | nil => simp [bD] at er
    | cons b b2 =>
      simp [bD] at er
      obtain ⟨rfl, rfl⟩ := er
      have hbm : b ∈ p.bs := by rw [eb]; simp
      have ox : PyData.strOk b.1 = true := g.bx.nm.ok _ (List.mem_map_of_mem hbm)
      have o2 : ok2 (.str b.1) (nL p.ins) = true := ok2_l (shaped_str ox) (shaped_nm inm)
      have o3 : ok2 (nL p.ins) (.str b.1) = true := ok2_l (shaped_nm inm) (shaped_str ox)
      have b1l : b1.length < 16777216 := by
        have := congrArg List.length eb
        rw [List.length_append, List.length_cons] at this
        omega
      have fin : ∀ (w : Int), w = ((p.ins.zip ws).lookup b.1).getD 0 → I (b2.map fun b => PV.d (.tuple [.str b.1, .int b.2])) [some (.d p.d), some (.d (iL ws)), some (.cell h.length), some (.d (.str b.1)), some (.d (.int b.2)), some (.d (.int w))] (h ++ [.lst ((b1.map fun b => PyData.int (((p.ins.zip ws).lookup b.1).getD 0)) ++ [.int w])]) := by
        intro w hwe
        rw [hI]
        refine ⟨b1 ++ [b], b2, _, _, _, by rw [eb]; simp, by simp [bD], ?_, rfl⟩
        rw [hwe]
        simp
      by_cases c : b.1 ∈ p.ins
      · obtain ⟨j, f1, f2⟩ := idx_names c
        have a1 : (p.ins.map PyData.str).any (fun z => PyData.eqv z (.str b.1)) = true := by
          rw [List.any_map]
          exact List.any_eq_true.mpr ⟨b.1, c, by simp [eqv_strs]⟩
        have kk : ∀ h', kindOk (mTy .index) (.d (nL p.ins)) h' = true := fun _ => rfl
        obtain ⟨jl, f3⟩ := List.getElem?_eq_some_iff.mp f2
        have jw : j < ws.length := by omega
        have aw : ati (ws.map PyData.int) (j : Int) = some (.int ws[j]) := by
          rw [ati_nat (by rw [List.length_map]; exact jw)]
          simp
        have lk : ∀ (xs : List Str) (vs : List Int) (i : Nat) (x : Str) (hi : i < vs.length), xs.Nodup → xs[i]? = some x → (xs.zip vs).lookup x = some vs[i] := by
          intro xs
          induction xs with
          | nil => intro vs i x hi _ e; simp at e
          | cons y xs ih =>
            intro vs i x hi nd e
            cases vs with
            | nil => simp at hi
            | cons v vs =>
              rw [List.nodup_cons] at nd
              rw [List.zip_cons_cons, List.lookup_cons]
              cases i with
              | zero =>
                simp at e
                subst e
                simp
              | succ i =>
                rw [List.getElem?_cons_succ] at e
                have ne : x ≠ y := fun z => nd.1 (z ▸ List.mem_of_getElem? e)
                rw [beq_eq_false_iff_ne.mpr ne]
                exact ih vs i x (by simpa using hi) nd.2 e
        simp [sT, setT, setTs, primM, Pg.d, inD, o2, a1, kk, P_index o3 f1, aw, line, b1l, mTy, kindOk]
        exact fin _ (by rw [lk _ _ _ _ jw g.ind f2]; rfl)
      · have a1 : (p.ins.map PyData.str).any (fun z => PyData.eqv z (.str b.1)) = false := by
          rw [List.any_map]
          refine List.any_eq_false.mpr fun x hx => ?_
          simp [eqv_strs]
          exact fun z => c (z ▸ hx)
        have lk : ∀ (xs : List Str) (vs : List Int), b.1 ∉ xs → (xs.zip vs).lookup b.1 = none := by
          intro xs
          induction xs with
          | nil => intros; rfl
          | cons y xs ih =>
            intro vs hx
            rw [List.mem_cons, not_or] at hx
            cases vs with
            | nil => rfl
            | cons v vs =>
              rw [List.zip_cons_cons, List.lookup_cons, beq_eq_false_iff_ne.mpr hx.1]
              exact ih vs hx.2
        simp [sT, setT, setTs, primM, Pg.d, inD, o2, a1, line, b1l, mTy, kindOk]
        exact fin _ (by rw [lk _ _ c]; rfl)
  · intro e h' hii
    rw [hI] at hii
    obtain ⟨b1, b2, z1, z2, z3, eb, er, rfl, rfl⟩ := hii
    cases b2 with
    | cons b b2 => simp [bD] at er
    | nil =>
      rw [List.append_nil] at eb
      simp
      rw [← eb]
      have : (p.bs.map fun b => PyData.int (((p.ins.zip ws).lookup b.1).getD 0)) = (fst p ws).map .int := by simp [fst]
      rw [this]
      exact q
  · rw [hI]
    exact ⟨[], p.bs, none, none, none, rfl, rfl, rfl, rfl⟩
end
section
variable {D : Defs} (G : Gn D)
include G
theorem inputs_run (L : D.lookup "_law_inputs" = some d__law_inputs) {k n : Nat} {h : Hh} {p : Pg} (g : Pw p) (d : Dk n h) {Q : PV → Hh → Prop} (q : ∀ (ws : List Int) h', Iv p.bs p.ins ws → Sc n h h' → Q (.d (iL ws)) h') :
    wp (callN D (k + 2) "_law_inputs" [.cell n, .d p.d] h) Q := by
  refine call_rule L rfl ?_
  have i4 := g.il
  simp [d__law_inputs, startE, primM, Pg.d, wipeE, pairs_bD, dputs_bs g.bx.nd]
  obtain ⟨J, hJ⟩ : ∃ J : List PV → List PyData → Hh → Prop, J = fun r acc h' => ∃ (x1 x2 : List Str) (w1 : List Int), p.ins = x1 ++ x2 ∧ r = (x2.map PyData.str).map .d ∧ acc = w1.map .int ∧ Iv p.bs x1 w1 ∧ Sl n h h' := ⟨_, rfl⟩
  refine wp_mono (comp_rule J (Q := fun acc h' => ∃ ws : List Int, acc = ws.map .int ∧ Iv p.bs p.ins ws ∧ Sl n h h') ?_ ?_ _ [] h ?_) ?_
  · intro v r acc h' hi
    rw [hJ] at hi
    obtain ⟨x1, x2, w1, eb, er, rfl, hw, S⟩ := hi
    cases x2 with
    | nil => simp at er
    | cons x x2 =>
      simp at er
      obtain ⟨rfl, rfl⟩ := er
      have hx : x ∈ p.names := g.ins x (by rw [eb]; simp)
      obtain ⟨b, hb, rfl⟩ := List.mem_map.mp hx
      have hs := g.bx.sz b hb
      have el := lookup_nd g.bx.nd hb
      simp [sT, setT, setTs, primM, isKey, dget_kd, el]
      refine take_run (k := k) G S.dk (by omega) (pow30 (by omega) (by omega)) fun t h2 t0 t1 s2 => ?_
      refine ⟨_, rfl, ?_⟩
      rw [hJ]
      refine ⟨x1 ++ [b.1], x2, w1 ++ [t], by rw [eb]; simp, by simp, by simp, ?_, S.trans s2.1⟩
      have iv_app : ∀ (x1 : List Str) (w1 : List Int), Iv p.bs x1 w1 → Iv p.bs (x1 ++ [b.1]) (w1 ++ [t]) := by
        intro x1
        induction x1 with
        | nil =>
          intro w1 hw
          cases w1 with
          | nil => exact ⟨t0, ⟨_, el, t1⟩, True.intro⟩
          | cons _ _ => exact hw.elim
        | cons c x1 ih =>
          intro w1 hw
          cases w1 with
          | nil => exact hw.elim
          | cons w w1 => exact ⟨hw.1, hw.2.1, ih w1 hw.2.2⟩
      exact iv_app x1 w1 hw
  · intro acc h' hi
    rw [hJ] at hi
    obtain ⟨x1, x2, w1, eb, er, rfl, hw, S⟩ := hi
    cases x2 with
    | nil =>
      rw [List.append_nil] at eb
      rw [eb]
      exact ⟨w1, rfl, hw, S⟩
    | cons x x2 => simp at er
  · rw [hJ]
    exact ⟨[], p.ins, [], rfl, by simp, rfl, True.intro, Sl.refl d⟩
  · rintro ds h' ⟨ws, e1, hw, S⟩
    rw [List.nil_append] at e1
    subst e1
    have hl := hw.len
    have e3 : (ws.map PyData.int).length ≤ 16777216 := by
      rw [List.length_map]
      omega
    simp only [P_mkL_f, line, e3, if_true, wp_ok]
    simp
    exact q ws _ hw (Sl.cut d S)
end
end PL.A

set_option maxRecDepth 100000
set_option maxHeartbeats 1000000
/-! PL36: what is said in so many steps. -/
namespace PL.A
open PySem PL
/-- what each of so many steps says -/
def saidN (p : Pg) : Nat → Nat → List Int → List (List Int)
  | 0, _, _ => []
  | n + 1, j, ws => match stp p j ws with
    | none => []
    | some (l, j', ws') => l :: saidN p n j' ws'
theorem saidN_none {p : Pg} {j : Nat} {ws : List Int} (e : stp p j ws = none) : ∀ n, saidN p n j ws = []
  | 0 => rfl
  | n + 1 => by
    unfold saidN
    rw [e]
theorem saidN_some {p : Pg} {j : Nat} {ws : List Int} {l : List Int} {j' : Nat} {ws' : List Int} (e : stp p j ws = some (l, j', ws')) (n : Nat) : saidN p (n + 1) j ws = l :: saidN p n j' ws' := by
  rw [saidN, e]
theorem saidN_len {p : Pg} : ∀ (n j : Nat) (ws : List Int), (saidN p n j ws).length ≤ n
  | 0, _, _ => Nat.le_refl _
  | n + 1, j, ws => by
    cases e : stp p j ws with
    | none =>
      rw [saidN_none e]
      simp
    | some v =>
      obtain ⟨l, j', ws'⟩ := v
      rw [saidN_some e, List.length_cons]
      have := saidN_len (p := p) n j' ws'
      omega
theorem saidN_one {p : Pg} (g : Pw p) : ∀ {n j : Nat} {ws : List Int}, Wk p.bs ws → (∀ l ∈ saidN p n j ws, l.length ≤ 1)
  | 0, _, _, _, l, h => by cases h
  | n + 1, j, ws, hw, l, h => by
    cases e : stp p j ws with
    | none =>
      rw [saidN_none e] at h
      cases h
    | some v =>
      obtain ⟨m, j', ws'⟩ := v
      rw [saidN_some e] at h
      obtain ⟨_, hw', hm⟩ := stp_ok g hw e
      rcases List.mem_cons.mp h with rfl | h
      · exact hm
      · exact saidN_one g hw' l h
theorem flat_len : ∀ {ls : List (List Int)}, (∀ l ∈ ls, l.length ≤ 1) → ls.flatten.length ≤ ls.length
  | [], _ => Nat.le_refl _
  | l :: ls, h => by
    have h1 := h l List.mem_cons_self
    have h2 := flat_len fun m hm => h m (List.mem_cons_of_mem _ hm)
    rw [List.flatten_cons, List.length_append, List.length_cons]
    omega
theorem rng_end {n : Int} {j : Nat} (e : [] = (rngL 0 n).drop j) : n.toNat ≤ j := by
  have hl : (rngL 0 n).length = n.toNat := by
    rw [rngL_len]
    congr 1
    omega
  have := congrArg List.length e
  rw [List.length_drop, hl, List.length_nil] at this
  omega
section
variable {D : Defs}
theorem said_run (L : D.lookup "said_in" = some d_said_in) (La : D.lookup "first_worths" = some d_first_worths) (Lb : D.lookup "step_from" = some d_step_fromF) (L1 : D.lookup "need_worths" = some d_need_worths) (L2 : D.lookup "known_by" = some d_known_by) (L3 : D.lookup "names_of" = some d_names_of) (L5 : D.lookup "worth_in" = some d_worth_in) (L6 : D.lookup "holds_in" = some d_holds_in)
    {k : Nat} {h : Hh} {p : Pg} (g : Pw p) {ins : List Int} (hi : Iv p.bs p.ins ins) {n : Nat} (hn : n ≤ 1000000) {Q : PV → Hh → Prop}
    (q : Q (.cell h.length) (h ++ [.lst ((saidN p n 0 (fst p ins)).flatten.map .int)])) :
    wp (callN D (k + 32) "said_in" [.d p.d, .d (iL ins), .d (.int n)] h) Q := by
  refine call_rule (k := k + 31) L rfl ?_
  simp [d_said_in, startE, primM]
  refine first_run (k := k + 29) La L3 g hi ?_
  have hn2 : -16777216 ≤ (n : Int) ∧ (n : Int) ≤ 16777216 := by omega
  simp [line, hn2]
  have hw0 := fst_wk g hi
  generalize hW : fst p ins = W at *
  have fin : ∀ (acc : List Int), acc = (saidN p n 0 W).flatten → Q (.cell h.length) (h ++ [.lst (acc.map .int)]) := fun acc e => by
    rw [e]
    exact q
  obtain ⟨I, hI⟩ : ∃ I : List PV → Ee → Hh → Prop, I = fun r e h' => ∃ (i j : Nat) (ws acc : List Int) (z6 z7 z8 : Option PV), r = (rngL 0 n).drop i ∧ i ≤ n ∧ j < p.nds.length ∧ Wk p.bs ws ∧ acc ++ (saidN p (n - i) j ws).flatten = (saidN p n 0 W).flatten ∧ acc.length ≤ i ∧ h' = h ++ [.lst (acc.map .int)] ∧
    e = [some (.d p.d), some (.d (iL ins)), some (.d (.int n)), some (.d (.int j)), some (.d (iL ws)), some (.cell h.length), z6, z7, z8] := ⟨_, rfl⟩
  refine for_rule I ?_ ?_ _ _ _ ?_
  · intro v r e h' hii
    rw [hI] at hii
    obtain ⟨i, j, ws, acc, z6, z7, z8, er, hin, hj, hw, ea, hal, rfl, rfl⟩ := hii
    obtain ⟨i1, rfl, er2⟩ := rng_drop er
    have hi1 : i < n := by omega
    simp [sT, setT]
    refine stepF_run (k := k) Lb L1 L2 L3 L5 L6 g hw hj ?_
    obtain ⟨m, hm⟩ : ∃ m, n - i = m + 1 := ⟨n - i - 1, by omega⟩
    rw [hm] at ea
    cases es : stp p j ws with
    | none =>
      rw [saidN_none es, List.flatten_nil, List.append_nil] at ea
      simp [stD, primM, isNone, pack]
      exact fin acc ea
    | some v =>
      obtain ⟨l, j', ws'⟩ := v
      obtain ⟨hj', hw', hl1⟩ := stp_ok g hw es
      rw [saidN_some es, List.flatten_cons, ← List.append_assoc] at ea
      have hb : acc.length + l.length ≤ 16777216 := by omega
      simp [stD, primM, isNone, sT, setT, setTs, mTy, kindOk, hb, line]
      rw [hI]
      refine ⟨i + 1, j', ws', acc ++ l, _, _, _, er2, hi1, hj', hw', ?_, ?_, ?_, rfl⟩
      · rw [show n - (i + 1) = m by omega]
        exact ea
      · rw [List.length_append]
        omega
      · simp
  · intro e h' hii
    rw [hI] at hii
    obtain ⟨i, j, ws, acc, z6, z7, z8, er, hin, hj, hw, ea, hal, rfl, rfl⟩ := hii
    have := rng_end er
    have e0 : n - i = 0 := by omega
    rw [e0] at ea
    simp [pack]
    exact fin acc (by rw [← ea]; simp [saidN])
  · rw [hI]
    exact ⟨0, 0, W, [], none, none, none, rfl, Nat.zero_le _, g.n0, hw0, rfl, Nat.le_refl _, rfl, rfl⟩
theorem walk_run (L : D.lookup "_law_walk" = some d__law_walk) (La : D.lookup "_law_first" = some d__law_first) (Lb : D.lookup "_law_step" = some d__law_step) (L2 : D.lookup "_law_known" = some d__law_known) (L5 : D.lookup "_law_value" = some d__law_value) (L6 : D.lookup "_law_holds" = some d__law_holds)
    {k : Nat} {h : Hh} {p : Pg} (g : Pw p) {ins : List Int} (hi : Iv p.bs p.ins ins) {n : Nat} (hn : n ≤ 1000000) {Q : PV → Hh → Prop}
    (q : ∀ rows b, Q (.d (.tuple [.list rows, .list ((saidN p n 0 (fst p ins)).map iL), .bool b])) h) :
    wp (callN D (k + 32) "_law_walk" [.d p.d, .d (iL ins), .d (.int n)] h) Q := by
  refine call_rule (k := k + 31) L rfl ?_
  simp [d__law_walk, startE, primM, line]
  refine lfirst_run (k := k + 30) La g hi ?_
  simp [line]
  have hw0 := fst_wk g hi
  generalize hW : fst p ins = W at *
  have fin : ∀ (ac : List (List Int)) rows b, ac = saidN p n 0 W → Q (.d (.tuple [.list rows, .list (ac.map iL), .bool b])) h := fun ac rows b e => by
    rw [e]
    exact q rows b
  obtain ⟨I, hI⟩ : ∃ I : Nat → Ee → Hh → Prop, I = fun m e h' => ∃ (i j : Nat) (ws : List Int) (acc : List (List Int)) (rows : List PyData) (z6 : Option PV), m = n - i ∧ i ≤ n ∧ j < p.nds.length ∧ Wk p.bs ws ∧ acc ++ saidN p (n - i) j ws = saidN p n 0 W ∧ acc.length = i ∧ rows.length = i + 1 ∧ h' = h ++ [.lst rows, .lst (acc.map iL)] ∧
    e = [some (.d p.d), some (.d (iL ins)), some (.d (.int n)), some (.d (.tuple [.int j, iL ws])), some (.cell h.length), some (.cell (h.length + 1)), z6] := ⟨_, rfl⟩
  refine whl_rule I ?_ _ n _ _ (by unfold fuel; omega) ?_
  · intro m e h' hii
    rw [hI] at hii
    obtain ⟨i, j, ws, acc, rows, z6, rfl, hin, hj, hw, ea, hal, hrl, rfl, rfl⟩ := hii
    simp [primM]
    refine ⟨fun hlt => ?_, fun hge => ?_⟩
    · have hi1 : i < n := by omega
      refine lstepP_run (k := k) Lb L2 L5 L6 g hw hj ?_
      obtain ⟨m, hm⟩ : ∃ m, n - i = m + 1 := ⟨n - i - 1, by omega⟩
      rw [hm] at ea
      cases es : stp p j ws with
      | none =>
        rw [saidN_none es, List.append_nil] at ea
        simp [stD, primM, isNone, pack, line]
        exact fin acc rows true ea
      | some v =>
        obtain ⟨l, j', ws'⟩ := v
        obtain ⟨hj', hw', hl1⟩ := stp_ok g hw es
        rw [saidN_some es] at ea
        have h1 : acc.length < 16777216 := by omega
        have h2 : rows.length < 16777216 := by omega
        simp [stD, primM, isNone, line, mTy, kindOk, h1, h2]
        refine ⟨n - (i + 1), by omega, ?_⟩
        rw [hI]
        refine ⟨i + 1, j', ws', acc ++ [l], rows ++ [.tuple [.int j', iL ws']], _, rfl, hi1, hj', hw', ?_, ?_, ?_, ?_, rfl⟩
        · rw [show n - (i + 1) = m by omega, List.append_assoc]
          exact ea
        · simp [hal]
        · simp [hrl]
        · simp
    · have e0 : n - i = 0 := by omega
      rw [e0] at ea
      simp [saidN] at ea
      simp [line]
      exact fin acc rows false ea
  · rw [hI]
    exact ⟨0, 0, W, [], [.tuple [.int 0, iL W]], none, by omega, Nat.zero_le _, g.n0, hw0, rfl, rfl, rfl, by simp, rfl⟩
end
end PL.A

set_option maxRecDepth 100000
set_option maxHeartbeats 1000000
/-! PL37: small helps. -/
namespace PL
open PySem
theorem W_forNil {t : Tg} {b : Ee → Hh → Res} (e : Ee) (h : Hh) (Z : Zs) : ws (forL t b [] e h) Z = Z.nx e h := by
  unfold forL
  rfl
theorem W_forCons {t : Tg} {b : Ee → Hh → Res} (v : PV) (r : List PV) (e : Ee) (h : Hh) (Z : Zs) : ws (forL t b (v :: r) e h) Z = sT t e v fun e1 => ws (b e1 h) { nx := fun e2 h2 => ws (forL t b r e2 h2) Z, rt := Z.rt, bk := Z.nx, ct := fun e2 h2 => ws (forL t b r e2 h2) Z } := by
  rw [forL]
  unfold sT
  cases setT t e v with
  | none => rfl
  | some e1 =>
    simp only []
    cases b e1 h <;> rfl
def appS : Ss → Ss → Ss
  | .nil, b => b
  | .cons s a, b => .cons s (appS a b)
def takeS : Nat → Ss → Ss
  | n + 1, .cons s r => .cons s (takeS n r)
  | _, _ => .nil
def dropS : Nat → Ss → Ss
  | n + 1, .cons _ r => dropS n r
  | _, r => r
theorem W_app (Φ : String → List PV → Hh → Out PV) : ∀ (a b : Ss) (e : Ee) (h : Hh) (Z : Zs), ws (exs Φ (appS a b) e h) Z = ws (exs Φ a e h) { Z with nx := fun e1 h1 => ws (exs Φ b e1 h1) Z }
  | .nil, b, e, h, Z => by rw [W_nil]; rfl
  | .cons s a, b, e, h, Z => by
    rw [W_cons, appS, W_cons]
    congr
    funext e1 h1
    exact W_app Φ a b e1 h1 Z
@[simp] theorem P_clearC {n : Nat} {ds : List PyData} {h : Hh} (e : h[n]? = some (.lst ds)) : clearM (.cell n) h = .ok (.d .none) (h.set n (.lst [])) := by
  unfold clearM
  simp only [e]
end PL
namespace PL.A
open PySem PL
theorem comp_none {t : Tg} {cond : Ee → Hh → Out Bool} {elt : Ee → Hh → Out PV} {e : Ee} {vs : List PV} {h : Hh} {Q : List PyData → Hh → Prop} (hv : ∀ v ∈ vs, sT t e v fun e1 => wp (cond e1 h) fun b h1 => b = false ∧ h1 = h) (q : Q [] h) : wp (compL t cond elt e vs h) Q := by
  refine wp_mono (comp_rule (fun r acc h' => (∀ v ∈ r, sT t e v fun e1 => wp (cond e1 h) fun b h1 => b = false ∧ h1 = h) ∧ acc = [] ∧ h' = h) (Q := fun acc h' => acc = [] ∧ h' = h) ?_ ?_ _ [] h ⟨hv, rfl, rfl⟩) ?_
  · rintro v r acc h' ⟨hr, rfl, rfl⟩
    have q1 := hr v List.mem_cons_self
    unfold sT at *
    split at q1
    · rename_i e1 he
      refine wp_mono q1 fun b h1 ⟨eb, eh⟩ => ?_
      subst eb
      subst eh
      exact ⟨fun z => (by cases z), fun _ => ⟨fun v hv => hr v (List.mem_cons_of_mem _ hv), rfl, rfl⟩⟩
    · exact q1.elim
  · rintro acc h' ⟨_, rfl, rfl⟩
    exact ⟨rfl, rfl⟩
  · rintro ds h' ⟨e1, rfl⟩
    rw [List.nil_append] at e1
    subst e1
    exact q
theorem copiedT_run {D : Defs} (L : D.lookup "_law_copied" = some d__law_copiedT) {k : Nat} {h : Hh} {p : Pg} {Q : PV → Hh → Prop} (l1 : p.bs.length ≤ line) (l2 : p.ins.length ≤ line) (l3 : p.nds.length ≤ line) (q : Q (.tc [.cell h.length, .cell (h.length + 1), .cell (h.length + 2)]) (h ++ [.lst (bD p.bs), .lst (p.ins.map .str), .lst (p.nds.map Nd.d)])) :
    wp (callN D (k + 1) "_law_copied" [.d p.d] h) Q := by
  refine call_rule L rfl ?_
  have h1 : (bD p.bs).length ≤ line := by simp [bD]; exact l1
  have n1 : ¬ (h.length + 1 < h.length) := by omega
  have n2 : ¬ (h.length + 2 < h.length) := by omega
  simp [d__law_copiedT, startE, primM, Pg.d, h1, l2, l3]
  have n3 : ¬ (h.length + 1 + 1 = h.length) := by omega
  have n5 : h.length + 1 + 1 = h.length + 2 := rfl
  simp [line, pack, packs, cellsAt, n1, n2, n3, n5]
  exact q
theorem compC_none {t : Tg} {cond : Ee → Hh → Out Bool} {elt : Ee → Hh → Out PV} {e : Ee} {m : Nat} {ds : List PyData} {h : Hh} (hm : h[m]? = some (.lst ds)) {Q : List PyData → Hh → Prop} (hv : ∀ d ∈ ds, sT t e (.d d) fun e1 => wp (cond e1 h) fun b h1 => b = false ∧ h1 = h) (q : Q [] h) :
    ∀ {f a : Nat}, a ≤ ds.length → ds.length < f + a → wp (compC t cond elt e m f a h) Q := by
  intro f
  induction f with
  | zero =>
    intro a h1 h2
    omega
  | succ f ih =>
    intro a h1 h2
    unfold compC
    simp only [hm]
    by_cases hlt : a < ds.length
    · rw [List.getElem?_eq_getElem hlt]
      have q1 := hv _ (List.getElem_mem hlt)
      unfold sT at q1
      simp only []
      split at q1
      · rename_i e1 he
        simp only [he, wp_bind]
        refine wp_mono q1 fun b h1 ⟨eb, eh⟩ => ?_
        subst eb
        subst eh
        exact ih hlt (by omega)
      · exact q1.elim
    · rw [List.getElem?_eq_none (by omega)]
      simp only [wp_ok]
      exact q
theorem sh_nd21 {names : List Str} (hN : Nm names) {m : Int} : ∀ {s : Nd}, s.goodN 21 names m → Sh 23 s.d
  | .put x s b, g => .tup fun d hd => by
    simp only [List.mem_cons, List.not_mem_nil, or_false] at hd
    rcases hd with rfl | rfl | rfl | rfl
    · exact .ofs _ _
    · exact .str (hN.ok _ g.1)
    · exact (sh_sm hN g.2.1).mono (by decide)
    · exact .int _ _
  | .say s b, g => .tup fun d hd => by
    simp only [List.mem_cons, List.not_mem_nil, or_false] at hd
    rcases hd with rfl | rfl | rfl
    · exact .ofs _ _
    · exact (sh_sm hN g.1).mono (by decide)
    · exact .int _ _
  | .test c a b, g => .tup fun d hd => by
    simp only [List.mem_cons, List.not_mem_nil, or_false] at hd
    rcases hd with rfl | rfl | rfl | rfl
    · exact .ofs _ _
    · exact sh_cn hN g.1
    · exact .int _ _
    · exact .int _ _
  | .fin, g => .tup fun d hd => by
    simp only [List.mem_cons, List.not_mem_nil, or_false] at hd
    rcases hd with rfl
    exact .ofs _ _
theorem sh_pw {p : Pg} (g : Pw p) : Sh 30 p.d := by
  have hb := g.bx
  have hi := g.ins
  have hn := g.nd
  have nm : Nm p.names := hb.nm
  refine Sh.mono (n := 25) (.tup fun d hd => ?_) (by decide)
  simp only [List.mem_cons, List.not_mem_nil, or_false] at hd
  rcases hd with rfl | rfl | rfl
  · refine (Sh.list (n := 1) fun d hd => ?_).mono (by decide)
    obtain ⟨b, hb, rfl⟩ := List.mem_map.mp hd
    refine Sh.tup (n := 0) fun d hd => ?_
    simp only [List.mem_cons, List.not_mem_nil, or_false] at hd
    rcases hd with rfl | rfl
    · exact .str (nm.ok _ (List.mem_map_of_mem hb))
    · exact .int _ _
  · refine (Sh.list (n := 0) fun d hd => ?_).mono (by decide)
    obtain ⟨x, hx, rfl⟩ := List.mem_map.mp hd
    exact .str (nm.ok _ (hi x hx))
  · refine (Sh.list (n := 23) fun d hd => ?_).mono (by decide)
    obtain ⟨s, hs, rfl⟩ := List.mem_map.mp hd
    exact sh_nd21 nm (hn s hs)
end PL.A

set_option maxRecDepth 100000
set_option maxHeartbeats 4000000
/-! PL38: the texts of what makes a program. -/
namespace PL.A
open PySem PL
def d_named_at : Def := ⟨["node"], ["node"],
  (.cons (.ite (.prim .eq (.cons (.prim .idx (.cons (.var 0) (.cons (.cst (.int 0)) .nil))) (.cons (.cst (.str "put")) .nil))) (.cons (.ret (.prim (.add false) (.cons (.prim (.lst false) (.cons (.prim .idx (.cons (.var 0) (.cons (.cst (.int 1)) .nil))) .nil)) (.cons (.call "boxes_named" (.cons (.prim .idx (.cons (.var 0) (.cons (.cst (.int 2)) .nil))) .nil)) .nil))))
  .nil) .nil)
  (.cons (.ite (.prim .eq (.cons (.prim .idx (.cons (.var 0) (.cons (.cst (.int 0)) .nil))) (.cons (.cst (.str "end")) .nil))) (.cons (.ret (.prim (.lst false) .nil))
  .nil) .nil)
  (.cons (.ret (.call "boxes_named" (.cons (.prim .idx (.cons (.var 0) (.cons (.cst (.int 1)) .nil))) .nil)))
  .nil)))⟩
def d_nodes_behind : Def := ⟨["node"], ["node"],
  (.cons (.ite (.prim .eq (.cons (.prim .idx (.cons (.var 0) (.cons (.cst (.int 0)) .nil))) (.cons (.cst (.str "test")) .nil))) (.cons (.ret (.prim (.lst false) (.cons (.prim .idx (.cons (.var 0) (.cons (.cst (.int 2)) .nil))) (.cons (.prim .idx (.cons (.var 0) (.cons (.cst (.int 3)) .nil))) .nil))))
  .nil) .nil)
  (.cons (.ite (.prim .eq (.cons (.prim .idx (.cons (.var 0) (.cons (.cst (.int 0)) .nil))) (.cons (.cst (.str "end")) .nil))) (.cons (.ret (.prim (.lst false) .nil))
  .nil) .nil)
  (.cons (.ret (.prim (.lst false) (.cons (.prim .idx (.cons (.var 0) (.cons (.prim .neg (.cons (.cst (.int 1)) .nil)) .nil))) .nil)))
  .nil)))⟩
def d_need_boxes : Def := ⟨["boxes", "inputs"], ["boxes", "inputs", "names", "name", "size"],
  (.cons (.asg (.nm 2) (.comp false [3, 4] (.tup [(.nm 3), (.nm 4)]) (.seq (.var 0)) .nil (.var 3)))
  (.cons (.ite (.or (.cons (.prim .ne (.cons (.comp false [3, 4] (.tup [(.nm 3), (.nm 4)]) (.seq (.var 0)) (.cons (.prim .lt (.cons (.var 4) (.cons (.cst (.int 1)) .nil))) .nil) (.var 4)) (.cons (.prim (.lst false) .nil) .nil))) (.cons (.prim .lt (.cons (.prim .lenSet (.cons (.var 2) .nil)) (.cons (.prim .len (.cons (.var 2) .nil)) .nil))) .nil))) (.cons (.raise "NoProgram")
  .nil) .nil)
  (.cons (.ite (.or (.cons (.prim .ne (.cons (.comp false [3] (.nm 3) (.seq (.var 1)) (.cons (.prim .notIn (.cons (.var 3) (.cons (.var 2) .nil))) .nil) (.var 3)) (.cons (.prim (.lst false) .nil) .nil))) (.cons (.prim .lt (.cons (.prim .lenSet (.cons (.var 1) .nil)) (.cons (.prim .len (.cons (.var 1) .nil)) .nil))) .nil))) (.cons (.raise "NoProgram")
  .nil) .nil)
  .nil)))⟩
def d_program_ofT : Def := ⟨["boxes", "inputs", "nodes"], ["boxes", "inputs", "nodes", "names", "node", "name", "size", "behind"],
  (.cons (.expr (.call "need_boxes" (.cons (.var 0) (.cons (.var 1) .nil))))
  (.cons (.ite (.prim .eq (.cons (.var 2) (.cons (.prim (.lst false) .nil) .nil))) (.cons (.raise "NoProgram")
  .nil) .nil)
  (.cons (.asg (.nm 3) (.comp false [5, 6] (.tup [(.nm 5), (.nm 6)]) (.seq (.var 0)) .nil (.var 5)))
  (.cons (.for_ (.nm 4) (.seq (.var 2)) (.cons (.ite (.prim .ne (.cons (.comp false [5] (.nm 5) (.seq (.call "named_at" (.cons (.var 4) .nil))) (.cons (.prim .notIn (.cons (.var 5) (.cons (.var 3) .nil))) .nil) (.var 5)) (.cons (.prim (.lst false) .nil) .nil))) (.cons (.raise "NoProgram")
  .nil) .nil)
  (.cons (.ite (.prim .ne (.cons (.comp false [7] (.nm 7) (.seq (.call "nodes_behind" (.cons (.var 4) .nil))) (.cons (.not (.chain .le .lt (.cst (.int 0)) (.var 7) (.prim .len (.cons (.var 2) .nil)))) .nil) (.var 7)) (.cons (.prim (.lst false) .nil) .nil))) (.cons (.raise "NoProgram")
  .nil) .nil)
  .nil)))
  (.cons (.ret (.prim .tup (.cons (.prim (.listOf true) (.cons (.var 0) .nil)) (.cons (.prim (.listOf true) (.cons (.var 1) .nil)) (.cons (.prim (.listOf true) (.cons (.var 2) .nil)) .nil)))))
  .nil)))))⟩
def d_program_of : Def := ⟨["boxes", "inputs", "nodes"], ["boxes", "inputs", "nodes", "names", "node", "name", "size", "behind"],
  (.cons (.expr (.call "need_boxes" (.cons (.var 0) (.cons (.var 1) .nil))))
  (.cons (.ite (.prim .eq (.cons (.var 2) (.cons (.prim (.lst false) .nil) .nil))) (.cons (.raise "NoProgram")
  .nil) .nil)
  (.cons (.asg (.nm 3) (.comp false [5, 6] (.tup [(.nm 5), (.nm 6)]) (.seq (.var 0)) .nil (.var 5)))
  (.cons (.for_ (.nm 4) (.seq (.var 2)) (.cons (.ite (.prim .ne (.cons (.comp false [5] (.nm 5) (.seq (.call "named_at" (.cons (.var 4) .nil))) (.cons (.prim .notIn (.cons (.var 5) (.cons (.var 3) .nil))) .nil) (.var 5)) (.cons (.prim (.lst false) .nil) .nil))) (.cons (.raise "NoProgram")
  .nil) .nil)
  (.cons (.ite (.prim .ne (.cons (.comp false [7] (.nm 7) (.seq (.call "nodes_behind" (.cons (.var 4) .nil))) (.cons (.not (.chain .le .lt (.cst (.int 0)) (.var 7) (.prim .len (.cons (.var 2) .nil)))) .nil) (.var 7)) (.cons (.prim (.lst false) .nil) .nil))) (.cons (.raise "NoProgram")
  .nil) .nil)
  .nil)))
  (.cons (.ret (.prim .tup (.cons (.prim (.listOf false) (.cons (.var 0) .nil)) (.cons (.prim (.listOf false) (.cons (.var 1) .nil)) (.cons (.prim (.listOf false) (.cons (.var 2) .nil)) .nil)))))
  .nil)))))⟩
end PL.A

set_option maxRecDepth 100000
set_option maxHeartbeats 1000000
/-! PL39: lists that are seen; a program made. -/
namespace PL
open PySem
/-- a list that is seen: data, or a place -/
def Hs (v : PV) (h : Hh) (ds : List PyData) : Prop := v = .d (.list ds) ∨ ∃ n, v = .cell n ∧ h[n]? = some (.lst ds)
theorem Hs.vw {v : PV} {h : Hh} {ds : List PyData} (q : Hs v h ds) : PL.vw h v = some (.list ds) := by
  rcases q with rfl | ⟨n, rfl, e⟩
  · rfl
  · rw [P_vw_cell, e]
    rfl
theorem Hs.len {v : PV} {h : Hh} {ds : List PyData} (q : Hs v h ds) : lenM v h = .ok (.d (.int ds.length)) h := by
  rcases q with rfl | ⟨n, rfl, e⟩
  · rfl
  · rw [P_len_cell, e]
    rfl
theorem Hs.listOf {v : PV} {h : Hh} {ds : List PyData} (q : Hs v h ds) (c : Bool) : listOfM c v h = mkL c ds h := by
  rcases q with rfl | ⟨n, rfl, e⟩
  · rfl
  · unfold listOfM
    rw [P_vw_cell, e]
    rfl
theorem Hs.idx {v : PV} {h : Hh} {ds : List PyData} (q : Hs v h ds) (i : Int) : idxM v (.d (.int i)) h = pick (ati ds i) h := by
  rcases q with rfl | ⟨n, rfl, e⟩
  · rfl
  · rw [P_idx_cell, e]
    rfl
theorem compC_pure {t : Tg} {cond : Ee → Hh → Out Bool} {elt : Ee → Hh → Out PV} {e : Ee} {m : Nat} {ds : List PyData} {h : Hh} (hm : h[m]? = some (.lst ds)) (f : PyData → Option PyData) {Q : List PyData → Hh → Prop}
    (hv : ∀ d ∈ ds, sT t e (.d d) fun e1 => wp (cond e1 h) fun b h1 => h1 = h ∧ (b = true → wp (elt e1 h) fun y h2 => h2 = h ∧ ∃ x, y = .d x ∧ f d = some x) ∧ (b = false → f d = none)) :
    ∀ {k a : Nat}, a ≤ ds.length → ds.length < k + a → Q ((ds.drop a).filterMap f) h → wp (compC t cond elt e m k a h) Q := by
  intro k
  induction k generalizing Q with
  | zero =>
    intro a h1 h2
    omega
  | succ k ih =>
    intro a h1 h2 q
    unfold compC
    simp only [hm]
    by_cases hlt : a < ds.length
    · rw [List.getElem?_eq_getElem hlt]
      have q1 := hv _ (List.getElem_mem hlt)
      rw [List.drop_eq_getElem_cons hlt] at q
      unfold sT at q1
      simp only []
      split at q1
      · rename_i e1 he
        simp only [he, wp_bind]
        refine wp_mono q1 fun b h1 ⟨eh, qt, qf⟩ => ?_
        subst eh
        cases b with
        | false =>
          rw [List.filterMap_cons, qf rfl] at q
          exact ih hlt (by omega) q
        | true =>
          simp only [wp_bind]
          refine wp_mono (qt rfl) fun y h2 ⟨eh2, x, ey, fx⟩ => ?_
          subst eh2
          subst ey
          rw [List.filterMap_cons, fx] at q
          simp only [wp_bind, wp_ok]
          exact ih (Q := fun xs h3 => Q (x :: xs) h3) hlt (by omega) q
      · exact q1.elim
    · rw [List.getElem?_eq_none (by omega)]
      rw [List.drop_eq_nil_of_le (by omega)] at q
      simp only [wp_ok]
      exact q
theorem comp_pure {t : Tg} {cond : Ee → Hh → Out Bool} {elt : Ee → Hh → Out PV} {e : Ee} {v : PV} {ds : List PyData} {h : Hh} (hs : Hs v h ds) (hl : ds.length ≤ line) (f : PyData → Option PyData) {Q : List PyData → Hh → Prop}
    (hv : ∀ d ∈ ds, sT t e (.d d) fun e1 => wp (cond e1 h) fun b h1 => h1 = h ∧ (b = true → wp (elt e1 h) fun y h2 => h2 = h ∧ ∃ x, y = .d x ∧ f d = some x) ∧ (b = false → f d = none))
    (q : Q (ds.filterMap f) h) : wp (seqS v h) fun s h1 => wp (compS t cond elt e s h1) Q := by
  rcases hs with rfl | ⟨n, rfl, en⟩
  · show wp (compL t cond elt e (ds.map .d) h) Q
    refine wp_mono (comp_rule (fun r acc h' => ∃ es : List PyData, r = es.map .d ∧ (∀ d ∈ es, d ∈ ds) ∧ acc ++ es.filterMap f = ds.filterMap f ∧ h' = h) (Q := fun acc h' => acc = ds.filterMap f ∧ h' = h) ?_ ?_ _ [] h ⟨ds, rfl, fun _ z => z, rfl, rfl⟩) ?_
    · rintro v r acc h' ⟨es, er, hm, ea, rfl⟩
      cases es with
      | nil => cases er
      | cons d es =>
        simp at er
        obtain ⟨rfl, rfl⟩ := er
        have q1 := hv d (hm d List.mem_cons_self)
        unfold sT at *
        split at q1
        · rename_i e1 he
          refine wp_mono q1 fun b h1 ⟨eh, qt, qf⟩ => ?_
          subst eh
          refine ⟨fun hb => wp_mono (qt hb) fun y h2 ⟨eh2, x, ey, fx⟩ => ?_, fun hb => ?_⟩
          · subst eh2
            refine ⟨x, ey, es, rfl, fun d hd => hm d (List.mem_cons_of_mem _ hd), ?_, rfl⟩
            rw [List.filterMap_cons, fx] at ea
            rw [← ea]
            simp
          · rw [List.filterMap_cons, qf hb] at ea
            exact ⟨es, rfl, fun d hd => hm d (List.mem_cons_of_mem _ hd), ea, rfl⟩
        · exact q1.elim
    · rintro acc h' ⟨es, er, hm, ea, rfl⟩
      cases es with
      | nil =>
        rw [List.filterMap_nil, List.append_nil] at ea
        exact ⟨ea, rfl⟩
      | cons d es => simp at er
    · rintro ds2 h' ⟨ea, rfl⟩
      rw [List.nil_append] at ea
      rw [ea]
      exact q
  · have e1 : seqS (.cell n) h = .ok (.cell n) h := by
      unfold seqS
      simp only [en]
    rw [e1, wp_ok]
    exact compC_pure en f hv (Nat.zero_le _) (by omega) q
theorem forC_keep {t : Tg} {body : Ee → Hh → Res} {Z : Zs} {m : Nat} {ds : List PyData} {h : Hh} (hm : h[m]? = some (.lst ds)) (I : List PyData → Ee → Prop)
    (hs : ∀ d r e, I (d :: r) e → sT t e (.d d) fun e1 => ws (body e1 h) { nx := fun e2 h2 => h2 = h ∧ I r e2, rt := Z.rt, bk := Z.nx, ct := fun e2 h2 => h2 = h ∧ I r e2 }) (hd : ∀ e, I [] e → Z.nx e h) :
    ∀ {k a : Nat} {e : Ee}, a ≤ ds.length → ds.length < k + a → I (ds.drop a) e → ws (forC t body m k a e h) Z := by
  intro k
  induction k with
  | zero =>
    intro a e h1 h2
    omega
  | succ k ih =>
    intro a e h1 h2 i
    unfold forC
    simp only [hm]
    by_cases hlt : a < ds.length
    · rw [List.getElem?_eq_getElem hlt]
      rw [List.drop_eq_getElem_cons hlt] at i
      have q1 := hs _ _ _ i
      unfold sT at q1
      simp only []
      split at q1
      · rename_i e1 he
        simp only [he]
        revert q1
        cases hb : body e1 h with
        | next e2 h2 => exact fun ⟨eh, q⟩ => by subst eh; exact ih hlt (by omega) q
        | cnt e2 h2 => exact fun ⟨eh, q⟩ => by subst eh; exact ih hlt (by omega) q
        | brk e2 h2 => exact fun q => q
        | ret v2 h2 => exact fun q => q
        | exn c e2 h2 => exact fun q => q.elim
        | stuck => exact fun q => q.elim
      · exact q1.elim
    · rw [List.getElem?_eq_none (by omega)]
      rw [List.drop_eq_nil_of_le (by omega)] at i
      simp only [ws_next]
      exact hd e i
theorem for_keep {t : Tg} {body : Ee → Hh → Res} {Z : Zs} {v : PV} {ds : List PyData} {h : Hh} {e : Ee} (q : Hs v h ds) (hl : ds.length ≤ line) (I : List PyData → Ee → Prop)
    (hs : ∀ d r e, I (d :: r) e → sT t e (.d d) fun e1 => ws (body e1 h) { nx := fun e2 h2 => h2 = h ∧ I r e2, rt := Z.rt, bk := Z.nx, ct := fun e2 h2 => h2 = h ∧ I r e2 }) (hd : ∀ e, I [] e → Z.nx e h) (i : I ds e) :
    wp (seqS v h) fun s h1 => ws (forS t body s e h1) Z := by
  rcases q with rfl | ⟨n, rfl, en⟩
  · show ws (forL t body (ds.map .d) e h) Z
    refine for_rule (fun r e2 h2 => h2 = h ∧ ∃ es : List PyData, r = es.map .d ∧ I es e2) ?_ ?_ _ _ _ ⟨rfl, ds, rfl, i⟩
    · rintro v r e2 h2 ⟨rfl, es, er, i⟩
      cases es with
      | nil => cases er
      | cons d es =>
        simp at er
        obtain ⟨rfl, rfl⟩ := er
        have q1 := hs d es e2 i
        unfold sT at *
        split at q1
        · exact ws_mono q1 (fun e3 h3 ⟨eh, q⟩ => ⟨eh, es, rfl, q⟩) (fun _ _ q => q) (fun _ _ q => q) (fun e3 h3 ⟨eh, q⟩ => ⟨eh, es, rfl, q⟩)
        · exact q1.elim
    · rintro e2 h2 ⟨rfl, es, er, i⟩
      cases es with
      | nil => exact hd e2 i
      | cons d es => simp at er
  · have e1 : seqS (.cell n) h = .ok (.cell n) h := by
      unfold seqS
      simp only [en]
    rw [e1, wp_ok]
    exact forC_keep en I hs hd (Nat.zero_le _) (by omega) i
theorem txts_strs : ∀ xs : List Str, txts (xs.map .str) = some xs
  | [] => rfl
  | x :: xs => by
    rw [List.map_cons, txts, txts_strs xs]
theorem uniq_nodup {xs : List Str} (h : xs.Nodup) : uniq xs = xs := by
  have key : ∀ (xs acc : List Str), (acc ++ xs).Nodup → xs.foldl once acc = acc ++ xs := by
    intro xs
    induction xs with
    | nil => intro acc _; simp
    | cons x xs ih =>
      intro acc h
      have hx : x ∉ acc := fun z => (List.nodup_append.mp h).2.2 x z x List.mem_cons_self rfl
      rw [List.foldl_cons, once, if_neg hx, ih (acc ++ [x]) (by rw [List.append_assoc]; exact h), List.append_assoc]
      rfl
  have := key xs [] h
  simpa [uniq] using this
theorem Hs.lenSet {v : PV} {h : Hh} {xs : List Str} (q : Hs v h (xs.map .str)) (hl : xs.length ≤ 4000) : lenSetM v h = .ok (.d (.int (uniq xs).length)) h := by
  unfold lenSetM
  rw [q.vw]
  simp only [txts_strs, hl, if_true]
  rfl
end PL
namespace PL.A
open PySem PL
section
variable {D : Defs}
theorem namedat_run (L : D.lookup "named_at" = some d_named_at) (L4 : D.lookup "boxes_named" = some d_boxes_named) {k : Nat} {h : Hh} {names : List Str} (hN : Nm names) {m : Int} {s : Nd} (g : s.goodN 20 names m) {Q : PV → Hh → Prop}
    (q : ∀ bx : List Str, (∀ x ∈ bx, x ∈ names) → bx.length ≤ 5000000 → Q (.d (nL bx)) h) : wp (callN D (k + 2) "named_at" [.d s.d] h) Q := by
  refine call_rule (k := k + 1) L rfl ?_
  cases s with
  | fin =>
    simp [d_named_at, startE, primM, Nd.d, line]
    exact q [] (by simp) (by simp)
  | say a b =>
    simp [d_named_at, startE, primM, Nd.d]
    refine named_run (k := k) L4 hN (by decide) g.1 fun bx hb hl => ?_
    simp
    exact q bx hb (by omega)
  | put x a b =>
    simp [d_named_at, startE, primM, Nd.d, line]
    refine named_run (k := k) L4 hN (by decide) g.2.1 fun bx hb hl => ?_
    have h1 : 1 + bx.length ≤ 16777216 := by omega
    have h2 : bx.length + 1 ≤ 16777216 := by omega
    simp [line, h1, h2]
    refine q (x :: bx) (fun y hy => ?_) (by simp; omega)
    rcases List.mem_cons.mp hy with rfl | hy
    · exact g.1
    · exact hb y hy
  | test c a b =>
    simp [d_named_at, startE, primM, Nd.d]
    refine named_runT (k := k) (s := .co c) L4 hN (Nat.le_refl _) (N := 20) g.1 fun bx hb hl => ?_
    simp
    exact q bx hb (by omega)
theorem behind_run (L : D.lookup "nodes_behind" = some d_nodes_behind) {k : Nat} {h : Hh} {names : List Str} {N : Nat} {m : Int} {s : Nd} (g : s.goodN N names m) {Q : PV → Hh → Prop}
    (q : ∀ ts : List Int, (∀ t ∈ ts, 0 ≤ t ∧ t < m) → ts.length ≤ 2 → Q (.d (iL ts)) h) : wp (callN D (k + 1) "nodes_behind" [.d s.d] h) Q := by
  refine call_rule (k := k) L rfl ?_
  cases s with
  | fin =>
    simp [d_nodes_behind, startE, primM, Nd.d, line]
    exact q [] (by simp) (by simp)
  | say a b =>
    have e1 : ati [PyData.str (Str.ofString "say"), a.d, .int b] (-1) = some (.int b) := rfl
    simp [d_nodes_behind, startE, primM, Nd.d, line, e1]
    exact q [b] (by simp; exact g.2) (by simp)
  | put x a b =>
    have e1 : ati [PyData.str (Str.ofString "put"), .str x, a.d, .int b] (-1) = some (.int b) := rfl
    simp [d_nodes_behind, startE, primM, Nd.d, line, e1]
    exact q [b] (by simp; exact g.2.2) (by simp)
  | test c a b =>
    simp [d_nodes_behind, startE, primM, Nd.d, line]
    exact q [a, b] (by simp; exact ⟨⟨g.2.1, g.2.2.1⟩, g.2.2.2⟩) (by simp)
def fstD : PyData → Option PyData
  | .tuple [a, _] => some a
  | _ => none
theorem fst_bD : ∀ bs : Bs, (bD bs).filterMap fstD = (bs.map (·.1)).map .str
  | [] => rfl
  | b :: bs => by
    show PyData.str b.1 :: (bD bs).filterMap fstD = _
    rw [fst_bD bs]
    rfl
theorem fm_none (ds : List PyData) : ds.filterMap (fun _ => (none : Option PyData)) = [] := by
  induction ds with
  | nil => rfl
  | cons d ds ih => simp
theorem in_nm {x : Str} {names : List Str} (hN : Nm names) (hx : PyData.strOk x = true) : inD (.str x) (nL names) = some (decide (x ∈ names)) := by
  have o2 : ok2 (.str x) (nL names) = true := ok2_l (shaped_str hx) (shaped_nm hN)
  unfold inD
  simp only [o2, if_true]
  congr 1
  rw [List.any_map]
  by_cases c : x ∈ names
  · rw [decide_eq_true c]
    exact List.any_eq_true.mpr ⟨x, c, by simp [eqv_strs]⟩
  · rw [decide_eq_false c]
    refine List.any_eq_false.mpr fun y hy => ?_
    simp [eqv_strs]
    exact fun z => c (z ▸ hy)
theorem okn_e {ds : List PyData} (h : SeqAt.shaped (.list ds) = true) : ok2 (.list ds) (.list []) = true := ok2_l h (by decide)
theorem ok00 : ok2 (.list []) (.list []) = true := by decide
/-- names of boxes -/
theorem names_seen (Φ : String → List PV → Hh → Out PV) {i j : Nat} (ne : i ≠ j) {e : Ee} (hi : i < e.length) {v : PV} {h : Hh} {bs : Bs} (hs : Hs v h (bD bs)) (hl : bs.length ≤ line) {Q : List PyData → Hh → Prop} (q : Q ((bs.map (·.1)).map .str) h) :
    wp (seqS v h) fun s h1 => wp (compS (.tup [.nm i, .nm j]) (fun e1 h2 => evConds Φ .nil e1 h2) (fun e1 h2 => ev Φ (.var i) e1 h2) e s h1) Q := by
  refine comp_pure hs (by simp [bD]; exact hl) fstD (fun d hd => ?_) (by rw [fst_bD]; exact q)
  obtain ⟨b, hb, rfl⟩ := List.mem_map.mp hd
  have g : ((e.set i (some (PV.d (.str b.1)))).set j (some (PV.d (.int b.2))))[i]? = some (some (PV.d (.str b.1))) := by
    rw [List.getElem?_set_ne (Ne.symm ne), List.getElem?_set_self hi]
  simp [sT, setT, setTs, g, fstD]
theorem needboxes_run (L : D.lookup "need_boxes" = some d_need_boxes) {k : Nat} {h : Hh} {v1 v2 : PV} {bs : Bs} {ins : List Str} (h1 : Hs v1 h (bD bs)) (h2 : Hs v2 h (ins.map .str)) (hb : Bx bs) (hi : ∀ x ∈ ins, x ∈ bs.map (·.1)) (hn : ins.Nodup) (il : ins.length ≤ 4) {Q : PV → Hh → Prop} (q : Q (.d .none) h) :
    wp (callN D (k + 1) "need_boxes" [v1, v2] h) Q := by
  have hb4 := hb.len
  have bl : (bD bs).length ≤ line := by
    simp [bD, line]
    omega
  have nl : ((bs.map (·.1)).map PyData.str).length ≤ 16777216 := by
    simp
    omega
  have un : uniq (bs.map (·.1)) = bs.map (·.1) := uniq_nodup hb.nd
  have lsn : ∀ h', lenSetM (.d (nL (bs.map (·.1)))) h' = .ok (.d (.int (bs.map (·.1)).length)) h' := fun h' => by
    rw [Hs.lenSet (xs := bs.map (·.1)) (.inl rfl) (by simp; omega), un]
  have lsi : lenSetM v2 h = .ok (.d (.int ins.length)) h := by
    rw [Hs.lenSet h2 (by omega), uniq_nodup hn]
  have leni : lenM v2 h = .ok (.d (.int ins.length)) h := by
    rw [h2.len, List.length_map]
  refine call_rule (k := k) L rfl ?_
  simp [d_need_boxes, startE, wipeE]
  refine names_seen _ (by decide) (by simp) h1 (by unfold line; omega) ?_
  have hbn := hb.nm
  have sz := hb.sz
  generalize hnm : bs.map (·.1) = nm at *
  simp only [P_mkL_f, line, nl, if_true, wp_ok]
  try simp [wipeE]
  refine comp_pure h1 bl (fun _ => none) (fun d hd => ?_) ?_
  · obtain ⟨b, hb', rfl⟩ := List.mem_map.mp hd
    have sz := sz b hb'
    have s1 : ¬ (b.2 < 1) := by omega
    simp [sT, setT, setTs, primM, s1]
  rw [fm_none]
  simp [line, primM, ok00, eqv_nil, lsn, wipeE]
  refine comp_pure h2 (by simp [line]; omega) (fun _ => none) (fun d hd => ?_) ?_
  · obtain ⟨x, hx, rfl⟩ := List.mem_map.mp hd
    have e1 := in_nm hbn (hbn.ok x (hi x hx))
    rw [decide_eq_true (hi x hx)] at e1
    simp [sT, setT, primM, e1]
  rw [fm_none]
  simp [line, primM, ok00, eqv_nil, lsi, leni]
  exact q
theorem sh_nds {p : Pg} (hb : Bx p.bs) (hn : ∀ s ∈ p.nds, s.goodN 21 p.names p.nds.length) : SeqAt.shaped (.list (p.nds.map Nd.d)) = true := by
  have nm : Nm p.names := hb.nm
  have : Sh 24 (.list (p.nds.map Nd.d)) := Sh.list (n := 23) fun d hd => by
    obtain ⟨s, hs, rfl⟩ := List.mem_map.mp hd
    exact sh_nd21 nm (hn s hs)
  exact this.shaped (by decide)
/-- what is looked at ahead of telling a program -/
theorem progof_go {D : Defs} (L1 : D.lookup "need_boxes" = some d_need_boxes) (L2 : D.lookup "named_at" = some d_named_at) (L3 : D.lookup "nodes_behind" = some d_nodes_behind) (L4 : D.lookup "boxes_named" = some d_boxes_named)
    {k : Nat} {h : Hh} {v1 v2 v3 : PV} {p : Pg} (h1 : Hs v1 h (bD p.bs)) (h2 : Hs v2 h (p.ins.map .str)) (h3 : Hs v3 h (p.nds.map Nd.d)) (hb : Bx p.bs) (hi : ∀ x ∈ p.ins, x ∈ p.names) (hn : p.ins.Nodup) (il : p.ins.length ≤ 4) (n0 : 0 < p.nds.length) (n1 : p.nds.length ≤ 60) (nd : ∀ s ∈ p.nds, s.goodN 20 p.names p.nds.length)
    {last : S} {Z : Zs} (q : ∀ z3 z4 z5 z6 z7 : Option PV, ws (ex (callN D (k + 3)) last [some v1, some v2, some v3, z3, z4, z5, z6, z7] h) { Z with nx := fun e1 h1 => ws (exs (callN D (k + 3)) .nil e1 h1) Z }) :
    ws (exs (callN D (k + 3)) (match d_program_of.body with | .cons a (.cons b (.cons c (.cons d _))) => .cons a (.cons b (.cons c (.cons d (.cons last .nil)))) | x => x) [some v1, some v2, some v3, none, none, none, none, none] h) Z := by
  have hb4 := hb.len
  have sn := sh_nds hb fun s hs => Nd.up (by decide) (nd s hs)
  have nl : ((p.bs.map (·.1)).map PyData.str).length ≤ 16777216 := by
    simp
    omega
  have nl2 : (p.bs.map (·.1)).length ≤ 16777216 := by
    rw [List.length_map]
    omega
  have ne : (p.nds.map Nd.d).isEmpty = false := by
    cases e : p.nds with
    | nil =>
      rw [e] at n0
      simp at n0
    | cons _ _ => rfl
  have hnm2 : p.names = p.bs.map (·.1) := rfl
  simp [d_program_of, primM]
  refine needboxes_run (k := k + 2) L1 h1 h2 hb hi hn il ?_
  simp [h3.vw, okn_e sn, eqv_nil, ne, wipeE]
  have ne2 : ¬ (p.nds = []) := by
    intro z
    rw [z] at n0
    simp at n0
  refine names_seen _ (by decide) (by simp) h1 (by unfold line; omega) ?_
  have hbn := hb.nm
  have hnn : p.names = p.names := rfl
  rw [← hnm2] at *
  have lenv : lenM v3 h = .ok (.d (.int p.nds.length)) h := by
    rw [h3.len, List.length_map]
  have nl3 : p.names.length ≤ 16777216 := nl2
  generalize hnm : p.names = nm at *
  simp [wipeE, line, nl3]
  refine for_keep h3 (by rw [List.length_map]; unfold line; omega) (fun r e => (∀ d ∈ r, ∃ s ∈ p.nds, d = s.d) ∧ ∃ z4 z5 z6 z7 : Option PV, e = [some v1, some v2, some v3, some (.d (nL nm)), z4, z5, z6, z7]) ?_ ?_ ?_
  · rintro d r e ⟨hr, z4, z5, z6, z7, rfl⟩
    obtain ⟨s, hs, rfl⟩ := hr d List.mem_cons_self
    have gs := nd s hs
    simp [sT, setT, wipeE]
    refine namedat_run (k := k + 1) L2 L4 hbn gs fun bx hbx hl => ?_
    refine comp_pure (.inl rfl) (by simp [line]; omega) (fun _ => none) (fun d hd => ?_) ?_
    · obtain ⟨x, hx, rfl⟩ := List.mem_map.mp hd
      have e1 := in_nm hbn (hbn.ok x (hbx x hx))
      rw [decide_eq_true (hbx x hx)] at e1
      simp [sT, setT, primM, e1]
    rw [fm_none]
    simp [line, primM, ok00, eqv_nil, wipeE]
    refine behind_run (k := k + 2) L3 gs fun ts ht htl => ?_
    refine comp_pure (.inl rfl) (by simp [line]; omega) (fun _ => none) (fun d hd => ?_) ?_
    · obtain ⟨t, ht2, rfl⟩ := List.mem_map.mp hd
      obtain ⟨t0, t1⟩ := ht t ht2
      simp [sT, setT, primM, t0, t1, lenv]
    rw [fm_none]
    simp [line, primM, ok00, eqv_nil]
    exact fun d hd => hr d (List.mem_cons_of_mem _ hd)
  · rintro e ⟨hr, z4, z5, z6, z7, rfl⟩
    have := q (some (.d (nL nm))) z4 z5 z6 z7
    simpa using this
  · exact ⟨fun d hd => by
      obtain ⟨s, hs, rfl⟩ := List.mem_map.mp hd
      exact ⟨s, hs, rfl⟩, _, _, _, _, rfl⟩
def lastT : S := match d_program_ofT.body with | .cons _ (.cons _ (.cons _ (.cons _ (.cons s _)))) => s | _ => .pass
def lastF : S := match d_program_of.body with | .cons _ (.cons _ (.cons _ (.cons _ (.cons s _)))) => s | _ => .pass
theorem progofT_run {D : Defs} (L0 : D.lookup "program_of" = some d_program_ofT) (L1 : D.lookup "need_boxes" = some d_need_boxes) (L2 : D.lookup "named_at" = some d_named_at) (L3 : D.lookup "nodes_behind" = some d_nodes_behind) (L4 : D.lookup "boxes_named" = some d_boxes_named)
    {k : Nat} {h : Hh} {v1 v2 v3 : PV} {p : Pg} (h1 : Hs v1 h (bD p.bs)) (h2 : Hs v2 h (p.ins.map .str)) (h3 : Hs v3 h (p.nds.map Nd.d)) (hb : Bx p.bs) (hi : ∀ x ∈ p.ins, x ∈ p.names) (hn : p.ins.Nodup) (il : p.ins.length ≤ 4) (n0 : 0 < p.nds.length) (n1 : p.nds.length ≤ 60) (nd : ∀ s ∈ p.nds, s.goodN 20 p.names p.nds.length)
    {Q : PV → Hh → Prop} (q : Q (.tc [.cell h.length, .cell (h.length + 1), .cell (h.length + 2)]) (h ++ [.lst (bD p.bs), .lst (p.ins.map .str), .lst (p.nds.map Nd.d)])) :
    wp (callN D (k + 4) "program_of" [v1, v2, v3] h) Q := by
  refine call_rule (k := k + 3) L0 rfl ?_
  refine progof_go (last := lastT) L1 L2 L3 L4 h1 h2 h3 hb hi hn il n0 n1 nd fun z3 z4 z5 z6 z7 => ?_
  have hb4 := hb.len
  have bl : (bD p.bs).length ≤ 16777216 := by
    simp [bD]
    omega
  have l2 : p.ins.length ≤ 16777216 := by omega
  have l3 : p.nds.length ≤ 16777216 := by omega
  have h2' : Hs v2 (h ++ [.lst (bD p.bs)]) (p.ins.map .str) := by
    rcases h2 with rfl | ⟨n, rfl, e⟩
    · exact .inl rfl
    · exact .inr ⟨n, rfl, by rw [List.getElem?_append_left (List.getElem?_eq_some_iff.mp e).1]; exact e⟩
  have h3' : Hs v3 (h ++ [.lst (bD p.bs), .lst (p.ins.map .str)]) (p.nds.map Nd.d) := by
    rcases h3 with rfl | ⟨n, rfl, e⟩
    · exact .inl rfl
    · exact .inr ⟨n, rfl, by rw [List.getElem?_append_left (List.getElem?_eq_some_iff.mp e).1]; exact e⟩
  have n1 : ¬ (h.length + 1 < h.length) := by omega
  have n2 : ¬ (h.length + 1 + 1 < h.length) := by omega
  have n3 : ¬ (h.length + 1 + 1 = h.length) := by omega
  have n5 : h.length + 1 + 1 = h.length + 2 := rfl
  simp [lastT, d_program_ofT, primM, h1.listOf, line, bl, h2'.listOf, l2, h3'.listOf, l3]
  simp [line, pack, packs, cellsAt, n1, n2, n3, n5]
  exact q
theorem progof_run {D : Defs} (L0 : D.lookup "program_of" = some d_program_of) (L1 : D.lookup "need_boxes" = some d_need_boxes) (L2 : D.lookup "named_at" = some d_named_at) (L3 : D.lookup "nodes_behind" = some d_nodes_behind) (L4 : D.lookup "boxes_named" = some d_boxes_named)
    {k : Nat} {h : Hh} {v1 v2 v3 : PV} {p : Pg} (h1 : Hs v1 h (bD p.bs)) (h2 : Hs v2 h (p.ins.map .str)) (h3 : Hs v3 h (p.nds.map Nd.d)) (hb : Bx p.bs) (hi : ∀ x ∈ p.ins, x ∈ p.names) (hn : p.ins.Nodup) (il : p.ins.length ≤ 4) (n0 : 0 < p.nds.length) (n1 : p.nds.length ≤ 60) (nd : ∀ s ∈ p.nds, s.goodN 20 p.names p.nds.length)
    {Q : PV → Hh → Prop} (q : Q (.d p.d) h) :
    wp (callN D (k + 4) "program_of" [v1, v2, v3] h) Q := by
  refine call_rule (k := k + 3) L0 rfl ?_
  refine progof_go (last := lastF) L1 L2 L3 L4 h1 h2 h3 hb hi hn il n0 n1 nd fun z3 z4 z5 z6 z7 => ?_
  have hb4 := hb.len
  have bl : (bD p.bs).length ≤ 16777216 := by
    simp [bD]
    omega
  have l2 : p.ins.length ≤ 16777216 := by omega
  have l3 : p.nds.length ≤ 16777216 := by omega
  simp [lastF, d_program_of, primM, h1.listOf, line, bl, h2.listOf, l2, h3.listOf, l3]
  exact q
end
end PL.A

set_option maxRecDepth 100000
set_option maxHeartbeats 4000000
/-! PL40: the texts of whole runs. -/
namespace PL.A
open PySem PL
def d_run_ofT : Def := ⟨["program", "inputs"], ["program", "inputs", "place", "worths", "said", "met", "behind", "steps", "many", "more"],
  (.cons (.asg (.nm 2) (.cst (.int 0)))
  (.cons (.asg (.nm 3) (.call "first_worths" (.cons (.var 0) (.cons (.var 1) .nil))))
  (.cons (.asg (.nm 4) (.prim (.lst true) .nil))
  (.cons (.asg (.nm 5) (.prim .dnewN .nil))
  (.cons (.whl fuel (.prim .notIn (.cons (.prim .tup (.cons (.var 2) (.cons (.prim .tupOf (.cons (.var 3) .nil)) .nil))) (.cons (.var 5) .nil))) (.cons (.put (.var 5) (.prim .tup (.cons (.var 2) (.cons (.prim .tupOf (.cons (.var 3) .nil)) .nil))) (.prim .tup (.cons (.prim .len (.cons (.var 5) .nil)) (.cons (.prim .len (.cons (.var 4) .nil)) .nil))))
  (.cons (.asg (.nm 6) (.call "step_from" (.cons (.var 0) (.cons (.var 2) (.cons (.var 3) .nil)))))
  (.cons (.ite (.prim .isN (.cons (.var 6) .nil)) (.cons (.ret (.prim .tup (.cons (.var 4) (.cons (.cst .none) (.cons (.prim .sub (.cons (.prim .len (.cons (.var 5) .nil)) (.cons (.cst (.int 1)) .nil))) .nil)))))
  .nil) .nil)
  (.cons (.asg (.tup [(.nm 9), (.nm 2), (.nm 3)]) (.var 6))
  (.cons (.expr (.meth .extend (.var 4) (.cons (.var 9) .nil)))
  .nil))))))
  (.cons (.asg (.tup [(.nm 7), (.nm 8)]) (.prim .idx (.cons (.var 5) (.cons (.prim .tup (.cons (.var 2) (.cons (.prim .tupOf (.cons (.var 3) .nil)) .nil))) .nil))))
  (.cons (.ret (.prim .tup (.cons (.prim (.slc true false true) (.cons (.var 4) (.cons (.var 8) .nil))) (.cons (.prim (.slc true true false) (.cons (.var 4) (.cons (.var 8) .nil))) (.cons (.var 7) .nil)))))
  .nil)))))))⟩
def d_run_of : Def := ⟨["program", "inputs"], ["program", "inputs", "place", "worths", "said", "met", "behind", "steps", "many", "more"],
  (.cons (.asg (.nm 2) (.cst (.int 0)))
  (.cons (.asg (.nm 3) (.call "first_worths" (.cons (.var 0) (.cons (.var 1) .nil))))
  (.cons (.asg (.nm 4) (.prim (.lst true) .nil))
  (.cons (.asg (.nm 5) (.prim .dnewN .nil))
  (.cons (.whl fuel (.prim .notIn (.cons (.prim .tup (.cons (.var 2) (.cons (.prim .tupOf (.cons (.var 3) .nil)) .nil))) (.cons (.var 5) .nil))) (.cons (.put (.var 5) (.prim .tup (.cons (.var 2) (.cons (.prim .tupOf (.cons (.var 3) .nil)) .nil))) (.prim .tup (.cons (.prim .len (.cons (.var 5) .nil)) (.cons (.prim .len (.cons (.var 4) .nil)) .nil))))
  (.cons (.asg (.nm 6) (.call "step_from" (.cons (.var 0) (.cons (.var 2) (.cons (.var 3) .nil)))))
  (.cons (.ite (.prim .isN (.cons (.var 6) .nil)) (.cons (.ret (.prim .tup (.cons (.frz (.var 4)) (.cons (.cst .none) (.cons (.prim .sub (.cons (.prim .len (.cons (.var 5) .nil)) (.cons (.cst (.int 1)) .nil))) .nil)))))
  .nil) .nil)
  (.cons (.asg (.tup [(.nm 9), (.nm 2), (.nm 3)]) (.var 6))
  (.cons (.expr (.meth .extend (.var 4) (.cons (.var 9) .nil)))
  .nil))))))
  (.cons (.asg (.tup [(.nm 7), (.nm 8)]) (.prim .idx (.cons (.var 5) (.cons (.prim .tup (.cons (.var 2) (.cons (.prim .tupOf (.cons (.var 3) .nil)) .nil))) .nil))))
  (.cons (.ret (.prim .tup (.cons (.prim (.slc false false true) (.cons (.var 4) (.cons (.var 8) .nil))) (.cons (.prim (.slc false true false) (.cons (.var 4) (.cons (.var 8) .nil))) (.cons (.var 7) .nil)))))
  .nil)))))))⟩
def d__law_due : Def := ⟨["program", "inputs"], ["program", "inputs", "met", "here", "said", "behind", "steps", "many"],
  (.cons (.asg (.nm 2) (.prim .dnewN .nil))
  (.cons (.asg (.nm 3) (.prim .tup (.cons (.cst (.int 0)) (.cons (.call "_law_first" (.cons (.var 0) (.cons (.var 1) .nil))) .nil))))
  (.cons (.asg (.nm 4) (.prim (.lst false) .nil))
  (.cons (.whl fuel (.prim .notIn (.cons (.prim .tup (.cons (.prim .idx (.cons (.var 3) (.cons (.cst (.int 0)) .nil))) (.cons (.prim .tupOf (.cons (.prim .idx (.cons (.var 3) (.cons (.cst (.int 1)) .nil))) .nil)) .nil))) (.cons (.var 2) .nil))) (.cons (.put (.var 2) (.prim .tup (.cons (.prim .idx (.cons (.var 3) (.cons (.cst (.int 0)) .nil))) (.cons (.prim .tupOf (.cons (.prim .idx (.cons (.var 3) (.cons (.cst (.int 1)) .nil))) .nil)) .nil))) (.prim .tup (.cons (.prim .len (.cons (.var 2) .nil)) (.cons (.prim .len (.cons (.var 4) .nil)) .nil))))
  (.cons (.asg (.nm 5) (.call "_law_step" (.cons (.var 0) (.cons (.prim .idx (.cons (.var 3) (.cons (.cst (.int 0)) .nil))) (.cons (.prim .idx (.cons (.var 3) (.cons (.cst (.int 1)) .nil))) .nil)))))
  (.cons (.ite (.prim .isN (.cons (.var 5) .nil)) (.cons (.ret (.prim .tup (.cons (.var 4) (.cons (.cst .none) (.cons (.prim .sub (.cons (.prim .len (.cons (.var 2) .nil)) (.cons (.cst (.int 1)) .nil))) .nil)))))
  .nil) .nil)
  (.cons (.asg (.nm 4) (.prim (.add false) (.cons (.var 4) (.cons (.prim .idx (.cons (.var 5) (.cons (.cst (.int 0)) .nil))) .nil))))
  (.cons (.asg (.nm 3) (.prim .tup (.cons (.prim .idx (.cons (.var 5) (.cons (.cst (.int 1)) .nil))) (.cons (.prim .idx (.cons (.var 5) (.cons (.cst (.int 2)) .nil))) .nil))))
  .nil))))))
  (.cons (.asg (.tup [(.nm 6), (.nm 7)]) (.prim .idx (.cons (.var 2) (.cons (.prim .tup (.cons (.prim .idx (.cons (.var 3) (.cons (.cst (.int 0)) .nil))) (.cons (.prim .tupOf (.cons (.prim .idx (.cons (.var 3) (.cons (.cst (.int 1)) .nil))) .nil)) .nil))) .nil))))
  (.cons (.ret (.prim .tup (.cons (.prim (.slc false false true) (.cons (.var 4) (.cons (.var 7) .nil))) (.cons (.prim (.slc false true false) (.cons (.var 4) (.cons (.var 7) .nil))) (.cons (.var 6) .nil)))))
  .nil))))))⟩
def d__law_lessened : Def := ⟨["program"], ["program", "most", "name", "size"],
  (.cons (.asg (.nm 1) (.prim .idx (.cons (.prim (.lst false) (.cons (.cst (.int 4)) (.cons (.cst (.int 4)) (.cons (.cst (.int 4)) (.cons (.cst (.int 3)) (.cons (.cst (.int 2)) .nil)))))) (.cons (.prim .len (.cons (.prim .idx (.cons (.var 0) (.cons (.cst (.int 0)) .nil))) .nil)) .nil))))
  (.cons (.ret (.prim .tup (.cons (.comp false [2, 3] (.tup [(.nm 2), (.nm 3)]) (.seq (.prim .idx (.cons (.var 0) (.cons (.cst (.int 0)) .nil)))) .nil (.prim .tup (.cons (.var 2) (.cons (.prim .min2 (.cons (.var 3) (.cons (.var 1) .nil))) .nil)))) (.cons (.prim .idx (.cons (.var 0) (.cons (.cst (.int 1)) .nil))) (.cons (.prim .idx (.cons (.var 0) (.cons (.cst (.int 2)) .nil))) .nil)))))
  .nil))⟩
end PL.A

set_option maxRecDepth 100000
set_option maxHeartbeats 1000000
/-! PL41: the path of a run; where it stops. -/
namespace PL.A
open PySem PL
/-- after so many steps: node, worths, what was said -/
def pth (p : Pg) (W : List Int) : Nat → Nat × List Int × List Int
  | 0 => (0, W, [])
  | n + 1 => match stp p (pth p W n).1 (pth p W n).2.1 with
    | none => pth p W n
    | some (l, j', ws') => (j', ws', (pth p W n).2.2 ++ l)
abbrev pj (p : Pg) (W : List Int) (n : Nat) : Nat := (pth p W n).1
abbrev pw (p : Pg) (W : List Int) (n : Nat) : List Int := (pth p W n).2.1
abbrev ps (p : Pg) (W : List Int) (n : Nat) : List Int := (pth p W n).2.2
theorem pth_some {p : Pg} {W : List Int} {n : Nat} {l : List Int} {j' : Nat} {ws' : List Int} (e : stp p (pj p W n) (pw p W n) = some (l, j', ws')) : pth p W (n + 1) = (j', ws', ps p W n ++ l) := by
  rw [pth]
  simp only [e]
theorem pth_ok {p : Pg} (g : Pw p) {W : List Int} (hw : Wk p.bs W) : ∀ n, pj p W n < p.nds.length ∧ Wk p.bs (pw p W n) ∧ (ps p W n).length ≤ n
  | 0 => ⟨g.n0, hw, Nat.le_refl _⟩
  | n + 1 => by
    obtain ⟨h1, h2, h3⟩ := pth_ok g hw n
    cases e : stp p (pj p W n) (pw p W n) with
    | none =>
      have : pth p W (n + 1) = pth p W n := by
        rw [pth]
        simp only [e]
      show (pth p W (n + 1)).1 < _ ∧ Wk _ (pth p W (n + 1)).2.1 ∧ (pth p W (n + 1)).2.2.length ≤ _
      rw [this]
      exact ⟨h1, h2, Nat.le_succ_of_le h3⟩
    | some v =>
      obtain ⟨l, j', ws'⟩ := v
      obtain ⟨a, b, c⟩ := stp_ok g h2 e
      show (pth p W (n + 1)).1 < _ ∧ Wk _ (pth p W (n + 1)).2.1 ∧ (pth p W (n + 1)).2.2.length ≤ _
      rw [pth_some e]
      refine ⟨a, b, ?_⟩
      show (ps p W n ++ l).length ≤ _
      rw [List.length_append]
      exact Nat.add_le_add h3 c
/-- a place and worths, as a key -/
def sk (j : Nat) (ws : List Int) : NK := .tup [.num j, .tup (ws.map .num)]
theorem nkeys_ints : ∀ ws : List Int, nkeys (ws.map .int) = some (ws.map .num)
  | [] => by simp only [List.map_nil, nkeys]
  | w :: ws => by simp only [List.map_cons, nkeys, nkey, nkeys_ints ws]
theorem depth_nums : ∀ ws : List Int, NestedKey.depthAll (ws.map .num) = 0
  | [] => by simp only [List.map_nil, NestedKey.depthAll]
  | w :: ws => by simp only [List.map_cons, NestedKey.depthAll, NestedKey.depth, depth_nums ws, Nat.max_self]
theorem keyN_st (j : Nat) (ws : List Int) : keyN (.tuple [.int j, .tuple (ws.map .int)]) = some (sk j ws) := by
  unfold keyN sk
  simp only [nkey, nkeys, nkeys_ints, NestedKey.depth, NestedKey.depthAll, depth_nums]
  rfl
theorem num_inj : ∀ {a b : List Int}, a.map NestedKey.num = b.map NestedKey.num → a = b
  | [], [], _ => rfl
  | [], _ :: _, h => by simp at h
  | _ :: _, [], h => by simp at h
  | x :: a, y :: b, h => by
    simp only [List.map_cons, List.cons.injEq, NestedKey.num.injEq] at h
    rw [h.1, num_inj h.2]
theorem sk_inj {j j' : Nat} {ws ws' : List Int} (e : sk j ws = sk j' ws') : j = j' ∧ ws = ws' := by
  unfold sk at e
  simp only [NestedKey.tup.injEq, List.cons.injEq, NestedKey.num.injEq, and_true] at e
  exact ⟨by omega, num_inj e.2⟩
abbrev pk (p : Pg) (W : List Int) (n : Nat) : NK := sk (pj p W n) (pw p W n)
/-- the run stops there: it has ended, or stands where it stood -/
def Stop (p : Pg) (W : List Int) (t : Nat) : Prop := stp p (pj p W t) (pw p W t) = none ∨ ∃ i, i < t ∧ pk p W i = pk p W t
/-- the first such -/
def First (p : Pg) (W : List Int) (t : Nat) : Prop := Stop p W t ∧ ∀ i, i < t → ¬ Stop p W i
theorem First.uniq {p : Pg} {W : List Int} {t u : Nat} (a : First p W t) (b : First p W u) : t = u := by
  rcases Nat.lt_trichotomy t u with h | h | h
  · exact absurd a.1 (b.2 t h)
  · exact h
  · exact absurd b.1 (a.2 u h)
def metN (p : Pg) (W : List Int) (t : Nat) : List (NK × PyData) := (List.range t).map fun i => (pk p W i, .tuple [.int i, .int (ps p W i).length])
theorem metN_len (p : Pg) (W : List Int) (t : Nat) : (metN p W t).length = t := by
  simp [metN]
theorem nget_app (k : NK) : ∀ (a b : List (NK × PyData)), nget (a ++ b) k = (nget a k).orElse fun _ => nget b k
  | [], b => rfl
  | p :: a, b => by
    show nget (p :: (a ++ b)) k = _
    by_cases c : p.1 = k
    · rw [nget, if_pos c, nget, if_pos c]
      rfl
    · rw [nget, if_neg c, nget, if_neg c]
      exact nget_app k a b
theorem nget_none {p : Pg} {W : List Int} {k : NK} : ∀ {t : Nat}, (∀ i, i < t → pk p W i ≠ k) → nget (metN p W t) k = none
  | 0, _ => rfl
  | t + 1, h => by
    unfold metN
    rw [List.range_succ, List.map_append]
    have ih := nget_none (t := t) fun i hi => h i (by omega)
    rw [nget_app]
    unfold metN at ih
    rw [ih]
    show nget [(pk p W t, _)] k = none
    rw [nget, if_neg (h t (by omega))]
    rfl
theorem nget_some {p : Pg} {W : List Int} {k : NK} {i : Nat} (hk : pk p W i = k) (hm : ∀ j, j < i → pk p W j ≠ k) : ∀ {t : Nat}, i < t → nget (metN p W t) k = some (.tuple [.int i, .int (ps p W i).length])
  | 0, h => by omega
  | t + 1, h => by
    unfold metN
    rw [List.range_succ, List.map_append, nget_app]
    by_cases c : i = t
    · subst c
      have := nget_none (p := p) (W := W) (k := k) (t := i) hm
      unfold metN at this
      rw [this]
      show nget [(pk p W i, _)] k = _
      rw [nget, if_pos hk]
    · have ih := nget_some hk hm (t := t) (by omega)
      unfold metN at ih
      rw [ih]
      rfl
theorem nset_new {k : NK} {v : PyData} : ∀ {l : List (NK × PyData)}, nget l k = none → nset l k v = l ++ [(k, v)]
  | [], _ => rfl
  | p :: l, h => by
    by_cases c : p.1 = k
    · rw [nget, if_pos c] at h
      cases h
    · rw [nget, if_neg c] at h
      rw [nset, if_neg c, nset_new h]
      rfl
theorem metN_next {p : Pg} {W : List Int} {t : Nat} (h : ∀ i, i < t → pk p W i ≠ pk p W t) : nset (metN p W t) (pk p W t) (.tuple [.int t, .int (ps p W t).length]) = metN p W (t + 1) := by
  rw [nset_new (nget_none h)]
  unfold metN
  rw [List.range_succ, List.map_append]
  rfl
/-- a least one there -/
theorem least {P : Nat → Prop} : ∀ {n : Nat}, P n → ∃ m, m ≤ n ∧ P m ∧ ∀ i, i < m → ¬ P i
  | 0, h => ⟨0, Nat.le_refl _, h, fun i hi => by omega⟩
  | n + 1, h => by
    by_cases c : ∃ i, i ≤ n ∧ P i
    · obtain ⟨i, hi, hp⟩ := c
      have key : ∀ n, ∀ i, i ≤ n → P i → ∃ m, m ≤ i ∧ P m ∧ ∀ j, j < m → ¬ P j := by
        intro n
        induction n with
        | zero =>
          intro i hi hp
          exact ⟨i, Nat.le_refl _, hp, fun j hj => by omega⟩
        | succ n ih =>
          intro i hi hp
          by_cases d : ∃ j, j < i ∧ P j
          · obtain ⟨j, hj, hpj⟩ := d
            obtain ⟨m, h1, h2, h3⟩ := ih j (by omega) hpj
            exact ⟨m, by omega, h2, h3⟩
          · exact ⟨i, Nat.le_refl _, hp, fun j hj hpj => d ⟨j, hj, hpj⟩⟩
      obtain ⟨m, h1, h2, h3⟩ := key n i hi hp
      exact ⟨m, by omega, h2, h3⟩
    · exact ⟨n + 1, Nat.le_refl _, h, fun i hi hp => c ⟨i, by omega, hp⟩⟩
/-! ### there are not so many places and worths -/
theorem pigeon : ∀ (n : Nat) (l : List Nat), l.Nodup → (∀ x ∈ l, x < n) → l.length ≤ n
  | 0, [], _, _ => Nat.le_refl _
  | 0, x :: l, _, h => absurd (h x List.mem_cons_self) (by omega)
  | n + 1, l, nd, h => by
    have h1 := pigeon n (l.erase n) (nd.erase n) fun x hx => by
      have hx2 := (List.Nodup.mem_erase_iff nd).mp hx
      have := h x hx2.2
      have := hx2.1
      omega
    have h2 := List.length_erase (a := n) (l := l)
    by_cases c : n ∈ l
    · rw [if_pos c] at h2
      omega
    · rw [if_neg c] at h2
      omega
def code : List Int → Nat
  | [] => 0
  | w :: ws => w.toNat + 16 * code ws
theorem code_lt : ∀ {bs : Bs} {ws : List Int}, Wk bs ws → (∀ b ∈ bs, 1 ≤ b.2 ∧ b.2 ≤ 16) → code ws < 16 ^ ws.length
  | [], [], _, _ => by decide
  | [], _ :: _, h, _ => h.elim
  | _ :: _, [], h, _ => h.elim
  | b :: bs, w :: ws, h, hs => by
    have h1 := code_lt h.2.2 fun c hc => hs c (List.mem_cons_of_mem _ hc)
    have h2 := hs b List.mem_cons_self
    have h3 := h.1
    have h4 := h.2.1
    show w.toNat + 16 * code ws < 16 ^ (ws.length + 1)
    rw [Nat.pow_succ]
    omega
theorem code_inj : ∀ {bs : Bs} {ws vs : List Int}, Wk bs ws → Wk bs vs → (∀ b ∈ bs, 1 ≤ b.2 ∧ b.2 ≤ 16) → code ws = code vs → ws = vs
  | [], [], [], _, _, _, _ => rfl
  | [], _ :: _, _, h, _, _, _ => h.elim
  | [], [], _ :: _, _, h, _, _ => h.elim
  | _ :: _, [], _, h, _, _, _ => h.elim
  | _ :: _, _ :: _, [], _, h, _, _ => h.elim
  | b :: bs, w :: ws, v :: vs, h, k, hs, e => by
    have h2 := hs b List.mem_cons_self
    have h3 := h.1
    have h4 := h.2.1
    have k3 := k.1
    have k4 := k.2.1
    replace e : w.toNat + 16 * code ws = v.toNat + 16 * code vs := e
    have e1 : w = v := by omega
    rw [e1, code_inj h.2.2 k.2.2 (fun c hc => hs c (List.mem_cons_of_mem _ hc)) (by omega)]
theorem few_steps {p : Pg} (g : Pw p) {W : List Int} (hw : Wk p.bs W) {t : Nat} (h : ∀ i j, i < j → j < t → pk p W i ≠ pk p W j) : t ≤ 4000000 := by
  have nd : ((List.range t).map fun i => pj p W i * 65536 + code (pw p W i)).Nodup := by
    unfold List.Nodup
    rw [List.pairwise_map]
    refine List.Pairwise.imp_of_mem (fun {i j} hi hj hlt e => ?_) List.pairwise_lt_range
    obtain ⟨i1, i2, _⟩ := pth_ok g hw i
    obtain ⟨j1, j2, _⟩ := pth_ok g hw j
    have bound : ∀ n, code (pw p W n) < 65536 := fun n => by
      obtain ⟨_, h2, _⟩ := pth_ok g hw n
      have c1 := code_lt h2 g.bx.sz
      have hl : (pw p W n).length ≤ 4 := by
        rw [h2.len]
        exact g.bx.len
      have : 16 ^ (pw p W n).length ≤ 16 ^ 4 := Nat.pow_le_pow_right (by decide) hl
      omega
    have bi := bound i
    have bj := bound j
    have e1 : pj p W i = pj p W j := by omega
    have e2 : pw p W i = pw p W j := code_inj i2 j2 g.bx.sz (by omega)
    exact h i j hlt (List.mem_range.mp hj) (by unfold pk; rw [e1, e2])
  have lt := pigeon 4000000 _ nd fun x hx => by
    obtain ⟨i, hi, rfl⟩ := List.mem_map.mp hx
    obtain ⟨h1, h2, h3⟩ := pth_ok g hw i
    have c1 := code_lt h2 g.bx.sz
    have n60 := g.n1
    have hl : (pw p W i).length ≤ 4 := by
      rw [h2.len]
      exact g.bx.len
    have : 16 ^ (pw p W i).length ≤ 16 ^ 4 := Nat.pow_le_pow_right (by decide) hl
    omega
  simpa using lt
end PL.A

set_option maxRecDepth 100000
set_option maxHeartbeats 1000000
/-! PL42: whole runs. -/
namespace PL.A
open PySem PL
def rnd (p : Pg) (W : List Int) (t : Nat) : Option Nat := (List.range t).find? fun i => decide (pk p W i = pk p W t)
theorem rnd_none {p : Pg} {W : List Int} {t : Nat} (e : rnd p W t = none) : ∀ i, i < t → pk p W i ≠ pk p W t := fun i hi z => by
  have := List.find?_eq_none.mp e i (List.mem_range.mpr hi)
  exact this (decide_eq_true z)
theorem rnd_some {p : Pg} {W : List Int} {t i : Nat} (e : rnd p W t = some i) : i < t ∧ pk p W i = pk p W t :=
  ⟨List.mem_range.mp (List.mem_of_find?_eq_some e), of_decide_eq_true (List.find?_some (p := fun i => decide (pk p W i = pk p W t)) e)⟩
theorem distinct {p : Pg} {W : List Int} {t : Nat} (h : ∀ i, i < t → ¬ Stop p W i) : ∀ i j, i < j → j < t → pk p W i ≠ pk p W j := fun i j hij hj e => h j hj (.inr ⟨i, hij, e⟩)
theorem nget_rnd {p : Pg} {W : List Int} {t i : Nat} (h : ∀ i, i < t → ¬ Stop p W i) (e : rnd p W t = some i) : nget (metN p W t) (pk p W t) = some (.tuple [.int i, .int (ps p W i).length]) := by
  obtain ⟨hi, hk⟩ := rnd_some e
  exact nget_some hk (fun j hj z => distinct h j i hj hi (z.trans hk.symm)) hi
/-- what a run that stops there tells -/
def resD (p : Pg) (W : List Int) (t : Nat) : PyData := match rnd p W t with
  | some i => .tuple [iL ((ps p W t).take (ps p W i).length), iL ((ps p W t).drop (ps p W i).length), .int i]
  | none => .tuple [iL (ps p W t), .none, .int t]
theorem cut_take {xs : List Int} (c : Nat) : cut (xs.map PyData.int) none (some (c : Int)) = (xs.take c).map .int := by
  have h0 : ¬ ((c : Int) < 0) := by omega
  unfold cut
  simp only [six, h0, if_false, List.drop_zero, Nat.sub_zero, Int.toNat_natCast, List.map_take]
  rw [List.take_eq_take_iff]
  omega
theorem cut_drop {xs : List Int} {c : Nat} (h : c ≤ xs.length) : cut (xs.map PyData.int) (some (c : Int)) none = (xs.drop c).map .int := by
  have h0 : ¬ ((c : Int) < 0) := by omega
  have h1 : min c xs.length = c := by omega
  unfold cut
  simp only [six, h0, if_false, Int.toNat_natCast, List.length_map, List.map_drop, h1]
  rw [List.take_of_length_le (by simp)]
theorem ps_mono (p : Pg) (W : List Int) : ∀ {i t : Nat}, i ≤ t → (ps p W i).length ≤ (ps p W t).length
  | i, 0, h => by
    have : i = 0 := by omega
    subst this
    exact Nat.le_refl _
  | i, t + 1, h => by
    by_cases c : i = t + 1
    · subst c
      exact Nat.le_refl _
    · have ih := ps_mono p W (i := i) (t := t) (by omega)
      refine Nat.le_trans ih ?_
      cases e : stp p (pj p W t) (pw p W t) with
      | none =>
        have : pth p W (t + 1) = pth p W t := by
          rw [pth]
          simp only [e]
        show _ ≤ (pth p W (t + 1)).2.2.length
        rw [this]
        exact Nat.le_refl _
      | some v =>
        obtain ⟨l, j', ws'⟩ := v
        show _ ≤ (pth p W (t + 1)).2.2.length
        rw [pth_some e]
        show _ ≤ (ps p W t ++ l).length
        rw [List.length_append]
        omega
section
variable {D : Defs}
theorem runT_run (L : D.lookup "run_of" = some d_run_ofT) (La : D.lookup "first_worths" = some d_first_worths) (Lb : D.lookup "step_from" = some d_step_fromF) (L1 : D.lookup "need_worths" = some d_need_worths) (L2 : D.lookup "known_by" = some d_known_by) (L3 : D.lookup "names_of" = some d_names_of) (L5 : D.lookup "worth_in" = some d_worth_in) (L6 : D.lookup "holds_in" = some d_holds_in)
    {k : Nat} {h : Hh} {p : Pg} (g : Pw p) {ins : List Int} (hi : Iv p.bs p.ins ins) {Q : PV → Hh → Prop}
    (q1 : ∀ t i, First p (fst p ins) t → t ≤ 4000000 → rnd p (fst p ins) t = some i → Q (.tc [.cell h.length, .cell (h.length + 1), .d (.int i)]) (h ++ [.lst (((ps p (fst p ins) t).take (ps p (fst p ins) i).length).map .int), .lst (((ps p (fst p ins) t).drop (ps p (fst p ins) i).length).map .int)]))
    (q0 : ∀ t, First p (fst p ins) t → t ≤ 4000000 → rnd p (fst p ins) t = none → Q (.tc [.cell h.length, .d .none, .d (.int t)]) (h ++ [.lst ((ps p (fst p ins) t).map .int)])) :
    wp (callN D (k + 32) "run_of" [.d p.d, .d (iL ins)] h) Q := by
  refine call_rule (k := k + 31) L rfl ?_
  simp [d_run_ofT, startE, primM]
  refine first_run (k := k + 29) La L3 g hi ?_
  try simp [line]
  have hw0 := fst_wk g hi
  generalize hW : fst p ins = W at *
  obtain ⟨I, hI⟩ : ∃ I : Nat → Ee → Hh → Prop, I = fun m e h' => ∃ (t : Nat) (z6 z7 z8 z9 : Option PV), m = 4000001 - t ∧ (∀ i, i < t → ¬ Stop p W i) ∧ h' = h ++ [.lst ((ps p W t).map .int), .dcn (metN p W t)] ∧
    e = [some (.d p.d), some (.d (iL ins)), some (.d (.int (pj p W t))), some (.d (iL (pw p W t))), some (.cell h.length), some (.cell (h.length + 1)), z6, z7, z8, z9] := ⟨_, rfl⟩
  refine whl_rule I ?_ _ 4000001 _ _ (by unfold fuel; omega) ?_
  · intro m e h' hii
    rw [hI] at hii
    obtain ⟨t, z6, z7, z8, z9, rfl, hs, rfl, rfl⟩ := hii
    have ht := few_steps g hw0 (distinct hs)
    obtain ⟨hj, hw, hsl⟩ := pth_ok g hw0 t
    have ky := keyN_st (pj p W t) (pw p W t)
    have nm := nget_rnd (i := 0) hs
    have lk : (h ++ [Cl.lst ((ps p W t).map .int), .dcn (metN p W t)])[h.length + 1]? = some (.dcn (metN p W t)) := by simp
    have inm := P_in_dcn (h ++ [Cl.lst ((ps p W t).map .int), .dcn (metN p W t)]) (neg := true) lk ky
    have ln : (metN p W t).length ≤ 16777216 := by
      rw [metN_len]
      omega
    have ln2 : (metN p W t).length < 16777216 := by
      rw [metN_len]
      omega
    have mtl := metN_len p W t
    have hsl2 : (ps p W t).length ≤ 16777216 := Nat.le_trans hsl (by omega)
    simp [line]
    cases hr : rnd p W t with
    | none =>
      have hn := rnd_none hr
      have ng : nget (metN p W t) (sk (pj p W t) (pw p W t)) = none := nget_none hn
      rw [ng] at inm
      simp [primM, inm, ln, line]
      have e2 := P_putC_dcn (h ++ [Cl.lst ((ps p W t).map .int), .dcn (metN p W t)]) (kvs := metN p W t) (n := h.length + 1) (x := .tuple [.int (metN p W t).length, .int (ps p W t).length]) ky
      simp [e2, line, ln2]
      have mn := metN_next hn
      rw [show (metN p W t).length = t from mtl]
      have mn2 : nset (metN p W t) (sk (pj p W t) (pw p W t)) (.tuple [.int t, .int (ps p W t).length]) = metN p W (t + 1) := mn
      rw [mn2]
      refine stepF_run (k := k) Lb L1 L2 L3 L5 L6 g hw hj ?_
      cases es : stp p (pj p W t) (pw p W t) with
      | none =>
        have F : First p W t := ⟨.inl es, hs⟩
        have ln3 : (metN p W (t + 1)).length ≤ 16777216 := by
          rw [metN_len]
          omega
        have q := q0 t F ht hr
        have ht3 : t ≤ 16777215 := by omega
        simp [stD, primM, isNone, ln3, line, metN_len, ht3]
        try simp [line, pack, packs, cellsAt]
        exact q
      | some v =>
        obtain ⟨l, j', ws'⟩ := v
        obtain ⟨_, _, hl1⟩ := stp_ok g hw es
        have hb : (ps p W t).length + l.length ≤ 16777216 := by omega
        simp [stD, primM, isNone, sT, setT, setTs, mTy, kindOk, hb, line]
        refine ⟨4000001 - (t + 1), by omega, ?_⟩
        rw [hI]
        have hns : ¬ Stop p W t := by
          rintro (z | ⟨i, hi, z⟩)
          · rw [z] at es
            cases es
          · exact hn i hi z
        have en := pth_some (p := p) (W := W) (n := t) es
        have ej : pj p W (t + 1) = j' := by
          unfold pj
          rw [en]
        have ew : pw p W (t + 1) = ws' := by
          unfold pw
          rw [en]
        have ey : ps p W (t + 1) = ps p W t ++ l := by
          show (pth p W (t + 1)).2.2 = _
          rw [en]
        refine ⟨t + 1, some (.d (.tuple [iL l, .int j', iL ws'])), z7, z8, some (.d (iL l)), rfl, fun i hi => ?_, ?_, ?_⟩
        · by_cases c : i = t
          · subst c
            exact hns
          · exact hs i (by omega)
        · rw [ey, List.map_append]
        · rw [ej, ew]
    | some i =>
      have ng : nget (metN p W t) (sk (pj p W t) (pw p W t)) = some (.tuple [.int i, .int (ps p W i).length]) := nget_rnd hs hr
      rw [ng] at inm
      obtain ⟨hi1, hk⟩ := rnd_some hr
      have F : First p W t := ⟨.inr ⟨i, hi1, hk⟩, hs⟩
      have hc := ps_mono p W (Nat.le_of_lt hi1)
      have ex := P_idxC_dcn (h ++ [Cl.lst ((ps p W t).map .int), .dcn (metN p W t)]) (kvs := metN p W t) ky
      rw [ng] at ex
      have q := q1 t i F ht hr
      have l1 : ((ps p W t).take (ps p W i).length).length ≤ 16777216 := by
        rw [List.length_take]
        omega
      have l2 : ((ps p W t).drop (ps p W i).length).length ≤ 16777216 := by
        rw [List.length_drop]
        omega
      have s1 : ∀ L : Hh, slcM true (.cell h.length) none (some ((ps p W i).length : Int)) (h ++ Cl.lst ((ps p W t).map .int) :: L) = mkL true (((ps p W t).take (ps p W i).length).map .int) (h ++ Cl.lst ((ps p W t).map .int) :: L) := fun L => by
        unfold slcM
        simp [cut_take]
      have s2 : ∀ L : Hh, slcM true (.cell h.length) (some ((ps p W i).length : Int)) none (h ++ Cl.lst ((ps p W t).map .int) :: L) = mkL true (((ps p W t).drop (ps p W i).length).map .int) (h ++ Cl.lst ((ps p W t).map .int) :: L) := fun L => by
        unfold slcM
        simp [cut_drop hc]
      generalize (ps p W t).take (ps p W i).length = T1 at *
      generalize (ps p W t).drop (ps p W i).length = T2 at *
      have n1 : ¬ (h.length + 2 < h.length) := by omega
      have n2 : ¬ (h.length + 3 < h.length) := by omega
      simp [primM, inm, ex, sT, setT, setTs, line, s1, s2, l1, l2]
      simp [line, pack, packs, cellsAt, n1, n2]
      exact q
  · rw [hI]
    exact ⟨0, none, none, none, none, rfl, fun i hi => by omega, rfl, rfl⟩
theorem due_run (L : D.lookup "_law_due" = some d__law_due) (La : D.lookup "_law_first" = some d__law_first) (Lb : D.lookup "_law_step" = some d__law_step) (L2 : D.lookup "_law_known" = some d__law_known) (L5 : D.lookup "_law_value" = some d__law_value) (L6 : D.lookup "_law_holds" = some d__law_holds)
    {k : Nat} {h : Hh} {p : Pg} (g : Pw p) {ins : List Int} (hi : Iv p.bs p.ins ins) {Q : PV → Hh → Prop}
    (q : ∀ t, First p (fst p ins) t → t ≤ 4000000 → Q (.d (resD p (fst p ins) t)) h) :
    wp (callN D (k + 32) "_law_due" [.d p.d, .d (iL ins)] h) Q := by
  refine call_rule (k := k + 31) L rfl ?_
  simp [d__law_due, startE, primM, line]
  refine lfirst_run (k := k + 30) La g hi ?_
  simp [line]
  have hw0 := fst_wk g hi
  generalize hW : fst p ins = W at *
  obtain ⟨I, hI⟩ : ∃ I : Nat → Ee → Hh → Prop, I = fun m e h' => ∃ (t : Nat) (z5 z6 z7 : Option PV), m = 4000001 - t ∧ (∀ i, i < t → ¬ Stop p W i) ∧ h' = h ++ [.dcn (metN p W t)] ∧
    e = [some (.d p.d), some (.d (iL ins)), some (.cell h.length), some (.d (.tuple [.int (pj p W t), iL (pw p W t)])), some (.d (iL (ps p W t))), z5, z6, z7] := ⟨_, rfl⟩
  refine whl_rule I ?_ _ 4000001 _ _ (by unfold fuel; omega) ?_
  · intro m e h' hii
    rw [hI] at hii
    obtain ⟨t, z5, z6, z7, rfl, hs, rfl, rfl⟩ := hii
    have ht := few_steps g hw0 (distinct hs)
    obtain ⟨hj, hw, hsl⟩ := pth_ok g hw0 t
    have ky := keyN_st (pj p W t) (pw p W t)
    have lk : (h ++ [Cl.dcn (metN p W t)])[h.length]? = some (.dcn (metN p W t)) := by simp
    have inm := P_in_dcn (h ++ [Cl.dcn (metN p W t)]) (neg := true) lk ky
    have ln : (metN p W t).length ≤ 16777216 := by
      rw [metN_len]
      omega
    have ln2 : (metN p W t).length < 16777216 := by
      rw [metN_len]
      omega
    have mtl := metN_len p W t
    have hsl2 : (ps p W t).length ≤ 16777216 := Nat.le_trans hsl (by omega)
    simp [line, primM]
    cases hr : rnd p W t with
    | none =>
      have hn := rnd_none hr
      have ng : nget (metN p W t) (sk (pj p W t) (pw p W t)) = none := nget_none hn
      rw [ng] at inm
      simp [primM, inm, ln, line]
      have e2 := P_putC_dcn (h ++ [Cl.dcn (metN p W t)]) (kvs := metN p W t) (n := h.length) (x := .tuple [.int (metN p W t).length, .int (ps p W t).length]) ky
      simp [e2, line, ln2]
      have mn := metN_next hn
      rw [show (metN p W t).length = t from mtl]
      have mn2 : nset (metN p W t) (sk (pj p W t) (pw p W t)) (.tuple [.int t, .int (ps p W t).length]) = metN p W (t + 1) := mn
      rw [mn2]
      refine lstepP_run (k := k) Lb L2 L5 L6 g hw hj ?_
      cases es : stp p (pj p W t) (pw p W t) with
      | none =>
        have F : First p W t := ⟨.inl es, hs⟩
        have ln3 : (metN p W (t + 1)).length ≤ 16777216 := by
          rw [metN_len]
          omega
        have q := q t F ht
        unfold resD at q
        rw [hr] at q
        have ht3 : t ≤ 16777215 := by omega
        simp [stD, primM, isNone, ln3, line, metN_len, ht3]
        exact q
      | some v =>
        obtain ⟨l, j', ws'⟩ := v
        obtain ⟨_, _, hl1⟩ := stp_ok g hw es
        have hb : (ps p W t).length + l.length ≤ 16777216 := by omega
        simp [stD, primM, isNone, hb, line]
        refine ⟨4000001 - (t + 1), by omega, ?_⟩
        rw [hI]
        have hns : ¬ Stop p W t := by
          rintro (z | ⟨i, hi, z⟩)
          · rw [z] at es
            cases es
          · exact hn i hi z
        have en := pth_some (p := p) (W := W) (n := t) es
        have ej : pj p W (t + 1) = j' := by
          unfold pj
          rw [en]
        have ew : pw p W (t + 1) = ws' := by
          unfold pw
          rw [en]
        have ey : ps p W (t + 1) = ps p W t ++ l := by
          show (pth p W (t + 1)).2.2 = _
          rw [en]
        refine ⟨t + 1, some (.d (.tuple [iL l, .int j', iL ws'])), z6, z7, rfl, fun i hi => ?_, rfl, ?_⟩
        · by_cases c : i = t
          · subst c
            exact hns
          · exact hs i (by omega)
        · rw [ej, ew, ey]
          unfold iL
          rw [List.map_append]
    | some i =>
      have ng : nget (metN p W t) (sk (pj p W t) (pw p W t)) = some (.tuple [.int i, .int (ps p W i).length]) := nget_rnd hs hr
      rw [ng] at inm
      obtain ⟨hi1, hk⟩ := rnd_some hr
      have F : First p W t := ⟨.inr ⟨i, hi1, hk⟩, hs⟩
      have hc := ps_mono p W (Nat.le_of_lt hi1)
      have ex := P_idxC_dcn (h ++ [Cl.dcn (metN p W t)]) (kvs := metN p W t) ky
      rw [ng] at ex
      have q := q t F ht
      unfold resD at q
      rw [hr] at q
      replace q : Q (.d (.tuple [iL ((ps p W t).take (ps p W i).length), iL ((ps p W t).drop (ps p W i).length), .int i])) h := q
      have l1 : ((ps p W t).take (ps p W i).length).length ≤ 16777216 := by
        rw [List.length_take]
        omega
      have l2 : ((ps p W t).drop (ps p W i).length).length ≤ 16777216 := by
        rw [List.length_drop]
        omega
      have s1 : ∀ H : Hh, slcM false (.d (iL (ps p W t))) none (some ((ps p W i).length : Int)) H = mkL false (((ps p W t).take (ps p W i).length).map .int) H := fun H => by
        unfold slcM
        simp [cut_take]
      have s2 : ∀ H : Hh, slcM false (.d (iL (ps p W t))) (some ((ps p W i).length : Int)) none H = mkL false (((ps p W t).drop (ps p W i).length).map .int) H := fun H => by
        unfold slcM
        simp [cut_drop hc]
      generalize (ps p W t).take (ps p W i).length = T1 at *
      generalize (ps p W t).drop (ps p W i).length = T2 at *
      simp [primM, inm, ex, sT, setT, setTs, line, s1, s2, l1, l2]
      exact q
  · rw [hI]
    exact ⟨0, none, none, none, rfl, fun i hi => by omega, rfl, rfl⟩
end
theorem sh_res (p : Pg) (W : List Int) (t : Nat) : Sh 2 (resD p W t) := by
  unfold resD
  cases rnd p W t with
  | none =>
    refine .tup fun d hd => ?_
    simp only [List.mem_cons, List.not_mem_nil, or_false] at hd
    rcases hd with rfl | rfl | rfl
    · exact sh_il _
    · exact ⟨rfl, Nat.zero_le _⟩
    · exact .int _ _
  | some i =>
    refine .tup fun d hd => ?_
    simp only [List.mem_cons, List.not_mem_nil, or_false] at hd
    rcases hd with rfl | rfl | rfl
    · exact sh_il _
    · exact sh_il _
    · exact .int _ _
/-! ### lesser boxes -/
def lessB (m : Int) (bs : Bs) : Bs := bs.map fun b => (b.1, if m < b.2 then m else b.2)
def mostOf (n : Nat) : Int := [4, 4, 4, 3, 2].getD n 2
def lessP (p : Pg) : Pg := ⟨lessB (mostOf p.bs.length) p.bs, p.ins, p.nds⟩
theorem less_names (m : Int) (bs : Bs) : (lessB m bs).map (·.1) = bs.map (·.1) := by
  unfold lessB
  rw [List.map_map]
  rfl
theorem less_pw {p : Pg} (g : Pw p) : Pw (lessP p) := by
  have hn : (lessP p).names = p.names := less_names _ _
  have m0 : 1 ≤ mostOf p.bs.length ∧ mostOf p.bs.length ≤ 16 := by
    have := g.bx.len
    have c : p.bs.length = 0 ∨ p.bs.length = 1 ∨ p.bs.length = 2 ∨ p.bs.length = 3 ∨ p.bs.length = 4 := by omega
    rcases c with c | c | c | c | c <;> rw [c] <;> decide
  refine ⟨⟨?_, ?_, fun b hb => ?_⟩, ?_, g.ind, g.il, g.n0, g.n1, ?_⟩
  · have := g.bx.sub
    show ((lessB _ p.bs).map (·.1)).Nodup ∧ ∀ x ∈ (lessB _ p.bs).map (·.1), PyData.strOk x = true
    rw [less_names]
    exact this
  · show (lessB _ p.bs).length ≤ 4
    unfold lessB
    rw [List.length_map]
    exact g.bx.len
  · obtain ⟨c, hc, rfl⟩ := List.mem_map.mp hb
    have := g.bx.sz c hc
    show 1 ≤ (if mostOf p.bs.length < c.2 then mostOf p.bs.length else c.2) ∧ (if mostOf p.bs.length < c.2 then mostOf p.bs.length else c.2) ≤ 16
    split <;> omega
  · rw [hn]
    exact g.ins
  · rw [hn]
    exact g.nd
theorem lessened_run {D : Defs} (L : D.lookup "_law_lessened" = some d__law_lessened) {k : Nat} {h : Hh} {p : Pg} (g : Pw p) {Q : PV → Hh → Prop} (q : Q (.d (lessP p).d) h) :
    wp (callN D (k + 1) "_law_lessened" [.d p.d] h) Q := by
  have hb := g.bx.len
  have bl : (bD p.bs).length = p.bs.length := by simp [bD]
  have at5 : ati [PyData.int 4, .int 4, .int 4, .int 3, .int 2] (p.bs.length : Int) = some (.int (mostOf p.bs.length)) := by
    have c : p.bs.length = 0 ∨ p.bs.length = 1 ∨ p.bs.length = 2 ∨ p.bs.length = 3 ∨ p.bs.length = 4 := by omega
    rcases c with c | c | c | c | c <;> rw [c] <;> rfl
  refine call_rule (k := k) L rfl ?_
  simp [d__law_lessened, startE, primM, line, Pg.d, bl, at5, wipeE]
  have q2 : Q (.d (.tuple [.list (bD (lessB (mostOf p.bs.length) p.bs)), nL p.ins, .list (p.nds.map Nd.d)])) h := q
  generalize mostOf p.bs.length = m at *
  refine wp_mono (comp_rule (fun r acc h' => ∃ bs' : Bs, r = (bD bs').map .d ∧ acc ++ bD (lessB m bs') = bD (lessB m p.bs) ∧ h' = h) (Q := fun acc h' => acc = bD (lessB m p.bs) ∧ h' = h) ?_ ?_ _ [] h ⟨p.bs, rfl, rfl, rfl⟩) ?_
  · rintro v r acc h' ⟨bs', e1, e2, rfl⟩
    cases bs' with
    | nil => simp [bD] at e1
    | cons b bs' =>
      simp [bD] at e1
      obtain ⟨rfl, rfl⟩ := e1
      simp [sT, setT, setTs, primM, line]
      exact ⟨bs', by simp [bD], by rw [← e2]; simp [bD, lessB]⟩
  · rintro acc h' ⟨bs', e1, e2, rfl⟩
    cases bs' with
    | nil =>
      simp [bD, lessB] at e2
      exact ⟨by rw [e2]; simp [bD, lessB], rfl⟩
    | cons b bs' => simp [bD] at e1
  · rintro ds h' ⟨e1, rfl⟩
    rw [List.nil_append] at e1
    subst e1
    have l3 : (bD (lessB m p.bs)).length ≤ 16777216 := by
      simp [bD, lessB]
      omega
    simp [line, l3]
    exact q2
end PL.A

set_option maxRecDepth 100000
set_option maxHeartbeats 1000000
/-! PE1: what is wanted behind, where something may be raised. -/
namespace PL
open PySem
def wx {α : Type} (m : Out α) (Q : α → Hh → Prop) (X : String → Hh → Prop) : Prop := match m with
  | .ok a h => Q a h
  | .exn c h => X c h
  | .stuck => False
def wsx (r : Res) (Z : Zs) (X : String → Ee → Hh → Prop) : Prop := match r with
  | .next e h => Z.nx e h
  | .ret v h => Z.rt v h
  | .brk e h => Z.bk e h
  | .cnt e h => Z.ct e h
  | .exn c e h => X c e h
  | .stuck => False
@[simp ↓] theorem wx_ok {α : Type} {a : α} {h : Hh} {Q : α → Hh → Prop} {X : String → Hh → Prop} : wx (.ok a h) Q X = Q a h := rfl
theorem wx_of {α : Type} {m : Out α} {Q : α → Hh → Prop} {X : String → Hh → Prop} (w : wp m Q) : wx m Q X := by
  cases m with
  | ok a h => exact w
  | exn c h => exact w.elim
  | stuck => exact w
theorem wsx_of {r : Res} {Z : Zs} {X : String → Ee → Hh → Prop} (w : ws r Z) : wsx r Z X := by
  cases r with
  | next e h => exact w
  | ret v h => exact w
  | brk e h => exact w
  | cnt e h => exact w
  | exn c e h => exact w.elim
  | stuck => exact w
theorem wx_mono {α : Type} {m : Out α} {Q Q' : α → Hh → Prop} {X X' : String → Hh → Prop} (w : wx m Q X) (i : ∀ a h, Q a h → Q' a h) (j : ∀ c h, X c h → X' c h) : wx m Q' X' := by
  cases m with
  | ok a h => exact i _ _ w
  | exn c h => exact j _ _ w
  | stuck => exact w
theorem wsx_mono {r : Res} {Z Z' : Zs} {X X' : String → Ee → Hh → Prop} (w : wsx r Z X) (n : ∀ e h, Z.nx e h → Z'.nx e h) (t : ∀ v h, Z.rt v h → Z'.rt v h) (b : ∀ e h, Z.bk e h → Z'.bk e h) (c : ∀ e h, Z.ct e h → Z'.ct e h) (x : ∀ d e h, X d e h → X' d e h) : wsx r Z' X' := by
  cases r with
  | next e h => exact n _ _ w
  | ret v h => exact t _ _ w
  | brk e h => exact b _ _ w
  | cnt e h => exact c _ _ w
  | exn d e h => exact x _ _ _ w
  | stuck => exact w
/-- it is raised, for sure -/
theorem wx_exn {α : Type} {m : Out α} {c : String} {h : Hh} (w : wx m (fun _ _ => False) (fun d h1 => d = c ∧ h1 = h)) : m = .exn c h := by
  cases m with
  | ok a h1 => exact w.elim
  | exn d h1 =>
    obtain ⟨rfl, rfl⟩ := w
    rfl
  | stuck => exact w.elim
theorem wx_res {α : Type} {m : Out α} {e : Ee} {f : α → Hh → Res} {Z : Zs} {X : String → Ee → Hh → Prop} : wsx (m.res e f) Z X = wx m (fun a h => wsx (f a h) Z X) (fun c h => X c e h) := by
  cases m <;> rfl
theorem wx_bind {α β : Type} {m : Out α} {f : α → Hh → Out β} {Q : β → Hh → Prop} {X : String → Hh → Prop} : wx (m.bind f) Q X = wx m (fun a h => wx (f a h) Q X) X := by
  cases m <;> rfl
@[simp ↓] theorem wx_strict {α : Type} {m : Out α} {Q : α → Hh → Prop} {X : String → Hh → Prop} : wx (strict m) Q X = wp m Q := by
  cases m <;> rfl
section
variable (Φ : String → List PV → Hh → Out PV)
@[simp ↓] theorem X_nil (e : Ee) (h : Hh) (Z : Zs) (X : String → Ee → Hh → Prop) : wsx (exs Φ .nil e h) Z X = Z.nx e h := by simp only [exs, wsx]
@[simp ↓] theorem X_cons (s : S) (r : Ss) (e : Ee) (h : Hh) (Z : Zs) (X : String → Ee → Hh → Prop) : wsx (exs Φ (.cons s r) e h) Z X = wsx (ex Φ s e h) { Z with nx := fun e1 h1 => wsx (exs Φ r e1 h1) Z X } X := by
  simp only [exs]
  cases ex Φ s e h <;> rfl
@[simp ↓] theorem X_raise (c : String) (e : Ee) (h : Hh) (Z : Zs) (X : String → Ee → Hh → Prop) : wsx (ex Φ (.raise c) e h) Z X = X c e h := by simp only [ex, wsx]
@[simp ↓] theorem X_expr (a : E) (e : Ee) (h : Hh) (Z : Zs) (X : String → Ee → Hh → Prop) : wsx (ex Φ (.expr a) e h) Z X = wx (evX Φ a e h) (fun _ h1 => Z.nx e h1) (fun c h1 => X c e h1) := by
  simp only [ex]
  exact wx_res
@[simp ↓] theorem X_asg (i : Nat) (a : E) (e : Ee) (h : Hh) (Z : Zs) (X : String → Ee → Hh → Prop) : wsx (ex Φ (.asg (.nm i) a) e h) Z X = wx (evX Φ a e h) (fun v h1 => Z.nx (e.set i (some v)) h1) (fun c h1 => X c e h1) := by
  simp only [ex, setT]
  exact wx_res
@[simp ↓] theorem X_asgT (ts : List Tg) (a : E) (e : Ee) (h : Hh) (Z : Zs) (X : String → Ee → Hh → Prop) : wsx (ex Φ (.asg (.tup ts) a) e h) Z X = wx (evX Φ a e h) (fun v h1 => sT (.tup ts) e v fun e1 => Z.nx e1 h1) (fun c h1 => X c e h1) := by
  simp only [ex, wx_res]
  congr
  funext v h1
  unfold sT
  cases setT (.tup ts) e v <;> rfl
@[simp ↓] theorem X_ret (a : E) (e : Ee) (h : Hh) (Z : Zs) (X : String → Ee → Hh → Prop) : wsx (ex Φ (.ret a) e h) Z X = wx (evX Φ a e h) (fun v h1 => Z.rt v h1) (fun c h1 => X c e h1) := by
  simp only [ex]
  exact wx_res
@[simp ↓] theorem X_ite (c : E) (a b : Ss) (e : Ee) (h : Hh) (Z : Zs) (X : String → Ee → Hh → Prop) : wsx (ex Φ (.ite c a b) e h) Z X = wp (ev Φ c e h) fun v h1 => wp (asB v h1) fun k h2 => (k = true → wsx (exs Φ a e h2) Z X) ∧ (k = false → wsx (exs Φ b e h2) Z X) := by
  simp only [ex, wx_res, wx_strict, wp_bind]
  congr
  funext v h1
  congr
  funext k h2
  cases k <;> simp
@[simp ↓] theorem X_for (t : Tg) (it : It) (b : Ss) (e : Ee) (h : Hh) (Z : Zs) (X : String → Ee → Hh → Prop) : wsx (ex Φ (.for_ t it b) e h) Z X = wp (evIt Φ it e h) fun s h1 => wsx (forS t (fun e1 h2 => exs Φ b e1 h2) s e h1) Z X := by
  simp only [ex, wx_res, wx_strict]
/-- what is caught -/
@[simp ↓] theorem X_try (i : Nat) (cl : String) (xs : List String) (b hs : Ss) (e : Ee) (h : Hh) (Z : Zs) : ws (ex Φ (.try_ i cl xs b hs) e h) Z = wsx (exs Φ b e h) Z fun c e1 h1 => xs.contains c = true ∧ isSub c cl = true ∧
    ws (exs Φ hs (e1.set i (some (.exc c))) h1) { nx := fun e2 h2 => Z.nx (e2.set i none) h2, rt := Z.rt, bk := fun e2 h2 => Z.bk (e2.set i none) h2, ct := fun e2 h2 => Z.ct (e2.set i none) h2 } := by
  simp only [ex]
  cases exs Φ b e h with
  | exn c e1 h1 =>
    simp only [wsx]
    by_cases h1 : xs.contains c = true
    · rw [if_pos h1]
      by_cases h2 : isSub c cl = true
      · rw [if_pos h2]
        simp only [h1, h2, true_and]
        cases exs Φ hs (e1.set i (some (.exc c))) _ <;> rfl
      · rw [if_neg h2]
        simp [h2]
    · rw [if_neg h1]
      simp
      simp at h1
      exact fun z => absurd z h1
  | _ => rfl
@[simp ↓] theorem E_call (f : String) (a : E) (r : Es) (e : Ee) (h : Hh) (Q : PV → Hh → Prop) (X : String → Hh → Prop) : wx (evX Φ (.call f (.cons a r)) e h) Q X = wx (evsX Φ (.cons a r) e h) (fun vs h2 => wx (Φ f vs h2) Q X) X := by
  rw [evX_call]
  exact wx_bind
@[simp ↓] theorem E_nil (e : Ee) (h : Hh) (Q : List PV → Hh → Prop) (X : String → Hh → Prop) : wx (evsX Φ .nil e h) Q X = Q [] h := by simp only [evsX, wx]
@[simp ↓] theorem E_cons (a : E) (r : Es) (e : Ee) (h : Hh) (Q : List PV → Hh → Prop) (X : String → Hh → Prop) : wx (evsX Φ (.cons a r) e h) Q X = wx (evX Φ a e h) (fun v h1 => wx (evsX Φ r e h1) (fun vs h2 => Q (v :: vs) h2) X) X := by
  simp only [evsX]
  rw [wx_bind]
  congr
  funext v h1
  rw [wx_bind]
  rfl
@[simp ↓] theorem E_var (i : Nat) (e : Ee) (h : Hh) (Q : PV → Hh → Prop) (X : String → Hh → Prop) : wx (evX Φ (.var i) e h) Q X = wp (ev Φ (.var i) e h) Q := by
  rw [evX_plain rfl, wx_strict]
@[simp ↓] theorem E_prim (p : Prim) (es : Es) (e : Ee) (h : Hh) (Q : PV → Hh → Prop) (X : String → Hh → Prop) : wx (evX Φ (.prim p es) e h) Q X = wp (ev Φ (.prim p es) e h) Q := by
  rw [evX_plain rfl, wx_strict]
@[simp ↓] theorem E_comp (a : Bool) (b : List Nat) (t : Tg) (i : It) (c : Es) (x : E) (e : Ee) (h : Hh) (Q : PV → Hh → Prop) (X : String → Hh → Prop) : wx (evX Φ (.comp a b t i c x) e h) Q X = wp (ev Φ (.comp a b t i c x) e h) Q := by
  rw [evX_plain rfl, wx_strict]
@[simp ↓] theorem E_not (x : E) (e : Ee) (h : Hh) (Q : PV → Hh → Prop) (X : String → Hh → Prop) : wx (evX Φ (.not x) e h) Q X = wp (ev Φ (.not x) e h) Q := by
  rw [evX_plain rfl, wx_strict]
@[simp ↓] theorem E_and (x : Es) (e : Ee) (h : Hh) (Q : PV → Hh → Prop) (X : String → Hh → Prop) : wx (evX Φ (.and x) e h) Q X = wp (ev Φ (.and x) e h) Q := by
  rw [evX_plain rfl, wx_strict]
@[simp ↓] theorem E_or (x : Es) (e : Ee) (h : Hh) (Q : PV → Hh → Prop) (X : String → Hh → Prop) : wx (evX Φ (.or x) e h) Q X = wp (ev Φ (.or x) e h) Q := by
  rw [evX_plain rfl, wx_strict]
@[simp ↓] theorem E_orv (x y : E) (e : Ee) (h : Hh) (Q : PV → Hh → Prop) (X : String → Hh → Prop) : wx (evX Φ (.orv x y) e h) Q X = wp (ev Φ (.orv x y) e h) Q := by
  rw [evX_plain rfl, wx_strict]
@[simp ↓] theorem E_ite (a b c : E) (e : Ee) (h : Hh) (Q : PV → Hh → Prop) (X : String → Hh → Prop) : wx (evX Φ (.ite a b c) e h) Q X = wp (ev Φ (.ite a b c) e h) Q := by
  rw [evX_plain rfl, wx_strict]
@[simp ↓] theorem E_meth (p : Prim) (o : E) (es : Es) (e : Ee) (h : Hh) (Q : PV → Hh → Prop) (X : String → Hh → Prop) : wx (evX Φ (.meth p o es) e h) Q X = wp (ev Φ (.meth p o es) e h) Q := by
  rw [evX_plain rfl, wx_strict]
@[simp ↓] theorem E_chain (p q : Prim) (a b c : E) (e : Ee) (h : Hh) (Q : PV → Hh → Prop) (X : String → Hh → Prop) : wx (evX Φ (.chain p q a b c) e h) Q X = wp (ev Φ (.chain p q a b c) e h) Q := by
  rw [evX_plain rfl, wx_strict]
@[simp ↓] theorem E_call0 (f : String) (e : Ee) (h : Hh) (Q : PV → Hh → Prop) (X : String → Hh → Prop) : wx (evX Φ (.call f .nil) e h) Q X = wp (ev Φ (.call f .nil) e h) Q := by
  rw [evX_plain rfl, wx_strict]
@[simp ↓] theorem E_cst (d : PyData) (e : Ee) (h : Hh) (Q : PV → Hh → Prop) (X : String → Hh → Prop) : wx (evX Φ (.cst d) e h) Q X = Q (.d d) h := by
  rw [evX_plain rfl, wx_strict, V_cst]
@[simp ↓] theorem E_frz (a : E) (e : Ee) (h : Hh) (Q : PV → Hh → Prop) (X : String → Hh → Prop) : wx (evX Φ (.frz a) e h) Q X = wx (evX Φ a e h) (fun v h1 => wp (frzM v h1) Q) X := by
  simp only [evX, wx_bind]
  congr
  funext v h1
  cases q : frzM v h1 with
  | ok a h => rfl
  | stuck => rfl
  | exn c h2 =>
    exfalso
    unfold frzM at q
    split at q
    · cases q
    · split at q <;> cases q
    · cases q3 : frzs _ h1 with
      | ok ds h3 => rw [q3] at q; cases q
      | exn c3 h3 => exact frzs_exn _ _ q3
      | stuck => rw [q3] at q; cases q
    · cases q
    · cases q
theorem for_ruleX {t : Tg} {body : Ee → Hh → Res} {Z : Zs} {X : String → Ee → Hh → Prop} (I : List PV → Ee → Hh → Prop) (hs : ∀ v r e h, I (v :: r) e h → sT t e v fun e1 => wsx (body e1 h) { nx := I r, rt := Z.rt, bk := Z.nx, ct := I r } X) (hd : ∀ e h, I [] e h → Z.nx e h) :
    ∀ (vs : List PV) (e : Ee) (h : Hh), I vs e h → wsx (forL t body vs e h) Z X
  | [], e, h, i => by
    unfold forL
    exact hd e h i
  | v :: r, e, h, i => by
    have q := hs v r e h i
    unfold forL
    unfold sT at q
    split at q
    · rename_i e1 he
      rw [he]
      revert q
      cases hb : body e1 h with
      | next e2 h2 => exact fun q => by simp only [hb]; exact for_ruleX I hs hd r e2 h2 q
      | cnt e2 h2 => exact fun q => by simp only [hb]; exact for_ruleX I hs hd r e2 h2 q
      | brk e2 h2 => exact fun q => by simp only [hb]; exact q
      | ret v2 h2 => exact fun q => by simp only [hb]; exact q
      | exn c e2 h2 => exact fun q => by simp only [hb]; exact q
      | stuck => exact fun q => q.elim
    · exact q.elim
theorem forC_keepX {t : Tg} {body : Ee → Hh → Res} {Z : Zs} {X : String → Ee → Hh → Prop} {m : Nat} {ds : List PyData} {h : Hh} (hm : h[m]? = some (.lst ds)) (I : List PyData → Ee → Prop)
    (hs : ∀ d r e, I (d :: r) e → sT t e (.d d) fun e1 => wsx (body e1 h) { nx := fun e2 h2 => h2 = h ∧ I r e2, rt := Z.rt, bk := Z.nx, ct := fun e2 h2 => h2 = h ∧ I r e2 } X) (hd : ∀ e, I [] e → Z.nx e h) :
    ∀ {k a : Nat} {e : Ee}, a ≤ ds.length → ds.length < k + a → I (ds.drop a) e → wsx (forC t body m k a e h) Z X := by
  intro k
  induction k with
  | zero =>
    intro a e h1 h2
    omega
  | succ k ih =>
    intro a e h1 h2 i
    unfold forC
    simp only [hm]
    by_cases hlt : a < ds.length
    · rw [List.getElem?_eq_getElem hlt]
      rw [List.drop_eq_getElem_cons hlt] at i
      have q1 := hs _ _ _ i
      unfold sT at q1
      simp only []
      split at q1
      · rename_i e1 he
        simp only [he]
        revert q1
        cases hb : body e1 h with
        | next e2 h2 => exact fun ⟨eh, q⟩ => by subst eh; exact ih hlt (by omega) q
        | cnt e2 h2 => exact fun ⟨eh, q⟩ => by subst eh; exact ih hlt (by omega) q
        | brk e2 h2 => exact fun q => q
        | ret v2 h2 => exact fun q => q
        | exn c e2 h2 => exact fun q => q
        | stuck => exact fun q => q.elim
      · exact q1.elim
    · rw [List.getElem?_eq_none (by omega)]
      rw [List.drop_eq_nil_of_le (by omega)] at i
      exact hd e i
theorem for_keepX {t : Tg} {body : Ee → Hh → Res} {Z : Zs} {X : String → Ee → Hh → Prop} {v : PV} {ds : List PyData} {h : Hh} {e : Ee} (q : Hs v h ds) (hl : ds.length ≤ line) (I : List PyData → Ee → Prop)
    (hs : ∀ d r e, I (d :: r) e → sT t e (.d d) fun e1 => wsx (body e1 h) { nx := fun e2 h2 => h2 = h ∧ I r e2, rt := Z.rt, bk := Z.nx, ct := fun e2 h2 => h2 = h ∧ I r e2 } X) (hd : ∀ e, I [] e → Z.nx e h) (i : I ds e) :
    wp (seqS v h) fun s h1 => wsx (forS t body s e h1) Z X := by
  rcases q with rfl | ⟨n, rfl, en⟩
  · show wsx (forL t body (ds.map .d) e h) Z X
    refine for_ruleX (fun r e2 h2 => h2 = h ∧ ∃ es : List PyData, r = es.map .d ∧ I es e2) ?_ ?_ _ _ _ ⟨rfl, ds, rfl, i⟩
    · rintro v r e2 h2 ⟨rfl, es, er, i⟩
      cases es with
      | nil => cases er
      | cons d es =>
        simp at er
        obtain ⟨rfl, rfl⟩ := er
        have q1 := hs d es e2 i
        unfold sT at *
        split at q1
        · exact wsx_mono q1 (fun e3 h3 ⟨eh, q⟩ => ⟨eh, es, rfl, q⟩) (fun _ _ q => q) (fun _ _ q => q) (fun e3 h3 ⟨eh, q⟩ => ⟨eh, es, rfl, q⟩) (fun _ _ _ q => q)
        · exact q1.elim
    · rintro e2 h2 ⟨rfl, es, er, i⟩
      cases es with
      | nil => exact hd e2 i
      | cons d es => simp at er
  · have e1 : seqS (.cell n) h = .ok (.cell n) h := by
      unfold seqS
      simp only [en]
    rw [e1, wp_ok]
    exact forC_keepX en I hs hd (Nat.zero_le _) (by omega) i
end
/-- a call -/
theorem call_ruleX {D : Defs} {k : Nat} {f : String} {df : Def} {vs : List PV} {h : Hh} {Q : PV → Hh → Prop} {X : String → Hh → Prop} (hl : D.lookup f = some df) (hn : vs.length = df.ps.length)
    (w : wsx (exs (callN D k) df.body (startE df.N vs) h) { nx := fun _ h1 => Q (.d .none) (h1.take h.length), rt := fun v h1 => wx (pack h.length v h1) Q X } fun c _ h1 => X c (h1.take h.length)) : wx (callN D (k + 1) f vs h) Q X := by
  unfold callN
  rw [hl]
  simp only [hn, if_true]
  revert w
  cases exs (callN D k) df.body (startE df.N vs) h <;> exact fun w => w
end PL

set_option maxRecDepth 100000
set_option maxHeartbeats 2000000
/-! PE2: the boxes that are named, all of them; what is no program. -/
namespace PL.A
open PySem PL
def Sm.bxs : Sm → List Str
  | .num _ => []
  | .box x => [x]
  | .plus a b => a.bxs ++ b.bxs
  | .less a b => a.bxs ++ b.bxs
def Cn.bxs : Cn → List Str
  | .yes => []
  | .not c => c.bxs
  | .both a b => a.bxs ++ b.bxs
  | .same a b => a.bxs ++ b.bxs
  | .under a b => a.bxs ++ b.bxs
def Tm.bxs : Tm → List Str
  | .su s => s.bxs
  | .co c => c.bxs
section
variable {D : Defs}
theorem named_runE (L : D.lookup "boxes_named" = some d_boxes_named) {names : List Str} (hN : Nm names) {h : Hh} {N k : Nat} (hN2 : N ≤ 20) {s : Tm} {Q : PV → Hh → Prop} (g : s.good names N) (q : ∀ bx : List Str, (∀ y, y ∈ bx ↔ y ∈ s.bxs) → bx.length < 2 ^ 22 → Q (.d (nL bx)) h) :
    wp (callN D (k + 1) "boxes_named" [.d s.d] h) Q := by
  refine call_rule L rfl ?_
  simp [d_boxes_named, startE, primM, line]
  obtain ⟨I, hI⟩ : ∃ I : Nat → Ee → Hh → Prop, I = fun m e h2 => ∃ (ss : List Tm) (bx : List Str) (z : Option PV), e = [some (.d s.d), some (.cell h.length), some (.cell (h.length + 1)), z, none] ∧ h2.take h.length = h ∧ h.length + 2 ≤ h2.length ∧ h2[h.length]? = some (.lst (bx.map .str)) ∧ h2[h.length + 1]? = some (.lst (ss.map Tm.d)) ∧ (∀ y, y ∈ s.bxs ↔ y ∈ bx ∨ ∃ t ∈ ss, y ∈ t.bxs) ∧ (∀ t ∈ ss, t.good names N) ∧ m = szsT ss ∧ bx.length + szsT ss < 2 ^ 22 := ⟨_, rfl⟩
  have hs := szT_good g
  have hp : 2 ^ (N + 1) ≤ 2 ^ 22 := Nat.pow_le_pow_right (by decide) (by omega)
  refine whl_rule I ?_ _ s.sz _ _ (by unfold fuel; omega) ?_
  · intro m e h2 hi
    rw [hI] at hi
    obtain ⟨ss, bx, z, rfl, e1, e2, a2, b2, hb, hss, rfl, hc⟩ := hi
    have shp : ok2 (.list (ss.map Tm.d)) (.list []) = true := ok2_l ((Sh.list (n := N + 1) fun d hd => by
      obtain ⟨t, ht, rfl⟩ := List.mem_map.mp hd
      exact sh_tm hN (hss t ht)).shaped (by omega)) (by decide)
    simp [primM, b2, shp, eqv_nil, line]
    refine ⟨fun ne => ?_, fun hz => ?_⟩
    · obtain ⟨r, t, rfl⟩ : ∃ r t, ss = r ++ [t] := by
        rcases List.eq_nil_or_concat ss with z | ⟨r, t, z⟩
        · exact absurd z ne
        · exact ⟨r, t, by rw [z, List.concat_eq_append]⟩
      have ht := hss t (by simp)
      have hr : ∀ u ∈ r, u.good names N := fun u hu => hss u (List.mem_append_left _ hu)
      have hsz : szsT (r ++ [t]) = szsT r + t.sz := by
        rw [szsT_app]
        simp [szsT]
      have hrl := szsT_len r
      have l2 : h.length + 1 < h2.length := by omega
      have l1 : h.length < h2.length := by omega
      simp [b2, mTy]
      have a3 : (h2.set (h.length + 1) (.lst (r.map Tm.d)))[h.length]? = some (.lst (bx.map .str)) := by
        rw [List.getElem?_set_ne (by omega)]
        exact a2
      have b3 : (h2.set (h.length + 1) (.lst (r.map Tm.d)))[h.length + 1]? = some (.lst (r.map Tm.d)) := List.getElem?_set_self l2
      have e3 : (h2.set (h.length + 1) (.lst (r.map Tm.d))).take h.length = h := by
        rw [take_set' (by omega), e1]
      have e4 : (h2.set (h.length + 1) (.lst (r.map Tm.d))).length = h2.length := List.length_set
      generalize h2.set (h.length + 1) (.lst (r.map Tm.d)) = h3 at *
      rcases t with (i | x | ⟨a, b⟩ | ⟨a, b⟩) | (_ | c | ⟨a, b⟩ | ⟨a, b⟩ | ⟨a, b⟩)
      · skip
        have hrl2 : r.length ≤ 16777216 := by omega
        have hz1 := szT_pos (.su (.num i))
        simp [Tm.d, Sm.d, Cn.d, primM, b3, line, hrl2, mTy, cut1, compL, sT, setT, wipeE, isTyD, tyD]
        refine ⟨szsT r, by omega, ?_⟩
        rw [hI]
        refine ⟨r, bx, _, rfl, by rw [take_set' (by omega), e3], by rw [List.length_set]; omega, ?_, ?_, fun y => by rw [hb y]; simp [Tm.bxs, Sm.bxs, Cn.bxs, or_and_right, exists_or, or_assoc, or_comm, or_left_comm], hr, rfl, ?_⟩
        · rw [List.getElem?_set_ne (by omega)]
          exact a3
        · rw [List.getElem?_set_self (by omega)]
        · omega
      · skip
        have hbl : bx.length < 16777216 := by omega
        simp [Tm.d, Sm.d, primM, a3, line, hbl, mTy]
        refine ⟨szsT r, by rw [hsz]; have := szT_pos (.su (.box x)); omega, ?_⟩
        rw [hI]
        refine ⟨r, bx ++ [x], _, rfl, by rw [take_set' (Nat.le_refl _), e3], by rw [List.length_set]; omega, ?_, ?_, ?_, hr, rfl, ?_⟩
        · rw [List.getElem?_set_self (by omega), List.map_append]
          rfl
        · rw [List.getElem?_set_ne (by omega)]
          exact b3
        · intro y
          rw [hb y]
          simp [Tm.bxs, Sm.bxs, Cn.bxs, or_and_right, exists_or, or_assoc, or_comm, or_left_comm]
        · have : (Tm.su (Sm.box x)).sz = 1 := rfl
          rw [List.length_append, List.length_singleton]
          omega
      · skip
        have hab : (Tm.sz (.su (.plus a b))) = (Tm.su a).sz + (Tm.su b).sz + 1 := rfl
        have hs2 : szsT (r ++ [Tm.su a, Tm.su b]) = szsT r + ((Tm.su a).sz + (Tm.su b).sz) := by
          rw [szsT_app]
          simp [szsT]
        have pa := szT_pos (Tm.su a)
        have pb := szT_pos (Tm.su b)
        have hrl2 : r.length + 2 ≤ 16777216 := by omega
        simp [Tm.d, Sm.d, Cn.d, primM, b3, line, hrl2, mTy, cut1, compL, sT, setT, wipeE, isTup_sm, isTup_cn]
        refine ⟨szsT (r ++ [Tm.su a, Tm.su b]), by omega, ?_⟩
        rw [hI]
        refine ⟨r ++ [Tm.su a, Tm.su b], bx, _, rfl, by rw [take_set' (by omega), e3], by rw [List.length_set]; omega, ?_, ?_, fun y => by rw [hb y]; simp [Tm.bxs, Sm.bxs, Cn.bxs, or_and_right, exists_or, or_assoc, or_comm, or_left_comm], ?_, rfl, ?_⟩
        · rw [List.getElem?_set_ne (by omega)]
          exact a3
        · rw [List.getElem?_set_self (by omega), List.map_append]
          rfl
        · intro u hu
          rcases List.mem_append.mp hu with hu | hu
          · exact hr u hu
          · cases N with
            | zero => cases ht
            | succ N =>
              simp only [List.mem_cons, List.not_mem_nil, or_false] at hu
              rcases hu with rfl | rfl
              · exact good_mono (Nat.le_succ _) ht.1
              · exact good_mono (Nat.le_succ _) ht.2
        · omega
      · skip
        have hab : (Tm.sz (.su (.less a b))) = (Tm.su a).sz + (Tm.su b).sz + 1 := rfl
        have hs2 : szsT (r ++ [Tm.su a, Tm.su b]) = szsT r + ((Tm.su a).sz + (Tm.su b).sz) := by
          rw [szsT_app]
          simp [szsT]
        have pa := szT_pos (Tm.su a)
        have pb := szT_pos (Tm.su b)
        have hrl2 : r.length + 2 ≤ 16777216 := by omega
        simp [Tm.d, Sm.d, Cn.d, primM, b3, line, hrl2, mTy, cut1, compL, sT, setT, wipeE, isTup_sm, isTup_cn]
        refine ⟨szsT (r ++ [Tm.su a, Tm.su b]), by omega, ?_⟩
        rw [hI]
        refine ⟨r ++ [Tm.su a, Tm.su b], bx, _, rfl, by rw [take_set' (by omega), e3], by rw [List.length_set]; omega, ?_, ?_, fun y => by rw [hb y]; simp [Tm.bxs, Sm.bxs, Cn.bxs, or_and_right, exists_or, or_assoc, or_comm, or_left_comm], ?_, rfl, ?_⟩
        · rw [List.getElem?_set_ne (by omega)]
          exact a3
        · rw [List.getElem?_set_self (by omega), List.map_append]
          rfl
        · intro u hu
          rcases List.mem_append.mp hu with hu | hu
          · exact hr u hu
          · cases N with
            | zero => cases ht
            | succ N =>
              simp only [List.mem_cons, List.not_mem_nil, or_false] at hu
              rcases hu with rfl | rfl
              · exact good_mono (Nat.le_succ _) ht.1
              · exact good_mono (Nat.le_succ _) ht.2
        · omega
      · skip
        have hrl2 : r.length ≤ 16777216 := by omega
        have hz1 := szT_pos (.co .yes)
        simp [Tm.d, Sm.d, Cn.d, primM, b3, line, hrl2, mTy, cut1, compL, sT, setT, wipeE, isTyD, tyD]
        refine ⟨szsT r, by omega, ?_⟩
        rw [hI]
        refine ⟨r, bx, _, rfl, by rw [take_set' (by omega), e3], by rw [List.length_set]; omega, ?_, ?_, fun y => by rw [hb y]; simp [Tm.bxs, Sm.bxs, Cn.bxs, or_and_right, exists_or, or_assoc, or_comm, or_left_comm], hr, rfl, ?_⟩
        · rw [List.getElem?_set_ne (by omega)]
          exact a3
        · rw [List.getElem?_set_self (by omega)]
        · omega
      · skip
        have hab : (Tm.sz (.co (.not c))) = (Tm.co c).sz + 1 := rfl
        have hs2 : szsT (r ++ [Tm.co c]) = szsT r + (Tm.co c).sz := by
          rw [szsT_app]
          simp [szsT]
        have pa := szT_pos (Tm.co c)
        have hrl2 : r.length + 1 ≤ 16777216 := by omega
        simp [Tm.d, Sm.d, Cn.d, primM, b3, line, hrl2, mTy, cut1, compL, sT, setT, wipeE, isTup_sm, isTup_cn]
        refine ⟨szsT (r ++ [Tm.co c]), by omega, ?_⟩
        rw [hI]
        refine ⟨r ++ [Tm.co c], bx, _, rfl, by rw [take_set' (by omega), e3], by rw [List.length_set]; omega, ?_, ?_, fun y => by rw [hb y]; simp [Tm.bxs, Sm.bxs, Cn.bxs, or_and_right, exists_or, or_assoc, or_comm, or_left_comm], ?_, rfl, ?_⟩
        · rw [List.getElem?_set_ne (by omega)]
          exact a3
        · rw [List.getElem?_set_self (by omega), List.map_append]
          rfl
        · intro u hu
          rcases List.mem_append.mp hu with hu | hu
          · exact hr u hu
          · cases N with
            | zero => cases ht
            | succ N =>
              simp only [List.mem_cons, List.not_mem_nil, or_false] at hu
              rcases hu with rfl
              exact cgood_mono (Nat.le_succ _) ht
        · omega
      · skip
        have hab : (Tm.sz (.co (.both a b))) = (Tm.co a).sz + (Tm.co b).sz + 1 := rfl
        have hs2 : szsT (r ++ [Tm.co a, Tm.co b]) = szsT r + ((Tm.co a).sz + (Tm.co b).sz) := by
          rw [szsT_app]
          simp [szsT]
        have pa := szT_pos (Tm.co a)
        have pb := szT_pos (Tm.co b)
        have hrl2 : r.length + 2 ≤ 16777216 := by omega
        simp [Tm.d, Sm.d, Cn.d, primM, b3, line, hrl2, mTy, cut1, compL, sT, setT, wipeE, isTup_sm, isTup_cn]
        refine ⟨szsT (r ++ [Tm.co a, Tm.co b]), by omega, ?_⟩
        rw [hI]
        refine ⟨r ++ [Tm.co a, Tm.co b], bx, _, rfl, by rw [take_set' (by omega), e3], by rw [List.length_set]; omega, ?_, ?_, fun y => by rw [hb y]; simp [Tm.bxs, Sm.bxs, Cn.bxs, or_and_right, exists_or, or_assoc, or_comm, or_left_comm], ?_, rfl, ?_⟩
        · rw [List.getElem?_set_ne (by omega)]
          exact a3
        · rw [List.getElem?_set_self (by omega), List.map_append]
          rfl
        · intro u hu
          rcases List.mem_append.mp hu with hu | hu
          · exact hr u hu
          · cases N with
            | zero => cases ht
            | succ N =>
              simp only [List.mem_cons, List.not_mem_nil, or_false] at hu
              rcases hu with rfl | rfl
              · exact cgood_mono (Nat.le_succ _) ht.1
              · exact cgood_mono (Nat.le_succ _) ht.2
        · omega
      · skip
        have hab : (Tm.sz (.co (.same a b))) = (Tm.su a).sz + (Tm.su b).sz + 1 := rfl
        have hs2 : szsT (r ++ [Tm.su a, Tm.su b]) = szsT r + ((Tm.su a).sz + (Tm.su b).sz) := by
          rw [szsT_app]
          simp [szsT]
        have pa := szT_pos (Tm.su a)
        have pb := szT_pos (Tm.su b)
        have hrl2 : r.length + 2 ≤ 16777216 := by omega
        simp [Tm.d, Sm.d, Cn.d, primM, b3, line, hrl2, mTy, cut1, compL, sT, setT, wipeE, isTup_sm, isTup_cn]
        refine ⟨szsT (r ++ [Tm.su a, Tm.su b]), by omega, ?_⟩
        rw [hI]
        refine ⟨r ++ [Tm.su a, Tm.su b], bx, _, rfl, by rw [take_set' (by omega), e3], by rw [List.length_set]; omega, ?_, ?_, fun y => by rw [hb y]; simp [Tm.bxs, Sm.bxs, Cn.bxs, or_and_right, exists_or, or_assoc, or_comm, or_left_comm], ?_, rfl, ?_⟩
        · rw [List.getElem?_set_ne (by omega)]
          exact a3
        · rw [List.getElem?_set_self (by omega), List.map_append]
          rfl
        · intro u hu
          rcases List.mem_append.mp hu with hu | hu
          · exact hr u hu
          · cases N with
            | zero => cases ht
            | succ N =>
              simp only [List.mem_cons, List.not_mem_nil, or_false] at hu
              rcases hu with rfl | rfl
              · exact ht.1
              · exact ht.2
        · omega
      · skip
        have hab : (Tm.sz (.co (.under a b))) = (Tm.su a).sz + (Tm.su b).sz + 1 := rfl
        have hs2 : szsT (r ++ [Tm.su a, Tm.su b]) = szsT r + ((Tm.su a).sz + (Tm.su b).sz) := by
          rw [szsT_app]
          simp [szsT]
        have pa := szT_pos (Tm.su a)
        have pb := szT_pos (Tm.su b)
        have hrl2 : r.length + 2 ≤ 16777216 := by omega
        simp [Tm.d, Sm.d, Cn.d, primM, b3, line, hrl2, mTy, cut1, compL, sT, setT, wipeE, isTup_sm, isTup_cn]
        refine ⟨szsT (r ++ [Tm.su a, Tm.su b]), by omega, ?_⟩
        rw [hI]
        refine ⟨r ++ [Tm.su a, Tm.su b], bx, _, rfl, by rw [take_set' (by omega), e3], by rw [List.length_set]; omega, ?_, ?_, fun y => by rw [hb y]; simp [Tm.bxs, Sm.bxs, Cn.bxs, or_and_right, exists_or, or_assoc, or_comm, or_left_comm], ?_, rfl, ?_⟩
        · rw [List.getElem?_set_ne (by omega)]
          exact a3
        · rw [List.getElem?_set_self (by omega), List.map_append]
          rfl
        · intro u hu
          rcases List.mem_append.mp hu with hu | hu
          · exact hr u hu
          · cases N with
            | zero => cases ht
            | succ N =>
              simp only [List.mem_cons, List.not_mem_nil, or_false] at hu
              rcases hu with rfl | rfl
              · exact ht.1
              · exact ht.2
        · omega
    · subst hz
      simp [a2]
      rw [take_set' (Nat.le_refl _), e1]
      exact q bx (fun y => by rw [hb y]; simp) (by omega)
  · rw [hI]
    refine ⟨[s], [], none, rfl, by simp, by simp, by simp, by simp, by simp, by simpa using g, by simp [szsT], by simp [szsT]; omega⟩

def Nd.bxs : Nd → List Str
  | .put x s _ => x :: s.bxs
  | .say s _ => s.bxs
  | .test c _ _ => c.bxs
  | .fin => []
def Nd.outs : Nd → List Int
  | .put _ _ b => [b]
  | .say _ b => [b]
  | .test _ a b => [a, b]
  | .fin => []
/-- sums and conditions of known names, to any nodes -/
def Nd.goodS (N : Nat) (names : List Str) : Nd → Prop
  | .put x s _ => x ∈ names ∧ s.good names N
  | .say s _ => s.good names N
  | .test c _ _ => c.good names N
  | .fin => True
theorem sm_sub {names names' : List Str} (hs : ∀ x ∈ names, x ∈ names') : ∀ {s : Sm} {n : Nat}, s.good names n → s.good names' n
  | _, 0, g => by cases g
  | .num i, n + 1, g => g
  | .box x, n + 1, g => hs x g
  | .plus a b, n + 1, g => ⟨sm_sub hs g.1, sm_sub hs g.2⟩
  | .less a b, n + 1, g => ⟨sm_sub hs g.1, sm_sub hs g.2⟩
theorem cn_sub {names names' : List Str} (hs : ∀ x ∈ names, x ∈ names') : ∀ {s : Cn} {n : Nat}, s.good names n → s.good names' n
  | _, 0, g => by cases g
  | .yes, n + 1, g => g
  | .not c, n + 1, g => cn_sub (s := c) hs g
  | .both a b, n + 1, g => ⟨cn_sub hs g.1, cn_sub hs g.2⟩
  | .same a b, n + 1, g => ⟨sm_sub hs g.1, sm_sub hs g.2⟩
  | .under a b, n + 1, g => ⟨sm_sub hs g.1, sm_sub hs g.2⟩
theorem nd_sub {names names' : List Str} (hs : ∀ x ∈ names, x ∈ names') {N M : Nat} (hN : N ≤ M) : ∀ {s : Nd}, s.goodS N names → s.goodS M names'
  | .put _ _ _, g => ⟨hs _ g.1, sm_sub hs (good_mono hN g.2)⟩
  | .say _ _, g => sm_sub hs (good_mono hN g)
  | .test _ _ _, g => cn_sub hs (cgood_mono hN g)
  | .fin, g => g
theorem nd_ofN {names : List Str} {N : Nat} {m : Int} : ∀ {s : Nd}, s.goodN N names m → s.goodS N names
  | .put _ _ _, g => ⟨g.1, g.2.1⟩
  | .say _ _, g => g.1
  | .test _ _ _, g => g.1
  | .fin, g => g
theorem namedat_runE (L : D.lookup "named_at" = some d_named_at) (L4 : D.lookup "boxes_named" = some d_boxes_named) {k : Nat} {h : Hh} {names : List Str} (hN : Nm names) {s : Nd} (g : s.goodS 20 names) {Q : PV → Hh → Prop}
    (q : ∀ bx : List Str, (∀ x, x ∈ bx ↔ x ∈ s.bxs) → bx.length ≤ 5000000 → Q (.d (nL bx)) h) : wp (callN D (k + 2) "named_at" [.d s.d] h) Q := by
  refine call_rule (k := k + 1) L rfl ?_
  cases s with
  | fin =>
    simp [d_named_at, startE, primM, Nd.d, line]
    exact q [] (by simp [Nd.bxs]) (by simp)
  | say a b =>
    simp [d_named_at, startE, primM, Nd.d]
    refine named_runE (k := k) (s := .su a) L4 hN (N := 20) (by decide) g fun bx hb hl => ?_
    simp
    exact q bx hb (by omega)
  | put x a b =>
    simp [d_named_at, startE, primM, Nd.d, line]
    refine named_runE (k := k) (s := .su a) L4 hN (N := 20) (by decide) g.2 fun bx hb hl => ?_
    have h1 : 1 + bx.length ≤ 16777216 := by omega
    have h2 : bx.length + 1 ≤ 16777216 := by omega
    simp [line, h1, h2]
    refine q (x :: bx) (fun y => ?_) (by simp; omega)
    have hb2 := hb y
    simp only [Tm.bxs] at hb2
    simp [Nd.bxs, hb2]
  | test c a b =>
    simp [d_named_at, startE, primM, Nd.d]
    refine named_runE (k := k) (s := .co c) L4 hN (N := 20) (by decide) g fun bx hb hl => ?_
    simp
    exact q bx hb (by omega)
theorem behind_runE (L : D.lookup "nodes_behind" = some d_nodes_behind) {k : Nat} {h : Hh} {s : Nd} {Q : PV → Hh → Prop} (q : Q (.d (iL s.outs)) h) : wp (callN D (k + 1) "nodes_behind" [.d s.d] h) Q := by
  refine call_rule (k := k) L rfl ?_
  cases s with
  | fin =>
    simp [d_nodes_behind, startE, primM, Nd.d, line]
    exact q
  | say a b =>
    have e1 : ati [PyData.str (Str.ofString "say"), a.d, .int b] (-1) = some (.int b) := rfl
    simp [d_nodes_behind, startE, primM, Nd.d, line, e1]
    exact q
  | put x a b =>
    have e1 : ati [PyData.str (Str.ofString "put"), .str x, a.d, .int b] (-1) = some (.int b) := rfl
    simp [d_nodes_behind, startE, primM, Nd.d, line, e1]
    exact q
  | test c a b =>
    simp [d_nodes_behind, startE, primM, Nd.d, line]
    exact q
theorem once_len (acc : List Str) (x : Str) : (once acc x).length ≤ acc.length + 1 := by
  unfold once
  split <;> simp
theorem foldl_once : ∀ (xs acc : List Str), (xs.foldl once acc).length ≤ acc.length + xs.length ∧ (acc.Nodup → (xs.foldl once acc).length = acc.length + xs.length → (acc ++ xs).Nodup)
  | [], acc => ⟨by simp, fun h _ => by simpa using h⟩
  | x :: xs, acc => by
    obtain ⟨i1, i2⟩ := foldl_once xs (once acc x)
    have hl := once_len acc x
    refine ⟨by rw [List.foldl_cons, List.length_cons]; omega, fun hn he => ?_⟩
    rw [List.foldl_cons, List.length_cons] at he
    by_cases hx : x ∈ acc
    · have e : once acc x = acc := if_pos hx
      rw [e] at he i1
      omega
    · have e : once acc x = acc ++ [x] := if_neg hx
      rw [e] at he i1 i2
      have := i2 (by
        rw [List.nodup_append]
        refine ⟨hn, by simp, fun a ha b hb z => ?_⟩
        rw [List.mem_singleton] at hb
        subst hb
        subst z
        exact hx ha) (by rw [he]; simp; omega)
      rw [List.append_assoc] at this
      exact this
theorem uniq_lt {xs : List Str} : (uniq xs).length < xs.length ↔ ¬ xs.Nodup := by
  constructor
  · intro h hn
    rw [uniq_nodup hn] at h
    omega
  · intro hn
    obtain ⟨i1, i2⟩ := foldl_once xs []
    have e : (uniq xs).length ≠ xs.length := fun z => hn (by simpa using i2 .nil (by simpa [uniq] using z))
    have : (uniq xs).length ≤ xs.length := by simpa [uniq] using i1
    omega
def notInD (names : List Str) : PyData → Option PyData
  | .str y => if y ∈ names then none else some (.str y)
  | _ => none
def offD (m : Int) : PyData → Option PyData
  | .int t => if 0 ≤ t ∧ t < m then none else some (.int t)
  | _ => none
theorem not_in (names : List Str) (l : List Str) : (l.map PyData.str).filterMap (notInD names) = (l.filter fun x => decide (x ∉ names)).map .str := by
  induction l with
  | nil => rfl
  | cons y l ih =>
    by_cases c : y ∈ names <;> simp [c, ih, notInD]
theorem off_in (m : Int) (l : List Int) : (l.map PyData.int).filterMap (offD m) = (l.filter fun t => decide (¬ (0 ≤ t ∧ t < m))).map .int := by
  induction l with
  | nil => rfl
  | cons y l ih =>
    by_cases c : 0 ≤ y ∧ y < m
    · simp [c, ih, offD]
    · have e : offD m (.int y) = some (.int y) := by
        exact if_neg c
      rw [List.map_cons, List.filterMap_cons, e, List.filter_cons, if_pos (decide_eq_true c), List.map_cons, ih]
/-- the shape of what is looked at -/
structure Lk (p : Pg) (names : List Str) : Prop where
  nm : Nm names
  b4 : p.bs.length ≤ 4
  bn : ∀ b ∈ p.bs, b.1 ∈ names
  i8 : p.ins.length ≤ 8
  ik : ∀ x ∈ p.ins, x ∈ names
  n60 : p.nds.length ≤ 60
  ng : ∀ s ∈ p.nds, s.goodS 20 names
def bad1 (p : Pg) : Prop := (∃ b ∈ p.bs, b.2 < 1) ∨ ¬ p.names.Nodup
def bad2 (p : Pg) : Prop := (∃ x ∈ p.ins, x ∉ p.names) ∨ ¬ p.ins.Nodup
def badN (p : Pg) (s : Nd) : Prop := (∃ x ∈ s.bxs, x ∉ p.names) ∨ ∃ t ∈ s.outs, ¬ (0 ≤ t ∧ t < p.nds.length)
def isBad (p : Pg) : Prop := bad1 p ∨ bad2 p ∨ p.nds = [] ∨ ∃ s ∈ p.nds, badN p s
theorem nm_sub {names ns : List Str} (h : Nm names) (l : ns.length ≤ 8) (s : ∀ x ∈ ns, x ∈ names) : Nm ns := ⟨l, fun x hx => h.ok x (s x hx)⟩
theorem needboxes_X (L : D.lookup "need_boxes" = some d_need_boxes) {k : Nat} {h : Hh} {v1 v2 : PV} {p : Pg} {names : List Str} (lk : Lk p names) (h1 : Hs v1 h (bD p.bs)) (h2 : Hs v2 h (p.ins.map .str)) {Q : PV → Hh → Prop} {X : String → Hh → Prop}
    (q : ¬ bad1 p → ¬ bad2 p → Q (.d .none) h) (x : bad1 p ∨ bad2 p → X "NoProgram" h) : wx (callN D (k + 1) "need_boxes" [v1, v2] h) Q X := by
  have b4 := lk.b4
  have i8 := lk.i8
  have bl : (bD p.bs).length ≤ line := by
    simp [bD, line]
    omega
  have hbn : Nm p.names := nm_sub lk.nm (by simp [Pg.names]; omega) fun x hx => by
    obtain ⟨b, hb, rfl⟩ := List.mem_map.mp hx
    exact lk.bn b hb
  have nl : p.names.length ≤ 16777216 := by
    have := hbn.len
    omega
  have nl0 : p.bs.length ≤ 16777216 := by omega
  have lsn : ∀ h', lenSetM (.d (nL p.names)) h' = .ok (.d (.int (uniq p.names).length)) h' := fun h' => Hs.lenSet (xs := p.names) (.inl rfl) (by have := hbn.len; omega)
  have lsi : lenSetM v2 h = .ok (.d (.int (uniq p.ins).length)) h := Hs.lenSet h2 (by omega)
  have leni : lenM v2 h = .ok (.d (.int p.ins.length)) h := by
    rw [h2.len, List.length_map]
  have hnm2 : p.bs.map (·.1) = p.names := rfl
  refine call_ruleX L rfl ?_
  simp [d_need_boxes, startE, wipeE]
  refine names_seen _ (by decide) (by simp) h1 (by unfold line; omega) ?_
  simp only [hnm2, P_mkL_f, line, List.length_map, nl, if_true, wp_ok]
  try simp [wipeE]
  obtain ⟨f, hf⟩ : ∃ f : PyData → Option PyData, f = fun d => match d with | .tuple [_, .int i] => if i < 1 then some (.int i) else none | _ => none := ⟨_, rfl⟩
  obtain ⟨S1, hS1⟩ : ∃ S1, S1 = (bD p.bs).filterMap f := ⟨_, rfl⟩
  have ne1 : S1 = [] ↔ ¬ ∃ b ∈ p.bs, b.2 < 1 := by
    rw [hS1, hf, List.filterMap_eq_nil_iff]
    constructor
    · rintro hz ⟨b, hb, lt⟩
      have := hz _ (List.mem_map.mpr ⟨b, hb, rfl⟩)
      simp [lt] at this
    · intro hz d hd
      obtain ⟨b, hb, rfl⟩ := List.mem_map.mp hd
      have : ¬ b.2 < 1 := fun lt => hz ⟨b, hb, lt⟩
      simp [this]
  have sh1 : ok2 (.list S1) (.list []) = true := by
    refine okn_e (Sh.shaped (n := 2) (Sh.list (n := 1) fun d hd => ?_) (by decide))
    rw [hS1, hf] at hd
    obtain ⟨d0, hd0, e⟩ := List.mem_filterMap.mp hd
    obtain ⟨b, hb, rfl⟩ := List.mem_map.mp hd0
    simp only [] at e
    split at e
    · cases e
      exact .int _ _
    · cases e
  refine comp_pure h1 bl f (fun d hd => ?_) ?_
  · obtain ⟨b, hb', rfl⟩ := List.mem_map.mp hd
    simp [sT, setT, setTs, primM, hf]
  rw [← hS1]
  have lS1 : S1.length ≤ 16777216 := by
    rw [hS1]
    exact Nat.le_trans (List.length_filterMap_le _ _) bl
  simp [line, primM, lS1, sh1, eqv_nil, lsn, wipeE]
  refine ⟨fun n1 => x (.inl (.inl ?_)), fun n1 => ⟨fun n2 => x (.inl (.inr (uniq_lt.mp n2))), fun n2 => ?_⟩⟩
  · exact Classical.not_not.mp fun z => n1 (ne1.mpr z)
  have nb1 : ¬ bad1 p := by
    rintro (z | z)
    · exact ne1.mp n1 z
    · have := uniq_lt.mpr z
      omega
  obtain ⟨S2, hS2⟩ : ∃ S2, S2 = (p.ins.filter fun x => decide (x ∉ p.names)) := ⟨_, rfl⟩
  have lS2 : S2.length ≤ 16777216 := by
    rw [hS2]
    exact Nat.le_trans (List.length_filter_le _ _) (by omega)
  have sh2 : ok2 (.list (S2.map .str)) (.list []) = true := by
    refine okn_e (Sh.shaped (n := 2) (Sh.list (n := 1) fun d hd => ?_) (by decide))
    obtain ⟨y, hy, rfl⟩ := List.mem_map.mp hd
    rw [hS2] at hy
    exact .str (lk.nm.ok y (lk.ik y (List.mem_filter.mp hy).1))
  have ne2 : S2 = [] ↔ ¬ ∃ x ∈ p.ins, x ∉ p.names := by
    rw [hS2, List.filter_eq_nil_iff]
    constructor
    · rintro hz ⟨y, hy, ny⟩
      have := hz y hy
      simp [ny] at this
    · intro hz y hy
      have : y ∈ p.names := Classical.not_not.mp fun ny => hz ⟨y, hy, ny⟩
      simp [this]
  refine comp_pure h2 (by simp [line]; omega) (notInD p.names) (fun d hd => ?_) ?_
  · obtain ⟨y, hy, rfl⟩ := List.mem_map.mp hd
    have e1 := in_nm hbn (lk.nm.ok y (lk.ik y hy))
    by_cases c : y ∈ p.names
    · rw [decide_eq_true c] at e1
      simp [sT, setT, primM, e1, c, notInD]
    · rw [decide_eq_false c] at e1
      simp [sT, setT, primM, e1, c, notInD]
  have eS2 : (p.ins.map PyData.str).filterMap (notInD p.names) = S2.map .str := by rw [hS2]; exact not_in _ _
  rw [eS2]
  simp [line, primM, lS2, sh2, eqv_nil, lsi, leni, wipeE]
  refine ⟨fun n3 => x (.inr (.inl (Classical.not_not.mp fun z => n3 (ne2.mpr z)))), fun n3 => ⟨fun n4 => x (.inr (.inr (uniq_lt.mp n4))), fun n4 => q nb1 ?_⟩⟩
  rintro (z | z)
  · exact ne2.mp n3 z
  · have := uniq_lt.mpr z
    omega
theorem sh_goodS {names : List Str} (hN : Nm names) : ∀ {s : Nd}, s.goodS 20 names → Sh 23 s.d
  | .put x s b, g => .tup fun d hd => by
    simp only [List.mem_cons, List.not_mem_nil, or_false] at hd
    rcases hd with rfl | rfl | rfl | rfl
    · exact .ofs _ _
    · exact .str (hN.ok x g.1)
    · exact (sh_sm hN g.2).mono (by decide)
    · exact .int _ _
  | .say s b, g => .tup fun d hd => by
    simp only [List.mem_cons, List.not_mem_nil, or_false] at hd
    rcases hd with rfl | rfl | rfl
    · exact .ofs _ _
    · exact (sh_sm hN g).mono (by decide)
    · exact .int _ _
  | .test c a b, g => .tup fun d hd => by
    simp only [List.mem_cons, List.not_mem_nil, or_false] at hd
    rcases hd with rfl | rfl | rfl | rfl
    · exact .ofs _ _
    · exact (sh_cn hN g).mono (by decide)
    · exact .int _ _
    · exact .int _ _
  | .fin, _ => .tup fun d hd => by
    simp only [List.mem_cons, List.not_mem_nil, or_false] at hd
    rcases hd with rfl
    exact .ofs _ _
theorem nd_bxs {names : List Str} {N : Nat} : ∀ {s : Sm}, s.good names N → ∀ x ∈ s.bxs, x ∈ names := by
  intro s
  induction s generalizing N with
  | num i => intro g x hx; cases hx
  | box y =>
    intro g x hx
    cases N with
    | zero => cases g
    | succ N =>
      simp only [Sm.bxs, List.mem_singleton] at hx
      subst hx
      exact g
  | plus a b ia ib =>
    intro g x hx
    cases N with
    | zero => cases g
    | succ N => exact (List.mem_append.mp hx).elim (ia g.1 x) (ib g.2 x)
  | less a b ia ib =>
    intro g x hx
    cases N with
    | zero => cases g
    | succ N => exact (List.mem_append.mp hx).elim (ia g.1 x) (ib g.2 x)
theorem cn_bxs {names : List Str} {N : Nat} : ∀ {s : Cn}, s.good names N → ∀ x ∈ s.bxs, x ∈ names := by
  intro s
  induction s generalizing N with
  | yes => intro g x hx; cases hx
  | not c ic =>
    intro g x hx
    cases N with
    | zero => cases g
    | succ N => exact ic (N := N) g x hx
  | both a b ia ib =>
    intro g x hx
    cases N with
    | zero => cases g
    | succ N => exact (List.mem_append.mp hx).elim (ia g.1 x) (ib g.2 x)
  | same a b =>
    intro g x hx
    cases N with
    | zero => cases g
    | succ N => exact (List.mem_append.mp hx).elim (nd_bxs g.1 x) (nd_bxs g.2 x)
  | under a b =>
    intro g x hx
    cases N with
    | zero => cases g
    | succ N => exact (List.mem_append.mp hx).elim (nd_bxs g.1 x) (nd_bxs g.2 x)
theorem node_bxs {names : List Str} {N : Nat} : ∀ {s : Nd}, s.goodS N names → ∀ x ∈ s.bxs, x ∈ names
  | .put y s b, g, x, hx => by
    rcases List.mem_cons.mp hx with rfl | hx
    · exact g.1
    · exact nd_bxs g.2 x hx
  | .say s b, g, x, hx => nd_bxs g x hx
  | .test c a b, g, x, hx => cn_bxs g x hx
  | .fin, g, x, hx => by cases hx
theorem progof_X (L0 : D.lookup "program_of" = some d_program_of) (L1 : D.lookup "need_boxes" = some d_need_boxes) (L2 : D.lookup "named_at" = some d_named_at) (L3 : D.lookup "nodes_behind" = some d_nodes_behind) (L4 : D.lookup "boxes_named" = some d_boxes_named)
    {k : Nat} {h : Hh} {v1 v2 v3 : PV} {p : Pg} {names : List Str} (lk : Lk p names) (h1 : Hs v1 h (bD p.bs)) (h2 : Hs v2 h (p.ins.map .str)) (h3 : Hs v3 h (p.nds.map Nd.d)) (bad : isBad p) {Q : PV → Hh → Prop} {X : String → Hh → Prop} (x : X "NoProgram" h) : wx (callN D (k + 4) "program_of" [v1, v2, v3] h) Q X := by
  have b4 := lk.b4
  have n60 := lk.n60
  have hbn : Nm p.names := nm_sub lk.nm (by simp [Pg.names]; omega) fun x hx => by
    obtain ⟨b, hb, rfl⟩ := List.mem_map.mp hx
    exact lk.bn b hb
  have nl : p.names.length ≤ 16777216 := by
    have := hbn.len
    omega
  have hnm2 : p.bs.map (·.1) = p.names := rfl
  have sn : SeqAt.shaped (.list (p.nds.map Nd.d)) = true := by
    refine Sh.shaped (n := 24) (Sh.list (n := 23) fun d hd => ?_) (by decide)
    obtain ⟨s, hs, rfl⟩ := List.mem_map.mp hd
    exact sh_goodS lk.nm (lk.ng s hs)
  refine call_ruleX L0 rfl ?_
  simp [d_program_of, startE, primM]
  refine needboxes_X (k := k + 2) L1 lk h1 h2 (fun nb1 nb2 => ?_) (fun _ => by simpa using x)
  simp [h3.vw, okn_e sn, eqv_nil, wipeE]
  refine ⟨fun _ => x, fun ne => ?_⟩
  have bad2 : ∃ s ∈ p.nds, badN p s := by
    rcases bad with z | z | z | z
    · exact absurd z nb1
    · exact absurd z nb2
    · exact absurd z ne
    · exact z
  refine names_seen _ (by decide) (by simp) h1 (by unfold line; omega) ?_
  rw [hnm2]
  simp only [P_mkL_f, line, List.length_map, nl, if_true, wp_ok]
  try simp [wipeE]
  have lenv : lenM v3 h = .ok (.d (.int p.nds.length)) h := by
    rw [h3.len, List.length_map]
  refine for_keepX h3 (by rw [List.length_map]; unfold line; omega) (fun r e => (∃ ss : List Nd, r = ss.map Nd.d ∧ (∀ s ∈ ss, s ∈ p.nds) ∧ ∃ s ∈ ss, badN p s) ∧ ∃ z4 z5 z6 z7 : Option PV, e = [some v1, some v2, some v3, some (.d (nL p.names)), z4, z5, z6, z7]) ?_ ?_ ?_
  · rintro d r e ⟨⟨ss, er, hss, s0, hs0, b0⟩, z4, z5, z6, z7, rfl⟩
    cases ss with
    | nil => cases er
    | cons s ss =>
      simp only [List.map_cons, List.cons.injEq] at er
      obtain ⟨rfl, rfl⟩ := er
      have gs := lk.ng s (hss s List.mem_cons_self)
      simp [sT, setT, wipeE]
      refine namedat_runE (k := k + 1) L2 L4 lk.nm gs fun bx hbx hl => ?_
      refine comp_pure (.inl rfl) (by simp [line]; omega) (notInD p.names) (fun d hd => ?_) ?_
      · obtain ⟨y, hy, rfl⟩ := List.mem_map.mp hd
        have e1 := in_nm hbn (lk.nm.ok y (node_bxs gs y ((hbx y).mp hy)))
        by_cases c : y ∈ p.names
        · rw [decide_eq_true c] at e1
          simp [sT, setT, primM, e1, c, notInD]
        · rw [decide_eq_false c] at e1
          simp [sT, setT, primM, e1, c, notInD]
      rw [not_in]
      obtain ⟨S1, hS1⟩ : ∃ S1, S1 = bx.filter fun x => decide (x ∉ p.names) := ⟨_, rfl⟩
      rw [← hS1]
      have sh1 : ok2 (.list (S1.map .str)) (.list []) = true := by
        refine okn_e (Sh.shaped (n := 2) (Sh.list (n := 1) fun d hd => ?_) (by decide))
        obtain ⟨y, hy, rfl⟩ := List.mem_map.mp hd
        rw [hS1] at hy
        exact .str (lk.nm.ok y (node_bxs gs y ((hbx y).mp (List.mem_filter.mp hy).1)))
      have lS1 : S1.length ≤ 16777216 := by
        rw [hS1]
        exact Nat.le_trans (List.length_filter_le _ _) (by omega)
      simp [line, primM, lS1, sh1, eqv_nil, wipeE]
      refine ⟨fun _ => x, fun n1 => ?_⟩
      have nb : ¬ ∃ y ∈ s.bxs, y ∉ p.names := by
        rintro ⟨y, hy, ny⟩
        rw [hS1, List.filter_eq_nil_iff] at n1
        have := n1 y ((hbx y).mpr hy)
        simp [ny] at this
      refine behind_runE (k := k + 2) L3 ?_
      have lo : s.outs.length ≤ 2 := by
        cases s <;> simp [Nd.outs]
      obtain ⟨S2, hS2⟩ : ∃ S2, S2 = s.outs.filter fun t => decide (¬ (0 ≤ t ∧ t < (p.nds.length : Int))) := ⟨_, rfl⟩
      refine comp_pure (.inl rfl) (by simp [line]; omega) (offD p.nds.length) (fun d hd => ?_) ?_
      · obtain ⟨t, ht2, rfl⟩ := List.mem_map.mp hd
        by_cases c0 : 0 ≤ t
        · by_cases c1 : t < p.nds.length
          · simp [sT, setT, primM, c0, c1, lenv, offD]
          · simp [sT, setT, primM, c0, c1, lenv, offD]
        · simp [sT, setT, primM, c0, offD]
      have eS2 : (s.outs.map PyData.int).filterMap (offD p.nds.length) = S2.map .int := by rw [hS2]; exact off_in _ _
      rw [eS2]
      have lS2 : S2.length ≤ 16777216 := by
        rw [hS2]
        exact Nat.le_trans (List.length_filter_le _ _) (by omega)
      have sh2 : ok2 (.list (S2.map .int)) (.list []) = true := by
        refine okn_e (Sh.shaped (n := 2) (Sh.list (n := 1) fun d hd => ?_) (by decide))
        obtain ⟨y, hy, rfl⟩ := List.mem_map.mp hd
        exact .int _ _
      simp [line, primM, lS2, sh2, eqv_nil]
      refine ⟨fun _ => x, fun n2 => ⟨ss, rfl, fun s hs => hss s (List.mem_cons_of_mem _ hs), ?_⟩⟩
      rcases List.mem_cons.mp hs0 with rfl | hs0
      · exfalso
        rcases b0 with z | ⟨t, ht, z⟩
        · exact nb z
        · rw [hS2, List.filter_eq_nil_iff] at n2
          have := n2 t ht
          simp at this
          exact z ⟨this.1, this.2⟩
      · exact ⟨s0, hs0, b0⟩
  · rintro e ⟨⟨ss, er, hss, s0, hs0, b0⟩, _⟩
    cases ss with
    | nil => cases hs0
    | cons s ss => cases er
  · obtain ⟨s0, hs0, b0⟩ := bad2
    exact ⟨⟨p.nds, rfl, fun _ z => z, s0, hs0, b0⟩, _, _, _, _, rfl⟩
end
end PL.A

set_option maxRecDepth 100000
set_option maxHeartbeats 2000000
/-! PE3: worths that are none, boxes that are none: refused. -/
namespace PL.A
open PySem PL
section
variable {D : Defs}
theorem need_X (L : D.lookup "need_worths" = some d_need_worths) {k : Nat} {h : Hh} {p : Pg} {ws : List Int} (hw : ¬ Wk p.bs ws) {Q : PV → Hh → Prop} {X : String → Hh → Prop} (x : X "NoWorths" h) : wx (callN D (k + 1) "need_worths" [.d p.d, .d (iL ws)] h) Q X := by
  refine call_ruleX L rfl ?_
  have hbl : (bD p.bs).length = p.bs.length := by simp [bD]
  simp [d_need_worths, startE, primM, Pg.d, ok2_int, eqv_int, hbl]
  refine ⟨fun _ => x, fun hl => ?_⟩
  have hl2 : ws.length = p.bs.length := by omega
  obtain ⟨I, hI⟩ : ∃ I : List PV → Ee → Hh → Prop, I = fun r e h' => ∃ (bs : Bs) (vs : List Int) (z1 z2 z3 : Option PV), r = ((vs.map PyData.int).zip (bD bs)).map (fun p => .d (.tuple [p.1, p.2])) ∧ ¬ Wk bs vs ∧ vs.length = bs.length ∧ h' = h ∧ e = [some (.d p.d), some (.d (iL ws)), z1, z2, z3] := ⟨_, rfl⟩
  refine for_ruleX I ?_ ?_ _ _ _ ?_
  · intro v r e h' hi
    rw [hI] at hi
    obtain ⟨bs, vs, z1, z2, z3, er, hk, hl, rfl, rfl⟩ := hi
    cases bs with
    | nil =>
      cases vs with
      | nil => simp [bD] at er
      | cons _ _ => cases hl
    | cons b bs =>
      cases vs with
      | nil => cases hl
      | cons w vs =>
        simp [bD] at er
        obtain ⟨rfl, rfl⟩ := er
        by_cases h0 : 0 ≤ w
        · by_cases h1 : w < b.2
          · simp [sT, setT, setTs, primM, h0, h1]
            rw [hI]
            exact ⟨bs, vs, _, _, _, by simp [bD], fun z => hk ⟨h0, h1, z⟩, by simpa using hl, rfl, rfl⟩
          · simp [sT, setT, setTs, primM, h0, h1]
            exact x
        · simp [sT, setT, setTs, primM, h0]
          exact x
  · intro e h' hi
    rw [hI] at hi
    obtain ⟨bs, vs, z1, z2, z3, er, hk, hl, rfl, rfl⟩ := hi
    cases bs with
    | nil =>
      cases vs with
      | nil => exact (hk True.intro).elim
      | cons _ _ => cases hl
    | cons b bs =>
      cases vs with
      | nil => cases hl
      | cons w vs => simp [bD] at er
  · rw [hI]
    exact ⟨p.bs, ws, none, none, none, by simp, hw, hl2, rfl, rfl⟩
theorem known_X1 (L : D.lookup "need_known" = some d_need_known) (L1 : D.lookup "need_worths" = some d_need_worths) {k : Nat} {h : Hh} {p : Pg} {ws : List Int} (hw : ¬ Wk p.bs ws) {t : PyData} {Q : PV → Hh → Prop} {X : String → Hh → Prop} (x : X "NoWorths" h) : wx (callN D (k + 2) "need_known" [.d p.d, .d (iL ws), .d t] h) Q X := by
  refine call_ruleX L rfl ?_
  simp [d_need_known, startE, primM, wipeE]
  refine need_X (k := k) L1 hw ?_
  simpa using x
theorem tm_bxs {names : List Str} {N : Nat} {s : Tm} (g : s.good names N) : ∀ x ∈ s.bxs, x ∈ names := by
  cases s with
  | su s => exact nd_bxs g
  | co c => exact cn_bxs g
theorem known_X2 (L : D.lookup "need_known" = some d_need_known) (L1 : D.lookup "need_worths" = some d_need_worths) (L2 : D.lookup "known_by" = some d_known_by) (L3 : D.lookup "names_of" = some d_names_of) (L4 : D.lookup "boxes_named" = some d_boxes_named)
    {k : Nat} {h : Hh} {p : Pg} {ws : List Int} (hb : Bx p.bs) (hw : Wk p.bs ws) {names : List Str} (hN : Nm names) {s : Tm} (g : s.good names 20) (bad : ∃ y ∈ s.bxs, y ∉ p.names) {Q : PV → Hh → Prop} {X : String → Hh → Prop} (x : X "NoProgram" h) : wx (callN D (k + 3) "need_known" [.d p.d, .d (iL ws), .d s.d] h) Q X := by
  have kn := hw.kn fun b hb' => (hb.sz b hb').2
  refine call_ruleX L rfl ?_
  simp [d_need_known, startE, primM, wipeE]
  refine wx_of (need_run (k := k + 1) L1 hw ?_)
  try simp
  refine wx_of (known_run (k := k) L2 L3 hb hw ?_)
  try simp
  refine named_runE (k := k + 1) L4 hN (by decide) g fun bx hbx hl => ?_
  refine comp_pure (.inl rfl) (by simp [line]; omega) (notInD p.names) (fun d hd => ?_) ?_
  · obtain ⟨y, hy, rfl⟩ := List.mem_map.mp hd
    by_cases c : y ∈ p.names
    · obtain ⟨w, ew⟩ := kn.all y c
      simp [sT, setT, primM, wipeE, inD, dget_kd, ew, c, notInD]
    · have ew : (kwOf p.bs ws).lookup y = none := by
        rw [List.lookup_eq_none_iff]
        intro q hq
        have := (List.of_mem_zip (a := q.1) (b := q.2) hq).1
        rw [bne_iff_ne]
        rintro rfl
        exact c this
      simp [sT, setT, primM, wipeE, inD, dget_kd, ew, c, notInD]
  rw [not_in]
  obtain ⟨S1, hS1⟩ : ∃ S1, S1 = bx.filter fun x => decide (x ∉ p.names) := ⟨_, rfl⟩
  rw [← hS1]
  have sh1 : ok2 (.list (S1.map .str)) (.list []) = true := by
    refine okn_e (Sh.shaped (n := 2) (Sh.list (n := 1) fun d hd => ?_) (by decide))
    obtain ⟨y, hy, rfl⟩ := List.mem_map.mp hd
    rw [hS1] at hy
    exact .str (hN.ok y (tm_bxs g y ((hbx y).mp (List.mem_filter.mp hy).1)))
  have lS1 : S1.length ≤ 16777216 := by
    rw [hS1]
    exact Nat.le_trans (List.length_filter_le _ _) (by omega)
  simp [line, primM, lS1, sh1, eqv_nil, wipeE]
  refine ⟨fun _ => x, fun n1 => ?_⟩
  exfalso
  obtain ⟨y, hy, ny⟩ := bad
  rw [hS1, List.filter_eq_nil_iff] at n1
  have := n1 y ((hbx y).mpr hy)
  simp [ny] at this
theorem sum_worth_X (L0 : D.lookup "sum_worth" = some d_sum_worth) {k : Nat} {h : Hh} {a b c : PyData} {Q : PV → Hh → Prop} {X : String → Hh → Prop} (w : wx (callN D (k + 1) "need_known" [.d a, .d b, .d c] h) (fun _ _ => False) fun x h1 => X x (h1.take h.length)) : wx (callN D (k + 2) "sum_worth" [.d a, .d b, .d c] h) Q X := by
  refine call_ruleX L0 rfl ?_
  simp [d_sum_worth, startE, primM]
  exact wx_mono w (fun _ _ z => z.elim) fun _ _ z => z
theorem holds_at_X (L0 : D.lookup "holds_at" = some d_holds_at) {k : Nat} {h : Hh} {a b c : PyData} {Q : PV → Hh → Prop} {X : String → Hh → Prop} (w : wx (callN D (k + 1) "need_known" [.d a, .d b, .d c] h) (fun _ _ => False) fun x h1 => X x (h1.take h.length)) : wx (callN D (k + 2) "holds_at" [.d a, .d b, .d c] h) Q X := by
  refine call_ruleX L0 rfl ?_
  simp [d_holds_at, startE, primM]
  exact wx_mono w (fun _ _ z => z.elim) fun _ _ z => z
theorem step_X (L0 : D.lookup "step_from" = some d_step_fromF) (L1 : D.lookup "need_worths" = some d_need_worths) {k : Nat} {h : Hh} {p : Pg} {ws : List Int} {j : PyData} (hw : ¬ Wk p.bs ws) {Q : PV → Hh → Prop} {X : String → Hh → Prop} (x : X "NoWorths" h) : wx (callN D (k + 2) "step_from" [.d p.d, .d j, .d (iL ws)] h) Q X := by
  refine call_ruleX L0 rfl ?_
  simp [d_step_fromF, startE, primM]
  refine need_X (k := k) L1 hw ?_
  simpa using x
end
end PL.A

set_option maxRecDepth 100000
set_option maxHeartbeats 4000000
namespace PL.k05
open PySem PL
abbrev fuel : Nat := 1000000000
def d__law_bad_sum : Def := ⟨["deck", "names", "deep"], ["deck", "names", "deep", "bad", "k", "good"],
  (.cons (.asg (.nm 3) (.prim .tup (.cons (.cst (.str "box")) (.cons (.prim .idx (.cons (.prim (.lst false) (.cons (.cst (.str "b")) (.cons (.cst (.str "boxes")) (.cons (.cst (.str "longnam")) (.cons (.cst (.str "x")) (.cons (.cst (.str "nobox")) .nil)))))) (.cons (.call "_law_take" (.cons (.var 0) (.cons (.cst (.int 5)) .nil))) .nil))) .nil))))
  (.cons (.for_ (.nm 4) (.rng1 (.call "_law_take" (.cons (.var 0) (.cons (.prim (.add false) (.cons (.var 2) (.cons (.cst (.int 1)) .nil))) .nil)))) (.cons (.asg (.nm 5) (.call "_law_sum" (.cons (.var 0) (.cons (.var 1) (.cons (.cst (.int 1)) .nil)))))
  (.cons (.asg (.nm 3) (.prim .idx (.cons (.prim (.lst false) (.cons (.prim .tup (.cons (.cst (.str "plus")) (.cons (.var 5) (.cons (.var 3) .nil)))) (.cons (.prim .tup (.cons (.cst (.str "plus")) (.cons (.var 3) (.cons (.var 5) .nil)))) (.cons (.prim .tup (.cons (.cst (.str "less")) (.cons (.var 5) (.cons (.var 3) .nil)))) (.cons (.prim .tup (.cons (.cst (.str "less")) (.cons (.var 3) (.cons (.var 5) .nil)))) .nil))))) (.cons (.call "_law_take" (.cons (.var 0) (.cons (.cst (.int 4)) .nil))) .nil))))
  .nil)))
  (.cons (.ret (.var 3))
  .nil)))⟩
def d__law_bad_condition : Def := ⟨["deck", "names"], ["deck", "names", "bad", "good", "some", "found", "k", "other"],
  (.cons (.asg (.nm 2) (.call "_law_bad_sum" (.cons (.var 0) (.cons (.var 1) (.cons (.cst (.int 2)) .nil)))))
  (.cons (.asg (.nm 3) (.call "_law_sum" (.cons (.var 0) (.cons (.var 1) (.cons (.cst (.int 1)) .nil)))))
  (.cons (.asg (.nm 4) (.prim (.lst false) (.cons (.prim .tup (.cons (.cst (.str "same")) (.cons (.var 3) (.cons (.var 2) .nil)))) (.cons (.prim .tup (.cons (.cst (.str "under")) (.cons (.var 2) (.cons (.var 3) .nil)))) (.cons (.prim .tup (.cons (.cst (.str "under")) (.cons (.var 3) (.cons (.var 2) .nil)))) (.cons (.prim .tup (.cons (.cst (.str "same")) (.cons (.var 2) (.cons (.var 2) .nil)))) .nil))))))
  (.cons (.asg (.nm 5) (.prim .idx (.cons (.var 4) (.cons (.call "_law_take" (.cons (.var 0) (.cons (.cst (.int 4)) .nil))) .nil))))
  (.cons (.for_ (.nm 6) (.rng1 (.call "_law_take" (.cons (.var 0) (.cons (.cst (.int 3)) .nil)))) (.cons (.asg (.nm 7) (.call "_law_condition" (.cons (.var 0) (.cons (.var 1) (.cons (.cst (.int 1)) .nil)))))
  (.cons (.asg (.nm 4) (.prim (.lst false) (.cons (.prim .tup (.cons (.cst (.str "not")) (.cons (.var 5) .nil))) (.cons (.prim .tup (.cons (.cst (.str "both")) (.cons (.var 5) (.cons (.var 7) .nil)))) (.cons (.prim .tup (.cons (.cst (.str "both")) (.cons (.prim .tup (.cons (.cst (.str "not")) (.cons (.prim .tup (.cons (.cst (.str "yes")) .nil)) .nil))) (.cons (.var 5) .nil)))) (.cons (.prim .tup (.cons (.cst (.str "both")) (.cons (.var 7) (.cons (.var 5) .nil)))) .nil))))))
  (.cons (.asg (.nm 5) (.prim .idx (.cons (.var 4) (.cons (.call "_law_take" (.cons (.var 0) (.cons (.cst (.int 4)) .nil))) .nil))))
  .nil))))
  (.cons (.ret (.var 5))
  .nil))))))⟩
def d__law_asked : Def := ⟨["program", "worths", "told", "way"], ["program", "worths", "told", "way", "caught", "e", "kinds"],
  (.cons (.asg (.nm 4) (.cst .none))
  (.cons (.try_ 5 "TwinError" ["NoWorths", "NoProgram"] (.cons (.ite (.prim .eq (.cons (.var 3) (.cons (.cst (.int 0)) .nil))) (.cons (.expr (.call "sum_worth" (.cons (.var 0) (.cons (.var 1) (.cons (.var 2) .nil)))))
  .nil) (.cons (.ite (.prim .eq (.cons (.var 3) (.cons (.cst (.int 1)) .nil))) (.cons (.expr (.call "holds_at" (.cons (.var 0) (.cons (.var 1) (.cons (.var 2) .nil)))))
  .nil) (.cons (.expr (.call "step_from" (.cons (.var 0) (.cons (.cst (.int 0)) (.cons (.var 1) .nil)))))
  .nil))
  .nil))
  .nil) (.cons (.asg (.nm 4) (.var 5))
  .nil))
  (.cons (.ite (.prim .isN (.cons (.var 4) .nil)) (.cons (.ret (.cst (.str "told")))
  .nil) .nil)
  (.cons (.ite (.prim (.isExc true ["NoWorths", "NoProgram"] ["NoChange", "NoForm", "NoneYet", "NoNode", "NoPair", "NoPaper", "NoPicks", "NoRow", "TooMany"]) (.cons (.var 4) .nil)) (.cons (.ret (.cst (.str "other")))
  .nil) .nil)
  (.cons (.asg (.nm 6) (.prim (.lst false) (.cons (.prim (.isExc false ["NoWorths", "NoProgram"] ["NoWorths"]) (.cons (.var 4) .nil)) (.cons (.prim (.isExc false ["NoWorths", "NoProgram"] ["NoProgram"]) (.cons (.var 4) .nil)) .nil))))
  (.cons (.ite (.or (.cons (.not (.prim (.isExc false ["NoWorths", "NoProgram"] ["ValueError"]) (.cons (.var 4) .nil))) (.cons (.prim .ne (.cons (.meth .count (.var 6) (.cons (.cst (.bool true)) .nil)) (.cons (.cst (.int 1)) .nil))) .nil))) (.cons (.ret (.cst (.str "other")))
  .nil) .nil)
  (.cons (.ret (.prim .idx (.cons (.prim (.lst false) (.cons (.cst (.str "NoWorths")) (.cons (.cst (.str "NoProgram")) .nil))) (.cons (.meth .index (.var 6) (.cons (.cst (.bool true)) .nil)) .nil))))
  .nil)))))))⟩
def d__law_bad_ones : Def := ⟨["deck", "boxes"], ["deck", "boxes", "worths", "far", "found", "at", "bad"],
  (.cons (.asg (.nm 2) (.call "_law_worths" (.cons (.var 0) (.cons (.var 1) .nil))))
  (.cons (.asg (.nm 3) (.call "_law_take" (.cons (.var 0) (.cons (.prim .idx (.cons (.prim (.lst false) (.cons (.cst (.int 1)) (.cons (.cst (.int 3)) (.cons (.prim .pow (.cons (.cst (.int 10)) (.cons (.cst (.int 20)) .nil))) .nil)))) (.cons (.call "_law_take" (.cons (.var 0) (.cons (.cst (.int 3)) .nil))) .nil))) .nil))))
  (.cons (.asg (.nm 4) (.prim (.lst true) (.cons (.prim (.add false) (.cons (.var 2) (.cons (.prim (.lst false) (.cons (.cst (.int 0)) .nil)) .nil))) (.cons (.prim (.add false) (.cons (.var 2) (.cons (.prim .mul (.cons (.prim (.lst false) (.cons (.cst (.int 0)) .nil)) (.cons (.prim (.add false) (.cons (.cst (.int 1)) (.cons (.call "_law_take" (.cons (.var 0) (.cons (.cst (.int 5)) .nil))) .nil))) .nil))) .nil))) .nil))))
  (.cons (.ite (.prim .ne (.cons (.var 1) (.cons (.prim (.lst false) .nil) .nil))) (.cons (.asg (.nm 5) (.call "_law_take" (.cons (.var 0) (.cons (.prim .len (.cons (.var 1) .nil)) .nil))))
  (.cons (.asg (.nm 4) (.prim (.add true) (.cons (.var 4) (.cons (.prim (.lst false) (.cons (.prim (.slc false false true) (.cons (.var 2) (.cons (.prim .neg (.cons (.cst (.int 1)) .nil)) .nil))) (.cons (.prim (.lst false) .nil) .nil))) .nil))))
  (.cons (.for_ (.nm 6) (.seq (.prim (.lst false) (.cons (.prim .sub (.cons (.prim .neg (.cons (.cst (.int 1)) .nil)) (.cons (.var 3) .nil))) (.cons (.prim (.add false) (.cons (.prim .idx (.cons (.prim .idx (.cons (.var 1) (.cons (.var 5) .nil))) (.cons (.cst (.int 1)) .nil))) (.cons (.var 3) .nil))) .nil)))) (.cons (.expr (.meth .append (.var 4) (.cons (.prim (.add false) (.cons (.prim (.add false) (.cons (.prim (.slc false false true) (.cons (.var 2) (.cons (.var 5) .nil))) (.cons (.prim (.lst false) (.cons (.var 6) .nil)) .nil))) (.cons (.prim (.slc false true false) (.cons (.var 2) (.cons (.prim (.add false) (.cons (.var 5) (.cons (.cst (.int 1)) .nil))) .nil))) .nil))) .nil)))
  .nil))
  .nil))) .nil)
  (.cons (.ret (.frz (.var 4)))
  .nil)))))⟩
def d_law : Def := ⟨["script"], ["script", "cell", "deck", "program", "names", "bad", "sums", "conditions", "worths", "told", "handed", "k", "name", "size"],
  (.cons (.for_ (.nm 1) (.seq (.prim (.add false) (.cons (.prim (.lst false) (.cons (.prim .pow (.cons (.cst (.int 10)) (.cons (.cst (.int 18)) .nil))) .nil)) (.cons (.prim (.slc false false true) (.cons (.var 0) (.cons (.cst (.int 15)) .nil))) .nil)))) (.cons (.asg (.nm 2) (.call "_law_deck" (.cons (.var 1) .nil)))
  (.cons (.asg (.nm 3) (.call "_law_program" (.cons (.var 2) (.cons (.cst (.int 3)) .nil))))
  (.cons (.asg (.nm 4) (.comp false [12, 13] (.tup [(.nm 12), (.nm 13)]) (.seq (.prim .idx (.cons (.var 3) (.cons (.cst (.int 0)) .nil)))) .nil (.var 12)))
  (.cons (.asg (.nm 5) (.prim .tup (.cons (.cst (.str "box")) (.cons (.prim .idx (.cons (.prim (.lst false) (.cons (.cst (.str "b")) (.cons (.cst (.str "boxes")) (.cons (.cst (.str "x")) .nil)))) (.cons (.call "_law_take" (.cons (.var 2) (.cons (.cst (.int 3)) .nil))) .nil))) .nil))))
  (.cons (.asg (.nm 6) (.prim (.lst true) (.cons (.call "_law_sum" (.cons (.var 2) (.cons (.var 4) (.cons (.cst (.int 2)) .nil)))) (.cons (.prim .tup (.cons (.cst (.str "less")) (.cons (.call "_law_sum" (.cons (.var 2) (.cons (.var 4) (.cons (.cst (.int 1)) .nil)))) (.cons (.prim .tup (.cons (.cst (.str "plus")) (.cons (.var 5) (.cons (.prim .tup (.cons (.cst (.str "number")) (.cons (.cst (.int 0)) .nil))) .nil)))) .nil)))) .nil))))
  (.cons (.expr (.meth .append (.var 6) (.cons (.call "_law_bad_sum" (.cons (.var 2) (.cons (.var 4) (.cons (.cst (.int 3)) .nil)))) .nil)))
  (.cons (.asg (.nm 7) (.prim (.lst true) (.cons (.call "_law_condition" (.cons (.var 2) (.cons (.var 4) (.cons (.cst (.int 2)) .nil)))) (.cons (.prim .tup (.cons (.cst (.str "both")) (.cons (.prim .tup (.cons (.cst (.str "not")) (.cons (.prim .tup (.cons (.cst (.str "yes")) .nil)) .nil))) (.cons (.prim .tup (.cons (.cst (.str "under")) (.cons (.var 5) (.cons (.prim .tup (.cons (.cst (.str "number")) (.cons (.cst (.int 3)) .nil))) .nil)))) .nil)))) .nil))))
  (.cons (.expr (.meth .append (.var 7) (.cons (.call "_law_bad_condition" (.cons (.var 2) (.cons (.var 4) .nil))) .nil)))
  (.cons (.for_ (.nm 8) (.seq (.call "_law_bad_ones" (.cons (.var 2) (.cons (.prim .idx (.cons (.var 3) (.cons (.cst (.int 0)) .nil))) .nil)))) (.cons (.asg (.nm 10) (.prim (.listOf false) (.cons (.var 8) .nil)))
  (.cons (.asg (.nm 9) (.comp true [11] (.nm 11) (.rng1 (.cst (.int 3))) .nil (.call "_law_asked" (.cons (.var 3) (.cons (.var 10) (.cons (.prim .idx (.cons (.var 6) (.cons (.var 11) .nil))) (.cons (.cst (.int 0)) .nil)))))))
  (.cons (.asg (.nm 9) (.prim (.add true) (.cons (.var 9) (.cons (.comp false [11] (.nm 11) (.rng1 (.cst (.int 3))) .nil (.call "_law_asked" (.cons (.var 3) (.cons (.var 10) (.cons (.prim .idx (.cons (.var 7) (.cons (.var 11) .nil))) (.cons (.cst (.int 1)) .nil)))))) .nil))))
  (.cons (.expr (.meth .append (.var 9) (.cons (.call "_law_asked" (.cons (.var 3) (.cons (.var 10) (.cons (.cst .none) (.cons (.cst (.int 2)) .nil))))) .nil)))
  (.cons (.ite (.or (.cons (.prim .ne (.cons (.var 9) (.cons (.prim .mul (.cons (.prim (.lst false) (.cons (.cst (.str "NoWorths")) .nil)) (.cons (.cst (.int 7)) .nil))) .nil))) (.cons (.prim .ne (.cons (.var 10) (.cons (.var 8) .nil))) .nil))) (.cons (.ret (.cst (.bool false)))
  .nil) .nil)
  .nil))))))
  (.cons (.asg (.nm 8) (.call "_law_worths" (.cons (.var 2) (.cons (.prim .idx (.cons (.var 3) (.cons (.cst (.int 0)) .nil))) .nil))))
  (.cons (.asg (.nm 9) (.comp true [11] (.nm 11) (.rng1 (.cst (.int 3))) .nil (.call "_law_asked" (.cons (.var 3) (.cons (.prim (.listOf false) (.cons (.var 8) .nil)) (.cons (.prim .idx (.cons (.var 6) (.cons (.var 11) .nil))) (.cons (.cst (.int 0)) .nil)))))))
  (.cons (.asg (.nm 9) (.prim (.add true) (.cons (.var 9) (.cons (.comp false [11] (.nm 11) (.rng1 (.cst (.int 3))) .nil (.call "_law_asked" (.cons (.var 3) (.cons (.prim (.listOf false) (.cons (.var 8) .nil)) (.cons (.prim .idx (.cons (.var 7) (.cons (.var 11) .nil))) (.cons (.cst (.int 1)) .nil)))))) .nil))))
  (.cons (.ite (.prim .ne (.cons (.var 9) (.cons (.prim .mul (.cons (.prim (.lst false) (.cons (.cst (.str "told")) (.cons (.cst (.str "NoProgram")) (.cons (.cst (.str "NoProgram")) .nil)))) (.cons (.cst (.int 2)) .nil))) .nil))) (.cons (.ret (.cst (.bool false)))
  .nil) .nil)
  (.cons (.ite (.prim .ne (.cons (.call "_law_asked" (.cons (.var 3) (.cons (.prim (.listOf false) (.cons (.var 8) .nil)) (.cons (.cst .none) (.cons (.cst (.int 2)) .nil))))) (.cons (.cst (.str "told")) .nil))) (.cons (.ret (.cst (.bool false)))
  .nil) .nil)
  .nil)))))))))))))))
  (.cons (.ret (.cst (.bool true)))
  .nil))⟩
def top (i : Nat) : Stmt := PySem.Challenge.pw_twinwalk_k05_no_worths.main.body.getD i (.Pass ⟨0, 0, 0, 0⟩)
abbrev i_boxes_named : Item := ⟨"boxes_named", top 14, PL.A.d_boxes_named⟩
abbrev i_names_of : Item := ⟨"names_of", top 15, PL.A.d_names_of⟩
abbrev i_worth_in : Item := ⟨"worth_in", top 16, PL.A.d_worth_in⟩
abbrev i_holds_in : Item := ⟨"holds_in", top 17, PL.A.d_holds_in⟩
abbrev i_need_worths : Item := ⟨"need_worths", top 18, PL.A.d_need_worths⟩
abbrev i_known_by : Item := ⟨"known_by", top 19, PL.A.d_known_by⟩
abbrev i_need_known : Item := ⟨"need_known", top 20, PL.A.d_need_known⟩
abbrev i_sum_worth : Item := ⟨"sum_worth", top 21, PL.A.d_sum_worth⟩
abbrev i_holds_at : Item := ⟨"holds_at", top 22, PL.A.d_holds_at⟩
abbrev i_step_from : Item := ⟨"step_from", top 24, PL.A.d_step_fromF⟩
abbrev i__law_stir : Item := ⟨"_law_stir", top 26, PL.A.d__law_stir⟩
abbrev i__law_deck : Item := ⟨"_law_deck", top 27, PL.A.d__law_deck⟩
abbrev i__law_take : Item := ⟨"_law_take", top 28, PL.A.d__law_take⟩
abbrev i__law_sum : Item := ⟨"_law_sum", top 29, PL.A.d__law_sum9⟩
abbrev i__law_condition : Item := ⟨"_law_condition", top 30, PL.A.d__law_condition⟩
abbrev i__law_boxes : Item := ⟨"_law_boxes", top 31, PL.A.d__law_boxes⟩
abbrev i__law_node : Item := ⟨"_law_node", top 32, PL.A.d__law_node⟩
abbrev i__law_program : Item := ⟨"_law_program", top 33, PL.A.d__law_program⟩
abbrev i__law_worths : Item := ⟨"_law_worths", top 35, PL.A.d__law_worths⟩
abbrev i__law_bad_sum : Item := ⟨"_law_bad_sum", top 37, d__law_bad_sum⟩
abbrev i__law_bad_condition : Item := ⟨"_law_bad_condition", top 38, d__law_bad_condition⟩
abbrev i__law_asked : Item := ⟨"_law_asked", top 39, d__law_asked⟩
abbrev i__law_bad_ones : Item := ⟨"_law_bad_ones", top 40, d__law_bad_ones⟩
abbrev i_law : Item := ⟨"law", top 41, d_law⟩
def its : List Item := [i_boxes_named, i_names_of, i_worth_in, i_holds_in, i_need_worths, i_known_by, i_need_known, i_sum_worth, i_holds_at, i_step_from, i__law_stir, i__law_deck, i__law_take, i__law_sum, i__law_condition, i__law_boxes, i__law_node, i__law_program, i__law_worths, i__law_bad_sum, i__law_bad_condition, i__law_asked, i__law_bad_ones, i_law]
abbrev D0 : Defs := defsOf its
def gl : List String := ["dict", "int", "isinstance", "len", "list", "range", "tuple", "zip"]
def fs : List String := ["boxes_named", "names_of", "worth_in", "holds_in", "need_worths", "known_by", "need_known", "sum_worth", "holds_at", "step_from", "_law_stir", "_law_deck", "_law_take", "_law_sum", "_law_condition", "_law_boxes", "_law_node", "_law_program", "_law_worths", "_law_bad_sum", "_law_bad_condition", "_law_asked", "_law_bad_ones", "law"]
def xs : List String := ["NoWorths", "NoProgram"]
def ys : List String := ["NoWorths", "NoProgram", "NoChange", "NoForm", "NoneYet", "NoNode", "NoPair", "NoPaper", "NoPicks", "NoRow", "TooMany", "TwinError"]
theorem ck_boxes_named : okItem gl fs xs ys i_boxes_named = true := by decide +kernel
theorem ck_names_of : okItem gl fs xs ys i_names_of = true := by decide +kernel
theorem ck_worth_in : okItem gl fs xs ys i_worth_in = true := by decide +kernel
theorem ck_holds_in : okItem gl fs xs ys i_holds_in = true := by decide +kernel
theorem ck_need_worths : okItem gl fs xs ys i_need_worths = true := by decide +kernel
theorem ck_known_by : okItem gl fs xs ys i_known_by = true := by decide +kernel
theorem ck_need_known : okItem gl fs xs ys i_need_known = true := by decide +kernel
theorem ck_sum_worth : okItem gl fs xs ys i_sum_worth = true := by decide +kernel
theorem ck_holds_at : okItem gl fs xs ys i_holds_at = true := by decide +kernel
theorem ck_step_from : okItem gl fs xs ys i_step_from = true := by decide +kernel
theorem ck__law_stir : okItem gl fs xs ys i__law_stir = true := by decide +kernel
theorem ck__law_deck : okItem gl fs xs ys i__law_deck = true := by decide +kernel
theorem ck__law_take : okItem gl fs xs ys i__law_take = true := by decide +kernel
theorem ck__law_sum : okItem gl fs xs ys i__law_sum = true := by decide +kernel
theorem ck__law_condition : okItem gl fs xs ys i__law_condition = true := by decide +kernel
theorem ck__law_boxes : okItem gl fs xs ys i__law_boxes = true := by decide +kernel
theorem ck__law_node : okItem gl fs xs ys i__law_node = true := by decide +kernel
theorem ck__law_program : okItem gl fs xs ys i__law_program = true := by decide +kernel
theorem ck__law_worths : okItem gl fs xs ys i__law_worths = true := by decide +kernel
theorem ck__law_bad_sum : okItem gl fs xs ys i__law_bad_sum = true := by decide +kernel
theorem ck__law_bad_condition : okItem gl fs xs ys i__law_bad_condition = true := by decide +kernel
theorem ck__law_asked : okItem gl fs xs ys i__law_asked = true := by decide +kernel
theorem ck__law_bad_ones : okItem gl fs xs ys i__law_bad_ones = true := by decide +kernel
theorem ck_law : okItem gl fs xs ys i_law = true := by decide +kernel
theorem ck : its.all (okItem gl fs xs ys) = true := List.all_eq_true.mpr fun i hi => by
  simp only [its, List.mem_cons, List.not_mem_nil, or_false] at hi
  rcases hi with rfl | rfl | rfl | rfl | rfl | rfl | rfl | rfl | rfl | rfl | rfl | rfl | rfl | rfl | rfl | rfl | rfl | rfl | rfl | rfl | rfl | rfl | rfl | rfl
  · exact ck_boxes_named
  · exact ck_names_of
  · exact ck_worth_in
  · exact ck_holds_in
  · exact ck_need_worths
  · exact ck_known_by
  · exact ck_need_known
  · exact ck_sum_worth
  · exact ck_holds_at
  · exact ck_step_from
  · exact ck__law_stir
  · exact ck__law_deck
  · exact ck__law_take
  · exact ck__law_sum
  · exact ck__law_condition
  · exact ck__law_boxes
  · exact ck__law_node
  · exact ck__law_program
  · exact ck__law_worths
  · exact ck__law_bad_sum
  · exact ck__law_bad_condition
  · exact ck__law_asked
  · exact ck__law_bad_ones
  · exact ck_law
theorem nd : (its.map (·.nm)).Nodup := by decide +kernel
theorem me_boxes_named : i_boxes_named ∈ its := .head _
theorem lk_boxes_named : D0.lookup "boxes_named" = some PL.A.d_boxes_named := look_of nd me_boxes_named
theorem me_names_of : i_names_of ∈ its := .tail _ (.head _)
theorem lk_names_of : D0.lookup "names_of" = some PL.A.d_names_of := look_of nd me_names_of
theorem me_worth_in : i_worth_in ∈ its := .tail _ (.tail _ (.head _))
theorem lk_worth_in : D0.lookup "worth_in" = some PL.A.d_worth_in := look_of nd me_worth_in
theorem me_holds_in : i_holds_in ∈ its := .tail _ (.tail _ (.tail _ (.head _)))
theorem lk_holds_in : D0.lookup "holds_in" = some PL.A.d_holds_in := look_of nd me_holds_in
theorem me_need_worths : i_need_worths ∈ its := .tail _ (.tail _ (.tail _ (.tail _ (.head _))))
theorem lk_need_worths : D0.lookup "need_worths" = some PL.A.d_need_worths := look_of nd me_need_worths
theorem me_known_by : i_known_by ∈ its := .tail _ (.tail _ (.tail _ (.tail _ (.tail _ (.head _)))))
theorem lk_known_by : D0.lookup "known_by" = some PL.A.d_known_by := look_of nd me_known_by
theorem me_need_known : i_need_known ∈ its := .tail _ (.tail _ (.tail _ (.tail _ (.tail _ (.tail _ (.head _))))))
theorem lk_need_known : D0.lookup "need_known" = some PL.A.d_need_known := look_of nd me_need_known
theorem me_sum_worth : i_sum_worth ∈ its := .tail _ (.tail _ (.tail _ (.tail _ (.tail _ (.tail _ (.tail _ (.head _)))))))
theorem lk_sum_worth : D0.lookup "sum_worth" = some PL.A.d_sum_worth := look_of nd me_sum_worth
theorem me_holds_at : i_holds_at ∈ its := .tail _ (.tail _ (.tail _ (.tail _ (.tail _ (.tail _ (.tail _ (.tail _ (.head _))))))))
theorem lk_holds_at : D0.lookup "holds_at" = some PL.A.d_holds_at := look_of nd me_holds_at
theorem me_step_from : i_step_from ∈ its := .tail _ (.tail _ (.tail _ (.tail _ (.tail _ (.tail _ (.tail _ (.tail _ (.tail _ (.head _)))))))))
theorem lk_step_from : D0.lookup "step_from" = some PL.A.d_step_fromF := look_of nd me_step_from
theorem me__law_stir : i__law_stir ∈ its := .tail _ (.tail _ (.tail _ (.tail _ (.tail _ (.tail _ (.tail _ (.tail _ (.tail _ (.tail _ (.head _))))))))))
theorem lk__law_stir : D0.lookup "_law_stir" = some PL.A.d__law_stir := look_of nd me__law_stir
theorem me__law_deck : i__law_deck ∈ its := .tail _ (.tail _ (.tail _ (.tail _ (.tail _ (.tail _ (.tail _ (.tail _ (.tail _ (.tail _ (.tail _ (.head _)))))))))))
theorem lk__law_deck : D0.lookup "_law_deck" = some PL.A.d__law_deck := look_of nd me__law_deck
theorem me__law_take : i__law_take ∈ its := .tail _ (.tail _ (.tail _ (.tail _ (.tail _ (.tail _ (.tail _ (.tail _ (.tail _ (.tail _ (.tail _ (.tail _ (.head _))))))))))))
theorem lk__law_take : D0.lookup "_law_take" = some PL.A.d__law_take := look_of nd me__law_take
theorem me__law_sum : i__law_sum ∈ its := .tail _ (.tail _ (.tail _ (.tail _ (.tail _ (.tail _ (.tail _ (.tail _ (.tail _ (.tail _ (.tail _ (.tail _ (.tail _ (.head _)))))))))))))
theorem lk__law_sum : D0.lookup "_law_sum" = some PL.A.d__law_sum9 := look_of nd me__law_sum
theorem me__law_condition : i__law_condition ∈ its := .tail _ (.tail _ (.tail _ (.tail _ (.tail _ (.tail _ (.tail _ (.tail _ (.tail _ (.tail _ (.tail _ (.tail _ (.tail _ (.tail _ (.head _))))))))))))))
theorem lk__law_condition : D0.lookup "_law_condition" = some PL.A.d__law_condition := look_of nd me__law_condition
theorem me__law_boxes : i__law_boxes ∈ its := .tail _ (.tail _ (.tail _ (.tail _ (.tail _ (.tail _ (.tail _ (.tail _ (.tail _ (.tail _ (.tail _ (.tail _ (.tail _ (.tail _ (.tail _ (.head _)))))))))))))))
theorem lk__law_boxes : D0.lookup "_law_boxes" = some PL.A.d__law_boxes := look_of nd me__law_boxes
theorem me__law_node : i__law_node ∈ its := .tail _ (.tail _ (.tail _ (.tail _ (.tail _ (.tail _ (.tail _ (.tail _ (.tail _ (.tail _ (.tail _ (.tail _ (.tail _ (.tail _ (.tail _ (.tail _ (.head _))))))))))))))))
theorem lk__law_node : D0.lookup "_law_node" = some PL.A.d__law_node := look_of nd me__law_node
theorem me__law_program : i__law_program ∈ its := .tail _ (.tail _ (.tail _ (.tail _ (.tail _ (.tail _ (.tail _ (.tail _ (.tail _ (.tail _ (.tail _ (.tail _ (.tail _ (.tail _ (.tail _ (.tail _ (.tail _ (.head _)))))))))))))))))
theorem lk__law_program : D0.lookup "_law_program" = some PL.A.d__law_program := look_of nd me__law_program
theorem me__law_worths : i__law_worths ∈ its := .tail _ (.tail _ (.tail _ (.tail _ (.tail _ (.tail _ (.tail _ (.tail _ (.tail _ (.tail _ (.tail _ (.tail _ (.tail _ (.tail _ (.tail _ (.tail _ (.tail _ (.tail _ (.head _))))))))))))))))))
theorem lk__law_worths : D0.lookup "_law_worths" = some PL.A.d__law_worths := look_of nd me__law_worths
theorem me__law_bad_sum : i__law_bad_sum ∈ its := .tail _ (.tail _ (.tail _ (.tail _ (.tail _ (.tail _ (.tail _ (.tail _ (.tail _ (.tail _ (.tail _ (.tail _ (.tail _ (.tail _ (.tail _ (.tail _ (.tail _ (.tail _ (.tail _ (.head _)))))))))))))))))))
theorem lk__law_bad_sum : D0.lookup "_law_bad_sum" = some d__law_bad_sum := look_of nd me__law_bad_sum
theorem me__law_bad_condition : i__law_bad_condition ∈ its := .tail _ (.tail _ (.tail _ (.tail _ (.tail _ (.tail _ (.tail _ (.tail _ (.tail _ (.tail _ (.tail _ (.tail _ (.tail _ (.tail _ (.tail _ (.tail _ (.tail _ (.tail _ (.tail _ (.tail _ (.head _))))))))))))))))))))
theorem lk__law_bad_condition : D0.lookup "_law_bad_condition" = some d__law_bad_condition := look_of nd me__law_bad_condition
theorem me__law_asked : i__law_asked ∈ its := .tail _ (.tail _ (.tail _ (.tail _ (.tail _ (.tail _ (.tail _ (.tail _ (.tail _ (.tail _ (.tail _ (.tail _ (.tail _ (.tail _ (.tail _ (.tail _ (.tail _ (.tail _ (.tail _ (.tail _ (.tail _ (.head _)))))))))))))))))))))
theorem lk__law_asked : D0.lookup "_law_asked" = some d__law_asked := look_of nd me__law_asked
theorem me__law_bad_ones : i__law_bad_ones ∈ its := .tail _ (.tail _ (.tail _ (.tail _ (.tail _ (.tail _ (.tail _ (.tail _ (.tail _ (.tail _ (.tail _ (.tail _ (.tail _ (.tail _ (.tail _ (.tail _ (.tail _ (.tail _ (.tail _ (.tail _ (.tail _ (.tail _ (.head _))))))))))))))))))))))
theorem lk__law_bad_ones : D0.lookup "_law_bad_ones" = some d__law_bad_ones := look_of nd me__law_bad_ones
theorem me_law : i_law ∈ its := .tail _ (.tail _ (.tail _ (.tail _ (.tail _ (.tail _ (.tail _ (.tail _ (.tail _ (.tail _ (.tail _ (.tail _ (.tail _ (.tail _ (.tail _ (.tail _ (.tail _ (.tail _ (.tail _ (.tail _ (.tail _ (.tail _ (.tail _ (.head _)))))))))))))))))))))))
theorem lk_law : D0.lookup "law" = some d_law := look_of nd me_law
theorem fsm : ∀ f ∈ fs, ∃ i ∈ its, i.nm = f := fun f hf => by
  simp only [fs, List.mem_cons, List.not_mem_nil, or_false] at hf
  rcases hf with rfl | rfl | rfl | rfl | rfl | rfl | rfl | rfl | rfl | rfl | rfl | rfl | rfl | rfl | rfl | rfl | rfl | rfl | rfl | rfl | rfl | rfl | rfl | rfl
  · exact ⟨_, me_boxes_named, rfl⟩
  · exact ⟨_, me_names_of, rfl⟩
  · exact ⟨_, me_worth_in, rfl⟩
  · exact ⟨_, me_holds_in, rfl⟩
  · exact ⟨_, me_need_worths, rfl⟩
  · exact ⟨_, me_known_by, rfl⟩
  · exact ⟨_, me_need_known, rfl⟩
  · exact ⟨_, me_sum_worth, rfl⟩
  · exact ⟨_, me_holds_at, rfl⟩
  · exact ⟨_, me_step_from, rfl⟩
  · exact ⟨_, me__law_stir, rfl⟩
  · exact ⟨_, me__law_deck, rfl⟩
  · exact ⟨_, me__law_take, rfl⟩
  · exact ⟨_, me__law_sum, rfl⟩
  · exact ⟨_, me__law_condition, rfl⟩
  · exact ⟨_, me__law_boxes, rfl⟩
  · exact ⟨_, me__law_node, rfl⟩
  · exact ⟨_, me__law_program, rfl⟩
  · exact ⟨_, me__law_worths, rfl⟩
  · exact ⟨_, me__law_bad_sum, rfl⟩
  · exact ⟨_, me__law_bad_condition, rfl⟩
  · exact ⟨_, me__law_asked, rfl⟩
  · exact ⟨_, me__law_bad_ones, rfl⟩
  · exact ⟨_, me_law, rfl⟩
def badL : List Str := ["b", "boxes", "longnam", "x", "nobox"]
theorem bad_new : ∀ y ∈ badL, y ∉ A.base8 ∧ PyData.strOk y = true := by decide +kernel
/-- with one name more -/
def wide (names : List Str) (y : Str) : List Str := names ++ [y]
theorem wide_nm {names : List Str} {y : Str} (h : A.Nm names) (l : names.length ≤ 4) (hy : y ∈ badL) : A.Nm (wide names y) := ⟨by simp [wide]; omega, fun x hx => by
  rcases List.mem_append.mp hx with hx | hx
  · exact h.ok x hx
  · rw [List.mem_singleton] at hx
    subst hx
    exact (bad_new x hy).2⟩
theorem wide_sub {names : List Str} {y : Str} : ∀ x ∈ names, x ∈ wide names y := fun x hx => List.mem_append_left _ hx
theorem wide_in {names : List Str} {y : Str} : y ∈ wide names y := by simp [wide]
/-- a sum with a box that is none -/
structure Bs1 (names : List Str) (N : Nat) (y : Str) (s : A.Sm) : Prop where
  new : y ∈ badL
  good : s.good (wide names y) N
  has : y ∈ s.bxs
theorem Bs1.mono {names : List Str} {N M : Nat} {y : Str} {s : A.Sm} (b : Bs1 names N y s) (h : N ≤ M) : Bs1 names M y s := ⟨b.new, A.good_mono h b.good, b.has⟩
theorem Bs1.put {names : List Str} {N : Nat} {y : Str} {a b : A.Sm} (hb : Bs1 names N y b) (ga : a.good names N) : Bs1 names (N + 1) y (.plus a b) ∧ Bs1 names (N + 1) y (.plus b a) ∧ Bs1 names (N + 1) y (.less a b) ∧ Bs1 names (N + 1) y (.less b a) := by
  have ga2 := A.sm_sub (names' := wide names y) wide_sub ga
  have hs := hb.has
  exact ⟨⟨hb.new, ⟨ga2, hb.good⟩, by simp [A.Sm.bxs, hs]⟩, ⟨hb.new, ⟨hb.good, ga2⟩, by simp [A.Sm.bxs, hs]⟩, ⟨hb.new, ⟨ga2, hb.good⟩, by simp [A.Sm.bxs, hs]⟩, ⟨hb.new, ⟨hb.good, ga2⟩, by simp [A.Sm.bxs, hs]⟩⟩
def bsB : Ss := d__law_bad_sum.body
def bs1 : Ss := takeS 1 bsB
def bs2 : Ss := dropS 1 bsB
theorem badsum_loop (G : A.Gn D0) {names : List Str} (hN : A.Nm names) {dp : Int} (d0 : 0 ≤ dp) (d3 : dp ≤ 14) {k n : Nat} {h0 h : Hh} (S : A.Sl n h0 h) {y : Str} {s : A.Sm} (b : Bs1 names 2 y s) {Q : PV → Hh → Prop} (q : ∀ (s : A.Sm) h', Bs1 names 17 y s → A.Sl n h0 h' → Q (.d s.d) h') {Z : Zs} (hz : Z.rt = Q) :
    ws (exs (callN D0 (k + 4)) bs2 [some (.cell n), some (.d (A.nL names)), some (.d (.int dp)), some (.d s.d), none, none] h) Z := by
  simp [bs2, dropS, bsB, d__law_bad_sum, primM]
  refine A.take_run (k := k + 3) G S.dk (by omega) (A.pow30 (by omega) (by omega)) fun m h1 m0 m1 s1 => ?_
  have hm : -16777216 ≤ m ∧ m ≤ 16777216 := by omega
  simp [line, hm]
  obtain ⟨I, hI⟩ : ∃ I : List PV → Ee → Hh → Prop, I = fun r e h2 => ∃ (t : Nat) (s : A.Sm) (z4 z5 : Option PV), e = [some (.cell n), some (.d (A.nL names)), some (.d (.int dp)), some (.d s.d), z4, z5] ∧ A.Sl n h0 h2 ∧ Bs1 names (t + 2) y s ∧ t + r.length ≤ 15 := ⟨_, rfl⟩
  refine for_rule I ?_ ?_ _ _ _ ?_
  · intro v r e h2 hi
    rw [hI] at hi
    obtain ⟨t, s, z4, z5, rfl, S2, b2, hl⟩ := hi
    simp [sT, setT, primM]
    refine A.sum_run G hN 1 (k + 1) n h2 S2.dk fun g h3 gg s3 => ?_
    simp [line]
    refine A.take_run (k := k + 3) G s3.1.dk (by decide) (by decide) fun t4 h4 t40 t41 s4 => ?_
    have S4 := (S2.trans s3.1).trans s4.1
    obtain ⟨c1, c2, c3, c4⟩ := b2.put (A.good_mono (by omega) gg)
    simp
    refine A.wp_pick t40 t41 fun sd hs => ?_
    have fin : ∀ s' : A.Sm, Bs1 names (t + 3) y s' → I r [some (.cell n), some (.d (A.nL names)), some (.d (.int dp)), some (.d s'.d), some v, some (.d g.d)] h4 := fun s' b' => by
      rw [hI]
      exact ⟨t + 1, s', _, _, rfl, S4, b', by rw [List.length_cons] at hl; omega⟩
    simp only [List.mem_cons, List.not_mem_nil, or_false] at hs
    rcases hs with rfl | rfl | rfl | rfl
    · simpa [A.Sm.d] using fin _ c1
    · simpa [A.Sm.d] using fin _ c2
    · simpa [A.Sm.d] using fin _ c3
    · simpa [A.Sm.d] using fin _ c4
  · intro e h2 hi
    rw [hI] at hi
    obtain ⟨t, s, z4, z5, rfl, S2, b2, hl⟩ := hi
    simp [hz]
    exact q s h2 (b2.mono (by omega)) S2
  · rw [hI]
    refine ⟨0, s, none, none, rfl, S.trans s1.1, b, ?_⟩
    rw [rngL_len]
    omega
theorem badsum_run (G : A.Gn D0) {names : List Str} (hN : A.Nm names) {deep : Int} (d0 : 0 ≤ deep) (d3 : deep ≤ 14) {k n : Nat} {h : Hh} (d : A.Dk n h) {Q : PV → Hh → Prop} (q : ∀ (y : Str) (s : A.Sm) h', Bs1 names 17 y s → A.Sc n h h' → Q (.d s.d) h') :
    wp (callN D0 (k + 5) "_law_bad_sum" [.cell n, .d (A.nL names), .d (.int deep)] h) Q := by
  refine call_rule (k := k + 4) lk__law_bad_sum rfl ?_
  show ws (exs (callN D0 (k + 4)) (appS bs1 bs2) [some (.cell n), some (.d (A.nL names)), some (.d (.int deep)), none, none, none] h) _
  rw [W_app]
  simp [bs1, takeS, bsB, d__law_bad_sum, primM, line]
  refine A.take_run (k := k + 3) G d (by decide) (by decide) fun t1 h1 t10 t11 s1 => ?_
  try simp
  refine A.wp_pick t10 t11 fun yd hy => ?_
  obtain ⟨y, rfl, hb⟩ : ∃ y, yd = .str y ∧ y ∈ badL := by
    simp only [List.mem_cons, List.not_mem_nil, or_false] at hy
    rcases hy with rfl | rfl | rfl | rfl | rfl <;> exact ⟨_, rfl, by simp [badL]⟩
  try simp
  have b0 : Bs1 names 2 y (.box y) := ⟨hb, wide_in, by simp [A.Sm.bxs]⟩
  exact badsum_loop G hN d0 d3 s1.1 b0 (Q := fun v h' => wp (pack h.length v h') Q) (fun s h' b' S' => q y s _ b' (A.Sl.cut d S')) rfl
structure Bc1 (names : List Str) (N : Nat) (y : Str) (c : A.Cn) : Prop where
  new : y ∈ badL
  good : c.good (wide names y) N
  has : y ∈ c.bxs
theorem Bc1.mono {names : List Str} {N M : Nat} {y : Str} {s : A.Cn} (b : Bc1 names N y s) (h : N ≤ M) : Bc1 names M y s := ⟨b.new, A.cgood_mono h b.good, b.has⟩
theorem Bc1.put {names : List Str} {N : Nat} {y : Str} {a b : A.Cn} (hb : Bc1 names (N + 2) y b) (ga : a.good names (N + 2)) : Bc1 names (N + 3) y (.not b) ∧ Bc1 names (N + 3) y (.both b a) ∧ Bc1 names (N + 3) y (.both (.not .yes) b) ∧ Bc1 names (N + 3) y (.both a b) := by
  have ga2 := A.cn_sub (names' := wide names y) wide_sub ga
  have hs := hb.has
  exact ⟨⟨hb.new, hb.good, hs⟩, ⟨hb.new, ⟨hb.good, ga2⟩, by simp [A.Cn.bxs, hs]⟩, ⟨hb.new, ⟨True.intro, hb.good⟩, by simp [A.Cn.bxs, hs]⟩, ⟨hb.new, ⟨ga2, hb.good⟩, by simp [A.Cn.bxs, hs]⟩⟩
theorem badcond_run (G : A.Gn D0) {names : List Str} (hN : A.Nm names) {k n : Nat} {h : Hh} (d : A.Dk n h) {Q : PV → Hh → Prop} (q : ∀ (y : Str) (s : A.Cn) h', Bc1 names 20 y s → A.Sc n h h' → Q (.d s.d) h') :
    wp (callN D0 (k + 6) "_law_bad_condition" [.cell n, .d (A.nL names)] h) Q := by
  refine call_rule (k := k + 5) lk__law_bad_condition rfl ?_
  simp [d__law_bad_condition, startE, primM]
  refine badsum_run (k := k) G hN (by decide) (by decide) d fun y s h1 b s1 => ?_
  try simp
  refine A.sum_run G hN 1 (k + 2) n h1 s1.1.dk fun g h2 gg s2 => ?_
  simp [line]
  refine A.take_run (k := k + 4) G s2.1.dk (by decide) (by decide) fun t h3 t0 t1 s3 => ?_
  have S3 := (s1.1.trans s2.1).trans s3.1
  have gg2 := A.sm_sub (names' := wide names y) wide_sub (A.good_mono (m := 17) (by decide) gg)
  have hs := b.has
  try simp
  refine A.wp_pick t0 t1 fun cd hc => ?_
  obtain ⟨c, rfl, bc⟩ : ∃ c : A.Cn, cd = c.d ∧ Bc1 names 17 y c := by
    simp only [List.mem_cons, List.not_mem_nil, or_false] at hc
    rcases hc with rfl | rfl | rfl | rfl
    · exact ⟨.same g s, rfl, b.new, ⟨gg2, b.good⟩, by simp [A.Cn.bxs, hs]⟩
    · exact ⟨.under s g, rfl, b.new, ⟨b.good, gg2⟩, by simp [A.Cn.bxs, hs]⟩
    · exact ⟨.under g s, rfl, b.new, ⟨gg2, b.good⟩, by simp [A.Cn.bxs, hs]⟩
    · exact ⟨.same s s, rfl, b.new, ⟨b.good, b.good⟩, by simp [A.Cn.bxs, hs]⟩
  try simp
  refine A.take_run (k := k + 4) G S3.dk (by decide) (by decide) fun m h4 m0 m1 s4 => ?_
  have hm : -16777216 ≤ m ∧ m ≤ 16777216 := by omega
  simp [line, hm]
  obtain ⟨I, hI⟩ : ∃ I : List PV → Ee → Hh → Prop, I = fun r e h2 => ∃ (t : Nat) (c : A.Cn) (z4 z6 z7 : Option PV), e = [some (.cell n), some (.d (A.nL names)), some (.d s.d), some (.d g.d), z4, some (.d c.d), z6, z7] ∧ A.Sl n h h2 ∧ Bc1 names (t + 17) y c ∧ t + r.length ≤ 2 := ⟨_, rfl⟩
  refine for_rule I ?_ ?_ _ _ _ ?_
  · intro v r e h5 hi
    rw [hI] at hi
    obtain ⟨t, c, z4, z6, z7, rfl, S5, b5, hl⟩ := hi
    simp [sT, setT, primM]
    refine A.cond_run G hN 1 (k + 1) n h5 S5.dk fun o h6 go s6 => ?_
    simp [line]
    refine A.take_run (k := k + 4) G s6.1.dk (by decide) (by decide) fun t7 h7 t70 t71 s7 => ?_
    have S7 := (S5.trans s6.1).trans s7.1
    obtain ⟨c1, c2, c3, c4⟩ := Bc1.put (N := t + 15) b5 (A.cgood_mono (by omega) go)
    simp
    refine A.wp_pick t70 t71 fun sd hs => ?_
    have fin : ∀ s' : A.Cn, Bc1 names (t + 15 + 3) y s' → ∀ z4 : Option PV, I r [some (.cell n), some (.d (A.nL names)), some (.d s.d), some (.d g.d), z4, some (.d s'.d), some v, some (.d o.d)] h7 := fun s' b' z4 => by
      rw [hI]
      exact ⟨t + 1, s', _, _, _, rfl, S7, b'.mono (by omega), by rw [List.length_cons] at hl; omega⟩
    simp only [List.mem_cons, List.not_mem_nil, or_false] at hs
    rcases hs with rfl | rfl | rfl | rfl
    · simpa [A.Cn.d] using fin _ c1 _
    · simpa [A.Cn.d] using fin _ c2 _
    · simpa [A.Cn.d] using fin _ c3 _
    · simpa [A.Cn.d] using fin _ c4 _
  · intro e h2 hi
    rw [hI] at hi
    obtain ⟨t, c, z4, z6, z7, rfl, S2, b2, hl⟩ := hi
    simp
    exact q y c _ (b2.mono (by omega)) (A.Sl.cut d S2)
  · rw [hI]
    refine ⟨0, c, _, none, none, rfl, S3.trans s4.1, bc, ?_⟩
    rw [rngL_len]
    omega
/-- a node that can't be -/
structure Bn (names : List Str) (many : Int) (s : A.Nd) : Prop where
  ex : ∃ y, y ∈ badL ∧ s.goodS 20 (wide names y) ∧ (y ∈ s.bxs ∨ ∃ t ∈ s.outs, ¬ (0 ≤ t ∧ t < many))
/-- what is told, or refused -/
def Told (r : Str) (h : Hh) (m : Out PV) : Prop := wx m (fun _ h1 => r = "told" ∧ h1 = h) fun x h1 => h1 = h ∧ ((x = "NoWorths" ∧ r = "NoWorths") ∨ (x = "NoProgram" ∧ r = "NoProgram"))
theorem cnt_tf (h : Hh) : countM (.d (.list [.bool true, .bool false])) (.d (.bool true)) h = .ok (.d (.int 1)) h := by
  have e : vw h (.d (.list [.bool true, .bool false])) = some (.list [.bool true, .bool false]) := by simp [vw]
  have o : ok2 (.list [.bool true, .bool false]) (.bool true) = true := by decide
  unfold countM
  simp only [e, o, if_true]
  rfl
theorem cnt_ft (h : Hh) : countM (.d (.list [.bool false, .bool true])) (.d (.bool true)) h = .ok (.d (.int 1)) h := by
  have e : vw h (.d (.list [.bool false, .bool true])) = some (.list [.bool false, .bool true]) := by simp [vw]
  have o : ok2 (.list [.bool false, .bool true]) (.bool true) = true := by decide
  unfold countM
  simp only [e, o, if_true]
  rfl
theorem ind_tf (h : Hh) : indexM (.d (.list [.bool true, .bool false])) (.d (.bool true)) h = .ok (.d (.int 0)) h := by
  have e : vw h (.d (.list [.bool true, .bool false])) = some (.list [.bool true, .bool false]) := by simp [vw]
  have o : ok2 (.list [.bool true, .bool false]) (.bool true) = true := by decide
  unfold indexM
  simp only [e, o, if_true]
  rfl
theorem ind_ft (h : Hh) : indexM (.d (.list [.bool false, .bool true])) (.d (.bool true)) h = .ok (.d (.int 1)) h := by
  have e : vw h (.d (.list [.bool false, .bool true])) = some (.list [.bool false, .bool true]) := by simp [vw]
  have o : ok2 (.list [.bool false, .bool true]) (.bool true) = true := by decide
  unfold indexM
  simp only [e, o, if_true]
  rfl
theorem isN_n : isNone (.d .none) = true := rfl
theorem isN_x (c : String) : isNone (.exc c) = false := rfl
def askE : Ss := dropS 2 d__law_asked.body
theorem ask_end {k : Nat} {h : Hh} {a b c d : Option PV} {r : Str} {x : PV} (hx : (x = .d .none ∧ r = "told") ∨ (x = .exc "NoWorths" ∧ r = "NoWorths") ∨ (x = .exc "NoProgram" ∧ r = "NoProgram")) {Q : PV → Hh → Prop} {Z : Zs} (hz : Z.rt = Q) (q : Q (.d (.str r)) h) : ws (exs (callN D0 k) askE [a, b, c, d, some x, none, none] h) Z := by
  rcases hx with ⟨rfl, rfl⟩ | ⟨rfl, rfl⟩ | ⟨rfl, rfl⟩
  · simp [askE, dropS, d__law_asked, primM, isN_n, hz]
    exact q
  · simp [askE, dropS, d__law_asked, primM, isN_x, hz, isExcM, isSub, line, cnt_tf, ind_tf, mTy, A.ok2_int, A.eqv_int, kindOk]
    exact q
  · simp [askE, dropS, d__law_asked, primM, isN_x, hz, isExcM, isSub, line, cnt_ft, ind_ft, mTy, A.ok2_int, A.eqv_int, kindOk]
    exact q
theorem asked0 {k : Nat} {h : Hh} {a b c : PyData} {r : Str} (w : Told r h (callN D0 k "sum_worth" [.d a, .d b, .d c] h)) {Q : PV → Hh → Prop} (q : Q (.d (.str r)) h) : wp (callN D0 (k + 1) "_law_asked" [.d a, .d b, .d c, .d (.int 0)] h) Q := by
  refine call_rule lk__law_asked rfl ?_
  show ws (exs (callN D0 k) (appS (takeS 2 d__law_asked.body) askE) [some (.d a), some (.d b), some (.d c), some (.d (.int 0)), none, none, none] h) _
  rw [W_app]
  simp [takeS, d__law_asked, primM, A.ok2_int, A.eqv_int]
  refine wx_mono w ?_ ?_
  · rintro v h1 ⟨rfl, rfl⟩
    exact ask_end (.inl ⟨rfl, rfl⟩) rfl (by simpa [pack] using q)
  · rintro x h1 ⟨rfl, ⟨rfl, rfl⟩ | ⟨rfl, rfl⟩⟩
    · simp [isSub]
      exact ask_end (.inr (.inl ⟨rfl, rfl⟩)) rfl (by simpa [pack] using q)
    · simp [isSub]
      exact ask_end (.inr (.inr ⟨rfl, rfl⟩)) rfl (by simpa [pack] using q)
theorem asked1 {k : Nat} {h : Hh} {a b c : PyData} {r : Str} (w : Told r h (callN D0 k "holds_at" [.d a, .d b, .d c] h)) {Q : PV → Hh → Prop} (q : Q (.d (.str r)) h) : wp (callN D0 (k + 1) "_law_asked" [.d a, .d b, .d c, .d (.int 1)] h) Q := by
  refine call_rule lk__law_asked rfl ?_
  show ws (exs (callN D0 k) (appS (takeS 2 d__law_asked.body) askE) [some (.d a), some (.d b), some (.d c), some (.d (.int 1)), none, none, none] h) _
  rw [W_app]
  simp [takeS, d__law_asked, primM, A.ok2_int, A.eqv_int]
  refine wx_mono w ?_ ?_
  · rintro v h1 ⟨rfl, rfl⟩
    exact ask_end (.inl ⟨rfl, rfl⟩) rfl (by simpa [pack] using q)
  · rintro x h1 ⟨rfl, ⟨rfl, rfl⟩ | ⟨rfl, rfl⟩⟩
    · simp [isSub]
      exact ask_end (.inr (.inl ⟨rfl, rfl⟩)) rfl (by simpa [pack] using q)
    · simp [isSub]
      exact ask_end (.inr (.inr ⟨rfl, rfl⟩)) rfl (by simpa [pack] using q)
theorem asked2 {k : Nat} {h : Hh} {a b c : PyData} {r : Str} (w : Told r h (callN D0 k "step_from" [.d a, .d (.int 0), .d b] h)) {Q : PV → Hh → Prop} (q : Q (.d (.str r)) h) : wp (callN D0 (k + 1) "_law_asked" [.d a, .d b, .d c, .d (.int 2)] h) Q := by
  refine call_rule lk__law_asked rfl ?_
  show ws (exs (callN D0 k) (appS (takeS 2 d__law_asked.body) askE) [some (.d a), some (.d b), some (.d c), some (.d (.int 2)), none, none, none] h) _
  rw [W_app]
  simp [takeS, d__law_asked, primM, A.ok2_int, A.eqv_int]
  refine wx_mono w ?_ ?_
  · rintro v h1 ⟨rfl, rfl⟩
    exact ask_end (.inl ⟨rfl, rfl⟩) rfl (by simpa [pack] using q)
  · rintro x h1 ⟨rfl, ⟨rfl, rfl⟩ | ⟨rfl, rfl⟩⟩
    · simp [isSub]
      exact ask_end (.inr (.inl ⟨rfl, rfl⟩)) rfl (by simpa [pack] using q)
    · simp [isSub]
      exact ask_end (.inr (.inr ⟨rfl, rfl⟩)) rfl (by simpa [pack] using q)
theorem P_addCL {c : Bool} {n : Nat} {xs ys : List PyData} {h : Hh} (e : h[n]? = some (.lst xs)) : addM c (.cell n) (.d (.list ys)) h = if xs.length + ys.length ≤ line then mkL c (xs ++ ys) h else .stuck := by
  unfold addM
  simp [vw, e]
theorem wk_get : ∀ {bs : A.Bs} {ws : List Int} {j : Nat}, A.Wk bs ws → (h1 : j < bs.length) → (h2 : j < ws.length) → 0 ≤ ws[j] ∧ ws[j] < (bs[j]).2
  | [], _, _, _, h, _ => absurd h (Nat.not_lt_zero _)
  | b :: bs, [], _, h, _, _ => h.elim
  | b :: bs, w :: ws, 0, h, _, _ => ⟨h.1, h.2.1⟩
  | b :: bs, w :: ws, j + 1, h, h1, h2 => wk_get h.2.2 (Nat.lt_of_succ_lt_succ h1) (Nat.lt_of_succ_lt_succ h2)
theorem cutT {xs : List Int} (c : Nat) : cut xs none (some (c : Int)) = xs.take c := by
  unfold cut six
  simp only [List.drop_zero, Nat.sub_zero]
  rw [if_neg (by omega), Int.toNat_natCast, Nat.min_def]
  split
  · rfl
  · rw [List.take_length, List.take_of_length_le (by omega)]
theorem cutD {xs : List Int} {c : Nat} (h : c ≤ xs.length) : cut xs (some (c : Int)) none = xs.drop c := by
  unfold cut six
  simp only
  rw [if_neg (by omega), Int.toNat_natCast, Nat.min_eq_left h, List.take_of_length_le (by rw [List.length_drop]; exact Nat.le_refl _)]
theorem cutM {xs : List Int} (h : 0 < xs.length) : (cut xs none (some (-1))).length ≠ xs.length := by
  unfold cut six
  simp only [List.drop_zero, Nat.sub_zero]
  rw [if_pos (by omega), List.length_take]
  omega
/-- worths that are none -/
def Bw (bs : A.Bs) (ws : List Int) : Prop := ¬ A.Wk bs ws ∧ ws.length ≤ 20
theorem bw_len {bs : A.Bs} {ws : List Int} (h : ws.length ≠ bs.length) (l : ws.length ≤ 20) : Bw bs ws := ⟨fun z => h z.len, l⟩
theorem bw_at {bs : A.Bs} {ws : List Int} {j : Nat} {b : Int} (hw : A.Wk bs ws) (hj : j < bs.length) (l : bs.length ≤ 4) (hb : b < 0 ∨ (bs[j]).2 ≤ b) : Bw bs (ws.take j ++ [b] ++ ws.drop (j + 1)) := by
  have hl := hw.len
  refine ⟨fun z => ?_, by simp; omega⟩
  have l2 : j < (ws.take j ++ [b] ++ ws.drop (j + 1)).length := by simp; omega
  have := wk_get z hj l2
  have e : (ws.take j ++ [b] ++ ws.drop (j + 1))[j] = b := by
    have h0 : j ≤ ws.length := by omega
    apply Option.some.inj
    rw [← List.getElem?_eq_getElem]
    rw [List.append_assoc, List.getElem?_append_right (by rw [List.length_take]; exact Nat.min_le_left _ _)]
    simp [List.length_take, Nat.min_eq_left h0]
  rw [e] at this
  omega
def boB : Ss := d__law_bad_ones.body
def bo1 : Ss := takeS 2 boB
def bo2 : Ss := takeS 1 (dropS 2 boB)
def bo3 : Ss := takeS 1 (dropS 3 boB)
def bo4 : Ss := dropS 4 boB
theorem sh_bD {bs : A.Bs} (hb : A.Bx bs) : ok2 (.list (A.bD bs)) (.list []) = true := by
  refine A.okn_e (A.Sh.shaped (n := 3) (A.Sh.list (n := 2) fun d hd => ?_) (by decide))
  obtain ⟨b, hb', rfl⟩ := List.mem_map.mp hd
  exact .tup fun d hd => by
    simp only [List.mem_cons, List.not_mem_nil, or_false] at hd
    rcases hd with rfl | rfl
    · exact .str (hb.nm.ok _ (List.mem_map.mpr ⟨b, hb', rfl⟩))
    · exact .int _ _
theorem bo1_run (G : A.Gn D0) {bs : A.Bs} (hb : A.Bx bs) {k n : Nat} {h : Hh} (d : A.Dk n h) {Z : Zs} (q : ∀ (ws : List Int) (far : Int) h', A.Wk bs ws → 0 ≤ far → A.Sl n h h' → Z.nx [some (.cell n), some (.d (.list (A.bD bs))), some (.d (A.iL ws)), some (.d (.int far)), none, none, none] h') :
    ws (exs (callN D0 (k + 2)) bo1 [some (.cell n), some (.d (.list (A.bD bs))), none, none, none, none, none] h) Z := by
  simp [bo1, takeS, boB, d__law_bad_ones, primM]
  refine A.worths_run (k := k) G lk__law_worths hb d fun ws h1 hw s1 => ?_
  try simp
  refine A.take_run (k := k + 1) G s1.1.dk (by decide) (by decide) fun t h2 t0 t1 s2 => ?_
  try simp
  refine A.wp_pick t0 t1 fun fd hf => ?_
  obtain ⟨fm, rfl, f0, f1⟩ : ∃ fm : Int, fd = .int fm ∧ 0 < fm ∧ fm ≤ 10 ^ 20 := by
    simp only [List.mem_cons, List.not_mem_nil, or_false] at hf
    rcases hf with rfl | rfl | rfl <;> exact ⟨_, rfl, by decide, by decide⟩
  clear hf
  try simp
  refine A.take_run (k := k + 1) G s2.1.dk f0 (A.pow30 (by omega) (by omega)) fun far h3 far0 far1 s3 => ?_
  try simp
  exact q ws far h3 hw far0 ((s1.1.trans s2.1).trans s3.1)
theorem bo2_run (G : A.Gn D0) {bs : A.Bs} (b4 : bs.length ≤ 4) {ws : List Int} (hw : A.Wk bs ws) {far : Int} {x y : Option PV} {k n : Nat} {h0 h : Hh} (S : A.Sl n h0 h) {Z : Zs} (q : ∀ (wss : List (List Int)) h', (∀ ws ∈ wss, Bw bs ws) → wss.length ≤ 2 → A.Sl n h0 h' → Z.nx [some (.cell n), some (.d (.list (A.bD bs))), some (.d (A.iL ws)), some (.d (.int far)), some (.cell h'.length), x, y] (h' ++ [.lst (wss.map A.iL)])) :
    PL.ws (exs (callN D0 (k + 2)) bo2 [some (.cell n), some (.d (.list (A.bD bs))), some (.d (A.iL ws)), some (.d (.int far)), none, x, y] h) Z := by
  have hl := hw.len
  have w1 : ws.length + 1 ≤ 16777216 := by omega
  simp [bo2, takeS, dropS, boB, d__law_bad_ones, primM, line, w1]
  refine A.take_run (k := k + 1) G S.dk (by decide) (by decide) fun t h1 t0 t1 s1 => ?_
  have a1 : 1 + t < 1000000 := by omega
  have a2 : 0 ≤ 1 + t := by omega
  have a3 : (1 + t).toNat ≤ 16777216 := by omega
  have a4 : ws.length + (1 + t).toNat ≤ 16777216 := by omega
  simp [line, a1, a2, a3, a4]
  have e : [PyData.list (List.map PyData.int ws ++ [PyData.int 0]), PyData.list (List.map PyData.int ws ++ List.replicate (1 + t).toNat (PyData.int 0))] = [ws ++ [0], ws ++ List.replicate (1 + t).toNat 0].map A.iL := by simp [A.iL]
  rw [e]
  refine q _ h1 (fun v hv => ?_) (by simp) (S.trans s1.1)
  simp only [List.mem_cons, List.not_mem_nil, or_false] at hv
  rcases hv with rfl | rfl
  · exact bw_len (by simp; omega) (by simp; omega)
  · exact bw_len (by simp; omega) (by simp; omega)
theorem bo3_run (G : A.Gn D0) {bs : A.Bs} (hb : A.Bx bs) {ws : List Int} (hw : A.Wk bs ws) {far : Int} (f0 : 0 ≤ far) {k n m : Nat} {h0 h : Hh} (S : A.Sl n h0 h) {wss : List (List Int)} (hws : ∀ ws ∈ wss, Bw bs ws) (hl2 : wss.length ≤ 2) (hm0 : h0.length ≤ m) (hmn : m ≠ n) (hm : h[m]? = some (.lst (wss.map A.iL))) {Z : Zs}
    (q : ∀ (wss : List (List Int)) (m : Nat) (x y : Option PV) h', (∀ ws ∈ wss, Bw bs ws) → wss.length ≤ 10 → A.Sl n h0 h' → h'[m]? = some (.lst (wss.map A.iL)) → h0.length ≤ m → m ≠ n → Z.nx [some (.cell n), some (.d (.list (A.bD bs))), some (.d (A.iL ws)), some (.d (.int far)), some (.cell m), x, y] h') :
    PL.ws (exs (callN D0 (k + 2)) bo3 [some (.cell n), some (.d (.list (A.bD bs))), some (.d (A.iL ws)), some (.d (.int far)), some (.cell m), none, none] h) Z := by
  have hl := hw.len
  have b4 := hb.len
  have bl : (A.bD bs).length = bs.length := by simp [A.bD]
  have bne : (A.bD bs).isEmpty = bs.isEmpty := by simp [A.bD]
  have shb := sh_bD hb
  simp [bo3, takeS, dropS, boB, d__law_bad_ones, primM, shb, A.eqv_nil, bne]
  refine ⟨fun ne => ?_, fun _ => q wss m _ _ h hws (by omega) S hm hm0 hmn⟩
  have hpos : 0 < bs.length := List.length_pos_iff.mpr ne
  rw [bl]
  refine A.take_run (k := k + 1) G S.dk (by omega) (A.pow30 (by omega) (by omega)) fun t h1 t0 t1 s1 => ?_
  obtain ⟨t, rfl⟩ : ∃ t' : Nat, t = (t' : Int) := ⟨t.toNat, by omega⟩
  have ht : t < bs.length := by omega
  have m1 := s1.get hm hmn
  have c1 : (cut ws none (some (-1))).length ≤ 16777216 := Nat.le_trans (A.cut_len _ _ _) (by omega)
  have c2 : wss.length + 2 ≤ 16777216 := by omega
  have an : ati (A.bD bs) (t : Int) = some (.tuple [.str (bs[t]).1, .int (bs[t]).2]) := by
    rw [A.ati_nat (by rw [bl]; exact ht)]
    simp [A.bD]
  simp [line, A.cut_map, c1, P_addCL m1, c2, an]
  obtain ⟨m2, hm2⟩ : ∃ m2, m2 = h1.length := ⟨_, rfl⟩
  rw [← hm2]
  have lh := S.len
  have lh1 := s1.2
  have S1 := S.trans s1.1
  have nm2 : m2 ≠ n := by
    have := A.Dk.lt S1.dk
    omega
  obtain ⟨I, hI⟩ : ∃ I : List PV → Ee → Hh → Prop, I = fun r e h' => ∃ (wss : List (List Int)) (z : Option PV), (∀ v ∈ r, ∃ b : Int, v = .d (.int b) ∧ (b < 0 ∨ (bs[t]).2 ≤ b)) ∧ (∀ ws ∈ wss, Bw bs ws) ∧ A.Sl n h0 h' ∧ h'[m2]? = some (.lst (wss.map A.iL)) ∧ wss.length + r.length ≤ 8 ∧ e = [some (.cell n), some (.d (.list (A.bD bs))), some (.d (A.iL ws)), some (.d (.int far)), some (.cell m2), some (.d (.int t)), z] := ⟨_, rfl⟩
  refine for_rule I ?_ ?_ _ _ _ ?_
  · intro v r e h' hi
    rw [hI] at hi
    obtain ⟨wss, z, hv, hw2, S2, g2, l2, rfl⟩ := hi
    obtain ⟨b, rfl, hb2⟩ := hv v List.mem_cons_self
    have l3 : wss.length < 16777216 := by rw [List.length_cons] at l2; omega
    have d1 : t + 1 ≤ ws.length := by omega
    have mt : min t ws.length = t := Nat.min_eq_left (by omega)
    have x1 : t ≤ 16777216 := by omega
    have x2 : t + 1 ≤ 16777216 := by omega
    have x3 : ws.length ≤ 16777216 + (t + 1) := by omega
    have x5 : t + 1 + (ws.length - (t + 1)) ≤ 16777216 := by omega
    have x4 : t + (ws.length - (t + 1) + 1) ≤ 16777216 := by omega
    have cd : cut ws (some ((t : Int) + 1)) none = ws.drop (t + 1) := cutD (c := t + 1) d1
    simp [sT, setT, primM, line, A.cut_map, cutT, cd, mTy, g2, mt, x1, x2, x3, x4, x5, l3]
    have lm := (List.getElem?_eq_some_iff.mp g2).1
    rw [hI]
    refine ⟨wss ++ [ws.take t ++ [b] ++ ws.drop (t + 1)], _, fun v hv' => hv v (List.mem_cons_of_mem _ hv'), fun v hv' => ?_, S2.set (by omega) nm2, by rw [List.getElem?_set_self lm]; simp [A.iL], by simp at l2 ⊢; omega, rfl⟩
    rcases List.mem_append.mp hv' with hv' | hv'
    · exact hw2 v hv'
    · rw [List.mem_singleton] at hv'
      subst hv'
      exact bw_at hw ht b4 hb2
  · intro e h' hi
    rw [hI] at hi
    obtain ⟨wss, z, hv, hw2, S2, g2, l2, rfl⟩ := hi
    exact q wss m2 _ _ h' hw2 (by omega) S2 g2 (by omega) nm2
  · rw [hI]
    refine ⟨wss ++ [cut ws none (some (-1)), []], none, ?_, ?_, S1.push _, by rw [hm2]; simp [A.iL], by simp; omega, rfl⟩
    · intro v hv
      simp only [List.mem_cons, List.not_mem_nil, or_false] at hv
      rcases hv with rfl | rfl
      · exact ⟨_, rfl, .inl (by omega)⟩
      · exact ⟨_, rfl, .inr (by omega)⟩
    · intro v hv
      rcases List.mem_append.mp hv with hv | hv
      · exact hws v hv
      · simp only [List.mem_cons, List.not_mem_nil, or_false] at hv
        rcases hv with rfl | rfl
        · exact bw_len (by rw [← hl]; exact cutM (by omega)) (Nat.le_trans (A.cut_len _ _ _) (by omega))
        · exact bw_len (by simp; omega) (by simp)
theorem badones_run (G : A.Gn D0) {bs : A.Bs} (hb : A.Bx bs) {k n : Nat} {h : Hh} (d : A.Dk n h) {Q : PV → Hh → Prop} (q : ∀ (wss : List (List Int)) h', (∀ ws ∈ wss, Bw bs ws) → wss.length ≤ 10 → A.Sc n h h' → Q (.d (.list (wss.map A.iL))) h') :
    wp (callN D0 (k + 3) "_law_bad_ones" [.cell n, .d (.list (A.bD bs))] h) Q := by
  refine call_rule (k := k + 2) lk__law_bad_ones rfl ?_
  show ws (exs (callN D0 (k + 2)) (appS bo1 (appS bo2 (appS bo3 bo4))) [some (.cell n), some (.d (.list (A.bD bs))), none, none, none, none, none] h) _
  rw [W_app]
  refine bo1_run G hb d fun ws far h1 hw f0 S1 => ?_
  show PL.ws (exs _ _ _ _) _
  rw [W_app]
  refine bo2_run G hb.len hw S1 fun wss h2 hws l2 S2 => ?_
  show PL.ws (exs _ _ _ _) _
  rw [W_app]
  have lh := S2.len
  have dn := A.Dk.lt d
  refine bo3_run G hb hw f0 (S2.push (.lst (wss.map A.iL))) hws l2 (by omega) (by omega) (by simp) fun wss m x y h3 hw3 l3 S3 g3 hm0 hmn => ?_
  show PL.ws (exs _ _ _ _) _
  simp [bo4, dropS, boB, d__law_bad_ones, primM, frzM, g3]
  exact q wss _ hw3 l3 (A.Sl.cut d (S3.set hm0 hmn))
section
variable {k : Nat} {h : Hh} {p : A.Pg} {ws : List Int}
theorem tW0 (hw : ¬ A.Wk p.bs ws) (c : PyData) : Told "NoWorths" h (callN D0 (k + 30) "sum_worth" [.d p.d, .d (A.iL ws), .d c] h) := A.sum_worth_X (k := k + 28) lk_sum_worth (A.known_X1 (k := k + 27) lk_need_known lk_need_worths hw ⟨by simp, .inl ⟨rfl, rfl⟩⟩)
theorem tW1 (hw : ¬ A.Wk p.bs ws) (c : PyData) : Told "NoWorths" h (callN D0 (k + 30) "holds_at" [.d p.d, .d (A.iL ws), .d c] h) := A.holds_at_X (k := k + 28) lk_holds_at (A.known_X1 (k := k + 27) lk_need_known lk_need_worths hw ⟨by simp, .inl ⟨rfl, rfl⟩⟩)
theorem tW2 (hw : ¬ A.Wk p.bs ws) : Told "NoWorths" h (callN D0 (k + 31) "step_from" [.d p.d, .d (.int 0), .d (A.iL ws)] h) := A.step_X (k := k + 29) lk_step_from lk_need_worths hw ⟨rfl, .inl ⟨rfl, rfl⟩⟩
theorem tG0 (hb : A.Bx p.bs) (hw : A.Wk p.bs ws) {s : A.Sm} {N : Nat} (hN : N ≤ 22) (g : s.good p.names N) : Told "told" h (callN D0 (k + 30) "sum_worth" [.d p.d, .d (A.iL ws), .d s.d] h) := wx_of (A.sum_worth_run (k := k) lk_sum_worth lk_need_known lk_need_worths lk_known_by lk_names_of lk_boxes_named lk_worth_in hb hw hN g ⟨rfl, rfl⟩)
theorem tG1 (hb : A.Bx p.bs) (hw : A.Wk p.bs ws) {s : A.Cn} (g : s.good p.names 20) : Told "told" h (callN D0 (k + 30) "holds_at" [.d p.d, .d (A.iL ws), .d s.d] h) := wx_of (A.holds_at_run (k := k) lk_holds_at lk_need_known lk_need_worths lk_known_by lk_names_of lk_boxes_named lk_worth_in lk_holds_in hb hw g ⟨rfl, rfl⟩)
theorem tG2 (g : A.Pw p) (hw : A.Wk p.bs ws) (h0 : 0 < p.nds.length) : Told "told" h (callN D0 (k + 31) "step_from" [.d p.d, .d (.int 0), .d (A.iL ws)] h) := wx_of (A.stepF_run (k := k) (j := 0) lk_step_from lk_need_worths lk_known_by lk_names_of lk_worth_in lk_holds_in g hw h0 ⟨rfl, rfl⟩)
theorem tB0 (hb : A.Bx p.bs) (hw : A.Wk p.bs ws) {names : List Str} (hN : A.Nm names) {s : A.Sm} (g : s.good names 20) (bad : ∃ y ∈ s.bxs, y ∉ p.names) : Told "NoProgram" h (callN D0 (k + 30) "sum_worth" [.d p.d, .d (A.iL ws), .d s.d] h) := A.sum_worth_X (k := k + 28) lk_sum_worth (A.known_X2 (k := k + 26) (s := .su s) lk_need_known lk_need_worths lk_known_by lk_names_of lk_boxes_named hb hw hN g bad ⟨by simp, .inr ⟨rfl, rfl⟩⟩)
theorem tB1 (hb : A.Bx p.bs) (hw : A.Wk p.bs ws) {names : List Str} (hN : A.Nm names) {s : A.Cn} (g : s.good names 20) (bad : ∃ y ∈ s.bxs, y ∉ p.names) : Told "NoProgram" h (callN D0 (k + 30) "holds_at" [.d p.d, .d (A.iL ws), .d s.d] h) := A.holds_at_X (k := k + 28) lk_holds_at (A.known_X2 (k := k + 26) (s := .co s) lk_need_known lk_need_worths lk_known_by lk_names_of lk_boxes_named hb hw hN g bad ⟨by simp, .inr ⟨rfl, rfl⟩⟩)
end
theorem comp3 {t : Tg} {cond : Ee → Hh → Out Bool} {elt : Ee → Hh → Out PV} {e : Ee} {h : Hh} {Q : List PyData → Hh → Prop} {v0 v1 v2 : PV} (d0 d1 d2 : PyData)
    (h0 : sT t e v0 fun e1 => wp (cond e1 h) fun b h1 => b = true ∧ wp (elt e1 h1) fun y h2 => y = .d d0 ∧ h2 = h) (h1 : sT t e v1 fun e1 => wp (cond e1 h) fun b h1 => b = true ∧ wp (elt e1 h1) fun y h2 => y = .d d1 ∧ h2 = h) (h2 : sT t e v2 fun e1 => wp (cond e1 h) fun b h1 => b = true ∧ wp (elt e1 h1) fun y h2 => y = .d d2 ∧ h2 = h)
    (q : Q [d0, d1, d2] h) : wp (compL t cond elt e [v0, v1, v2] h) Q := by
  obtain ⟨I, hI⟩ : ∃ I : List PV → List PyData → Hh → Prop, I = fun r acc h' => h' = h ∧ ((r = [v0, v1, v2] ∧ acc = []) ∨ (r = [v1, v2] ∧ acc = [d0]) ∨ (r = [v2] ∧ acc = [d0, d1]) ∨ (r = [] ∧ acc = [d0, d1, d2])) := ⟨_, rfl⟩
  have go : ∀ {v : PV} {d : PyData} {r : List PV} {acc : List PyData} {h' : Hh}, h' = h → (sT t e v fun e1 => wp (cond e1 h) fun b h1 => b = true ∧ wp (elt e1 h1) fun y h2 => y = .d d ∧ h2 = h) → I r (acc ++ [d]) h → sT t e v fun e1 => wp (cond e1 h') fun b h1 => (b = true → wp (elt e1 h1) fun y h2 => ∃ x, y = .d x ∧ I r (acc ++ [x]) h2) ∧ (b = false → I r acc h1) := by
    rintro v d r acc h' rfl w i
    unfold sT at *
    split at w
    · refine wp_mono w fun b h1 ⟨hb, w2⟩ => ⟨fun _ => wp_mono w2 fun y h2 ⟨e1, e2⟩ => ⟨d, e1, by rw [e2]; exact i⟩, fun z => by rw [hb] at z; cases z⟩
    · exact w
  have := comp_rule (t := t) (cond := cond) (elt := elt) (e := e) (Q := Q) I ?_ ?_ [v0, v1, v2] [] h ?_
  · simpa using this
  · rintro v r acc h' hi
    rw [hI] at hi
    obtain ⟨hh, ⟨er, ea⟩ | ⟨er, ea⟩ | ⟨er, ea⟩ | ⟨er, ea⟩⟩ := hi
    · cases er
      subst ea
      exact go hh h0 (by rw [hI]; exact ⟨rfl, .inr (.inl ⟨rfl, rfl⟩)⟩)
    · cases er
      subst ea
      exact go hh h1 (by rw [hI]; exact ⟨rfl, .inr (.inr (.inl ⟨rfl, rfl⟩))⟩)
    · cases er
      subst ea
      exact go hh h2 (by rw [hI]; exact ⟨rfl, .inr (.inr (.inr ⟨rfl, rfl⟩))⟩)
    · cases er
  · rintro acc h' hi
    rw [hI] at hi
    obtain ⟨rfl, ⟨er, ea⟩ | ⟨er, ea⟩ | ⟨er, ea⟩ | ⟨er, ea⟩⟩ := hi
    · cases er
    · cases er
    · cases er
    · subst ea
      exact q
  · rw [hI]
    exact ⟨rfl, .inl ⟨rfl, rfl⟩⟩
def loopB : Ss := match d_law.body with | .cons (.for_ _ _ b) _ => b | x => x
def wB : Ss := match dropS 8 loopB with | .cons (.for_ _ _ b) _ => b | x => x
/-- what was there stays -/
structure Kp (h h' : Hh) : Prop where
  len : h.length ≤ h'.length
  at_ : ∀ i, i < h.length → h'[i]? = h[i]?
theorem Kp.refl (h : Hh) : Kp h h := ⟨Nat.le_refl _, fun _ _ => rfl⟩
theorem Kp.push {h h' : Hh} (k : Kp h h') (c : Cl) : Kp h (h' ++ [c]) := ⟨by rw [List.length_append]; exact Nat.le_trans k.len (Nat.le_add_right _ _), fun i hi => by rw [List.getElem?_append_left (Nat.lt_of_lt_of_le hi k.len)]; exact k.at_ i hi⟩
theorem Kp.set {h h' : Hh} (k : Kp h h') {j : Nat} (hj : h.length ≤ j) (c : Cl) : Kp h (h'.set j c) := ⟨by rw [List.length_set]; exact k.len, fun i hi => by rw [List.getElem?_set_ne (by omega)]; exact k.at_ i hi⟩
theorem Kp.get {h h' : Hh} (k : Kp h h') {i : Nat} {c : Cl} (e : h[i]? = some c) : h'[i]? = some c := by
  rw [k.at_ i (List.getElem?_eq_some_iff.mp e).1]
  exact e
theorem Kp.sl {n : Nat} {h0 h h' : Hh} (k : Kp h h') (s : A.Sl n h0 h) : A.Sl n h0 h' := ⟨Nat.le_trans s.len k.len, by
  obtain ⟨d, e⟩ := s.dk
  exact ⟨d, k.get e⟩, fun i h1 h2 => by
  rw [k.at_ i (Nat.lt_of_lt_of_le h1 s.len)]
  exact s.3 i h1 h2⟩
def nw : PyData := .str "NoWorths"
theorem ok7 : ok2 (.list [nw, nw, nw, nw, nw, nw, nw]) (.list [nw, nw, nw, nw, nw, nw, nw]) = true := by decide +kernel
theorem eq7 : PyData.eqv (.list [nw, nw, nw, nw, nw, nw, nw]) (.list [nw, nw, nw, nw, nw, nw, nw]) = true := by decide +kernel
theorem inner_run (G : A.Gn D0) {p : A.Pg} {ws : List Int} (hw : Bw p.bs ws) {k a b : Nat} {h : Hh} {s1 s2 s3 c1 c2 c3 : PyData} (ha : h[a]? = some (.lst [s1, s2, s3])) (hb : h[b]? = some (.lst [c1, c2, c3])) {z0 z1 z2 z4 z5 z9 z10 z11 z12 z13 : Option PV} {Z : Zs}
    (q : ∀ (z9 z10 z11 : Option PV) (h' : Hh), Kp h h' → Z.nx [z0, z1, z2, some (.d p.d), z4, z5, some (.cell a), some (.cell b), some (.d (A.iL ws)), z9, z10, z11, z12, z13] h') :
    PL.ws (exs (callN D0 (k + 32)) wB [z0, z1, z2, some (.d p.d), z4, z5, some (.cell a), some (.cell b), some (.d (A.iL ws)), z9, z10, z11, z12, z13] h) Z := by
  have l20 := hw.2
  have l21 : ws.length ≤ 16777216 := by omega
  have sh : ok2 (A.iL ws) (A.iL ws) = true := by
    have : A.Sh 2 (A.iL ws) := A.Sh.list (n := 1) fun d hd => by
      obtain ⟨i, _, rfl⟩ := List.mem_map.mp hd
      exact .int _ _
    exact A.ok2_l (this.shaped (by decide)) (this.shaped (by decide))
  have r3 : rngL 0 3 = [.d (.int 0), .d (.int 1), .d (.int 2)] := rfl
  simp [wB, loopB, dropS, d_law, primM, line, l21, wipeE, r3]
  refine comp3 (.str "NoWorths") (.str "NoWorths") (.str "NoWorths") ?_ ?_ ?_ ?_
  iterate 3
    simp [sT, setT, primM, ha]
    exact asked0 (k := k + 31) (tW0 (k := k + 1) hw.1 _) ⟨rfl, rfl⟩
  simp [r3]
  have k1 := (Kp.refl h).push (.lst [nw, nw, nw])
  have b1 := k1.get hb
  have n1 : (h ++ [.lst [nw, nw, nw]])[h.length]? = some (.lst [nw, nw, nw]) := by simp
  change wp (compL _ _ _ _ _ (h ++ [Cl.lst [nw, nw, nw]])) _
  generalize h ++ [Cl.lst [nw, nw, nw]] = H1 at *
  refine comp3 nw nw nw ?_ ?_ ?_ ?_
  iterate 3
    simp [sT, setT, primM, b1]
    exact asked1 (k := k + 31) (tW1 (k := k + 1) hw.1 _) ⟨rfl, rfl⟩
  simp [P_addCL n1, line]
  have k2 := k1.push (.lst [nw, nw, nw, nw, nw, nw])
  have n2 : (H1 ++ [.lst [nw, nw, nw, nw, nw, nw]])[H1.length]? = some (.lst [nw, nw, nw, nw, nw, nw]) := by simp
  have lm := (List.getElem?_eq_some_iff.mp n2).1
  generalize H1 ++ [Cl.lst [nw, nw, nw, nw, nw, nw]] = H2 at *
  simp [mTy, n2, kindOk]
  refine asked2 (k := k + 31) (r := "NoWorths") (tW2 (k := k) hw.1) ?_
  have n3 : (H2.set H1.length (.lst [nw, nw, nw, nw, nw, nw, nw]))[H1.length]? = some (.lst [nw, nw, nw, nw, nw, nw, nw]) := List.getElem?_set_self lm
  have k3 := k2.set k1.len (.lst [nw, nw, nw, nw, nw, nw, nw])
  change wp (appendM (.cell H1.length) (.d nw) H2) _
  simp [n2, line]
  generalize H2.set H1.length (.lst [nw, nw, nw, nw, nw, nw, nw]) = H3 at *
  have o7 : ok2 (.list [nw, nw, nw, nw, nw, nw, nw]) (.list [.str (Str.ofString "NoWorths"), .str (Str.ofString "NoWorths"), .str (Str.ofString "NoWorths"), .str (Str.ofString "NoWorths"), .str (Str.ofString "NoWorths"), .str (Str.ofString "NoWorths"), .str (Str.ofString "NoWorths")]) = true := ok7
  have e7 : PyData.eqv (.list [nw, nw, nw, nw, nw, nw, nw]) (.list [.str (Str.ofString "NoWorths"), .str (Str.ofString "NoWorths"), .str (Str.ofString "NoWorths"), .str (Str.ofString "NoWorths"), .str (Str.ofString "NoWorths"), .str (Str.ofString "NoWorths"), .str (Str.ofString "NoWorths")]) = true := eq7
  have ew : PyData.eqv (.list (ws.map .int)) (A.iL ws) = true := SeqAt.eqv_refl _ (SeqAt.canLay_of_shaped (Bool.and_eq_true_iff.mp sh).1)
  have sw : ok2 (.list (ws.map .int)) (A.iL ws) = true := sh
  simp [n3, o7, e7, sw, ew]
  exact q _ _ _ H3 k3
def nt : PyData := .str "told"
def np : PyData := .str "NoProgram"
theorem ok6 : ok2 (.list [nt, np, np, nt, np, np]) (.list [nt, np, np, nt, np, np]) = true := by decide +kernel
theorem eq6 : PyData.eqv (.list [nt, np, np, nt, np, np]) (.list [nt, np, np, nt, np, np]) = true := by decide +kernel
theorem okt : ok2 nt nt = true := by decide +kernel
theorem eqt : PyData.eqv nt nt = true := by decide +kernel
theorem tail_run (G : A.Gn D0) {p : A.Pg} (gp : p.good 3) {s1 s2 s3 : A.Sm} {c1 c2 c3 : A.Cn}
    (t1 : ∀ (k : Nat) (h : Hh) (ws : List Int), A.Wk p.bs ws → Told "told" h (callN D0 (k + 30) "sum_worth" [.d p.d, .d (A.iL ws), .d s1.d] h)) (t2 : ∀ (k : Nat) (h : Hh) (ws : List Int), A.Wk p.bs ws → Told "NoProgram" h (callN D0 (k + 30) "sum_worth" [.d p.d, .d (A.iL ws), .d s2.d] h)) (t3 : ∀ (k : Nat) (h : Hh) (ws : List Int), A.Wk p.bs ws → Told "NoProgram" h (callN D0 (k + 30) "sum_worth" [.d p.d, .d (A.iL ws), .d s3.d] h))
    (u1 : ∀ (k : Nat) (h : Hh) (ws : List Int), A.Wk p.bs ws → Told "told" h (callN D0 (k + 30) "holds_at" [.d p.d, .d (A.iL ws), .d c1.d] h)) (u2 : ∀ (k : Nat) (h : Hh) (ws : List Int), A.Wk p.bs ws → Told "NoProgram" h (callN D0 (k + 30) "holds_at" [.d p.d, .d (A.iL ws), .d c2.d] h)) (u3 : ∀ (k : Nat) (h : Hh) (ws : List Int), A.Wk p.bs ws → Told "NoProgram" h (callN D0 (k + 30) "holds_at" [.d p.d, .d (A.iL ws), .d c3.d] h))
    {k a b n : Nat} {h : Hh} (d : A.Dk n h) (an : a ≠ n) (bn : b ≠ n) (ha : h[a]? = some (.lst [s1.d, s2.d, s3.d])) (hb : h[b]? = some (.lst [c1.d, c2.d, c3.d])) {z0 z1 z4 z5 z8 z9 z10 z11 z12 z13 : Option PV} {Z : Zs}
    (q : ∀ (z8 z9 z10 z11 : Option PV) (h' : Hh), Z.nx [z0, z1, some (.cell n), some (.d p.d), z4, z5, some (.cell a), some (.cell b), z8, z9, z10, z11, z12, z13] h') :
    PL.ws (exs (callN D0 (k + 32)) (dropS 9 loopB) [z0, z1, some (.cell n), some (.d p.d), z4, z5, some (.cell a), some (.cell b), z8, z9, z10, z11, z12, z13] h) Z := by
  have b4 := gp.bx.len
  have r3 : rngL 0 3 = [.d (.int 0), .d (.int 1), .d (.int 2)] := rfl
  have bd : p.d = .tuple [.list (A.bD p.bs), A.nL p.ins, .list (p.nds.map A.Nd.d)] := rfl
  simp [loopB, dropS, d_law, primM, line, wipeE, r3, A.Pg.d]
  refine A.worths_run (k := k + 30) G lk__law_worths gp.bx d fun ws h1 hw s1' => ?_
  have ha1 := s1'.get ha an
  have hb1 := s1'.get hb bn
  have l20 := hw.len
  have l21 : ws.length ≤ 16777216 := by omega
  try simp [r3]
  refine comp3 nt np np ?_ ?_ ?_ ?_
  · simp [sT, setT, primM, ha1, l21, line]
    exact asked0 (k := k + 31) (t1 (k + 1) _ ws hw) ⟨rfl, rfl⟩
  · simp [sT, setT, primM, ha1, l21, line]
    exact asked0 (k := k + 31) (t2 (k + 1) _ ws hw) ⟨rfl, rfl⟩
  · simp [sT, setT, primM, ha1, l21, line]
    exact asked0 (k := k + 31) (t3 (k + 1) _ ws hw) ⟨rfl, rfl⟩
  simp [r3]
  have n1 : (h1 ++ [.lst [nt, np, np]])[h1.length]? = some (.lst [nt, np, np]) := by simp
  have hb2 := ((Kp.refl h1).push (.lst [nt, np, np])).get hb1
  generalize h1 ++ [Cl.lst [nt, np, np]] = H1 at *
  refine comp3 nt np np ?_ ?_ ?_ ?_
  · simp [sT, setT, primM, hb2, l21, line]
    exact asked1 (k := k + 31) (u1 (k + 1) _ ws hw) ⟨rfl, rfl⟩
  · simp [sT, setT, primM, hb2, l21, line]
    exact asked1 (k := k + 31) (u2 (k + 1) _ ws hw) ⟨rfl, rfl⟩
  · simp [sT, setT, primM, hb2, l21, line]
    exact asked1 (k := k + 31) (u3 (k + 1) _ ws hw) ⟨rfl, rfl⟩
  simp [P_addCL n1, line]
  have n2 : (H1 ++ [.lst [nt, np, np, nt, np, np]])[H1.length]? = some (.lst [nt, np, np, nt, np, np]) := by simp
  generalize H1 ++ [Cl.lst [nt, np, np, nt, np, np]] = H2 at *
  have o6 : ok2 (.list [nt, np, np, nt, np, np]) (.list [.str (Str.ofString "told"), .str (Str.ofString "NoProgram"), .str (Str.ofString "NoProgram"), .str (Str.ofString "told"), .str (Str.ofString "NoProgram"), .str (Str.ofString "NoProgram")]) = true := ok6
  have e6 : PyData.eqv (.list [nt, np, np, nt, np, np]) (.list [.str (Str.ofString "told"), .str (Str.ofString "NoProgram"), .str (Str.ofString "NoProgram"), .str (Str.ofString "told"), .str (Str.ofString "NoProgram"), .str (Str.ofString "NoProgram")]) = true := eq6
  simp [n2, o6, e6, l21]
  have pw := gp.pw (by decide)
  refine asked2 (k := k + 31) (r := "told") (tG2 (k := k) pw hw gp.n0) ?_
  have ot : ok2 (.str "told") (.str (Str.ofString "told")) = true := okt
  have et : PyData.eqv (.str "told") (.str (Str.ofString "told")) = true := eqt
  simp [primM, ot, et]
  exact q _ _ _ _ H2
def hd1 : Ss := takeS 3 loopB
def hd2 : Ss := takeS 3 (dropS 3 loopB)
def hd3 : Ss := takeS 2 (dropS 6 loopB)
theorem hd1_run (G : A.Gn D0) {c : Int} {k : Nat} {h : Hh} {z0 z2 z3 z4 z5 z6 z7 z8 z9 z10 z11 z12 z13 : Option PV} {Z : Zs}
    (q : ∀ (n : Nat) (p : A.Pg) (h' : Hh), p.good 3 → A.Dk n h' → Z.nx [z0, some (.d (.int c)), some (.cell n), some (.d p.d), some (.d (A.nL p.names)), z5, z6, z7, z8, z9, z10, z11, z12, z13] h') :
    PL.ws (exs (callN D0 (k + 32)) hd1 [z0, some (.d (.int c)), z2, z3, z4, z5, z6, z7, z8, z9, z10, z11, z12, z13] h) Z := by
  simp [hd1, takeS, loopB, d_law]
  refine A.deck_run (k := k + 30) G fun d => ?_
  have dk : A.Dk h.length (h ++ [.lst [.int d]]) := ⟨d, by simp⟩
  generalize h ++ [Cl.lst [PyData.int d]] = h3 at *
  try simp
  refine A.program_run (k := k + 25) G (by decide) (by decide) dk fun p h4 gp s4 => ?_
  have hb4 := gp.bx.len
  have d4 : A.Dk h.length h4 := s4.1.dk
  simp [primM, wipeE]
  refine A.names_comp _ (by decide) (by simp) ?_
  have e1 : (p.bs.map fun b => PyData.str b.1) = p.names.map .str := by simp [A.Pg.names]
  have e2 : (p.names.map PyData.str).length ≤ 16777216 := by
    rw [List.length_map, A.Pg.names, List.length_map]
    omega
  rw [e1]
  simp only [P_mkL_f, line, e2, if_true, wp_ok]
  exact q _ p h4 gp d4
theorem hd2_run (G : A.Gn D0) {p : A.Pg} (gp : p.good 3) {k n : Nat} {h : Hh} (d : A.Dk n h) {z0 z1 z5 z6 z7 z8 z9 z10 z11 z12 z13 : Option PV} {Z : Zs}
    (q : ∀ (a : Nat) (y1 y2 : Str) (s1 s2 s3 : A.Sm) (h' : Hh), A.Dk n h' → a ≠ n → y1 ∈ badL → s1.good p.names 3 → s2.good p.names 3 → Bs1 p.names 17 y2 s3 → h'[a]? = some (.lst [s1.d, (A.Sm.less s2 (.plus (.box y1) (.num 0))).d, s3.d]) →
      Z.nx [z0, z1, some (.cell n), some (.d p.d), some (.d (A.nL p.names)), some (.d (A.Sm.box y1).d), some (.cell a), z7, z8, z9, z10, z11, z12, z13] h') :
    PL.ws (exs (callN D0 (k + 32)) hd2 [z0, z1, some (.cell n), some (.d p.d), some (.d (A.nL p.names)), z5, z6, z7, z8, z9, z10, z11, z12, z13] h) Z := by
  have nm : A.Nm p.names := gp.bx.nm
  simp [hd2, takeS, dropS, loopB, d_law, primM, line]
  refine A.take_run (k := k + 31) G d (by decide) (by decide) fun t h1 t0 t1 s1 => ?_
  try simp
  refine A.wp_pick t0 t1 fun yd hy => ?_
  obtain ⟨y, rfl, hb⟩ : ∃ y, yd = .str y ∧ y ∈ badL := by
    simp only [List.mem_cons, List.not_mem_nil, or_false] at hy
    rcases hy with rfl | rfl | rfl <;> exact ⟨_, rfl, by simp [badL]⟩
  try simp
  refine A.sum_run (deep := 2) (k := k + 28) G nm _ _ s1.1.dk fun a1 h2 ga1 s2 => ?_
  try simp
  refine A.sum_run (deep := 1) (k := k + 29) G nm _ _ s2.1.dk fun a2 h3 ga2 s3 => ?_
  simp [line, mTy, kindOk]
  have S3 := (s1.1.trans s2.1).trans s3.1
  obtain ⟨x2, hx2⟩ : ∃ x2, x2 = (A.Sm.less a2 (.plus (.box y) (.num 0))).d := ⟨_, rfl⟩
  have S4 := S3.push (.lst [a1.d, x2])
  have m4 : (h3 ++ [.lst [a1.d, x2]])[h3.length]? = some (.lst [a1.d, x2]) := by simp
  have ne : h3.length ≠ n := by
    have := A.Dk.lt S3.dk
    omega
  have lh := S3.len
  have ex : PyData.tuple [.str (Str.ofString "less"), a2.d, .tuple [.str (Str.ofString "plus"), .tuple [.str (Str.ofString "box"), .str y], .tuple [.str (Str.ofString "number"), .int 0]]] = x2 := hx2.symm
  rw [ex]
  generalize h3 ++ [Cl.lst [a1.d, x2]] = H4 at *
  refine badsum_run (k := k + 27) G nm (by decide) (by decide) S4.dk fun y2 s3' h5 b5 s5 => ?_
  have m5 := s5.get m4 ne
  have lm := (List.getElem?_eq_some_iff.mp m5).1
  simp [m5, line]
  refine q _ y y2 a1 a2 s3' _ ((S4.trans s5.1).set lh ne).dk ne hb ga1 (A.good_mono (by decide) ga2) b5 ?_
  rw [List.getElem?_set_self lm, hx2]
theorem hd3_run (G : A.Gn D0) {p : A.Pg} (gp : p.good 3) {y : Str} {k n : Nat} {h : Hh} (d : A.Dk n h) {z0 z1 z6 z7 z8 z9 z10 z11 z12 z13 : Option PV} {Z : Zs}
    (q : ∀ (b : Nat) (y2 : Str) (c1 c3 : A.Cn) (h' : Hh), A.Dk n h' → b ≠ n → (∀ i, i ≠ n → i < h.length → h'[i]? = h[i]?) → c1.good p.names 3 → Bc1 p.names 20 y2 c3 → h'[b]? = some (.lst [c1.d, (A.Cn.both (.not .yes) (.under (.box y) (.num 3))).d, c3.d]) →
      Z.nx [z0, z1, some (.cell n), some (.d p.d), some (.d (A.nL p.names)), some (.d (A.Sm.box y).d), z6, some (.cell b), z8, z9, z10, z11, z12, z13] h') :
    PL.ws (exs (callN D0 (k + 32)) hd3 [z0, z1, some (.cell n), some (.d p.d), some (.d (A.nL p.names)), some (.d (A.Sm.box y).d), z6, z7, z8, z9, z10, z11, z12, z13] h) Z := by
  have nm : A.Nm p.names := gp.bx.nm
  simp [hd3, takeS, dropS, loopB, d_law, primM, line]
  refine A.cond_run (deep := 2) (k := k + 27) G nm _ _ d fun c1 h1 g1 s1 => ?_
  simp [line, mTy, kindOk]
  obtain ⟨x2, hx2⟩ : ∃ x2, x2 = (A.Cn.both (.not .yes) (.under (.box y) (.num 3))).d := ⟨_, rfl⟩
  have S4 := s1.1.push (.lst [c1.d, x2])
  have m4 : (h1 ++ [.lst [c1.d, x2]])[h1.length]? = some (.lst [c1.d, x2]) := by simp
  have ne : h1.length ≠ n := by
    have := A.Dk.lt s1.1.dk
    omega
  have lh := s1.1.len
  have ex : PyData.tuple [.str (Str.ofString "both"), .tuple [.str (Str.ofString "not"), .tuple [.str (Str.ofString "yes")]], .tuple [.str (Str.ofString "under"), (A.Sm.box y).d, .tuple [.str (Str.ofString "number"), .int 3]]] = x2 := hx2.symm
  rw [ex]
  generalize h1 ++ [Cl.lst [c1.d, x2]] = H4 at *
  refine badcond_run (k := k + 26) G nm S4.dk fun y2 c3 h5 b5 s5 => ?_
  have m5 := s5.get m4 ne
  have lm := (List.getElem?_eq_some_iff.mp m5).1
  simp [m5, line]
  refine q _ y2 c1 c3 _ ((S4.trans s5.1).set lh ne).dk ne (fun i hi hl => ?_) g1 b5 ?_
  · exact ((S4.trans s5.1).set lh ne).3 i hl hi
  · rw [List.getElem?_set_self lm, hx2]
theorem wide_nm5 {p : A.Pg} (gp : p.good 3) {y : Str} (hy : y ∈ badL) : A.Nm (wide p.names y) := wide_nm gp.bx.nm (by rw [A.Pg.names, List.length_map]; exact gp.bx.len) hy
theorem new5 {p : A.Pg} (gp : p.good 3) {y : Str} (hy : y ∈ badL) : y ∉ p.names := fun z => (bad_new y hy).1 (gp.base y z)
theorem num_good {names : List Str} {N : Nat} {i : Int} (h : 0 ≤ i ∧ i < 10 ^ 30) : (A.Sm.num i).good names (N + 1) := h
def hd4 : Ss := takeS 1 (dropS 8 loopB)
theorem hd4_run (G : A.Gn D0) {p : A.Pg} (gp : p.good 3) {k n a b : Nat} {h : Hh} (d : A.Dk n h) (an : a ≠ n) (bn : b ≠ n) {s1 s2 s3 c1 c2 c3 : PyData} (ha : h[a]? = some (.lst [s1, s2, s3])) (hb : h[b]? = some (.lst [c1, c2, c3])) {z0 z1 z4 z5 z8 z9 z10 z11 z12 z13 : Option PV} {Z : Zs}
    (q : ∀ (z8 z9 z10 z11 : Option PV) (h' : Hh), A.Dk n h' → h'[a]? = some (.lst [s1, s2, s3]) → h'[b]? = some (.lst [c1, c2, c3]) → Z.nx [z0, z1, some (.cell n), some (.d p.d), z4, z5, some (.cell a), some (.cell b), z8, z9, z10, z11, z12, z13] h') :
    PL.ws (exs (callN D0 (k + 32)) hd4 [z0, z1, some (.cell n), some (.d p.d), z4, z5, some (.cell a), some (.cell b), z8, z9, z10, z11, z12, z13] h) Z := by
  obtain ⟨B, hB⟩ : ∃ B, B = wB := ⟨_, rfl⟩
  have eb : hd4 = .cons (.for_ (.nm 8) (.seq (.call "_law_bad_ones" (.cons (.var 2) (.cons (.prim .idx (.cons (.var 3) (.cons (.cst (.int 0)) .nil))) .nil)))) B) .nil := by
    rw [hB]
    rfl
  have pd : p.d = .tuple [.list (A.bD p.bs), A.nL p.ins, .list (p.nds.map A.Nd.d)] := rfl
  rw [eb]
  simp [primM, pd]
  refine badones_run (k := k + 29) G gp.bx d fun wss h1 hw l10 sc => ?_
  obtain ⟨J, hJ⟩ : ∃ J : List PV → Ee → Hh → Prop, J = fun r e h' => ∃ (wss : List (List Int)) (z8 z9 z10 z11 : Option PV), r = wss.map (fun w => .d (A.iL w)) ∧ (∀ ws ∈ wss, Bw p.bs ws) ∧ A.Dk n h' ∧ h'[a]? = some (.lst [s1, s2, s3]) ∧ h'[b]? = some (.lst [c1, c2, c3]) ∧ e = [z0, z1, some (.cell n), some (.d p.d), z4, z5, some (.cell a), some (.cell b), z8, z9, z10, z11, z12, z13] := ⟨_, rfl⟩
  simp
  refine for_rule J ?_ ?_ _ _ _ ?_
  · intro v r e h' hi
    rw [hJ] at hi
    obtain ⟨wss, z8, z9, z10, z11, er, hw, d2, ha2, hb2, rfl⟩ := hi
    cases wss with
    | nil => cases er
    | cons w wss =>
      simp only [List.map_cons, List.cons.injEq] at er
      obtain ⟨rfl, rfl⟩ := er
      simp [sT, setT]
      rw [hB]
      refine inner_run G (hw w List.mem_cons_self) ha2 hb2 fun z9 z10 z11 h'' kp => ?_
      show J _ _ _
      rw [hJ]
      obtain ⟨dd, ed⟩ := d2
      exact ⟨wss, _, _, _, _, rfl, fun v hv => hw v (List.mem_cons_of_mem _ hv), ⟨dd, kp.get ed⟩, kp.get ha2, kp.get hb2, rfl⟩
  · intro e h' hi
    rw [hJ] at hi
    obtain ⟨wss, z8, z9, z10, z11, er, hw, d2, ha2, hb2, rfl⟩ := hi
    exact q _ _ _ _ h' d2 ha2 hb2
  · rw [hJ]
    exact ⟨wss, _, _, _, _, by simp, hw, sc.1.dk, sc.get ha an, sc.get hb bn, by rw [pd]⟩
theorem good (ns : List Int) (hl : ns.length ≤ 63) : ∃ h', callN D0 100 "law" [.kl (ns.map .int)] [] = .ok (bln true) h' := by
  have G : A.Gn D0 := ⟨lk__law_stir, lk__law_deck, lk__law_take, .inr lk__law_sum, lk__law_condition, lk__law_boxes, lk__law_node, lk__law_program⟩
  have key : wp (callN D0 (99 + 1) "law" [.kl (ns.map .int)] []) fun v h => v = bln true := by
    refine call_rule lk_law rfl ?_
    have c1 : (cut ns none (some 15)).length ≤ 63 := Nat.le_trans (A.cut_len _ _ _) hl
    have c2 : (cut ns none (some 15)).length ≤ 16777216 := by omega
    have c3 : 1 + (cut ns none (some 15)).length ≤ 16777216 := by omega
    have c4 : (cut ns none (some 15)).length + 1 ≤ 16777216 := by omega
    obtain ⟨B, hB⟩ : ∃ B, B = loopB := ⟨_, rfl⟩
    have eb : d_law.body = .cons (.for_ (.nm 1) (.seq (.prim (.add false) (.cons (.prim (.lst false) (.cons (.prim .pow (.cons (.cst (.int 10)) (.cons (.cst (.int 18)) .nil))) .nil)) (.cons (.prim (.slc false false true) (.cons (.var 0) (.cons (.cst (.int 15)) .nil))) .nil)))) B) (.cons (.ret (.cst (.bool true))) .nil) := by
      rw [hB]
      rfl
    have en : d_law.N.length = 14 := rfl
    rw [eb]
    simp [startE, primM, line, A.cut_map, c2, c3, c4, en]
    obtain ⟨I, hI⟩ : ∃ I : List PV → Ee → Hh → Prop, I = fun r e h => (∀ v ∈ r, ∃ c : Int, v = .d (.int c)) ∧ ∃ z0 z1 z2 z3 z4 z5 z6 z7 z8 z9 z10 z11 z12 z13 : Option PV, e = [z0, z1, z2, z3, z4, z5, z6, z7, z8, z9, z10, z11, z12, z13] := ⟨_, rfl⟩
    refine for_rule I ?_ ?_ _ _ _ ?_
    · intro v r e h hi
      rw [hI] at hi
      obtain ⟨hr, z0, z1, z2, z3, z4, z5, z6, z7, z8, z9, z10, z11, z12, z13, rfl⟩ := hi
      obtain ⟨c, rfl⟩ := hr v List.mem_cons_self
      have fin : ∀ (z0 z1 z2 z3 z4 z5 z6 z7 z8 z9 z10 z11 z12 z13 : Option PV) (h' : Hh), I r [z0, z1, z2, z3, z4, z5, z6, z7, z8, z9, z10, z11, z12, z13] h' := fun z0 z1 z2 z3 z4 z5 z6 z7 z8 z9 z10 z11 z12 z13 h' => by
        rw [hI]
        exact ⟨fun v hv => hr v (List.mem_cons_of_mem _ hv), _, _, _, _, _, _, _, _, _, _, _, _, _, _, rfl⟩
      simp only [sT, setT, List.set_cons_succ, List.set_cons_zero]
      have eB : B = appS hd1 (appS hd2 (appS hd3 (appS hd4 (dropS 9 loopB)))) := by
        rw [hB]
        rfl
      rw [eB, W_app]
      refine hd1_run (k := 67) G fun n p h1 gp d1 => ?_
      show ws (exs _ _ _ _) _
      rw [W_app]
      refine hd2_run (k := 67) G gp d1 fun a y1 y2 s1 s2 s3 h2 d2 an hy1 g1 g2 b3 ha => ?_
      show ws (exs _ _ _ _) _
      rw [W_app]
      refine hd3_run (k := 67) G gp d2 fun b y3 c1 c3 h3 d3 bn kp gc1 bc3 hb => ?_
      have ha3 : h3[a]? = some (.lst [s1.d, (A.Sm.less s2 (.plus (.box y1) (.num 0))).d, s3.d]) := by
        rw [kp a an (List.getElem?_eq_some_iff.mp ha).1]
        exact ha
      show ws (exs _ _ _ _) _
      rw [W_app]
      refine hd4_run (k := 67) G gp d3 an bn ha3 hb fun z8 z9 z10 z11 h4 d4 ha4 hb4 => ?_
      show ws (exs _ _ _ _) _
      have nm1 := wide_nm5 gp hy1
      have nm2 := wide_nm5 gp b3.new
      have nm3 := wide_nm5 gp bc3.new
      have ny1 := new5 gp hy1
      have ny2 := new5 gp b3.new
      have ny3 := new5 gp bc3.new
      have gs2 : (A.Sm.less s2 (.plus (.box y1) (.num 0))).good (wide p.names y1) 20 := ⟨A.sm_sub wide_sub (A.good_mono (by decide) g2), ⟨wide_in, num_good ⟨by decide, by decide⟩⟩⟩
      have gc2 : (A.Cn.both (.not .yes) (.under (.box y1) (.num 3))).good (wide p.names y1) 20 := ⟨True.intro, wide_in, num_good ⟨by decide, by decide⟩⟩
      refine tail_run (k := 67) G gp (s2 := A.Sm.less s2 (.plus (.box y1) (.num 0))) (c2 := A.Cn.both (.not .yes) (.under (.box y1) (.num 3))) (fun k h ws hw => tG0 gp.bx hw (by decide) g1) (fun k h ws hw => tB0 gp.bx hw nm1 gs2 ⟨y1, by simp [A.Sm.bxs], ny1⟩) (fun k h ws hw => tB0 gp.bx hw nm2 (A.good_mono (by decide) b3.good) ⟨y2, b3.has, ny2⟩)
        (fun k h ws hw => tG1 gp.bx hw (A.cgood_mono (by decide) gc1)) (fun k h ws hw => tB1 gp.bx hw nm1 gc2 ⟨y1, by simp [A.Cn.bxs, A.Sm.bxs], ny1⟩) (fun k h ws hw => tB1 gp.bx hw nm3 bc3.good ⟨y3, bc3.has, ny3⟩) d4 an bn ha4 hb4 fun z8 z9 z10 z11 h' => ?_
      exact fin _ _ _ _ _ _ _ _ _ _ _ _ _ _ h'
    · intro e h hi
      trivial
    · rw [hI]
      refine ⟨fun v hv => ?_, _, _, _, _, _, _, _, _, _, _, _, _, _, _, rfl⟩
      simp at hv
      rcases hv with rfl | ⟨c, _, rfl⟩
      · exact ⟨_, rfl⟩
      · exact ⟨_, rfl⟩
  obtain ⟨v, h, e, rfl⟩ := wp_get key
  exact ⟨h, e⟩
section
variable {P : Program} {w : World} {K : PySem.W.Frag} {mg : Str → Option Value} {base : Heap}
open PySem.W PyProof.Rows L2 in
theorem all_mk {l : PySem.W.OpenLaw} {w : World} {K : PySem.W.Frag} {h : Heap} {mg : Str → Option Value} {fa : Addr} (X : K.In h) (G : h.Ns mainGlobals mg) (hfa : mg "law" = some (.ref fa))
    {f0 : Addr} {od0 an0 : Option Addr} {sl0 : Array (Option Value)} {oc0 kV0 dc0 pm0 cd0 ct0 : Value}
    {f1 : Addr} {od1 an1 : Option Addr} {sl1 : Array (Option Value)} {oc1 kV1 dc1 pm1 cd1 ct1 : Value}
    {f2 : Addr} {od2 an2 : Option Addr} {sl2 : Array (Option Value)} {oc2 kV2 dc2 pm2 cd2 ct2 : Value}
    {f3 : Addr} {od3 an3 : Option Addr} {sl3 : Array (Option Value)} {oc3 kV3 dc3 pm3 cd3 ct3 : Value}
    {f4 : Addr} {od4 an4 : Option Addr} {sl4 : Array (Option Value)} {oc4 kV4 dc4 pm4 cd4 ct4 : Value}
    {f5 : Addr} {od5 an5 : Option Addr} {sl5 : Array (Option Value)} {oc5 kV5 dc5 pm5 cd5 ct5 : Value}
    {f6 : Addr} {od6 an6 : Option Addr} {sl6 : Array (Option Value)} {oc6 kV6 dc6 pm6 cd6 ct6 : Value}
    {f7 : Addr} {od7 an7 : Option Addr} {sl7 : Array (Option Value)} {oc7 kV7 dc7 pm7 cd7 ct7 : Value}
    {f8 : Addr} {od8 an8 : Option Addr} {sl8 : Array (Option Value)} {oc8 kV8 dc8 pm8 cd8 ct8 : Value}
    {f9 : Addr} {od9 an9 : Option Addr} {sl9 : Array (Option Value)} {oc9 kV9 dc9 pm9 cd9 ct9 : Value}
    {f10 : Addr} {od10 an10 : Option Addr} {sl10 : Array (Option Value)} {oc10 kV10 dc10 pm10 cd10 ct10 : Value}
    {f11 : Addr} {od11 an11 : Option Addr} {sl11 : Array (Option Value)} {oc11 kV11 dc11 pm11 cd11 ct11 : Value}
    {f12 : Addr} {od12 an12 : Option Addr} {sl12 : Array (Option Value)} {oc12 kV12 dc12 pm12 cd12 ct12 : Value}
    {f13 : Addr} {od13 an13 : Option Addr} {sl13 : Array (Option Value)} {oc13 kV13 dc13 pm13 cd13 ct13 : Value}
    {f14 : Addr} {od14 an14 : Option Addr} {sl14 : Array (Option Value)} {oc14 kV14 dc14 pm14 cd14 ct14 : Value}
    {f15 : Addr} {od15 an15 : Option Addr} {sl15 : Array (Option Value)} {oc15 kV15 dc15 pm15 cd15 ct15 : Value}
    {f16 : Addr} {od16 an16 : Option Addr} {sl16 : Array (Option Value)} {oc16 kV16 dc16 pm16 cd16 ct16 : Value}
    {f17 : Addr} {od17 an17 : Option Addr} {sl17 : Array (Option Value)} {oc17 kV17 dc17 pm17 cd17 ct17 : Value}
    {f18 : Addr} {od18 an18 : Option Addr} {sl18 : Array (Option Value)} {oc18 kV18 dc18 pm18 cd18 ct18 : Value}
    {f19 : Addr} {od19 an19 : Option Addr} {sl19 : Array (Option Value)} {oc19 kV19 dc19 pm19 cd19 ct19 : Value}
    {f20 : Addr} {od20 an20 : Option Addr} {sl20 : Array (Option Value)} {oc20 kV20 dc20 pm20 cd20 ct20 : Value}
    {f21 : Addr} {od21 an21 : Option Addr} {sl21 : Array (Option Value)} {oc21 kV21 dc21 pm21 cd21 ct21 : Value}
    {f22 : Addr} {od22 an22 : Option Addr} {sl22 : Array (Option Value)} {oc22 kV22 dc22 pm22 cd22 ct22 : Value}
    {f23 : Addr} {od23 an23 : Option Addr} {sl23 : Array (Option Value)} {oc23 kV23 dc23 pm23 cd23 ct23 : Value}
    {C_NoWorths : Addr}
    {C_NoProgram : Addr}
    {C_NoChange : Addr}
    {C_NoForm : Addr}
    {C_NoneYet : Addr}
    {C_NoNode : Addr}
    {C_NoPair : Addr}
    {C_NoPaper : Addr}
    {C_NoPicks : Addr}
    {C_NoRow : Addr}
    {C_TooMany : Addr}
    {C_TwinError : Addr}
    (a0 : PySem.W.nsIn K mainGlobals "boxes_named" = some (some (.ref f0))) (l0 : K.lookup f0 = some ⟨oc0, od0, .func (PySem.W.fnOf "boxes_named" "boxes_named" (L2.defArgs i_boxes_named.st) (L2.defBody i_boxes_named.st) (L2.defScope i_boxes_named.st) .none kV0 dc0 pm0 an0 cd0 ct0), sl0⟩) (c0 : PySem.W.codeIn K cd0 "boxes_named" = true) (k0 : PySem.W.keepIn K (.ref f0) = true)
    (a1 : PySem.W.nsIn K mainGlobals "names_of" = some (some (.ref f1))) (l1 : K.lookup f1 = some ⟨oc1, od1, .func (PySem.W.fnOf "names_of" "names_of" (L2.defArgs i_names_of.st) (L2.defBody i_names_of.st) (L2.defScope i_names_of.st) .none kV1 dc1 pm1 an1 cd1 ct1), sl1⟩) (c1 : PySem.W.codeIn K cd1 "names_of" = true) (k1 : PySem.W.keepIn K (.ref f1) = true)
    (a2 : PySem.W.nsIn K mainGlobals "worth_in" = some (some (.ref f2))) (l2 : K.lookup f2 = some ⟨oc2, od2, .func (PySem.W.fnOf "worth_in" "worth_in" (L2.defArgs i_worth_in.st) (L2.defBody i_worth_in.st) (L2.defScope i_worth_in.st) .none kV2 dc2 pm2 an2 cd2 ct2), sl2⟩) (c2 : PySem.W.codeIn K cd2 "worth_in" = true) (k2 : PySem.W.keepIn K (.ref f2) = true)
    (a3 : PySem.W.nsIn K mainGlobals "holds_in" = some (some (.ref f3))) (l3 : K.lookup f3 = some ⟨oc3, od3, .func (PySem.W.fnOf "holds_in" "holds_in" (L2.defArgs i_holds_in.st) (L2.defBody i_holds_in.st) (L2.defScope i_holds_in.st) .none kV3 dc3 pm3 an3 cd3 ct3), sl3⟩) (c3 : PySem.W.codeIn K cd3 "holds_in" = true) (k3 : PySem.W.keepIn K (.ref f3) = true)
    (a4 : PySem.W.nsIn K mainGlobals "need_worths" = some (some (.ref f4))) (l4 : K.lookup f4 = some ⟨oc4, od4, .func (PySem.W.fnOf "need_worths" "need_worths" (L2.defArgs i_need_worths.st) (L2.defBody i_need_worths.st) (L2.defScope i_need_worths.st) .none kV4 dc4 pm4 an4 cd4 ct4), sl4⟩) (c4 : PySem.W.codeIn K cd4 "need_worths" = true) (k4 : PySem.W.keepIn K (.ref f4) = true)
    (a5 : PySem.W.nsIn K mainGlobals "known_by" = some (some (.ref f5))) (l5 : K.lookup f5 = some ⟨oc5, od5, .func (PySem.W.fnOf "known_by" "known_by" (L2.defArgs i_known_by.st) (L2.defBody i_known_by.st) (L2.defScope i_known_by.st) .none kV5 dc5 pm5 an5 cd5 ct5), sl5⟩) (c5 : PySem.W.codeIn K cd5 "known_by" = true) (k5 : PySem.W.keepIn K (.ref f5) = true)
    (a6 : PySem.W.nsIn K mainGlobals "need_known" = some (some (.ref f6))) (l6 : K.lookup f6 = some ⟨oc6, od6, .func (PySem.W.fnOf "need_known" "need_known" (L2.defArgs i_need_known.st) (L2.defBody i_need_known.st) (L2.defScope i_need_known.st) .none kV6 dc6 pm6 an6 cd6 ct6), sl6⟩) (c6 : PySem.W.codeIn K cd6 "need_known" = true) (k6 : PySem.W.keepIn K (.ref f6) = true)
    (a7 : PySem.W.nsIn K mainGlobals "sum_worth" = some (some (.ref f7))) (l7 : K.lookup f7 = some ⟨oc7, od7, .func (PySem.W.fnOf "sum_worth" "sum_worth" (L2.defArgs i_sum_worth.st) (L2.defBody i_sum_worth.st) (L2.defScope i_sum_worth.st) .none kV7 dc7 pm7 an7 cd7 ct7), sl7⟩) (c7 : PySem.W.codeIn K cd7 "sum_worth" = true) (k7 : PySem.W.keepIn K (.ref f7) = true)
    (a8 : PySem.W.nsIn K mainGlobals "holds_at" = some (some (.ref f8))) (l8 : K.lookup f8 = some ⟨oc8, od8, .func (PySem.W.fnOf "holds_at" "holds_at" (L2.defArgs i_holds_at.st) (L2.defBody i_holds_at.st) (L2.defScope i_holds_at.st) .none kV8 dc8 pm8 an8 cd8 ct8), sl8⟩) (c8 : PySem.W.codeIn K cd8 "holds_at" = true) (k8 : PySem.W.keepIn K (.ref f8) = true)
    (a9 : PySem.W.nsIn K mainGlobals "step_from" = some (some (.ref f9))) (l9 : K.lookup f9 = some ⟨oc9, od9, .func (PySem.W.fnOf "step_from" "step_from" (L2.defArgs i_step_from.st) (L2.defBody i_step_from.st) (L2.defScope i_step_from.st) .none kV9 dc9 pm9 an9 cd9 ct9), sl9⟩) (c9 : PySem.W.codeIn K cd9 "step_from" = true) (k9 : PySem.W.keepIn K (.ref f9) = true)
    (a10 : PySem.W.nsIn K mainGlobals "_law_stir" = some (some (.ref f10))) (l10 : K.lookup f10 = some ⟨oc10, od10, .func (PySem.W.fnOf "_law_stir" "_law_stir" (L2.defArgs i__law_stir.st) (L2.defBody i__law_stir.st) (L2.defScope i__law_stir.st) .none kV10 dc10 pm10 an10 cd10 ct10), sl10⟩) (c10 : PySem.W.codeIn K cd10 "_law_stir" = true) (k10 : PySem.W.keepIn K (.ref f10) = true)
    (a11 : PySem.W.nsIn K mainGlobals "_law_deck" = some (some (.ref f11))) (l11 : K.lookup f11 = some ⟨oc11, od11, .func (PySem.W.fnOf "_law_deck" "_law_deck" (L2.defArgs i__law_deck.st) (L2.defBody i__law_deck.st) (L2.defScope i__law_deck.st) .none kV11 dc11 pm11 an11 cd11 ct11), sl11⟩) (c11 : PySem.W.codeIn K cd11 "_law_deck" = true) (k11 : PySem.W.keepIn K (.ref f11) = true)
    (a12 : PySem.W.nsIn K mainGlobals "_law_take" = some (some (.ref f12))) (l12 : K.lookup f12 = some ⟨oc12, od12, .func (PySem.W.fnOf "_law_take" "_law_take" (L2.defArgs i__law_take.st) (L2.defBody i__law_take.st) (L2.defScope i__law_take.st) .none kV12 dc12 pm12 an12 cd12 ct12), sl12⟩) (c12 : PySem.W.codeIn K cd12 "_law_take" = true) (k12 : PySem.W.keepIn K (.ref f12) = true)
    (a13 : PySem.W.nsIn K mainGlobals "_law_sum" = some (some (.ref f13))) (l13 : K.lookup f13 = some ⟨oc13, od13, .func (PySem.W.fnOf "_law_sum" "_law_sum" (L2.defArgs i__law_sum.st) (L2.defBody i__law_sum.st) (L2.defScope i__law_sum.st) .none kV13 dc13 pm13 an13 cd13 ct13), sl13⟩) (c13 : PySem.W.codeIn K cd13 "_law_sum" = true) (k13 : PySem.W.keepIn K (.ref f13) = true)
    (a14 : PySem.W.nsIn K mainGlobals "_law_condition" = some (some (.ref f14))) (l14 : K.lookup f14 = some ⟨oc14, od14, .func (PySem.W.fnOf "_law_condition" "_law_condition" (L2.defArgs i__law_condition.st) (L2.defBody i__law_condition.st) (L2.defScope i__law_condition.st) .none kV14 dc14 pm14 an14 cd14 ct14), sl14⟩) (c14 : PySem.W.codeIn K cd14 "_law_condition" = true) (k14 : PySem.W.keepIn K (.ref f14) = true)
    (a15 : PySem.W.nsIn K mainGlobals "_law_boxes" = some (some (.ref f15))) (l15 : K.lookup f15 = some ⟨oc15, od15, .func (PySem.W.fnOf "_law_boxes" "_law_boxes" (L2.defArgs i__law_boxes.st) (L2.defBody i__law_boxes.st) (L2.defScope i__law_boxes.st) .none kV15 dc15 pm15 an15 cd15 ct15), sl15⟩) (c15 : PySem.W.codeIn K cd15 "_law_boxes" = true) (k15 : PySem.W.keepIn K (.ref f15) = true)
    (a16 : PySem.W.nsIn K mainGlobals "_law_node" = some (some (.ref f16))) (l16 : K.lookup f16 = some ⟨oc16, od16, .func (PySem.W.fnOf "_law_node" "_law_node" (L2.defArgs i__law_node.st) (L2.defBody i__law_node.st) (L2.defScope i__law_node.st) .none kV16 dc16 pm16 an16 cd16 ct16), sl16⟩) (c16 : PySem.W.codeIn K cd16 "_law_node" = true) (k16 : PySem.W.keepIn K (.ref f16) = true)
    (a17 : PySem.W.nsIn K mainGlobals "_law_program" = some (some (.ref f17))) (l17 : K.lookup f17 = some ⟨oc17, od17, .func (PySem.W.fnOf "_law_program" "_law_program" (L2.defArgs i__law_program.st) (L2.defBody i__law_program.st) (L2.defScope i__law_program.st) .none kV17 dc17 pm17 an17 cd17 ct17), sl17⟩) (c17 : PySem.W.codeIn K cd17 "_law_program" = true) (k17 : PySem.W.keepIn K (.ref f17) = true)
    (a18 : PySem.W.nsIn K mainGlobals "_law_worths" = some (some (.ref f18))) (l18 : K.lookup f18 = some ⟨oc18, od18, .func (PySem.W.fnOf "_law_worths" "_law_worths" (L2.defArgs i__law_worths.st) (L2.defBody i__law_worths.st) (L2.defScope i__law_worths.st) .none kV18 dc18 pm18 an18 cd18 ct18), sl18⟩) (c18 : PySem.W.codeIn K cd18 "_law_worths" = true) (k18 : PySem.W.keepIn K (.ref f18) = true)
    (a19 : PySem.W.nsIn K mainGlobals "_law_bad_sum" = some (some (.ref f19))) (l19 : K.lookup f19 = some ⟨oc19, od19, .func (PySem.W.fnOf "_law_bad_sum" "_law_bad_sum" (L2.defArgs i__law_bad_sum.st) (L2.defBody i__law_bad_sum.st) (L2.defScope i__law_bad_sum.st) .none kV19 dc19 pm19 an19 cd19 ct19), sl19⟩) (c19 : PySem.W.codeIn K cd19 "_law_bad_sum" = true) (k19 : PySem.W.keepIn K (.ref f19) = true)
    (a20 : PySem.W.nsIn K mainGlobals "_law_bad_condition" = some (some (.ref f20))) (l20 : K.lookup f20 = some ⟨oc20, od20, .func (PySem.W.fnOf "_law_bad_condition" "_law_bad_condition" (L2.defArgs i__law_bad_condition.st) (L2.defBody i__law_bad_condition.st) (L2.defScope i__law_bad_condition.st) .none kV20 dc20 pm20 an20 cd20 ct20), sl20⟩) (c20 : PySem.W.codeIn K cd20 "_law_bad_condition" = true) (k20 : PySem.W.keepIn K (.ref f20) = true)
    (a21 : PySem.W.nsIn K mainGlobals "_law_asked" = some (some (.ref f21))) (l21 : K.lookup f21 = some ⟨oc21, od21, .func (PySem.W.fnOf "_law_asked" "_law_asked" (L2.defArgs i__law_asked.st) (L2.defBody i__law_asked.st) (L2.defScope i__law_asked.st) .none kV21 dc21 pm21 an21 cd21 ct21), sl21⟩) (c21 : PySem.W.codeIn K cd21 "_law_asked" = true) (k21 : PySem.W.keepIn K (.ref f21) = true)
    (a22 : PySem.W.nsIn K mainGlobals "_law_bad_ones" = some (some (.ref f22))) (l22 : K.lookup f22 = some ⟨oc22, od22, .func (PySem.W.fnOf "_law_bad_ones" "_law_bad_ones" (L2.defArgs i__law_bad_ones.st) (L2.defBody i__law_bad_ones.st) (L2.defScope i__law_bad_ones.st) .none kV22 dc22 pm22 an22 cd22 ct22), sl22⟩) (c22 : PySem.W.codeIn K cd22 "_law_bad_ones" = true) (k22 : PySem.W.keepIn K (.ref f22) = true)
    (a23 : PySem.W.nsIn K mainGlobals "law" = some (some (.ref f23))) (l23 : K.lookup f23 = some ⟨oc23, od23, .func (PySem.W.fnOf "law" "law" (L2.defArgs i_law.st) (L2.defBody i_law.st) (L2.defScope i_law.st) .none kV23 dc23 pm23 an23 cd23 ct23), sl23⟩) (c23 : PySem.W.codeIn K cd23 "law" = true) (k23 : PySem.W.keepIn K (.ref f23) = true)
    (z0 : PySem.W.nsIn K mainGlobals "dict" = some none)
    (z1 : PySem.W.nsIn K mainGlobals "int" = some none)
    (z2 : PySem.W.nsIn K mainGlobals "isinstance" = some none)
    (z3 : PySem.W.nsIn K mainGlobals "len" = some none)
    (z4 : PySem.W.nsIn K mainGlobals "list" = some none)
    (z5 : PySem.W.nsIn K mainGlobals "range" = some none)
    (z6 : PySem.W.nsIn K mainGlobals "tuple" = some none)
    (z7 : PySem.W.nsIn K mainGlobals "zip" = some none)
    (n_NoWorths : PySem.W.nsIn K mainGlobals "NoWorths" = some (some (.ref C_NoWorths)))
    (b_NoWorths : PySem.W.subIn K (.ref C_NoWorths) (.type "BaseException") = some true)
    (d_NoWorths : PySem.W.hasDictIn K C_NoWorths = true)
    (t_NoWorths : PySem.W.typeIn K (.ref C_NoWorths) = some (.type "type"))
    (n_NoProgram : PySem.W.nsIn K mainGlobals "NoProgram" = some (some (.ref C_NoProgram)))
    (b_NoProgram : PySem.W.subIn K (.ref C_NoProgram) (.type "BaseException") = some true)
    (d_NoProgram : PySem.W.hasDictIn K C_NoProgram = true)
    (t_NoProgram : PySem.W.typeIn K (.ref C_NoProgram) = some (.type "type"))
    (n_NoChange : PySem.W.nsIn K mainGlobals "NoChange" = some (some (.ref C_NoChange)))
    (b_NoChange : PySem.W.subIn K (.ref C_NoChange) (.type "BaseException") = some true)
    (d_NoChange : PySem.W.hasDictIn K C_NoChange = true)
    (t_NoChange : PySem.W.typeIn K (.ref C_NoChange) = some (.type "type"))
    (n_NoForm : PySem.W.nsIn K mainGlobals "NoForm" = some (some (.ref C_NoForm)))
    (b_NoForm : PySem.W.subIn K (.ref C_NoForm) (.type "BaseException") = some true)
    (d_NoForm : PySem.W.hasDictIn K C_NoForm = true)
    (t_NoForm : PySem.W.typeIn K (.ref C_NoForm) = some (.type "type"))
    (n_NoneYet : PySem.W.nsIn K mainGlobals "NoneYet" = some (some (.ref C_NoneYet)))
    (b_NoneYet : PySem.W.subIn K (.ref C_NoneYet) (.type "BaseException") = some true)
    (d_NoneYet : PySem.W.hasDictIn K C_NoneYet = true)
    (t_NoneYet : PySem.W.typeIn K (.ref C_NoneYet) = some (.type "type"))
    (n_NoNode : PySem.W.nsIn K mainGlobals "NoNode" = some (some (.ref C_NoNode)))
    (b_NoNode : PySem.W.subIn K (.ref C_NoNode) (.type "BaseException") = some true)
    (d_NoNode : PySem.W.hasDictIn K C_NoNode = true)
    (t_NoNode : PySem.W.typeIn K (.ref C_NoNode) = some (.type "type"))
    (n_NoPair : PySem.W.nsIn K mainGlobals "NoPair" = some (some (.ref C_NoPair)))
    (b_NoPair : PySem.W.subIn K (.ref C_NoPair) (.type "BaseException") = some true)
    (d_NoPair : PySem.W.hasDictIn K C_NoPair = true)
    (t_NoPair : PySem.W.typeIn K (.ref C_NoPair) = some (.type "type"))
    (n_NoPaper : PySem.W.nsIn K mainGlobals "NoPaper" = some (some (.ref C_NoPaper)))
    (b_NoPaper : PySem.W.subIn K (.ref C_NoPaper) (.type "BaseException") = some true)
    (d_NoPaper : PySem.W.hasDictIn K C_NoPaper = true)
    (t_NoPaper : PySem.W.typeIn K (.ref C_NoPaper) = some (.type "type"))
    (n_NoPicks : PySem.W.nsIn K mainGlobals "NoPicks" = some (some (.ref C_NoPicks)))
    (b_NoPicks : PySem.W.subIn K (.ref C_NoPicks) (.type "BaseException") = some true)
    (d_NoPicks : PySem.W.hasDictIn K C_NoPicks = true)
    (t_NoPicks : PySem.W.typeIn K (.ref C_NoPicks) = some (.type "type"))
    (n_NoRow : PySem.W.nsIn K mainGlobals "NoRow" = some (some (.ref C_NoRow)))
    (b_NoRow : PySem.W.subIn K (.ref C_NoRow) (.type "BaseException") = some true)
    (d_NoRow : PySem.W.hasDictIn K C_NoRow = true)
    (t_NoRow : PySem.W.typeIn K (.ref C_NoRow) = some (.type "type"))
    (n_TooMany : PySem.W.nsIn K mainGlobals "TooMany" = some (some (.ref C_TooMany)))
    (b_TooMany : PySem.W.subIn K (.ref C_TooMany) (.type "BaseException") = some true)
    (d_TooMany : PySem.W.hasDictIn K C_TooMany = true)
    (t_TooMany : PySem.W.typeIn K (.ref C_TooMany) = some (.type "type"))
    (n_TwinError : PySem.W.nsIn K mainGlobals "TwinError" = some (some (.ref C_TwinError)))
    (b_TwinError : PySem.W.subIn K (.ref C_TwinError) (.type "BaseException") = some true)
    (d_TwinError : PySem.W.hasDictIn K C_TwinError = true)
    (t_TwinError : PySem.W.typeIn K (.ref C_TwinError) = some (.type "type"))
    (zve : PySem.W.nsIn K mainGlobals "ValueError" = some none)
    (xn : PySem.W.specialIn K (.builtin "object.__class__") "__get__" = some (some (.builtin "getset_descriptor.__get__"))) (xt : PySem.W.takesIn K (.builtin "object.__class__") = some true)
    (x1_NoWorths : PySem.W.excIn K C_NoWorths He.veBase "ValueError.__new__" = true) (x2_NoWorths : PySem.W.keepIn K (.ref C_NoWorths) = true) (x3_NoWorths : PySem.W.subIn K (.ref C_NoWorths) (.type "ValueError") = some true) (x4_NoWorths : PySem.W.findIn K (.ref C_NoWorths) "__getattribute__" = some (some (.builtin "BaseException.__getattribute__"))) (x5_NoWorths : PySem.W.findIn K (.ref C_NoWorths) "__getattr__" = some none) (x6_NoWorths : PySem.W.findIn K (.ref C_NoWorths) "__class__" = some (some (.builtin "object.__class__"))) (x7_NoWorths : PySem.W.mroIn K C_NoWorths (.type "object") = some true)
    (p_NoWorths_NoWorths : PySem.W.subIn K (.ref C_NoWorths) (.ref C_NoWorths) = some true)
    (p_NoWorths_NoProgram : PySem.W.subIn K (.ref C_NoWorths) (.ref C_NoProgram) = some false)
    (p_NoWorths_NoChange : PySem.W.subIn K (.ref C_NoWorths) (.ref C_NoChange) = some false)
    (p_NoWorths_NoForm : PySem.W.subIn K (.ref C_NoWorths) (.ref C_NoForm) = some false)
    (p_NoWorths_NoneYet : PySem.W.subIn K (.ref C_NoWorths) (.ref C_NoneYet) = some false)
    (p_NoWorths_NoNode : PySem.W.subIn K (.ref C_NoWorths) (.ref C_NoNode) = some false)
    (p_NoWorths_NoPair : PySem.W.subIn K (.ref C_NoWorths) (.ref C_NoPair) = some false)
    (p_NoWorths_NoPaper : PySem.W.subIn K (.ref C_NoWorths) (.ref C_NoPaper) = some false)
    (p_NoWorths_NoPicks : PySem.W.subIn K (.ref C_NoWorths) (.ref C_NoPicks) = some false)
    (p_NoWorths_NoRow : PySem.W.subIn K (.ref C_NoWorths) (.ref C_NoRow) = some false)
    (p_NoWorths_TooMany : PySem.W.subIn K (.ref C_NoWorths) (.ref C_TooMany) = some false)
    (p_NoWorths_TwinError : PySem.W.subIn K (.ref C_NoWorths) (.ref C_TwinError) = some true)
    (x1_NoProgram : PySem.W.excIn K C_NoProgram He.veBase "ValueError.__new__" = true) (x2_NoProgram : PySem.W.keepIn K (.ref C_NoProgram) = true) (x3_NoProgram : PySem.W.subIn K (.ref C_NoProgram) (.type "ValueError") = some true) (x4_NoProgram : PySem.W.findIn K (.ref C_NoProgram) "__getattribute__" = some (some (.builtin "BaseException.__getattribute__"))) (x5_NoProgram : PySem.W.findIn K (.ref C_NoProgram) "__getattr__" = some none) (x6_NoProgram : PySem.W.findIn K (.ref C_NoProgram) "__class__" = some (some (.builtin "object.__class__"))) (x7_NoProgram : PySem.W.mroIn K C_NoProgram (.type "object") = some true)
    (p_NoProgram_NoWorths : PySem.W.subIn K (.ref C_NoProgram) (.ref C_NoWorths) = some false)
    (p_NoProgram_NoProgram : PySem.W.subIn K (.ref C_NoProgram) (.ref C_NoProgram) = some true)
    (p_NoProgram_NoChange : PySem.W.subIn K (.ref C_NoProgram) (.ref C_NoChange) = some false)
    (p_NoProgram_NoForm : PySem.W.subIn K (.ref C_NoProgram) (.ref C_NoForm) = some false)
    (p_NoProgram_NoneYet : PySem.W.subIn K (.ref C_NoProgram) (.ref C_NoneYet) = some false)
    (p_NoProgram_NoNode : PySem.W.subIn K (.ref C_NoProgram) (.ref C_NoNode) = some false)
    (p_NoProgram_NoPair : PySem.W.subIn K (.ref C_NoProgram) (.ref C_NoPair) = some false)
    (p_NoProgram_NoPaper : PySem.W.subIn K (.ref C_NoProgram) (.ref C_NoPaper) = some false)
    (p_NoProgram_NoPicks : PySem.W.subIn K (.ref C_NoProgram) (.ref C_NoPicks) = some false)
    (p_NoProgram_NoRow : PySem.W.subIn K (.ref C_NoProgram) (.ref C_NoRow) = some false)
    (p_NoProgram_TooMany : PySem.W.subIn K (.ref C_NoProgram) (.ref C_TooMany) = some false)
    (p_NoProgram_TwinError : PySem.W.subIn K (.ref C_NoProgram) (.ref C_TwinError) = some true)
    : ∃ fd : FuncData, (∀ (s : Shared) (v : Value), BindsTo s fd ⟨[v], []⟩ [("script", v)]) ∧ ∀ base : Heap, K.In base → base.Ns mainGlobals mg → L2.FnOk l.prog w K mg base (L2.CX l.prog w) 100 fa fd ["script"] (spLaw K) := by
  have e := hfa.symm.trans (PySem.W.mg_of X G a23)
  cases e
  have F0 := L2.fun_mk (st := i_boxes_named.st) l0 c0 k0
  have H0 : Held K mg i_boxes_named _ _ := ⟨F0, PySem.W.mg_of X G a0, F0.binds (ps := ["told"]) fun _ _ _ _ _ _ us hl => match us, hl with | [_], _ => rfl⟩
  have F1 := L2.fun_mk (st := i_names_of.st) l1 c1 k1
  have H1 : Held K mg i_names_of _ _ := ⟨F1, PySem.W.mg_of X G a1, F1.binds (ps := ["program"]) fun _ _ _ _ _ _ us hl => match us, hl with | [_], _ => rfl⟩
  have F2 := L2.fun_mk (st := i_worth_in.st) l2 c2 k2
  have H2 : Held K mg i_worth_in _ _ := ⟨F2, PySem.W.mg_of X G a2, F2.binds (ps := ["known", "told"]) fun _ _ _ _ _ _ us hl => match us, hl with | [_, _], _ => rfl⟩
  have F3 := L2.fun_mk (st := i_holds_in.st) l3 c3 k3
  have H3 : Held K mg i_holds_in _ _ := ⟨F3, PySem.W.mg_of X G a3, F3.binds (ps := ["known", "condition"]) fun _ _ _ _ _ _ us hl => match us, hl with | [_, _], _ => rfl⟩
  have F4 := L2.fun_mk (st := i_need_worths.st) l4 c4 k4
  have H4 : Held K mg i_need_worths _ _ := ⟨F4, PySem.W.mg_of X G a4, F4.binds (ps := ["program", "worths"]) fun _ _ _ _ _ _ us hl => match us, hl with | [_, _], _ => rfl⟩
  have F5 := L2.fun_mk (st := i_known_by.st) l5 c5 k5
  have H5 : Held K mg i_known_by _ _ := ⟨F5, PySem.W.mg_of X G a5, F5.binds (ps := ["program", "worths"]) fun _ _ _ _ _ _ us hl => match us, hl with | [_, _], _ => rfl⟩
  have F6 := L2.fun_mk (st := i_need_known.st) l6 c6 k6
  have H6 : Held K mg i_need_known _ _ := ⟨F6, PySem.W.mg_of X G a6, F6.binds (ps := ["program", "worths", "told"]) fun _ _ _ _ _ _ us hl => match us, hl with | [_, _, _], _ => rfl⟩
  have F7 := L2.fun_mk (st := i_sum_worth.st) l7 c7 k7
  have H7 : Held K mg i_sum_worth _ _ := ⟨F7, PySem.W.mg_of X G a7, F7.binds (ps := ["program", "worths", "sum_told"]) fun _ _ _ _ _ _ us hl => match us, hl with | [_, _, _], _ => rfl⟩
  have F8 := L2.fun_mk (st := i_holds_at.st) l8 c8 k8
  have H8 : Held K mg i_holds_at _ _ := ⟨F8, PySem.W.mg_of X G a8, F8.binds (ps := ["program", "worths", "condition"]) fun _ _ _ _ _ _ us hl => match us, hl with | [_, _, _], _ => rfl⟩
  have F9 := L2.fun_mk (st := i_step_from.st) l9 c9 k9
  have H9 : Held K mg i_step_from _ _ := ⟨F9, PySem.W.mg_of X G a9, F9.binds (ps := ["program", "place", "worths"]) fun _ _ _ _ _ _ us hl => match us, hl with | [_, _, _], _ => rfl⟩
  have F10 := L2.fun_mk (st := i__law_stir.st) l10 c10 k10
  have H10 : Held K mg i__law_stir _ _ := ⟨F10, PySem.W.mg_of X G a10, F10.binds (ps := ["cell", "k"]) fun _ _ _ _ _ _ us hl => match us, hl with | [_, _], _ => rfl⟩
  have F11 := L2.fun_mk (st := i__law_deck.st) l11 c11 k11
  have H11 : Held K mg i__law_deck _ _ := ⟨F11, PySem.W.mg_of X G a11, F11.binds (ps := ["cell"]) fun _ _ _ _ _ _ us hl => match us, hl with | [_], _ => rfl⟩
  have F12 := L2.fun_mk (st := i__law_take.st) l12 c12 k12
  have H12 : Held K mg i__law_take _ _ := ⟨F12, PySem.W.mg_of X G a12, F12.binds (ps := ["deck", "many"]) fun _ _ _ _ _ _ us hl => match us, hl with | [_, _], _ => rfl⟩
  have F13 := L2.fun_mk (st := i__law_sum.st) l13 c13 k13
  have H13 : Held K mg i__law_sum _ _ := ⟨F13, PySem.W.mg_of X G a13, F13.binds (ps := ["deck", "names", "deep"]) fun _ _ _ _ _ _ us hl => match us, hl with | [_, _, _], _ => rfl⟩
  have F14 := L2.fun_mk (st := i__law_condition.st) l14 c14 k14
  have H14 : Held K mg i__law_condition _ _ := ⟨F14, PySem.W.mg_of X G a14, F14.binds (ps := ["deck", "names", "deep"]) fun _ _ _ _ _ _ us hl => match us, hl with | [_, _, _], _ => rfl⟩
  have F15 := L2.fun_mk (st := i__law_boxes.st) l15 c15 k15
  have H15 : Held K mg i__law_boxes _ _ := ⟨F15, PySem.W.mg_of X G a15, F15.binds (ps := ["deck"]) fun _ _ _ _ _ _ us hl => match us, hl with | [_], _ => rfl⟩
  have F16 := L2.fun_mk (st := i__law_node.st) l16 c16 k16
  have H16 : Held K mg i__law_node _ _ := ⟨F16, PySem.W.mg_of X G a16, F16.binds (ps := ["deck", "names", "many"]) fun _ _ _ _ _ _ us hl => match us, hl with | [_, _, _], _ => rfl⟩
  have F17 := L2.fun_mk (st := i__law_program.st) l17 c17 k17
  have H17 : Held K mg i__law_program _ _ := ⟨F17, PySem.W.mg_of X G a17, F17.binds (ps := ["deck", "most"]) fun _ _ _ _ _ _ us hl => match us, hl with | [_, _], _ => rfl⟩
  have F18 := L2.fun_mk (st := i__law_worths.st) l18 c18 k18
  have H18 : Held K mg i__law_worths _ _ := ⟨F18, PySem.W.mg_of X G a18, F18.binds (ps := ["deck", "boxes"]) fun _ _ _ _ _ _ us hl => match us, hl with | [_, _], _ => rfl⟩
  have F19 := L2.fun_mk (st := i__law_bad_sum.st) l19 c19 k19
  have H19 : Held K mg i__law_bad_sum _ _ := ⟨F19, PySem.W.mg_of X G a19, F19.binds (ps := ["deck", "names", "deep"]) fun _ _ _ _ _ _ us hl => match us, hl with | [_, _, _], _ => rfl⟩
  have F20 := L2.fun_mk (st := i__law_bad_condition.st) l20 c20 k20
  have H20 : Held K mg i__law_bad_condition _ _ := ⟨F20, PySem.W.mg_of X G a20, F20.binds (ps := ["deck", "names"]) fun _ _ _ _ _ _ us hl => match us, hl with | [_, _], _ => rfl⟩
  have F21 := L2.fun_mk (st := i__law_asked.st) l21 c21 k21
  have H21 : Held K mg i__law_asked _ _ := ⟨F21, PySem.W.mg_of X G a21, F21.binds (ps := ["program", "worths", "told", "way"]) fun _ _ _ _ _ _ us hl => match us, hl with | [_, _, _, _], _ => rfl⟩
  have F22 := L2.fun_mk (st := i__law_bad_ones.st) l22 c22 k22
  have H22 : Held K mg i__law_bad_ones _ _ := ⟨F22, PySem.W.mg_of X G a22, F22.binds (ps := ["deck", "boxes"]) fun _ _ _ _ _ _ us hl => match us, hl with | [_, _], _ => rfl⟩
  have F23 := L2.fun_mk (st := i_law.st) l23 c23 k23
  have H23 : Held K mg i_law _ _ := ⟨F23, PySem.W.mg_of X G a23, F23.binds (ps := ["script"]) fun _ _ _ _ _ _ us hl => match us, hl with | [_], _ => rfl⟩
  have held : ∀ i ∈ its, ∃ f fd, Held K mg i f fd := fun i hi => by
    simp only [its, List.mem_cons, List.not_mem_nil, or_false] at hi
    rcases hi with rfl | rfl | rfl | rfl | rfl | rfl | rfl | rfl | rfl | rfl | rfl | rfl | rfl | rfl | rfl | rfl | rfl | rfl | rfl | rfl | rfl | rfl | rfl | rfl
    · exact ⟨_, _, H0⟩
    · exact ⟨_, _, H1⟩
    · exact ⟨_, _, H2⟩
    · exact ⟨_, _, H3⟩
    · exact ⟨_, _, H4⟩
    · exact ⟨_, _, H5⟩
    · exact ⟨_, _, H6⟩
    · exact ⟨_, _, H7⟩
    · exact ⟨_, _, H8⟩
    · exact ⟨_, _, H9⟩
    · exact ⟨_, _, H10⟩
    · exact ⟨_, _, H11⟩
    · exact ⟨_, _, H12⟩
    · exact ⟨_, _, H13⟩
    · exact ⟨_, _, H14⟩
    · exact ⟨_, _, H15⟩
    · exact ⟨_, _, H16⟩
    · exact ⟨_, _, H17⟩
    · exact ⟨_, _, H18⟩
    · exact ⟨_, _, H19⟩
    · exact ⟨_, _, H20⟩
    · exact ⟨_, _, H21⟩
    · exact ⟨_, _, H22⟩
    · exact ⟨_, _, H23⟩
  have hgl : ∀ x ∈ gl, mg (Str.ofString x) = none := fun x hx => by
    simp only [gl, List.mem_cons, List.not_mem_nil, or_false] at hx
    rcases hx with rfl | rfl | rfl | rfl | rfl | rfl | rfl | rfl
    · exact PySem.W.mg_none_of X G z0
    · exact PySem.W.mg_none_of X G z1
    · exact PySem.W.mg_none_of X G z2
    · exact PySem.W.mg_none_of X G z3
    · exact PySem.W.mg_none_of X G z4
    · exact PySem.W.mg_none_of X G z5
    · exact PySem.W.mg_none_of X G z6
    · exact PySem.W.mg_none_of X G z7
  have hex : ExOk K mg xs ys := by
    refine ⟨fun c hc => ?_, fun c hc => ?_, fun c hc c2 hc2 C C2 n n2 => ?_, PySem.W.mg_none_of X G zve⟩
    · simp only [xs, List.mem_cons, List.not_mem_nil, or_false] at hc
      rcases hc with rfl | rfl
      · exact ⟨C_NoWorths, n_NoWorths, PySem.W.mg_of X G n_NoWorths, x1_NoWorths, x2_NoWorths, b_NoWorths, x3_NoWorths, t_NoWorths, ⟨x4_NoWorths, x5_NoWorths, b_NoWorths, d_NoWorths, x6_NoWorths, xn, xt, x7_NoWorths⟩⟩
      · exact ⟨C_NoProgram, n_NoProgram, PySem.W.mg_of X G n_NoProgram, x1_NoProgram, x2_NoProgram, b_NoProgram, x3_NoProgram, t_NoProgram, ⟨x4_NoProgram, x5_NoProgram, b_NoProgram, d_NoProgram, x6_NoProgram, xn, xt, x7_NoProgram⟩⟩
    · simp only [ys, List.mem_cons, List.not_mem_nil, or_false] at hc
      rcases hc with rfl | rfl | rfl | rfl | rfl | rfl | rfl | rfl | rfl | rfl | rfl | rfl
      · exact ⟨C_NoWorths, n_NoWorths, PySem.W.mg_of X G n_NoWorths, b_NoWorths, d_NoWorths, t_NoWorths⟩
      · exact ⟨C_NoProgram, n_NoProgram, PySem.W.mg_of X G n_NoProgram, b_NoProgram, d_NoProgram, t_NoProgram⟩
      · exact ⟨C_NoChange, n_NoChange, PySem.W.mg_of X G n_NoChange, b_NoChange, d_NoChange, t_NoChange⟩
      · exact ⟨C_NoForm, n_NoForm, PySem.W.mg_of X G n_NoForm, b_NoForm, d_NoForm, t_NoForm⟩
      · exact ⟨C_NoneYet, n_NoneYet, PySem.W.mg_of X G n_NoneYet, b_NoneYet, d_NoneYet, t_NoneYet⟩
      · exact ⟨C_NoNode, n_NoNode, PySem.W.mg_of X G n_NoNode, b_NoNode, d_NoNode, t_NoNode⟩
      · exact ⟨C_NoPair, n_NoPair, PySem.W.mg_of X G n_NoPair, b_NoPair, d_NoPair, t_NoPair⟩
      · exact ⟨C_NoPaper, n_NoPaper, PySem.W.mg_of X G n_NoPaper, b_NoPaper, d_NoPaper, t_NoPaper⟩
      · exact ⟨C_NoPicks, n_NoPicks, PySem.W.mg_of X G n_NoPicks, b_NoPicks, d_NoPicks, t_NoPicks⟩
      · exact ⟨C_NoRow, n_NoRow, PySem.W.mg_of X G n_NoRow, b_NoRow, d_NoRow, t_NoRow⟩
      · exact ⟨C_TooMany, n_TooMany, PySem.W.mg_of X G n_TooMany, b_TooMany, d_TooMany, t_TooMany⟩
      · exact ⟨C_TwinError, n_TwinError, PySem.W.mg_of X G n_TwinError, b_TwinError, d_TwinError, t_TwinError⟩
    · simp only [xs, ys, List.mem_cons, List.not_mem_nil, or_false] at hc hc2
      rcases hc with rfl | rfl
      · rcases hc2 with rfl | rfl | rfl | rfl | rfl | rfl | rfl | rfl | rfl | rfl | rfl | rfl
        · rw [n.eq (show NmC K "NoWorths" C_NoWorths from n_NoWorths), n2.eq (show NmC K "NoWorths" C_NoWorths from n_NoWorths)]
          exact p_NoWorths_NoWorths.trans (by decide)
        · rw [n.eq (show NmC K "NoWorths" C_NoWorths from n_NoWorths), n2.eq (show NmC K "NoProgram" C_NoProgram from n_NoProgram)]
          exact p_NoWorths_NoProgram.trans (by decide)
        · rw [n.eq (show NmC K "NoWorths" C_NoWorths from n_NoWorths), n2.eq (show NmC K "NoChange" C_NoChange from n_NoChange)]
          exact p_NoWorths_NoChange.trans (by decide)
        · rw [n.eq (show NmC K "NoWorths" C_NoWorths from n_NoWorths), n2.eq (show NmC K "NoForm" C_NoForm from n_NoForm)]
          exact p_NoWorths_NoForm.trans (by decide)
        · rw [n.eq (show NmC K "NoWorths" C_NoWorths from n_NoWorths), n2.eq (show NmC K "NoneYet" C_NoneYet from n_NoneYet)]
          exact p_NoWorths_NoneYet.trans (by decide)
        · rw [n.eq (show NmC K "NoWorths" C_NoWorths from n_NoWorths), n2.eq (show NmC K "NoNode" C_NoNode from n_NoNode)]
          exact p_NoWorths_NoNode.trans (by decide)
        · rw [n.eq (show NmC K "NoWorths" C_NoWorths from n_NoWorths), n2.eq (show NmC K "NoPair" C_NoPair from n_NoPair)]
          exact p_NoWorths_NoPair.trans (by decide)
        · rw [n.eq (show NmC K "NoWorths" C_NoWorths from n_NoWorths), n2.eq (show NmC K "NoPaper" C_NoPaper from n_NoPaper)]
          exact p_NoWorths_NoPaper.trans (by decide)
        · rw [n.eq (show NmC K "NoWorths" C_NoWorths from n_NoWorths), n2.eq (show NmC K "NoPicks" C_NoPicks from n_NoPicks)]
          exact p_NoWorths_NoPicks.trans (by decide)
        · rw [n.eq (show NmC K "NoWorths" C_NoWorths from n_NoWorths), n2.eq (show NmC K "NoRow" C_NoRow from n_NoRow)]
          exact p_NoWorths_NoRow.trans (by decide)
        · rw [n.eq (show NmC K "NoWorths" C_NoWorths from n_NoWorths), n2.eq (show NmC K "TooMany" C_TooMany from n_TooMany)]
          exact p_NoWorths_TooMany.trans (by decide)
        · rw [n.eq (show NmC K "NoWorths" C_NoWorths from n_NoWorths), n2.eq (show NmC K "TwinError" C_TwinError from n_TwinError)]
          exact p_NoWorths_TwinError.trans (by decide)
      · rcases hc2 with rfl | rfl | rfl | rfl | rfl | rfl | rfl | rfl | rfl | rfl | rfl | rfl
        · rw [n.eq (show NmC K "NoProgram" C_NoProgram from n_NoProgram), n2.eq (show NmC K "NoWorths" C_NoWorths from n_NoWorths)]
          exact p_NoProgram_NoWorths.trans (by decide)
        · rw [n.eq (show NmC K "NoProgram" C_NoProgram from n_NoProgram), n2.eq (show NmC K "NoProgram" C_NoProgram from n_NoProgram)]
          exact p_NoProgram_NoProgram.trans (by decide)
        · rw [n.eq (show NmC K "NoProgram" C_NoProgram from n_NoProgram), n2.eq (show NmC K "NoChange" C_NoChange from n_NoChange)]
          exact p_NoProgram_NoChange.trans (by decide)
        · rw [n.eq (show NmC K "NoProgram" C_NoProgram from n_NoProgram), n2.eq (show NmC K "NoForm" C_NoForm from n_NoForm)]
          exact p_NoProgram_NoForm.trans (by decide)
        · rw [n.eq (show NmC K "NoProgram" C_NoProgram from n_NoProgram), n2.eq (show NmC K "NoneYet" C_NoneYet from n_NoneYet)]
          exact p_NoProgram_NoneYet.trans (by decide)
        · rw [n.eq (show NmC K "NoProgram" C_NoProgram from n_NoProgram), n2.eq (show NmC K "NoNode" C_NoNode from n_NoNode)]
          exact p_NoProgram_NoNode.trans (by decide)
        · rw [n.eq (show NmC K "NoProgram" C_NoProgram from n_NoProgram), n2.eq (show NmC K "NoPair" C_NoPair from n_NoPair)]
          exact p_NoProgram_NoPair.trans (by decide)
        · rw [n.eq (show NmC K "NoProgram" C_NoProgram from n_NoProgram), n2.eq (show NmC K "NoPaper" C_NoPaper from n_NoPaper)]
          exact p_NoProgram_NoPaper.trans (by decide)
        · rw [n.eq (show NmC K "NoProgram" C_NoProgram from n_NoProgram), n2.eq (show NmC K "NoPicks" C_NoPicks from n_NoPicks)]
          exact p_NoProgram_NoPicks.trans (by decide)
        · rw [n.eq (show NmC K "NoProgram" C_NoProgram from n_NoProgram), n2.eq (show NmC K "NoRow" C_NoRow from n_NoRow)]
          exact p_NoProgram_NoRow.trans (by decide)
        · rw [n.eq (show NmC K "NoProgram" C_NoProgram from n_NoProgram), n2.eq (show NmC K "TooMany" C_TooMany from n_TooMany)]
          exact p_NoProgram_TooMany.trans (by decide)
        · rw [n.eq (show NmC K "NoProgram" C_NoProgram from n_NoProgram), n2.eq (show NmC K "TwinError" C_TwinError from n_TwinError)]
          exact p_NoProgram_TwinError.trans (by decide)
  exact ⟨_, fun s v => .of_eq rfl, fun base _ _ => (fn_all nd hgl hex ck fsm held 100 i_law _ _ me_law H23).imp fun vs H Q E hs => law_sp lk_law rfl good hs⟩
end
end PL.k05
open PySem PySem.W PyProof.Rows in
set_option maxRecDepth 100000 in
set_option maxHeartbeats 0 in
theorem PySem.Challenge.cw_twinwalk_k05_no_worths_holds : PySem.Challenge.rw_twinwalk_k05_no_worths.Holds := by
  w_on; o_law; k_head; (case hw => w_witness2)
  k_fill
  refine L2.walk_of (l := PySem.Challenge.rw_twinwalk_k05_no_worths) (n := 63) (k := 100) (x := "script") (CX := L2.CX PySem.Challenge.rw_twinwalk_k05_no_worths.prog) (sp := fun w => PL.spLaw _) rfl (by decide) rfl ⟨rfl, by decide, by decide⟩ (fun w h Y => PySem.W.kIn_of Y) ?F (fun _ _ a ns hl hO hS => ⟨a, ns, rfl, hS, hl, hO, fun _ => rfl⟩) (fun _ _ _ _ _ h => PL.cxF h)
  case F =>
    intro w mg fa h KX G hmg
    refine' PL.k05.all_mk KX G hmg ?a0 ?l0 ?c0 ?k0 ?a1 ?l1 ?c1 ?k1 ?a2 ?l2 ?c2 ?k2 ?a3 ?l3 ?c3 ?k3 ?a4 ?l4 ?c4 ?k4 ?a5 ?l5 ?c5 ?k5 ?a6 ?l6 ?c6 ?k6 ?a7 ?l7 ?c7 ?k7 ?a8 ?l8 ?c8 ?k8 ?a9 ?l9 ?c9 ?k9 ?a10 ?l10 ?c10 ?k10 ?a11 ?l11 ?c11 ?k11 ?a12 ?l12 ?c12 ?k12 ?a13 ?l13 ?c13 ?k13 ?a14 ?l14 ?c14 ?k14 ?a15 ?l15 ?c15 ?k15 ?a16 ?l16 ?c16 ?k16 ?a17 ?l17 ?c17 ?k17 ?a18 ?l18 ?c18 ?k18 ?a19 ?l19 ?c19 ?k19 ?a20 ?l20 ?c20 ?k20 ?a21 ?l21 ?c21 ?k21 ?a22 ?l22 ?c22 ?k22 ?a23 ?l23 ?c23 ?k23 ?z0 ?z1 ?z2 ?z3 ?z4 ?z5 ?z6 ?z7 ?n_NoWorths ?b_NoWorths ?d_NoWorths ?t_NoWorths ?n_NoProgram ?b_NoProgram ?d_NoProgram ?t_NoProgram ?n_NoChange ?b_NoChange ?d_NoChange ?t_NoChange ?n_NoForm ?b_NoForm ?d_NoForm ?t_NoForm ?n_NoneYet ?b_NoneYet ?d_NoneYet ?t_NoneYet ?n_NoNode ?b_NoNode ?d_NoNode ?t_NoNode ?n_NoPair ?b_NoPair ?d_NoPair ?t_NoPair ?n_NoPaper ?b_NoPaper ?d_NoPaper ?t_NoPaper ?n_NoPicks ?b_NoPicks ?d_NoPicks ?t_NoPicks ?n_NoRow ?b_NoRow ?d_NoRow ?t_NoRow ?n_TooMany ?b_TooMany ?d_TooMany ?t_TooMany ?n_TwinError ?b_TwinError ?d_TwinError ?t_TwinError ?zve ?xn ?xt ?x1_NoWorths ?x2_NoWorths ?x3_NoWorths ?x4_NoWorths ?x5_NoWorths ?x6_NoWorths ?x7_NoWorths ?p_NoWorths_NoWorths ?p_NoWorths_NoProgram ?p_NoWorths_NoChange ?p_NoWorths_NoForm ?p_NoWorths_NoneYet ?p_NoWorths_NoNode ?p_NoWorths_NoPair ?p_NoWorths_NoPaper ?p_NoWorths_NoPicks ?p_NoWorths_NoRow ?p_NoWorths_TooMany ?p_NoWorths_TwinError ?x1_NoProgram ?x2_NoProgram ?x3_NoProgram ?x4_NoProgram ?x5_NoProgram ?x6_NoProgram ?x7_NoProgram ?p_NoProgram_NoWorths ?p_NoProgram_NoProgram ?p_NoProgram_NoChange ?p_NoProgram_NoForm ?p_NoProgram_NoneYet ?p_NoProgram_NoNode ?p_NoProgram_NoPair ?p_NoProgram_NoPaper ?p_NoProgram_NoPicks ?p_NoProgram_NoRow ?p_NoProgram_TooMany ?p_NoProgram_TwinError
    (case a0 => k_is)
    (case l0 => k_is)
    (case c0 => k_is)
    (case k0 => k_is)
    (case a1 => k_is)
    (case l1 => k_is)
    (case c1 => k_is)
    (case k1 => k_is)
    (case a2 => k_is)
    (case l2 => k_is)
    (case c2 => k_is)
    (case k2 => k_is)
    (case a3 => k_is)
    (case l3 => k_is)
    (case c3 => k_is)
    (case k3 => k_is)
    (case a4 => k_is)
    (case l4 => k_is)
    (case c4 => k_is)
    (case k4 => k_is)
    (case a5 => k_is)
    (case l5 => k_is)
    (case c5 => k_is)
    (case k5 => k_is)
    (case a6 => k_is)
    (case l6 => k_is)
    (case c6 => k_is)
    (case k6 => k_is)
    (case a7 => k_is)
    (case l7 => k_is)
    (case c7 => k_is)
    (case k7 => k_is)
    (case a8 => k_is)
    (case l8 => k_is)
    (case c8 => k_is)
    (case k8 => k_is)
    (case a9 => k_is)
    (case l9 => k_is)
    (case c9 => k_is)
    (case k9 => k_is)
    (case a10 => k_is)
    (case l10 => k_is)
    (case c10 => k_is)
    (case k10 => k_is)
    (case a11 => k_is)
    (case l11 => k_is)
    (case c11 => k_is)
    (case k11 => k_is)
    (case a12 => k_is)
    (case l12 => k_is)
    (case c12 => k_is)
    (case k12 => k_is)
    (case a13 => k_is)
    (case l13 => k_is)
    (case c13 => k_is)
    (case k13 => k_is)
    (case a14 => k_is)
    (case l14 => k_is)
    (case c14 => k_is)
    (case k14 => k_is)
    (case a15 => k_is)
    (case l15 => k_is)
    (case c15 => k_is)
    (case k15 => k_is)
    (case a16 => k_is)
    (case l16 => k_is)
    (case c16 => k_is)
    (case k16 => k_is)
    (case a17 => k_is)
    (case l17 => k_is)
    (case c17 => k_is)
    (case k17 => k_is)
    (case a18 => k_is)
    (case l18 => k_is)
    (case c18 => k_is)
    (case k18 => k_is)
    (case a19 => k_is)
    (case l19 => k_is)
    (case c19 => k_is)
    (case k19 => k_is)
    (case a20 => k_is)
    (case l20 => k_is)
    (case c20 => k_is)
    (case k20 => k_is)
    (case a21 => k_is)
    (case l21 => k_is)
    (case c21 => k_is)
    (case k21 => k_is)
    (case a22 => k_is)
    (case l22 => k_is)
    (case c22 => k_is)
    (case k22 => k_is)
    (case a23 => k_is)
    (case l23 => k_is)
    (case c23 => k_is)
    (case k23 => k_is)
    (case z0 => k_is)
    (case z1 => k_is)
    (case z2 => k_is)
    (case z3 => k_is)
    (case z4 => k_is)
    (case z5 => k_is)
    (case z6 => k_is)
    (case z7 => k_is)
    (case n_NoWorths => k_is)
    (case b_NoWorths => k_is)
    (case d_NoWorths => k_is)
    (case t_NoWorths => k_is)
    (case n_NoProgram => k_is)
    (case b_NoProgram => k_is)
    (case d_NoProgram => k_is)
    (case t_NoProgram => k_is)
    (case n_NoChange => k_is)
    (case b_NoChange => k_is)
    (case d_NoChange => k_is)
    (case t_NoChange => k_is)
    (case n_NoForm => k_is)
    (case b_NoForm => k_is)
    (case d_NoForm => k_is)
    (case t_NoForm => k_is)
    (case n_NoneYet => k_is)
    (case b_NoneYet => k_is)
    (case d_NoneYet => k_is)
    (case t_NoneYet => k_is)
    (case n_NoNode => k_is)
    (case b_NoNode => k_is)
    (case d_NoNode => k_is)
    (case t_NoNode => k_is)
    (case n_NoPair => k_is)
    (case b_NoPair => k_is)
    (case d_NoPair => k_is)
    (case t_NoPair => k_is)
    (case n_NoPaper => k_is)
    (case b_NoPaper => k_is)
    (case d_NoPaper => k_is)
    (case t_NoPaper => k_is)
    (case n_NoPicks => k_is)
    (case b_NoPicks => k_is)
    (case d_NoPicks => k_is)
    (case t_NoPicks => k_is)
    (case n_NoRow => k_is)
    (case b_NoRow => k_is)
    (case d_NoRow => k_is)
    (case t_NoRow => k_is)
    (case n_TooMany => k_is)
    (case b_TooMany => k_is)
    (case d_TooMany => k_is)
    (case t_TooMany => k_is)
    (case n_TwinError => k_is)
    (case b_TwinError => k_is)
    (case d_TwinError => k_is)
    (case t_TwinError => k_is)
    (case zve => k_is)
    (case xn => k_is)
    (case xt => k_is)
    (case x1_NoWorths => k_exc)
    (case x2_NoWorths => k_is)
    (case x3_NoWorths => k_is)
    (case x4_NoWorths => k_is)
    (case x5_NoWorths => k_is)
    (case x6_NoWorths => k_is)
    (case x7_NoWorths => k_is)
    (case p_NoWorths_NoWorths => k_is)
    (case p_NoWorths_NoProgram => k_is)
    (case p_NoWorths_NoChange => k_is)
    (case p_NoWorths_NoForm => k_is)
    (case p_NoWorths_NoneYet => k_is)
    (case p_NoWorths_NoNode => k_is)
    (case p_NoWorths_NoPair => k_is)
    (case p_NoWorths_NoPaper => k_is)
    (case p_NoWorths_NoPicks => k_is)
    (case p_NoWorths_NoRow => k_is)
    (case p_NoWorths_TooMany => k_is)
    (case p_NoWorths_TwinError => k_is)
    (case x1_NoProgram => k_exc)
    (case x2_NoProgram => k_is)
    (case x3_NoProgram => k_is)
    (case x4_NoProgram => k_is)
    (case x5_NoProgram => k_is)
    (case x6_NoProgram => k_is)
    (case x7_NoProgram => k_is)
    (case p_NoProgram_NoWorths => k_is)
    (case p_NoProgram_NoProgram => k_is)
    (case p_NoProgram_NoChange => k_is)
    (case p_NoProgram_NoForm => k_is)
    (case p_NoProgram_NoneYet => k_is)
    (case p_NoProgram_NoNode => k_is)
    (case p_NoProgram_NoPair => k_is)
    (case p_NoProgram_NoPaper => k_is)
    (case p_NoProgram_NoPicks => k_is)
    (case p_NoProgram_NoRow => k_is)
    (case p_NoProgram_TooMany => k_is)
    (case p_NoProgram_TwinError => k_is)

