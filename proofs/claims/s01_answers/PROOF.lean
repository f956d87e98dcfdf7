import PyProof.Rows.All
import Wide.All
import OpenK.AllK
import Wide.FinOn
import HandS.ForSpec
import HandS.Comp
import HandS.Dict
import HandS.Iter
import HandS.Text
import HandS.WordsDict
import HandS.Walk
import HandS.RevRange
import HandS.WideBits
import HandS.Conv
import HandS.Deep
import HandS.Sort
import KE.KDictList
import KE.DatumOrd
import HandS.ExcInit
import HandS.Zip
import KE.GoesZip
import KE.GoesMore
import PyVahypc
import KE.KeyNested
import KE.KDictKeyed
import KE.OsGo
import Open.SpecLaws
import PySem.Challenge.RW_leastpieces_s01_answers
set_option Elab.async false
set_option linter.all false
set_option maxRecDepth 100000
set_option maxHeartbeats 4000000
/-! Tr: data as trees over the abstract heap: what an expression gives, what a block does, told without addresses. -/
namespace Tr
open PySem PySem.Spec PyProof.Rows L2

abbrev Sg := L2.St
/-! ### heaps without some -/
def wd (S : List Addr) (H : Hp) : Hp := fun b => if b ∈ S then none else H b
theorem wd_in {S : List Addr} {H : Hp} {b : Addr} (h : b ∈ S) : wd S H b = none := if_pos h
theorem wd_out {S : List Addr} {H : Hp} {b : Addr} (h : b ∉ S) : wd S H b = H b := if_neg h
theorem wd_same (S : List Addr) (H : Hp) : Same (wd S H) H := fun b o e => by
  by_cases h : b ∈ S
  · rw [wd_in h] at e; cases e
  · rw [wd_out h] at e; exact e
theorem wd_mono {S : List Addr} {H H' : Hp} (e : Same H H') : Same (wd S H) (wd S H') := fun b o q => by
  by_cases h : b ∈ S
  · rw [wd_in h] at q; cases q
  · rw [wd_out h] at q ⊢; exact e b o q
theorem wd_less {S S' : List Addr} {H : Hp} (h : ∀ b ∈ S', b ∈ S) : Same (wd S H) (wd S' H) := fun b o q => by
  by_cases hb : b ∈ S
  · rw [wd_in hb] at q; cases q
  · rw [wd_out hb] at q
    rw [wd_out fun z => hb (h b z)]
    exact q
theorem wd_upd {S : List Addr} {H : Hp} {p : Addr} {o : HO} (h : p ∈ S) : wd S (upd H p o) = wd S H := by
  funext b
  by_cases hb : b ∈ S
  · rw [wd_in hb, wd_in hb]
  · rw [wd_out hb, wd_out hb, upd_ne fun e => hb (by rw [e]; exact h)]
theorem Same.new {H : Hp} {p : Addr} {o : HO} (h : H p = none) : Same H (upd H p o) := fun a u e => by
  rw [upd_ne (ne_of_none e h)]
  exact e
theorem Same.mut {H H' : Hp} {p : Addr} {o : HO} (e : Same H H') (h : H p = none) : Same H (upd H' p o) := fun a u ha => by
  rw [upd_ne (ne_of_none ha h)]
  exact e a u ha
theorem seqT {K : PySem.W.Frag} {H H' : Hp} {a : Addr} {xs : List V} (e : Same H H') (h : SqT K H a xs) : SqT K H' a xs := by
  rcases h with (h | ⟨o, h⟩) | h
  · exact .inl (.inl (e _ _ h))
  · exact .inl (.inr ⟨o, e _ _ h⟩)
  · exact .inr h

/-! ### data -/
structure D where
  p : Hp → V → Prop
  up : ∀ {W W' : Hp} {v : V}, Same W W' → p W v → p W' v
def dV (v : V) : D := ⟨fun _ u => u = v, fun _ h => h⟩
abbrev dI (i : Int) : D := dV (.int i)
abbrev dB (b : Bool) : D := dV (.bl b)
abbrev dN : D := dV .non
abbrev dS (s : Str) : D := dV (.str s)
/-- values that stand for data, one by one -/
def Reps (W : Hp) : List V → List D → Prop
  | [], [] => True
  | v :: vs, d :: ds => d.p W v ∧ Reps W vs ds
  | _, _ => False
theorem Reps.up {W W' : Hp} (e : Same W W') : ∀ {vs : List V} {ds : List D}, Reps W vs ds → Reps W' vs ds
  | [], [], _ => trivial
  | _ :: _, d :: _, h => ⟨d.up e h.1, Reps.up e h.2⟩
  | [], _ :: _, h => h.elim
  | _ :: _, [], h => h.elim
theorem Reps.len {W : Hp} : ∀ {vs : List V} {ds : List D}, Reps W vs ds → vs.length = ds.length
  | [], [], _ => rfl
  | _ :: _, _ :: _, h => by rw [List.length_cons, List.length_cons, Reps.len h.2]
  | [], _ :: _, h => h.elim
  | _ :: _, [], h => h.elim
theorem Reps.get {W : Hp} : ∀ {vs : List V} {ds : List D} {i : Nat} {v : V}, Reps W vs ds → vs[i]? = some v → ∃ d, ds[i]? = some d ∧ d.p W v
  | [], [], _, _, _, e => by simp at e
  | v :: vs, d :: ds, 0, x, h, e => by
    have e : v = x := by simpa using e
    subst e
    exact ⟨d, rfl, h.1⟩
  | v :: vs, d :: ds, i + 1, x, h, e => by
    obtain ⟨d', h1, h2⟩ := Reps.get (i := i) h.2 (by simpa using e)
    exact ⟨d', by simpa using h1, h2⟩
  | [], _ :: _, _, _, h, _ => h.elim
  | _ :: _, [], _, _, h, _ => h.elim
theorem Reps.at {W : Hp} : ∀ {vs : List V} {ds : List D} {i : Nat} {d : D}, Reps W vs ds → ds[i]? = some d → ∃ v, vs[i]? = some v ∧ d.p W v
  | [], [], _, _, _, e => by simp at e
  | v :: vs, d :: ds, 0, x, h, e => by
    have e : d = x := by simpa using e
    subst e
    exact ⟨v, rfl, h.1⟩
  | v :: vs, d :: ds, i + 1, x, h, e => by
    obtain ⟨d', h1, h2⟩ := Reps.at (i := i) h.2 (by simpa using e)
    exact ⟨d', by simpa using h1, h2⟩
  | [], _ :: _, _, _, h, _ => h.elim
  | _ :: _, [], _, _, h, _ => h.elim
theorem Reps.app {W : Hp} : ∀ {vs ws : List V} {ds es : List D}, Reps W vs ds → Reps W ws es → Reps W (vs ++ ws) (ds ++ es)
  | [], _, [], _, _, h => h
  | _ :: _, _, _ :: _, _, h, g => ⟨h.1, Reps.app h.2 g⟩
  | [], _, _ :: _, _, h, _ => h.elim
  | _ :: _, _, [], _, h, _ => h.elim
theorem Reps.snoc {W : Hp} {vs : List V} {ds : List D} {v : V} {d : D} (h : Reps W vs ds) (q : d.p W v) : Reps W (vs ++ [v]) (ds ++ [d]) := h.app ⟨q, trivial⟩
theorem Reps.take {W : Hp} : ∀ {vs : List V} {ds : List D} (n : Nat), Reps W vs ds → Reps W (vs.take n) (ds.take n)
  | _, _, 0, _ => trivial
  | [], [], _ + 1, _ => trivial
  | _ :: _, _ :: _, n + 1, h => ⟨h.1, Reps.take n h.2⟩
  | [], _ :: _, _ + 1, h => h.elim
  | _ :: _, [], _ + 1, h => h.elim
theorem Reps.drop {W : Hp} : ∀ {vs : List V} {ds : List D} (n : Nat), Reps W vs ds → Reps W (vs.drop n) (ds.drop n)
  | _, _, 0, h => h
  | [], [], _ + 1, _ => trivial
  | _ :: _, _ :: _, n + 1, h => Reps.drop n h.2
  | [], _ :: _, _ + 1, h => h.elim
  | _ :: _, [], _ + 1, h => h.elim
/-- plain values -/
theorem Reps.vals {W : Hp} {α : Type} (f : α → V) : ∀ (l : List α), Reps W (l.map f) (l.map fun a => dV (f a))
  | [] => trivial
  | _ :: r => ⟨rfl, Reps.vals f r⟩
theorem Reps.plain {W : Hp} {α : Type} {f : α → V} : ∀ {vs : List V} {l : List α}, Reps W vs (l.map fun a => dV (f a)) → vs = l.map f
  | [], [], _ => rfl
  | v :: vs, a :: r, h => by
    have e : v = f a := h.1
    rw [e, List.map_cons, Reps.plain h.2]
  | [], _ :: _, h => h.elim
  | _ :: _, [], h => h.elim
/-- a list, a tuple -/
def dL (ds : List D) : D := ⟨fun W v => ∃ a vs, v = .ref a ∧ W a = some (.lst vs) ∧ Reps W vs ds, fun e ⟨a, vs, h1, h2, h3⟩ => ⟨a, vs, h1, e _ _ h2, h3.up e⟩⟩
def dT (ds : List D) : D := ⟨fun W v => ∃ a vs, v = .ref a ∧ W a = some (.tup vs) ∧ Reps W vs ds, fun e ⟨a, vs, h1, h2, h3⟩ => ⟨a, vs, h1, e _ _ h2, h3.up e⟩⟩
/-- .. of the module, or locked -/
def dLs (K : PySem.W.Frag) (ds : List D) : D := ⟨fun W v => ∃ a vs, v = .ref a ∧ SqL K W a vs ∧ Reps W vs ds, fun e ⟨a, vs, h1, h2, h3⟩ => ⟨a, vs, h1, e.seq h2, h3.up e⟩⟩
def dTs (K : PySem.W.Frag) (ds : List D) : D := ⟨fun W v => ∃ a vs, v = .ref a ∧ SqT K W a vs ∧ Reps W vs ds, fun e ⟨a, vs, h1, h2, h3⟩ => ⟨a, vs, h1, seqT e h2, h3.up e⟩⟩
theorem dL_s {K : PySem.W.Frag} {ds : List D} {W : Hp} {v : V} (h : (dL ds).p W v) : (dLs K ds).p W v := by
  obtain ⟨a, vs, h1, h2, h3⟩ := h
  exact ⟨a, vs, h1, SqL.of h2, h3⟩
theorem dT_s {K : PySem.W.Frag} {ds : List D} {W : Hp} {v : V} (h : (dT ds).p W v) : (dTs K ds).p W v := by
  obtain ⟨a, vs, h1, h2, h3⟩ := h
  exact ⟨a, vs, h1, SqT.of h2, h3⟩
/-- an instance of the class at C with these fields -/
def dO (C : Addr) (ns : List Str) (ds : List D) : D := ⟨fun W v => ∃ a dx vs, v = .ref a ∧ W a = some (.ins C dx (ns.zip vs)) ∧ Reps W vs ds, fun e ⟨a, dx, vs, h1, h2, h3⟩ => ⟨a, dx, vs, h1, e _ _ h2, h3.up e⟩⟩

/-! ### slots -/
def Sl (W : Hp) : Sg → List (Option D) → Prop
  | [], [] => True
  | _ :: xs, none :: ds => Sl W xs ds
  | x :: xs, some d :: ds => (∃ v, x = some v ∧ d.p W v) ∧ Sl W xs ds
  | _, _ => False
theorem Sl.up {W W' : Hp} (e : Same W W') : ∀ {σ : Sg} {ss : List (Option D)}, Sl W σ ss → Sl W' σ ss
  | [], [], _ => trivial
  | _ :: xs, none :: ds, h => Sl.up (σ := xs) (ss := ds) e h
  | _ :: xs, some d :: ds, h => ⟨h.1.imp fun v q => ⟨q.1, d.up e q.2⟩, Sl.up (σ := xs) (ss := ds) e h.2⟩
  | [], none :: _, h => h.elim
  | [], some _ :: _, h => h.elim
  | _ :: _, [], h => h.elim
theorem Sl.get {W : Hp} : ∀ {σ : Sg} {ss : List (Option D)} {i : Nat} {d : D}, Sl W σ ss → ss[i]? = some (some d) → ∃ v, σ[i]? = some (some v) ∧ d.p W v
  | [], [], _, _, _, e => by simp at e
  | x :: xs, none :: ds, 0, d, h, e => by simp at e
  | x :: xs, none :: ds, i + 1, d, h, e => by
    obtain ⟨v, h1, h2⟩ := Sl.get (σ := xs) (ss := ds) (i := i) h (by simpa using e)
    exact ⟨v, by simpa using h1, h2⟩
  | x :: xs, some d' :: ds, 0, d, h, e => by
    have e : d' = d := by simpa using e
    subst e
    obtain ⟨v, h1, h2⟩ := h.1
    exact ⟨v, by rw [h1]; rfl, h2⟩
  | x :: xs, some d' :: ds, i + 1, d, h, e => by
    obtain ⟨v, h1, h2⟩ := Sl.get (σ := xs) (ss := ds) (i := i) h.2 (by simpa using e)
    exact ⟨v, by simpa using h1, h2⟩
  | [], none :: _, _, _, h, _ => h.elim
  | [], some _ :: _, _, _, h, _ => h.elim
  | _ :: _, [], _, _, h, _ => h.elim
theorem Sl.set {W : Hp} {v : V} {d : D} (q : d.p W v) : ∀ {σ : Sg} {ss : List (Option D)} {i : Nat}, Sl W σ ss → Sl W (σ.set i (some v)) (ss.set i (some d))
  | [], [], _, _ => trivial
  | x :: xs, none :: ds, 0, h => ⟨⟨v, rfl, q⟩, h⟩
  | x :: xs, none :: ds, i + 1, h => Sl.set (σ := xs) (ss := ds) (i := i) q h
  | x :: xs, some d' :: ds, 0, h => ⟨⟨v, rfl, q⟩, h.2⟩
  | x :: xs, some d' :: ds, i + 1, h => ⟨h.1, Sl.set (σ := xs) (ss := ds) (i := i) q h.2⟩
  | [], none :: _, _, h => h.elim
  | [], some _ :: _, _, h => h.elim
  | _ :: _, [], _, h => h.elim
/-- a slot's datum forgotten, whatever comes there -/
theorem Sl.drop {W : Hp} {x : Option V} : ∀ {σ : Sg} {ss : List (Option D)} {i : Nat}, Sl W σ ss → Sl W (σ.set i x) (ss.set i none)
  | [], [], _, _ => trivial
  | y :: xs, none :: ds, 0, h => h
  | y :: xs, none :: ds, i + 1, h => Sl.drop (σ := xs) (ss := ds) (i := i) h
  | y :: xs, some d' :: ds, 0, h => h.2
  | y :: xs, some d' :: ds, i + 1, h => ⟨h.1, Sl.drop (σ := xs) (ss := ds) (i := i) h.2⟩
  | [], none :: _, _, h => h.elim
  | [], some _ :: _, _, h => h.elim
  | _ :: _, [], _, h => h.elim
theorem Sl.len {W : Hp} : ∀ {σ : Sg} {ss : List (Option D)}, Sl W σ ss → σ.length = ss.length
  | [], [], _ => rfl
  | _ :: xs, none :: ds, h => by rw [List.length_cons, List.length_cons, Sl.len (σ := xs) (ss := ds) h]
  | _ :: xs, some d :: ds, h => by rw [List.length_cons, List.length_cons, Sl.len (σ := xs) (ss := ds) h.2]
  | [], none :: _, h => h.elim
  | [], some _ :: _, h => h.elim
  | _ :: _, [], h => h.elim
theorem Sl.nones {W : Hp} : ∀ n : Nat, Sl W (List.replicate n none) (List.replicate n none)
  | 0 => trivial
  | n + 1 => Sl.nones n
theorem Sl.start {W : Hp} : ∀ {vs : List V} {ds : List D} (n : Nat), Reps W vs ds → Sl W (vs.map some ++ List.replicate n none) (ds.map some ++ List.replicate n none)
  | [], [], n, _ => Sl.nones n
  | _ :: _, _ :: _, n, h => ⟨⟨_, rfl, h.1⟩, Sl.start n h.2⟩
  | [], _ :: _, _, h => h.elim
  | _ :: _, [], _, h => h.elim
def wipeD (ss : List (Option D)) : List Nat → List (Option D)
  | [] => ss
  | v :: vs => (wipeD ss vs).set v none
theorem Sl.wipe {W : Hp} {σ : Sg} {ss : List (Option D)} (h : Sl W σ ss) : ∀ vs : List Nat, Sl W (L2.wipe σ vs) (wipeD ss vs)
  | [] => h
  | v :: vs => Sl.drop (Sl.wipe h vs)

/-! ### the best readings -/
abbrev CS := Cx → Prop
def wpE (X : CS) (e : Expr) : TE := fun σ H Q => ∀ x, X x → ∀ (pins : List (Addr × Obj)) (s : Shared), Inv x pins σ H s → wpAny (model x.prog x.w) x.A (eval e x.env) (EP x pins σ Q) x.xe s
theorem wpE_pe {X : CS} {x : Cx} {e : Expr} (hx : X x) : PE x e (wpE X e) := ⟨fun pins s _ _ _ I h => h x hx pins s I⟩
theorem wpE_of {X : CS} {e : Expr} {t : TE} {σ : Sg} {H : Hp} {Q : VK} (h : ∀ x, X x → PE x e t) (q : t σ H Q) : wpE X e σ H Q := fun x hx pins s I => (h x hx).run pins s σ H Q I q
def wpT (X : CS) (e : Expr) : TT := fun σ H Q => ∀ x, X x → ∀ (pins : List (Addr × Obj)) (s : Shared), Inv x pins σ H s → wpAny (model x.prog x.w) x.A (isTrue e x.env (eval e x.env)) (TP x pins σ Q) x.xe s
theorem wpT_pt {X : CS} {x : Cx} {e : Expr} (hx : X x) : PT x e (wpT X e) := ⟨fun pins s _ _ _ I h => h x hx pins s I⟩
theorem wpT_of {X : CS} {e : Expr} {t : TT} {σ : Sg} {H : Hp} {Q : Bool → Hp → Prop} (h : ∀ x, X x → PT x e t) (q : t σ H Q) : wpT X e σ H Q := fun x hx pins s I => (h x hx).run pins s σ H Q I q
def wpS (X : CS) (b : List Stmt) : TS := fun D σ H => ∀ x, X x → ∀ (pins : List (Addr × Obj)) (s : Shared), Inv x pins σ H s → wpAny (model x.prog x.w) x.A (execs b x.env) (SP x pins D) x.xe s
theorem wpS_pss {X : CS} {x : Cx} {b : List Stmt} (hx : X x) : PSs x b (wpS X b) := ⟨fun pins s _ _ _ I h => h x hx pins s I⟩
theorem wpS_of {X : CS} {b : List Stmt} {t : TS} {σ : Sg} {H : Hp} {D : Ends} (h : ∀ x, X x → PSs x b t) (q : t D σ H) : wpS X b D σ H := fun x hx pins s I => (h x hx).run pins s σ H D I q
theorem wpS_cons {X : CS} {st : Stmt} {r : List Stmt} {t : TS} {σ : Sg} {H : Hp} {D : Ends} (h : ∀ x, X x → PS x st t) (q : t { D with nx := wpS X r D } σ H) : wpS X (st :: r) D σ H :=
  wpS_of (fun x hx => pss_cons (h x hx) (wpS_pss hx)) q
theorem wpS_nil {X : CS} {σ : Sg} {H : Hp} {D : Ends} (q : D.nx σ H) : wpS X [] D σ H := wpS_of (fun _ _ => pss_nil) q

/-! ### what is known of the contexts -/
structure Ctx (X : CS) (P : Program) (w : World) (K : PySem.W.Frag) (mg : Str → Option Value) (base : Heap) (N : List Str) (kd : Str → Option NameKind) (k : Nat) (E : XK) : Prop where
  prog : ∀ x, X x → x.prog = P
  world : ∀ x, X x → x.w = w
  frag : ∀ x, X x → x.K = K
  names : ∀ x, X x → x.mg = mg
  base : ∀ x, X x → x.base = base
  calm : ∀ x, X x → x.calm = true
  slots : ∀ x, X x → x.N = N
  room : ∀ x, X x → Room k x.A
  kind : ∀ x, X x → x.env.scope.kind = .function
  vis : ∀ x, X x → ∀ y : Str, (kd y = some .local ∨ kd y = some .cell ∨ kd y = some .free) → Vis x.env.scope y
  glo : ∀ x, X x → ∀ y : Str, kd y = some .globalImplicit → x.env.scope.names.lookup y = some .globalImplicit
  loc : ∀ x, X x → ∀ y : Str, kd y = some .local → x.env.scope.names.lookup y = some .local
  cel : ∀ x, X x → ∀ y : Str, kd y = some .cell → x.env.scope.names.lookup y = some .cell ∧ x.fn y = true
  nd : N.Nodup
  takes : ∀ x, X x → Takes x (fun cls d _ H => E cls d H)
  own : ∀ x, X x → PassesOwn (model x.prog x.w) x.A x.env x.xe

/-! ### what an expression gives -/
structure Ok (S : List Addr) (H : Hp) (σ : Sg) (ss : List (Option D)) : Prop where
  hid : ∀ b ∈ S, H b ≠ none
  sl : Sl (wd S H) σ ss
theorem Ok.up {S : List Addr} {H H' : Hp} {σ : Sg} {ss : List (Option D)} (ok : Ok S H σ ss) (e : Same H H') : Ok S H' σ ss := by
  refine ⟨fun b hb z => ?_, ok.sl.up (wd_mono e)⟩
  cases q : H b with
  | none => exact ok.hid b hb q
  | some o =>
    rw [e b o q] at z
    cases z
theorem Ok.fresh {S : List Addr} {H : Hp} {σ : Sg} {ss : List (Option D)} (ok : Ok S H σ ss) {p : Addr} (h : H p = none) : ¬ p ∈ S := fun z => ok.hid p z h
/-- an error of the class at C with these fields lies at d -/
structure Er where
  C : Addr
  fs : List (Str × V)
/-- how errors go: er may come where ex allows it -/
def Errs (E : XK) (ex : Er → Prop) (H : Hp) : Prop := ∀ (er : Er) (d : Addr) (H' : Hp), ex er → Same H H' → H' d = some (.xd er.fs) → E (.ref er.C) (some d) H'
theorem Errs.up {E : XK} {ex : Er → Prop} {H H' : Hp} (h : Errs E ex H) (e : Same H H') : Errs E ex H' := fun er d H2 q s => h er d H2 q (e.trans s)
theorem Errs.none {E : XK} {H : Hp} : Errs E (fun _ => False) H := fun _ _ _ h => h.elim

def Gv (E : XK) (ex : Er → Prop) (t : TE) (ss : List (Option D)) (d : D) : Prop := ∀ (S : List Addr) (H : Hp) (σ : Sg), Ok S H σ ss → Errs E ex H → ∀ Q : VK, (∀ v H', Same H H' → d.p (wd S H') v → Q v H') → t σ H Q
def Gb (E : XK) (ex : Er → Prop) (t : TT) (ss : List (Option D)) (b : Bool) : Prop := ∀ (S : List Addr) (H : Hp) (σ : Sg), Ok S H σ ss → Errs E ex H → ∀ Q : Bool → Hp → Prop, (∀ H', Same H H' → Q b H') → t σ H Q
def Ga (E : XK) (ex : Er → Prop) (t : TA) (ss : List (Option D)) (ds : List D) : Prop := ∀ (S : List Addr) (H : Hp) (σ : Sg), Ok S H σ ss → Errs E ex H → ∀ Q : List V → Hp → Prop, (∀ vs H', Same H H' → Reps (wd S H') vs ds → Q vs H') → t σ H Q
end Tr
namespace Tr
open PySem PySem.Spec PyProof.Rows L2

theorem le_line {n : Nat} (h : n ≤ 1000) : n ≤ sizeLine := Nat.le_trans h (by rw [sizeLine_eq]; decide)
/-! ### readings of values -/
section
variable {E : XK} {ex : Er → Prop} {ss : List (Option D)} {ta tb tc : TE} {da db dc d : D}
theorem Gv.weak {t : TE} {d' : D} (h : Gv E ex t ss d) (i : ∀ W v, d.p W v → d'.p W v) : Gv E ex t ss d' := fun S H σ ok er Q q => h S H σ ok er Q fun v H' e p => q v H' e (i _ _ p)
theorem Gv.imp {t u : TE} (h : Gv E ex t ss d) (i : ∀ σ H Q, t σ H Q → u σ H Q) : Gv E ex u ss d := fun S H σ ok er Q q => i σ H Q (h S H σ ok er Q q)
theorem gv_of {t : TE} (h : ∀ (S : List Addr) (H : Hp) (σ : Sg), Ok S H σ ss → ∀ Q : VK, (∀ v H', Same H H' → d.p (wd S H') v → Q v H') → t σ H Q) : Gv E ex t ss d := fun S H σ ok _ => h S H σ ok
theorem gv_c {v : V} : Gv E ex (tC v) ss (dV v) := fun S H σ ok er Q q => q v H (Same.refl H) rfl
theorem gv_var {i : Nat} (h : ss[i]? = some (some d)) : Gv E ex (tVar i) ss d := fun S H σ ok er Q q => by
  obtain ⟨v, e, r⟩ := ok.sl.get h
  exact ⟨v, e, q v H (Same.refl H) r⟩
/-- two-place operations by values -/
def R2G (r : R2) (da db d : D) : Prop := ∀ (S : List Addr) (H : Hp) (x y : V), (∀ b ∈ S, H b ≠ none) → da.p (wd S H) x → db.p (wd S H) y → ∀ Q : VK, (∀ v H', Same H H' → d.p (wd S H') v → Q v H') → r x y H Q
def R1G (r : V → Hp → VK → Prop) (da d : D) : Prop := ∀ (S : List Addr) (H : Hp) (x : V), (∀ b ∈ S, H b ≠ none) → da.p (wd S H) x → ∀ Q : VK, (∀ v H', Same H H' → d.p (wd S H') v → Q v H') → r x H Q
def RnG (r : List V → Hp → VK → Prop) (ds : List D) (d : D) : Prop := ∀ (S : List Addr) (H : Hp) (xs : List V), (∀ b ∈ S, H b ≠ none) → Reps (wd S H) xs ds → ∀ Q : VK, (∀ v H', Same H H' → d.p (wd S H') v → Q v H') → r xs H Q
theorem gv_op {r : R2} (ha : Gv E ex ta ss da) (hb : Gv E ex tb ss db) (hr : R2G r da db d) : Gv E ex (tOp r ta tb) ss d := fun S H σ ok er Q q =>
  ha S H σ ok er _ fun x H1 e1 px => hb S H1 σ (ok.up e1) (er.up e1) _ fun y H2 e2 py =>
    hr S H2 x y (ok.up (e1.trans e2)).hid (da.up (wd_mono e2) px) py _ fun v H3 e3 pv => q v H3 (e1.trans (e2.trans e3)) pv
theorem gv_un {r : V → Hp → VK → Prop} (ha : Gv E ex ta ss da) (hr : R1G r da d) : Gv E ex (tUn r ta) ss d := fun S H σ ok er Q q =>
  ha S H σ ok er _ fun x H1 e1 px => hr S H1 x (ok.up e1).hid px _ fun v H2 e2 pv => q v H2 (e1.trans e2) pv
theorem ga_nil0 : Ga E ex tNil ss [] := fun S H σ ok er Q q => q [] H (Same.refl H) trivial
theorem ga_cons0 {tr : TA} {ds : List D} (ha : Gv E ex ta ss da) (hr : Ga E ex tr ss ds) : Ga E ex (tCons ta tr) ss (da :: ds) := fun S H σ ok er Q q =>
  ha S H σ ok er _ fun x H1 e1 px => hr S H1 σ (ok.up e1) (er.up e1) _ fun xs H2 e2 pr => q (x :: xs) H2 (e1.trans e2) ⟨da.up (wd_mono e2) px, pr⟩
theorem gv_cb {r : List V → Hp → VK → Prop} {t : TA} {ds : List D} (ha : Ga E ex t ss ds) (hr : RnG r ds d) : Gv E ex (tCB r t) ss d := fun S H σ ok er Q q =>
  ha S H σ ok er _ fun xs H1 e1 px => hr S H1 xs (ok.up e1).hid px _ fun v H2 e2 pv => q v H2 (e1.trans e2) pv
/-- of plain values: nothing is made -/
theorem r2_v {r : R2} {x y v : V} (h : ∀ (H : Hp) (Q : VK), Q v H → r x y H Q) : R2G r (dV x) (dV y) (dV v) := fun S H a b _ ha hb Q q => by
  have ha : a = x := ha
  have hb : b = y := hb
  subst ha hb
  exact h H Q (q _ H (Same.refl H) rfl)
theorem r2_I0 {g : Int → Int → V} {i j : Int} : R2G (rI0 g) (dI i) (dI j) (dV (g i j)) := r2_v fun H Q q => ⟨i, j, rfl, rfl, q⟩
theorem r2_I {C : Int → Int → Prop} {g : Int → Int → V} {i j : Int} (hc : C i j) : R2G (rI C g) (dI i) (dI j) (dV (g i j)) := r2_v fun H Q q => ⟨i, j, rfl, rfl, hc, q⟩
theorem r2_eq {x y : V} (h : scal x y = true) : R2G rEq (dV x) (dV y) (dB (decide (x = y))) := r2_v fun H Q q => ⟨h, q⟩
theorem r2_ne {x y : V} (h : scal x y = true) : R2G rNe (dV x) (dV y) (dB (!decide (x = y))) := r2_v fun H Q q => ⟨h, q⟩
/-- a new list, a new tuple -/
theorem new_L {S : List Addr} {H : Hp} {vs : List V} {ds : List D} {p : Addr} (hid : ∀ b ∈ S, H b ≠ none) (hp : H p = none) (r : Reps (wd S H) vs ds) : (dL ds).p (wd S (upd H p (.lst vs))) (.ref p) :=
  ⟨p, vs, rfl, (by rw [wd_out fun z => hid p z hp, upd_same]), r.up (wd_mono (Same.new hp))⟩
theorem new_T {S : List Addr} {H : Hp} {vs : List V} {ds : List D} {p : Addr} (hid : ∀ b ∈ S, H b ≠ none) (hp : H p = none) (r : Reps (wd S H) vs ds) : (dT ds).p (wd S (upd H p (.tup vs))) (.ref p) :=
  ⟨p, vs, rfl, (by rw [wd_out fun z => hid p z hp, upd_same]), r.up (wd_mono (Same.new hp))⟩
theorem gv_lst {t : TA} {ds : List D} (ha : Ga E ex t ss ds) (hl : ds.length ≤ sizeLine) : Gv E ex (tLst t) ss (dL ds) := fun S H σ ok er Q q =>
  ha S H σ ok er _ fun xs H1 e1 px => ⟨by rw [px.len]; exact hl, fun p hp => q _ _ (e1.trans (Same.new hp)) (new_L (ok.up e1).hid hp px)⟩
theorem gv_tup {t : TA} {ds : List D} (ha : Ga E ex t ss ds) (hl : ds.length ≤ sizeLine) : Gv E ex (tTup t) ss (dT ds) := fun S H σ ok er Q q =>
  ha S H σ ok er _ fun xs H1 e1 px => ⟨by rw [px.len]; exact hl, fun p hp => q _ _ (e1.trans (Same.new hp)) (new_T (ok.up e1).hid hp px)⟩
theorem gb_test {t : TE} {b : Bool} (h : Gv E ex t ss (dB b)) : Gb E ex (tTest t) ss b := fun S H σ ok er Q q => h S H σ ok er _ fun v H1 e1 pv => ⟨b, pv, q H1 e1⟩
theorem gb_B {t : TE} {b : Bool} (h : Gv E ex t ss (dB b)) : Gb E ex (tB t) ss b := fun S H σ ok er Q q => h S H σ ok er _ fun v H1 e1 pv => ⟨b, pv, q H1 e1⟩
theorem gb_and {t u : TT} {a b : Bool} (h1 : Gb E ex t ss a) (h2 : a = true → Gb E ex u ss b) : Gb E ex (tAnd t u) ss (a && b) := fun S H σ ok er Q q => h1 S H σ ok er _ fun H1 e1 => by
  cases a with
  | true => exact iteT (h2 rfl S H1 σ (ok.up e1) (er.up e1) Q fun H2 e2 => q H2 (e1.trans e2))
  | false => exact iteF (q H1 e1)
theorem gb_or {t u : TT} {a b : Bool} (h1 : Gb E ex t ss a) (h2 : a = false → Gb E ex u ss b) : Gb E ex (tOr t u) ss (a || b) := fun S H σ ok er Q q => h1 S H σ ok er _ fun H1 e1 => by
  cases a with
  | true => exact iteT (q H1 e1)
  | false => exact iteF (h2 rfl S H1 σ (ok.up e1) (er.up e1) Q fun H2 e2 => q H2 (e1.trans e2))
theorem gb_not {t : TT} {a : Bool} (h : Gb E ex t ss a) : Gb E ex (tNot t) ss (!a) := fun S H σ ok er Q q => h S H σ ok er _ fun H1 e1 => q H1 e1
theorem gv_if {t : TT} {b : Bool} (h : Gb E ex t ss b) (h1 : b = true → Gv E ex ta ss d) (h2 : b = false → Gv E ex tb ss d) : Gv E ex (tIf t ta tb) ss d := fun S H σ ok er Q q => h S H σ ok er _ fun H1 e1 => by
  cases b with
  | true => exact iteT (h1 rfl S H1 σ (ok.up e1) (er.up e1) Q fun v H2 e2 p => q v H2 (e1.trans e2) p)
  | false => exact iteF (h2 rfl S H1 σ (ok.up e1) (er.up e1) Q fun v H2 e2 p => q v H2 (e1.trans e2) p)
theorem gv_andV {a b : Bool} (h1 : Gv E ex ta ss (dB a)) (h2 : a = true → Gv E ex tb ss (dB b)) : Gv E ex (tAndV ta tb) ss (dB (a && b)) := fun S H σ ok er Q q => h1 S H σ ok er _ fun v H1 e1 pv => ⟨a, pv, by
  cases a with
  | true => exact iteT (h2 rfl S H1 σ (ok.up e1) (er.up e1) Q fun v H2 e2 p => q v H2 (e1.trans e2) p)
  | false => exact iteF (q _ H1 e1 rfl)⟩
theorem gv_orV {a b : Bool} (h1 : Gv E ex ta ss (dB a)) (h2 : a = false → Gv E ex tb ss (dB b)) : Gv E ex (tOrV ta tb) ss (dB (a || b)) := fun S H σ ok er Q q => h1 S H σ ok er _ fun v H1 e1 pv => ⟨a, pv, by
  cases a with
  | true => exact iteT (q _ H1 e1 rfl)
  | false => exact iteF (h2 rfl S H1 σ (ok.up e1) (er.up e1) Q fun v H2 e2 p => q v H2 (e1.trans e2) p)⟩
theorem gv_notV {a : Bool} (h1 : Gv E ex ta ss (dB a)) : Gv E ex (tNotV ta) ss (dB (!a)) := fun S H σ ok er Q q => h1 S H σ ok er _ fun v H1 e1 pv => ⟨a, pv, q _ H1 e1 rfl⟩
theorem gv_chain {r r' : R2} {b1 b2 : Bool} (ha : Gv E ex ta ss da) (hb : Gv E ex tb ss db) (hr : R2G r da db (dB b1)) (hc : b1 = true → Gv E ex tc ss dc) (hr' : b1 = true → R2G r' db dc (dB b2)) : Gv E ex (tChain r r' ta tb tc) ss (dB (b1 && b2)) := fun S H σ ok er Q q =>
  ha S H σ ok er _ fun x H1 e1 px => hb S H1 σ (ok.up e1) (er.up e1) _ fun y H2 e2 py => hr S H2 x y (ok.up (e1.trans e2)).hid (da.up (wd_mono e2) px) py _ fun z H3 e3 pz => ⟨b1, pz, by
    have e13 := e1.trans (e2.trans e3)
    cases b1 with
    | true =>
      refine iteT (hc rfl S H3 σ (ok.up e13) (er.up e13) _ fun w H4 e4 pw => ?_)
      refine hr' rfl S H4 y w (ok.up (e13.trans e4)).hid (db.up (wd_mono (e3.trans e4)) py) pw Q fun v H5 e5 pv => q v H5 (e13.trans (e4.trans e5)) pv
    | false => exact iteF (q _ H3 e13 rfl)⟩
end

/-! ### expressions -/
abbrev Ge (X : CS) (E : XK) (ex : Er → Prop) (ss : List (Option D)) (e : Expr) (d : D) : Prop := Gv E ex (wpE X e) ss d
abbrev Gt (X : CS) (E : XK) (ex : Er → Prop) (ss : List (Option D)) (e : Expr) (b : Bool) : Prop := Gb E ex (wpT X e) ss b
def wpA (X : CS) (es : List Expr) : TA := fun σ H Q => ∀ x, X x → ∀ (pos : Pos) (pins : List (Addr × Obj)) (s : Shared), Inv x pins σ H s → wpAny (model x.prog x.w) x.A (spliced (backTo pos (starEach es x.env))) (AP x pins σ Q) x.xe s
theorem wpA_pa {X : CS} {x : Cx} {es : List Expr} (hx : X x) : PA x es (wpA X es) := ⟨fun pos pins s _ _ _ I h => h x hx pos pins s I⟩
theorem wpA_of {X : CS} {es : List Expr} {t : TA} {σ : Sg} {H : Hp} {Q : List V → Hp → Prop} (h : ∀ x, X x → PA x es t) (q : t σ H Q) : wpA X es σ H Q := fun x hx pos pins s I => (h x hx).run pos pins s σ H Q I q
abbrev Gas (X : CS) (E : XK) (ex : Er → Prop) (ss : List (Option D)) (es : List Expr) (ds : List D) : Prop := Ga E ex (wpA X es) ss ds
section
variable {X : CS} {P : Program} {w : World} {K : PySem.W.Frag} {mg : Str → Option Value} {base : Heap} {N : List Str} {kd : Str → Option NameKind} {k : Nat} {E : XK} {ex : Er → Prop} {ss : List (Option D)} {da db dc d : D} {a b c e : Expr} {pos : Pos}
theorem ge_pe {t : TE} (h : ∀ x, X x → PE x e t) (g : Gv E ex t ss d) : Ge X E ex ss e d := g.imp fun σ H Q q => wpE_of h q
theorem gt_pt {t : TT} {o : Bool} (h : ∀ x, X x → PT x e t) (g : Gb E ex t ss o) : Gt X E ex ss e o := fun S H σ ok er Q q => wpT_of h (g S H σ ok er Q q)
theorem gas_pa {es : List Expr} {t : TA} {ds : List D} (h : ∀ x, X x → PA x es t) (g : Ga E ex t ss ds) : Gas X E ex ss es ds := fun S H σ ok er Q q => wpA_of h (g S H σ ok er Q q)
abbrev Seen (kd : Str → Option NameKind) (y : Str) : Prop := kd y = some .local ∨ kd y = some .cell ∨ kd y = some .free
theorem g_var (C : Ctx X P w K mg base N kd k E) (i : Nat) {y : Str} (hN : N[i]? = some y := by rfl) (hv : Seen kd y := by first | exact Or.inl rfl | exact Or.inr (Or.inl rfl) | exact Or.inr (Or.inr rfl)) (hs : ss[i]? = some (some d) := by rfl)
    (hd : (y == ("__debug__" : Str)) = false := by decide) (hcd : (y == ("__classdict__" : Str)) = false := by decide) : Ge X E ex ss (.Name y pos) d :=
  ge_pe (fun x hx => pe_var (by rw [C.slots x hx]; exact hN) (C.vis x hx _ hv) hd hcd) (gv_var hs)
theorem g_int {i : Int} {j} : Ge X E ex ss (.Constant (.int i) j pos) (dI i) := ge_pe (fun _ _ => pe_int) gv_c
theorem g_bl {i : Bool} {j} : Ge X E ex ss (.Constant (.bool i) j pos) (dB i) := ge_pe (fun _ _ => pe_bl) gv_c
theorem g_non {j} : Ge X E ex ss (.Constant .none j pos) dN := ge_pe (fun _ _ => pe_non) gv_c
theorem g_str {i : Str} {j} : Ge X E ex ss (.Constant (.str i) j pos) (dS i) := ge_pe (fun _ _ => pe_str) gv_c
theorem Ctx.gl (C : Ctx X P w K mg base N kd k E) {x : Cx} (hx : X x) {y : Str} (h : kd y = some .globalImplicit) : Gl x y := by
  exact C.glo x hx y h
theorem g_glob (C : Ctx X P w K mg base N kd k E) {y : Str} {v : V} {u : Value} (hm : mg y = some u) (r : RelV v u) (hg : kd y = some .globalImplicit := by rfl) (hd : (y == ("__debug__" : Str)) = false := by decide) : Ge X E ex ss (.Name y pos) (dV v) :=
  ge_pe (fun x hx => pe_glob (C.gl hx hg) (by rw [C.names x hx]; exact hm) r hd) gv_c
/-- a tuple of the module -/
theorem g_globT (C : Ctx X P w K mg base N kd k E) {y : Str} {p : Addr} {vs : List V} {ds : List D} (hm : mg y = some (.ref p)) (ht : ∀ H, SqT K H p vs) (hr : ∀ H, Reps H vs ds) (hg : kd y = some .globalImplicit := by rfl) (hd : (y == ("__debug__" : Str)) = false := by decide) : Ge X E ex ss (.Name y pos) (dTs K ds) :=
  ge_pe (fun x hx => pe_glob (v := .ref p) (C.gl hx hg) (by rw [C.names x hx]; exact hm) rfl hd) (fun S H σ ok er Q q => q (.ref p) H (Same.refl H) ⟨p, vs, rfl, ht _, hr _⟩)
theorem g_bin {op : Operator} {r : R2} (ho : ∀ x, X x → OpR x (binaryOp op) r) (ha : Ge X E ex ss a da) (hb : Ge X E ex ss b db) (hr : R2G r da db d) : Ge X E ex ss (.BinOp a op b pos) d :=
  ge_pe (fun x hx => pe_op (ho x hx) (wpE_pe hx) (wpE_pe hx)) (gv_op ha hb hr)
theorem g_cmp {op : CmpOp} {r : R2} (ho : ∀ x, X x → OpR x (compareOp op) r) (ha : Ge X E ex ss a da) (hb : Ge X E ex ss b db) (hr : R2G r da db d) (hm : behindInMarks op b = false := by first | exact nomark _ | rfl) : Ge X E ex ss (.Compare a [op] [b] pos) d :=
  ge_pe (fun x hx => pe_cmpR (ho x hx) (wpE_pe hx) (wpE_pe hx) hm) (gv_op ha hb hr)
theorem t_cmp {op : CmpOp} {r : R2} {o : Bool} (ho : ∀ x, X x → OpR x (compareOp op) r) (ha : Ge X E ex ss a da) (hb : Ge X E ex ss b db) (hr : R2G r da db (dB o)) (hm : behindInMarks op b = false := by first | exact nomark _ | rfl) : Gt X E ex ss (.Compare a [op] [b] pos) o :=
  gt_pt (fun x hx => pt_cmpR (ho x hx) (wpE_pe hx) (wpE_pe hx) hm) (gb_test (gv_op ha hb hr))
variable {i j : Int}
theorem g_add (ha : Ge X E ex ss a (dI i)) (hb : Ge X E ex ss b (dI j)) : Ge X E ex ss (.BinOp a .Add b pos) (dI (i + j)) := g_bin (fun _ _ => op_add) ha hb r2_I0
theorem g_sub (ha : Ge X E ex ss a (dI i)) (hb : Ge X E ex ss b (dI j)) : Ge X E ex ss (.BinOp a .Sub b pos) (dI (i - j)) := g_bin (fun _ _ => op_sub) ha hb r2_I0
theorem g_and (ha : Ge X E ex ss a (dI i)) (hb : Ge X E ex ss b (dI j)) : Ge X E ex ss (.BinOp a .BitAnd b pos) (dI (Builtin.bitAnd i j)) := g_bin (fun _ _ => op_and) ha hb r2_I0
theorem g_or (ha : Ge X E ex ss a (dI i)) (hb : Ge X E ex ss b (dI j)) : Ge X E ex ss (.BinOp a .BitOr b pos) (dI (Builtin.bitOr i j)) := g_bin (fun _ _ => op_or) ha hb r2_I0
theorem g_shr (ha : Ge X E ex ss a (dI i)) (hb : Ge X E ex ss b (dI j)) (h : 0 ≤ j) : Ge X E ex ss (.BinOp a .RShift b pos) (dI (i / 2 ^ j.toNat)) := g_bin (fun _ _ => op_shr) ha hb (r2_I h)
theorem g_shl (ha : Ge X E ex ss a (dI i)) (hb : Ge X E ex ss b (dI j)) (h : CPow i j) : Ge X E ex ss (.BinOp a .LShift b pos) (dI (i * 2 ^ j.toNat)) := g_bin (fun _ _ => op_shl) ha hb (r2_I h)
theorem g_lt (ha : Ge X E ex ss a (dI i)) (hb : Ge X E ex ss b (dI j)) : Ge X E ex ss (.Compare a [.Lt] [b] pos) (dB (decide (i < j))) := g_cmp (fun _ _ => op_lt) ha hb r2_I0
theorem t_lt (ha : Ge X E ex ss a (dI i)) (hb : Ge X E ex ss b (dI j)) : Gt X E ex ss (.Compare a [.Lt] [b] pos) (decide (i < j)) := t_cmp (fun _ _ => op_lt) ha hb r2_I0
theorem t_gt (ha : Ge X E ex ss a (dI i)) (hb : Ge X E ex ss b (dI j)) : Gt X E ex ss (.Compare a [.Gt] [b] pos) (decide (j < i)) := t_cmp (fun _ _ => op_gt) ha hb r2_I0
theorem g_le (ha : Ge X E ex ss a (dI i)) (hb : Ge X E ex ss b (dI j)) : Ge X E ex ss (.Compare a [.LtE] [b] pos) (dB (decide (i ≤ j))) := g_cmp (fun _ _ => op_le) ha hb r2_I0
/-- ==, != of plain values of one kind -/
theorem g_eq {x y : V} (ha : Ge X E ex ss a (dV x)) (hb : Ge X E ex ss b (dV y)) (h : scal x y = true := by rfl) : Ge X E ex ss (.Compare a [.Eq] [b] pos) (dB (decide (x = y))) := g_cmp (fun _ _ => op_eq) ha hb (r2_eq h)
theorem t_eq {x y : V} (ha : Ge X E ex ss a (dV x)) (hb : Ge X E ex ss b (dV y)) (h : scal x y = true := by rfl) : Gt X E ex ss (.Compare a [.Eq] [b] pos) (decide (x = y)) := t_cmp (fun _ _ => op_eq) ha hb (r2_eq h)
theorem g_ne {x y : V} (ha : Ge X E ex ss a (dV x)) (hb : Ge X E ex ss b (dV y)) (h : scal x y = true := by rfl) : Ge X E ex ss (.Compare a [.NotEq] [b] pos) (dB (!decide (x = y))) := g_cmp (fun _ _ => op_ne) ha hb (r2_ne h)
theorem t_ne {x y : V} (ha : Ge X E ex ss a (dV x)) (hb : Ge X E ex ss b (dV y)) (h : scal x y = true := by rfl) : Gt X E ex ss (.Compare a [.NotEq] [b] pos) (!decide (x = y)) := t_cmp (fun _ _ => op_ne) ha hb (r2_ne h)
/-- a <= b <= c and its like, of ints -/
theorem g_chain {op op' : CmpOp} {g g' : Int → Int → V} {i j l : Int} {b1 b2 : Bool} (ho : ∀ x, X x → OpR x (compareOp op) (rI0 g)) (ho' : ∀ x, X x → OpR x (compareOp op') (rI0 g')) (ha : Ge X E ex ss a (dI i)) (hb : Ge X E ex ss b (dI j)) (hc : Ge X E ex ss c (dI l))
    (h1 : g i j = .bl b1) (h2 : g' j l = .bl b2) (hm : lastMarks [op, op'] [b, c] = false := by with_unfolding_all rfl) : Ge X E ex ss (.Compare a [op, op'] [b, c] pos) (dB (b1 && b2)) :=
  ge_pe (fun x hx => pe_chain (ho x hx) (ho' x hx) (wpE_pe hx) (wpE_pe hx) (wpE_pe hx) hm) (gv_chain ha hb (by rw [show dB b1 = dV (g i j) from congrArg dV h1.symm]; exact r2_I0) (fun _ => hc) fun _ => by rw [show dB b2 = dV (g' j l) from congrArg dV h2.symm]; exact r2_I0)
theorem g_le_le {l : Int} (ha : Ge X E ex ss a (dI i)) (hb : Ge X E ex ss b (dI j)) (hc : Ge X E ex ss c (dI l)) (hm : lastMarks [CmpOp.LtE, .LtE] [b, c] = false := by with_unfolding_all rfl) : Ge X E ex ss (.Compare a [.LtE, .LtE] [b, c] pos) (dB (decide (i ≤ j) && decide (j ≤ l))) := g_chain (fun _ _ => op_le) (fun _ _ => op_le) ha hb hc rfl rfl hm
theorem g_le_lt {l : Int} (ha : Ge X E ex ss a (dI i)) (hb : Ge X E ex ss b (dI j)) (hc : Ge X E ex ss c (dI l)) (hm : lastMarks [CmpOp.LtE, .Lt] [b, c] = false := by with_unfolding_all rfl) : Ge X E ex ss (.Compare a [.LtE, .Lt] [b, c] pos) (dB (decide (i ≤ j) && decide (j < l))) := g_chain (fun _ _ => op_le) (fun _ _ => op_lt) ha hb hc rfl rfl hm
theorem t_le_le {l : Int} (ha : Ge X E ex ss a (dI i)) (hb : Ge X E ex ss b (dI j)) (hc : Ge X E ex ss c (dI l)) (hm : lastMarks [CmpOp.LtE, .LtE] [b, c] = false := by with_unfolding_all rfl) : Gt X E ex ss (.Compare a [.LtE, .LtE] [b, c] pos) (decide (i ≤ j) && decide (j ≤ l)) :=
  gt_pt (fun x hx => pt_chain op_le op_le (wpE_pe hx) (wpE_pe hx) (wpE_pe hx) hm) (gb_test (gv_chain ha hb r2_I0 (fun _ => hc) fun _ => r2_I0))
theorem t_le_lt {l : Int} (ha : Ge X E ex ss a (dI i)) (hb : Ge X E ex ss b (dI j)) (hc : Ge X E ex ss c (dI l)) (hm : lastMarks [CmpOp.LtE, .Lt] [b, c] = false := by with_unfolding_all rfl) : Gt X E ex ss (.Compare a [.LtE, .Lt] [b, c] pos) (decide (i ≤ j) && decide (j < l)) :=
  gt_pt (fun x hx => pt_chain op_le op_lt (wpE_pe hx) (wpE_pe hx) (wpE_pe hx) hm) (gb_test (gv_chain ha hb r2_I0 (fun _ => hc) fun _ => r2_I0))
/-! tests -/
theorem t_val {o : Bool} (h : Ge X E ex ss e (dB o)) (he : ∀ (env : Env) (whole : Sem Value), isTrue e env whole = (do let v ← whole; standAt e.pos; holding [v] (truthy v)) := by intro _ _; rfl) : Gt X E ex ss e o :=
  gt_pt (fun x hx => pt_val (wpE_pe hx) (he x.env)) (gb_B h)
variable {p q r : Bool}
theorem t_not (h : Gt X E ex ss a p) : Gt X E ex ss (.UnaryOp .Not a pos) (!p) := gt_pt (fun x hx => pt_not (wpT_pt hx)) (gb_not h)
theorem t_and (h1 : Gt X E ex ss a p) (h2 : p = true → Gt X E ex ss b q) : Gt X E ex ss (.BoolOp .And [a, b] pos) (p && q) := gt_pt (fun x hx => PW.pt (pw_and (wpT_pt hx) (pw_and1 (pos := pos) (wpT_pt hx)))) (gb_and h1 h2)
theorem t_and3 (h1 : Gt X E ex ss a p) (h2 : p = true → Gt X E ex ss b q) (h3 : p = true → q = true → Gt X E ex ss c r) : Gt X E ex ss (.BoolOp .And [a, b, c] pos) (p && (q && r)) :=
  gt_pt (fun x hx => PW.pt (pw_and (wpT_pt hx) (pw_and (pos := pos) (wpT_pt hx) (pw_and1 (pos := pos) (wpT_pt hx))))) (gb_and h1 fun z => gb_and (h2 z) (h3 z))
theorem t_or (h1 : Gt X E ex ss a p) (h2 : p = false → Gt X E ex ss b q) : Gt X E ex ss (.BoolOp .Or [a, b] pos) (p || q) := gt_pt (fun x hx => PW.pt (pw_or (wpT_pt hx) (pw_or1 (pos := pos) (wpT_pt hx)))) (gb_or h1 h2)
theorem g_andV (h1 : Ge X E ex ss a (dB p)) (h2 : p = true → Ge X E ex ss b (dB q)) : Ge X E ex ss (.BoolOp .And [a, b] pos) (dB (p && q)) := ge_pe (fun x hx => pe_and (wpE_pe hx) (pe_one (pos := pos) (wpE_pe hx))) (gv_andV h1 h2)
theorem g_andV3 (h1 : Ge X E ex ss a (dB p)) (h2 : p = true → Ge X E ex ss b (dB q)) (h3 : p = true → q = true → Ge X E ex ss c (dB r)) : Ge X E ex ss (.BoolOp .And [a, b, c] pos) (dB (p && (q && r))) :=
  ge_pe (fun x hx => pe_and (wpE_pe hx) (pe_and (pos := pos) (wpE_pe hx) (pe_one (pos := pos) (wpE_pe hx)))) (gv_andV h1 fun z => gv_andV (h2 z) (h3 z))
theorem g_notV (h : Ge X E ex ss a (dB p)) : Ge X E ex ss (.UnaryOp .Not a pos) (dB (!p)) := ge_pe (fun x hx => pe_not (wpE_pe hx)) (gv_notV h)
theorem g_if (h : Gt X E ex ss c p) (h1 : p = true → Ge X E ex ss a d) (h2 : p = false → Ge X E ex ss b d) : Ge X E ex ss (.IfExp c a b pos) d := ge_pe (fun x hx => pe_ifExp (wpT_pt hx) (wpE_pe hx) (wpE_pe hx)) (gv_if h h1 h2)
/-! arguments, displays -/
variable {es : List Expr} {ds : List D}
theorem a_nil : Gas X E ex ss [] [] := gas_pa (fun _ _ => pa_nil) ga_nil0
theorem a_cons (h : Ge X E ex ss e d) (hr : Gas X E ex ss es ds) (hs : ∀ env, starEach (e :: es) env = (false, eval e env) :: starEach es env := by intro _; rfl) : Gas X E ex ss (e :: es) (d :: ds) :=
  gas_pa (fun x hx => pa_cons (wpE_pe hx) (wpA_pa hx) (hs x.env)) (ga_cons0 h hr)
theorem g_list (h : Gas X E ex ss es ds) (hl : ds.length ≤ sizeLine := by exact le_line (Nat.le_of_ble_eq_true rfl)) : Ge X E ex ss (.List es pos) (dL ds) := ge_pe (fun x hx => pe_lst (wpA_pa hx)) (gv_lst h hl)
theorem g_tup {m} (h : Gas X E ex ss es ds) (hl : ds.length ≤ sizeLine := by exact le_line (Nat.le_of_ble_eq_true rfl)) : Ge X E ex ss (.Tuple es m pos) (dT ds) := ge_pe (fun x hx => pe_tup (wpA_pa hx)) (gv_tup h hl)
end
end Tr
namespace Tr
open PySem PySem.Spec PyProof.Rows L2

/-! ### items, slices, fields -/
def cutD {α : Type} (l : List α) (lo hi : Option Int) : List α := (l.drop (HT.sIx l.length 0 lo)).take (HT.sIx l.length l.length hi - HT.sIx l.length 0 lo)
theorem Reps.cut {W : Hp} {vs : List V} {ds : List D} (r : Reps W vs ds) (lo hi : Option Int) : Reps W (cutV vs lo hi) (cutD ds lo hi) := by
  unfold cutV cutD
  rw [r.len]
  exact (r.drop _).take _
theorem lookup_zip : ∀ {ns : List Str} {vs : List V} {i : Nat} {f : Str} {v : V}, ns.Nodup → ns[i]? = some f → vs[i]? = some v → (ns.zip vs).lookup f = some v
  | [], _, _, _, _, _, e, _ => by simp at e
  | _ :: _, [], _, _, _, _, _, e => by simp at e
  | n :: ns, x :: vs, 0, f, v, _, h1, h2 => by
    have h1 : n = f := by simpa using h1
    have h2 : x = v := by simpa using h2
    subst h1 h2
    simp [List.lookup]
  | n :: ns, x :: vs, i + 1, f, v, nd, h1, h2 => by
    obtain ⟨a, b⟩ := List.nodup_cons.mp nd
    have h1 : ns[i]? = some f := by simpa using h1
    have hne : (f == n) = false := by
      apply beq_eq_false_iff_ne.mpr
      intro e
      subst e
      exact a (List.mem_of_getElem? h1)
    show List.lookup f ((n, x) :: ns.zip vs) = some v
    rw [List.lookup_cons, hne]
    exact lookup_zip b h1 (by simpa using h2)
theorem lookup_zip_none : ∀ {ns : List Str} {vs : List V} {f : Str}, ¬ f ∈ ns → (ns.zip vs).lookup f = none
  | [], _, _, _ => rfl
  | _ :: _, [], _, _ => rfl
  | n :: ns, x :: vs, f, h => by
    have hne : (f == n) = false := beq_eq_false_iff_ne.mpr fun e => h (by rw [e]; exact List.mem_cons_self)
    show List.lookup f ((n, x) :: ns.zip vs) = none
    rw [List.lookup_cons, hne]
    exact lookup_zip_none fun m => h (List.mem_cons_of_mem _ m)

section
variable {X : CS} {P : Program} {w : World} {K : PySem.W.Frag} {mg : Str → Option Value} {base : Heap} {N : List Str} {kd : Str → Option NameKind} {k : Nat} {E : XK} {ex : Er → Prop} {ss : List (Option D)} {da db dc d : D} {a b c e : Expr} {pos : Pos} {ds es : List D}
theorem g_ofL (h : Ge X E ex ss e (dL ds)) : Ge X E ex ss e (dLs K ds) := h.weak fun _ _ => dL_s
theorem g_ofT (h : Ge X E ex ss e (dT ds)) : Ge X E ex ss e (dTs K ds) := h.weak fun _ _ => dT_s
theorem r2_ixL {n : Nat} (h : ds[n]? = some d) : R2G (rIxL K) (dLs K ds) (dI (n : Int)) d := fun S H x y hid hx hy Q q => by
  obtain ⟨p, vs, rfl, sq, r⟩ := hx
  have hy : y = .int n := hy
  subst hy
  obtain ⟨v, hv, pv⟩ := r.at h
  exact ⟨p, vs, n, v, rfl, rfl, (wd_same S H).seq sq, atI_nat hv, q v H (Same.refl H) pv⟩
theorem r2_ixT {n : Nat} (h : ds[n]? = some d) : R2G (rIxT K) (dTs K ds) (dI (n : Int)) d := fun S H x y hid hx hy Q q => by
  obtain ⟨p, vs, rfl, sq, r⟩ := hx
  have hy : y = .int n := hy
  subst hy
  obtain ⟨v, hv, pv⟩ := r.at h
  exact ⟨p, vs, n, v, rfl, rfl, seqT (wd_same S H) sq, atI_nat hv, q v H (Same.refl H) pv⟩
theorem g_ixLs (C : Ctx X P w K mg base N kd k E) {i : Int} {n : Nat} (ha : Ge X E ex ss a (dLs K ds)) (hb : Ge X E ex ss b (dI i)) (hi : i = (n : Int)) (h : ds[n]? = some d) (hp : PlainIx b := by exact fun _ _ => rfl) : Ge X E ex ss (.Subscript a b pos) d := by
  subst hi
  exact ge_pe (fun x hx => pe_ix (r := rIxL K) (by rw [← C.frag x hx]; exact ix_list) (wpE_pe hx) (wpE_pe hx) hp) (gv_op ha hb (r2_ixL h))
theorem g_ixTs (C : Ctx X P w K mg base N kd k E) {i : Int} {n : Nat} (ha : Ge X E ex ss a (dTs K ds)) (hb : Ge X E ex ss b (dI i)) (hi : i = (n : Int)) (h : ds[n]? = some d) (hp : PlainIx b := by exact fun _ _ => rfl) : Ge X E ex ss (.Subscript a b pos) d := by
  subst hi
  exact ge_pe (fun x hx => pe_ix (r := rIxT K) (by rw [← C.frag x hx]; exact ix_tup) (wpE_pe hx) (wpE_pe hx) hp) (gv_op ha hb (r2_ixT h))
theorem g_ixL (C : Ctx X P w K mg base N kd k E) {i : Int} {n : Nat} (ha : Ge X E ex ss a (dL ds)) (hb : Ge X E ex ss b (dI i)) (hi : i = (n : Int)) (h : ds[n]? = some d) (hp : PlainIx b := by exact fun _ _ => rfl) : Ge X E ex ss (.Subscript a b pos) d := g_ixLs C (g_ofL ha) hb hi h hp
theorem g_ixT (C : Ctx X P w K mg base N kd k E) {i : Int} {n : Nat} (ha : Ge X E ex ss a (dT ds)) (hb : Ge X E ex ss b (dI i)) (hi : i = (n : Int)) (h : ds[n]? = some d) (hp : PlainIx b := by exact fun _ _ => rfl) : Ge X E ex ss (.Subscript a b pos) d := g_ixTs C (g_ofT ha) hb hi h hp
/-- parts of a slice -/
def Gpo (X : CS) (E : XK) (ex : Er → Prop) (ss : List (Option D)) (e : Option Expr) (o : Option Int) : Prop := ∃ t : TO, (∀ x, X x → PO x e t) ∧ ∀ (S : List Addr) (H : Hp) (σ : Sg), Ok S H σ ss → Errs E ex H → ∀ Q : Option Int → Hp → Prop, (∀ H', Same H H' → Q o H') → t σ H Q
theorem po_no : Gpo X E ex ss none none := ⟨_, fun _ _ => po_none, fun S H σ ok er Q q => q H (Same.refl H)⟩
theorem po_e {i : Int} (h : Ge X E ex ss e (dI i)) : Gpo X E ex ss (some e) (some i) := ⟨_, fun x hx => po_some (wpE_pe hx), fun S H σ ok er Q q => h S H σ ok er _ fun v H' e1 pv => ⟨i, pv, q H' e1⟩⟩
def S3G (r : V → Option Int → Option Int → Hp → VK → Prop) (da : D) (lo hi : Option Int) (d : D) : Prop := ∀ (S : List Addr) (H : Hp) (x : V), (∀ b ∈ S, H b ≠ none) → da.p (wd S H) x → ∀ Q : VK, (∀ v H', Same H H' → d.p (wd S H') v → Q v H') → r x lo hi H Q
theorem g_slice {r : V → Option Int → Option Int → Hp → VK → Prop} {lo hi : Option Expr} {l h : Option Int} {p2 : Pos} (hr : ∀ x, X x → SlR x r) (he : Ge X E ex ss e da) (hl : Gpo X E ex ss lo l) (hh : Gpo X E ex ss hi h) (hs : S3G r da l h d) : Ge X E ex ss (.Subscript e (.Slice lo hi none p2) pos) d := by
  obtain ⟨tl, pl, gl⟩ := hl
  obtain ⟨th, ph, gh⟩ := hh
  refine ge_pe (fun x hx => pe_slice (hr x hx) (wpE_pe hx) (pl x hx) (ph x hx)) fun S H σ ok er Q q => ?_
  exact he S H σ ok er _ fun v H1 e1 pv => gl S H1 σ (ok.up e1) (er.up e1) _ fun H2 e2 => gh S H2 σ (ok.up (e1.trans e2)) (er.up (e1.trans e2)) _ fun H3 e3 =>
    hs S H3 v (ok.up (e1.trans (e2.trans e3))).hid (da.up (wd_mono (e2.trans e3)) pv) Q fun u H4 e4 pu => q u H4 (e1.trans (e2.trans (e3.trans e4))) pu
theorem s3_L {lo hi : Option Int} : S3G (rSlL K) (dLs K ds) lo hi (dL (cutD ds lo hi)) := fun S H x hid hx Q q => by
  obtain ⟨p, vs, rfl, sq, r⟩ := hx
  exact ⟨p, vs, rfl, (wd_same S H).seq sq, fun p' hp' => q _ _ (Same.new hp') (new_L hid hp' (r.cut lo hi))⟩
theorem g_slLs (C : Ctx X P w K mg base N kd k E) {lo hi : Option Expr} {l h : Option Int} {p2 : Pos} (he : Ge X E ex ss e (dLs K ds)) (hl : Gpo X E ex ss lo l) (hh : Gpo X E ex ss hi h) : Ge X E ex ss (.Subscript e (.Slice lo hi none p2) pos) (dL (cutD ds l h)) :=
  g_slice (r := rSlL K) (fun x hx => by rw [← C.frag x hx]; exact sl_list) he hl hh s3_L
theorem g_slL (C : Ctx X P w K mg base N kd k E) {lo hi : Option Expr} {l h : Option Int} {p2 : Pos} (he : Ge X E ex ss e (dL ds)) (hl : Gpo X E ex ss lo l) (hh : Gpo X E ex ss hi h) : Ge X E ex ss (.Subscript e (.Slice lo hi none p2) pos) (dL (cutD ds l h)) := g_slLs C (g_ofL he) hl hh
/-- e.f -/
theorem gv_fld {ta : TE} {Cl : Addr} {ns : List Str} {f : Str} {i : Nat} (ha : Gv E ex ta ss (dO Cl ns ds)) (cl : Cls K Cl) (na : NoAttr K Cl f) (nd : ns.Nodup) (hf : ns[i]? = some f) (h : ds[i]? = some d) : Gv E ex (tFld K ta f) ss d := fun S H σ ok er Q q =>
  ha S H σ ok er _ fun v H1 e1 pv => by
    obtain ⟨p, dx, vs, rfl, ho, r⟩ := pv
    obtain ⟨u, hu, pu⟩ := r.at h
    exact ⟨p, Cl, dx, _, u, rfl, wd_same S H1 _ _ ho, cl, na, lookup_zip nd hf hu, q u H1 e1 pu⟩
theorem g_fld (C : Ctx X P w K mg base N kd k E) {Cl : Addr} {ns : List Str} {f : Str} (i : Nat) (ha : Ge X E ex ss a (dO Cl ns ds)) (cl : Cls K Cl) (na : NoAttr K Cl f) (h : ds[i]? = some d := by rfl) (hf : ns[i]? = some f := by rfl) (nd : ns.Nodup := by decide)
    (hb : ∀ env, attributeBase a f env (eval a env) = eval a env := by intro _; rfl) : Ge X E ex ss (.Attribute a f pos) d :=
  ge_pe (fun x hx => by rw [← C.frag x hx]; exact pe_fld (wpE_pe hx) (hb x.env)) (gv_fld ha cl na nd hf h)
end

/-! ### calls -/
/-- what a def does to data: what it is handed, what is wanted of its answer, what of an error -/
abbrev Pr := List D → (D → Prop) → (Er → Prop) → Prop
def spT (A : Pr) : Sp := fun vs H Q E => ∃ (S : List Addr) (ds : List D) (kr : D → Prop) (ke : Er → Prop), (∀ b ∈ S, H b ≠ none) ∧ Reps (wd S H) vs ds ∧ A ds kr ke ∧ (∀ d v H', kr d → Same H H' → d.p (wd S H') v → Q v H') ∧ Errs E ke H
/-- a def of the module by its name; a method; a class that is made -/
def Has (P : Program) (w : World) (K : PySem.W.Frag) (mg : Str → Option Value) (base : Heap) (CX : CXT) (k : Nat) (x : Str) (A : Pr) : Prop :=
  ∃ f fd ps, mg x = some (.ref f) ∧ PySem.W.keepIn K (.ref f) = true ∧ Binds K fd ps [] ∧ FnOk P w K mg base CX k f fd ps (spT A)
def HasM (P : Program) (w : World) (K : PySem.W.Frag) (mg : Str → Option Value) (base : Heap) (CX : CXT) (k : Nat) (Cl : Addr) (m : Str) (A : Pr) : Prop :=
  ∃ f fd ps, Cls K Cl ∧ Meth K Cl m f ∧ Binds K fd ps [] ∧ FnOk P w K mg base CX k f fd ps (spT A)
/-- what an __init__ does: from the arguments to the fields -/
abbrev PrI := List D → (List D → Prop) → Prop
def spI (Cl : Addr) (ns : List Str) (A : PrI) : Sp := fun vs H Q _ => ∃ (S : List Addr) (p dx : Addr) (us : List V) (ds : List D) (kr : List D → Prop), vs = .ref p :: us ∧ H p = some (.ins Cl dx []) ∧ (¬ p ∈ S) ∧ (∀ b ∈ S, H b ≠ none) ∧ Reps (wd (p :: S) H) us ds ∧ A ds kr ∧
  (∀ dx' fs fvs H', kr fs → Same (wd [p] H) H' → H' p = some (.ins Cl dx' (ns.zip fvs)) → Reps (wd (p :: S) H') fvs fs → Q .non H')
def HasC (P : Program) (w : World) (K : PySem.W.Frag) (mg : Str → Option Value) (base : Heap) (k : Nat) (Cl : Addr) (x : Str) (ns : List Str) (A : PrI) : Prop :=
  ∃ f fd ps, mg x = some (.ref Cl) ∧ Mk K Cl f ∧ Binds K fd ps [] ∧ FnOk P w K mg base CX0 k f fd ps (spI Cl ns A)
section
variable {X : CS} {P : Program} {w : World} {K : PySem.W.Frag} {mg : Str → Option Value} {base : Heap} {N : List Str} {kd : Str → Option NameKind} {k j : Nat} {E : XK} {ex : Er → Prop} {ss : List (Option D)} {da db dc d : D} {a b c e : Expr} {p pos apos : Pos} {ds ds0 : List D} {es : List Expr} {x m : Str} {A : Pr}
theorem gv_call {E' : XK} {t : TA} {ke : Er → Prop} (ha : Ga E ex t ss ds) (hA : A ds (fun d' => d' = d) ke) (he : ∀ H, Errs E ex H → Errs E' ke H) : Gv E ex (tCall (spT A) [] E' t) ss d := fun S H σ ok er Q q =>
  ha S H σ ok er _ fun vs H1 e1 pr => by
    show spT A (vs ++ []) H1 Q E'
    rw [List.append_nil]
    refine ⟨S, ds, _, ke, (ok.up e1).hid, pr, hA, fun d' v H' hk e2 pd => ?_, he _ (er.up e1)⟩
    subst hk
    exact q v H' (e1.trans e2) pd
theorem gv_meth {E' : XK} {ta : TE} {t : TA} {ke : Er → Prop} {Cl : Addr} {ns : List Str} (ho : Gv E ex ta ss (dO Cl ns ds0)) (hm : ¬ m ∈ ns) (ha : Ga E ex t ss ds) (hA : A (dO Cl ns ds0 :: ds) (fun d' => d' = d) ke) (he : ∀ H, Errs E ex H → Errs E' ke H) :
    Gv E ex (tMeth Cl m (spT A) [] E' ta t) ss d := fun S H σ ok er Q q =>
  ho S H σ ok er _ fun v H1 e1 pv => by
    obtain ⟨p, dx, vs, rfl, hp, r⟩ := id pv
    refine ⟨p, dx, _, rfl, wd_same S H1 _ _ hp, lookup_zip_none hm, ?_⟩
    refine ha S H1 σ (ok.up e1) (er.up e1) _ fun us H2 e2 pr => ?_
    show spT A (V.ref p :: (us ++ [])) H2 Q E'
    rw [List.append_nil]
    refine ⟨S, dO Cl ns ds0 :: ds, _, ke, (ok.up (e1.trans e2)).hid, ⟨(dO Cl ns ds0).up (wd_mono e2) pv, pr⟩, hA, fun d' v H' hk e3 pd => ?_, he _ (er.up (e1.trans e2))⟩
    subst hk
    exact q v H' (e1.trans (e2.trans e3)) pd
theorem made_up {S : List Addr} {H1 : Hp} {x dx : Addr} {o o' : HO} (hx : H1 x = none) (hd : H1 dx = none) : Same (wd S H1) (wd (x :: S) (upd (upd H1 dx o) x o')) := fun b u e => by
  have hb : ¬ b ∈ S := fun z => by rw [wd_in z] at e; cases e
  rw [wd_out hb] at e
  have h1 : b ≠ x := ne_of_none e hx
  rw [wd_out (fun z => (List.mem_cons.mp z).elim h1 hb), upd_ne h1, upd_ne (ne_of_none e hd)]
  exact e
theorem gv_make {t : TA} {Cl : Addr} {ns : List Str} {I : PrI} {fs : List D} (ha : Ga E ex t ss ds) (hA : I ds (fun f => f = fs)) : Gv E ex (tMake Cl (spI Cl ns I) [] E0 t) ss (dO Cl ns fs) := fun S H σ ok er Q q =>
  ha S H σ ok er _ fun us H1 e1 pr x dx hx hd hne => by
    show spI Cl ns I (V.ref x :: (us ++ [])) _ _ _
    rw [List.append_nil]
    have hS := (ok.up e1).hid
    refine ⟨S, x, dx, us, ds, _, rfl, upd_same, fun z => hS x z hx, fun b hb z => ?_, pr.up (made_up hx hd), hA, fun dx' f fvs H' hf e2 hp r => ?_⟩
    · by_cases h1 : b = x
      · rw [h1, upd_same] at z; cases z
      · rw [upd_ne h1] at z
        by_cases h2 : b = dx
        · rw [h2, upd_same] at z; cases z
        · rw [upd_ne h2] at z
          exact hS b hb z
    · subst hf
      have s1 : Same H1 H' := fun b o eb => e2 b o (by
        have h1 : b ≠ x := ne_of_none eb hx
        rw [wd_out (by simpa using h1), upd_ne h1, upd_ne (ne_of_none eb hd)]
        exact eb)
      refine ⟨rfl, q _ H' (e1.trans s1) ⟨x, dx', fvs, rfl, ?_, r.up (wd_less fun b hb => List.mem_cons_of_mem _ hb)⟩⟩
      rw [wd_out fun z => hS x z hx]
      exact hp
variable (C : Ctx X P w K mg base N kd k E)
include C
theorem Ctx.fn {CX : CXT} {f : Addr} {fd : FuncData} {ps : List Str} {sp : Sp} {y : Cx} (hy : X y) (F : FnOk P w K mg base CX j f fd ps sp) : FnOk y.prog y.w y.K y.mg y.base CX j f fd ps sp := by
  rw [C.prog y hy, C.world y hy, C.frag y hy, C.names y hy, C.base y hy]
  exact F
theorem g_call (h : Has P w K mg base CX0 j x A) (ha : Gas X E ex ss (e :: es) ds) (hA : A ds (fun d' => d' = d) (fun _ => False)) (hj : j ≤ k := by decide) (hg : kd x = some .globalImplicit := by rfl)
    (hdb : (x == ("__debug__" : Str)) = false := by decide) (he : ∀ env, starEach (e :: es) env = (false, eval e env) :: starEach es env := by intro _; rfl) (hpl : ∀ env, (backTo pos (starEach es env)).any (·.1) = false := by intro _; rfl) :
    Ge X E ex ss (.Call (.Name x p) (e :: es) [] pos) d := by
  obtain ⟨f, fd, ps, hm, hk, hb, F⟩ := h
  refine ge_pe (fun y hy => ?_) (gv_call (E' := E0) ha hA fun _ _ => Errs.none)
  exact pe_call (C.fn hy F) ((C.room y hy).mono hj) (C.gl hy hg) (by rw [C.names y hy]; exact hm) (by rw [C.frag y hy]; exact hk) (by rw [C.frag y hy]; exact hb) .nil pass0 (wpA_pa hy) hdb (he _) (hpl _)
theorem g_callX (h : Has P w K mg base (L2.CX P w) j x A) (ha : Gas X E ex ss (e :: es) ds) (hA : A ds (fun d' => d' = d) ex) (hj : j ≤ k := by decide) (hg : kd x = some .globalImplicit := by rfl)
    (hdb : (x == ("__debug__" : Str)) = false := by decide) (he : ∀ env, starEach (e :: es) env = (false, eval e env) :: starEach es env := by intro _; rfl) (hpl : ∀ env, (backTo pos (starEach es env)).any (·.1) = false := by intro _; rfl) :
    Ge X E ex ss (.Call (.Name x p) (e :: es) [] pos) d := by
  obtain ⟨f, fd, ps, hm, hk, hb, F⟩ := h
  refine ge_pe (fun y hy => ?_) (gv_call (E' := E) ha hA fun _ er => er)
  have hx : Passes (L2.CX P w) y E := by
    have q := passes_call (E := E) (C.takes y hy) fun _ _ _ _ h => h
    rw [C.prog y hy, C.world y hy] at q
    exact q
  exact pe_call (C.fn hy F) ((C.room y hy).mono hj) (C.gl hy hg) (by rw [C.names y hy]; exact hm) (by rw [C.frag y hy]; exact hk) (by rw [C.frag y hy]; exact hb) .nil hx (wpA_pa hy) hdb (he _) (hpl _)
theorem g_meth {Cl : Addr} {ns : List Str} (h : HasM P w K mg base CX0 j Cl m A) (ho : Ge X E ex ss a (dO Cl ns ds0)) (ha : Gas X E ex ss (e :: es) ds) (hA : A (dO Cl ns ds0 :: ds) (fun d' => d' = d) (fun _ => False)) (hj : j ≤ k := by decide) (hn : ¬ m ∈ ns := by decide)
    (he : ∀ env, starEach (e :: es) env = (false, eval e env) :: starEach es env := by intro _; rfl) (hpl : ∀ env, (backTo pos (starEach es env)).any (·.1) = false := by intro _; rfl)
    (ht : ∀ env, ∃ pl : Sem Bool, eval (.Call (.Attribute a m apos) (e :: es) [] pos) env = (do
      let ov ← eval a env
      standAt apos.atName
      let (f, first) ← holding [ov] (getMethod ov m pl)
      callWith pos f first (backTo pos (starEach (e :: es) env)) (backToKw pos (keywordEach [] env))) := by intro _; exact ⟨_, rfl⟩) :
    Ge X E ex ss (.Call (.Attribute a m apos) (e :: es) [] pos) d := by
  obtain ⟨f, fd, ps, cl, hm, hb, F⟩ := h
  refine ge_pe (fun y hy => ?_) (gv_meth (E' := E0) ho hn ha hA fun _ _ => Errs.none)
  obtain ⟨pl, ht⟩ := ht y.env
  exact pe_meth (pl := pl) (wpE_pe hy) (by rw [C.frag y hy]; exact cl) (by rw [C.frag y hy]; exact hm) (C.fn hy F) ((C.room y hy).mono hj) (by rw [C.frag y hy]; exact hb) .nil pass0 (wpA_pa hy) (he _) (hpl _) ht
theorem g_meth0 {Cl : Addr} {ns : List Str} (h : HasM P w K mg base CX0 j Cl m A) (ho : Ge X E ex ss a (dO Cl ns ds0)) (hA : A [dO Cl ns ds0] (fun d' => d' = d) (fun _ => False)) (hj : j ≤ k := by decide) (hn : ¬ m ∈ ns := by decide)
    (ht : ∀ env, ∃ pl : Sem Bool, eval (.Call (.Attribute a m apos) [] [] pos) env = (do
      let ov ← eval a env
      standAt apos.atName
      let (f, first) ← holding [ov] (getMethod ov m pl)
      callWith pos f first (backTo pos (starEach [] env)) (backToKw pos (keywordEach [] env))) := by intro _; exact ⟨_, rfl⟩) :
    Ge X E ex ss (.Call (.Attribute a m apos) [] [] pos) d := by
  obtain ⟨f, fd, ps, cl, hm, hb, F⟩ := h
  refine ge_pe (fun y hy => ?_) (gv_meth (E' := E0) ho hn (t := tNil) ga_nil0 hA fun _ _ => Errs.none)
  obtain ⟨pl, ht⟩ := ht y.env
  exact pe_meth0 (pl := pl) (wpE_pe hy) (by rw [C.frag y hy]; exact cl) (by rw [C.frag y hy]; exact hm) (C.fn hy F) ((C.room y hy).mono hj) (by rw [C.frag y hy]; exact hb) .nil pass0 ht
theorem g_make {Cl : Addr} {ns : List Str} {I : PrI} {fs : List D} (h : HasC P w K mg base j Cl x ns I) (ha : Gas X E ex ss (e :: es) ds) (hA : I ds (fun f => f = fs)) (hj : j + 1 ≤ k := by decide) (hg : kd x = some .globalImplicit := by rfl)
    (hdb : (x == ("__debug__" : Str)) = false := by decide) (he : ∀ env, starEach (e :: es) env = (false, eval e env) :: starEach es env := by intro _; rfl) (hpl : ∀ env, (backTo pos (starEach es env)).any (·.1) = false := by intro _; rfl) :
    Ge X E ex ss (.Call (.Name x p) (e :: es) [] pos) (dO Cl ns fs) := by
  obtain ⟨f, fd, ps, hm, mk, hb, F⟩ := h
  refine ge_pe (fun y hy => ?_) (gv_make ha hA)
  exact pe_make (by rw [C.frag y hy]; exact mk) (C.fn hy F) ((C.room y hy).mono hj) (C.gl hy hg) (by rw [C.names y hy]; exact hm) (by rw [C.frag y hy]; exact hb) .nil pass0 (wpA_pa hy) hdb (he _) (hpl _)
end
end Tr
namespace Tr
open PySem PySem.Spec PyProof.Rows L2

/-! ### targets -/
def wpG (X : CS) (tg : Expr) : TG := fun v σ H Q => ∀ x, X x → ∀ (pins : List (Addr × Obj)) (s : Shared) (u : Value), Inv x pins σ H s → RelV v u → wpAny (model x.prog x.w) x.A (assign tg x.env u) (fun _ s' => ∃ σ' H', Inv x pins σ' H' s' ∧ Q σ' H') x.xe s
theorem wpG_pg {X : CS} {x : Cx} {tg : Expr} (hx : X x) : PG x tg (wpG X tg) := ⟨fun pins s _ _ _ u _ I r h => h x hx pins s u I r⟩
theorem wpG_of {X : CS} {tg : Expr} {t : TG} {v : V} {σ : Sg} {H : Hp} {Q : Sg → Hp → Prop} (h : ∀ x, X x → PG x tg t) (q : t v σ H Q) : wpG X tg v σ H Q := fun x hx pins s u I r => (h x hx).run pins s σ H v u Q I r q
def wpGs (X : CS) (ts : List Expr) : TGs := fun vs σ H Q => ∀ x, X x → ∀ (pins : List (Addr × Obj)) (s : Shared) (us : List Value), Inv x pins σ H s → Vals vs us → wpAny (model x.prog x.w) x.A (assignInOrder ((assignEach ts x.env).map (·.2)) us) (fun _ s' => ∃ σ' H', Inv x pins σ' H' s' ∧ Q σ' H') x.xe s
theorem wpGs_pgs {X : CS} {x : Cx} {ts : List Expr} (hx : X x) : PGs x ts (wpGs X ts) := ⟨fun pins s _ _ _ us _ I r h => h x hx pins s us I r⟩
theorem wpGs_of {X : CS} {ts : List Expr} {t : TGs} {vs : List V} {σ : Sg} {H : Hp} {Q : Sg → Hp → Prop} (h : ∀ x, X x → PGs x ts t) (q : t vs σ H Q) : wpGs X ts vs σ H Q := fun x hx pins s us I r => (h x hx).run pins s σ H vs us Q I r q
/-- slots that a store leaves -/
def Off (is : List Nat) (σ σ' : Sg) : Prop := σ'.length = σ.length ∧ ∀ j, ¬ j ∈ is → σ'[j]? = σ[j]?
theorem Off.refl (is : List Nat) (σ : Sg) : Off is σ σ := ⟨rfl, fun _ _ => rfl⟩
theorem Off.set {is : List Nat} {σ : Sg} {i : Nat} {x : Option V} (h : i ∈ is) : Off is σ (σ.set i x) := ⟨List.length_set .., fun j hj => List.getElem?_set_ne fun e => hj (by rw [← e]; exact h)⟩
theorem Off.trans {is : List Nat} {a b c : Sg} (x : Off is a b) (y : Off is b c) : Off is a c := ⟨y.1.trans x.1, fun j hj => (y.2 j hj).trans (x.2 j hj)⟩
theorem Off.mono {is js : List Nat} {a b : Sg} (x : Off is a b) (h : ∀ i ∈ is, i ∈ js) : Off js a b := ⟨x.1, fun j hj => x.2 j fun z => hj (h j z)⟩
/-- a target handed a datum: the slots behind it -/
def Gg (X : CS) (tg : Expr) (d : D) (is : List Nat) (ss ss' : List (Option D)) : Prop := ∀ (S : List Addr) (H : Hp) (σ : Sg) (v : V), Ok S H σ ss → d.p (wd S H) v → ∀ Q : Sg → Hp → Prop, (∀ σ' H', Same H H' → Off is σ σ' → Ok S H' σ' ss' → Q σ' H') → wpG X tg v σ H Q
def Ggs (X : CS) (ts : List Expr) (ds : List D) (is : List Nat) (ss ss' : List (Option D)) : Prop := ∀ (S : List Addr) (H : Hp) (σ : Sg) (vs : List V), Ok S H σ ss → Reps (wd S H) vs ds → ∀ Q : Sg → Hp → Prop, (∀ σ' H', Same H H' → Off is σ σ' → Ok S H' σ' ss' → Q σ' H') → wpGs X ts vs σ H Q
section
variable {X : CS} {P : Program} {w : World} {K : PySem.W.Frag} {mg : Str → Option Value} {base : Heap} {N : List Str} {kd : Str → Option NameKind} {k : Nat} {E : XK} {ex : Er → Prop} {ss ss1 ss2 : List (Option D)} {d : D} {ds : List D} {pos : Pos} {is : List Nat}
abbrev Own1 (kd : Str → Option NameKind) (y : Str) : Prop := kd y = some .local ∨ kd y = some .cell
theorem Ctx.lo (C : Ctx X P w K mg base N kd k E) {x : Cx} (hx : X x) {y : Str} (h : Own1 kd y) : L2.Loc x.env.scope y := by
  rcases h with h | h
  · exact .inl (C.loc x hx y h)
  · exact .inr (C.cel x hx y h).1
theorem Ctx.fnl (C : Ctx X P w K mg base N kd k E) {x : Cx} (hx : X x) {y : Str} (h : Own1 kd y) : x.fn y = true ∨ x.env.scope.names.lookup y = some .local := by
  rcases h with h | h
  · exact .inr (C.loc x hx y h)
  · exact .inl (C.cel x hx y h).2
theorem gg_name (C : Ctx X P w K mg base N kd k E) (i : Nat) {y : Str} (hN : N[i]? = some y := by rfl) (hl : Own1 kd y := by first | exact Or.inl rfl | exact Or.inr rfl) (hi : i ∈ is := by decide) : Gg X (.Name y pos) d is ss (ss.set i (some d)) := fun S H σ v ok pv Q q =>
  wpG_of (fun x hx => pg_name (i := i) (by rw [C.slots x hx]; exact C.nd) (by rw [C.slots x hx]; exact hN) (C.lo hx hl) (C.fnl hx hl)) (q _ H (Same.refl H) (Off.set hi) ⟨ok.hid, ok.sl.set pv⟩)
theorem ggs_nil : Ggs X [] [] is ss ss := fun S H σ vs ok r Q q => by
  obtain rfl : vs = [] := by
    cases vs with
    | nil => rfl
    | cons _ _ => exact r.elim
  exact wpGs_of (fun _ _ => pgs_nil) ⟨rfl, q σ H (Same.refl H) (Off.refl is σ) ok⟩
theorem ggs_cons {e : Expr} {es : List Expr} (h1 : Gg X e d is ss ss1) (h2 : Ggs X es ds is ss1 ss2) (hs : ∀ env, (assignEach (e :: es) env).map (·.2) = assign e env :: (assignEach es env).map (·.2) := by intro _; rfl) : Ggs X (e :: es) (d :: ds) is ss ss2 := fun S H σ vs ok r Q q => by
  cases vs with
  | nil => exact r.elim
  | cons v vs =>
    refine wpGs_of (fun x hx => pgs_cons (wpG_pg hx) (wpGs_pgs hx) (hs x.env)) ⟨v, vs, rfl, ?_⟩
    exact h1 S H σ v ok r.1 _ fun σ1 H1 e1 o1 ok1 => h2 S H1 σ1 vs ok1 (r.2.up (wd_mono e1)) Q fun σ2 H2 e2 o2 ok2 => q σ2 H2 (e1.trans e2) (o1.trans o2) ok2
theorem gg_tup (C : Ctx X P w K mg base N kd k E) {es : List Expr} {m : Nat} (h : Ggs X es ds is ss ss1) (hn : ∀ env, (assignEach es env).length = ds.length := by intro _; rfl) (hst : ∀ env, (assignEach es env).findIdx? (·.1) = none := by intro _; rfl) : Gg X (.Tuple es m pos) (dTs K ds) is ss ss1 := fun S H σ v ok pv Q q => by
  obtain ⟨p, vs, rfl, sq, r⟩ := pv
  refine wpG_of (t := gTup K ds.length (wpGs X es)) (fun x hx => by rw [← C.frag x hx]; exact pg_tup (n := ds.length) (C.calm x hx) (wpGs_pgs hx) (hn x.env) (hst x.env)) ?_
  exact ⟨p, vs, rfl, seqT (wd_same S H) sq, r.len, h S H σ vs ok r Q q⟩

theorem Gg.weak {tg : Expr} {d d' : D} (h : Gg X tg d is ss ss1) (i : ∀ W v, d'.p W v → d.p W v) : Gg X tg d' is ss ss1 := fun S H σ v ok pv Q q => h S H σ v ok (i _ _ pv) Q q
theorem gg_tupT (C : Ctx X P w K mg base N kd k E) {es : List Expr} {m : Nat} (h : Ggs X es ds is ss ss1) (hn : ∀ env, (assignEach es env).length = ds.length := by intro _; rfl) (hst : ∀ env, (assignEach es env).findIdx? (·.1) = none := by intro _; rfl) : Gg X (.Tuple es m pos) (dT ds) is ss ss1 := (gg_tup C h hn hst).weak fun _ _ => dT_s
/-! ### what is walked -/
def wpI (X : CS) (tg iter : Expr) : TI := fun σ H R => ∀ x, X x → ∀ (pins : List (Addr × Obj)) (s : Shared), Inv x pins σ H s → wpAny (model x.prog x.w) x.A (eval iter x.env) (fun v s1 => wpAny (model x.prog x.w) x.A (pyIter v) (PIE x pins σ tg R) x.xe s1) x.xe s
theorem wpI_pi {X : CS} {x : Cx} {tg iter : Expr} (hx : X x) : PI x tg iter (wpI X tg iter) := ⟨fun pins s _ _ _ I h => h x hx pins s I⟩
theorem wpI_of {X : CS} {tg iter : Expr} {t : TI} {σ : Sg} {H : Hp} {R : It → Hp → Prop} (h : ∀ x, X x → PI x tg iter t) (q : t σ H R) : wpI X tg iter σ H R := fun x hx pins s I => (h x hx).run pins s σ H R I q
/-- the ground on which a walk stands -/
def Gw (S : List Addr) (H1 : Hp) : Hp → Prop := fun Ha => Same (wd S H1) Ha
def Yw (S : List Addr) (H1 : Hp) (l : List D) : Nat → Hp → V → Hp → Prop := fun i Ha v Hb => Same Ha Hb ∧ ∃ d, l[i]? = some d ∧ ∀ S', Same (wd S H1) (wd S' Ha) → (∀ b ∈ S', Ha b ≠ none) → d.p (wd S' Hb) v
def Gi (X : CS) (E : XK) (ex : Er → Prop) (ss : List (Option D)) (tg iter : Expr) (l : List D) : Prop := ∀ (S : List Addr) (H : Hp) (σ : Sg), Ok S H σ ss → Errs E ex H → ∀ R : It → Hp → Prop,
  (∀ J H1, Same H H1 → Walk J l.length (Gw S H1) (Yw S H1 l) → R J H1) → wpI X tg iter σ H R
theorem gi_listS (C : Ctx X P w K mg base N kd k E) {tg iter : Expr} (h : Ge X E ex ss iter (dLs K ds)) : Gi X E ex ss tg iter ds := fun S H σ ok er R q => by
  refine wpI_of (t := iList K (wpE X iter)) (fun x hx => by rw [← C.frag x hx]; exact pi_list (wpE_pe hx)) ?_
  refine h S H σ ok er _ fun v H1 e1 pv => ?_
  obtain ⟨p, vs, rfl, sq, r⟩ := pv
  refine ⟨p, rfl, ⟨vs, (wd_same S H1).seq sq⟩, q _ H1 e1 ?_⟩
  rw [← r.len]
  exact walk_list.mono (fun Ha g => Same.seq g sq) fun i Ha x Hb hi g y => by
    obtain ⟨rfl, hx⟩ := y
    obtain ⟨d, hd, pd⟩ := r.get hx
    exact ⟨Same.refl _, d, hd, fun S' sm _ => d.up sm pd⟩
theorem gi_tupS (C : Ctx X P w K mg base N kd k E) {tg iter : Expr} (h : Ge X E ex ss iter (dTs K ds)) : Gi X E ex ss tg iter ds := fun S H σ ok er R q => by
  refine wpI_of (t := iTup K (wpE X iter)) (fun x hx => by rw [← C.frag x hx]; exact pi_tup (wpE_pe hx)) ?_
  refine h S H σ ok er _ fun v H1 e1 pv => ?_
  obtain ⟨p, vs, rfl, sq, r⟩ := pv
  refine ⟨p, rfl, ⟨vs, seqT (wd_same S H1) sq⟩, q _ H1 e1 ?_⟩
  rw [← r.len]
  exact walk_tup.mono (fun Ha g => seqT g sq) fun i Ha x Hb hi g y => by
    obtain ⟨rfl, hx⟩ := y
    obtain ⟨d, hd, pd⟩ := r.get hx
    exact ⟨Same.refl _, d, hd, fun S' sm _ => d.up sm pd⟩
theorem gi_list (C : Ctx X P w K mg base N kd k E) {tg iter : Expr} (h : Ge X E ex ss iter (dL ds)) : Gi X E ex ss tg iter ds := gi_listS C (g_ofL h)
/-- lo, lo + 1, .. -/
def rngD (lo : Int) (n : Nat) : List D := (List.range n).map fun (i : Nat) => dI (lo + (i : Int))
theorem rngD_len (lo : Int) (n : Nat) : (rngD lo n).length = n := by unfold rngD; rw [List.length_map, List.length_range]
theorem rngD_get {lo : Int} {n i : Nat} (h : i < n) : (rngD lo n)[i]? = some (dI (lo + (i : Int))) := by
  unfold rngD
  rw [List.getElem?_map, List.getElem?_range h]
  rfl
theorem gi_range1 (C : Ctx X P w K mg base N kd k E) {tg a : Expr} {p pos : Pos} {n : Nat} (hm : mg "range" = none) (h : Ge X E ex ss a (dI (n : Int))) (hz : n < 2 ^ 62) (hg : kd "range" = some .globalImplicit := by rfl) (hs : ∀ env, starEach [a] env = [(false, eval a env)] := by intro _; rfl) :
    Gi X E ex ss tg (.Call (.Name "range" p) [a] [] pos) (rngD 0 n) := fun S H σ ok er R q => by
  refine wpI_of (t := iRng1 (tCons (wpE X a) tNil)) (fun x hx => pi_range1 (C.gl hx hg) (by rw [C.names x hx]; exact hm) (pa_cons (wpE_pe hx) pa_nil (hs x.env)) (hs x.env)) ?_
  refine h S H σ ok er _ fun v H1 e1 pv => ?_
  have pv : v = .int n := pv
  subst pv
  refine ⟨n, rfl, by omega, by omega, q _ H1 e1 ?_⟩
  rw [rngD_len]
  exact (walk_range (lo := 0) (n := (n : Int).toNat)).mono (fun _ _ => trivial) fun i Ha x Hb hi _ y => by
    obtain ⟨rfl, rfl⟩ := y
    exact ⟨Same.refl _, _, rngD_get (by simpa using hi), fun _ _ _ => rfl⟩
theorem gi_range2 (C : Ctx X P w K mg base N kd k E) {tg a b : Expr} {p pos : Pos} {lo hi : Int} (hm : mg "range" = none) (h : Ge X E ex ss a (dI lo)) (h2 : Ge X E ex ss b (dI hi)) (hz : -(2 ^ 62) ≤ lo ∧ lo < 2 ^ 62 ∧ -(2 ^ 62) ≤ hi ∧ hi < 2 ^ 62) (hg : kd "range" = some .globalImplicit := by rfl)
    (hs : ∀ env, starEach [a, b] env = [(false, eval a env), (false, eval b env)] := by intro _; rfl) (hs2 : ∀ env, starEach [b] env = [(false, eval b env)] := by intro _; rfl) :
    Gi X E ex ss tg (.Call (.Name "range" p) [a, b] [] pos) (rngD lo (hi - lo).toNat) := fun S H σ ok er R q => by
  refine wpI_of (t := iRng2 (tCons (wpE X a) (tCons (wpE X b) tNil))) (fun x hx => pi_range2 (C.gl hx hg) (by rw [C.names x hx]; exact hm) (pa_cons (wpE_pe hx) (pa_cons (wpE_pe hx) pa_nil (hs2 x.env)) (by rw [hs, hs2])) (hs x.env) (hs2 x.env)) ?_
  refine h S H σ ok er _ fun v H1 e1 pv => h2 S H1 σ (ok.up e1) (er.up e1) _ fun u H2 e2 pu => ?_
  have pv : v = .int lo := pv
  have pu : u = .int hi := pu
  subst pv pu
  refine ⟨lo, hi, rfl, hz, q _ H2 (e1.trans e2) ?_⟩
  rw [rngD_len]
  exact walk_range.mono (fun _ _ => trivial) fun i Ha x Hb hi' _ y => by
    obtain ⟨rfl, rfl⟩ := y
    exact ⟨Same.refl _, _, rngD_get hi', fun _ _ _ => rfl⟩
/-- pairs of a place and a datum -/
def enumD : Nat → List D → List D
  | _, [] => []
  | n, d :: r => dT [dI (n : Int), d] :: enumD (n + 1) r
theorem enumD_len : ∀ (n : Nat) (l : List D), (enumD n l).length = l.length
  | _, [] => rfl
  | n, _ :: r => by
    show (enumD (n + 1) r).length + 1 = r.length + 1
    rw [enumD_len (n + 1) r]
theorem enumD_get : ∀ (n : Nat) (l : List D) (i : Nat) (d : D), l[i]? = some d → (enumD n l)[i]? = some (dT [dI ((n + i : Nat) : Int), d])
  | _, [], i, d, h => by simp at h
  | n, a :: r, 0, d, h => by
    have h : a = d := by simpa using h
    subst h
    rfl
  | n, a :: r, i + 1, d, h => by
    have q := enumD_get (n + 1) r i d (by simpa using h)
    show (enumD (n + 1) r)[i]? = _
    rw [q, show n + 1 + i = n + (i + 1) by omega]
theorem pair_new {S : List Addr} {Ha : Hp} {T : Addr} {x y : V} {d1 d2 : D} (hid : ∀ b ∈ S, Ha b ≠ none) (hT : Ha T = none) (h1 : d1.p (wd S Ha) x) (h2 : d2.p (wd S Ha) y) : (dT [d1, d2]).p (wd S (upd Ha T (.tup [x, y]))) (.ref T) := new_T hid hT ⟨h1, h2, trivial⟩
theorem gi_enum (C : Ctx X P w K mg base N kd k E) {elts : List Expr} {kk : Nat} {tpos : Pos} {a : Expr} {p pos : Pos} (hm : mg "enumerate" = none) (h : Ge X E ex ss a (dL ds)) (hg : kd "enumerate" = some .globalImplicit := by rfl) (hs : ∀ env, starEach [a] env = [(false, eval a env)] := by intro _; rfl) :
    Gi X E ex ss (.Tuple elts kk tpos) (.Call (.Name "enumerate" p) [a] [] pos) (enumD 0 ds) := fun S H σ ok er R q => by
  refine wpI_of (t := iEnum K (tCons (wpE X a) tNil)) (fun x hx => by rw [← C.frag x hx]; exact pi_enum (C.gl hx hg) (by rw [C.names x hx]; exact hm) (pa_cons (wpE_pe hx) pa_nil (hs x.env)) (hs x.env)) ?_
  refine h S H σ ok er _ fun v H1 e1 pv => ?_
  obtain ⟨a, vs, rfl, sq, r⟩ := pv
  replace sq : SqL K (wd S H1) a vs := SqL.of sq
  refine ⟨a, vs, rfl, (wd_same S H1).seq sq, q _ H1 e1 ?_⟩
  rw [enumD_len, ← r.len]
  exact walk_enum.mono (fun Ha g => Same.seq g sq) fun i Ha x Hb hi g y => by
    obtain ⟨T, x1, x2, rfl, hT, rfl, h1, h2⟩ := y
    obtain ⟨d, hd, pd⟩ := r.get h2
    have e : x1 = .int (i : Nat) := (Option.some.inj h1).symm
    subst e
    refine ⟨Same.new hT, _, enumD_get 0 ds i d hd, fun S' sm hid => ?_⟩
    rw [Nat.zero_add]
    exact pair_new hid hT rfl (d.up sm pd)
/-- hi - 1, .., lo -/
def revD (lo : Int) (n : Nat) : List D := (List.range n).map fun (i : Nat) => dI (lo + (n : Int) - 1 - (i : Int))
theorem gi_str {tg iter : Expr} {z : Str} (h : Ge X E ex ss iter (dS z)) : Gi X E ex ss tg iter (z.cps.toList.map fun c => dS ⟨#[c]⟩) := fun S H σ ok er R q => by
  refine wpI_of (fun x hx => pi_str (wpE_pe hx)) ?_
  refine h S H σ ok er _ fun v H1 e1 pv => ⟨z, pv, q _ H1 e1 ?_⟩
  rw [List.length_map, Array.length_toList]
  exact walk_str.mono (fun _ _ => trivial) fun i Ha x Hb hi _ y => by
    obtain ⟨rfl, c, hc, rfl⟩ := y
    refine ⟨Same.refl _, dS ⟨#[c]⟩, ?_, fun _ _ _ => rfl⟩
    rw [List.getElem?_map, Array.getElem?_toList, hc]
    rfl
end

/-! ### comprehensions -/
abbrev kdB (scope : Scope) : Str → Option NameKind := fun y => scope.names.lookup y
def Blk (X : CS) (scope : Scope) : CS := fun y => ∃ x, X x ∧ ∃ s H C cl fp, y = x.blk s H scope (compEnvC scope cl C x.env) fp
theorem look_free {sc : Scope} : ∀ {names : List (Str × NameKind)} {x : Str}, names.lookup x = some .free →
    (names.map fun (n, k) => if (k == NameKind.free && sc.kind == .function && sc.names.lookup n == some .cell) then (n, NameKind.cell) else (n, k)).lookup x = some .free ∨
    (names.map fun (n, k) => if (k == NameKind.free && sc.kind == .function && sc.names.lookup n == some .cell) then (n, NameKind.cell) else (n, k)).lookup x = some .cell
  | [], _, h => by simp at h
  | (n, k0) :: r, x, h => by
    have ih := @look_free sc r x
    rw [List.map_cons]
    cases hx : x == n with
    | true =>
      simp only [List.lookup_cons, hx] at h
      cases h
      dsimp only
      split
      · right
        simp only [List.lookup_cons, hx]
      · left
        simp only [List.lookup_cons, hx]
    | false =>
      simp only [List.lookup_cons, hx] at h
      have ih := ih h
      dsimp only
      split <;> simp only [List.lookup_cons, hx] <;> exact ih
theorem wipe_at : ∀ {vs : List Nat} {σ : Sg} {j : Nat}, j ∈ vs → j < σ.length → (L2.wipe σ vs)[j]? = some none
  | [], _, _, h, _ => by simp at h
  | v :: vs, σ, j, h, hl => by
    show ((L2.wipe σ vs).set v none)[j]? = _
    by_cases e : v = j
    · subst e
      exact List.getElem?_set_self (by rw [wipe_length]; exact hl)
    · rw [List.getElem?_set_ne e]
      exact wipe_at ((List.mem_cons.mp h).resolve_left fun z => e z.symm) hl
theorem wipe_off {vs : List Nat} {σ σ' : Sg} (h : Off vs σ σ') : L2.wipe σ' vs = L2.wipe σ vs := by
  refine List.ext_getElem? fun j => ?_
  by_cases hj : j ∈ vs
  · by_cases hl : j < σ.length
    · rw [wipe_at hj hl, wipe_at hj (by rw [h.1]; exact hl)]
    · rw [List.getElem?_eq_none (by rw [wipe_length, h.1]; omega), List.getElem?_eq_none (by rw [wipe_length]; omega)]
  · rw [wipe_out hj, wipe_out hj, h.2 j hj]
theorem wipe_wipe {vs : List Nat} {σ : Sg} : L2.wipe (L2.wipe σ vs) vs = L2.wipe σ vs := wipe_off ⟨wipe_length .., fun j hj => wipe_out hj⟩
def blkD (N : List Str) (kd : Str → Option NameKind) (scope : Scope) (own : List (Str × Nat)) : Bool :=
  (match scope.kind with | .function => true | _ => false) && (scope.names.all fun y => decide (scope.names.lookup y.1 = some y.2)) && (own.all fun p => decide (N[p.2]? = some p.1)) &&
    (scope.names.all fun y => match y.2 with
      | .free => decide (kd y.1 = some .cell)
      | .local => decide (y.1 ∈ own.map (·.1)) || decide (y.1 ∉ N)
      | .cell => decide (y.1 ∈ own.map (·.1)) || decide (y.1 ∉ N)
      | _ => true)
section
variable {X : CS} {P : Program} {w : World} {K : PySem.W.Frag} {mg : Str → Option Value} {base : Heap} {N : List Str} {kd : Str → Option NameKind} {k : Nat} {E : XK} {ex : Er → Prop} {ss : List (Option D)} {d : D} {pos : Pos}
theorem blkD_ok (C : Ctx X P w K mg base N kd k E) {scope : Scope} {own : List (Str × Nat)} (h : blkD N kd scope own = true) {x : Cx} (hx : X x) : BlkOk x.N x.env.scope scope own := by
  rw [C.slots x hx]
  unfold blkD at h
  simp only [Bool.and_eq_true, List.all_eq_true, decide_eq_true_eq] at h
  obtain ⟨⟨⟨h1, h2⟩, h3⟩, h4⟩ := h
  refine ⟨?_, h2, h3, fun y hy e => ?_, fun y hy e => ?_⟩
  · split at h1
    · assumption
    · cases h1
  · have q := h4 y hy
    simp only [e, decide_eq_true_eq] at q
    exact .inl (C.cel x hx _ q).1
  · have q := h4 y hy
    rcases e with e | e <;> (simp only [e, Bool.or_eq_true, decide_eq_true_eq] at q; exact q)
theorem Ctx.blk (C : Ctx X P w K mg base N kd k E) (scope : Scope) (hk : scope.kind = .function) : Ctx (Blk X scope) P w K mg base N (kdB scope) k E0 := by
  have key : ∀ (x : Cx) (cl : List (Str × Addr)) (A : Addr), (compEnvC scope cl A x.env).scope = relS scope x.env.scope := fun _ _ _ => rfl
  constructor
  · rintro y ⟨x, hx, s, H, A, cl, fp, rfl⟩; exact C.prog x hx
  · rintro y ⟨x, hx, s, H, A, cl, fp, rfl⟩; exact C.world x hx
  · rintro y ⟨x, hx, s, H, A, cl, fp, rfl⟩; exact C.frag x hx
  · rintro y ⟨x, hx, s, H, A, cl, fp, rfl⟩; exact C.names x hx
  · rintro y ⟨x, hx, s, H, A, cl, fp, rfl⟩; exact C.base x hx
  · rintro y ⟨x, hx, s, H, A, cl, fp, rfl⟩; exact C.calm x hx
  · rintro y ⟨x, hx, s, H, A, cl, fp, rfl⟩; exact C.slots x hx
  · rintro y ⟨x, hx, s, H, A, cl, fp, rfl⟩; exact C.room x hx
  · rintro y ⟨x, hx, s, H, A, cl, fp, rfl⟩; exact hk
  · rintro y ⟨x, hx, s, H, A, cl, fp, rfl⟩ n hn
    show _ ∨ _ ∨ _
    rcases hn with h | h | h
    · exact .inl (lookup_relS_keep (by decide) h)
    · exact .inr (.inl (lookup_relS_keep (by decide) h))
    · rcases look_free (sc := x.env.scope) h with q | q
      · exact .inr (.inr q)
      · exact .inr (.inl q)
  · rintro y ⟨x, hx, s, H, A, cl, fp, rfl⟩ n h; exact lookup_relS_keep (by decide) h
  · rintro y ⟨x, hx, s, H, A, cl, fp, rfl⟩ n h; exact lookup_relS_keep (by decide) h
  · rintro y ⟨x, hx, s, H, A, cl, fp, rfl⟩ n h
    refine ⟨lookup_relS_keep (by decide) h, ?_⟩
    show (scope.names.lookup n == some .cell) = true
    have h : scope.names.lookup n = some .cell := h
    rw [h]
    rfl
  · exact C.nd
  · rintro y ⟨x, hx, s, H, A, cl, fp, rfl⟩; exact takes0
  · rintro y ⟨x, hx, s, H, A, cl, fp, rfl⟩; exact PassesOwn.never
def wpTs (X : CS) (ifs : List Expr) : TT := fun σ H Q => ∀ x, X x → ∀ (pins : List (Addr × Obj)) (s : Shared), Inv x pins σ H s → wpAny (model x.prog x.w) x.A (forIn ifs true fun c r => if r = true then do let ok ← isTrue c x.env (eval c x.env); pure (ForInStep.yield ok) else pure (ForInStep.yield r)) (TP x pins σ Q) x.xe s
theorem wpTs_pts {X : CS} {x : Cx} {ifs : List Expr} (hx : X x) : PTs x ifs (wpTs X ifs) := ⟨fun pins s _ _ _ I h => h x hx pins s I⟩
theorem wpTs_of {X : CS} {ifs : List Expr} {t : TT} {σ : Sg} {H : Hp} {Q : Bool → Hp → Prop} (h : ∀ x, X x → PTs x ifs t) (q : t σ H Q) : wpTs X ifs σ H Q := fun x hx pins s I => (h x hx).run pins s σ H Q I q
abbrev Gts (X : CS) (ss : List (Option D)) (ifs : List Expr) (b : Bool) : Prop := Gb E0 (fun _ => False) (wpTs X ifs) ss b
theorem ts_nil : Gts X ss [] true := fun S H σ ok er Q q => wpTs_of (fun _ _ => pts_nil) (q H (Same.refl H))
theorem ts_one {c : Expr} {b : Bool} (h : Gt X E0 (fun _ => False) ss c b) : Gts X ss [c] b := fun S H σ ok er Q q => wpTs_of (fun x hx => pts_one (wpT_pt hx)) (h S H σ ok er Q q)
theorem take_succ_of {α : Type} {l : List α} {i : Nat} {a : α} (h : l[i]? = some a) : l.take (i + 1) = l.take i ++ [a] := by
  obtain ⟨hi, e⟩ := List.getElem?_eq_some_iff.mp h
  rw [List.take_add_one, h]
  rfl
/-- [elt for tg in iter if ..] over data told one by one -/
theorem gv_lc {α : Type} {elt tg iter : Expr} {ifs : List Expr} {scope : Scope} {own : List (Str × Nat)} {l : List α} {enc : α → D} {f : α → List (Option D)} {t : α → Bool} {g : α → D} {is : List Nat}
    (hi : Gi X E ex ss tg iter (l.map enc)) (hz : l.length ≤ sizeLine) (hw : ∀ i ∈ is, i ∈ own.map (·.2))
    (hg : ∀ a ∈ l, Gg (Blk X scope) tg (enc a) is (wipeD ss (own.map (·.2))) (f a))
    (ht : ∀ a ∈ l, Gts (Blk X scope) (f a) ifs (t a))
    (he : ∀ a ∈ l, t a = true → Ge (Blk X scope) E0 (fun _ => False) (f a) elt (g a)) :
    Gv E ex (tLc (wpI X tg iter) (wpG (Blk X scope) tg) (wpTs (Blk X scope) ifs) (wpE (Blk X scope) elt) (own.map (·.2))) ss (dL ((l.filter t).map g)) := fun S H σ ok er Q q => by
  refine hi S H σ ok er _ fun J H1 e1 wk => ?_
  intro Dl hD
  have ok1 := ok.up e1
  have hDS : ¬ Dl ∈ S := ok1.fresh hD
  -- what holds at the turn
  refine lc_it (n := l.length) (G := Gw S H1) (by rw [List.length_map] at wk; exact wk) (fun i H' => Same H1 (fun b => if b = Dl then none else H' b) ∧ Same H1 H' ∧ ∃ acc, H' Dl = some (.lst acc) ∧ Reps (wd (Dl :: S) H') acc (((l.take i).filter t).map g)) ?_ ?_ ?_ ?_
  · refine ⟨fun b o eb => ?_, Same.new hD, [], upd_same, trivial⟩
    show (if b = Dl then none else upd H1 Dl _ b) = some o
    rw [if_neg (ne_of_none eb hD), upd_ne (ne_of_none eb hD)]
    exact eb
  · rintro i H' _ ⟨_, s1, _⟩
    exact (wd_same S H1).trans s1
  · rintro i v H' H2 hil ⟨sD, s1, acc, hacc, racc⟩ ⟨s2, d0, hd0, pd⟩
    rw [List.getElem?_map] at hd0
    cases ha : l[i]? with
    | none => rw [ha] at hd0; cases hd0
    | some a =>
      rw [ha] at hd0
      obtain rfl : enc a = d0 := Option.some.inj hd0
      have hm : a ∈ l := List.mem_of_getElem? ha
      have hidA : ∀ {Hx : Hp}, Same H1 Hx → Hx Dl ≠ none → ∀ b ∈ Dl :: S, Hx b ≠ none := fun {Hx} sx hx b hb => by
        rcases List.mem_cons.mp hb with e | hb
        · rw [e]; exact hx
        · exact (ok1.up sx).hid b hb
      have wA : ∀ {Hx : Hp}, Same H1 Hx → Same (wd S H1) (wd (Dl :: S) Hx) := fun {Hx} sx b o eb => by
        have hbS : ¬ b ∈ S := fun z => by rw [wd_in z] at eb; cases eb
        rw [wd_out hbS] at eb
        rw [wd_out fun z => (List.mem_cons.mp z).elim (ne_of_none eb hD) hbS]
        exact sx b o eb
      have sm := s1.trans s2
      have hD2 : H2 Dl = some (.lst acc) := s2 Dl _ hacc
      have pv := pd (Dl :: S) (wA s1) (hidA s1 (by rw [hacc]; exact fun z => by cases z))
      have ok2 : Ok (Dl :: S) H2 (L2.wipe σ (own.map (·.2))) (wipeD ss (own.map (·.2))) := ⟨hidA sm (by rw [hD2]; exact fun z => by cases z), (ok1.sl.up (wA sm)).wipe _⟩
      refine hg a hm (Dl :: S) H2 _ v ok2 pv _ fun σ3 H3 s3 o3 ok3 => ⟨?_, ?_⟩
      · rw [wipe_off (o3.mono hw), wipe_wipe]
      · refine ht a hm (Dl :: S) H3 σ3 ok3 Errs.none _ fun H4 s4 => ?_
        have ok4 := ok3.up s4
        have s34 := s3.trans s4
        have hD4 : H4 Dl = some (.lst acc) := s34 Dl _ hD2
        have racc4 : Reps (wd (Dl :: S) H4) acc (((l.take i).filter t).map g) := racc.up (wd_mono (s2.trans s34))
        cases htt : t a with
        | false =>
          rw [if_neg Bool.false_ne_true]
          refine ⟨fun b o eb => ?_, sm.trans s34, acc, hD4, ?_⟩
          · show (if b = Dl then none else H4 b) = some o
            rw [if_neg (ne_of_none eb hD)]
            exact s34 b o (s2 b o (s1 b o eb))
          · rw [take_succ_of ha, List.filter_append, List.filter_cons, if_neg (by rw [htt]; exact Bool.false_ne_true)]
            simpa using racc4
        | true =>
          rw [if_pos rfl]
          refine he a hm htt (Dl :: S) H4 σ3 ok4 Errs.none _ fun y H5 s5 py => ?_
          have hD5 : H5 Dl = some (.lst acc) := s5 Dl _ hD4
          have s15 := sm.trans (s34.trans s5)
          refine ⟨acc, hD5, ?_, fun b o eb => ?_, Same.mut s15 hD, acc ++ [y], upd_same, ?_⟩
          · have h1 : acc.length = (((l.take i).filter t).map g).length := racc.len
            rw [List.length_map] at h1
            have h2 := List.length_filter_le t (l.take i)
            rw [List.length_take] at h2
            omega
          · show (if b = Dl then none else upd H5 Dl _ b) = some o
            rw [if_neg (ne_of_none eb hD), upd_ne (ne_of_none eb hD)]
            exact s15 b o eb
          · rw [take_succ_of ha, List.filter_append, List.filter_cons, if_pos htt, List.map_append, wd_upd List.mem_cons_self]
            exact (racc4.up (wd_mono s5)).snoc py
  · rintro H' ⟨_, s1, acc, hacc, racc⟩
    rw [List.take_length] at racc
    refine q _ H' (e1.trans s1) ⟨Dl, acc, rfl, ?_, racc.up (wd_less fun b hb => List.mem_cons_of_mem _ hb)⟩
    rw [wd_out hDS]
    exact hacc
theorem blkD_fn {scope : Scope} {own : List (Str × Nat)} (hb : blkD N kd scope own = true) : scope.kind = .function := by
  unfold blkD at hb
  simp only [Bool.and_eq_true] at hb
  have h1 := hb.1.1.1
  split at h1
  · assumption
  · cases h1
theorem g_lc {α : Type} (C : Ctx X P w K mg base N kd k E) {elt tg iter : Expr} {ifs : List Expr} {scope : Scope} (own : List (Str × Nat)) {l : List α} {enc : α → D} {f : α → List (Option D)} {t : α → Bool} {g : α → D} {is : List Nat}
    (hi : Gi X E ex ss tg iter (l.map enc)) (hb : blkD N kd scope own = true) (hz : l.length ≤ sizeLine) (hw : ∀ i ∈ is, i ∈ own.map (·.2))
    (hg : ∀ a ∈ l, Gg (Blk X scope) tg (enc a) is (wipeD ss (own.map (·.2))) (f a))
    (ht : ∀ a ∈ l, Gts (Blk X scope) (f a) ifs (t a))
    (he : ∀ a ∈ l, t a = true → Ge (Blk X scope) E0 (fun _ => False) (f a) elt (g a))
    (hs : ∀ env x, foldedSetIterable iter env x = pure x := by intro _ _; rfl) : Ge X E ex ss (.ListComp elt [⟨tg, iter, ifs, 0⟩] scope pos) (dL ((l.filter t).map g)) :=
  ge_pe (t := tLc (wpI X tg iter) (wpG (Blk X scope) tg) (wpTs (Blk X scope) ifs) (wpE (Blk X scope) elt) (own.map (·.2))) (fun x hx => pe_lc (C.calm x hx) (by rw [C.slots x hx]; exact C.nd) (wpI_pi hx) (blkD_ok C hb hx)
    (fun s H A cl fp => wpG_pg ⟨x, hx, s, H, A, cl, fp, rfl⟩) (fun s H A cl fp => wpTs_pts ⟨x, hx, s, H, A, cl, fp, rfl⟩) (fun s H A cl fp => wpE_pe ⟨x, hx, s, H, A, cl, fp, rfl⟩) (hs x.env)) (gv_lc hi hz hw hg ht he)
end
end Tr
namespace Tr
open PySem PySem.Spec PyProof.Rows L2

/-! ### what a body owns -/
structure OD where
  p : Hp → HO → Prop
  up : ∀ {W W' : Hp} {h : HO}, Same W W' → p W h → p W' h
def oL (ds : List D) : OD := ⟨fun W h => ∃ vs, h = .lst vs ∧ Reps W vs ds, fun e ⟨vs, h1, h2⟩ => ⟨vs, h1, h2.up e⟩⟩
def oM (kvs : List (Key × D)) : OD := ⟨fun W h => ∃ vs, h = .dK ((kvs.map Prod.fst).zip vs) ∧ Reps W vs (kvs.map Prod.snd), fun e ⟨vs, h1, h2⟩ => ⟨vs, h1, h2.up e⟩⟩
def oI (Cl : Addr) (ns : List Str) (ds : List D) : OD := ⟨fun W h => ∃ dx vs, h = .ins Cl dx (ns.zip vs) ∧ Reps W vs ds, fun e ⟨dx, vs, h1, h2⟩ => ⟨dx, vs, h1, h2.up e⟩⟩
abbrev Ow := List (Nat × OD)
def Owns (W H : Hp) (σ : Sg) : List Addr → Ow → Prop
  | [], [] => True
  | a :: q, (i, od) :: o => σ[i]? = some (some (.ref a)) ∧ (∃ h, H a = some h ∧ od.p W h) ∧ Owns W H σ q o
  | _, _ => False
theorem Owns.up {W W' H H' : Hp} {σ σ' : Sg} (eW : Same W W') (eH : ∀ a o, H a = some o → H' a = some o) : ∀ {q : List Addr} {o : Ow}, (∀ p ∈ o, σ'[p.1]? = σ[p.1]?) → Owns W H σ q o → Owns W' H' σ' q o
  | [], [], _, _ => trivial
  | a :: q, (i, od) :: o, hs, h => by
    obtain ⟨h1, ⟨u, h2, h3⟩, h4⟩ := h
    refine ⟨?_, ⟨u, eH a u h2, od.up eW h3⟩, Owns.up eW eH (fun p hp => hs p (List.mem_cons_of_mem _ hp)) h4⟩
    have e := hs (i, od) List.mem_cons_self
    exact e.trans h1
  | [], _ :: _, _, h => h.elim
  | _ :: _, [], _, h => h.elim
theorem Owns.has {W H : Hp} {σ : Sg} : ∀ {q : List Addr} {o : Ow}, Owns W H σ q o → ∀ a ∈ q, H a ≠ none
  | [], [], _, _, h => by simp at h
  | a :: q, (i, od) :: o, h, b, hb => by
    obtain ⟨h1, ⟨u, h2, h3⟩, h4⟩ := h
    rcases List.mem_cons.mp hb with e | hb
    · rw [e, h2]; exact fun z => by cases z
    · exact Owns.has h4 b hb
  | [], _ :: _, h, _, _ => h.elim
  | _ :: _, [], h, _, _ => h.elim
/-- B: what stood at the entry (without what is handed in to be changed); S: what others own; q: what the body owns, o: in which slots and what -/
structure Okf (B : Hp) (S q : List Addr) (H : Hp) (σ : Sg) (ss : List (Option D)) (o : Ow) : Prop where
  ex : Same B H
  hid : ∀ b ∈ S, B b ≠ none
  new : ∀ a ∈ q, B a = none
  sl : Sl (wd (q ++ S) H) σ ss
  own : Owns (wd (q ++ S) H) H σ q o
  nd : q.Nodup
section
variable {B B' : Hp} {S q : List Addr} {H H' : Hp} {σ σ' : Sg} {ss ss' : List (Option D)} {o : Ow}
theorem Okf.ok (k : Okf B S q H σ ss o) : Ok (q ++ S) H σ ss := by
  refine ⟨fun b hb z => ?_, k.sl⟩
  rcases List.mem_append.mp hb with h | h
  · exact k.own.has b h z
  · cases e : B b with
    | none => exact k.hid b h e
    | some u =>
      rw [k.ex b u e] at z
      cases z
theorem Okf.up (k : Okf B S q H σ ss o) (e : Same H H') : Okf B S q H' σ ss o :=
  ⟨k.ex.trans e, k.hid, k.new, k.sl.up (wd_mono e), k.own.up (wd_mono e) e fun _ _ => rfl, k.nd⟩
/-- the base made bigger: all but what is owned -/
theorem Okf.rebase (k : Okf B S q H σ ss o) : Same B (wd q H) ∧ Okf (wd q H) S q H σ ss o := by
  have e : Same B (wd q H) := fun b u eb => by
    rw [wd_out fun z => by rw [k.new b z] at eb; cases eb]
    exact k.ex b u eb
  refine ⟨e, wd_same q H, fun b hb z => ?_, fun a ha => wd_in ha, k.sl, k.own, k.nd⟩
  cases eB : B b with
  | none => exact k.hid b hb eB
  | some u => rw [e b u eB] at z; cases z
theorem Okf.back (k : Okf B' S q H σ ss o) (e : Same B B') (hid : ∀ b ∈ S, B b ≠ none) : Okf B S q H σ ss o := by
  refine ⟨e.trans k.ex, hid, fun a ha => ?_, k.sl, k.own, k.nd⟩
  cases z : B a with
  | none => rfl
  | some u =>
    have y := e a u z
    rw [k.new a ha] at y
    cases y
end
theorem Errs.at {E : XK} {ex : Er → Prop} {B H : Hp} (h : Errs E ex B) (e : Same B H) : Errs E ex H := h.up e

/-! ### statements -/
section
variable {X : CS} {P : Program} {w : World} {K : PySem.W.Frag} {mg : Str → Option Value} {base : Heap} {N : List Str} {kd : Str → Option NameKind} {k : Nat} {E : XK} {ex : Er → Prop} {ss ss' : List (Option D)} {d : D} {ds : List D} {pos : Pos} {is : List Nat}
  {B : Hp} {S q : List Addr} {H : Hp} {σ : Sg} {o : Ow} {Dn : Ends} {r : List Stmt} {e : Expr}
abbrev offO (o : Ow) (is : List Nat) : Bool := o.all fun p => !is.contains p.1
theorem off_of {o : Ow} {is : List Nat} (h : offO o is = true) {σ σ' : Sg} (f : Off is σ σ') : ∀ p ∈ o, σ'[p.1]? = σ[p.1]? := fun p hp => by
  have z := List.all_eq_true.mp h p hp
  refine f.2 p.1 fun m => ?_
  rw [List.contains_iff_mem.mpr m] at z
  cases z
theorem Okf.store {H' : Hp} {σ' : Sg} (ok : Okf B S q H σ ss o) (e1 : Same H H') (f : Off is σ σ') (h : Ok (q ++ S) H' σ' ss') (ho : offO o is = true) : Okf B S q H' σ' ss' o :=
  ⟨ok.ex.trans e1, ok.hid, ok.new, h.sl, ok.own.up (wd_mono e1) e1 (off_of ho f), ok.nd⟩
/-- target = e -/
theorem st_asg {tg : Expr} (ok : Okf B S q H σ ss o) (er : Errs E ex B) (g : Ge X E ex ss e d) (hg : Gg X tg d is ss ss') (ho : offO o is = true := by rfl)
    (k : ∀ H' σ', Okf B S q H' σ' ss' o → wpS X r Dn σ' H')
    (hs : ∀ env, swapsWithSole [tg] e pos.line env = pure false := by intro _; rfl) (hw : ∀ env, swappedStores [tg] e env = pure none := by intro _; rfl) (h1 : ∀ env, (assignEach [tg] env).map (·.2) = [assign tg env] := by intro _; rfl) :
    wpS X (.Assign [tg] e pos :: r) Dn σ H :=
  wpS_cons (fun x hx => ps_asg (wpE_pe hx) (wpG_pg hx) (hs x.env) (hw x.env) (h1 x.env)) (g _ H σ ok.ok (er.at ok.ex) _ fun v H1 e1 pv =>
    hg _ H1 σ v (ok.up e1).ok pv _ fun σ' H' e2 f ok' => k H' σ' (ok.store (e1.trans e2) f ok' ho))
/-- name = e -/
theorem st_set (C : Ctx X P w K mg base N kd k E) (i : Nat) {y : Str} {pos' : Pos} (ok : Okf B S q H σ ss o) (er : Errs E ex B) (g : Ge X E ex ss e d)
    (k : ∀ H' σ', Okf B S q H' σ' (ss.set i (some d)) o → wpS X r Dn σ' H') (ho : offO o [i] = true := by rfl) (hN : N[i]? = some y := by rfl) (hl : Own1 kd y := by first | exact Or.inl rfl | exact Or.inr rfl)
    (hs : ∀ env, swapsWith e (some (.Name y pos')) pos.line env = pure false := by intro _; rfl) : wpS X (.Assign [.Name y pos'] e pos :: r) Dn σ H :=
  wpS_cons (fun x hx => ps_set (i := i) (by rw [C.slots x hx]; exact C.nd) (by rw [C.slots x hx]; exact hN) (C.lo hx hl) (wpE_pe hx) (hs x.env) (C.fnl hx hl)) (g _ H σ ok.ok (er.at ok.ex) _ fun v H1 e1 pv =>
    k H1 _ (ok.store (is := [i]) e1 (Off.set (by simp)) ⟨(ok.up e1).ok.hid, (ok.up e1).ok.sl.set pv⟩ ho))
/-- an expression for what it does -/
theorem st_expr (ok : Okf B S q H σ ss o) (er : Errs E ex B) (g : Ge X E ex ss e d) (k : ∀ H', Okf B S q H' σ ss o → wpS X r Dn σ H') (hs : ∀ env, swapsWith e none pos.line env = pure false := by intro _; rfl) : wpS X (.Expr e pos :: r) Dn σ H :=
  wpS_cons (fun x hx => ps_expr (wpE_pe hx) (hs x.env)) (g _ H σ ok.ok (er.at ok.ex) _ fun v H1 e1 pv => k H1 (ok.up e1))
theorem st_ret (ok : Okf B S q H σ ss o) (er : Errs E ex B) (g : Ge X E ex ss e d) (k : ∀ v H', Same B H' → d.p (wd S H') v → Dn.rt v H') : wpS X (.Return (some e) pos :: r) Dn σ H :=
  wpS_cons (fun x hx => ps_ret (wpE_pe hx)) (g _ H σ ok.ok (er.at ok.ex) _ fun v H1 e1 pv => k v H1 (ok.ex.trans e1) (d.up (wd_less fun b hb => List.mem_append_right _ hb) pv))
theorem st_if {c : Expr} {a b : List Stmt} {t : Bool} (ok : Okf B S q H σ ss o) (er : Errs E ex B) (g : Gt X E ex ss c t)
    (h1 : t = true → ∀ H', Okf B S q H' σ ss o → wpS X a { Dn with nx := wpS X r Dn } σ H') (h2 : t = false → ∀ H', Okf B S q H' σ ss o → wpS X b { Dn with nx := wpS X r Dn } σ H') : wpS X (.If c a b pos :: r) Dn σ H :=
  wpS_cons (fun x hx => ps_if (wpT_pt hx) (wpS_pss hx) (wpS_pss hx)) (g _ H σ ok.ok (er.at ok.ex) _ fun H1 e1 => by
    cases t with
    | true => exact iteT (h1 rfl H1 (ok.up e1))
    | false => exact iteF (h2 rfl H1 (ok.up e1)))
theorem st_nil (h : Dn.nx σ H) : wpS X [] Dn σ H := wpS_nil h
/-- for tg in iter: I tells slots and what is owned behind i items -/
theorem st_for {α : Type} (C : Ctx X P w K mg base N kd k E) {tg iter : Expr} {body : List Stmt} {l : List α} {enc : α → D} {f : α → List (Option D) → List (Option D)} (ok : Okf B S q H σ ss o) (er : Errs E ex B) (hi : Gi X E ex ss tg iter (l.map enc))
    (hg : ∀ a ∈ l, ∀ ss1, ss1.length = ss.length → Gg X tg (enc a) is ss1 (f a ss1)) (I : Nat → List (Option D) → Ow → Prop) (h0 : I 0 ss o) (hl : ∀ i ss1 o1, I i ss1 o1 → ss1.length = ss.length ∧ offO o1 is = true)
    (hs : ∀ B', Same B B' → Errs E ex B' → ∀ i a, l[i]? = some a → ∀ ss1 o1, I i ss1 o1 → ∀ H1 σ1, Okf B' S q H1 σ1 (f a ss1) o1 →
      wpS X body { Dn with nx := fun σ2 H2 => ∃ ss2 o2, I (i + 1) ss2 o2 ∧ Okf B' S q H2 σ2 ss2 o2, ct := fun σ2 H2 => ∃ ss2 o2, I (i + 1) ss2 o2 ∧ Okf B' S q H2 σ2 ss2 o2, bk := wpS X r Dn } σ1 H1)
    (hd : ∀ ss1 o1, I l.length ss1 o1 → ∀ H1 σ1, Okf B S q H1 σ1 ss1 o1 → wpS X r Dn σ1 H1) (hf : ∀ env x, foldedSetIterable iter env x = pure x := by intro _ _; rfl) : wpS X (.For tg iter body [] pos :: r) Dn σ H := by
  refine wpS_cons (fun x hx => ps_for (C.own x hx) (C.calm x hx) (wpI_pi hx) (wpG_pg hx) (wpS_pss hx) (hf x.env)) ?_
  refine hi _ H σ ok.ok (er.at ok.ex) _ fun J H1 e1 wk => ?_
  obtain ⟨eB, ok1⟩ := (ok.up e1).rebase
  have er' := er.up eB
  refine for_it (n := l.length) (G := Gw (q ++ S) H1) (by rw [List.length_map] at wk; exact wk) (fun i σ' H' => ∃ ss1 o1, I i ss1 o1 ∧ Okf (wd q H1) S q H' σ' ss1 o1) ⟨ss, o, h0, ok1⟩ ?_ ?_ ?_
  · rintro i σ' H' _ ⟨ss1, o1, _, ok2⟩
    exact (wd_less fun b hb => List.mem_append_left _ hb).trans ok2.ex
  · rintro i v σ' H' H2 hil ⟨ss1, o1, hI, ok2⟩ ⟨s2, d0, hd0, pd⟩
    rw [List.getElem?_map] at hd0
    cases ha : l[i]? with
    | none => rw [ha] at hd0; cases hd0
    | some a =>
      rw [ha] at hd0
      obtain rfl : enc a = d0 := Option.some.inj hd0
      have sm : Same (wd (q ++ S) H1) (wd (q ++ S) H') := fun b u eb => by
        have hb : ¬ b ∈ q ++ S := fun z => by rw [wd_in z] at eb; cases eb
        rw [wd_out hb] at eb ⊢
        exact ok2.ex b u (by rw [wd_out fun z => hb (List.mem_append_left _ z)]; exact eb)
      have pv := pd (q ++ S) sm ok2.ok.hid
      obtain ⟨hlen, hoff⟩ := hl i ss1 o1 hI
      refine hg a (List.mem_of_getElem? ha) ss1 hlen (q ++ S) H2 σ' v (ok2.up s2).ok pv _ fun σ3 H3 s3 o3 ok3 => ?_
      exact hs _ eB er' i a ha ss1 o1 hI H3 σ3 (ok2.store (s2.trans s3) o3 ok3 hoff)
  · rintro σ' H' ⟨ss1, o1, hI, ok2⟩
    exact hd ss1 o1 hI H' σ' (ok2.back eB ok.hid)
/-- while: I tells slots and what is owned, m falls -/
theorem st_while (C : Ctx X P w K mg base N kd k E) {c : Expr} {body : List Stmt} {τ : Type} (I : τ → List (Option D)) (J : τ → Ow) (V : τ → Prop) (m : τ → Nat) (t : τ → Bool) (a0 : τ) (ok : Okf B S q H σ (I a0) (J a0)) (er : Errs E ex B) (v0 : V a0)
    (ht : ∀ a, V a → Gt X E ex (I a) c (t a))
    (hs : ∀ a, V a → t a = true → ∀ H1 σ1, Okf B S q H1 σ1 (I a) (J a) → wpS X body { Dn with nx := fun σ2 H2 => ∃ a', m a' < m a ∧ V a' ∧ Okf B S q H2 σ2 (I a') (J a'), ct := fun σ2 H2 => ∃ a', m a' < m a ∧ V a' ∧ Okf B S q H2 σ2 (I a') (J a'), bk := wpS X r Dn } σ1 H1)
    (hd : ∀ a, V a → t a = false → ∀ H1 σ1, Okf B S q H1 σ1 (I a) (J a) → wpS X r Dn σ1 H1) : wpS X (.While c body [] pos :: r) Dn σ H := by
  refine wpS_cons (fun x hx => ps_while (C.own x hx) (wpT_pt hx) (wpS_pss hx)) ?_
  refine ⟨fun n σ' H' => ∃ a, m a = n ∧ V a ∧ Okf B S q H' σ' (I a) (J a), ⟨_, a0, rfl, v0, ok⟩, ?_⟩
  rintro n σ' H' ⟨a, rfl, va, ok1⟩
  refine ht a va _ H' σ' ok1.ok (er.at ok1.ex) _ fun H1 e1 => ?_
  cases htt : t a with
  | true =>
    rw [if_pos rfl]
    refine ⟨fun σ2 H2 => ∃ a', m a' < m a ∧ V a' ∧ Okf B S q H2 σ2 (I a') (J a'), fun σ2 H2 ⟨a', h1, h2, h3⟩ => ⟨m a', h1, a', rfl, h2, h3⟩, ?_⟩
    exact hs a va htt H1 σ' (ok1.up e1)
  | false =>
    rw [if_neg Bool.false_ne_true]
    exact hd a va htt H1 σ' (ok1.up e1)
/-! what is owned: made, changed, handed back -/
theorem Okf.own_new {p : Addr} {i : Nat} {u : HO} {od : OD} (ok : Okf B S q H σ ss o) (hp : H p = none) (hi : i < σ.length) (ho : offO o [i] = true) (hu : ∀ W, od.p W u) : Okf B S (p :: q) (upd H p u) (σ.set i (some (.ref p))) (ss.set i none) ((i, od) :: o) := by
  have hpB : B p = none := Same.free ok.ex hp
  have hpq : ¬ p ∈ q ++ S := ok.ok.fresh hp
  have sm : Same (wd (q ++ S) H) (wd (p :: q ++ S) (upd H p u)) := fun b x eb => by
    have hb : ¬ b ∈ q ++ S := fun z => by rw [wd_in z] at eb; cases eb
    rw [wd_out hb] at eb
    have hbp : b ≠ p := ne_of_none eb hp
    show wd (p :: (q ++ S)) _ b = _
    rw [wd_out (fun z => (List.mem_cons.mp z).elim hbp hb), upd_ne hbp]
    exact eb
  refine ⟨Same.mut ok.ex hpB, ok.hid, fun a ha => ?_, (ok.sl.up sm).drop, ⟨List.getElem?_set_self hi, ⟨u, upd_same, hu _⟩, ?_⟩, List.nodup_cons.mpr ⟨fun z => hpq (List.mem_append_left _ z), ok.nd⟩⟩
  · rcases List.mem_cons.mp ha with e | ha
    · rw [e]; exact hpB
    · exact ok.new a ha
  · exact ok.own.up sm (fun a x ea => by rw [upd_ne (ne_of_none ea hp)]; exact ea) (off_of ho (Off.set (by simp)))
/-- the first of what is owned is changed -/
theorem Okf.own_put {i : Nat} {a : Addr} {u : HO} {od od' : OD} (ok : Okf B S (a :: q) H σ ss ((i, od) :: o)) (hu : od'.p (wd (a :: q ++ S) H) u) : Okf B S (a :: q) (upd H a u) σ ss ((i, od') :: o) := by
  obtain ⟨h1, ⟨v, h2, h3⟩, h4⟩ := ok.own
  obtain ⟨n1, n2⟩ := List.nodup_cons.mp ok.nd
  have e : wd (a :: q ++ S) (upd H a u) = wd (a :: q ++ S) H := wd_upd List.mem_cons_self
  refine ⟨Same.mut ok.ex (ok.new a List.mem_cons_self), ok.hid, ok.new, by rw [e]; exact ok.sl, ⟨h1, ⟨u, upd_same, by rw [e]; exact hu⟩, ?_⟩, ok.nd⟩
  rw [e]
  have hoth : ∀ {q' : List Addr} {o' : Ow}, (¬ a ∈ q') → Owns (wd (a :: q ++ S) H) H σ q' o' → Owns (wd (a :: q ++ S) H) (upd H a u) σ q' o' := by
    intro q'
    induction q' with
    | nil =>
      intro o' _ h
      cases o' with
      | nil => trivial
      | cons _ _ => exact h.elim
    | cons b q' ih =>
      intro o' hn h
      cases o' with
      | nil => exact h.elim
      | cons x o' =>
        obtain ⟨i', od2⟩ := x
        obtain ⟨g1, ⟨v', g2, g3⟩, g4⟩ := h
        refine ⟨g1, ⟨v', ?_, g3⟩, ih (fun z => hn (List.mem_cons_of_mem _ z)) g4⟩
        rw [upd_ne fun z => hn (by rw [← z]; exact List.mem_cons_self)]
        exact g2
  exact hoth n1 h4
/-- x = [] -/
theorem st_newL (C : Ctx X P w K mg base N kd k E) (i : Nat) {y : Str} {pos1 pos2 : Pos} (ok : Okf B S q H σ ss o) (hi : i < ss.length := by decide)
    (k : ∀ p H' σ', Okf B S (p :: q) H' σ' (ss.set i none) ((i, oL []) :: o) → wpS X r Dn σ' H') (ho : offO o [i] = true := by rfl) (hN : N[i]? = some y := by rfl) (hl : Own1 kd y := by first | exact Or.inl rfl | exact Or.inr rfl) : wpS X (.Assign [.Name y pos1] (.List [] pos2) pos :: r) Dn σ H :=
  wpS_cons (fun x hx => ps_set (i := i) (by rw [C.slots x hx]; exact C.nd) (by rw [C.slots x hx]; exact hN) (C.lo hx hl) (pe_lst pa_nil) rfl (C.fnl hx hl)) ⟨Nat.zero_le _, fun p hp => k p _ _ (ok.own_new hp (by rw [ok.sl.len]; exact hi) ho fun W => ⟨[], rfl, trivial⟩)⟩
/-- x = {} whose keys are ints and texts -/
theorem st_newM (C : Ctx X P w K mg base N kd k E) (i : Nat) {y : Str} {pos1 pos2 : Pos} (ok : Okf B S q H σ ss o) (hi : i < ss.length := by decide)
    (k : ∀ p H' σ', Okf B S (p :: q) H' σ' (ss.set i none) ((i, oM []) :: o) → wpS X r Dn σ' H') (ho : offO o [i] = true := by rfl) (hN : N[i]? = some y := by rfl) (hl : Own1 kd y := by first | exact Or.inl rfl | exact Or.inr rfl) : wpS X (.Assign [.Name y pos1] (.Dict [] [] pos2) pos :: r) Dn σ H :=
  wpS_cons (fun x hx => ps_set (i := i) (by rw [C.slots x hx]; exact C.nd) (by rw [C.slots x hx]; exact hN) (C.lo hx hl) pe_dnewK rfl (C.fnl hx hl)) fun p hp => k p _ _ (ok.own_new hp (by rw [ok.sl.len]; exact hi) ho fun W => ⟨[], rfl, trivial⟩)
/-- return x, x a list that is owned -/
theorem st_retL (C : Ctx X P w K mg base N kd k E) (i : Nat) {y : Str} {p1 : Pos} {a : Addr} (ok : Okf B S (a :: q) H σ ss ((i, oL ds) :: o)) (k : ∀ v H', Same B H' → (dL ds).p (wd S H') v → Dn.rt v H') (hN : N[i]? = some y := by rfl) (hv : Seen kd y := by first | exact Or.inl rfl | exact Or.inr (Or.inl rfl))
    (hd : (y == ("__debug__" : Str)) = false := by decide) (hcd : (y == ("__classdict__" : Str)) = false := by decide) : wpS X (.Return (some (.Name y p1)) pos :: r) Dn σ H := by
  refine wpS_cons (fun x hx => ps_ret (pe_var (i := i) (by rw [C.slots x hx]; exact hN) (C.vis x hx _ hv) hd hcd)) ?_
  obtain ⟨h1, ⟨u, h2, vs, rfl, h3⟩, h4⟩ := ok.own
  refine ⟨_, h1, k _ H ok.ex ⟨a, vs, rfl, ?_, h3.up (wd_less fun b hb => List.mem_append_right _ hb)⟩⟩
  rw [wd_out fun z => ok.hid a z (ok.new a List.mem_cons_self)]
  exact h2
end
end Tr
namespace Tr
open PySem PySem.Spec PyProof.Rows L2

/-! ### a def by its body -/
/-- a body does A -/
def Does (X : CS) (E : XK) (A : Pr) (n : Nat) (b : List Stmt) : Prop := ∀ (S : List Addr) (H : Hp) (σ : Sg) (ds : List D) (kr : D → Prop) (ke : Er → Prop), A ds kr ke → Okf H S [] H σ (ds.map some ++ List.replicate (n - ds.length) none) [] → Errs E ke H →
  ∀ Dn : Ends, (∀ d v H', kr d → Same H H' → d.p (wd S H') v → Dn.rt v H') → (∀ σ' H', kr dN → Same H H' → Dn.nx σ' H') → wpS X b Dn σ H
section
variable {P : Program} {w : World} {K : PySem.W.Frag} {mg : Str → Option Value} {base : Heap} {k : Nat} {N ps : List Str} {st : Stmt} {x qual : Str} {f : Addr} {fd : FuncData} {A : Pr}
theorem start_ok {S : List Addr} {H : Hp} {vs : List V} {ds : List D} (hid : ∀ b ∈ S, H b ≠ none) (r : Reps (wd S H) vs ds) : Okf H S [] H (start N vs) (ds.map some ++ List.replicate (N.length - ds.length) none) [] := by
  refine ⟨Same.refl H, hid, fun a z => by simp at z, ?_, trivial, List.nodup_nil⟩
  unfold L2.start
  rw [← r.len]
  exact Sl.start _ r
theorem def_ok (F : Fun K x qual st f fd) (sc : FnScope N ps (defScope st)) (hl : ∀ ds kr ke, A ds kr ke → ds.length = ps.length)
    (h : ∀ X : CS, Ctx X P w K mg base N (fun y => (defScope st).names.lookup y) k E0 → Does X E0 (fun ds kr _ => ∃ ke, A ds kr ke) N.length (defBody st)) : FnOk P w K mg base CX0 (k + 1) f fd ps (spT A) := by
  refine F.ok sc (fun vs H Q E hs => ?_) (fun cdv A0 outer s H vs Q E hr hs => ?_)
  · obtain ⟨S, ds, kr, ke, h1, h2, h3, _⟩ := hs
    rw [h2.len, hl _ _ _ h3]
  · obtain ⟨S, ds, kr, ke, h1, h2, h3, h4, h5⟩ := hs
    refine ⟨wpS (fun y => y = (cxOf CX0 P w K mg base N qual (defScope st) f cdv A0 outer s H E).nox) (defBody st), wpS_pss rfl, ?_⟩
    refine h _ ?_ S H (start N vs) ds kr (fun _ => False) ⟨ke, h3⟩ (start_ok h1 h2) Errs.none _ (fun d v H' k1 k2 k3 => h4 d v H' k1 k2 k3) fun σ' H' k1 k2 => h4 dN .non H' k1 k2 rfl
    constructor
    · rintro y rfl; rfl
    · rintro y rfl; rfl
    · rintro y rfl; rfl
    · rintro y rfl; rfl
    · rintro y rfl; rfl
    · rintro y rfl; rfl
    · rintro y rfl; rfl
    · rintro y rfl; exact hr
    · rintro y rfl; exact sc.kind
    · rintro y rfl n hn; exact hn
    · rintro y rfl n hn; exact hn
    · rintro y rfl n hn; exact hn
    · rintro y rfl n hn; exact ⟨hn, rfl⟩
    · exact sc.nd
    · rintro y rfl; exact takes0
    · rintro y rfl; exact PassesOwn.never
/-- .. a def that may raise -/
theorem def_okX (F : Fun K x qual st f fd) (sc : FnScope N ps (defScope st)) (hl : ∀ ds kr ke, A ds kr ke → ds.length = ps.length)
    (h : ∀ (X : CS) (E : XK), Ctx X P w K mg base N (fun y => (defScope st).names.lookup y) k E → Does X E A N.length (defBody st)) : FnOk P w K mg base (L2.CX P w) (k + 1) f fd ps (spT A) := by
  refine F.okX sc (fun vs H Q E hs => ?_) (fun cdv A0 outer s H vs Q E hr hs => ?_)
  · obtain ⟨S, ds, kr, ke, h1, h2, h3, _⟩ := hs
    rw [h2.len, hl _ _ _ h3]
  · obtain ⟨S, ds, kr, ke, h1, h2, h3, h4, h5⟩ := hs
    refine ⟨wpS (fun y => y = cxOf (L2.CX P w) P w K mg base N qual (defScope st) f cdv A0 outer s H E) (defBody st), wpS_pss rfl, ?_⟩
    refine h _ E ?_ S H (start N vs) ds kr ke h3 (start_ok h1 h2) h5 _ (fun d v H' k1 k2 k3 => h4 d v H' k1 k2 k3) fun σ' H' k1 k2 => h4 dN .non H' k1 k2 rfl
    constructor
    · rintro y rfl; rfl
    · rintro y rfl; rfl
    · rintro y rfl; rfl
    · rintro y rfl; rfl
    · rintro y rfl; rfl
    · rintro y rfl; rfl
    · rintro y rfl; rfl
    · rintro y rfl; exact hr
    · rintro y rfl; exact sc.kind
    · rintro y rfl n hn; exact hn
    · rintro y rfl n hn; exact hn
    · rintro y rfl n hn; exact hn
    · rintro y rfl n hn; exact ⟨hn, rfl⟩
    · exact sc.nd
    · rintro y rfl; exact takes_of rfl rfl rfl rfl
    · rintro y rfl; exact passes_of rfl
end
end Tr
namespace Tr
open PySem PySem.Spec PyProof.Rows L2

/-! ### texts as bytes -/
def sU (b : List UInt8) : Str := ⟨(b.map UInt8.toNat).toArray⟩
abbrev dU (b : List UInt8) : D := dS (sU b)
theorem sU_tl (b : List UInt8) : (sU b).cps.toList = b.map UInt8.toNat := rfl
theorem sU_len (b : List UInt8) : (sU b).length = b.length := by
  show ((b.map UInt8.toNat).toArray).size = _
  rw [List.size_toArray, List.length_map]
theorem u8_inj : ∀ {a b : List UInt8}, a.map UInt8.toNat = b.map UInt8.toNat → a = b
  | [], [], _ => rfl
  | [], _ :: _, h => by simp at h
  | _ :: _, [], h => by simp at h
  | x :: a, y :: b, h => by
    have h1 := List.cons.inj h
    rw [UInt8.toNat_inj.mp h1.1, u8_inj h1.2]
theorem sU_inj {a b : List UInt8} (h : sU a = sU b) : a = b := u8_inj (congrArg (fun s : Str => s.cps.toList) h)
theorem sU_app (a b : List UInt8) : sU a ++ sU b = sU (a ++ b) := TL.ext_tl (by rw [TL.tl_append]; exact (List.map_append).symm)
theorem sU_cut (b : List UInt8) (lo hi : Option Int) : cutS (sU b) lo hi = sU (cutD b lo hi) := by
  refine TL.ext_tl ?_
  show ((((sU b).cps.toList.drop (HT.sIx (sU b).length 0 lo)).take (HT.sIx (sU b).length (sU b).length hi - HT.sIx (sU b).length 0 lo)).toArray).toList = (cutD b lo hi).map UInt8.toNat
  rw [sU_len, sU_tl]
  unfold cutD
  rw [List.map_take, List.map_drop]
theorem sU_eq (a b : List UInt8) : decide (V.str (sU a) = V.str (sU b)) = decide (a = b) := by
  by_cases h : a = b
  · rw [decide_eq_true h, decide_eq_true (by rw [h])]
  · rw [decide_eq_false h, decide_eq_false fun e => h (sU_inj (V.str.inj e))]
theorem sU_one (c : UInt8) : sU [c] = ⟨#[c.toNat]⟩ := rfl
theorem sU_mem (c : UInt8) (z : List UInt8) : decide (c.toNat ∈ (sU z).cps.toList) = decide (c ∈ z) := by
  rw [sU_tl]
  by_cases h : c ∈ z
  · rw [decide_eq_true h, decide_eq_true (List.mem_map.mpr ⟨c, h, rfl⟩)]
  · rw [decide_eq_false h, decide_eq_false fun m => ?_]
    obtain ⟨d, hd, e⟩ := List.mem_map.mp m
    exact h (UInt8.toNat_inj.mp e ▸ hd)

section
variable {X : CS} {P : Program} {w : World} {K : PySem.W.Frag} {mg : Str → Option Value} {base : Heap} {N : List Str} {kd : Str → Option NameKind} {k : Nat} {E : XK} {ex : Er → Prop} {ss : List (Option D)} {da db dc d : D} {a b c e : Expr} {p pos apos : Pos} {ds es : List D} {x y z : List UInt8}
theorem g_strU {i : Str} {j} (x : List UInt8) (h : i = sU x := by decide) : Ge X E ex ss (.Constant (.str i) j pos) (dU x) := by
  subst h
  exact g_str
theorem g_addU (ha : Ge X E ex ss a (dU x)) (hb : Ge X E ex ss b (dU y)) (h : x.length + y.length ≤ 100000) : Ge X E ex ss (.BinOp a .Add b pos) (dU (x ++ y)) := by
  have q : Ge X E ex ss (.BinOp a .Add b pos) (dS (sU x ++ sU y)) := g_bin (fun _ _ => op_add_str) ha hb (r2_v fun H Q q => ⟨_, _, rfl, rfl, by rw [sU_len, sU_len, sizeLine_eq]; omega, q⟩)
  rw [sU_app] at q
  exact q
theorem g_slU {lo hi : Option Expr} {l h : Option Int} {p2 : Pos} (he : Ge X E ex ss e (dU x)) (hl : Gpo X E ex ss lo l) (hh : Gpo X E ex ss hi h) (hz : x.length ≤ 100000) : Ge X E ex ss (.Subscript e (.Slice lo hi none p2) pos) (dU (cutD x l h)) :=
  g_slice (fun _ _ => sl_str) he hl hh fun S H v _ pv Q q => by
    have pv : v = .str (sU x) := pv
    subst pv
    refine ⟨_, rfl, by rw [sU_len, sizeLine_eq]; omega, ?_⟩
    rw [sU_cut]
    exact q _ H (Same.refl H) rfl
theorem g_eqU (ha : Ge X E ex ss a (dU x)) (hb : Ge X E ex ss b (dU y)) : Ge X E ex ss (.Compare a [.Eq] [b] pos) (dB (decide (x = y))) := by rw [← sU_eq]; exact g_eq ha hb
theorem t_eqU (ha : Ge X E ex ss a (dU x)) (hb : Ge X E ex ss b (dU y)) : Gt X E ex ss (.Compare a [.Eq] [b] pos) (decide (x = y)) := by rw [← sU_eq]; exact t_eq ha hb
theorem g_neU (ha : Ge X E ex ss a (dU x)) (hb : Ge X E ex ss b (dU y)) : Ge X E ex ss (.Compare a [.NotEq] [b] pos) (dB (!decide (x = y))) := by rw [← sU_eq]; exact g_ne ha hb
theorem g_inU {c : UInt8} (ha : Ge X E ex ss a (dU [c])) (hb : Ge X E ex ss b (dU z)) (hm : behindInMarks .In b = false := by rfl) : Ge X E ex ss (.Compare a [.In] [b] pos) (dB (decide (c ∈ z))) := by
  rw [← sU_mem]
  exact g_cmp (fun _ _ => op_in_sign) ha hb (r2_v fun H Q q => ⟨c.toNat, sU z, by rw [sU_one], rfl, q⟩) hm
theorem g_ninU {c : UInt8} (ha : Ge X E ex ss a (dU [c])) (hb : Ge X E ex ss b (dU z)) (hm : behindInMarks .NotIn b = false := by rfl) : Ge X E ex ss (.Compare a [.NotIn] [b] pos) (dB (!decide (c ∈ z))) := by
  rw [← sU_mem]
  exact g_cmp (fun _ _ => op_notIn_sign) ha hb (r2_v fun H Q q => ⟨c.toNat, sU z, by rw [sU_one], rfl, q⟩) hm
theorem t_inU {c : UInt8} (ha : Ge X E ex ss a (dU [c])) (hb : Ge X E ex ss b (dU z)) (hm : behindInMarks .In b = false := by rfl) : Gt X E ex ss (.Compare a [.In] [b] pos) (decide (c ∈ z)) := by
  rw [← sU_mem]
  exact t_cmp (fun _ _ => op_in_sign) ha hb (r2_v fun H Q q => ⟨c.toNat, sU z, by rw [sU_one], rfl, q⟩) hm
theorem t_ninU {c : UInt8} (ha : Ge X E ex ss a (dU [c])) (hb : Ge X E ex ss b (dU z)) (hm : behindInMarks .NotIn b = false := by rfl) : Gt X E ex ss (.Compare a [.NotIn] [b] pos) (!decide (c ∈ z)) := by
  rw [← sU_mem]
  exact t_cmp (fun _ _ => op_notIn_sign) ha hb (r2_v fun H Q q => ⟨c.toNat, sU z, by rw [sU_one], rfl, q⟩) hm
/-- .. by signs -/
theorem gi_U {tg iter : Expr} (h : Ge X E ex ss iter (dU z)) : Gi X E ex ss tg iter (z.map fun c => dU [c]) := by
  have q : Gi X E ex ss tg iter ((sU z).cps.toList.map fun c => dS ⟨#[c]⟩) := gi_str h
  rw [sU_tl, List.map_map] at q
  exact q
theorem g_ixU {i : Int} {n : Nat} {c : UInt8} (ha : Ge X E ex ss a (dU x)) (hb : Ge X E ex ss b (dI i)) (hi : i = (n : Int)) (h : x[n]? = some c) (hz : x.length ≤ 100000) (hp : PlainIx b := by exact fun _ _ => rfl) : Ge X E ex ss (.Subscript a b pos) (dU [c]) := by
  subst hi
  refine ge_pe (fun _ hx => pe_ix ix_str (wpE_pe hx) (wpE_pe hx) hp) (gv_op ha hb (r2_v fun H Q q => ⟨sU x, n, c.toNat, rfl, rfl, by rw [sU_len, sizeLine_eq]; omega, atI_nat ?_, q⟩))
  rw [sU_tl, List.getElem?_map, h]
  rfl

/-! ### built-in functions -/
theorem g_callB {id : String} {f : Str} {r : List V → Hp → VK → Prop} {ee : Expr} {ees : List Expr} (C : Ctx X P w K mg base N kd k E) (hc : ∀ x, X x → CallR x (.builtin id) r) (hm : mg f = none) (hv : bootBuiltins f = some (.builtin id)) (ha : Gas X E ex ss (ee :: ees) ds) (hr : RnG r ds d) (hg : kd f = some .globalImplicit := by rfl)
    (hn : f ≠ "__name__" := by decide) (hdb : (f == ("__debug__" : Str)) = false := by decide) (he : ∀ env, starEach (ee :: ees) env = (false, eval ee env) :: starEach ees env := by intro _; rfl) (hpl : ∀ env, (backTo pos (starEach ees env)).any (·.1) = false := by intro _; rfl) :
    Ge X E ex ss (.Call (.Name f p) (ee :: ees) [] pos) d :=
  ge_pe (fun x hx => pe_callB (hc x hx) (C.gl hx hg) (by rw [C.names x hx]; exact hm) hv (wpA_pa hx) hn hdb (he _) (hpl _)) (gv_cb ha hr)
theorem g_callTy {T : String} {f : Str} {r : List V → Hp → VK → Prop} {ee : Expr} {ees : List Expr} (C : Ctx X P w K mg base N kd k E) (hc : ∀ x, X x → CallR x (.type T) r) (hm : mg f = none) (hv : bootBuiltins f = some (.type T)) (ha : Gas X E ex ss (ee :: ees) ds) (hr : RnG r ds d) (hg : kd f = some .globalImplicit := by rfl)
    (hn : f ≠ "__name__" := by decide) (hdb : (f == ("__debug__" : Str)) = false := by decide) (he : ∀ env, starEach (ee :: ees) env = (false, eval ee env) :: starEach ees env := by intro _; rfl) (hpl : ∀ env, (backTo pos (starEach ees env)).any (·.1) = false := by intro _; rfl) :
    Ge X E ex ss (.Call (.Name f p) (ee :: ees) [] pos) d :=
  ge_pe (fun x hx => pe_callTy (hc x hx) (C.gl hx hg) (by rw [C.names x hx]; exact hm) hv (wpA_pa hx) hn hdb (he _) (hpl _)) (gv_cb ha hr)
theorem reps1 {W : Hp} {xs : List V} (r : Reps W xs [d]) : ∃ v, xs = [v] ∧ d.p W v := by
  match xs, r with
  | [v], h => exact ⟨v, rfl, h.1⟩
  | [], h => exact h.elim
  | _ :: _ :: _, h => exact h.2.elim
theorem reps2 {W : Hp} {xs : List V} {d' : D} (r : Reps W xs [d, d']) : ∃ v u, xs = [v, u] ∧ d.p W v ∧ d'.p W u := by
  match xs, r with
  | [v, u], h => exact ⟨v, u, rfl, h.1, h.2.1⟩
  | [], h => exact h.elim
  | [_], h => exact h.2.elim
  | _ :: _ :: _ :: _, h => exact h.2.2.elim
/-- of one plain value -/
theorem rn_v1 {r : List V → Hp → VK → Prop} {u v : V} (h : ∀ (H : Hp) (Q : VK), Q v H → r [u] H Q) : RnG r [dV u] (dV v) := fun S H xs _ hr Q q => by
  obtain ⟨t, rfl, ht⟩ := reps1 hr
  have ht : t = u := ht
  subst ht
  exact h H Q (q _ H (Same.refl H) rfl)
theorem rn_v2 {r : List V → Hp → VK → Prop} {u1 u2 v : V} (h : ∀ (H : Hp) (Q : VK), Q v H → r [u1, u2] H Q) : RnG r [dV u1, dV u2] (dV v) := fun S H xs _ hr Q q => by
  obtain ⟨t, t2, rfl, ht, ht2⟩ := reps2 hr
  have ht : t = u1 := ht
  have ht2 : t2 = u2 := ht2
  subst ht ht2
  exact h H Q (q _ H (Same.refl H) rfl)
theorem g_lenLs (C : Ctx X P w K mg base N kd k E) (hm : mg "len" = none) (h : Ge X E ex ss e (dLs K ds)) (hg : kd "len" = some .globalImplicit := by rfl) (he : ∀ env, starEach [e] env = (false, eval e env) :: starEach [] env := by intro _; rfl) : Ge X E ex ss (.Call (.Name "len" p) [e] [] pos) (dI (ds.length : Int)) :=
  g_callB C (r := fun xs H Q => ∃ p ys, xs = [.ref p] ∧ (SqL K H p ys ∨ SqT K H p ys) ∧ Q (.int ys.length) H) (fun x hx => by rw [← C.frag x hx]; exact call_len_seq) hm PySem.boot_len (a_cons h a_nil he) (fun S H xs _ hr Q q => by
    obtain ⟨v, rfl, a, vs, rfl, sq, r⟩ := reps1 hr
    exact ⟨a, vs, rfl, .inl ((wd_same S H).seq sq), q _ H (Same.refl H) (by rw [r.len]; rfl)⟩) hg (by decide) (by decide) he (fun _ => rfl)
theorem g_lenL (C : Ctx X P w K mg base N kd k E) (hm : mg "len" = none) (h : Ge X E ex ss e (dL ds)) (hg : kd "len" = some .globalImplicit := by rfl) (he : ∀ env, starEach [e] env = (false, eval e env) :: starEach [] env := by intro _; rfl) : Ge X E ex ss (.Call (.Name "len" p) [e] [] pos) (dI (ds.length : Int)) := g_lenLs C hm (g_ofL h) hg he
theorem g_lenU (C : Ctx X P w K mg base N kd k E) (hm : mg "len" = none) (h : Ge X E ex ss e (dU x)) (hz : x.length ≤ 100000) (hg : kd "len" = some .globalImplicit := by rfl) (he : ∀ env, starEach [e] env = (false, eval e env) :: starEach [] env := by intro _; rfl) : Ge X E ex ss (.Call (.Name "len" p) [e] [] pos) (dI (x.length : Int)) :=
  g_callB C (fun _ _ => call_len_str) hm PySem.boot_len (a_cons h a_nil he) (rn_v1 fun H Q q => ⟨sU x, rfl, by rw [sU_len, sizeLine_eq]; omega, by rw [sU_len]; exact q⟩) hg (by decide) (by decide) he (fun _ => rfl)
theorem g_max (C : Ctx X P w K mg base N kd k E) {i j : Int} (hm : mg "max" = none) (h : Gas X E ex ss [a, b] [dI i, dI j]) (hg : kd "max" = some .globalImplicit := by rfl) (he : ∀ env, starEach [a, b] env = (false, eval a env) :: starEach [b] env := by intro _; rfl) (hpl : ∀ env, (backTo pos (starEach [b] env)).any (·.1) = false := by intro _; rfl) :
    Ge X E ex ss (.Call (.Name "max" p) [a, b] [] pos) (dI (max i j)) := by
  refine g_callB C (fun x hx => call_max2 (C.calm x hx)) hm (by decide +kernel) h (rn_v2 fun H Q q => ⟨i, j, rfl, ?_⟩) hg (by decide) (by decide) he hpl
  have e : (if j > i then j else i) = max i j := by
    by_cases h : j > i
    · rw [if_pos h]; omega
    · rw [if_neg h]; omega
  rw [e]
  exact q
theorem g_intB (C : Ctx X P w K mg base N kd k E) {o : Bool} (hm : mg "int" = none) (h : Ge X E ex ss e (dB o)) (hg : kd "int" = some .globalImplicit := by rfl) (he : ∀ env, starEach [e] env = (false, eval e env) :: starEach [] env := by intro _; rfl) : Ge X E ex ss (.Call (.Name "int" p) [e] [] pos) (dI (if o then 1 else 0)) :=
  g_callTy C (fun _ _ => call_int1) hm (by decide +kernel) (a_cons h a_nil he) (rn_v1 fun H Q q => .inr ⟨o, rfl, q⟩) hg (by decide) (by decide) he (fun _ => rfl)
theorem g_ord (C : Ctx X P w K mg base N kd k E) {c : UInt8} (hm : mg "ord" = none) (h : Ge X E ex ss e (dU [c])) (hg : kd "ord" = some .globalImplicit := by rfl) (he : ∀ env, starEach [e] env = (false, eval e env) :: starEach [] env := by intro _; rfl) : Ge X E ex ss (.Call (.Name "ord" p) [e] [] pos) (dI (c.toNat : Int)) :=
  g_callB C (fun _ _ => call_ord) hm (by decide +kernel) (a_cons h a_nil he) (rn_v1 fun H Q q => ⟨sU [c], rfl, rfl, q⟩) hg (by decide) (by decide) he (fun _ => rfl)
theorem g_all (C : Ctx X P w K mg base N kd k E) {bs : List Bool} (hm : mg "all" = none) (h : Ge X E ex ss e (dL (bs.map fun o => dB o))) (hg : kd "all" = some .globalImplicit := by rfl) (he : ∀ env, starEach [e] env = (false, eval e env) :: starEach [] env := by intro _; rfl) : Ge X E ex ss (.Call (.Name "all" p) [e] [] pos) (dB (bs.all id)) :=
  g_callB C (r := rAll K) (fun x hx => by rw [← C.frag x hx]; exact cr_all (C.calm x hx)) hm (by decide +kernel) (a_cons h a_nil he) (fun S H xs _ hr Q q => by
    obtain ⟨v, rfl, a, vs, rfl, sq, r⟩ := reps1 hr
    refine ⟨a, bs, rfl, SqL.of ?_, q _ H (Same.refl H) rfl⟩
    rw [← r.plain]
    exact wd_same S H _ _ sq) hg (by decide) (by decide) he (fun _ => rfl)
theorem g_any (C : Ctx X P w K mg base N kd k E) {bs : List Bool} (hm : mg "any" = none) (h : Ge X E ex ss e (dL (bs.map fun o => dB o))) (hg : kd "any" = some .globalImplicit := by rfl) (he : ∀ env, starEach [e] env = (false, eval e env) :: starEach [] env := by intro _; rfl) : Ge X E ex ss (.Call (.Name "any" p) [e] [] pos) (dB (bs.any id)) :=
  g_callB C (r := rAny K) (fun x hx => by rw [← C.frag x hx]; exact cr_any (C.calm x hx)) hm (by decide +kernel) (a_cons h a_nil he) (fun S H xs _ hr Q q => by
    obtain ⟨v, rfl, a, vs, rfl, sq, r⟩ := reps1 hr
    refine ⟨a, bs, rfl, SqL.of ?_, q _ H (Same.refl H) rfl⟩
    rw [← r.plain]
    exact wd_same S H _ _ sq) hg (by decide) (by decide) he (fun _ => rfl)
theorem g_sum (C : Ctx X P w K mg base N kd k E) {ns : List Int} (hm : mg "sum" = none) (h : Ge X E ex ss e (dL (ns.map fun n => dI n))) (hg : kd "sum" = some .globalImplicit := by rfl) (he : ∀ env, starEach [e] env = (false, eval e env) :: starEach [] env := by intro _; rfl) : Ge X E ex ss (.Call (.Name "sum" p) [e] [] pos) (dI ns.sum) :=
  g_callB C (r := rSum K) (fun x hx => by rw [← C.frag x hx]; exact cr_sum (C.calm x hx)) hm (by decide +kernel) (a_cons h a_nil he) (fun S H xs _ hr Q q => by
    obtain ⟨v, rfl, a, vs, rfl, sq, r⟩ := reps1 hr
    refine ⟨a, ns, rfl, SqL.of ?_, q _ H (Same.refl H) rfl⟩
    rw [← r.plain]
    exact wd_same S H _ _ sq) hg (by decide) (by decide) he (fun _ => rfl)
/-- list(a list), list(a tuple) -/
theorem g_listL (C : Ctx X P w K mg base N kd k E) (hm : mg "list" = none) (h : Ge X E ex ss e (dL ds)) (hg : kd "list" = some .globalImplicit := by rfl) (he : ∀ env, starEach [e] env = (false, eval e env) :: starEach [] env := by intro _; rfl) : Ge X E ex ss (.Call (.Name "list" p) [e] [] pos) (dL ds) :=
  g_callTy C (r := fun xs H Q => ∃ p ys, xs = [.ref p] ∧ (SqL K H p ys ∨ SqT K H p ys) ∧ ∀ l, H l = none → Q (.ref l) (upd H l (.lst ys))) (fun x hx => by rw [← C.frag x hx]; exact call_list_of) hm (by decide +kernel) (a_cons h a_nil he) (fun S H xs hid hr Q q => by
    obtain ⟨v, rfl, a, vs, rfl, sq, r⟩ := reps1 hr
    exact ⟨a, vs, rfl, .inl (SqL.of (wd_same S H _ _ sq)), fun l hl => q _ _ (Same.new hl) (new_L hid hl r)⟩) hg (by decide) (by decide) he (fun _ => rfl)
theorem g_listT (C : Ctx X P w K mg base N kd k E) (hm : mg "list" = none) (h : Ge X E ex ss e (dT ds)) (hg : kd "list" = some .globalImplicit := by rfl) (he : ∀ env, starEach [e] env = (false, eval e env) :: starEach [] env := by intro _; rfl) : Ge X E ex ss (.Call (.Name "list" p) [e] [] pos) (dL ds) :=
  g_callTy C (r := fun xs H Q => ∃ p ys, xs = [.ref p] ∧ (SqL K H p ys ∨ SqT K H p ys) ∧ ∀ l, H l = none → Q (.ref l) (upd H l (.lst ys))) (fun x hx => by rw [← C.frag x hx]; exact call_list_of) hm (by decide +kernel) (a_cons h a_nil he) (fun S H xs hid hr Q q => by
    obtain ⟨v, rfl, a, vs, rfl, sq, r⟩ := reps1 hr
    exact ⟨a, vs, rfl, .inr (SqT.of (wd_same S H _ _ sq)), fun l hl => q _ _ (Same.new hl) (new_L hid hl r)⟩) hg (by decide) (by decide) he (fun _ => rfl)
/-- xs + ys -/
theorem g_cat (ha : Ge X E ex ss a (dL ds)) (hb : Ge X E ex ss b (dL es)) (hz : ds.length + es.length ≤ 1000000) : Ge X E ex ss (.BinOp a .Add b pos) (dL (ds ++ es)) :=
  g_bin (fun _ _ => op_cat) ha hb fun S H x y hid hx hy Q q => by
    obtain ⟨p, vs, rfl, sp, r⟩ := hx
    obtain ⟨p2, vs2, rfl, sp2, r2⟩ := hy
    exact ⟨p, p2, vs, vs2, rfl, rfl, wd_same S H _ _ sp, wd_same S H _ _ sp2, by rw [r.len, r2.len, sizeLine_eq]; omega, fun l hl => q _ _ (Same.new hl) (new_L hid hl (r.app r2))⟩
/-- n.bit_length() -/
theorem g_bits {i : Int} (h : Ge X E ex ss a (dI i)) (hbase : ∀ env, attributeBase a "bit_length" env (eval a env) = eval a env := by intro _; rfl) (hline : (apos.endLine == pos.line) = true := by rfl) : Ge X E ex ss (.Call (.Attribute a "bit_length" apos) [] [] pos) (dI (Builtin.Int.intBits i : Nat)) :=
  ge_pe (fun x hx => pe_bits (wpE_pe hx) (hbase x.env) hline) fun S H σ ok er Q q => h S H σ ok er _ fun v H1 e1 pv => ⟨i, pv, q _ H1 e1 rfl⟩
/-- -n -/
theorem g_neg {i : Int} (h : Ge X E ex ss a (dI i)) : Ge X E ex ss (.UnaryOp .USub a pos) (dI (-i)) := ge_pe (fun x hx => pe_un un_neg (wpE_pe hx)) (gv_un h fun S H x _ hx Q q => ⟨i, hx, q _ H (Same.refl H) rfl⟩)
/-- in a list, a tuple, of plain values -/
theorem rn_in {neg : Bool} {u : V} {us : List V} (hu : flatV u = true) (hus : us.all flatV = true) : R2G (rIn K neg) (dV u) (dLs K (us.map dV)) (dB (if neg then !inV u us else inV u us)) := fun S H x y _ hx hy Q q => by
  have hx : x = u := hx
  subst hx
  obtain ⟨p, vs, rfl, sq, r⟩ := hy
  have e : vs = us := by have := r.plain (f := id); simpa using this
  subst e
  exact ⟨p, vs, rfl, .inl ((wd_same S H).seq sq), hu, hus, q _ H (Same.refl H) rfl⟩
theorem rn_inT {neg : Bool} {u : V} {us : List V} (hu : flatV u = true) (hus : us.all flatV = true) : R2G (rIn K neg) (dV u) (dTs K (us.map dV)) (dB (if neg then !inV u us else inV u us)) := fun S H x y _ hx hy Q q => by
  have hx : x = u := hx
  subst hx
  obtain ⟨p, vs, rfl, sq, r⟩ := hy
  have e : vs = us := by have := r.plain (f := id); simpa using this
  subst e
  exact ⟨p, vs, rfl, .inr (seqT (wd_same S H) sq), hu, hus, q _ H (Same.refl H) rfl⟩
theorem g_inLs (C : Ctx X P w K mg base N kd k E) {u : V} {us : List V} (ha : Ge X E ex ss a (dV u)) (hb : Ge X E ex ss b (dLs K (us.map dV))) (hu : flatV u = true) (hus : us.all flatV = true) (hm : behindInMarks .In b = false := by rfl) : Ge X E ex ss (.Compare a [.In] [b] pos) (dB (inV u us)) :=
  g_cmp (r := rIn K false) (fun x hx => by rw [← C.frag x hx]; exact op_in_seq) ha hb (rn_in hu hus) hm
theorem g_ninLs (C : Ctx X P w K mg base N kd k E) {u : V} {us : List V} (ha : Ge X E ex ss a (dV u)) (hb : Ge X E ex ss b (dLs K (us.map dV))) (hu : flatV u = true) (hus : us.all flatV = true) (hm : behindInMarks .NotIn b = false := by rfl) : Ge X E ex ss (.Compare a [.NotIn] [b] pos) (dB (!inV u us)) :=
  g_cmp (r := rIn K true) (fun x hx => by rw [← C.frag x hx]; exact op_notIn_seq) ha hb (rn_in hu hus) hm
theorem t_inLs (C : Ctx X P w K mg base N kd k E) {u : V} {us : List V} (ha : Ge X E ex ss a (dV u)) (hb : Ge X E ex ss b (dLs K (us.map dV))) (hu : flatV u = true) (hus : us.all flatV = true) (hm : behindInMarks .In b = false := by rfl) : Gt X E ex ss (.Compare a [.In] [b] pos) (inV u us) :=
  t_cmp (r := rIn K false) (fun x hx => by rw [← C.frag x hx]; exact op_in_seq) ha hb (rn_in hu hus) hm
theorem g_inTs (C : Ctx X P w K mg base N kd k E) {u : V} {us : List V} (ha : Ge X E ex ss a (dV u)) (hb : Ge X E ex ss b (dTs K (us.map dV))) (hu : flatV u = true) (hus : us.all flatV = true) (hm : behindInMarks .In b = false := by rfl) : Ge X E ex ss (.Compare a [.In] [b] pos) (dB (inV u us)) :=
  g_cmp (r := rIn K false) (fun x hx => by rw [← C.frag x hx]; exact op_in_seq) ha hb (rn_inT hu hus) hm
theorem g_ninTs (C : Ctx X P w K mg base N kd k E) {u : V} {us : List V} (ha : Ge X E ex ss a (dV u)) (hb : Ge X E ex ss b (dTs K (us.map dV))) (hu : flatV u = true) (hus : us.all flatV = true) (hm : behindInMarks .NotIn b = false := by rfl) : Ge X E ex ss (.Compare a [.NotIn] [b] pos) (dB (!inV u us)) :=
  g_cmp (r := rIn K true) (fun x hx => by rw [← C.frag x hx]; exact op_notIn_seq) ha hb (rn_inT hu hus) hm
theorem t_inTs (C : Ctx X P w K mg base N kd k E) {u : V} {us : List V} (ha : Ge X E ex ss a (dV u)) (hb : Ge X E ex ss b (dTs K (us.map dV))) (hu : flatV u = true) (hus : us.all flatV = true) (hm : behindInMarks .In b = false := by rfl) : Gt X E ex ss (.Compare a [.In] [b] pos) (inV u us) :=
  t_cmp (r := rIn K false) (fun x hx => by rw [← C.frag x hx]; exact op_in_seq) ha hb (rn_inT hu hus) hm
theorem inV_ints (i : Int) (l : List Int) : inV (.int i) (l.map V.int) = decide (i ∈ l) := by
  unfold inV
  rw [List.any_map]
  by_cases h : i ∈ l
  · rw [decide_eq_true h, List.any_eq_true]
    exact ⟨i, h, by simp [eqV]⟩
  · rw [decide_eq_false h, List.any_eq_false]
    intro j hj e
    have e : eqV (.int j) (.int i) = true := e
    exact h (by simp [eqV] at e; rw [← e]; exact hj)
theorem inV_strs (x : List UInt8) (l : List (List UInt8)) : inV (.str (sU x)) (l.map fun b => V.str (sU b)) = decide (x ∈ l) := by
  unfold inV
  rw [List.any_map]
  by_cases h : x ∈ l
  · rw [decide_eq_true h, List.any_eq_true]
    exact ⟨x, h, by simp [eqV]⟩
  · rw [decide_eq_false h, List.any_eq_false]
    intro j hj e
    have e : eqV (.str (sU j)) (.str (sU x)) = true := e
    exact h (by simp [eqV] at e; rw [← sU_inj e]; exact hj)
/-- is None, is not None -/
theorem g_isN {j pos'} {o : Bool} (h : Ge X E ex ss a d) (hd : ∀ W v, d.p W v → decide (v = .non) = o) : Ge X E ex ss (.Compare a [.Is] [.Constant .none j pos'] pos) (dB o) :=
  ge_pe (fun x hx => pe_cmp (pc_isN (wpE_pe hx)) rfl) fun S H σ ok er Q q => h S H σ ok er _ fun v H1 e1 pv => q _ H1 e1 (by rw [hd _ _ pv]; rfl)
theorem g_notN {j pos'} {o : Bool} (h : Ge X E ex ss a d) (hd : ∀ W v, d.p W v → decide (v = .non) = o) : Ge X E ex ss (.Compare a [.IsNot] [.Constant .none j pos'] pos) (dB (!o)) :=
  ge_pe (fun x hx => pe_cmp (pc_notN (wpE_pe hx)) rfl) fun S H σ ok er Q q => h S H σ ok er _ fun v H1 e1 pv => q _ H1 e1 (by rw [hd _ _ pv]; rfl)
theorem t_isN {j pos'} {o : Bool} (h : Ge X E ex ss a d) (hd : ∀ W v, d.p W v → decide (v = .non) = o) : Gt X E ex ss (.Compare a [.Is] [.Constant .none j pos'] pos) o :=
  gt_pt (fun x hx => pt_cmp (pc_isN (wpE_pe hx)) rfl) (gb_B fun S H σ ok er Q q => h S H σ ok er _ fun v H1 e1 pv => q _ H1 e1 (by rw [hd _ _ pv]; rfl))
theorem t_notN {j pos'} {o : Bool} (h : Ge X E ex ss a d) (hd : ∀ W v, d.p W v → decide (v = .non) = o) : Gt X E ex ss (.Compare a [.IsNot] [.Constant .none j pos'] pos) (!o) :=
  gt_pt (fun x hx => pt_cmp (pc_notN (wpE_pe hx)) rfl) (gb_B fun S H σ ok er Q q => h S H σ ok er _ fun v H1 e1 pv => q _ H1 e1 (by rw [hd _ _ pv]; rfl))
theorem non_T {ds : List D} : ∀ W v, (dT ds).p W v → decide (v = .non) = false := fun W v ⟨a, vs, h, _⟩ => by rw [h]; rfl
theorem non_O {Cl : Addr} {ns : List Str} {ds : List D} : ∀ W v, (dO Cl ns ds).p W v → decide (v = .non) = false := fun W v ⟨a, dx, vs, h, _⟩ => by rw [h]; rfl
theorem non_N : ∀ W v, dN.p W v → decide (v = .non) = true := fun W v h => by rw [show v = .non from h]; rfl
/-- of lists of plain values against []: ==, != -/
theorem dp_vals {W : Hp} {α : Type} (f : α → V) (g : α → PyData) (hfg : ∀ a, Dp K W (f a) (g a)) : ∀ l : List α, DpAll K W (l.map f) (l.map g)
  | [] => .nil
  | a :: r => .cons (hfg a) (dp_vals f g hfg r)
end
end Tr
namespace Tr
open PySem PySem.Spec PyProof.Rows L2
theorem bitAnd_nat (a b : Nat) : Builtin.bitAnd (a : Int) (b : Int) = ((a &&& b : Nat) : Int) := by
  unfold Builtin.bitAnd
  have h1 : (0 : Int) ≤ (a : Int) := Int.natCast_nonneg a
  have h2 : (0 : Int) ≤ (b : Int) := Int.natCast_nonneg b
  rw [decide_eq_true h1, decide_eq_true h2]
  rfl
theorem bitOr_nat (a b : Nat) : Builtin.bitOr (a : Int) (b : Int) = ((a ||| b : Nat) : Int) := by
  have key : ∀ n : Nat, decide ((0 : Int) ≤ Builtin.bitNot (n : Int)) = false := fun n => decide_eq_false (by show ¬ (0 : Int) ≤ -(n : Int) - 1; omega)
  have nn : ∀ n : Nat, Builtin.bitNot (Builtin.bitNot (n : Int)) = (n : Int) := fun n => by show -(-(n : Int) - 1) - 1 = (n : Int); omega
  unfold Builtin.bitOr Builtin.bitAnd
  rw [key a, key b]
  show Builtin.bitNot (Builtin.bitNot (((Builtin.bitNot (Builtin.bitNot (a : Int))).toNat ||| (Builtin.bitNot (Builtin.bitNot (b : Int))).toNat : Nat) : Int)) = _
  rw [nn a, nn b, nn]
  rfl
theorem shr_nat (a k : Nat) : (a : Int) / 2 ^ ((k : Int)).toNat = ((a >>> k : Nat) : Int) := by
  rw [Nat.shiftRight_eq_div_pow, Int.toNat_natCast]
  simp
theorem shl_nat (a k : Nat) : (a : Int) * 2 ^ ((k : Int)).toNat = ((a <<< k : Nat) : Int) := by
  rw [Nat.shiftLeft_eq, Int.toNat_natCast]
  simp
section
variable {X : CS} {P : Program} {w : World} {K : PySem.W.Frag} {mg : Str → Option Value} {base : Heap} {N : List Str} {kd : Str → Option NameKind} {k : Nat} {E : XK} {ex : Er → Prop} {ss : List (Option D)} {da db dc d : D} {a b c e : Expr} {p p1 p2 pos apos : Pos} {ds es : List D} {m n : Nat}
theorem g_andN (ha : Ge X E ex ss a (dI (m : Int))) (hb : Ge X E ex ss b (dI (n : Int))) : Ge X E ex ss (.BinOp a .BitAnd b pos) (dI ((m &&& n : Nat) : Int)) := by
  have q := g_and (pos := pos) ha hb
  rw [bitAnd_nat] at q
  exact q
theorem g_orN (ha : Ge X E ex ss a (dI (m : Int))) (hb : Ge X E ex ss b (dI (n : Int))) : Ge X E ex ss (.BinOp a .BitOr b pos) (dI ((m ||| n : Nat) : Int)) := by
  have q := g_or (pos := pos) ha hb
  rw [bitOr_nat] at q
  exact q
theorem g_shrN (ha : Ge X E ex ss a (dI (m : Int))) (hb : Ge X E ex ss b (dI (n : Int))) : Ge X E ex ss (.BinOp a .RShift b pos) (dI ((m >>> n : Nat) : Int)) := by
  have q := g_shr (pos := pos) ha hb (Int.natCast_nonneg n)
  rw [shr_nat] at q
  exact q
theorem g_shlN (ha : Ge X E ex ss a (dI (m : Int))) (hb : Ge X E ex ss b (dI (n : Int))) (h1 : m < 2 ^ 64) (h2 : n ≤ 1000000) : Ge X E ex ss (.BinOp a .LShift b pos) (dI ((m <<< n : Nat) : Int)) := by
  have q := g_shl (pos := pos) ha hb ⟨Int.natCast_nonneg n, by omega, by simpa using h1⟩
  rw [shl_nat] at q
  exact q
theorem bit_is (m n : Nat) : ((m >>> n) &&& 1 : Nat) = m / 2 ^ n % 2 := by
  rw [Nat.and_one_is_mod, Nat.shiftRight_eq_div_pow]
/-- m >> n & 1 -/
theorem g_bit (ha : Ge X E ex ss a (dI (m : Int))) (hb : Ge X E ex ss b (dI (n : Int))) {j} : Ge X E ex ss (.BinOp (.BinOp a .RShift b p1) .BitAnd (.Constant (.int 1) j p2) pos) (dI ((m / 2 ^ n % 2 : Nat) : Int)) := by
  have q := g_andN (pos := pos) (g_shrN (pos := p1) ha hb) (n := 1) (g_int (pos := p2) (j := j))
  rw [bit_is] at q
  exact q
theorem dec_one (x : Nat) : decide (V.int ((x : Nat) : Int) = V.int 1) = (x == 1) := by
  by_cases h : x = 1
  · subst h; rfl
  · rw [decide_eq_false fun e => h (by have := V.int.inj e; omega)]
    simp [h]
theorem dec_zero (x : Nat) : decide (V.int ((x % 2 : Nat) : Int) = V.int 0) = !(x % 2 == 1) := by
  have h2 : x % 2 = 0 ∨ x % 2 = 1 := by omega
  rcases h2 with h | h
  · rw [h]; rfl
  · rw [h]; rfl
/-- m >> n & 1 == 1; == 0 -/
theorem t_bit1 (ha : Ge X E ex ss a (dI (m : Int))) (hb : Ge X E ex ss b (dI (n : Int))) {j j'} {p3 p4 : Pos} : Gt X E ex ss (.Compare (.BinOp (.BinOp a .RShift b p1) .BitAnd (.Constant (.int 1) j p2) p3) [.Eq] [.Constant (.int 1) j' p4] pos) (m / 2 ^ n % 2 == 1) := by
  have q := t_eq (pos := pos) (g_bit (pos := p3) (p1 := p1) (p2 := p2) (j := j) ha hb) (g_int (pos := p4) (j := j') (i := 1))
  rw [dec_one] at q
  exact q
theorem t_bit0 (ha : Ge X E ex ss a (dI (m : Int))) (hb : Ge X E ex ss b (dI (n : Int))) {j j'} {p3 p4 : Pos} : Gt X E ex ss (.Compare (.BinOp (.BinOp a .RShift b p1) .BitAnd (.Constant (.int 1) j p2) p3) [.Eq] [.Constant (.int 0) j' p4] pos) (!(m / 2 ^ n % 2 == 1)) := by
  have q := t_eq (pos := pos) (g_bit (pos := p3) (p1 := p1) (p2 := p2) (j := j) ha hb) (g_int (pos := p4) (j := j') (i := 0))
  rw [dec_zero] at q
  exact q
/-- range(n), of any int -/
theorem gi_range (C : Ctx X P w K mg base N kd k E) {tg a : Expr} {i : Int} (hm : mg "range" = none) (h : Ge X E ex ss a (dI i)) (hz : -(2 ^ 62) ≤ i ∧ i < 2 ^ 62) (hg : kd "range" = some .globalImplicit := by rfl) (hs : ∀ env, starEach [a] env = [(false, eval a env)] := by intro _; rfl) :
    Gi X E ex ss tg (.Call (.Name "range" p) [a] [] pos) (rngD 0 i.toNat) := fun S H σ ok er R q => by
  refine wpI_of (t := iRng1 (tCons (wpE X a) tNil)) (fun x hx => pi_range1 (C.gl hx hg) (by rw [C.names x hx]; exact hm) (pa_cons (wpE_pe hx) pa_nil (hs x.env)) (hs x.env)) ?_
  refine h S H σ ok er _ fun v H1 e1 pv => ?_
  have pv : v = .int i := pv
  subst pv
  refine ⟨i, rfl, by omega, by omega, q _ H1 e1 ?_⟩
  rw [rngD_len]
  exact (walk_range (lo := 0) (n := i.toNat)).mono (fun _ _ => trivial) fun i Ha x Hb hi _ y => by
    obtain ⟨rfl, rfl⟩ := y
    exact ⟨Same.refl _, _, rngD_get hi, fun _ _ _ => rfl⟩
theorem rngD0 (n : Nat) : rngD 0 n = (List.range n).map fun (i : Nat) => dI (i : Int) := by
  unfold rngD
  refine List.map_congr_left fun i _ => ?_
  rw [Int.zero_add]
/-- range(n): its numbers as naturals -/
theorem gi_rangeN (C : Ctx X P w K mg base N kd k E) {tg a : Expr} {n : Nat} (hm : mg "range" = none) (h : Ge X E ex ss a (dI (n : Int))) (hz : n < 2 ^ 62) (hg : kd "range" = some .globalImplicit := by rfl) (hs : ∀ env, starEach [a] env = [(false, eval a env)] := by intro _; rfl) :
    Gi X E ex ss tg (.Call (.Name "range" p) [a] [] pos) ((List.range n).map fun (i : Nat) => dI (i : Int)) := by
  rw [← rngD0]
  exact gi_range1 C hm h hz hg hs
end

/-! ### statements that change what is owned -/
section
variable {X : CS} {P : Program} {w : World} {K : PySem.W.Frag} {mg : Str → Option Value} {base : Heap} {N : List Str} {kd : Str → Option NameKind} {k : Nat} {E : XK} {ex : Er → Prop} {ss ss' : List (Option D)} {d : D} {ds es : List D} {pos p1 p2 apos : Pos}
  {B : Hp} {S q : List Addr} {H : Hp} {σ : Sg} {o : Ow} {Dn : Ends} {r : List Stmt} {e : Expr} {a : Addr} {i : Nat} {y : Str}
/-- what an expression gives, here -/
def Ev (X : CS) (S : List Addr) (H : Hp) (σ : Sg) (e : Expr) (d : D) : Prop := ∀ Q : VK, (∀ v H', Same H H' → d.p (wd S H') v → Q v H') → wpE X e σ H Q
def Et (X : CS) (H : Hp) (σ : Sg) (e : Expr) (b : Bool) : Prop := ∀ Q : Bool → Hp → Prop, (∀ H', Same H H' → Q b H') → wpT X e σ H Q
theorem ev_ge (ok : Okf B S q H σ ss o) (er : Errs E ex B) (g : Ge X E ex ss e d) : Ev X (q ++ S) H σ e d := fun Q h => g _ H σ ok.ok (er.at ok.ex) Q h
theorem et_gt {b : Bool} (ok : Okf B S q H σ ss o) (er : Errs E ex B) (g : Gt X E ex ss e b) : Et X H σ e b := fun Q h => g _ H σ ok.ok (er.at ok.ex) Q h
/-- x.append(e) -/
theorem st_app (C : Ctx X P w K mg base N kd k E) (ok : Okf B S (a :: q) H σ ss ((i, oL ds) :: o)) (g : Ev X (a :: q ++ S) H σ e d) (hz : ds.length < 1000000)
    (kk : ∀ H', Okf B S (a :: q) H' σ ss ((i, oL (ds ++ [d])) :: o) → wpS X r Dn σ H') (hN : N[i]? = some y := by rfl) (hv : Seen kd y := by first | exact Or.inl rfl | exact Or.inr (Or.inl rfl))
    (hd : (y == ("__debug__" : Str)) = false := by decide) (hcd : (y == ("__classdict__" : Str)) = false := by decide) (hs : ∀ env, starEach [e] env = (false, eval e env) :: starEach [] env := by intro _; rfl)
    (hfew : ∀ env, ((backTo p2 (starEach [e] env)).all (fun x => !x.1) && (backToKw p2 (keywordEach [] env)).all (fun x => x.1.isSome) && decide ([e].length + ([] : List Keyword).length + (if ([] : List Keyword).isEmpty then 0 else 1) < 30)) = true := by intro _; rfl)
    (hb : ∀ env, attributeBase (.Name y p1) "append" env (eval (.Name y p1) env) = eval (.Name y p1) env := by intro _; rfl) (hl : (apos.endLine == p2.line) = true := by rfl)
    (hsw : ∀ env, swapsWith (.Call (.Attribute (.Name y p1) "append" apos) [e] [] p2) none pos.line env = pure false := by intro _; rfl) :
    wpS X (.Expr (.Call (.Attribute (.Name y p1) "append" apos) [e] [] p2) pos :: r) Dn σ H := by
  refine wpS_cons (t := tDrop (tBM K "list" rAppend (tVar i) (tCons (wpE X e) tNil))) (fun x hx => by rw [← C.frag x hx]; exact ps_expr (pe_bm PySem.F.plainAttrs_list PySem.F.slot_list_append PySem.F.type_list_append mt_append (pe_var (i := i) (by rw [C.slots x hx]; exact hN) (C.vis x hx _ hv) hd hcd) (pa_cons (wpE_pe hx) pa_nil (hs x.env)) (hbase := hb x.env) (hs := hs x.env) (hfew := hfew x.env) (hline := hl)) (hsw x.env)) ?_
  obtain ⟨h1, ⟨u, h2, vs, rfl, h3⟩, h4⟩ := ok.own
  refine ⟨_, h1, .inl ⟨rfl, _, SqL.of h2⟩, ?_⟩
  refine g _ fun v H1 e1 pv => ⟨a, vs, v, rfl, rfl, e1 _ _ h2, by rw [h3.len, sizeLine_eq]; omega, ?_⟩
  exact kk _ ((ok.up e1).own_put ⟨_, rfl, (h3.up (wd_mono e1)).snoc pv⟩)
/-- x.extend(e), e another list -/
theorem st_ext (C : Ctx X P w K mg base N kd k E) (ok : Okf B S (a :: q) H σ ss ((i, oL ds) :: o)) (g : Ev X (a :: q ++ S) H σ e (dL es)) (hz : ds.length + es.length ≤ 1000000)
    (kk : ∀ H', Okf B S (a :: q) H' σ ss ((i, oL (ds ++ es)) :: o) → wpS X r Dn σ H') (hN : N[i]? = some y := by rfl) (hv : Seen kd y := by first | exact Or.inl rfl | exact Or.inr (Or.inl rfl))
    (hd : (y == ("__debug__" : Str)) = false := by decide) (hcd : (y == ("__classdict__" : Str)) = false := by decide) (hs : ∀ env, starEach [e] env = (false, eval e env) :: starEach [] env := by intro _; rfl)
    (hfew : ∀ env, ((backTo p2 (starEach [e] env)).all (fun x => !x.1) && (backToKw p2 (keywordEach [] env)).all (fun x => x.1.isSome) && decide ([e].length + ([] : List Keyword).length + (if ([] : List Keyword).isEmpty then 0 else 1) < 30)) = true := by intro _; rfl)
    (hb : ∀ env, attributeBase (.Name y p1) "extend" env (eval (.Name y p1) env) = eval (.Name y p1) env := by intro _; rfl) (hl : (apos.endLine == p2.line) = true := by rfl)
    (hsw : ∀ env, swapsWith (.Call (.Attribute (.Name y p1) "extend" apos) [e] [] p2) none pos.line env = pure false := by intro _; rfl) :
    wpS X (.Expr (.Call (.Attribute (.Name y p1) "extend" apos) [e] [] p2) pos :: r) Dn σ H := by
  refine wpS_cons (t := tDrop (tBM K "list" rExtend (tVar i) (tCons (wpE X e) tNil))) (fun x hx => by rw [← C.frag x hx]; exact ps_expr (pe_bm PySem.F.plainAttrs_list PySem.F.slot_list_extend PySem.F.type_list_extend mt_extend (pe_var (i := i) (by rw [C.slots x hx]; exact hN) (C.vis x hx _ hv) hd hcd) (pa_cons (wpE_pe hx) pa_nil (hs x.env)) (hbase := hb x.env) (hs := hs x.env) (hfew := hfew x.env) (hline := hl)) (hsw x.env)) ?_
  obtain ⟨h1, ⟨u, h2, vs, rfl, h3⟩, h4⟩ := ok.own
  refine ⟨_, h1, .inl ⟨rfl, _, SqL.of h2⟩, ?_⟩
  refine g _ fun v H1 e1 pv => ?_
  obtain ⟨b, us, rfl, hb', hr⟩ := pv
  refine ⟨a, b, vs, us, rfl, rfl, e1 _ _ h2, wd_same _ H1 _ _ hb', by rw [h3.len, hr.len, sizeLine_eq]; omega, ?_⟩
  exact kk _ ((ok.up e1).own_put ⟨_, rfl, (h3.up (wd_mono e1)).app hr⟩)
/-- with what is owned first in sight as a list: its answer does not lean on it -/
def Free (κ : HO → Prop) (d : D) : Prop := ∀ (W : Hp) (v : V) (p : Addr) (u : HO), W p = some u → κ u → d.p W v → d.p (wd [p] W) v
def isLst : HO → Prop
  | .lst _ => True
  | _ => False
def isDK : HO → Prop
  | .dK _ => True
  | _ => False
theorem free_V {κ : HO → Prop} {v : V} : Free κ (dV v) := fun _ _ _ _ _ _ h => h
theorem free_Reps {κ : HO → Prop} {W : Hp} {p : Addr} {u : HO} (hp : W p = some u) (hk : κ u) : ∀ {vs : List V} {ds : List D}, (∀ d ∈ ds, Free κ d) → Reps W vs ds → Reps (wd [p] W) vs ds
  | [], [], _, _ => trivial
  | _ :: _, d :: _, h, r => ⟨h d List.mem_cons_self W _ p u hp hk r.1, free_Reps hp hk (fun d' m => h d' (List.mem_cons_of_mem _ m)) r.2⟩
  | [], _ :: _, _, r => r.elim
  | _ :: _, [], _, r => r.elim
theorem free_T {κ : HO → Prop} {ds : List D} (hκ : ∀ xs, ¬ κ (.tup xs)) (h : ∀ d ∈ ds, Free κ d) : Free κ (dT ds) := fun W v p u hp hk ⟨a, vs, h1, h2, h3⟩ => by
  refine ⟨a, vs, h1, ?_, free_Reps hp hk h h3⟩
  rw [wd_out fun z => ?_]
  · exact h2
  · have e : a = p := by simpa using z
    rw [e, hp] at h2
    cases h2
    exact hκ _ hk
theorem free_L {κ : HO → Prop} {ds : List D} (hκ : ∀ xs, ¬ κ (.lst xs)) (h : ∀ d ∈ ds, Free κ d) : Free κ (dL ds) := fun W v p u hp hk ⟨a, vs, h1, h2, h3⟩ => by
  refine ⟨a, vs, h1, ?_, free_Reps hp hk h h3⟩
  rw [wd_out fun z => ?_]
  · exact h2
  · have e : a = p := by simpa using z
    rw [e, hp] at h2
    cases h2
    exact hκ _ hk
/-- a dict with keys that are ints and texts -/
def dM (kvs : List (Key × D)) : D := ⟨fun W v => ∃ a vs, v = .ref a ∧ W a = some (.dK ((kvs.map Prod.fst).zip vs)) ∧ Reps W vs (kvs.map Prod.snd), fun e ⟨a, vs, h1, h2, h3⟩ => ⟨a, vs, h1, e _ _ h2, h3.up e⟩⟩
theorem wd_wd (S T : List Addr) (H : Hp) : wd S (wd T H) = wd (S ++ T) H := by
  funext b
  by_cases h1 : b ∈ S
  · rw [wd_in h1, wd_in (List.mem_append_left _ h1)]
  · rw [wd_out h1]
    by_cases h2 : b ∈ T
    · rw [wd_in h2, wd_in (List.mem_append_right _ h2)]
    · rw [wd_out h2, wd_out fun z => (List.mem_append.mp z).elim h1 h2]
theorem Okf.seen {od : OD} {dv : D} (ok : Okf B S (a :: q) H σ ss ((i, od) :: o)) (hod : ∀ W h, W a = some h → od.p W h → dv.p W (.ref a)) : Ok (q ++ S) H σ (ss.set i (some dv)) := by
  obtain ⟨h1, ⟨u, h2, h3⟩, h4⟩ := ok.own
  have hout : ¬ a ∈ q ++ S := fun z => by
    rcases List.mem_append.mp z with z | z
    · exact (List.nodup_cons.mp ok.nd).1 z
    · exact ok.hid a z (ok.new a List.mem_cons_self)
  have sm : Same (wd (a :: q ++ S) H) (wd (q ++ S) H) := wd_less fun b hb => List.mem_cons_of_mem _ hb
  refine ⟨fun b hb => ok.ok.hid b (List.mem_cons_of_mem _ hb), ?_⟩
  have s := (ok.sl.up sm).set (v := .ref a) (d := dv) (i := i) (hod _ u (by rw [wd_out hout]; exact h2) (od.up sm h3))
  have e : σ.set i (some (.ref a)) = σ := by
    refine List.ext_getElem? fun j => ?_
    by_cases hj : i = j
    · subst hj
      have hl := (List.getElem?_eq_some_iff.mp h1).1
      rw [List.getElem?_set_self hl, h1]
    · rw [List.getElem?_set_ne hj]
  rw [e] at s
  exact s
theorem ev_seen {od : OD} {dv : D} {κ : HO → Prop} (ok : Okf B S (a :: q) H σ ss ((i, od) :: o)) (er : Errs E ex B) (hod : ∀ W h, W a = some h → od.p W h → dv.p W (.ref a)) (hκ : ∀ W h, od.p W h → κ h) (g : Ge X E ex (ss.set i (some dv)) e d) (hf : Free κ d) : Ev X (a :: q ++ S) H σ e d := fun Q k => by
  have hout : ¬ a ∈ q ++ S := fun z => by
    rcases List.mem_append.mp z with z | z
    · exact (List.nodup_cons.mp ok.nd).1 z
    · exact ok.hid a z (ok.new a List.mem_cons_self)
  obtain ⟨h1, ⟨u, h2, h3⟩, h4⟩ := ok.own
  refine g _ H σ (ok.seen hod) (er.at ok.ex) _ fun v H1 e1 pv => k v H1 e1 ?_
  have z := hf _ v a u (by rw [wd_out hout]; exact e1 _ _ h2) (hκ _ _ h3) pv
  rw [wd_wd] at z
  exact z
theorem et_seen {od : OD} {dv : D} {b : Bool} (ok : Okf B S (a :: q) H σ ss ((i, od) :: o)) (er : Errs E ex B) (hod : ∀ W h, W a = some h → od.p W h → dv.p W (.ref a)) (g : Gt X E ex (ss.set i (some dv)) e b) : Et X H σ e b := fun Q k => g _ H σ (ok.seen hod) (er.at ok.ex) _ k
theorem oL_dL {ds : List D} : ∀ W h, W a = some h → (oL ds).p W h → (dL ds).p W (.ref a) := fun W h e ⟨vs, h1, h2⟩ => ⟨a, vs, rfl, by rw [e, h1], h2⟩
theorem oM_dM {kvs : List (Key × D)} : ∀ W h, W a = some h → (oM kvs).p W h → (dM kvs).p W (.ref a) := fun W h e ⟨vs, h1, h2⟩ => ⟨a, vs, rfl, by rw [e, h1], h2⟩
theorem oL_is {ds : List D} : ∀ W h, (oL ds).p W h → isLst h := fun W h ⟨vs, h1, _⟩ => by rw [h1]; trivial
theorem oM_is {kvs : List (Key × D)} : ∀ W h, (oM kvs).p W h → isDK h := fun W h ⟨vs, h1, _⟩ => by rw [h1]; trivial
/-- statements by what an expression gives here -/
theorem se_set (C : Ctx X P w K mg base N kd k E) (i : Nat) {y : Str} {pos' : Pos} (ok : Okf B S q H σ ss o) (g : Ev X (q ++ S) H σ e d)
    (k : ∀ H' σ', Okf B S q H' σ' (ss.set i (some d)) o → wpS X r Dn σ' H') (ho : offO o [i] = true := by rfl) (hN : N[i]? = some y := by rfl) (hl : Own1 kd y := by first | exact Or.inl rfl | exact Or.inr rfl)
    (hs : ∀ env, swapsWith e (some (.Name y pos')) pos.line env = pure false := by intro _; rfl) : wpS X (.Assign [.Name y pos'] e pos :: r) Dn σ H :=
  wpS_cons (fun x hx => ps_set (i := i) (by rw [C.slots x hx]; exact C.nd) (by rw [C.slots x hx]; exact hN) (C.lo hx hl) (wpE_pe hx) (hs x.env) (C.fnl hx hl)) (g _ fun v H1 e1 pv =>
    k H1 _ (ok.store (is := [i]) e1 (Off.set (by simp)) ⟨(ok.up e1).ok.hid, (ok.up e1).ok.sl.set pv⟩ ho))
theorem se_asg {tg : Expr} {is : List Nat} (ok : Okf B S q H σ ss o) (g : Ev X (q ++ S) H σ e d) (hg : Gg X tg d is ss ss') (k : ∀ H' σ', Okf B S q H' σ' ss' o → wpS X r Dn σ' H') (ho : offO o is = true := by rfl)
    (hs : ∀ env, swapsWithSole [tg] e pos.line env = pure false := by intro _; rfl) (hw : ∀ env, swappedStores [tg] e env = pure none := by intro _; rfl) (h1 : ∀ env, (assignEach [tg] env).map (·.2) = [assign tg env] := by intro _; rfl) :
    wpS X (.Assign [tg] e pos :: r) Dn σ H :=
  wpS_cons (fun x hx => ps_asg (wpE_pe hx) (wpG_pg hx) (hs x.env) (hw x.env) (h1 x.env)) (g _ fun v H1 e1 pv =>
    hg _ H1 σ v (ok.up e1).ok pv _ fun σ' H' e2 f ok' => k H' σ' (ok.store (e1.trans e2) f ok' ho))
theorem se_ret (ok : Okf B S q H σ ss o) (g : Ev X (q ++ S) H σ e d) (k : ∀ v H', Same B H' → d.p (wd S H') v → Dn.rt v H') : wpS X (.Return (some e) pos :: r) Dn σ H :=
  wpS_cons (fun x hx => ps_ret (wpE_pe hx)) (g _ fun v H1 e1 pv => k v H1 (ok.ex.trans e1) (d.up (wd_less fun b hb => List.mem_append_right _ hb) pv))
theorem se_if {c : Expr} {a b : List Stmt} {t : Bool} (ok : Okf B S q H σ ss o) (g : Et X H σ c t)
    (h1 : t = true → ∀ H', Okf B S q H' σ ss o → wpS X a { Dn with nx := wpS X r Dn } σ H') (h2 : t = false → ∀ H', Okf B S q H' σ ss o → wpS X b { Dn with nx := wpS X r Dn } σ H') : wpS X (.If c a b pos :: r) Dn σ H :=
  wpS_cons (fun x hx => ps_if (wpT_pt hx) (wpS_pss hx) (wpS_pss hx)) (g _ fun H1 e1 => by
    cases t with
    | true => exact iteT (h1 rfl H1 (ok.up e1))
    | false => exact iteF (h2 rfl H1 (ok.up e1)))
end
end Tr
namespace Tr
open PySem PySem.Spec PyProof.Rows L2

/-! ### list(d.values()) -/
def tListVals (td : TE) : TE := fun σ H Q => td σ H fun x H1 => ∃ a kvs, x = V.ref a ∧ H1 a = some (.dK kvs) ∧ ∀ l, H1 l = none → Q (.ref l) (upd H1 l (.lst (kvs.map Prod.snd)))
section
variable {X : Cx} {o : Expr} {p pos apos mpos : Pos} {td : TE}
theorem KV.vals {κ : Type} : ∀ {kvs : List (κ × V)} {vs : List (κ × Value)}, KV kvs vs → Vals (kvs.map Prod.snd) (vs.map Prod.snd)
  | _, _, .nil => .nil
  | _, _, .cons r t => .cons r.2 (KV.vals t)
theorem pe_listVals (hc : X.calm = true) (hg : Gl X "list") (hm : X.mg "list" = none) (hd : PE X o td) (hbase : attributeBase o "values" X.env (eval o X.env) = eval o X.env := by rfl) (hline : (apos.endLine == mpos.line) = true := by rfl)
    (hse : starEach [Expr.Call (.Attribute o "values" apos) [] [] mpos] X.env = (false, eval (Expr.Call (.Attribute o "values" apos) [] [] mpos) X.env) :: starEach [] X.env := by rfl) :
    PE X (.Call (.Name "list" p) [.Call (.Attribute o "values" apos) [] [] mpos] [] pos) (tListVals td) := by
  refine ⟨fun pins s σ H Q I h => ?_⟩
  refine wpAny_Call_Name_kw (ld_blt I hg hm (u := .type "list") (by first | rfl | decide +kernel) ?_ (by first | decide +kernel | decide) (by first | decide +kernel | decide))
  refine PyProof.Rows.callWith_type1 ?_ hse rfl
  show wpAny _ _ (spliced (backTo pos (starEach [Expr.Call (.Attribute o "values" apos) [] [] mpos] X.env))) _ _ _
  rw [hse]
  refine Calls.spliced_cons (wpAny_Call_method0_late hbase hline (thn (hd.run pins s σ H _ I h) fun v s1 ⟨x, H1, I1, r1, a, kvs, ex, ha, q⟩ => ?_))
  subst ex
  obtain rfl : v = Value.ref a := r1
  obtain ⟨hz, hsys, vs, rel, dof⟩ := dk_of I1.hok ha
  obtain ⟨ep, dat⟩ := dof.dictAt
  have dat' := dat
  obtain ⟨ob, es, ho, exd, hdat, hko, hpr, hnd⟩ := dat'
  refine ⟨"dict", "dict.values", F.plainAttrs_dict, F.slot_dict_values, F.type_dict_values, ⟨ob, ho, exd.1⟩, fun b e => ?_, Calls.callWith_builtin rfl (PySem.evalArgs_none ?_)⟩
  · cases e
    exact ⟨ob, ho, exd.2.1⟩
  refine call_meetsIn F.slot_dict_values ⟨ob, ho, exd.1⟩ F.entry_dict_values (F.args_dict_values_1 _) (meets_dict_values (mixKind X.prog X.w) a hsys) ⟨⟨vs, dof⟩, ?_⟩
  refine Calls.spliced_nil ?_
  have k1 : ∀ b u, s1.heap.get? b = some u → (s1.heap.push { cls := .type "dict_values", data := .fields #[.ref a] }).get? b = some u := fun b u e => Heap.get?_push_of_some _ e
  have dat1 : (s1.heap.push { cls := .type "dict_values", data := .fields #[.ref a] }).DictAt (mixKind X.prog X.w) a vs ep := dat.keep k1
  have hlv : vs.length = kvs.length := (KV.length rel).symm
  have I2 : Inv X pins σ H1 { s1 with heap := s1.heap.push { cls := .type "dict_values", data := .fields #[.ref a] } } := I1.kept (t' := s1.toks) k1
  refine PySem.W.kdl_call (s := { s1 with heap := s1.heap.push { cls := .type "dict_values", data := .fields #[.ref a] } }) (PySem.W.kdl_values (prog := X.prog) (w := X.w) (knd := mixKind X.prog X.w) (r := s1.heap.objs.size) (d := a) (kvs := vs) (ep := ep)) (I.ok.hd hc) ⟨⟨_, Heap.get?_push_size _ rfl, rfl, rfl⟩, dat1⟩ (by rw [hlv]; exact hz) fun h' tk acc' c' hk hS hacc => ?_
  have hsz : (s1.heap.push { cls := .type "dict_values", data := .fields #[.ref a] }).objs.size = s1.heap.objs.size + 1 := by rw [Heap.size_push]
  have eacc : acc'.toList = vs.map Prod.snd := by
    refine List.ext_getElem? fun j => ?_
    rw [List.getElem?_map, Array.getElem?_toList]
    cases e : acc'[j]? with
    | none =>
      have hj : vs.length ≤ j := by
        have := Array.getElem?_eq_none_iff.mp e
        rw [hacc.1] at this
        exact this
      rw [List.getElem?_eq_none hj]
      rfl
    | some v =>
      obtain ⟨k, hk⟩ := hacc.2 j v e
      rw [hk]
      rfl
  have hn := I2.hok.fresh (Nat.le_refl _)
  refine ⟨.ref _, _, I2.laid (t' := tk) (o := .lst (kvs.map Prod.snd)) hk (Nat.le_refl _) ⟨by rw [List.length_map]; exact hz, acc'.toList, c', by rw [eacc]; exact KV.vals rel, by rw [Array.toArray_toList]; exact hS⟩, rfl, q _ hn⟩
end

/-! ### dicts with keys that are ints and texts -/
def lookD (kvs : List (Key × D)) (k : Key) : Option D := (kvs.find? fun kv => decide (kv.1 = k)).map Prod.snd
theorem look_zip {W : Hp} {k : Key} : ∀ {kvs : List (Key × D)} {vs : List V}, Reps W vs (kvs.map Prod.snd) →
    (lookD kvs k = none → valV ((kvs.map Prod.fst).zip vs) k = none) ∧ ∀ d, lookD kvs k = some d → ∃ v, valV ((kvs.map Prod.fst).zip vs) k = some v ∧ d.p W v
  | [], [], _ => ⟨fun _ => rfl, fun d h => by simp [lookD] at h⟩
  | (a, b) :: kvs, v :: vs, h => by
    obtain ⟨i1, i2⟩ := look_zip (k := k) (kvs := kvs) (vs := vs) h.2
    show (lookD ((a, b) :: kvs) k = none → valV ((a, v) :: (kvs.map Prod.fst).zip vs) k = none) ∧ ∀ d, lookD ((a, b) :: kvs) k = some d → ∃ u, valV ((a, v) :: (kvs.map Prod.fst).zip vs) k = some u ∧ d.p W u
    by_cases e : a = k
    · have e1 : lookD ((a, b) :: kvs) k = some b := by simp [lookD, List.find?_cons, e]
      have e2 : valV ((a, v) :: (kvs.map Prod.fst).zip vs) k = some v := valV_pos e
      rw [e1, e2]
      refine ⟨fun z => (nomatch z), fun d hd => ⟨v, rfl, ?_⟩⟩
      cases hd
      exact h.1
    · have e1 : lookD ((a, b) :: kvs) k = lookD kvs k := by simp [lookD, List.find?_cons, e]
      have e2 : valV ((a, v) :: (kvs.map Prod.fst).zip vs) k = valV ((kvs.map Prod.fst).zip vs) k := valV_neg e
      rw [e1, e2]
      exact ⟨i1, i2⟩
  | [], _ :: _, h => h.elim
  | _ :: _, [], h => h.elim
/-- in its place, or at the end -/
def putD (kvs : List (Key × D)) (k : Key) (d : D) : List (Key × D) := if (lookD kvs k).isSome = true then kvs.map (fun kv => if kv.1 = k then (kv.1, d) else kv) else kvs ++ [(k, d)]
theorem put_zip {W : Hp} {k : Key} {v : V} {d : D} {kvs : List (Key × D)} {vs : List V} (h : Reps W vs (kvs.map Prod.snd)) (hv : d.p W v) :
    ∃ us, putK ((kvs.map Prod.fst).zip vs) k v = ((putD kvs k d).map Prod.fst).zip us ∧ Reps W us ((putD kvs k d).map Prod.snd) := by
  obtain ⟨h1, h2⟩ := look_zip (k := k) h
  unfold putD
  cases e : lookD kvs k with
  | none =>
    rw [putK_new v (h1 e), if_neg (show ¬ (none : Option D).isSome = true by simp)]
    refine ⟨vs ++ [v], ?_, ?_⟩
    · rw [List.map_append, List.zip_append (by rw [List.length_map, h.len, List.length_map])]
      rfl
    · rw [List.map_append]
      exact h.snoc hv
  | some d0 =>
    obtain ⟨v0, hv0, _⟩ := h2 d0 e
    rw [if_pos (show (some d0).isSome = true from rfl)]
    unfold putK
    rw [if_pos (by rw [valV_any, hv0]; rfl)]
    clear h1 h2 hv0 e
    have go : ∀ (kvs : List (Key × D)) (vs : List V), Reps W vs (kvs.map Prod.snd) → ∃ us, ((kvs.map Prod.fst).zip vs).map (fun kv => if kv.1 = k then (kv.1, v) else kv) = ((kvs.map (fun kv => if kv.1 = k then (kv.1, d) else kv)).map Prod.fst).zip us ∧ Reps W us ((kvs.map (fun kv => if kv.1 = k then (kv.1, d) else kv)).map Prod.snd) := by
      intro kvs
      induction kvs with
      | nil =>
        intro vs h
        cases vs with
        | nil => exact ⟨[], rfl, trivial⟩
        | cons _ _ => exact h.elim
      | cons p kvs ih =>
        intro vs h
        obtain ⟨a, b⟩ := p
        cases vs with
        | nil => exact h.elim
        | cons u vs =>
          obtain ⟨us, e1, e2⟩ := ih vs h.2
          by_cases e : a = k
          · refine ⟨v :: us, ?_, ?_⟩
            · show (if a = k then (a, v) else (a, u)) :: _ = _
              rw [List.map_cons, List.map_cons, if_pos e]
              show (a, v) :: _ = ((if a = k then (a, d) else (a, b)).1, v) :: _
              rw [if_pos e]
              exact congrArg (List.cons (a, v)) e1
            · show Reps W (v :: us) ((if a = k then (a, d) else (a, b)).2 :: _)
              rw [if_pos e]
              exact ⟨hv, e2⟩
          · refine ⟨u :: us, ?_, ?_⟩
            · show (if a = k then (a, v) else (a, u)) :: _ = _
              rw [List.map_cons, List.map_cons, if_neg e]
              show (a, u) :: _ = ((if a = k then (a, d) else (a, b)).1, u) :: _
              rw [if_neg e]
              exact congrArg (List.cons (a, u)) e1
            · show Reps W (u :: us) ((if a = k then (a, d) else (a, b)).2 :: _)
              rw [if_neg e]
              exact ⟨h.1, e2⟩
    exact go kvs vs h
section
variable {X : CS} {P : Program} {w : World} {K : PySem.W.Frag} {mg : Str → Option Value} {base : Heap} {N : List Str} {kd : Str → Option NameKind} {k : Nat} {E : XK} {ex : Er → Prop} {ss ss' : List (Option D)} {da d : D} {a b e : Expr} {pos p p1 p2 apos mpos : Pos} {kvs : List (Key × D)} {z : Int}
theorem Ctx.hu (C : Ctx X P w K mg base N kd k E) {x : Cx} (hx : X x) : x.A.units + 1 < cLine := Nat.lt_of_le_of_lt (Nat.add_le_add_left (by decide : 1 ≤ 64) _) (C.room x hx).units
/-- d[i] -/
theorem g_dget (C : Ctx X P w K mg base N kd k E) (ha : Ge X E ex ss a (dM kvs)) (hb : Ge X E ex ss b (dI z)) (h : lookD kvs (.inl z) = some d) (hs : NoSl b := by exact fun _ _ => rfl) : Ge X E ex ss (.Subscript a b pos) d :=
  ge_pe (fun x hx => pe_dget (C.hu hx) (wpE_pe hx) (wpE_pe hx) hs) fun S H σ ok er Q q => ha S H σ ok er _ fun v H1 e1 pv => hb S H1 σ (ok.up e1) (er.up e1) _ fun u H2 e2 pu => by
    obtain ⟨p, vs, rfl, hp, r⟩ := (dM kvs).up (wd_mono e2) pv
    have pu : u = .int z := pu
    subst pu
    obtain ⟨x, hx, px⟩ := (look_zip (k := .inl z) r).2 d h
    refine ⟨p, x, rfl, ?_, q x H2 (e1.trans e2) px⟩
    have g := DGet.k (k := Sum.inl z) (wd_same S H2 _ _ hp)
    rw [hx] at g
    exact g
theorem gv_din (ha : Ge X E ex ss a (dI z)) (hb : Ge X E ex ss b (dM kvs)) : Gv E ex (tDIn (wpE X a) (wpE X b)) ss (dB (lookD kvs (.inl z)).isSome) := fun S H σ ok er Q q => ha S H σ ok er _ fun u H1 e1 pu => hb S H1 σ (ok.up e1) (er.up e1) _ fun v H2 e2 pv => by
    obtain ⟨p, vs, rfl, hp, r⟩ := pv
    have pu : u = .int z := pu
    subst pu
    have g := DGet.k (k := Sum.inl z) (wd_same S H2 _ _ hp)
    obtain ⟨l1, l2⟩ := look_zip (k := .inl z) r
    cases hl : lookD kvs (.inl z) with
    | none =>
      rw [l1 hl] at g
      exact ⟨p, none, rfl, g, q _ H2 (e1.trans e2) (by rw [hl]; rfl)⟩
    | some d =>
      obtain ⟨x, hx, px⟩ := l2 d hl
      rw [hx] at g
      exact ⟨p, some x, rfl, g, q _ H2 (e1.trans e2) (by rw [hl]; rfl)⟩
theorem gv_dnin (ha : Ge X E ex ss a (dI z)) (hb : Ge X E ex ss b (dM kvs)) : Gv E ex (tDNotIn (wpE X a) (wpE X b)) ss (dB (!(lookD kvs (.inl z)).isSome)) := fun S H σ ok er Q q => ha S H σ ok er _ fun u H1 e1 pu => hb S H1 σ (ok.up e1) (er.up e1) _ fun v H2 e2 pv => by
    obtain ⟨p, vs, rfl, hp, r⟩ := pv
    have pu : u = .int z := pu
    subst pu
    have g := DGet.k (k := Sum.inl z) (wd_same S H2 _ _ hp)
    obtain ⟨l1, l2⟩ := look_zip (k := .inl z) r
    cases hl : lookD kvs (.inl z) with
    | none =>
      rw [l1 hl] at g
      exact ⟨p, none, rfl, g, q _ H2 (e1.trans e2) (by rw [hl]; rfl)⟩
    | some d =>
      obtain ⟨x, hx, px⟩ := l2 d hl
      rw [hx] at g
      exact ⟨p, some x, rfl, g, q _ H2 (e1.trans e2) (by rw [hl]; rfl)⟩
theorem t_dnin (C : Ctx X P w K mg base N kd k E) (ha : Ge X E ex ss a (dI z)) (hb : Ge X E ex ss b (dM kvs)) (hm : behindInMarks .NotIn b = false := by rfl) : Gt X E ex ss (.Compare a [.NotIn] [b] pos) (!(lookD kvs (.inl z)).isSome) :=
  gt_pt (fun x hx => pt_cmp (pc_dnotin (C.hu hx) (wpE_pe hx) (wpE_pe hx)) hm) (gb_B (gv_dnin ha hb))
/-- list(d.values()) -/
theorem g_listVals (C : Ctx X P w K mg base N kd k E) (hm : mg "list" = none) (h : Ge X E ex ss a (dM kvs)) (hg : kd "list" = some .globalImplicit := by rfl) (hbase : ∀ env, attributeBase a "values" env (eval a env) = eval a env := by intro _; rfl) (hline : (apos.endLine == mpos.line) = true := by rfl)
    (hse : ∀ env, starEach [Expr.Call (.Attribute a "values" apos) [] [] mpos] env = (false, eval (Expr.Call (.Attribute a "values" apos) [] [] mpos) env) :: starEach [] env := by intro _; rfl) :
    Ge X E ex ss (.Call (.Name "list" p) [.Call (.Attribute a "values" apos) [] [] mpos] [] pos) (dL (kvs.map Prod.snd)) :=
  ge_pe (fun x hx => pe_listVals (C.calm x hx) (C.gl hx hg) (by rw [C.names x hx]; exact hm) (wpE_pe hx) (hbase x.env) hline (hse x.env)) fun S H σ ok er Q q => h S H σ ok er _ fun v H1 e1 pv => by
    obtain ⟨p, vs, rfl, hp, r⟩ := pv
    refine ⟨p, _, rfl, wd_same S H1 _ _ hp, fun l hl => ?_⟩
    have e : ((kvs.map Prod.fst).zip vs).map Prod.snd = vs := by
      rw [List.map_snd_zip]
      rw [List.length_map, r.len, List.length_map]
      exact Nat.le_refl _
    rw [e]
    exact q _ _ (e1.trans (Same.new hl)) (new_L (ok.up e1).hid hl r)
end
section
variable {X : CS} {P : Program} {w : World} {K : PySem.W.Frag} {mg : Str → Option Value} {base : Heap} {N : List Str} {kd : Str → Option NameKind} {k : Nat} {E : XK} {ex : Er → Prop} {ss ss' : List (Option D)} {d : D} {pos p1 p2 : Pos} {kvs : List (Key × D)} {z : Int}
  {B : Hp} {S q : List Addr} {H : Hp} {σ : Sg} {o : Ow} {Dn : Ends} {r : List Stmt} {e ie : Expr} {a : Addr} {i : Nat} {y : Str}
/-- d[i] = e, d owned -/
theorem st_putM (C : Ctx X P w K mg base N kd k E) (ok : Okf B S (a :: q) H σ ss ((i, oM kvs) :: o)) (er : Errs E ex B) (g : Ev X (a :: q ++ S) H σ e d) (gi : Ge X E ex ss ie (dI z)) (hz : kvs.length < 1000000)
    (kk : ∀ H', Okf B S (a :: q) H' σ ss ((i, oM (putD kvs (.inl z) d)) :: o) → wpS X r Dn σ H') (hN : N[i]? = some y := by rfl) (hv : Seen kd y := by first | exact Or.inl rfl | exact Or.inr (Or.inl rfl))
    (hd : (y == ("__debug__" : Str)) = false := by decide) (hcd : (y == ("__classdict__" : Str)) = false := by decide)
    (hs : ∀ env, swapsWith e (some (.Subscript (.Name y p1) ie p2)) pos.line env = pure false := by intro _; rfl) :
    wpS X (.Assign [.Subscript (.Name y p1) ie p2] e pos :: r) Dn σ H := by
  refine wpS_cons (fun x hx => ps_dput (C.hu hx) (pe_var (i := i) (by rw [C.slots x hx]; exact hN) (C.vis x hx _ hv) hd hcd) (wpE_pe hx) (wpE_pe hx) (hs x.env)) ?_
  obtain ⟨h1, ⟨u, h2, vs, rfl, h3⟩, h4⟩ := ok.own
  refine g _ fun v H1 e1 pv => ⟨_, h1, ?_⟩
  have ok1 := ok.up e1
  refine gi _ H1 σ ok1.ok (er.at ok1.ex) _ fun iv H2 e2 pi => ?_
  have pi : iv = .int z := pi
  subst pi
  have e12 := e1.trans e2
  have hH2 := e12 _ _ h2
  have r2 := h3.up (wd_mono e12)
  obtain ⟨us, eu, ru⟩ := put_zip (k := .inl z) r2 (d.up (wd_mono e2) pv)
  refine ⟨a, _, rfl, DPut.k (k := Sum.inl z) hH2 ?_, ?_⟩
  · rw [List.length_zip, List.length_map, sizeLine_eq]
    omega
  · rw [eu]
    exact kk _ ((ok.up e12).own_put ⟨us, rfl, ru⟩)
end
end Tr
namespace Tr
open PySem PySem.Spec PyProof.Rows L2
theorem made_one {S : List Addr} {H : Hp} {p : Addr} {o : HO} (hp : H p = none) : Same (wd S H) (wd (p :: S) (upd H p o)) := fun b x eb => by
  have hb : ¬ b ∈ S := fun z => by rw [wd_in z] at eb; cases eb
  rw [wd_out hb] at eb
  have hbp : b ≠ p := ne_of_none eb hp
  rw [wd_out (fun z => (List.mem_cons.mp z).elim hbp hb), upd_ne hbp]
  exact eb
section
variable {X : CS} {P : Program} {w : World} {K : PySem.W.Frag} {mg : Str → Option Value} {base : Heap} {N : List Str} {kd : Str → Option NameKind} {k : Nat} {E : XK} {ex : Er → Prop} {ss ss' : List (Option D)} {d : D} {ds : List D} {pos p p1 p2 pr : Pos} {a : Expr} {n : Nat} {z : Int}
/-- reversed(range(n)) -/
theorem gi_revRange (C : Ctx X P w K mg base N kd k E) {tg : Expr} (hm : mg "reversed" = none) (hm2 : mg "range" = none) (h : Ge X E ex ss a (dI (n : Int))) (hz : n < 2 ^ 62) (hg : kd "reversed" = some .globalImplicit := by rfl) (hg2 : kd "range" = some .globalImplicit := by rfl)
    (hs : ∀ env, starEach [Expr.Call (.Name "range" p) [a] [] pr] env = (false, eval (Expr.Call (.Name "range" p) [a] [] pr) env) :: starEach [] env := by intro _; rfl) (hs2 : ∀ env, starEach [a] env = (false, eval a env) :: starEach [] env := by intro _; rfl) :
    Gi X E ex ss tg (.Call (.Name "reversed" p1) [.Call (.Name "range" p) [a] [] pr] [] pos) ((List.range n).map fun (j : Nat) => dI ((n - 1 - j : Nat) : Int)) := fun S H σ ok er R q => by
  refine wpI_of (t := iRevR (tRg1 (wpE X a))) (fun x hx => pi_revR (C.gl hx hg) (by rw [C.names x hx]; exact hm) (prg_1 (C.gl hx hg2) (by rw [C.names x hx]; exact hm2) (wpE_pe hx) (hs2 x.env)) (hs x.env)) ?_
  refine h S H σ ok er _ fun v H1 e1 pv => ?_
  have pv : v = .int n := pv
  subst pv
  refine ⟨n, rfl, by omega, by omega, by omega, by omega, q _ H1 e1 ?_⟩
  rw [List.length_map, List.length_range]
  have e0 : ((n : Int) - 0).toNat = n := by omega
  rw [e0]
  exact (walk_rangeC (lo := 0 + ((n : Nat) : Int) - 1) (c := -1) (n := n)).mono (fun _ _ => trivial) fun i Ha x Hb hi _ y => by
    obtain ⟨rfl, rfl⟩ := y
    refine ⟨Same.refl _, dI ((n - 1 - i : Nat) : Int), ?_, fun _ _ _ => ?_⟩
    · rw [List.getElem?_map, List.getElem?_range hi]
      rfl
    · show V.int _ = V.int _
      congr 1
      omega
/-- list(range(n)) -/
theorem g_listRange (C : Ctx X P w K mg base N kd k E) (hm : mg "list" = none) (hm2 : mg "range" = none) (h : Ge X E ex ss a (dI (n : Int))) (hz : n ≤ 1000000) (hg : kd "list" = some .globalImplicit := by rfl) (hg2 : kd "range" = some .globalImplicit := by rfl)
    (hs : ∀ env, starEach [Expr.Call (.Name "range" p) [a] [] pr] env = (false, eval (Expr.Call (.Name "range" p) [a] [] pr) env) :: starEach [] env := by intro _; rfl) (hs2 : ∀ env, starEach [a] env = (false, eval a env) :: starEach [] env := by intro _; rfl) :
    Ge X E ex ss (.Call (.Name "list" p1) [.Call (.Name "range" p) [a] [] pr] [] pos) (dL ((List.range n).map fun (j : Nat) => dI (j : Int))) :=
  ge_pe (fun x hx => pe_listRg (C.calm x hx) (C.gl hx hg) (by rw [C.names x hx]; exact hm) (prg_1 (C.gl hx hg2) (by rw [C.names x hx]; exact hm2) (wpE_pe hx) (hs2 x.env)) (hs x.env)) fun S H σ ok er Q q => h S H σ ok er _ fun v H1 e1 pv => by
    have pv : v = .int n := pv
    subst pv
    refine ⟨n, rfl, RgOk.of_le (by omega) (by omega) (by omega) (by omega), fun l hl => ?_⟩
    have e : rgV 0 (n : Int) = (List.range n).map fun (j : Nat) => V.int (j : Int) := by
      unfold rgV
      have e0 : ((n : Int) - 0).toNat = n := by omega
      rw [e0]
      refine List.map_congr_left fun j _ => ?_
      rw [Int.zero_add]
    rw [e]
    exact q _ _ (e1.trans (Same.new hl)) (new_L (ok.up e1).hid hl (Reps.vals (fun (j : Nat) => V.int (j : Int)) (List.range n)))
/-- y = {k: v}, the key an int -/
theorem st_newM1 (C : Ctx X P w K mg base N kd k E) (i : Nat) {y : Str} {pos1 pos2 : Pos} {ke ve : Expr} {B : Hp} {S q : List Addr} {H : Hp} {σ : Sg} {o : Ow} {Dn : Ends} {r : List Stmt} (ok : Okf B S q H σ ss o) (er : Errs E ex B) (gk : Ge X E ex ss ke (dI z)) (gv : Ge X E ex ss ve d) (hi : i < ss.length := by decide)
    (kk : ∀ p H' σ', Okf B S (p :: q) H' σ' (ss.set i none) ((i, oM [(.inl z, d)]) :: o) → wpS X r Dn σ' H') (ho : offO o [i] = true := by rfl) (hN : N[i]? = some y := by rfl) (hl : Own1 kd y := by first | exact Or.inl rfl | exact Or.inr rfl)
    (hs : ∀ env, swapsWith (.Dict [some ke] [ve] pos2) (some (.Name y pos1)) pos.line env = pure false := by intro _; rfl) : wpS X (.Assign [.Name y pos1] (.Dict [some ke] [ve] pos2) pos :: r) Dn σ H :=
  wpS_cons (fun x hx => ps_set (i := i) (by rw [C.slots x hx]; exact C.nd) (by rw [C.slots x hx]; exact hN) (C.lo hx hl) (pe_disp (pps_cons (wpE_pe hx) (wpE_pe hx) pps_nil) rfl rfl (fun z => by cases z) (Nat.le_of_ble_eq_true rfl)) (hs x.env) (C.fnl hx hl)) fun p hp => by
    have ok0 : Ok (p :: (q ++ S)) (upd H p (.dK [])) σ ss := by
      refine ⟨fun b hb => ?_, ok.sl.up (made_one hp)⟩
      rcases List.mem_cons.mp hb with e | hb
      · rw [e, upd_same]; exact fun z => by cases z
      · exact (ok.up (Same.new hp)).ok.hid b hb
    refine gk _ _ σ ok0 ((er.at ok.ex).up (Same.new hp)) _ fun u H1 e1 pu => gv _ H1 σ (ok0.up e1) (((er.at ok.ex).up (Same.new hp)).up e1) _ fun v H2 e2 pv => ?_
    have pu : u = .int z := pu
    subst pu
    have e12 := e1.trans e2
    have hp2 : H2 p = some (.dK []) := e12 _ _ upd_same
    refine ⟨hp2, [(.inl z, v)], rfl, Nat.le_of_ble_eq_true rfl, ?_⟩
    have ok1 := (ok.own_new (od := oM []) hp (by rw [ok.sl.len]; exact hi) ho fun W => ⟨[], rfl, trivial⟩).up e12
    exact kk p _ _ (ok1.own_put (od' := oM [(.inl z, d)]) ⟨[v], rfl, pv, trivial⟩)
end
end Tr
namespace Tr
open PySem PySem.Spec PyProof.Rows L2
open PySem.W (Datum DatumOrd Holds HoldAll minOf min_list_datum alike_unique)

/-! ### data that == and min see whole -/
def Pd (d : D) (pd : PyData) : Prop := ∀ (K : PySem.W.Frag) (W : Hp) (v : V), d.p W v → Dp K W v pd
theorem pd_I {i : Int} : Pd (dI i) (.int i) := fun K W v h => by rw [show v = .int i from h]; exact .int i
theorem pd_B {b : Bool} : Pd (dB b) (.bool b) := fun K W v h => by rw [show v = .bl b from h]; exact .bl b
theorem pd_S {x : Str} : Pd (dS x) (.str x) := fun K W v h => by rw [show v = .str x from h]; exact .str x
theorem pd_all {α : Type} {enc : α → D} {g : α → PyData} (h : ∀ a, Pd (enc a) (g a)) {K : PySem.W.Frag} {W : Hp} : ∀ {vs : List V} {l : List α}, Reps W vs (l.map enc) → DpAll K W vs (l.map g)
  | [], [], _ => .nil
  | v :: vs, a :: l, r => .cons (h a K W v r.1) (pd_all h r.2)
  | [], _ :: _, r => r.elim
  | _ :: _, [], r => r.elim
theorem pd_L {α : Type} {enc : α → D} {g : α → PyData} {l : List α} (h : ∀ a, Pd (enc a) (g a)) : Pd (dL (l.map enc)) (.list (l.map g)) := fun K W v ⟨a, vs, h1, h2, h3⟩ => by
  subst h1
  exact .lst (SqL.of h2) (pd_all h h3)
theorem pd_T2 {d1 d2 : D} {p1 p2 : PyData} (h1 : Pd d1 p1) (h2 : Pd d2 p2) : Pd (dT [d1, d2]) (.tuple [p1, p2]) := fun K W v ⟨a, vs, e, ha, r⟩ => by
  subst e
  match vs, r with
  | [x, y], r => exact .tup (SqT.of ha) (.cons (h1 K W x r.1) (.cons (h2 K W y r.2.1) .nil))
theorem pd_T3 {d1 d2 d3 : D} {p1 p2 p3 : PyData} (h1 : Pd d1 p1) (h2 : Pd d2 p2) (h3 : Pd d3 p3) : Pd (dT [d1, d2, d3]) (.tuple [p1, p2, p3]) := fun K W v ⟨a, vs, e, ha, r⟩ => by
  subst e
  match vs, r with
  | [x, y, z], r => exact .tup (SqT.of ha) (.cons (h1 K W x r.1) (.cons (h2 K W y r.2.1) (.cons (h3 K W z r.2.2.1) .nil)))
/-! min of a list of such data: the first of the least -/
def rMinD {α : Type} [DecidableEq α] [DatumOrd α] (enc : α → D) : List V → Hp → VK → Prop := fun vs H Q => ∃ (a : Addr) (l : List V) (W : Hp) (x : α) (xs : List α), vs = [V.ref a] ∧ H a = some (.lst l) ∧ Same W H ∧ Reps W l ((x :: xs).map enc) ∧ ∀ v, (enc (minOf x xs)).p W v → Q v H
theorem cr_minD {X : Cx} {α : Type} [DecidableEq α] [DatumOrd α] {enc : α → D} (hc : X.calm = true) (hu : X.A.units + 1 + Datum.depth α < cLine) (he : ∀ a, Pd (enc a) (Datum.toD a)) : CallR X (.builtin "min") (rMinD enc) := by
  intro pins s σ H vs us Q I r h
  obtain ⟨a, l, W, x, xs, rfl, ha, sm, rp, q⟩ := h
  obtain ⟨its, rv, hl, _⟩ := I.list (SqL.of (K := X.K) ha)
  rw [Vals.ref1 r]
  obtain ⟨as, rd⟩ := Dp.readsAll I _ _ _ (pd_all (K := X.K) he (rp.up sm)) rv
  have hold : HoldAll s.heap its (x :: xs) := ⟨as, rd⟩
  refine min_list_datum (I.ok.hd hc) hl.isList hold hu fun i v h' tk hi hH hk => ?_
  have hi : its[i]? = some v := by simpa using hi
  have hlt : i < l.length := by
    rw [rv.length]
    exact (List.getElem?_eq_some_iff.mp hi).1
  have hy : l[i]? = some l[i] := List.getElem?_eq_getElem hlt
  obtain ⟨u, hu', ry⟩ := rv.get hy
  rw [hi] at hu'
  cases hu'
  obtain ⟨d, hd, pd⟩ := rp.get hy
  rw [List.getElem?_map] at hd
  obtain ⟨z, hz, hHz⟩ := hold.at hi
  rw [hz] at hd
  cases hd
  have e : z = minOf x xs := by
    obtain ⟨b1, r1⟩ := hHz.keeps hk
    obtain ⟨b2, r2⟩ := hH
    have e0 := alike_unique _ _ _ _ _ (DatumOrd.alike z (minOf x xs)) r1 r2
    have e1 := Datum.eqv z (minOf x xs)
    rw [← e0] at e1
    rw [Datum.eqv z z, decide_eq_true rfl] at e1
    exact of_decide_eq_true e1.symm
  subst e
  exact ⟨l[i], H, I.kept hk, ry, q _ pd⟩
section
variable {X : CS} {P : Program} {w : World} {K : PySem.W.Frag} {mg : Str → Option Value} {base : Heap} {N : List Str} {kd : Str → Option NameKind} {k : Nat} {E : XK} {ex : Er → Prop} {ss ss' : List (Option D)} {da db d : D} {ds : List D} {pos p p1 p2 pr : Pos} {a b e : Expr} {n : Nat} {z : Int}
theorem g_minD (C : Ctx X P w K mg base N kd k E) {α : Type} [DecidableEq α] [DatumOrd α] {enc : α → D} {x : α} {xs : List α} (he' : ∀ a, Pd (enc a) (Datum.toD a)) (hdp : Datum.depth α ≤ 60) (hm : mg "min" = none) (h : Ge X E ex ss e (dL ((x :: xs).map enc))) (hg : kd "min" = some .globalImplicit := by rfl) (he : ∀ env, starEach [e] env = (false, eval e env) :: starEach [] env := by intro _; rfl) :
    Ge X E ex ss (.Call (.Name "min" p) [e] [] pos) (enc (minOf x xs)) :=
  g_callB C (r := rMinD enc) (fun y hy => cr_minD (C.calm y hy) (by have := (C.room y hy).units; omega) he') hm (by decide +kernel) (a_cons h a_nil he) (fun S H us hid hr Q q => by
    obtain ⟨v, rfl, pv⟩ := reps1 hr
    obtain ⟨a, vs, rfl, ha, r⟩ := pv
    exact ⟨a, vs, wd S H, x, xs, rfl, wd_same S H _ _ ha, wd_same S H, r, fun v pv => q v H (Same.refl H) pv⟩) hg (by decide) (by decide) he (fun _ => rfl)
/-! == and != of such data -/
theorem r2_eqD {x y : PyData} (hx : Pd da x) (hy : Pd db y) (sx : SeqAt.shaped x = true) (sy : SeqAt.shaped y = true) : R2G (rEqD K) da db (dB (PyData.eqv x y)) := fun S H u v _ pu pv Q q => ⟨x, y, hx K H u (da.up (wd_same S H) pu), hy K H v (db.up (wd_same S H) pv), sx, sy, q _ H (Same.refl H) rfl⟩
theorem r2_neD {x y : PyData} (hx : Pd da x) (hy : Pd db y) (sx : SeqAt.shaped x = true) (sy : SeqAt.shaped y = true) : R2G (rNeD K) da db (dB (!PyData.eqv x y)) := fun S H u v _ pu pv Q q => ⟨x, y, hx K H u (da.up (wd_same S H) pu), hy K H v (db.up (wd_same S H) pv), sx, sy, q _ H (Same.refl H) rfl⟩
theorem Ctx.u64 (C : Ctx X P w K mg base N kd k E) {x : Cx} (hx : X x) : x.A.units + 64 < cLine := (C.room x hx).units
theorem t_eqD (C : Ctx X P w K mg base N kd k E) {x y : PyData} (ha : Ge X E ex ss a da) (hb : Ge X E ex ss b db) (hx : Pd da x) (hy : Pd db y) (sx : SeqAt.shaped x = true) (sy : SeqAt.shaped y = true) : Gt X E ex ss (.Compare a [.Eq] [b] pos) (PyData.eqv x y) :=
  t_cmp (r := rEqD K) (fun x hx => by rw [← C.frag x hx]; exact op_eqD (C.u64 hx)) ha hb (r2_eqD hx hy sx sy)
theorem t_neD (C : Ctx X P w K mg base N kd k E) {x y : PyData} (ha : Ge X E ex ss a da) (hb : Ge X E ex ss b db) (hx : Pd da x) (hy : Pd db y) (sx : SeqAt.shaped x = true) (sy : SeqAt.shaped y = true) : Gt X E ex ss (.Compare a [.NotEq] [b] pos) (!PyData.eqv x y) :=
  t_cmp (r := rNeD K) (fun x hx => by rw [← C.frag x hx]; exact op_neD (C.u64 hx)) ha hb (r2_neD hx hy sx sy)
/-- x = y, .. -/
theorem st_par (C : Ctx X P w K mg base N kd k E) (i j : Nat) {x y : Str} {B : Hp} {S q : List Addr} {H : Hp} {σ : Sg} {o : Ow} {Dn : Ends} {r : List Stmt} {px py pt : Pos} {kt k2 : Nat} {pt2 : Pos} (ok : Okf B S q H σ ss o) (er : Errs E ex B) (ga : Ge X E ex ss a da) (gb : Ge X E ex ss b db)
    (kk : ∀ H' σ', Okf B S q H' σ' ((ss.set i (some da)).set j (some db)) o → wpS X r Dn σ' H') (ho : offO o [i, j] = true := by rfl) (hx : N[i]? = some x := by rfl) (hy : N[j]? = some y := by rfl) (hij : i ≠ j := by decide) (kx : kd x = some .local := by rfl) (ky : kd y = some .local := by rfl)
    (hw : ∀ env : Env, env.scope.kind = .function → env.scope.names.lookup x = some .local → env.scope.names.lookup y = some .local → swappedStores [.Tuple [.Name x px, .Name y py] kt pt] (.Tuple [a, b] k2 pt2) env = pure (some [x, y]))
    (hs : ∀ env, swapsWithSole [.Tuple [.Name x px, .Name y py] kt pt] (.Tuple [a, b] k2 pt2) pos.line env = pure false := by intro _; rfl)
    (he : ∀ env, starEach [a, b] env = (false, eval a env) :: starEach [b] env := by intro _; rfl) (he2 : ∀ env, starEach [b] env = (false, eval b env) :: starEach [] env := by intro _; rfl) :
    wpS X (.Assign [.Tuple [.Name x px, .Name y py] kt pt] (.Tuple [a, b] k2 pt2) pos :: r) Dn σ H :=
  wpS_cons (fun z hz => ps_par (i := i) (j := j) (C.calm z hz) (by rw [C.slots z hz]; exact C.nd) (by rw [C.slots z hz]; exact hx) (by rw [C.slots z hz]; exact hy) hij (C.loc z hz _ kx) (C.loc z hz _ ky) (pa_cons (wpE_pe hz) (pa_cons (wpE_pe hz) pa_nil (he2 z.env)) (he z.env)) (hw z.env (C.kind z hz) (C.loc z hz _ kx) (C.loc z hz _ ky)) (hs z.env)) (ga _ H σ ok.ok (er.at ok.ex) _ fun v H1 e1 pv => gb _ H1 σ (ok.up e1).ok (er.at (ok.up e1).ex) _ fun u H2 e2 pu =>
    ⟨v, u, rfl, kk H2 _ (ok.store (is := [i, j]) (e1.trans e2) ((Off.set (by simp)).trans (Off.set (by simp))) ⟨(ok.up (e1.trans e2)).ok.hid, ((ok.up (e1.trans e2)).ok.sl.set (da.up (wd_mono e2) pv)).set pu⟩ ho)⟩)
/-- a text as often as a Bool says -/
def rMulU : R2 := fun x y H Q => ∃ (t : Str) (o : Bool), x = .str t ∧ y = .int (if o then 1 else 0) ∧ t.length ≤ 100000 ∧ Q (.str (if o then t else Str.empty)) H
theorem op_mulU {X : Cx} : OpR X (binaryOp .Mult) rMulU := by
  intro pins s σ H x y v u Q I rx ry h
  obtain ⟨z, o, rfl, rfl, hz, q⟩ := h
  obtain ⟨t, rfl⟩ := rx
  obtain ⟨t', rfl⟩ := ry
  cases o with
  | false => exact PySem.P.mul_str_none (by decide) (by decide) ⟨.str Str.empty, H, I.tok _, ⟨_, rfl⟩, q⟩
  | true => exact PySem.P.mul_str (by decide) (fun _ h => by cases h) (fun _ h => by cases h) ⟨.str z, H, I, ⟨_, rfl⟩, q⟩
theorem g_mulU {x : List UInt8} {o : Bool} (ha : Ge X E ex ss a (dU x)) (hb : Ge X E ex ss b (dI (if o then 1 else 0))) (hz : x.length ≤ 100000) : Ge X E ex ss (.BinOp a .Mult b pos) (dU (if o then x else [])) :=
  g_bin (fun _ _ => op_mulU) ha hb fun S H u v _ hu hv Q q => ⟨sU x, o, hu, hv, by rw [sU_len]; exact hz, q _ H (Same.refl H) (by cases o <;> rfl)⟩
end
end Tr
namespace Tr
open PySem PySem.Spec PyProof.Rows L2
theorem filter_yes {α : Type} (l : List α) : l.filter (fun _ => true) = l := List.filter_eq_self.mpr fun _ _ => rfl
theorem okf_cast {B : Hp} {S q : List Addr} {H : Hp} {σ : Sg} {ss : List (Option D)} {o o' : Ow} (h : Okf B S q H σ ss o) (e : o = o') : Okf B S q H σ ss o' := by
  rw [← e]
  exact h
theorem swaps_lc {env : Env} {y : Str} {py : Pos} {elt : Expr} {gs : List Comprehension} {scope : Scope} {pos : Pos} {ln : Nat} (h1 : env.scope.kind = .function) (h2 : env.scope.names.lookup y = some .local) (hl : (py.line == (Expr.ListComp elt gs scope pos).pos.line) = true)
    (hn : (scope.names.any fun (n, k) => n == y && (k == .local || k == .cell)) = false) : swapsWith (.ListComp elt gs scope pos) (some (.Name y py)) ln env = pure true := by
  have hbk : env.blockKind = .function := by
    unfold Env.blockKind
    rw [h1]
    rfl
  unfold swapsWith
  show (pure (env.blockKind == .function && env.kindOf y == some .local && py.line == (Expr.ListComp elt gs scope pos).pos.line && !(scope.names.any fun (n, k) => n == y && (k == .local || k == .cell))) : Sem Bool) = pure true
  have e2 : env.kindOf y = some .local := h2
  rw [hbk, e2, hl, hn]
  rfl
theorem swaps_cell {env : Env} {y : Str} {py : Pos} {elt : Expr} {gs : List Comprehension} {scope : Scope} {pos : Pos} {ln : Nat} (h2 : env.scope.names.lookup y = some .cell) : swapsWith (.ListComp elt gs scope pos) (some (.Name y py)) ln env = pure false := by
  unfold swapsWith
  show (pure (env.blockKind == .function && env.kindOf y == some .local && py.line == (Expr.ListComp elt gs scope pos).pos.line && !(scope.names.any fun (n, k) => n == y && (k == .local || k == .cell))) : Sem Bool) = pure false
  have e2 : env.kindOf y = some .cell := h2
  rw [e2]
  have e3 : ((some NameKind.cell : Option NameKind) == some NameKind.local) = false := rfl
  rw [e3, Bool.and_false, Bool.false_and, Bool.false_and]
section
variable {X : CS} {P : Program} {w : World} {K : PySem.W.Frag} {mg : Str → Option Value} {base : Heap} {N : List Str} {kd : Str → Option NameKind} {k : Nat} {E : XK} {ex : Er → Prop} {ss ss' : List (Option D)} {d : D} {ds es : List D} {pos p1 p2 apos : Pos}
  {B : Hp} {S q : List Addr} {H : Hp} {σ : Sg} {o : Ow} {Dn : Ends} {r : List Stmt}
/-- y = [.. for ..] -/
theorem st_setLc {α : Type} (C : Ctx X P w K mg base N kd k E) (i : Nat) {y : Str} {py spos : Pos} {elt tg iter : Expr} {ifs : List Expr} {scope : Scope} (own : List (Str × Nat)) {l : List α} {enc : α → D} {f : α → List (Option D)} {t : α → Bool} {g : α → D} {is : List Nat}
    (ok : Okf B S q H σ ss o) (er : Errs E ex B)
    (hi : Gi X E ex ss tg iter (l.map enc)) (hb : blkD N kd scope own = true) (hz : l.length ≤ sizeLine) (hw : ∀ i ∈ is, i ∈ own.map (·.2))
    (hg : ∀ a ∈ l, Gg (Blk X scope) tg (enc a) is (wipeD ss (own.map (·.2))) (f a))
    (ht : ∀ a ∈ l, Gts (Blk X scope) (f a) ifs (t a))
    (he : ∀ a ∈ l, t a = true → Ge (Blk X scope) E0 (fun _ => False) (f a) elt (g a))
    (kk : ∀ H' σ', Okf B S q H' σ' (ss.set i (some (dL ((l.filter t).map g)))) o → wpS X r Dn σ' H')
    (ho : offO o [i] = true := by rfl) (hN : N[i]? = some y := by rfl) (hl : kd y = some .local := by rfl) (hln : (py.line == (Expr.ListComp elt [⟨tg, iter, ifs, 0⟩] scope pos).pos.line) = true := by rfl) (hn : (scope.names.any fun (n, k) => n == y && (k == .local || k == .cell)) = false := by decide)
    (hs : ∀ env x, foldedSetIterable iter env x = pure x := by intro _ _; rfl) : wpS X (.Assign [.Name y py] (.ListComp elt [⟨tg, iter, ifs, 0⟩] scope pos) spos :: r) Dn σ H :=
  wpS_cons (fun x hx => ps_setLc (i := i) (C.calm x hx) (by rw [C.slots x hx]; exact C.nd) (by rw [C.slots x hx]; exact hN) (C.loc x hx _ hl) (swaps_lc (C.kind x hx) (C.loc x hx _ hl) hln hn) (wpI_pi hx) (blkD_ok C hb hx)
    (fun s H A cl fp => wpG_pg ⟨x, hx, s, H, A, cl, fp, rfl⟩) (fun s H A cl fp => wpTs_pts ⟨x, hx, s, H, A, cl, fp, rfl⟩) (fun s H A cl fp => wpE_pe ⟨x, hx, s, H, A, cl, fp, rfl⟩) (hs x.env))
    (gv_lc (E := E) (ex := ex) hi hz hw hg ht he _ H σ ok.ok (er.at ok.ex) _ fun v H1 e1 pv =>
      kk H1 _ (ok.store (is := [i]) e1 (Off.set (by simp)) ⟨(ok.up e1).ok.hid, (ok.up e1).ok.sl.set pv⟩ ho))
/-- .. y a cell -/
theorem st_setLcC {α : Type} (C : Ctx X P w K mg base N kd k E) (i : Nat) {y : Str} {py spos : Pos} {elt tg iter : Expr} {ifs : List Expr} {scope : Scope} (own : List (Str × Nat)) {l : List α} {enc : α → D} {f : α → List (Option D)} {t : α → Bool} {g : α → D} {is : List Nat}
    (ok : Okf B S q H σ ss o) (er : Errs E ex B)
    (hi : Gi X E ex ss tg iter (l.map enc)) (hb : blkD N kd scope own = true) (hz : l.length ≤ sizeLine) (hw : ∀ i ∈ is, i ∈ own.map (·.2))
    (hg : ∀ a ∈ l, Gg (Blk X scope) tg (enc a) is (wipeD ss (own.map (·.2))) (f a))
    (ht : ∀ a ∈ l, Gts (Blk X scope) (f a) ifs (t a))
    (he : ∀ a ∈ l, t a = true → Ge (Blk X scope) E0 (fun _ => False) (f a) elt (g a))
    (kk : ∀ H' σ', Okf B S q H' σ' (ss.set i (some (dL ((l.filter t).map g)))) o → wpS X r Dn σ' H')
    (ho : offO o [i] = true := by rfl) (hN : N[i]? = some y := by rfl) (hl : kd y = some .cell := by rfl)
    (hs : ∀ env x, foldedSetIterable iter env x = pure x := by intro _ _; rfl) : wpS X (.Assign [.Name y py] (.ListComp elt [⟨tg, iter, ifs, 0⟩] scope pos) spos :: r) Dn σ H :=
  wpS_cons (fun x hx => ps_set (i := i) (by rw [C.slots x hx]; exact C.nd) (by rw [C.slots x hx]; exact hN) (C.lo hx (.inr hl)) (pe_lc (C.calm x hx) (by rw [C.slots x hx]; exact C.nd) (wpI_pi hx) (blkD_ok C hb hx)
    (fun s H A cl fp => wpG_pg ⟨x, hx, s, H, A, cl, fp, rfl⟩) (fun s H A cl fp => wpTs_pts ⟨x, hx, s, H, A, cl, fp, rfl⟩) (fun s H A cl fp => wpE_pe ⟨x, hx, s, H, A, cl, fp, rfl⟩) (hs x.env)) (swaps_cell (C.cel x hx _ hl).1) (C.fnl hx (.inr hl)))
    (gv_lc (E := E) (ex := ex) hi hz hw hg ht he _ H σ ok.ok (er.at ok.ex) _ fun v H1 e1 pv =>
      kk H1 _ (ok.store (is := [i]) e1 (Off.set (by simp)) ⟨(ok.up e1).ok.hid, (ok.up e1).ok.sl.set pv⟩ ho))
end
end Tr
namespace Tr
open PySem PySem.Spec PyProof.Rows L2
/-! ### what is handed in to be changed -/
def OwnsA (W H : Hp) : List Addr → List OD → Prop
  | [], [] => True
  | a :: q, od :: o => (∃ h, H a = some h ∧ od.p W h) ∧ OwnsA W H q o
  | _, _ => False
theorem OwnsA.len {W H : Hp} : ∀ {q : List Addr} {o : List OD}, OwnsA W H q o → q.length = o.length
  | [], [], _ => rfl
  | _ :: _, _ :: _, h => by rw [List.length_cons, List.length_cons, OwnsA.len h.2]
  | [], _ :: _, h => h.elim
  | _ :: _, [], h => h.elim
abbrev PrO := List OD → List D → (List OD → D → Prop) → (Er → Prop) → Prop
def spO (A : PrO) : Sp := fun vs H Q E => ∃ (S q : List Addr) (us : List V) (ds : List D) (o : List OD) (kr : List OD → D → Prop) (ke : Er → Prop), vs = q.map V.ref ++ us ∧ OwnsA (wd (q ++ S) H) H q o ∧ q.Nodup ∧ (∀ a ∈ q, ¬ a ∈ S) ∧ (∀ b ∈ S, H b ≠ none) ∧ Reps (wd (q ++ S) H) us ds ∧ A o ds kr ke ∧
  (∀ o' d v H', kr o' d → Same (wd q H) H' → OwnsA (wd (q ++ S) H') H' q o' → d.p (wd (q ++ S) H') v → Q v H') ∧ Errs E ke (wd q H)
/-- a def that changes what it is handed first; a method -/
def HasO (P : Program) (w : World) (K : PySem.W.Frag) (mg : Str → Option Value) (base : Heap) (k : Nat) (x : Str) (A : PrO) : Prop :=
  ∃ f fd ps, mg x = some (.ref f) ∧ PySem.W.keepIn K (.ref f) = true ∧ Binds K fd ps [] ∧ FnOk P w K mg base (L2.CX P w) k f fd ps (spO A)
def HasMO (P : Program) (w : World) (K : PySem.W.Frag) (mg : Str → Option Value) (base : Heap) (k : Nat) (Cl : Addr) (m : Str) (A : PrO) : Prop :=
  ∃ f fd ps, Cls K Cl ∧ Meth K Cl m f ∧ Binds K fd ps [] ∧ FnOk P w K mg base (L2.CX P w) k f fd ps (spO A)
def own0 : Nat → List OD → Ow
  | _, [] => []
  | i, od :: o => (i, od) :: own0 (i + 1) o
theorem owns_start {W H : Hp} : ∀ {q : List Addr} {o : List OD} (pre rest : Sg), OwnsA W H q o → Owns W H (pre ++ ((q.map fun a => some (V.ref a)) ++ rest)) q (own0 pre.length o)
  | [], [], _, _, _ => trivial
  | a :: q, od :: o, pre, rest, h => by
    refine ⟨?_, h.1, ?_⟩
    · rw [List.getElem?_append_right (Nat.le_refl _), Nat.sub_self]
      rfl
    · have ih := owns_start (q := q) (o := o) (pre ++ [some (V.ref a)]) rest h.2
      rw [List.length_append, List.append_assoc] at ih
      exact ih
  | [], _ :: _, _, _, h => h.elim
  | _ :: _, [], _, _, h => h.elim
theorem owns_A {W H : Hp} {σ : Sg} : ∀ {q : List Addr} {o : List OD} {i : Nat}, Owns W H σ q (own0 i o) → OwnsA W H q o
  | [], [], _, _ => trivial
  | a :: q, od :: o, i, h => ⟨h.2.1, owns_A h.2.2⟩
  | [], _ :: _, _, h => h.elim
  | _ :: _, [], _, h => h.elim
theorem owns_zip {W H : Hp} {σ : Sg} : ∀ {q : List Addr} {is : List Nat} {o : List OD}, Owns W H σ q (is.zip o) → is.length = o.length → OwnsA W H q o
  | [], [], [], _, _ => trivial
  | a :: q, i :: is, od :: o, h, l => ⟨h.2.1, owns_zip h.2.2 (Nat.succ.inj l)⟩
  | [], _ :: _, _ :: _, h, _ => h.elim
  | _ :: _, [], [], h, _ => h.elim
  | _, [], _ :: _, _, l => nomatch l
  | _, _ :: _, [], _, l => nomatch l
theorem owns_re {W H W' H' : Hp} {σ : Sg} : ∀ {q : List Addr} {is : List Nat} {o o' : List OD}, Owns W H σ q (is.zip o) → is.length = o.length → OwnsA W' H' q o' → Owns W' H' σ q (is.zip o')
  | [], [], [], [], _, _, _ => trivial
  | a :: q, i :: is, od :: o, od' :: o', h, l, g => ⟨h.1, g.1, owns_re h.2.2 (Nat.succ.inj l) g.2⟩
  | [], _, _, _ :: _, _, _, g => g.elim
  | _ :: _, _, _, [], _, _, g => g.elim
  | [], _ :: _, _ :: _, [], h, _, _ => h.elim
  | _ :: _, [], [], _ :: _, h, _, _ => h.elim
  | _, [], _ :: _, _, _, l, _ => nomatch l
  | _, _ :: _, [], _, _, l, _ => nomatch l
theorem owns_split {W H : Hp} {σ : Sg} : ∀ {q1 q : List Addr} {o1 o : Ow}, o1.length = q1.length → (Owns W H σ (q1 ++ q) (o1 ++ o) ↔ Owns W H σ q1 o1 ∧ Owns W H σ q o)
  | [], q, [], o, _ => ⟨fun h => ⟨trivial, h⟩, fun h => h.2⟩
  | a :: q1, q, (i, od) :: o1, o, l => by
    have ih := owns_split (W := W) (H := H) (σ := σ) (q1 := q1) (q := q) (o1 := o1) (o := o) (Nat.succ.inj l)
    exact ⟨fun h => ⟨⟨h.1, h.2.1, (ih.mp h.2.2).1⟩, (ih.mp h.2.2).2⟩, fun h => ⟨h.1.1, h.1.2.1, ih.mpr ⟨h.1.2.2, h.2⟩⟩⟩
  | [], _, _ :: _, _, l => nomatch l
  | _ :: _, _, [], _, l => nomatch l
theorem owns_keep {W W' H H' : Hp} {σ : Sg} (eW : Same W W') : ∀ {q : List Addr} {o : Ow}, (∀ a ∈ q, ∀ u, H a = some u → H' a = some u) → Owns W H σ q o → Owns W' H' σ q o
  | [], [], _, _ => trivial
  | a :: q, (i, od) :: o, eH, h => by
    obtain ⟨h1, ⟨u, h2, h3⟩, h4⟩ := h
    exact ⟨h1, ⟨u, eH a List.mem_cons_self u h2, od.up eW h3⟩, owns_keep eW (fun b hb => eH b (List.mem_cons_of_mem _ hb)) h4⟩
  | [], _ :: _, _, h => h.elim
  | _ :: _, [], _, h => h.elim
section
variable {B : Hp} {S q q1 : List Addr} {H H' : Hp} {σ : Sg} {ss : List (Option D)} {o : Ow}
theorem Okf.moved {is : List Nat} {ods ods' : List OD} (ok : Okf B S (q1 ++ q) H σ ss (is.zip ods ++ o)) (hl : is.length = ods.length) (hq : ods.length = q1.length) (sm : Same (wd q1 H) H') (hO : OwnsA (wd (q1 ++ q ++ S) H') H' q1 ods') : Okf B S (q1 ++ q) H' σ ss (is.zip ods' ++ o) := by
  have hz : (is.zip ods).length = q1.length := by rw [List.length_zip, hl, Nat.min_self, hq]
  obtain ⟨n1, n2, n3⟩ := List.nodup_append.mp ok.nd
  have out : ∀ a ∈ q, ¬ a ∈ q1 := fun a ha z => n3 a z a ha rfl
  have eW : Same (wd (q1 ++ q ++ S) H) (wd (q1 ++ q ++ S) H') := fun b u eb => by
    by_cases hb : b ∈ q1 ++ q ++ S
    · rw [wd_in hb] at eb; cases eb
    · rw [wd_out hb] at eb ⊢
      exact sm b u (by rw [wd_out fun z => hb (List.mem_append_left _ (List.mem_append_left _ z))]; exact eb)
  obtain ⟨w1, w2⟩ := (owns_split hz).mp ok.own
  refine ⟨fun b u eb => ?_, ok.hid, ok.new, ok.sl.up eW, ?_, ok.nd⟩
  · refine sm b u ?_
    rw [wd_out fun z => by rw [ok.new b (List.mem_append_left _ z)] at eb; cases eb]
    exact ok.ex b u eb
  · have hz' : (is.zip ods').length = q1.length := by rw [List.length_zip, hl, hq, ← hO.len, Nat.min_self]
    refine (owns_split hz').mpr ⟨owns_re w1 hl hO, owns_keep eW (fun a ha u hu => ?_) w2⟩
    exact sm a u (by rw [wd_out (out a ha)]; exact hu)
/-- the call itself -/
theorem core_O {A : PrO} {E : XK} {ex : Er → Prop} {is : List Nat} {ods : List OD} {ds : List D} {us : List V} {R1 : List OD → D → Prop} {Q : VK} (ok : Okf B S (q1 ++ q) H σ ss (is.zip ods ++ o)) (hl : is.length = ods.length) (hq : ods.length = q1.length) (er : Errs E ex B) (hA : A ods ds R1 ex) (pr : Reps (wd (q1 ++ q ++ S) H) us ds)
    (k : ∀ v H' ods' d, R1 ods' d → ods'.length = q1.length → Okf B S (q1 ++ q) H' σ ss (is.zip ods' ++ o) → d.p (wd (q1 ++ q ++ S) H') v → Q v H') : spO A (q1.map V.ref ++ us) H Q E := by
  have hz : (is.zip ods).length = q1.length := by rw [List.length_zip, hl, Nat.min_self, hq]
  obtain ⟨n1, n2, n3⟩ := List.nodup_append.mp ok.nd
  obtain ⟨w1, w2⟩ := (owns_split hz).mp ok.own
  refine ⟨q ++ S, q1, us, ds, ods, R1, ex, rfl, ?_, n1, fun a ha z => ?_, fun b hb => ok.ok.hid b (by rw [List.append_assoc]; exact List.mem_append_right _ hb), ?_, hA, fun o' d v H' hR sm hO pd => ?_, ?_⟩
  · rw [← List.append_assoc]
    exact owns_zip w1 hl
  · rcases List.mem_append.mp z with z | z
    · exact n3 a ha a z rfl
    · exact ok.hid a z (ok.new a (List.mem_append_left _ ha))
  · rw [← List.append_assoc]
    exact pr
  · rw [← List.append_assoc] at hO pd
    exact k v H' o' d hR hO.len.symm (ok.moved hl hq sm hO) pd
  · refine er.up fun b u eb => ?_
    rw [wd_out fun z => by rw [ok.new b (List.mem_append_left _ z)] at eb; cases eb]
    exact ok.ex b u eb
end
section
variable {X : CS} {P : Program} {w : World} {K : PySem.W.Frag} {mg : Str → Option Value} {base : Heap} {N : List Str} {kd : Str → Option NameKind} {k j : Nat} {E : XK} {ex : Er → Prop} {ss ss' : List (Option D)} {da d : D} {ds ds0 fs : List D} {pos p1 p2 apos : Pos}
  {B : Hp} {S q : List Addr} {H : Hp} {σ : Sg} {o : Ow} {Dn : Ends} {r : List Stmt} {e : Expr} {es : List Expr} {p a : Addr} {i i2 : Nat} {y z m x : Str} {Cl : Addr} {ns : List Str} {od od2 : OD}
theorem Ctx.pass (C : Ctx X P w K mg base N kd k E) {y : Cx} (hy : X y) : Passes (L2.CX P w) y E := by
  have q := passes_call (E := E) (C.takes y hy) fun _ _ _ _ h => h
  rw [C.prog y hy, C.world y hy] at q
  exact q
/-- what a call that changes what is owned gives -/
def EvO (X : CS) (B : Hp) (S q : List Addr) (H : Hp) (σ : Sg) (ss : List (Option D)) (e : Expr) (R : Ow → D → Prop) : Prop := ∀ Q : VK, (∀ v H' o' d, R o' d → Okf B S q H' σ ss o' → d.p (wd (q ++ S) H') v → Q v H') → wpE X e σ H Q
theorem one_of {α : Type} {l : List α} (h : l.length = 1) : ∃ a, l = [a] := by
  match l, h with
  | [a], _ => exact ⟨a, rfl⟩
theorem two_of {α : Type} {l : List α} (h : l.length = 2) : ∃ a b, l = [a, b] := by
  match l, h with
  | [a, b], _ => exact ⟨a, b, rfl⟩
/-- self.m(..) -/
theorem evO_meth (C : Ctx X P w K mg base N kd k E) {A : PrO} {R1 : List OD → D → Prop} (h : HasMO P w K mg base j Cl m A) (ok : Okf B S (p :: q) H σ ss ((i, oI Cl ns fs) :: o)) (er : Errs E ex B) (ga : Gas X E ex ss (e :: es) ds) (hA : A [oI Cl ns fs] ds R1 ex) (hj : j ≤ k := by decide) (hn : ¬ m ∈ ns := by decide)
    (hN : N[i]? = some y := by rfl) (hv : Seen kd y := by first | exact Or.inl rfl | exact Or.inr (Or.inl rfl) | exact Or.inr (Or.inr rfl)) (hd : (y == ("__debug__" : Str)) = false := by decide) (hcd : (y == ("__classdict__" : Str)) = false := by decide)
    (he : ∀ env, starEach (e :: es) env = (false, eval e env) :: starEach es env := by intro _; rfl) (hpl : ∀ env, (backTo pos (starEach es env)).any (·.1) = false := by intro _; rfl)
    (ht : ∀ env, ∃ pl : Sem Bool, eval (.Call (.Attribute (.Name y p1) m apos) (e :: es) [] pos) env = (do
      let ov ← eval (.Name y p1) env
      standAt apos.atName
      let (f, first) ← holding [ov] (getMethod ov m pl)
      callWith pos f first (backTo pos (starEach (e :: es) env)) (backToKw pos (keywordEach [] env))) := by intro _; exact ⟨_, rfl⟩) :
    EvO X B S (p :: q) H σ ss (.Call (.Attribute (.Name y p1) m apos) (e :: es) [] pos) (fun o' d => ∃ od', R1 [od'] d ∧ o' = (i, od') :: o) := fun Q kq => by
  obtain ⟨f, fd, ps, cl, hm, hb, F⟩ := h
  refine wpE_of (t := tMeth Cl m (spO A) [] E (tVar i) (wpA X (e :: es))) (fun y hy => ?_) ?_
  · obtain ⟨pl, ht⟩ := ht y.env
    exact pe_meth (pl := pl) (pe_var (i := i) (by rw [C.slots y hy]; exact hN) (C.vis y hy _ hv) hd hcd) (by rw [C.frag y hy]; exact cl) (by rw [C.frag y hy]; exact hm) (C.fn hy F) ((C.room y hy).mono hj) (by rw [C.frag y hy]; exact hb) .nil (C.pass hy) (wpA_pa hy) (he _) (hpl _) ht
  · obtain ⟨h1, ⟨u, h2, dx, fvs, rfl, h3⟩, h4⟩ := ok.own
    refine ⟨_, h1, p, dx, _, rfl, h2, lookup_zip_none hn, ga _ H σ ok.ok (er.at ok.ex) _ fun us H1 e1 pr => ?_⟩
    rw [List.append_nil]
    exact core_O (q1 := [p]) (is := [i]) (ods := [oI Cl ns fs]) (ok.up e1) rfl rfl er hA pr fun v H' ods' d hR hl ok' pd => by
      obtain ⟨od', rfl⟩ := one_of hl
      exact kq v H' _ d ⟨od', hR, rfl⟩ ok' pd
/-- self.m() -/
theorem evO_meth0 (C : Ctx X P w K mg base N kd k E) {A : PrO} {R1 : List OD → D → Prop} (h : HasMO P w K mg base j Cl m A) (ok : Okf B S (p :: q) H σ ss ((i, oI Cl ns fs) :: o)) (er : Errs E ex B) (hA : A [oI Cl ns fs] [] R1 ex) (hj : j ≤ k := by decide) (hn : ¬ m ∈ ns := by decide)
    (hN : N[i]? = some y := by rfl) (hv : Seen kd y := by first | exact Or.inl rfl | exact Or.inr (Or.inl rfl) | exact Or.inr (Or.inr rfl)) (hd : (y == ("__debug__" : Str)) = false := by decide) (hcd : (y == ("__classdict__" : Str)) = false := by decide)
    (ht : ∀ env, ∃ pl : Sem Bool, eval (.Call (.Attribute (.Name y p1) m apos) [] [] pos) env = (do
      let ov ← eval (.Name y p1) env
      standAt apos.atName
      let (f, first) ← holding [ov] (getMethod ov m pl)
      callWith pos f first (backTo pos (starEach [] env)) (backToKw pos (keywordEach [] env))) := by intro _; exact ⟨_, rfl⟩) :
    EvO X B S (p :: q) H σ ss (.Call (.Attribute (.Name y p1) m apos) [] [] pos) (fun o' d => ∃ od', R1 [od'] d ∧ o' = (i, od') :: o) := fun Q kq => by
  obtain ⟨f, fd, ps, cl, hm, hb, F⟩ := h
  refine wpE_of (t := tMeth Cl m (spO A) [] E (tVar i) tNil) (fun y hy => ?_) ?_
  · obtain ⟨pl, ht⟩ := ht y.env
    exact pe_meth0 (pl := pl) (pe_var (i := i) (by rw [C.slots y hy]; exact hN) (C.vis y hy _ hv) hd hcd) (by rw [C.frag y hy]; exact cl) (by rw [C.frag y hy]; exact hm) (C.fn hy F) ((C.room y hy).mono hj) (by rw [C.frag y hy]; exact hb) .nil (C.pass hy) ht
  · obtain ⟨h1, ⟨u, h2, dx, fvs, rfl, h3⟩, h4⟩ := ok.own
    refine ⟨_, h1, p, dx, _, rfl, h2, lookup_zip_none hn, ?_⟩
    exact core_O (q1 := [p]) (is := [i]) (ods := [oI Cl ns fs]) (us := []) ok rfl rfl er hA trivial fun v H' ods' d hR hl ok' pd => by
      obtain ⟨od', rfl⟩ := one_of hl
      exact kq v H' _ d ⟨od', hR, rfl⟩ ok' pd
/-- self.m(x), x owned too -/
theorem evO_meth2 (C : Ctx X P w K mg base N kd k E) {A : PrO} {R1 : List OD → D → Prop} (h : HasMO P w K mg base j Cl m A) (ok : Okf B S (p :: a :: q) H σ ss ((i, oI Cl ns fs) :: (i2, od2) :: o)) (er : Errs E ex B) (hA : A [oI Cl ns fs, od2] [] R1 ex) (hj : j ≤ k := by decide) (hn : ¬ m ∈ ns := by decide)
    (hN : N[i]? = some y := by rfl) (hv : Seen kd y := by first | exact Or.inl rfl | exact Or.inr (Or.inl rfl) | exact Or.inr (Or.inr rfl)) (hd : (y == ("__debug__" : Str)) = false := by decide) (hcd : (y == ("__classdict__" : Str)) = false := by decide)
    (hN2 : N[i2]? = some z := by rfl) (hv2 : Seen kd z := by first | exact Or.inl rfl | exact Or.inr (Or.inl rfl) | exact Or.inr (Or.inr rfl)) (hd2 : (z == ("__debug__" : Str)) = false := by decide) (hcd2 : (z == ("__classdict__" : Str)) = false := by decide)
    (he : ∀ env, starEach [Expr.Name z p2] env = (false, eval (.Name z p2) env) :: starEach [] env := by intro _; rfl) (hpl : ∀ env, (backTo pos (starEach [] env)).any (·.1) = false := by intro _; rfl)
    (ht : ∀ env, ∃ pl : Sem Bool, eval (.Call (.Attribute (.Name y p1) m apos) [.Name z p2] [] pos) env = (do
      let ov ← eval (.Name y p1) env
      standAt apos.atName
      let (f, first) ← holding [ov] (getMethod ov m pl)
      callWith pos f first (backTo pos (starEach [Expr.Name z p2] env)) (backToKw pos (keywordEach [] env))) := by intro _; exact ⟨_, rfl⟩) :
    EvO X B S (p :: a :: q) H σ ss (.Call (.Attribute (.Name y p1) m apos) [.Name z p2] [] pos) (fun o' d => ∃ od1' od2', R1 [od1', od2'] d ∧ o' = (i, od1') :: (i2, od2') :: o) := fun Q kq => by
  obtain ⟨f, fd, ps, cl, hm, hb, F⟩ := h
  refine wpE_of (t := tMeth Cl m (spO A) [] E (tVar i) (tCons (tVar i2) tNil)) (fun y hy => ?_) ?_
  · obtain ⟨pl, ht⟩ := ht y.env
    exact pe_meth (pl := pl) (pe_var (i := i) (by rw [C.slots y hy]; exact hN) (C.vis y hy _ hv) hd hcd) (by rw [C.frag y hy]; exact cl) (by rw [C.frag y hy]; exact hm) (C.fn hy F) ((C.room y hy).mono hj) (by rw [C.frag y hy]; exact hb) .nil (C.pass hy) (pa_cons (pe_var (i := i2) (by rw [C.slots y hy]; exact hN2) (C.vis y hy _ hv2) hd2 hcd2) pa_nil (he y.env)) (he _) (hpl _) ht
  · obtain ⟨h1, ⟨u, h2, dx, fvs, rfl, h3⟩, g1, g2⟩ := ok.own
    refine ⟨_, h1, p, dx, _, rfl, h2, lookup_zip_none hn, _, g1, ?_⟩
    exact core_O (q1 := [p, a]) (is := [i, i2]) (ods := [oI Cl ns fs, od2]) (us := []) ok rfl rfl er hA trivial fun v H' ods' d hR hl ok' pd => by
      obtain ⟨od1', od2', rfl⟩ := two_of hl
      exact kq v H' _ d ⟨od1', od2', hR, rfl⟩ ok' pd
/-- f(x, ..), x owned -/
theorem evO_call (C : Ctx X P w K mg base N kd k E) {A : PrO} {R1 : List OD → D → Prop} (h : HasO P w K mg base j x A) (ok : Okf B S (p :: q) H σ ss ((i, od) :: o)) (er : Errs E ex B) (ga : Gas X E ex ss (e :: es) ds) (hA : A [od] ds R1 ex) (hj : j ≤ k := by decide) (hg : kd x = some .globalImplicit := by rfl)
    (hN : N[i]? = some y := by rfl) (hv : Seen kd y := by first | exact Or.inl rfl | exact Or.inr (Or.inl rfl) | exact Or.inr (Or.inr rfl)) (hd : (y == ("__debug__" : Str)) = false := by decide) (hcd : (y == ("__classdict__" : Str)) = false := by decide) (hdb : (x == ("__debug__" : Str)) = false := by decide)
    (he : ∀ env, starEach (.Name y p2 :: e :: es) env = (false, eval (.Name y p2) env) :: starEach (e :: es) env := by intro _; rfl) (hpl : ∀ env, (backTo pos (starEach (e :: es) env)).any (·.1) = false := by intro _; rfl) :
    EvO X B S (p :: q) H σ ss (.Call (.Name x p1) (.Name y p2 :: e :: es) [] pos) (fun o' d => ∃ od', R1 [od'] d ∧ o' = (i, od') :: o) := fun Q kq => by
  obtain ⟨f, fd, ps, hm, hk, hb, F⟩ := h
  refine wpE_of (t := tCall (spO A) [] E (tCons (tVar i) (wpA X (e :: es)))) (fun y hy => ?_) ?_
  · exact pe_call (C.fn hy F) ((C.room y hy).mono hj) (C.gl hy hg) (by rw [C.names y hy]; exact hm) (by rw [C.frag y hy]; exact hk) (by rw [C.frag y hy]; exact hb) .nil (C.pass hy) (pa_cons (pe_var (i := i) (by rw [C.slots y hy]; exact hN) (C.vis y hy _ hv) hd hcd) (wpA_pa hy) (he y.env)) hdb (he _) (hpl _)
  · obtain ⟨h1, ⟨u, h2, h3⟩, h4⟩ := ok.own
    refine ⟨_, h1, ga _ H σ ok.ok (er.at ok.ex) _ fun us H1 e1 pr => ?_⟩
    show spO A (V.ref p :: us ++ []) H1 Q E
    rw [List.append_nil]
    exact core_O (q1 := [p]) (is := [i]) (ods := [od]) (ok.up e1) rfl rfl er hA pr fun v H' ods' d hR hl ok' pd => by
      obtain ⟨od', rfl⟩ := one_of hl
      exact kq v H' _ d ⟨od', hR, rfl⟩ ok' pd
/-! statements over such a call -/
variable {R : Ow → D → Prop}
theorem so_expr (g : EvO X B S q H σ ss e R) (kk : ∀ H' o' d, R o' d → Okf B S q H' σ ss o' → wpS X r Dn σ H') (hs : ∀ env, swapsWith e none pos.line env = pure false := by intro _; rfl) : wpS X (.Expr e pos :: r) Dn σ H :=
  wpS_cons (fun x hx => ps_expr (wpE_pe hx) (hs x.env)) (g _ fun v H' o' d hR ok pd => kk H' o' d hR ok)
theorem so_ret (g : EvO X B S q H σ ss e R) (kk : ∀ v H' o' d, R o' d → Okf B S q H' σ ss o' → d.p (wd (q ++ S) H') v → Dn.rt v H') : wpS X (.Return (some e) pos :: r) Dn σ H :=
  wpS_cons (fun x hx => ps_ret (wpE_pe hx)) (g _ kk)
theorem so_set (C : Ctx X P w K mg base N kd k E) (i : Nat) {y : Str} {pos' : Pos} (g : EvO X B S q H σ ss e R) (kk : ∀ H' σ' o' d, R o' d → Okf B S q H' σ' (ss.set i (some d)) o' → wpS X r Dn σ' H') (ho : ∀ o' d, R o' d → offO o' [i] = true)
    (hN : N[i]? = some y := by rfl) (hl : Own1 kd y := by first | exact Or.inl rfl | exact Or.inr rfl) (hs : ∀ env, swapsWith e (some (.Name y pos')) pos.line env = pure false := by intro _; rfl) : wpS X (.Assign [.Name y pos'] e pos :: r) Dn σ H :=
  wpS_cons (fun x hx => ps_set (i := i) (by rw [C.slots x hx]; exact C.nd) (by rw [C.slots x hx]; exact hN) (C.lo hx hl) (wpE_pe hx) (hs x.env) (C.fnl hx hl)) (g _ fun v H' o' d hR ok pd =>
    kk H' _ o' d hR (ok.store (is := [i]) (Same.refl H') (Off.set (by simp)) ⟨ok.ok.hid, ok.ok.sl.set pd⟩ (ho o' d hR)))
/-- return e, what is owned kept -/
theorem so_retE (ok : Okf B S q H σ ss o) (er : Errs E ex B) (g : Ge X E ex ss e d) (kk : ∀ v H', Okf B S q H' σ ss o → d.p (wd (q ++ S) H') v → Dn.rt v H') : wpS X (.Return (some e) pos :: r) Dn σ H :=
  wpS_cons (fun x hx => ps_ret (wpE_pe hx)) (g _ H σ ok.ok (er.at ok.ex) _ fun v H1 e1 pv => kk v H1 (ok.up e1) pv)
theorem so_retS (ok : Okf B S q H σ ss o) (g : Ev X (q ++ S) H σ e d) (kk : ∀ v H', Okf B S q H' σ ss o → d.p (wd (q ++ S) H') v → Dn.rt v H') : wpS X (.Return (some e) pos :: r) Dn σ H :=
  wpS_cons (fun x hx => ps_ret (wpE_pe hx)) (g _ fun v H1 e1 pv => kk v H1 (ok.up e1) pv)
/-- two of what is owned change places -/
theorem Okf.swap {od1 od2 : OD} {i1 i2 : Nat} (ok : Okf B S (p :: a :: q) H σ ss ((i1, od1) :: (i2, od2) :: o)) : Okf B S (a :: p :: q) H σ ss ((i2, od2) :: (i1, od1) :: o) := by
  have e : wd (a :: p :: q ++ S) H = wd (p :: a :: q ++ S) H := by
    funext b
    have iff : b ∈ a :: p :: q ++ S ↔ b ∈ p :: a :: q ++ S := by
      simp only [List.cons_append, List.mem_cons]
      constructor <;> (rintro (h | h | h) <;> simp [h])
    by_cases hb : b ∈ a :: p :: q ++ S
    · rw [wd_in hb, wd_in (iff.mp hb)]
    · rw [wd_out hb, wd_out fun z => hb (iff.mpr z)]
  obtain ⟨h1, h2, h3, h4, h5⟩ := ok.own
  have hnd := ok.nd
  refine ⟨ok.ex, ok.hid, fun b hb => ok.new b ?_, by rw [e]; exact ok.sl, by rw [e]; exact ⟨h3, h4, h1, h2, h5⟩, ?_⟩
  · simp only [List.mem_cons] at hb ⊢
    rcases hb with h | h | h <;> simp [h]
  · simp only [List.nodup_cons, List.mem_cons, not_or] at hnd ⊢
    exact ⟨⟨Ne.symm hnd.1.1, hnd.2.1⟩, hnd.1.2, hnd.2.2⟩
/-- what is owned first is let be: seen from here on, changed no more -/
theorem Okf.give {dv : D} (ok : Okf B S (a :: q) H σ ss ((i, od) :: o)) (hod : ∀ W h, W a = some h → od.p W h → dv.p W (.ref a)) : Okf B S q H σ (ss.set i (some dv)) o := by
  have s := (ok.seen hod).sl
  obtain ⟨h1, h2, h3⟩ := ok.own
  exact ⟨ok.ex, ok.hid, fun b hb => ok.new b (List.mem_cons_of_mem _ hb), s, owns_keep (wd_less fun b hb => List.mem_cons_of_mem _ hb) (fun _ _ _ e => e) h3, (List.nodup_cons.mp ok.nd).2⟩
end
end Tr
namespace Tr
open PySem PySem.Spec PyProof.Rows L2
theorem putF_new {f : Str} {y : V} : ∀ {ns : List Str} {vs : List V}, vs.length = ns.length → ¬ f ∈ ns → putF f y (ns.zip vs) = (ns ++ [f]).zip (vs ++ [y])
  | [], [], _, _ => rfl
  | n :: ns, v :: vs, l, h => by
    have ih := putF_new (f := f) (y := y) (Nat.succ.inj l) fun z => h (List.mem_cons_of_mem _ z)
    show (if n = f then (n, y) :: ns.zip vs else (n, v) :: putF f y (ns.zip vs)) = _
    rw [if_neg fun z => h (by rw [z]; exact List.mem_cons_self), ih]
    rfl
  | [], _ :: _, l, _ => nomatch l
  | _ :: _, [], l, _ => nomatch l
theorem putF_at {f : Str} {y : V} : ∀ {ns : List Str} {vs : List V} {j : Nat}, ns.Nodup → vs.length = ns.length → ns[j]? = some f → putF f y (ns.zip vs) = ns.zip (vs.set j y)
  | [], _, _, _, _, h => by simp at h
  | n :: ns, v :: vs, 0, _, _, h => by
    have h : n = f := by simpa using h
    show (if n = f then _ else _) = _
    rw [if_pos h]
    rfl
  | n :: ns, v :: vs, j + 1, nd, l, h => by
    obtain ⟨n1, n2⟩ := List.nodup_cons.mp nd
    have h : ns[j]? = some f := by simpa using h
    have ih := putF_at (y := y) n2 (Nat.succ.inj l) h
    show (if n = f then (n, y) :: ns.zip vs else (n, v) :: putF f y (ns.zip vs)) = _
    rw [if_neg fun z => n1 (by rw [z]; exact List.mem_of_getElem? h), ih]
    rfl
  | _ :: _, [], _, _, l, _ => nomatch l
theorem Reps.set {W : Hp} {v : V} {d : D} (h : d.p W v) : ∀ {vs : List V} {ds : List D} (j : Nat), Reps W vs ds → Reps W (vs.set j v) (ds.set j d)
  | [], [], _, _ => trivial
  | _ :: _, _ :: _, 0, r => ⟨h, r.2⟩
  | _ :: _, _ :: _, j + 1, r => ⟨r.1, Reps.set h j r.2⟩
  | [], _ :: _, _, r => r.elim
  | _ :: _, [], _, r => r.elim
section
variable {X : CS} {P : Program} {w : World} {K : PySem.W.Frag} {mg : Str → Option Value} {base : Heap} {N : List Str} {kd : Str → Option NameKind} {k j : Nat} {E : XK} {ex : Er → Prop} {ss ss' : List (Option D)} {da d : D} {ds ds0 fs : List D} {pos p1 p2 apos : Pos}
  {B : Hp} {S q : List Addr} {H : Hp} {σ : Sg} {o : Ow} {Dn : Ends} {r : List Stmt} {e : Expr} {es : List Expr} {p a : Addr} {i i2 : Nat} {y z m x f : Str} {Cl : Addr} {ns : List Str} {od od2 : OD}
/-- self.f = e, a new field -/
theorem st_fldNew (C : Ctx X P w K mg base N kd k E) (ok : Okf B S (p :: q) H σ ss ((i, oI Cl ns fs) :: o)) (g : Ev X (p :: q ++ S) H σ e d) (cl : Cls K Cl) (na : NoAttr K Cl f) (hf : ¬ f ∈ ns) (hz : ns.length < 900)
    (kk : ∀ H', Okf B S (p :: q) H' σ ss ((i, oI Cl (ns ++ [f]) (fs ++ [d])) :: o) → wpS X r Dn σ H')
    (hN : N[i]? = some y := by rfl) (hv : Seen kd y := by first | exact Or.inl rfl | exact Or.inr (Or.inl rfl) | exact Or.inr (Or.inr rfl)) (hd : (y == ("__debug__" : Str)) = false := by decide) (hcd : (y == ("__classdict__" : Str)) = false := by decide)
    (hlen : fs.length = ns.length := by rfl) (hs : ∀ env, swapsWith e (some (.Attribute (.Name y p1) f p2)) pos.line env = pure false := by intro _; rfl) : wpS X (.Assign [.Attribute (.Name y p1) f p2] e pos :: r) Dn σ H := by
  refine wpS_cons (t := sFld K (tVar i) (wpE X e) f) (fun x hx => by rw [← C.frag x hx]; exact ps_fld (pe_var (i := i) (by rw [C.slots x hx]; exact hN) (C.vis x hx _ hv) hd hcd) (wpE_pe hx) (hs x.env)) ?_
  refine g _ fun v H1 e1 pv => ?_
  obtain ⟨h1, ⟨u, h2, dx, fvs, rfl, h3⟩, h4⟩ := (ok.up e1).own
  have hl : fvs.length = ns.length := h3.len.trans hlen
  refine ⟨_, h1, p, Cl, dx, _, rfl, h2, cl, na, by rw [List.length_zip, hl, Nat.min_self]; omega, ?_⟩
  rw [putF_new hl hf]
  exact kk _ ((ok.up e1).own_put ⟨dx, fvs ++ [v], rfl, h3.snoc pv⟩)
/-- self.f = e, a field that is there -/
theorem st_fldPut (C : Ctx X P w K mg base N kd k E) (jf : Nat) (ok : Okf B S (p :: q) H σ ss ((i, oI Cl ns fs) :: o)) (g : Ev X (p :: q ++ S) H σ e d) (cl : Cls K Cl) (na : NoAttr K Cl f)
    (kk : ∀ H', Okf B S (p :: q) H' σ ss ((i, oI Cl ns (fs.set jf d)) :: o) → wpS X r Dn σ H') (hf : ns[jf]? = some f := by rfl) (nd : ns.Nodup := by decide) (hz : ns.length < 900 := by decide)
    (hN : N[i]? = some y := by rfl) (hv : Seen kd y := by first | exact Or.inl rfl | exact Or.inr (Or.inl rfl) | exact Or.inr (Or.inr rfl)) (hd : (y == ("__debug__" : Str)) = false := by decide) (hcd : (y == ("__classdict__" : Str)) = false := by decide)
    (hlen : fs.length = ns.length := by rfl) (hs : ∀ env, swapsWith e (some (.Attribute (.Name y p1) f p2)) pos.line env = pure false := by intro _; rfl) : wpS X (.Assign [.Attribute (.Name y p1) f p2] e pos :: r) Dn σ H := by
  refine wpS_cons (t := sFld K (tVar i) (wpE X e) f) (fun x hx => by rw [← C.frag x hx]; exact ps_fld (pe_var (i := i) (by rw [C.slots x hx]; exact hN) (C.vis x hx _ hv) hd hcd) (wpE_pe hx) (hs x.env)) ?_
  refine g _ fun v H1 e1 pv => ?_
  obtain ⟨h1, ⟨u, h2, dx, fvs, rfl, h3⟩, h4⟩ := (ok.up e1).own
  have hl : fvs.length = ns.length := h3.len.trans hlen
  refine ⟨_, h1, p, Cl, dx, _, rfl, h2, cl, na, by rw [List.length_zip, hl, Nat.min_self]; omega, ?_⟩
  rw [putF_at nd hl hf]
  exact kk _ ((ok.up e1).own_put ⟨dx, fvs.set jf v, rfl, h3.set pv jf⟩)
/-- a method that may raise -/
theorem g_methX {A : Pr} (C : Ctx X P w K mg base N kd k E) {a : Expr} (h : HasM P w K mg base (L2.CX P w) j Cl m A) (ho : Ge X E ex ss a (dO Cl ns ds0)) (ha : Gas X E ex ss (e :: es) ds) (hA : A (dO Cl ns ds0 :: ds) (fun d' => d' = d) ex) (hj : j ≤ k := by decide) (hn : ¬ m ∈ ns := by decide)
    (he : ∀ env, starEach (e :: es) env = (false, eval e env) :: starEach es env := by intro _; rfl) (hpl : ∀ env, (backTo pos (starEach es env)).any (·.1) = false := by intro _; rfl)
    (ht : ∀ env, ∃ pl : Sem Bool, eval (.Call (.Attribute a m apos) (e :: es) [] pos) env = (do
      let ov ← eval a env
      standAt apos.atName
      let (f, first) ← holding [ov] (getMethod ov m pl)
      callWith pos f first (backTo pos (starEach (e :: es) env)) (backToKw pos (keywordEach [] env))) := by intro _; exact ⟨_, rfl⟩) :
    Ge X E ex ss (.Call (.Attribute a m apos) (e :: es) [] pos) d := by
  obtain ⟨f, fd, ps, cl, hm, hb, F⟩ := h
  refine ge_pe (fun y hy => ?_) (gv_meth (E' := E) ho hn ha hA fun _ er => er)
  obtain ⟨pl, ht⟩ := ht y.env
  exact pe_meth (pl := pl) (wpE_pe hy) (by rw [C.frag y hy]; exact cl) (by rw [C.frag y hy]; exact hm) (C.fn hy F) ((C.room y hy).mono hj) (by rw [C.frag y hy]; exact hb) .nil (C.pass hy) (wpA_pa hy) (he _) (hpl _) ht
theorem g_methX0 {A : Pr} (C : Ctx X P w K mg base N kd k E) {a : Expr} (h : HasM P w K mg base (L2.CX P w) j Cl m A) (ho : Ge X E ex ss a (dO Cl ns ds0)) (hA : A [dO Cl ns ds0] (fun d' => d' = d) ex) (hj : j ≤ k := by decide) (hn : ¬ m ∈ ns := by decide)
    (ht : ∀ env, ∃ pl : Sem Bool, eval (.Call (.Attribute a m apos) [] [] pos) env = (do
      let ov ← eval a env
      standAt apos.atName
      let (f, first) ← holding [ov] (getMethod ov m pl)
      callWith pos f first (backTo pos (starEach [] env)) (backToKw pos (keywordEach [] env))) := by intro _; exact ⟨_, rfl⟩) :
    Ge X E ex ss (.Call (.Attribute a m apos) [] [] pos) d := by
  obtain ⟨f, fd, ps, cl, hm, hb, F⟩ := h
  refine ge_pe (fun y hy => ?_) (gv_meth (E' := E) ho hn (t := tNil) ga_nil0 hA fun _ er => er)
  obtain ⟨pl, ht⟩ := ht y.env
  exact pe_meth0 (pl := pl) (wpE_pe hy) (by rw [C.frag y hy]; exact cl) (by rw [C.frag y hy]; exact hm) (C.fn hy F) ((C.room y hy).mono hj) (by rw [C.frag y hy]; exact hb) .nil (C.pass hy) ht
/-- C(..).m() -/
theorem g_newMeth {A : PrO} {I : PrI} (C : Ctx X P w K mg base N kd k E) {j2 : Nat} (h : HasC P w K mg base j Cl x ns I) (hM : HasMO P w K mg base j2 Cl m A) (ha : Gas X E ex ss (e :: es) ds) (hIA : (∃ W us, Reps W us ds) → I ds (fun f => f = fs) ∧ A [oI Cl ns fs] [] (fun _ d' => d' = d) ex) (hj : j + 1 ≤ k := by decide) (hj2 : j2 ≤ k := by decide) (hn : ¬ m ∈ ns := by decide) (hg : kd x = some .globalImplicit := by rfl)
    (hdb : (x == ("__debug__" : Str)) = false := by decide) (he : ∀ env, starEach (e :: es) env = (false, eval e env) :: starEach es env := by intro _; rfl) (hpl : ∀ env, (backTo p2 (starEach es env)).any (·.1) = false := by intro _; rfl)
    (ht : ∀ env, ∃ pl : Sem Bool, eval (.Call (.Attribute (.Call (.Name x p1) (e :: es) [] p2) m apos) [] [] pos) env = (do
      let ov ← eval (.Call (.Name x p1) (e :: es) [] p2) env
      standAt apos.atName
      let (f, first) ← holding [ov] (getMethod ov m pl)
      callWith pos f first (backTo pos (starEach [] env)) (backToKw pos (keywordEach [] env))) := by intro _; exact ⟨_, rfl⟩) :
    Ge X E ex ss (.Call (.Attribute (.Call (.Name x p1) (e :: es) [] p2) m apos) [] [] pos) d := by
  obtain ⟨f, fd, ps, hm, mk, hb, F⟩ := h
  obtain ⟨f2, fd2, ps2, cl, hm2, hb2, F2⟩ := hM
  refine ge_pe (t := tMeth Cl m (spO A) [] E (tMake Cl (spI Cl ns I) [] E0 (wpA X (e :: es))) tNil) (fun y hy => ?_) fun S H σ ok er Q qk => ?_
  · obtain ⟨pl, ht⟩ := ht y.env
    exact pe_meth0 (pl := pl) (pe_make (by rw [C.frag y hy]; exact mk) (C.fn hy F) ((C.room y hy).mono hj) (C.gl hy hg) (by rw [C.names y hy]; exact hm) (by rw [C.frag y hy]; exact hb) .nil pass0 (wpA_pa hy) hdb (he _) (hpl _)) (by rw [C.frag y hy]; exact cl) (by rw [C.frag y hy]; exact hm2) (C.fn hy F2) ((C.room y hy).mono hj2) (by rw [C.frag y hy]; exact hb2) .nil (C.pass hy) ht
  · refine ha S H σ ok er _ fun us H1 e1 pr x dx hx hd hne => ?_
    obtain ⟨hI, hA⟩ := hIA ⟨_, us, pr⟩
    show spI Cl ns I (V.ref x :: (us ++ [])) _ _ _
    rw [List.append_nil]
    have hS := (ok.up e1).hid
    have hxS : ¬ x ∈ S := fun z => hS x z hx
    refine ⟨S, x, dx, us, ds, _, rfl, upd_same, hxS, fun b hb z => ?_, pr.up (made_up hx hd), hI, fun dx' f fvs H' hf e2 hp r => ?_⟩
    · by_cases h1 : b = x
      · rw [h1, upd_same] at z; cases z
      · rw [upd_ne h1] at z
        by_cases h2 : b = dx
        · rw [h2, upd_same] at z; cases z
        · rw [upd_ne h2] at z
          exact hS b hb z
    · subst hf
      have s1 : Same H1 H' := fun b o eb => e2 b o (by
        have h1 : b ≠ x := ne_of_none eb hx
        rw [wd_out (by simpa using h1), upd_ne h1, upd_ne (ne_of_none eb hd)]
        exact eb)
      refine ⟨rfl, x, dx', _, rfl, hp, lookup_zip_none hn, ?_⟩
      refine ⟨S, [x], [], [], [oI Cl ns f], _, ex, rfl, ⟨⟨_, hp, dx', fvs, rfl, r⟩, trivial⟩, by simp, fun b hb z => ?_, fun b hb => (ok.up (e1.trans s1)).hid b hb, trivial, hA, fun o' d' v H2 hd' sm hO pd => ?_, ?_⟩
      · rw [List.mem_singleton.mp hb] at z
        exact hxS z
      · subst hd'
        have s2 : Same H1 H2 := fun b u eb => sm b u (by rw [wd_out (by simpa using ne_of_none eb hx)]; exact s1 b u eb)
        exact qk v H2 (e1.trans s2) (d'.up (wd_less fun b hb => List.mem_cons_of_mem _ hb) pd)
      · refine er.up fun b u eb => ?_
        have h1 := e1 b u eb
        rw [wd_out (by simpa using ne_of_none h1 hx)]
        exact s1 b u h1
/-- y = C(), owned -/
theorem st_make0 {I : PrI} (C : Ctx X P w K mg base N kd k E) (i : Nat) {pos1 : Pos} (ok : Okf B S q H σ ss o) (h : HasC P w K mg base j Cl x ns I) (hI : I [] (fun f => f = fs)) (hi : i < ss.length := by exact Nat.le_of_ble_eq_true rfl)
    (kk : ∀ p H' σ', Okf B S (p :: q) H' σ' (ss.set i none) ((i, oI Cl ns fs) :: o) → wpS X r Dn σ' H') (hj : j + 1 ≤ k := by decide) (hg : kd x = some .globalImplicit := by rfl)
    (ho : offO o [i] = true := by rfl) (hN : N[i]? = some y := by rfl) (hl : Own1 kd y := by first | exact Or.inl rfl | exact Or.inr rfl) (hdb : (x == ("__debug__" : Str)) = false := by decide)
    (hs : ∀ env, swapsWith (.Call (.Name x p1) [] [] p2) (some (.Name y pos1)) pos.line env = pure false := by intro _; rfl) : wpS X (.Assign [.Name y pos1] (.Call (.Name x p1) [] [] p2) pos :: r) Dn σ H := by
  obtain ⟨f, fd, ps, hm, mk, hb, F⟩ := h
  refine wpS_cons (t := tAsg (tMake Cl (spI Cl ns I) [] E0 tNil) (gName i)) (fun y hy => ps_set (i := i) (by rw [C.slots y hy]; exact C.nd) (by rw [C.slots y hy]; exact hN) (C.lo hy hl) (pe_make0 (by rw [C.frag y hy]; exact mk) (C.fn hy F) ((C.room y hy).mono hj) (C.gl hy hg) (by rw [C.names y hy]; exact hm) (by rw [C.frag y hy]; exact hb) .nil pass0 hdb) (hs y.env) (C.fnl hy hl)) ?_
  intro x dx hx hd hne
  have hS := ok.ok.hid
  have hxS : ¬ x ∈ q ++ S := fun z => hS x z hx
  refine ⟨q ++ S, x, dx, [], [], _, rfl, upd_same, hxS, fun b hb z => ?_, trivial, hI, fun dx' f fvs H' hf e2 hp r => ?_⟩
  · by_cases h1 : b = x
    · rw [h1, upd_same] at z; cases z
    · rw [upd_ne h1] at z
      by_cases h2 : b = dx
      · rw [h2, upd_same] at z; cases z
      · rw [upd_ne h2] at z
        exact hS b hb z
  · subst hf
    have s1 : Same H (fun b => if b = x then none else H' b) := fun b u eb => by
      have h1 : b ≠ x := ne_of_none eb hx
      show (if b = x then none else H' b) = some u
      rw [if_neg h1]
      exact e2 b u (by rw [wd_out (by simpa using h1), upd_ne h1, upd_ne (ne_of_none eb hd)]; exact eb)
    have ok1 := (ok.up s1).own_new (p := x) (u := .ins Cl dx' (ns.zip fvs)) (od := ⟨fun _ _ => True, fun _ _ => trivial⟩) (i := i) (if_pos rfl) (by rw [ok.sl.len]; exact hi) ho fun W => trivial
    have eH : upd (fun b => if b = x then none else H' b) x (.ins Cl dx' (ns.zip fvs)) = H' := by
      funext b
      unfold upd
      by_cases hb : b = x
      · rw [if_pos hb, hb, hp]
      · rw [if_neg hb]
        exact if_neg hb
    rw [eH] at ok1
    have ok2 := ok1.own_put (u := .ins Cl dx' (ns.zip fvs)) (od' := oI Cl ns f) ⟨dx', fvs, rfl, r⟩
    have eH2 : upd H' x (.ins Cl dx' (ns.zip fvs)) = H' := by
      funext b
      unfold upd
      by_cases hb : b = x
      · rw [if_pos hb, hb, hp]
      · rw [if_neg hb]
    rw [eH2] at ok2
    exact ⟨rfl, kk x H' _ ok2⟩
end
/-! ### defs of what is handed in to be changed; __init__ -/
/-- contexts of a def's own body -/
structure Top (X : CS) : Prop where
  stk : ∀ x, X x → x.stack = x.env :: x.outer
  frm : ∀ x, X x → x.env.frame = some x.env.locals
def DoesO (X : CS) (E : XK) (A : PrO) (n : Nat) (b : List Stmt) : Prop := ∀ (S q : List Addr) (H : Hp) (σ : Sg) (o : List OD) (ds : List D) (kr : List OD → D → Prop) (ke : Er → Prop), A o ds kr ke → q.length = o.length → Okf (wd q H) S q H σ (List.replicate q.length none ++ (ds.map some ++ List.replicate (n - (q.length + ds.length)) none)) (own0 0 o) → Errs E ke (wd q H) →
  ∀ Dn : Ends, (∀ o' d v H' σ' ss', kr o' d → Okf (wd q H) S q H' σ' ss' (own0 0 o') → d.p (wd (q ++ S) H') v → Dn.rt v H') → (∀ o' σ' H' ss', kr o' dN → Okf (wd q H) S q H' σ' ss' (own0 0 o') → Dn.nx σ' H') → wpS X b Dn σ H
theorem slN {W : Hp} : ∀ {q : List Addr} {σ : Sg} {ss : List (Option D)}, Sl W σ ss → Sl W ((q.map fun a => some (V.ref a)) ++ σ) (List.replicate q.length none ++ ss)
  | [], _, _, h => h
  | _ :: q, _, _, h => slN (q := q) h
theorem startO_ok {N : List Str} {S q : List Addr} {H : Hp} {us : List V} {ds : List D} {o : List OD} (hO : OwnsA (wd (q ++ S) H) H q o) (nd : q.Nodup) (hq : ∀ a ∈ q, ¬ a ∈ S) (hid : ∀ b ∈ S, H b ≠ none) (r : Reps (wd (q ++ S) H) us ds) :
    Okf (wd q H) S q H (start N (q.map V.ref ++ us)) (List.replicate q.length none ++ (ds.map some ++ List.replicate (N.length - (q.length + ds.length)) none)) (own0 0 o) := by
  have e : start N (q.map V.ref ++ us) = (q.map fun a => some (V.ref a)) ++ (us.map some ++ List.replicate (N.length - (q.length + ds.length)) none) := by
    unfold L2.start
    rw [List.map_append, List.map_map, List.length_append, List.length_map, r.len, List.append_assoc]
    rfl
  rw [e]
  refine ⟨wd_same q H, fun b hb => ?_, fun a ha => wd_in ha, slN (Sl.start _ r), owns_start [] _ hO, nd⟩
  rw [wd_out fun z => hq b z hb]
  exact hid b hb
section
variable {P : Program} {w : World} {K : PySem.W.Frag} {mg : Str → Option Value} {base : Heap} {k : Nat} {N ps : List Str} {st : Stmt} {x qual : Str} {f : Addr} {fd : FuncData}
theorem def_okO {A : PrO} (F : Fun K x qual st f fd) (sc : FnScope N ps (defScope st)) (hl : ∀ o ds kr ke, A o ds kr ke → o.length + ds.length = ps.length)
    (h : ∀ (X : CS) (E : XK), Ctx X P w K mg base N (fun y => (defScope st).names.lookup y) k E → Top X → DoesO X E A N.length (defBody st)) : FnOk P w K mg base (L2.CX P w) (k + 1) f fd ps (spO A) := by
  refine F.okX sc (fun vs H Q E hs => ?_) (fun cdv A0 outer s H vs Q E hr hs => ?_)
  · obtain ⟨S, q, us, ds, o, kr, ke, h1, h2, _, _, _, h3, h4, _⟩ := hs
    have := hl _ _ _ _ h4
    rw [h1, List.length_append, List.length_map, h2.len, h3.len]
    exact this
  · obtain ⟨S, q, us, ds, o, kr, ke, h1, h2, h3, h4, h5, h6, h7, h8, h9⟩ := hs
    subst h1
    refine ⟨wpS (fun y => y = cxOf (L2.CX P w) P w K mg base N qual (defScope st) f cdv A0 outer s H E) (defBody st), wpS_pss rfl, ?_⟩
    refine h _ E ?_ ⟨by rintro y rfl; rfl, by rintro y rfl; rfl⟩ S q H _ o ds kr ke h7 h2.len (startO_ok h2 h3 h4 h5 h6) h9 _ (fun o' d v H' σ' ss' k1 ok k3 => h8 o' d v H' k1 ok.ex (owns_A ok.own) k3) fun o' σ' H' ss' k1 ok => h8 o' dN .non H' k1 ok.ex (owns_A ok.own) rfl
    constructor
    · rintro y rfl; rfl
    · rintro y rfl; rfl
    · rintro y rfl; rfl
    · rintro y rfl; rfl
    · rintro y rfl; rfl
    · rintro y rfl; rfl
    · rintro y rfl; rfl
    · rintro y rfl; exact hr
    · rintro y rfl; exact sc.kind
    · rintro y rfl n hn; exact hn
    · rintro y rfl n hn; exact hn
    · rintro y rfl n hn; exact hn
    · rintro y rfl n hn; exact ⟨hn, rfl⟩
    · exact sc.nd
    · rintro y rfl; exact takes_of rfl rfl rfl rfl
    · rintro y rfl; exact passes_of rfl
/-- .. a def that hands nothing in to be changed, its body's contexts known to be its own -/
theorem def_okXT {A : Pr} (F : Fun K x qual st f fd) (sc : FnScope N ps (defScope st)) (hl : ∀ ds kr ke, A ds kr ke → ds.length = ps.length)
    (h : ∀ (X : CS) (E : XK), Ctx X P w K mg base N (fun y => (defScope st).names.lookup y) k E → Top X → Does X E A N.length (defBody st)) : FnOk P w K mg base (L2.CX P w) (k + 1) f fd ps (spT A) := by
  refine F.okX sc (fun vs H Q E hs => ?_) (fun cdv A0 outer s H vs Q E hr hs => ?_)
  · obtain ⟨S, ds, kr, ke, h1, h2, h3, _⟩ := hs
    rw [h2.len, hl _ _ _ h3]
  · obtain ⟨S, ds, kr, ke, h1, h2, h3, h4, h5⟩ := hs
    refine ⟨wpS (fun y => y = cxOf (L2.CX P w) P w K mg base N qual (defScope st) f cdv A0 outer s H E) (defBody st), wpS_pss rfl, ?_⟩
    refine h _ E ?_ ⟨by rintro y rfl; rfl, by rintro y rfl; rfl⟩ S H (start N vs) ds kr ke h3 (start_ok h1 h2) h5 _ (fun d v H' k1 k2 k3 => h4 d v H' k1 k2 k3) fun σ' H' k1 k2 => h4 dN .non H' k1 k2 rfl
    constructor
    · rintro y rfl; rfl
    · rintro y rfl; rfl
    · rintro y rfl; rfl
    · rintro y rfl; rfl
    · rintro y rfl; rfl
    · rintro y rfl; rfl
    · rintro y rfl; rfl
    · rintro y rfl; exact hr
    · rintro y rfl; exact sc.kind
    · rintro y rfl n hn; exact hn
    · rintro y rfl n hn; exact hn
    · rintro y rfl n hn; exact hn
    · rintro y rfl n hn; exact ⟨hn, rfl⟩
    · exact sc.nd
    · rintro y rfl; exact takes_of rfl rfl rfl rfl
    · rintro y rfl; exact passes_of rfl
def DoesI (X : CS) (Cl : Addr) (ns : List Str) (I : PrI) (n : Nat) (b : List Stmt) : Prop := ∀ (S : List Addr) (p : Addr) (H : Hp) (σ : Sg) (ds : List D) (kr : List D → Prop), I ds kr → Okf (wd [p] H) S [p] H σ (none :: (ds.map some ++ List.replicate (n - (1 + ds.length)) none)) [(0, oI Cl [] [])] →
  ∀ Dn : Ends, (∀ fs σ' H' ss', kr fs → Okf (wd [p] H) S [p] H' σ' ss' [(0, oI Cl ns fs)] → Dn.nx σ' H') → wpS X b Dn σ H
theorem def_okI {Cl : Addr} {ns : List Str} {I : PrI} (F : Fun K x qual st f fd) (sc : FnScope N ps (defScope st)) (hl : ∀ ds kr, I ds kr → 1 + ds.length = ps.length)
    (h : ∀ X : CS, Ctx X P w K mg base N (fun y => (defScope st).names.lookup y) k E0 → DoesI X Cl ns I N.length (defBody st)) : FnOk P w K mg base CX0 (k + 1) f fd ps (spI Cl ns I) := by
  refine F.ok sc (fun vs H Q E hs => ?_) (fun cdv A0 outer s H vs Q E hr hs => ?_)
  · obtain ⟨S, p, dx, us, ds, kr, h1, _, _, _, h2, h3, _⟩ := hs
    have := hl _ _ h3
    rw [h1, List.length_cons, h2.len]
    omega
  · obtain ⟨S, p, dx, us, ds, kr, h1, h2, h3, h4, h5, h6, h7⟩ := hs
    subst h1
    refine ⟨wpS (fun y => y = (cxOf CX0 P w K mg base N qual (defScope st) f cdv A0 outer s H E).nox) (defBody st), wpS_pss rfl, ?_⟩
    refine h _ ?_ S p H _ ds kr h6 (startO_ok (q := [p]) (o := [oI Cl [] []]) ⟨⟨_, h2, dx, [], rfl, trivial⟩, trivial⟩ (by simp) (fun a ha z => h3 (by rw [← List.mem_singleton.mp ha]; exact z)) h4 h5) _ fun fs σ' H' ss' k1 ok => ?_
    · constructor
      · rintro y rfl; rfl
      · rintro y rfl; rfl
      · rintro y rfl; rfl
      · rintro y rfl; rfl
      · rintro y rfl; rfl
      · rintro y rfl; rfl
      · rintro y rfl; rfl
      · rintro y rfl; exact hr
      · rintro y rfl; exact sc.kind
      · rintro y rfl n hn; exact hn
      · rintro y rfl n hn; exact hn
      · rintro y rfl n hn; exact hn
      · rintro y rfl n hn; exact ⟨hn, rfl⟩
      · exact sc.nd
      · rintro y rfl; exact takes0
      · rintro y rfl; exact PassesOwn.never
    · obtain ⟨_, ⟨u, e1, dx', fvs, rfl, e2⟩, _⟩ := ok.own
      exact h7 dx' fs fvs H' k1 ok.ex e1 e2
end
end Tr
namespace Tr
open PySem PySem.Spec PyProof.Rows L2
/-! ### errors -/
/-- what the written part says of an error class -/
structure ExT (K : PySem.W.Frag) (mg : Str → Option Value) (x : Str) (C fI : Addr) (fields : List Str) : Prop where
  gC : mg x = some (.ref C)
  oex : OexC K C
  iC : PySem.W.findIn K (.ref C) "__init__" = some (some (.ref fI))
  tI : PySem.W.typeIn K (.ref fI) = some (.type "function")
  ga : PySem.W.findIn K (.ref C) "__getattribute__" = some (some (.builtin "BaseException.__getattribute__"))
  gg : PySem.W.findIn K (.ref C) "__getattr__" = some none
  hdC : PySem.W.hasDictIn K C = true
  te : PySem.W.exmOne K (.ref C) (.ref C) = some true
  no : ∀ f ∈ fields, PySem.W.findIn K (.ref C) f = some none
/-- its __init__ -/
def spX (C : Addr) (n : Nat) (fo : List V → List (Str × V)) : Sp := fun vs H Q _ => ∃ (a : Addr) (us : List V), vs = .ref a :: us ∧ us.length = n ∧ H a = some (exo a C none) ∧ ∀ dx H', H dx = none → dx ≠ a → H' a = some (exo a C (some dx)) → H' dx = some (exd dx (fo us)) → (∀ b, b ≠ a → b ≠ dx → H' b = H b) → Q .non H'
def HasX (P : Program) (w : World) (K : PySem.W.Frag) (mg : Str → Option Value) (base : Heap) (k : Nat) (C fI : Addr) (n : Nat) (fo : List V → List (Str × V)) : Prop := ∃ fd ps, Binds K fd ps [] ∧ FnOk P w K mg base CX0 k fI fd ps (spX C n fo)
section
variable {X : CS} {P : Program} {w : World} {K : PySem.W.Frag} {mg : Str → Option Value} {base : Heap} {N : List Str} {kd : Str → Option NameKind} {k j : Nat} {E : XK} {ex : Er → Prop} {ss ss' : List (Option D)} {da d : D} {ds ds0 fs : List D} {pos p1 p2 apos : Pos}
  {B : Hp} {S q : List Addr} {H : Hp} {σ : Sg} {o : Ow} {Dn : Ends} {r : List Stmt} {e : Expr} {es : List Expr} {p a : Addr} {i i2 : Nat} {y z m x f n : Str} {fields : List Str} {Cl fI : Addr}
theorem st_raise (C : Ctx X P w K mg base N kd k E) {nn : Nat} {fo : List V → List (Str × V)} {us : List V} (T : ExT K mg x Cl fI fields) (hI : HasX P w K mg base j Cl fI nn fo) (ok : Okf B S q H σ ss o) (er : Errs E ex B) (ga : Gas X E ex ss (e :: es) (us.map dV)) (hn : us.length = nn) (hz : us.length ≤ 1000) (hex : ex ⟨Cl, fo us⟩)
    (hj : j + 1 ≤ k := by decide) (hg : kd x = some .globalImplicit := by rfl) (hdb : (x == ("__debug__" : Str)) = false := by decide) (he : ∀ env, starEach (e :: es) env = (false, eval e env) :: starEach es env := by intro _; rfl) (hpl : ∀ env, (backTo p2 (starEach es env)).any (·.1) = false := by intro _; rfl) :
    wpS X (.Raise (some (.Call (.Name x p1) (e :: es) [] p2)) none pos :: r) Dn σ H := by
  obtain ⟨fd, ps, hb, F⟩ := hI
  refine wpS_cons (t := fun _ σ H => tMkO Cl (spX Cl nn fo) [] (wpA X (e :: es)) σ H fun cls d H' => E cls d H') (fun y hy => ps_raise (C.calm y hy) (C.takes y hy) (pmk_oex (by rw [C.frag y hy]; exact T.oex) (by rw [C.frag y hy]; exact T.iC) (by rw [C.frag y hy]; exact T.tI) (C.fn hy F) ((C.room y hy).mono hj) (by rw [C.frag y hy]; exact hb) .nil pass0 (C.gl hy hg) (by rw [C.names y hy]; exact T.gC) (wpA_pa hy) hdb (he _) (hpl _))) ?_
  refine ga _ H σ ok.ok (er.at ok.ex) _ fun vs H1 e1 pr => ?_
  have ev : vs = us := by
    have := pr.plain (f := id)
    rw [List.map_id] at this
    exact this
  subst ev
  refine ⟨hz, fun a ha => ⟨a, vs, by rw [List.append_nil], hn, upd_same, fun dx H' h1 h2 h3 h4 h5 => ⟨rfl, dx, fo vs, h3, h4, by rw [upd_ne h2] at h1; exact h1, ?_⟩⟩⟩
  have h1' : H1 dx = none := by rw [upd_ne h2] at h1; exact h1
  refine er ⟨Cl, fo vs⟩ dx _ hex (fun b u eb => ?_) upd_same
  have hb1 := e1 b u (ok.ex b u eb)
  have n1 : b ≠ a := ne_of_none hb1 ha
  have n2 : b ≠ dx := ne_of_none hb1 h1'
  rw [upd_ne n2, del_ne n1, h5 b n1 n2, upd_ne n1]
  exact hb1
/-- e.f, e the error that a suite holds -/
def tExf (C a : Addr) (cls : Value) (d : Option Addr) (f : Str) (te : TE) : TE := fun σ H Q => te σ H fun x H1 => x = .ref a ∧ cls = .ref C ∧ ∃ (dd : Addr) (fs : List (Str × V)) (v : V), d = some dd ∧ H1 dd = some (.xd fs) ∧ fs.lookup f = some v ∧ Q v H1
theorem pe_exf {X : Cx} {a : Addr} {oe : Obj} {cls : Value} {d : Option Addr} {pn : List (Addr × Obj)} {e : Expr} {te : TE} {f : Str} {pos : Pos} (T : ExT X.K mg x Cl fI fields) (hf0 : f ∈ fields) (hz : Zc cls d oe) (hf : ∃ vs, oe.data = .fields vs) (he : PE (X.suite a ((a, oe) :: pn)) e te)
    (hb : attributeBase e f X.env (eval e X.env) = eval e X.env := by rfl) : PE (X.suite a ((a, oe) :: pn)) (.Attribute e f pos) (tExf Cl a cls d f te) := by
  refine ⟨fun pins s σ H Q I h => ?_⟩
  refine attr_of hb (thn (he.run pins s σ H _ I h) fun u s1 hh => ?_)
  obtain ⟨x, H1, I1, rx, ex, ec, dd, fs, v, ed, ea, l, q⟩ := hh
  subst ex
  obtain rfl : u = Value.ref a := rx
  subst ec
  subst ed
  obtain ⟨ha, _⟩ := I1.pin (a, oe) (List.mem_append_left _ List.mem_cons_self)
  obtain ⟨vs, hd⟩ := hf
  have hx : ObjOk X.prog X.w H1 s1.heap dd (.xd fs) := I1.hok dd _ ea
  obtain ⟨mA, hns, hr⟩ := hx
  obtain ⟨od, ho, hl⟩ := lookIn_ns hns
  obtain ⟨u, hu, ru⟩ := RelO.some_of (v := v) (o := mA f) (by rw [← l]; exact hr f)
  have J : PySem.W.InstAt s1.heap a oe Cl (some od) := ⟨ha, hz.1, by unfold PySem.W.notCls; rw [hd] <;> rfl, by rw [hz.2]; exact ho⟩
  exact HandSPX.exc_get I1.kIn J T.ga T.gg T.oex.exC (PySem.W.findObj_own T.hdC (T.no f hf0) rfl (by rw [hl, hu])) (handed_of ru) ⟨v, H1, I1.tok _, ru, q⟩
/-! try: body, except C as n: suite -/
def EAs (K : PySem.W.Frag) (c : Value) (i : Nat) (N : List Str) (ts : Addr → Value → Option Addr → TS) (Eo : XK) (D : Ends) : XK := fun cls d H' => ∀ σ' : Sg, σ'.length = N.length → wAs K c i ts (fun cls d _ H => Eo cls d H) D cls d σ' H'
def XT (X : CS) (W : WX) : CS := fun y => ∃ x pn xe, X x ∧ y = x.tr pn xe ∧ Takes (x.tr pn xe) W ∧ PassesOwn (model x.prog x.w) x.A x.env xe
theorem st_try (C : Ctx X P w K mg base N kd k E) (Tp : Top X) (i : Nat) {c : Value} {body suite : List Stmt} {b₀ : Stmt} {np pos' : Pos} {ts : Addr → Value → Option Addr → TS} (hm : mg x = some c)
    (hsu : ∀ y, X y → ∀ (a : Addr) (oe : Obj) (cls : Value) (d : Option Addr) (pn : List (Addr × Obj)), Zc cls d oe → (∃ vs, oe.data = .fields vs) → PSs (y.suite a ((a, oe) :: pn)) (b₀ :: suite) (ts a cls d))
    (hb : ∀ X', Ctx X' P w K mg base N kd k (EAs K c i N ts E { Dn with nx := wpS X r Dn }) → wpS X' body { Dn with nx := wpS X r Dn } σ H)
    (hN : N[i]? = some n := by rfl) (hl : kd n = some .local := by rfl) (hg : kd x = some .globalImplicit := by rfl) (hdb : (x == ("__debug__" : Str)) = false := by decide) :
    wpS X (.Try body [.ExceptHandler (some (.Name x np)) (some n) (b₀ :: suite) pos'] [] [] pos :: r) Dn σ H := by
  refine wpS_cons (t := fun D σ H => wpS (XT X (wAs K c i ts (fun cls d _ H => E cls d H) D)) body D σ H) (fun y hy => ?_) ?_
  · have q := ps_try_as (X := y) (i := i) (n := n) (x := x) (c := c) (body := body) (suite := suite) (b₀ := b₀) (np := np) (pos := pos) (pos' := pos') (tb := fun W => wpS (XT X W) body) (ts := ts) (Wout := fun cls d _ H => E cls d H) (Tp.stk y hy) (Tp.frm y hy) (by rw [C.slots y hy]; exact C.nd) (by rw [C.slots y hy]; exact hN) (C.loc y hy _ hl) ⟨C.gl hy hg, hdb, .inl (by rw [C.names y hy]; exact hm)⟩ (C.takes y hy)
      (fun W pn xe tk po => wpS_pss ⟨y, pn, xe, hy, rfl, tk, po⟩) (hsu y hy)
    rw [C.frag y hy] at q
    exact q
  · refine hb _ ?_
    constructor
    · rintro y ⟨x, pn, xe, hx, rfl, tk, po⟩; exact C.prog x hx
    · rintro y ⟨x, pn, xe, hx, rfl, tk, po⟩; exact C.world x hx
    · rintro y ⟨x, pn, xe, hx, rfl, tk, po⟩; exact C.frag x hx
    · rintro y ⟨x, pn, xe, hx, rfl, tk, po⟩; exact C.names x hx
    · rintro y ⟨x, pn, xe, hx, rfl, tk, po⟩; exact C.base x hx
    · rintro y ⟨x, pn, xe, hx, rfl, tk, po⟩; exact C.calm x hx
    · rintro y ⟨x, pn, xe, hx, rfl, tk, po⟩; exact C.slots x hx
    · rintro y ⟨x, pn, xe, hx, rfl, tk, po⟩; exact C.room x hx
    · rintro y ⟨x, pn, xe, hx, rfl, tk, po⟩; exact C.kind x hx
    · rintro y ⟨x, pn, xe, hx, rfl, tk, po⟩; exact C.vis x hx
    · rintro y ⟨x, pn, xe, hx, rfl, tk, po⟩; exact C.glo x hx
    · rintro y ⟨x, pn, xe, hx, rfl, tk, po⟩; exact C.loc x hx
    · rintro y ⟨x, pn, xe, hx, rfl, tk, po⟩; exact C.cel x hx
    · exact C.nd
    · rintro y ⟨x, pn, xe, hx, rfl, tk, po⟩ u s' ⟨a, B, sI, pins, σ, H, cls, d, e, I, nb, up, sky, na, os, ag, w⟩
      exact tk u s' ⟨a, B, sI, pins, σ, H, cls, d, e, I, nb, up, sky, na, os, ag, w σ (by have := I.len; rw [show (x.tr pn xe).N = N from C.slots x hx] at this; exact this)⟩
    · rintro y ⟨x, pn, xe, hx, rfl, tk, po⟩; exact po
end
end Tr
namespace Tr
open PySem PySem.Spec PyProof.Rows L2
/-! ### D.get(i, ''), D a written dict of three ints to signs -/
structure Oth (K : PySem.W.Frag) (mg : Str → Option Value) (x : Str) (i1 i2 i3 : Int) (s1 s2 s3 : Str) (a : Addr) : Prop where
  mO : mg x = some (.ref a)
  low : (a == sysModules) = false
  at_ : ∃ (t1 t2 t3 u1 u2 u3 : Tok) (n : Nat), K.lookup a = some ⟨.type "dict", none, .dict #[⟨hashInt i1, .int i1 t1, .str s1 u1⟩, ⟨hashInt i2, .int i2 t2, .str s2 u2⟩, ⟨hashInt i3, .int i3 t3, .str s3 u3⟩] n, #[]⟩
def othS (i1 i2 i3 : Int) (s1 s2 s3 : Str) (z : Int) : Option Str := if i1 = z then some s1 else if i2 = z then some s2 else if i3 = z then some s3 else none
theorem Oth.map {K : PySem.W.Frag} {mg : Str → Option Value} {x : Str} {i1 i2 i3 : Int} {s1 s2 s3 : Str} {a : Addr} (T : Oth K mg x i1 i2 i3 s1 s2 s3 a) {P : Program} {w : World} {h : Heap} (hk : K.In h) :
    ∃ f : Int → Option Value, h.MapOf (PySem.intKind P w) a f ∧ ∀ z, match othS i1 i2 i3 s1 s2 s3 z with | some y => ∃ u, f z = some (.str y u) | none => f z = none := by
  obtain ⟨t1, t2, t3, u1, u2, u3, n, hl⟩ := T.at_
  refine ⟨fun z => findBy Value.isInt #[⟨hashInt i1, .int i1 t1, .str s1 u1⟩, ⟨hashInt i2, .int i2 t2, .str s2 u2⟩, ⟨hashInt i3, .int i3 t3, .str s3 u3⟩] z, ⟨_, _, n, hk _ _ hl, ⟨rfl, rfl, rfl⟩, rfl, ?_, fun z => rfl⟩, fun z => ?_⟩
  · intro e he
    simp only [List.mem_toArray, List.mem_cons, List.not_mem_nil, or_false] at he
    rcases he with rfl | rfl | rfl
    · exact ⟨i1, by simp [PySem.intKind, Value.isInt], rfl⟩
    · exact ⟨i2, by simp [PySem.intKind, Value.isInt], rfl⟩
    · exact ⟨i3, by simp [PySem.intKind, Value.isInt], rfl⟩
  · unfold othS findBy
    by_cases h1 : i1 = z
    · simp [h1, Value.isInt]
    · by_cases h2 : i2 = z
      · simp [h1, h2, Value.isInt]
      · by_cases h3 : i3 = z
        · simp [h1, h2, h3, Value.isInt]
        · simp [h1, h2, h3, Value.isInt]
def tOth (a : Addr) (g : Int → Option Str) (t1 t2 : TE) : TE := fun σ H Q => t1 σ H fun y H1 => t2 σ H1 fun z H2 => ∃ i d, y = .int i ∧ z = .str d ∧ Q (.str ((g i).getD d)) H2
theorem pe_oth {X : Cx} {x : Str} {i1 i2 i3 : Int} {s1 s2 s3 : Str} {a : Addr} {p apos cpos : Pos} {e f : Expr} {t1 t2 : TE} (T : Oth X.K X.mg x i1 i2 i3 s1 s2 s3 a) (hg : Gl X x) (he : PE X e t1) (hf : PE X f t2) (m : M2 X (.Name x p) "get" apos e f cpos) (hd : (x == ("__debug__" : Str)) = false := by decide) :
    PE X (.Call (.Attribute (.Name x p) "get" apos) [e, f] [] cpos) (tOth a (othS i1 i2 i3 s1 s2 s3) t1 t2) := by
  refine ⟨fun pins s σ H Q I h => ?_⟩
  refine wpAny_Call_method m.base m.few m.line PySem.F.plainAttrs_dict PySem.F.slot_dict_get PySem.F.type_dict_get (ld_glob I hg T.mO ?_ hd)
  obtain ⟨fm, hm, _⟩ := T.map (P := X.prog) (w := X.w) I.kIn
  have hty : s.TypeIs (.ref a) "dict" := let ⟨o, _, _, ho, hc, _⟩ := hm; ⟨o, ho, hc.1⟩
  refine ⟨hty, fun b q => ?_, ?_⟩
  · cases q
    obtain ⟨ob, es, ep, h1, h2, _⟩ := hm
    exact ⟨ob, h1, h2.2.1⟩
  · rw [m.trees]
    refine Calls.callWith_builtin rfl (Calls.evalArgs_plain (Calls.spliced_cons (thn (he.run pins s σ H _ I h) fun iv s_2 ⟨y, H2, I2, ry, q2⟩ =>
      Calls.spliced_cons (thn (hf.run pins s_2 σ H2 _ I2 q2) fun fv s_3 ⟨z, H3, I3, rz, i, d, ey, ez, q3⟩ => Calls.spliced_nil ?_))))
    subst ey ez
    obtain ⟨t, rfl⟩ := (show ∃ t, iv = Value.int i t from ry)
    obtain ⟨t', rfl⟩ := (show ∃ t', fv = Value.str d t' from rz)
    obtain ⟨fm3, hm3, hval⟩ := T.map (P := X.prog) (w := X.w) I3.kIn
    refine call_meetsIn PySem.F.slot_dict_get (show s_3.TypeIs (.ref a) "dict" from let ⟨o, _, _, ho, hc, _⟩ := hm3; ⟨o, ho, hc.1⟩) PySem.F.entry_dict_get (PySem.F.args_dict_get_3 _ _ _) (meets_dict_get_default (PySem.intKind X.prog X.w) (k := i) a (by simp [PySem.intKind, Value.isInt]) T.low _) ⟨fm3, hm3, ?_⟩
    have hv := hval i
    refine ⟨.str ((othS i1 i2 i3 s1 s2 s3 i).getD d), H3, I3.tok _, ?_, q3⟩
    cases ho : othS i1 i2 i3 s1 s2 s3 i with
    | some y =>
      rw [ho] at hv
      obtain ⟨u, hu⟩ := hv
      rw [hu]
      exact ⟨u, rfl⟩
    | none =>
      rw [ho] at hv
      rw [hv]
      exact ⟨t', rfl⟩
section
variable {X : CS} {P : Program} {w : World} {K : PySem.W.Frag} {mg : Str → Option Value} {base : Heap} {N : List Str} {kd : Str → Option NameKind} {k j : Nat} {E : XK} {ex : Er → Prop} {ss ss' : List (Option D)} {pos p1 p2 apos : Pos} {e f : Expr} {x : Str} {a : Addr}
theorem g_oth (C : Ctx X P w K mg base N kd k E) {i1 i2 i3 z : Int} {s1 s2 s3 d : Str} (T : Oth K mg x i1 i2 i3 s1 s2 s3 a) (h1 : Ge X E ex ss e (dI z)) (h2 : Ge X E ex ss f (dS d)) (hg : kd x = some .globalImplicit := by rfl) (hd : (x == ("__debug__" : Str)) = false := by decide)
    (m : ∀ y, M2 y (.Name x p1) "get" apos e f pos := by intro _; exact ⟨rfl, rfl, rfl, rfl⟩) : Ge X E ex ss (.Call (.Attribute (.Name x p1) "get" apos) [e, f] [] pos) (dS ((othS i1 i2 i3 s1 s2 s3 z).getD d)) :=
  ge_pe (fun y hy => pe_oth (by rw [C.frag y hy, C.names y hy]; exact T) (C.gl hy hg) (wpE_pe hy) (wpE_pe hy) (m y) hd) fun S H σ ok er Q q => h1 S H σ ok er _ fun v H1 e1 pv => h2 S H1 σ (ok.up e1) (er.up e1) _ fun u H2 e2 pu =>
    ⟨z, d, pv, pu, q _ H2 (e1.trans e2) rfl⟩
end
end Tr
namespace Tr
open PySem PySem.Spec PyProof.Rows L2
/-! ### methods of texts -/
def splB (s : UInt8) : List UInt8 → List UInt8 → List (List UInt8)
  | acc, [] => [acc]
  | acc, c :: r => if c = s then acc :: splB s [] r else splB s (acc ++ [c]) r
theorem spl_B (s : UInt8) : ∀ (x acc : List UInt8), TL.spl [s.toNat] 0 (acc.map UInt8.toNat) (x.map UInt8.toNat) = (splB s acc x).map fun p => p.map UInt8.toNat
  | [], acc => rfl
  | c :: r, acc => by
    show (if TL.pre [s.toNat] (c.toNat :: r.map UInt8.toNat) = true then acc.map UInt8.toNat :: TL.spl [s.toNat] 0 [] (r.map UInt8.toNat) else TL.spl [s.toNat] 0 (acc.map UInt8.toNat ++ [c.toNat]) (r.map UInt8.toNat)) = (if c = s then acc :: splB s [] r else splB s (acc ++ [c]) r).map fun p => p.map UInt8.toNat
    have hp : TL.pre [s.toNat] (c.toNat :: r.map UInt8.toNat) = decide (c = s) := by
      unfold TL.pre
      by_cases h : c = s
      · subst h; simp
      · have hne : ¬ c.toNat = s.toNat := fun z => h (UInt8.toNat_inj.mp z)
        rw [decide_eq_false h]
        simp [hne]
    rw [hp]
    by_cases h : c = s
    · rw [if_pos (decide_eq_true h), if_pos h, List.map_cons]
      have ih := spl_B s r []
      rw [List.map_nil] at ih
      rw [ih]
    · rw [if_neg (by simpa using h), if_neg h]
      have ih := spl_B s r (acc ++ [c])
      rw [List.map_append] at ih
      exact ih
theorem split_U (x : List UInt8) (s : UInt8) : Txt.split (sU x) (sU [s]) = (splB s [] x).map sU := by
  refine TL.map_tl_inj ?_
  have e := TL.split_spl (sU x) (sU [s]) (by simp [sU, TL.tl]) (TL.kind_ok (by
    rw [← Array.all_toList]
    show [s.toNat].all _ = true
    have := s.toNat_lt
    simp
    omega))
  rw [e, List.map_map]
  exact spl_B s x []
theorem joinL_nil : ∀ l : List (List Nat), TL.joinL [] l = l.flatten
  | [] => rfl
  | [p] => by simp [TL.joinL]
  | p :: q :: r => by
    show p ++ ([] ++ TL.joinL [] (q :: r)) = _
    rw [List.nil_append, joinL_nil (q :: r)]
    rfl
theorem join_U (ps : List (List UInt8)) : Txt.join (sU []) (ps.map sU) = sU ps.flatten := by
  refine TL.ext_tl ?_
  rw [TL.join_eq, TL.tl_join]
  show TL.joinL [] _ = (ps.flatten).map UInt8.toNat
  rw [joinL_nil, List.map_map, List.map_flatten]
  rfl
theorem sub_U (x : List UInt8) (s : UInt8) (i : Nat) : Builtin.Str.subAt (sU x) (sU [s]) i = decide (x[i]? = some s) := by
  unfold Builtin.Str.subAt
  have e : ((sU x).cps.extract i (i + (sU [s]).length) == (sU [s]).cps) = decide (((x.map UInt8.toNat).drop i).take 1 = [s.toNat]) := by
    show ((x.map UInt8.toNat).toArray.extract i (i + 1) == [s.toNat].toArray) = _
    rw [List.extract_toArray, List.extract_eq_take_drop, Nat.add_sub_cancel_left]
    by_cases h : ((x.map UInt8.toNat).drop i).take 1 = [s.toNat]
    · rw [decide_eq_true h, h]
      simp
    · rw [decide_eq_false h]
      simp [h]
  rw [e, decide_eq_decide]
  cases hx : x[i]? with
  | none =>
    rw [List.drop_eq_nil_of_le (by simpa using hx)]
    simp
  | some c =>
    have hl := (List.getElem?_eq_some_iff.mp hx).1
    have hc := (List.getElem?_eq_some_iff.mp hx).2
    rw [List.drop_eq_getElem_cons (by simpa using hl)]
    simp only [List.getElem_map, hc, List.take_succ_cons, List.take_zero, List.cons.injEq, and_true, Option.some.injEq]
    exact UInt8.toNat_inj
theorem starts_U (x : List UInt8) (s : UInt8) : Txt.startswith (sU x) (sU [s]) = decide (x.head? = some s) := by
  unfold Txt.startswith
  rw [sub_U, sU_len, sU_len]
  cases x with
  | nil => rfl
  | cons c r => simp
theorem ends_U (x : List UInt8) (s : UInt8) : Txt.endswith (sU x) (sU [s]) = decide (x.getLast? = some s) := by
  unfold Txt.endswith
  rw [sub_U, sU_len, sU_len, List.getLast?_eq_getElem?]
  cases x with
  | nil => rfl
  | cons c r => simp
section
variable {X : CS} {P : Program} {w : World} {K : PySem.W.Frag} {mg : Str → Option Value} {base : Heap} {N : List Str} {kd : Str → Option NameKind} {k : Nat} {E : XK} {ex : Er → Prop} {ss : List (Option D)} {da db d : D} {a e : Expr} {pos p apos : Pos} {x y : List UInt8} {s : UInt8}
theorem gv_m1 {r : V → List V → Hp → VK → Prop} {to te : TE} {z : Str} (ho : Gv E ex to ss (dS z)) (he : Gv E ex te ss db) (hr : ∀ (S : List Addr) (H : Hp) (u : V), (∀ b ∈ S, H b ≠ none) → db.p (wd S H) u → ∀ Q : VK, (∀ v H', Same H H' → d.p (wd S H') v → Q v H') → r (.str z) [u] H Q) : Gv E ex (tM1 r to te) ss d := fun S H σ ok er Q q =>
  ho S H σ ok er _ fun v H1 e1 pv => by
    have pv : v = .str z := pv
    subst pv
    exact ⟨⟨z, rfl⟩, he S H1 σ (ok.up e1) (er.up e1) _ fun u H2 e2 pu => hr S H2 u (ok.up (e1.trans e2)).hid pu Q fun v H3 e3 p3 => q v H3 (e1.trans (e2.trans e3)) p3⟩
theorem g_splitU (ho : Ge X E ex ss a (dU x)) (he : Ge X E ex ss e (dU [s])) (hz : x.length ≤ 100000) (hs : ∀ env, starEach [e] env = [(false, eval e env)] := by intro _; rfl) (hbase : ∀ env, attributeBase a "split" env (eval a env) = eval a env := by intro _; rfl) (hline : (apos.endLine == pos.line) = true := by rfl) :
    Ge X E ex ss (.Call (.Attribute a "split" apos) [e] [] pos) (dL ((splB s [] x).map fun p => dU p)) :=
  ge_pe (fun y hy => pe_split (wpE_pe hy) (wpE_pe hy) (hs y.env) (hbase y.env) hline) (gv_m1 ho he fun S H u hid pu Q q => by
    have pu : u = .str (sU [s]) := pu
    subst pu
    refine ⟨sU x, sU [s], rfl, rfl, rfl, by rw [sU_len, sizeLine_eq]; omega, fun p hp => ?_⟩
    rw [split_U, List.map_map]
    exact q _ _ (Same.new hp) (new_L hid hp (Reps.vals (fun b => V.str (sU b)) (splB s [] x))))
theorem g_joinU (C : Ctx X P w K mg base N kd k E) {ps : List (List UInt8)} (ho : Ge X E ex ss a (dU [])) (he : Ge X E ex ss e (dL (ps.map fun b => dU b))) (hz : ps.flatten.length ≤ 100000) (hs : ∀ env, starEach [e] env = [(false, eval e env)] := by intro _; rfl) (hbase : ∀ env, attributeBase a "join" env (eval a env) = eval a env := by intro _; rfl) (hline : (apos.endLine == pos.line) = true := by rfl) :
    Ge X E ex ss (.Call (.Attribute a "join" apos) [e] [] pos) (dU ps.flatten) :=
  ge_pe (t := tM1 (fun x xs H Q => ∃ a p, ∃ ys : List Str, x = .str a ∧ xs = [.ref p] ∧ (SqL K H p (ys.map V.str) ∨ SqT K H p (ys.map V.str)) ∧ (ys.map (·.length)).sum + ys.length * a.length ≤ 16777216 ∧ Q (.str (Txt.join a ys)) H) (wpE X a) (wpE X e)) (fun y hy => by rw [← C.frag y hy]; exact pe_join (wpE_pe hy) (wpE_pe hy) (hs y.env) (hbase y.env) hline) (gv_m1 ho he fun S H u hid pu Q q => by
    obtain ⟨p, vs, rfl, hp, r⟩ := pu
    have ev := r.plain (f := fun b : List UInt8 => V.str (sU b))
    subst ev
    refine ⟨sU [], p, ps.map sU, rfl, rfl, .inl (by rw [List.map_map]; exact SqL.of (wd_same S H _ _ hp)), ?_, ?_⟩
    · have e1 : ((ps.map sU).map (·.length)).sum = ps.flatten.length := by
        rw [List.map_map, List.length_flatten]
        congr 1
        exact List.map_congr_left fun b _ => sU_len b
      have e2 : (sU []).length = 0 := rfl
      rw [e1, e2]
      omega
    · rw [join_U]
      exact q _ H (Same.refl H) rfl)
theorem g_startsU (ho : Ge X E ex ss a (dU x)) (he : Ge X E ex ss e (dU [s])) (hs : ∀ env, starEach [e] env = [(false, eval e env)] := by intro _; rfl) (hbase : ∀ env, attributeBase a "startswith" env (eval a env) = eval a env := by intro _; rfl) (hline : (apos.endLine == pos.line) = true := by rfl) :
    Ge X E ex ss (.Call (.Attribute a "startswith" apos) [e] [] pos) (dB (decide (x.head? = some s))) :=
  ge_pe (fun y hy => pe_m1 PySem.F.slot_str_startswith PySem.F.type_str_startswith mt_startswith (wpE_pe hy) (wpE_pe hy) (hs y.env) (hbase y.env) hline) (gv_m1 ho he fun S H u hid pu Q q => by
    have pu : u = .str (sU [s]) := pu
    subst pu
    exact ⟨sU x, sU [s], rfl, rfl, by rw [starts_U]; exact q _ H (Same.refl H) rfl⟩)
theorem g_endsU (ho : Ge X E ex ss a (dU x)) (he : Ge X E ex ss e (dU [s])) (hs : ∀ env, starEach [e] env = [(false, eval e env)] := by intro _; rfl) (hbase : ∀ env, attributeBase a "endswith" env (eval a env) = eval a env := by intro _; rfl) (hline : (apos.endLine == pos.line) = true := by rfl) :
    Ge X E ex ss (.Call (.Attribute a "endswith" apos) [e] [] pos) (dB (decide (x.getLast? = some s))) :=
  ge_pe (fun y hy => pe_m1 PySem.F.slot_str_endswith PySem.F.type_str_endswith mt_endswith (wpE_pe hy) (wpE_pe hy) (hs y.env) (hbase y.env) hline) (gv_m1 ho he fun S H u hid pu Q q => by
    have pu : u = .str (sU [s]) := pu
    subst pu
    exact ⟨sU x, sU [s], rfl, rfl, by rw [ends_U]; exact q _ H (Same.refl H) rfl⟩)
end
end Tr
namespace Tr
open PySem PySem.Spec PyProof.Rows L2
/-! ### zip of two texts -/
def Itzs (x y : Str) : It := ⟨fun i _ => i < min x.cps.size y.cps.size, fun i H v H' => ∃ T c d, v = .ref T ∧ H T = none ∧ H' = upd H T (.tup [.str ⟨#[c]⟩, .str ⟨#[d]⟩]) ∧ x.cps[i]? = some c ∧ y.cps[i]? = some d, fun i _ => min x.cps.size y.cps.size ≤ i⟩
def ZsAt (z TI TO i1 i2 : Addr) (x y : Str) (t u : Tok) (i : Nat) (h : Heap) : Prop := i ≤ min x.cps.size y.cps.size ∧ IsZip h z TI TO .none ∧ IsTupOf2 h TI (.ref i1) (.ref i2) ∧ (∃ a b, IsTupOf2 h TO a b) ∧ h.IsStrIter i1 (strIterType x) x t i ∧ h.IsStrIter i2 (strIterType y) y u i
theorem turn_zipS {P : Program} {w : World} {K : PySem.W.Frag} {elts : List Expr} {kk : Nat} {tpos : Pos} {z TI TO i1 i2 : Addr} {x y : Str} {t u : Tok} (D : ZipSep2 z TI TO i1 i2 [i1] [i2]) :
    Turn P w K (.Tuple elts kk tpos) (Itzs x y) [z, TI, TO, i1, i2] z (ZsAt z TI TO i1 i2 x y t u) where
  mem := by simp
  obj := fun i h st c hc => by
    obtain ⟨_, hz, hTI, ⟨a, b, hTO⟩, ⟨o1, e1, _, d1⟩, ⟨o2, e2, _, d2⟩⟩ := st
    have e' : c = z ∨ c = TI ∨ c = TO ∨ c = i1 ∨ c = i2 := by simpa using hc
    rcases e' with q | q | q | q | q
    · rw [q]; exact ⟨_, hz, fun v q => nomatch q⟩
    · rw [q]; exact ⟨_, hTI, fun v q => nomatch q⟩
    · rw [q]; exact ⟨_, hTO, fun v q => nomatch q⟩
    · rw [q]; exact ⟨o1, e1, fun v q => by rw [d1] at q; cases q⟩
    · rw [q]; exact ⟨o2, e2, fun v q => by rw [d2] at q; cases q⟩
  keep := fun i h h' st k => by
    obtain ⟨hi, hz, hTI, ⟨a, b, hTO⟩, ⟨o1, e1, r1⟩, ⟨o2, e2, r2⟩⟩ := st
    exact ⟨hi, k z (by simp) _ hz, k TI (by simp) _ hTI, ⟨a, b, k TO (by simp) _ hTO⟩, ⟨o1, k i1 (by simp) o1 e1, r1⟩, ⟨o2, k i2 (by simp) o2 e2, r2⟩⟩
  item := by
    intro X hP hw hK hc i pins s σ H E I hf st hg
    subst hP hw hK
    obtain ⟨hi, hz, hTI, ⟨a, b, hTO⟩, st1, st2⟩ := st
    have hg : i < min x.cps.size y.cps.size := hg
    have hzl : z < s.heap.objs.size := Heap.lt_size hz
    refine wpAny_pyNext_zipD2_item D (Draws.text (A := X.A.in1) (I.ok.hd hc) i1 x t) (Draws.text (A := X.A.in1) (I.ok.hd hc) i2 y u) hz hTI hTO st1 st2 (by omega) (by omega) fun x1 x2 h' tk p1 p2 z' TO' st1' st2' hT hsz hk => ?_
    obtain ⟨c, t1, hcx, rfl⟩ := p1
    obtain ⟨d, t2, hdy, rfl⟩ := p2
    refine ⟨_, rfl, wpAny_letOwnedTupleGo_zip (s := { s with heap := h', toks := tk }) z' fun h'' z'' sb => ?_⟩
    have hT2 : h''.get? s.heap.objs.size = some { cls := .type "tuple", data := .seq #[.str ⟨#[c]⟩ t1, .str ⟨#[d]⟩ t2] } := (sb.2 _ (Nat.ne_of_gt hzl)).trans hT
    have new : ObjOk X.prog X.w (upd H s.heap.objs.size (.tup [.str ⟨#[c]⟩, .str ⟨#[d]⟩])) h'' s.heap.objs.size (.tup [.str ⟨#[c]⟩, .str ⟨#[d]⟩]) :=
      ⟨by show 2 ≤ sizeLine; decide, [.str ⟨#[c]⟩ t1, .str ⟨#[d]⟩ t2], .cons ⟨t1, rfl⟩ (.cons ⟨t2, rfl⟩ .nil), ⟨_, hT2, rfl, _, rfl⟩⟩
    have I1 : Inv X pins σ (upd H s.heap.objs.size (.tup [.str ⟨#[c]⟩, .str ⟨#[d]⟩])) { s with heap := h'', toks := tk } :=
      I.turnedNew (t' := tk) (ch := [z, TI, TO, i1, i2]) (fun b o hb q => (sb.2 b (fun q' => hb (by simp [q']))).trans (hk b o (fun q' => hb (by simp [q'])) (fun q' => hb (by simp [q'])) (fun q' => hb (by simp [q'])) (fun q' => hb (by simp [q'])) q)) hf (Nat.le_refl _) new
    have up : ∀ b o, b ≠ z → h'.get? b = some o → h''.get? b = some o := fun b o hb e => (sb.2 b hb).trans e
    obtain ⟨o1, e1, r1⟩ := st1'
    obtain ⟨o2, e2, r2⟩ := st2'
    refine ⟨.ref s.heap.objs.size, _, I1, rfl, ⟨_, c, d, rfl, I.hok.fresh (Nat.le_refl _), rfl, hcx, hdy⟩, ⟨by omega, z'', ?_, ⟨_, _, up _ _ D.TOz TO'⟩, ⟨o1, up _ _ (Ne.symm D.zi1) e1, r1⟩, ⟨o2, up _ _ (Ne.symm D.zi2) e2, r2⟩⟩, fun b hb => ?_⟩
    · exact up _ _ D.TIz (hk _ _ D.TIz D.TITO D.TIi1 D.TIi2 hTI)
    · have hlt : b < s.heap.objs.size := by
        obtain ⟨p1, q1, _⟩ := st1
        obtain ⟨p2, q2, _⟩ := st2
        have e' : b = z ∨ b = TI ∨ b = TO ∨ b = i1 ∨ b = i2 := by simpa using hb
        rcases e' with q | q | q | q | q
        · rw [q]; exact hzl
        · rw [q]; exact Heap.lt_size hTI
        · rw [q]; exact Heap.lt_size hTO
        · rw [q]; exact Heap.lt_size q1
        · rw [q]; exact Heap.lt_size q2
      rw [upd_ne (Nat.ne_of_lt hlt)]
      exact (hf b hb).1
  done := by
    intro X hP hw hK hc i pins s σ H E I hf st hg
    subst hP hw hK
    obtain ⟨hi, hz, hTI, ⟨a, b, hTO⟩, st1, st2⟩ := st
    have hg : min x.cps.size y.cps.size ≤ i := hg
    exact wpAny_pyNext_zipD2_end D (Draws.text (A := X.A.in1) (I.ok.hd hc) i1 x t) (Draws.text (A := X.A.in1) (I.ok.hd hc) i2 y u) hz hTI hTO st1 st2 (by omega) (by omega) (by omega) fun h' tk hk => ⟨rfl, I.turnedL (t' := tk) (ch := [z, TI, TO, i1, i2]) (fun c o hb q =>
      hk c o (fun q' => hb (by simp [q'])) (fun q' => hb (by simp [q'])) (fun q' => hb (by simp [q'])) (fun q' => hb (by simp [q'])) q) hf⟩
  self := fun A i s Q E st h => wpAny_pyIter_zip st.2.1 h
def iZipS (ta : TA) : TI := fun σ H R => ta σ H fun vs H1 => ∃ x y, vs = [.str x, .str y] ∧ R (Itzs x y) H1
theorem zsep (n : Nat) : ZipSep2 (n + 4) (n + 2) (n + 3) n (n + 1) [n] [n + 1] := by
  constructor <;> first | exact List.mem_singleton.mpr rfl | (intro h; first | (have h := List.mem_singleton.mp h; exact absurd (show (_ : Nat) = _ from h) (by omega)) | exact absurd (show (_ : Nat) = _ from h) (by omega))
theorem pi_zipS {X : Cx} {e e2 : Expr} {ta : TA} {p pos tpos : Pos} {elts : List Expr} {kk : Nat} (hg : Gl X "zip") (hm : X.mg "zip" = none) (ha : PA X [e, e2] ta)
    (hs : starEach [e, e2] X.env = (false, eval e X.env) :: starEach [e2] X.env := by rfl) (hpl : (backTo pos (starEach [e2] X.env)).any (·.1) = false := by rfl) :
    PI X (.Tuple elts kk tpos) (.Call (.Name "zip" p) [e, e2] [] pos) (iZipS ta) := by
  refine ⟨fun pins s σ H R I h => ?_⟩
  refine Call_ (ld_blt I hg hm PyProof.Rows.boot_zip (PyProof.Rows.callWith_type1 (thn (ha.run pos pins s σ H _ I h) fun us s1 ⟨vs, H1, I1, r1, x, y, ex, q⟩ => ?_) hs hpl))
  subst ex
  obtain ⟨u1, u2, rfl, r, r'⟩ := Vals.two r1
  obtain ⟨t, rfl⟩ := (show ∃ t, u1 = Value.str x t from r)
  obtain ⟨u, rfl⟩ := (show ∃ t, u2 = Value.str y t from r')
  refine zip_begins2 (begins_text x t) (begins_text y u) trivial trivial fun h' hz hTI hTO h1 h2 hsz hk => wpAny_pyIter_zip hz ?_
  have I2 : Inv X pins σ H1 { s1 with heap := h' } := I1.kept (t' := s1.toks) hk
  refine ⟨s1.heap.objs.size + 4, [s1.heap.objs.size + 4, s1.heap.objs.size + 2, s1.heap.objs.size + 3, s1.heap.objs.size, s1.heap.objs.size + 1], _, Itzs x y, H1, rfl, I2, turn_zipS (t := t) (u := u) (zsep s1.heap.objs.size), ⟨Nat.zero_le _, hz, hTI, ⟨_, _, hTO⟩, ⟨_, h1, rfl, rfl⟩, ⟨_, h2, rfl, rfl⟩⟩, fun c hcm => ?_, q⟩
  have e' : c = s1.heap.objs.size + 4 ∨ c = s1.heap.objs.size + 2 ∨ c = s1.heap.objs.size + 3 ∨ c = s1.heap.objs.size ∨ c = s1.heap.objs.size + 1 := by simpa using hcm
  have hle : s1.heap.objs.size ≤ c := by
    rcases e' with z | z | z | z | z
    · rw [z]; exact Nat.le_add_right _ _
    · rw [z]; exact Nat.le_add_right _ _
    · rw [z]; exact Nat.le_add_right _ _
    · rw [z]; exact Nat.le_refl _
    · rw [z]; exact Nat.le_add_right _ _
  exact I1.fpOk hle (I1.hok.fresh hle)
section
variable {X : CS} {P : Program} {w : World} {K : PySem.W.Frag} {mg : Str → Option Value} {base : Heap} {N : List Str} {kd : Str → Option NameKind} {k : Nat} {E : XK} {ex : Er → Prop} {ss : List (Option D)} {a e : Expr} {pos p tpos : Pos} {x y : List UInt8} {elts : List Expr} {kk : Nat}
theorem gi_zipU (C : Ctx X P w K mg base N kd k E) (hm : mg "zip" = none) (h1 : Ge X E ex ss a (dU x)) (h2 : Ge X E ex ss e (dU y)) (hg : kd "zip" = some .globalImplicit := by rfl)
    (hs : ∀ env, starEach [a, e] env = (false, eval a env) :: starEach [e] env := by intro _; rfl) (hs2 : ∀ env, starEach [e] env = (false, eval e env) :: starEach [] env := by intro _; rfl) (hpl : ∀ env, (backTo pos (starEach [e] env)).any (·.1) = false := by intro _; rfl) :
    Gi X E ex ss (.Tuple elts kk tpos) (.Call (.Name "zip" p) [a, e] [] pos) ((x.zip y).map fun z => dT [dU [z.1], dU [z.2]]) := fun S H σ ok er R q => by
  refine wpI_of (t := iZipS (tCons (wpE X a) (tCons (wpE X e) tNil))) (fun v hv => pi_zipS (C.gl hv hg) (by rw [C.names v hv]; exact hm) (pa_cons (wpE_pe hv) (pa_cons (wpE_pe hv) pa_nil (hs2 v.env)) (hs v.env)) (hs v.env) (hpl v.env)) ?_
  refine h1 S H σ ok er _ fun v1 H1 e1 p1 => h2 S H1 σ (ok.up e1) (er.up e1) _ fun v2 H2 e2 p2 => ?_
  have p1 : v1 = .str (sU x) := p1
  have p2 : v2 = .str (sU y) := p2
  subst p1 p2
  have sz : ∀ b : List UInt8, (sU b).cps.size = b.length := fun b => by show (b.map UInt8.toNat).toArray.size = _; simp
  refine ⟨sU x, sU y, rfl, q _ H2 (e1.trans e2) ?_⟩
  rw [List.length_map, List.length_zip]
  refine ⟨fun i Ha hi _ => by show i < min _ _; rw [sz, sz]; exact hi, fun Ha _ => by show min _ _ ≤ _; rw [sz, sz]; exact Nat.le_refl _, fun i Ha v Hb hi _ yy => ?_⟩
  obtain ⟨T, c, d, rfl, hT, rfl, hc, hd⟩ := yy
  have get : ∀ {b : List UInt8} {c : Nat}, (sU b).cps[i]? = some c → ∃ g, b[i]? = some g ∧ c = g.toNat := fun {b c} h => by
    have h : (b.map UInt8.toNat).toArray[i]? = some c := h
    rw [List.getElem?_toArray, List.getElem?_map] at h
    cases hb : b[i]? with
    | none => rw [hb] at h; cases h
    | some g =>
      rw [hb] at h
      exact ⟨g, rfl, (Option.some.inj h).symm⟩
  obtain ⟨g1, hg1, rfl⟩ := get hc
  obtain ⟨g2, hg2, rfl⟩ := get hd
  refine ⟨Same.new hT, dT [dU [g1], dU [g2]], ?_, fun S' sm hid => ?_⟩
  · rw [List.getElem?_map, show (x.zip y)[i]? = some (g1, g2) from List.getElem?_zip_eq_some.mpr ⟨hg1, hg2⟩]
    rfl
  · exact pair_new hid hT rfl rfl
end
end Tr
namespace Tr
open PySem PySem.Spec PyProof.Rows L2
open PySem.W (Datum Holds HoldAll eq_datum ne_datum notIn_list_datum)
/-! ### ==, !=, not in, of data with a Lean type -/
def rEqT (K : PySem.W.Frag) (α : Type) [DecidableEq α] [Datum α] (neg : Bool) : R2 := fun x y H Q => ∃ u v : α, Dp K H x (Datum.toD u) ∧ Dp K H y (Datum.toD v) ∧ Q (.bl (if neg then !decide (u = v) else decide (u = v))) H
def rNinT (K : PySem.W.Frag) (α : Type) [DecidableEq α] [Datum α] : R2 := fun x y H Q => ∃ (u : α) (us : List α), Dp K H x (Datum.toD u) ∧ Dp K H y (.list (us.map Datum.toD)) ∧ Q (.bl (!decide (u ∈ us))) H
section
variable {X : Cx} {α : Type} [DecidableEq α] [Datum α]
theorem op_eqT (hu : X.A.units + Datum.depth α < cLine) : OpR X (compareOp .Eq) (rEqT X.K α false) := by
  intro pins s σ H x y v u Q I rx ry h
  obtain ⟨a, b, ha, hb, q⟩ := h
  exact eq_datum (Dp.reads I _ x v ha rx) (Dp.reads I _ y u hb ry) hu ⟨.bl _, H, I, rfl, q⟩
theorem op_neT (hu : X.A.units + Datum.depth α < cLine) : OpR X (compareOp .NotEq) (rEqT X.K α true) := by
  intro pins s σ H x y v u Q I rx ry h
  obtain ⟨a, b, ha, hb, q⟩ := h
  refine ne_datum (Dp.reads I _ x v ha rx) (Dp.reads I _ y u hb ry) hu ⟨.bl _, H, I, rfl, ?_⟩
  have e : decide (a ≠ b) = !decide (a = b) := by simp
  rw [e]
  exact q
theorem op_ninT (hu : X.A.units + 1 + Datum.depth α < cLine) : OpR X (compareOp .NotIn) (rNinT X.K α) := by
  intro pins s σ H x y v u Q I rx ry h
  obtain ⟨a, us, ha, hb, q⟩ := h
  cases hb with
  | @lst p xs _ hs hd =>
    obtain rfl : u = Value.ref p := ry
    obtain ⟨its, rv, hl, _⟩ := I.list hs
    obtain ⟨as, rd⟩ := Dp.readsAll I _ _ _ hd rv
    refine notIn_list_datum (xs := us) (x := a) hl.isList ⟨as, by simpa using rd⟩ (Dp.reads I _ x v ha rx) hu ⟨.bl _, H, I, rfl, ?_⟩
    have e : decide (a ∉ us) = !decide (a ∈ us) := by simp
    rw [e]
    exact q
end
section
variable {X : CS} {P : Program} {w : World} {K : PySem.W.Frag} {mg : Str → Option Value} {base : Heap} {N : List Str} {kd : Str → Option NameKind} {k : Nat} {E : XK} {ex : Er → Prop} {ss : List (Option D)} {da db : D} {a b : Expr} {pos : Pos} {α : Type} [DecidableEq α] [Datum α]
theorem t_eqT (C : Ctx X P w K mg base N kd k E) {x y : α} (ha : Ge X E ex ss a da) (hb : Ge X E ex ss b db) (hx : Pd da (Datum.toD x)) (hy : Pd db (Datum.toD y)) (hd : Datum.depth α ≤ 60) : Gt X E ex ss (.Compare a [.Eq] [b] pos) (decide (x = y)) :=
  t_cmp (r := rEqT K α false) (fun z hz => by rw [← C.frag z hz]; exact op_eqT (by have := C.u64 hz; omega)) ha hb fun S H u v _ pu pv Q q => ⟨x, y, hx K H u (da.up (wd_same S H) pu), hy K H v (db.up (wd_same S H) pv), q _ H (Same.refl H) rfl⟩
theorem t_neT (C : Ctx X P w K mg base N kd k E) {x y : α} (ha : Ge X E ex ss a da) (hb : Ge X E ex ss b db) (hx : Pd da (Datum.toD x)) (hy : Pd db (Datum.toD y)) (hd : Datum.depth α ≤ 60) : Gt X E ex ss (.Compare a [.NotEq] [b] pos) (!decide (x = y)) :=
  t_cmp (r := rEqT K α true) (fun z hz => by rw [← C.frag z hz]; exact op_neT (by have := C.u64 hz; omega)) ha hb fun S H u v _ pu pv Q q => ⟨x, y, hx K H u (da.up (wd_same S H) pu), hy K H v (db.up (wd_same S H) pv), q _ H (Same.refl H) rfl⟩
theorem g_ninT (C : Ctx X P w K mg base N kd k E) {x : α} {xs : List α} (ha : Ge X E ex ss a da) (hb : Ge X E ex ss b db) (hx : Pd da (Datum.toD x)) (hy : Pd db (.list (xs.map Datum.toD))) (hd : Datum.depth α ≤ 60) (hm : behindInMarks .NotIn b = false := by rfl) : Ge X E ex ss (.Compare a [.NotIn] [b] pos) (dB (!decide (x ∈ xs))) :=
  g_cmp (r := rNinT K α) (fun z hz => by rw [← C.frag z hz]; exact op_ninT (by have := C.u64 hz; omega)) ha hb (fun S H u v _ pu pv Q q => ⟨x, xs, hx K H u (da.up (wd_same S H) pu), hy K H v (db.up (wd_same S H) pv), q _ H (Same.refl H) rfl⟩) hm
end
end Tr
/-! plain facts about sets of goals as bits; data of the walk -/
namespace Lp
open VahypBase Vahypc
open Vahypa (Word Pat Lst)
abbrev Bytes := VahypBase.Bytes

theorem hasBit_eq (m k : Nat) : hasBit m k = m.testBit k := by
  unfold hasBit
  rw [Nat.testBit_eq_decide_div_mod_eq]
  by_cases h : m / 2 ^ k % 2 = 1
  · rw [h]; rfl
  · rw [decide_eq_false h]
    simp [h]
theorem hasBit_hi {m n k : Nat} (h : m < 2 ^ n) (hk : n ≤ k) : hasBit m k = false := by
  rw [hasBit_eq]
  exact Nat.testBit_lt_two_pow (Nat.lt_of_lt_of_le h (Nat.pow_le_pow_right (by decide) hk))
theorem hasBit_or (a b k : Nat) : hasBit (a ||| b) k = (hasBit a k || hasBit b k) := by
  rw [hasBit_eq, hasBit_eq, hasBit_eq, Nat.testBit_or]
theorem hasBit_and (a b k : Nat) : hasBit (a &&& b) k = (hasBit a k && hasBit b k) := by
  rw [hasBit_eq, hasBit_eq, hasBit_eq, Nat.testBit_and]
theorem hasBit_full (n k : Nat) : hasBit (2 ^ n - 1) k = decide (k < n) := by
  rw [hasBit_eq, Nat.testBit_two_pow_sub_one]
theorem hasBit_zero (k : Nat) : hasBit 0 k = false := by rw [hasBit_eq, Nat.zero_testBit]
theorem or_lt {a b n : Nat} (ha : a < 2 ^ n) (hb : b < 2 ^ n) : a ||| b < 2 ^ n := Nat.or_lt_two_pow ha hb
theorem and_lt {a b n : Nat} (ha : a < 2 ^ n) : a &&& b < 2 ^ n := Nat.lt_of_le_of_lt Nat.and_le_left ha
/-- goals among the first n that m has -/
def bitsOf (n m : Nat) : List Nat := (List.range n).filter (hasBit m)
theorem filter_hi {n N : Nat} {p : Nat → Bool} (h : n ≤ N) (hp : ∀ k, n ≤ k → p k = false) : (List.range N).filter p = (List.range n).filter p := by
  obtain ⟨d, rfl⟩ : ∃ d, N = n + d := ⟨N - n, by omega⟩
  induction d with
  | zero => rfl
  | succ d ih =>
    rw [show n + (d + 1) = (n + d) + 1 by omega, List.range_succ, List.filter_append, ih (by omega), List.filter_cons, if_neg (by rw [hp _ (by omega)]; exact Bool.false_ne_true)]
    simp
theorem bitsOf_eq {n N m : Nat} (h : m < 2 ^ n) (h' : m < 2 ^ N) : bitsOf N m = bitsOf n m := by
  unfold bitsOf
  rcases Nat.le_total n N with q | q
  · exact filter_hi q fun k hk => hasBit_hi h hk
  · exact (filter_hi q fun k hk => hasBit_hi h' hk).symm
/-- how many bits m has -/
def lenBits (m : Nat) : Nat := if m = 0 then 0 else m.log2 + 1
theorem lt_lenBits (m : Nat) : m < 2 ^ lenBits m := by
  unfold lenBits
  by_cases h : m = 0
  · rw [if_pos h, h]; decide
  · rw [if_neg h]
    exact Nat.lt_log2_self
theorem lowest_le (n m : Nat) : lowest n m ≤ n := by
  unfold lowest
  cases h : (List.range n).find? (fun k => !hasBit m k) with
  | none => exact Nat.le_refl _
  | some k =>
    have := List.mem_of_find?_eq_some h
    rw [List.mem_range] at this
    exact Nat.le_of_lt this
/-- the lowest: all below are there, itself is not -/
theorem lowest_is {n m f : Nat} (h : m < 2 ^ n) (hf : f ≤ n) (hb : ∀ j, j < f → hasBit m j = true) (hn : hasBit m f = false) : lowest n m = f := by
  unfold lowest
  rcases Nat.lt_or_ge f n with q | q
  · have e : (List.range n).find? (fun k => !hasBit m k) = some f := by
      rw [List.find?_range_eq_some]
      refine ⟨by rw [hn]; rfl, List.mem_range.mpr q, fun j hj => by rw [hb j hj]; rfl⟩
    rw [e]
    rfl
  · have e : f = n := by omega
    subst e
    have e : (List.range f).find? (fun k => !hasBit m k) = none := by
      rw [List.find?_eq_none]
      intro k hk
      rw [hb k (List.mem_range.mp hk)]
      exact fun z => by cases z
    rw [e]
    rfl
theorem full_of {n m : Nat} (h : m < 2 ^ n) (hb : ∀ j, j < n → hasBit m j = true) : m = 2 ^ n - 1 := by
  refine Nat.eq_of_testBit_eq fun k => ?_
  rw [← hasBit_eq, ← hasBit_eq, hasBit_full]
  by_cases q : k < n
  · rw [hb k q, decide_eq_true q]
  · rw [hasBit_hi h (by omega), decide_eq_false q]
theorem lowest_lt {n m : Nat} (h : m < 2 ^ n - 1) : lowest n m < n ∧ hasBit m (lowest n m) = false := by
  have hm : m < 2 ^ n := by omega
  unfold lowest
  cases e : (List.range n).find? (fun k => !hasBit m k) with
  | none =>
    rw [List.find?_eq_none] at e
    have := full_of hm fun j hj => by
      have := e j (List.mem_range.mpr hj)
      simpa using this
    omega
  | some k =>
    have h1 := List.mem_of_find?_eq_some e
    have h2 := List.find?_some e
    rw [List.mem_range] at h1
    exact ⟨h1, by simpa using h2⟩
end Lp
namespace Lp
open PySem PySem.Spec PyProof.Rows L2 Tr
open Vahypc (hasBit lowest Goal)
def top (i : Nat) : Stmt := PySem.Challenge.pw_leastpieces_s01_answers.main.body.getD i (.Pass ⟨0, 0, 0, 0⟩)
abbrev dNat (n : Nat) : D := dI (n : Int)
/-- the built-ins' names are the module's own nowhere -/
structure Bi (mg : Str → Option Value) : Prop where
  len : mg "len" = none
  range : mg "range" = none
  enumerate : mg "enumerate" = none
  max : mg "max" = none
  min : mg "min" = none
  int : mg "int" = none
  ord : mg "ord" = none
  all : mg "all" = none
  any : mg "any" = none
  sum : mg "sum" = none
  list : mg "list" = none
  reversed : mg "reversed" = none
  zip : mg "zip" = none
  valueError : mg "ValueError" = none
/-- a constant of the module -/
def Cn (mg : Str → Option Value) (x : Str) (v : V) : Prop := ∃ u, mg x = some u ∧ RelV v u
section
variable {X : CS} {P : Program} {w : World} {K : PySem.W.Frag} {mg : Str → Option Value} {base : Heap} {N : List Str} {kd : Str → Option NameKind} {k : Nat} {E : XK} {ex : Er → Prop} {ss : List (Option D)} {d : D} {ds : List D} {a : Expr} {pos : Pos}
theorem g_cn (C : Ctx X P w K mg base N kd k E) {y : Str} {v : V} (h : Cn mg y v) (hg : kd y = some .globalImplicit := by rfl) (hd : (y == ("__debug__" : Str)) = false := by decide) : Ge X E ex ss (.Name y pos) (dV v) := by
  obtain ⟨u, hm, r⟩ := h
  exact g_glob C hm r hg hd
/-- a class of plain fields -/
structure Fld (K : PySem.W.Frag) (Cl : Addr) (ns : List Str) : Prop where
  cl : Cls K Cl
  na : ∀ f ∈ ns, NoAttr K Cl f
theorem g_at (C : Ctx X P w K mg base N kd k E) {Cl : Addr} {ns : List Str} {f : Str} (F : Fld K Cl ns) (i : Nat) (ha : Ge X E ex ss a (dO Cl ns ds)) (h : ds[i]? = some d := by rfl) (hf : ns[i]? = some f := by rfl) (nd : ns.Nodup := by decide)
    (hb : ∀ env, attributeBase a f env (eval a env) = eval a env := by intro _; rfl) : Ge X E ex ss (.Attribute a f pos) d := g_fld C i ha F.cl (F.na f (List.mem_of_getElem? hf)) h hf nd hb
end
theorem gcast {E : XK} {ex : Er → Prop} {ss : List (Option D)} {t : TE} {d d' : D} (h : Gv E ex t ss d) (e : d = d') : Gv E ex t ss d' := by
  rw [← e]
  exact h
theorem tcast {X : CS} {E : XK} {ex : Er → Prop} {ss : List (Option D)} {e : Expr} {b b' : Bool} (h : Gt X E ex ss e b) (q : b = b') : Gt X E ex ss e b' := by
  rw [← q]
  exact h
/-! ### data -/
abbrev nsW : List Str := ["letters", "gaps"]
abbrev nsL : List Str := ["left", "right", "words", "patterns"]
abbrev nsF : List Str := ["goals", "pieces", "covers", "sizes"]
abbrev eWord (cW : Addr) (x : Vahypa.Word) : D := dO cW nsW [dU x.x, dL (x.cuts.map fun g => dNat g)]
abbrev eLst (cL cW : Addr) (s : Vahypa.Lst) : D := dO cL nsL [dNat s.l, dNat s.r, dL (s.words.map (eWord cW)), dNat s.pats.length]
abbrev eGoal (g : Goal) : D := dT [dNat g.w, dNat g.g]
structure Pc where
  x : List UInt8
  at_ : Nat
  f : Bool
  e : Bool
  deriving DecidableEq
abbrev ePc (p : Pc) : D := dT [dU p.x, dNat p.at_, dB p.f, dB p.e]
structure Fam where
  goals : List Goal
  pieces : List Pc
  covers : List Nat
  sizes : List Nat
abbrev eFam (cF : Addr) (f : Fam) : D := dO cF nsF [dL (f.goals.map eGoal), dL (f.pieces.map ePc), dL (f.covers.map fun m => dNat m), dL (f.sizes.map fun m => dNat m)]
/-! ### choosing -/
section
variable {P : Program} {w : World} {K : PySem.W.Frag} {mg : Str → Option Value} {base : Heap} {f : Addr} {fd : FuncData}
abbrev s_cost_of : Stmt := top 1
theorem sc_cost_of : FnScope ["kind", "many", "size"] ["kind", "many", "size"] (defScope s_cost_of) := ⟨rfl, rfl, rfl, by decide +kernel, rfl, by decide +kernel, by decide +kernel⟩
def A_cost_of : Pr := fun ds kr _ => ∃ k m s : Int, ds = [dI k, dI m, dI s] ∧ kr (dT ((if k = 0 then [m, s] else [s, m]).map fun (i : Int) => dI i))
theorem ok_cost_of (F : Fun K "cost_of" "cost_of" s_cost_of f fd) : FnOk P w K mg base CX0 1 f fd ["kind", "many", "size"] (spT A_cost_of) := by
  refine def_ok F sc_cost_of (fun ds kr ke h => ?_) fun X C S H σ ds kr ke0 hA ok er Dn hr hn => ?_
  · obtain ⟨k, m, s, rfl, _⟩ := h
    rfl
  · obtain ⟨ke, k, m, s, rfl, hk⟩ := hA
    refine st_ret ok Errs.none (g_if (t_eq (g_var C 0) g_int) (fun h => ?_) (fun h => ?_)) (fun v H' => hr _ v H' hk)
    · have h : k = 0 := by simpa using h
      rw [if_pos h]
      exact g_tup (a_cons (g_var C 1) (a_cons (g_var C 2) a_nil))
    · have h : ¬ k = 0 := by simpa using h
      rw [if_neg h]
      exact g_tup (a_cons (g_var C 2) (a_cons (g_var C 1) a_nil))
abbrev s_lowest_lacking : Stmt := top 2
theorem sc_lowest_lacking : FnScope ["covered", "found"] ["covered"] (defScope s_lowest_lacking) := ⟨rfl, rfl, rfl, by decide +kernel, rfl, by decide +kernel, by decide +kernel⟩
def A_lowest_lacking : Pr := fun ds kr _ => ∃ m n : Nat, ds = [dNat m] ∧ m < 2 ^ n ∧ kr (dNat (lowest n m))
theorem ok_lowest_lacking (F : Fun K "lowest_lacking" "lowest_lacking" s_lowest_lacking f fd) : FnOk P w K mg base CX0 1 f fd ["covered"] (spT A_lowest_lacking) := by
  refine def_ok F sc_lowest_lacking (fun ds kr ke h => ?_) fun X C S H σ ds kr ke0 hA ok er Dn hr hn => ?_
  · obtain ⟨m, n, rfl, _⟩ := h
    rfl
  · obtain ⟨ke, m, n, rfl, hm, hk⟩ := hA
    refine st_set C 1 ok Errs.none (g_int) fun H1 σ1 ok1 => ?_
    refine st_while C (fun f : Nat => [some (dNat m), some (dNat f)]) (fun _ => []) (fun f => f ≤ n ∧ ∀ j, j < f → hasBit m j = true) (fun f => n - f) (fun f => m / 2 ^ f % 2 == 1) 0 ok1 Errs.none ⟨Nat.zero_le _, fun j hj => absurd hj (Nat.not_lt_zero j)⟩ ?_ ?_ ?_
    · intro f ⟨hf, hb⟩
      exact t_bit1 (g_var C 0) (g_var C 1)
    · intro f ⟨hf, hb⟩ ht H2 σ2 ok2
      have hlt : f < n := by
        rcases Nat.lt_or_ge f n with q | q
        · exact q
        · have h2 : hasBit m f = false := hasBit_hi hm q
          have ht : hasBit m f = true := ht
          rw [h2] at ht
          cases ht
      refine st_set C 1 ok2 Errs.none (g_add (g_var C 1) g_int) fun H3 σ3 ok3 => st_nil ?_
      refine ⟨f + 1, by omega, ⟨hlt, fun j hj => ?_⟩, ok3⟩
      rcases Nat.lt_or_ge j f with q | q
      · exact hb j q
      · have e : j = f := by omega
        rw [e]
        exact ht
    · intro f ⟨hf, hb⟩ ht H2 σ2 ok2
      rw [lowest_is hm hf hb ht] at hk
      exact st_ret ok2 Errs.none (g_var C 1) fun v H' => hr _ v H' hk
abbrev s_many_bits : Stmt := top 5
theorem sc_many_bits : FnScope ["some", "k"] ["some"] (defScope s_many_bits) := ⟨rfl, rfl, rfl, by decide +kernel, rfl, by decide +kernel, by decide +kernel⟩
def A_many_bits : Pr := fun ds kr _ => ∃ m n : Nat, ds = [dNat m] ∧ m < 2 ^ n ∧ n ≤ 60 ∧ kr (dNat (bitsOf n m).length)
theorem intBits_nat (m : Nat) : Builtin.Int.intBits (m : Int) = lenBits m := by
  unfold Builtin.Int.intBits lenBits
  by_cases h : m = 0
  · subst h; rfl
  · rw [if_neg h, if_neg (by simpa using h)]
    rfl
theorem lenBits_le {m n : Nat} (h : m < 2 ^ n) : lenBits m ≤ n := by
  unfold lenBits
  by_cases z : m = 0
  · rw [if_pos z]; exact Nat.zero_le _
  · rw [if_neg z]
    exact (Nat.log2_lt z).mpr h
theorem ok_many_bits (B : Bi mg) (F : Fun K "many_bits" "many_bits" s_many_bits f fd) : FnOk P w K mg base CX0 1 f fd ["some"] (spT A_many_bits) := by
  refine def_ok F sc_many_bits (fun ds kr ke h => ?_) fun X C S H σ ds kr ke0 hA ok er Dn hr hn => ?_
  · obtain ⟨m, n, rfl, _⟩ := h
    rfl
  · obtain ⟨ke, m, n, rfl, hm, hn60, hk⟩ := hA
    have hl := lenBits_le hm
    have e : (((List.range (lenBits m)).filter (hasBit m)).map fun (i : Nat) => dNat i).length = (bitsOf n m).length := by
      rw [List.length_map]
      exact congrArg List.length (bitsOf_eq hm (lt_lenBits m))
    refine st_ret ok Errs.none (gcast (g_lenL C B.len (g_lc C [("k", 1)] (l := List.range (Builtin.Int.intBits (m : Int))) (enc := fun i => dNat i) (is := [1]) (f := fun i => [some (dNat m), some (dNat i)]) (t := hasBit m) (g := fun i => dNat i)
      (gi_rangeN C B.range (g_bits (g_var C 0)) (by rw [intBits_nat]; omega)) (by decide +kernel) (by rw [List.length_range, intBits_nat, sizeLine_eq]; omega) (by simp)
      (fun i hi => gg_name (C.blk _ rfl) 1)
      (fun i hi => ts_one (t_bit1 (g_var (C.blk _ rfl) 0) (g_var (C.blk _ rfl) 1)))
      (fun i hi ht => g_var (C.blk _ rfl) 1))) ?_) fun v H' => hr _ v H' hk
    rw [intBits_nat, e]
end
end Lp
namespace Lp
open PySem PySem.Spec PyProof.Rows L2 Tr
open Vahypc (hasBit lowest Goal Choice better)
section
variable {X : CS} {P : Program} {w : World} {K : PySem.W.Frag} {mg : Str → Option Value} {base : Heap} {N : List Str} {kd : Str → Option NameKind} {k : Nat} {E : XK} {ex : Er → Prop} {ss : List (Option D)} {d : D} {ds : List D} {a b : Expr} {pos : Pos}
/-- tuples of ints in their order -/
theorem t_ltT (C : Ctx X P w K mg base N kd k E) {ns ms : List Int} (ha : Ge X E ex ss a (dT (ns.map fun i => dI i))) (hb : Ge X E ex ss b (dT (ms.map fun i => dI i))) : Gt X E ex ss (.Compare a [.Lt] [b] pos) (HT.lexLt ns ms) :=
  t_cmp (r := rLtT K) (fun x hx => by rw [← C.frag x hx]; exact op_ltT (Nat.lt_of_le_of_lt (Nat.le_add_right _ 64) (C.room x hx).units)) ha hb fun S H x y _ hx hy Q q => by
    obtain ⟨p, vs, rfl, hp, r⟩ := hx
    obtain ⟨p2, vs2, rfl, hp2, r2⟩ := hy
    have e1 := r.plain (f := V.int)
    have e2 := r2.plain (f := V.int)
    subst e1 e2
    exact ⟨p, p2, ns, ms, rfl, rfl, SqT.of (wd_same S H _ _ hp), SqT.of (wd_same S H _ _ hp2), q _ H (Same.refl H) rfl⟩
end
section
variable {P : Program} {w : World} {K : PySem.W.Frag} {mg : Str → Option Value} {base : Heap} {f : Addr} {fd : FuncData}
abbrev s_numbers_in : Stmt := top 9
theorem sc_numbers_in : FnScope ["some", "k"] ["some"] (defScope s_numbers_in) := ⟨rfl, rfl, rfl, by decide +kernel, rfl, by decide +kernel, by decide +kernel⟩
def A_numbers_in : Pr := fun ds kr _ => ∃ m n : Nat, ds = [dNat m] ∧ m < 2 ^ n ∧ n ≤ 60 ∧ kr (dL ((bitsOf n m).map fun i => dNat i))
theorem ok_numbers_in (B : Bi mg) (F : Fun K "numbers_in" "numbers_in" s_numbers_in f fd) : FnOk P w K mg base CX0 1 f fd ["some"] (spT A_numbers_in) := by
  refine def_ok F sc_numbers_in (fun ds kr ke h => ?_) fun X C S H σ ds kr ke0 hA ok er Dn hr hn => ?_
  · obtain ⟨m, n, rfl, _⟩ := h
    rfl
  · obtain ⟨ke, m, n, rfl, hm, hn60, hk⟩ := hA
    have hl := lenBits_le hm
    have e : (List.range (lenBits m)).filter (hasBit m) = bitsOf n m := bitsOf_eq hm (lt_lenBits m)
    refine st_ret ok Errs.none (gcast (g_lc C [("k", 1)] (l := List.range (Builtin.Int.intBits (m : Int))) (enc := fun i => dNat i) (is := [1]) (f := fun i => [some (dNat m), some (dNat i)]) (t := hasBit m) (g := fun i => dNat i)
      (gi_rangeN C B.range (g_bits (g_var C 0)) (by rw [intBits_nat]; omega)) (by decide +kernel) (by rw [List.length_range, intBits_nat, sizeLine_eq]; omega) (by simp)
      (fun i hi => gg_name (C.blk _ rfl) 1)
      (fun i hi => ts_one (t_bit1 (g_var (C.blk _ rfl) 0) (g_var (C.blk _ rfl) 1)))
      (fun i hi ht => g_var (C.blk _ rfl) 1)) ?_) fun v H' => hr _ v H' hk
    rw [intBits_nat, e]

/-! ### best_from -/
def eCh : Option Choice → D
  | none => dN
  | some c => dT [dL (c.ks.map fun i => dNat i), dNat c.bytes]
theorem eCh_non (b : Option Choice) : ∀ W v, (eCh b).p W v → decide (v = .non) = b.isNone := fun W v h => by
  cases b with
  | none => exact non_N W v h
  | some c => exact non_T W v h
def stepB (fam : Fam) (kind : Nat) (g covered : Nat) (lk : Nat → Option Choice) (b : Option Choice) (i : Nat) : Option Choice :=
  if hasBit (fam.covers.getD i 0) g = false then b else match lk (covered ||| fam.covers.getD i 0) with
    | none => b
    | some x => let y : Choice := ⟨x.bytes + fam.sizes.getD i 0, i :: x.ks⟩
      match b with
        | none => some y
        | some z => if better kind y z = true then some y else b
theorem stepB_no {fam : Fam} {kind g covered : Nat} {lk : Nat → Option Choice} {b : Option Choice} {i : Nat} (h : hasBit (fam.covers.getD i 0) g = false) : stepB fam kind g covered lk b i = b := by
  unfold stepB
  rw [if_pos h]
theorem stepB_none {fam : Fam} {kind g covered : Nat} {lk : Nat → Option Choice} {b : Option Choice} {i : Nat} (h : lk (covered ||| fam.covers.getD i 0) = none) : stepB fam kind g covered lk b i = b := by
  unfold stepB
  rw [h]
  split <;> rfl
theorem stepB_first {fam : Fam} {kind g covered : Nat} {lk : Nat → Option Choice} {i : Nat} {x : Choice} (h : hasBit (fam.covers.getD i 0) g = true) (hx : lk (covered ||| fam.covers.getD i 0) = some x) :
    stepB fam kind g covered lk none i = some ⟨x.bytes + fam.sizes.getD i 0, i :: x.ks⟩ := by
  unfold stepB
  rw [if_neg (by rw [h]; exact fun z => by cases z), hx]
theorem stepB_more {fam : Fam} {kind g covered : Nat} {lk : Nat → Option Choice} {i : Nat} {x z : Choice} (h : hasBit (fam.covers.getD i 0) g = true) (hx : lk (covered ||| fam.covers.getD i 0) = some x) :
    stepB fam kind g covered lk (some z) i = if better kind ⟨x.bytes + fam.sizes.getD i 0, i :: x.ks⟩ z = true then some ⟨x.bytes + fam.sizes.getD i 0, i :: x.ks⟩ else some z := by
  unfold stepB
  rw [if_neg (by rw [h]; exact fun z => by cases z), hx]
structure PreB (fam : Fam) (used : List Nat) (n covered : Nat) (kvs : List (Key × D)) (lk : Nat → Option Choice) : Prop where
  lt : covered < 2 ^ n
  ix : ∀ i ∈ used, i < fam.covers.length ∧ i < fam.sizes.length
  look : ∀ i ∈ used, hasBit (fam.covers.getD i 0) (lowest n covered) = true → lookD kvs (.inl ((covered ||| fam.covers.getD i 0 : Nat) : Int)) = some (eCh (lk (covered ||| fam.covers.getD i 0)))
  small : ∀ m c, lk m = some c → c.ks.length ≤ 1000
abbrev s_best_from : Stmt := top 3
theorem sc_best_from : FnScope ["family", "used", "kind", "covered", "later", "goal", "best", "i", "some", "size", "one"] ["family", "used", "kind", "covered", "later"] (defScope s_best_from) := ⟨rfl, rfl, rfl, by decide +kernel, rfl, by decide +kernel, by decide +kernel⟩
def A_best_from (cF : Addr) : Pr := fun ds kr _ => ∃ (fam : Fam) (used : List Nat) (kind n covered : Nat) (kvs : List (Key × D)) (lk : Nat → Option Choice),
  ds = [eFam cF fam, dL (used.map fun i => dNat i), dNat kind, dNat covered, dM kvs] ∧ PreB fam used n covered kvs lk ∧ kr (eCh (used.foldl (stepB fam kind (lowest n covered) covered lk) none))
theorem map_get {α : Type} {g : α → D} {l : List α} {i : Nat} {d : α} (h : i < l.length) : (l.map g)[i]? = some (g (l.getD i d)) := by
  rw [List.getElem?_map, List.getElem?_eq_getElem h, List.getD_eq_getElem?_getD, List.getElem?_eq_getElem h]
  rfl
theorem lex2 (a b c d : Int) : HT.lexLt [a, b] [c, d] = (decide (a < c) || (a == c && decide (b < d))) := by
  rw [HT.lexLt_cons, HT.lexLt_cons, HT.lexLt_nil_nil]
  by_cases h : a = c
  · subst h
    by_cases h2 : b = d
    · subst h2; simp
    · simp [h2]
  · simp [h]
theorem better_is (kind : Nat) (y z : Choice) : HT.lexLt (if (kind : Int) = 0 then [(y.ks.length : Int), (y.bytes : Int)] else [(y.bytes : Int), (y.ks.length : Int)]) (if (kind : Int) = 0 then [(z.ks.length : Int), (z.bytes : Int)] else [(z.bytes : Int), (z.ks.length : Int)]) = better kind y z := by
  have c1 : ∀ a b : Nat, decide ((a : Int) < (b : Int)) = decide (a < b) := fun a b => by simp
  have c2 : ∀ a b : Nat, ((a : Int) == (b : Int)) = (a == b) := fun a b => by
    by_cases h : a = b
    · subst h; simp
    · rw [beq_eq_false_iff_ne.mpr h, beq_eq_false_iff_ne.mpr (by omega)]
  unfold better
  by_cases h : kind = 0
  · subst h
    rw [if_pos (show ((0 : Nat) : Int) = 0 from rfl), if_pos (show ((0 : Nat) : Int) = 0 from rfl), if_pos rfl, lex2, c1, c1, c2]
  · rw [if_neg h, if_neg (by omega), if_neg (by omega), lex2, c1, c1, c2]
theorem ok_best_from (B : Bi mg) {cF : Addr} (FF : Fld K cF nsF) (h1 : Has P w K mg base CX0 1 "lowest_lacking" A_lowest_lacking) (h2 : Has P w K mg base CX0 1 "cost_of" A_cost_of) (F : Fun K "best_from" "best_from" s_best_from f fd) :
    FnOk P w K mg base CX0 2 f fd ["family", "used", "kind", "covered", "later"] (spT (A_best_from cF)) := by
  refine def_ok F sc_best_from (fun ds kr ke h => ?_) fun X C S H σ ds kr ke0 hA ok er Dn hr hn => ?_
  · obtain ⟨fam, used, kind, n, covered, kvs, lk, rfl, _⟩ := h
    rfl
  · obtain ⟨ke, fam, used, kind, n, covered, kvs, lk, rfl, Pr, hk⟩ := hA
    have eN : ∀ n : Nat, (fun _ : Er => False) = (fun _ : Er => False) := fun _ => rfl
    refine st_set C 5 ok Errs.none (g_call C h1 (a_cons (g_var C 3) a_nil) ⟨covered, n, rfl, Pr.lt, rfl⟩) fun H1 σ1 ok1 => ?_
    refine st_set C 6 ok1 Errs.none g_non fun H2 σ2 ok2 => ?_
    refine st_for C (f := fun i ss => ss.set 7 (some (dNat i))) (is := [7]) ok2 Errs.none (gi_list C (g_var C 1)) (fun i _ ss1 _ => gg_name C 7)
      (fun i ss1 o1 => ∃ x1 x2 x3 x4, ss1 = [some (eFam cF fam), some (dL (used.map fun i => dNat i)), some (dNat kind), some (dNat covered), some (dM kvs), some (dNat (lowest n covered)), some (eCh ((used.take i).foldl (stepB fam kind (lowest n covered) covered lk) none)), x1, x2, x3, x4] ∧ o1 = [])
      ⟨none, none, none, none, rfl, rfl⟩ (fun i ss1 o1 ⟨x1, x2, x3, x4, h, h'⟩ => by subst h h'; exact ⟨rfl, rfl⟩) ?_ ?_
    · rintro B' eB _ i a ha ss1 o1 ⟨x1, x2, x3, x4, rfl, rfl⟩ H3 σ3 ok3
      have hm : a ∈ used := List.mem_of_getElem? ha
      obtain ⟨l1, l2⟩ := Pr.ix a hm
      rw [take_succ_of ha]
      obtain ⟨b, hb0⟩ : ∃ b, b = (used.take i).foldl (stepB fam kind (lowest n covered) covered lk) none := ⟨_, rfl⟩
      rw [← hb0] at ok3
      -- the test
      have done : ∀ {H4 : Hp} {σ4 : Sg} {y1 y2 y3 y4 : Option D} {b' : Option Choice}, Okf B' S [] H4 σ4 [some (eFam cF fam), some (dL (used.map fun i => dNat i)), some (dNat kind), some (dNat covered), some (dM kvs), some (dNat (lowest n covered)), some (eCh b'), y1, y2, y3, y4] [] → b' = stepB fam kind (lowest n covered) covered lk b a →
          ∃ ss2 o2, (∃ x1 x2 x3 x4, ss2 = [some (eFam cF fam), some (dL (used.map fun i => dNat i)), some (dNat kind), some (dNat covered), some (dM kvs), some (dNat (lowest n covered)), some (eCh ((used.take i ++ [a]).foldl (stepB fam kind (lowest n covered) covered lk) none)), x1, x2, x3, x4] ∧ o2 = []) ∧ Okf B' S [] H4 σ4 ss2 o2 := by
        intro H4 σ4 y1 y2 y3 y4 b' ok4 e4
        refine ⟨_, _, ⟨y1, y2, y3, y4, rfl, rfl⟩, ?_⟩
        rw [List.foldl_append, ← hb0]
        show Okf B' S [] H4 σ4 [_, _, _, _, _, _, some (eCh (stepB fam kind (lowest n covered) covered lk b a)), _, _, _, _] []
        rw [← e4]
        exact ok4
      refine st_if ok3 Errs.none (t_and (t_bit1 (g_ixL C (g_at C FF 2 (g_var C 0)) (g_var C 7) rfl (map_get (g := fun m => dNat m) (d := 0) l1)) (g_var C 5)) fun hbit => t_notN (g_dget C (g_var C 4) (g_orN (g_var C 3) (g_ixL C (g_at C FF 2 (g_var C 0)) (g_var C 7) rfl (map_get (g := fun m => dNat m) (d := 0) l1))) (Pr.look a hm hbit)) (eCh_non _)) ?_ ?_
      · intro ht H4 ok4
        rw [Bool.and_eq_true] at ht
        obtain ⟨hbit, hlk⟩ := ht
        have hbit : hasBit (fam.covers.getD a 0) (lowest n covered) = true := hbit
        cases hx : lk (covered ||| fam.covers.getD a 0) with
        | none => rw [hx] at hlk; cases hlk
        | some x =>
          have hlook := Pr.look a hm hbit
          rw [hx] at hlook
          have hs := Pr.small _ _ hx
          refine st_asg ok4 Errs.none (g_dget C (g_var C 4) (g_orN (g_var C 3) (g_ixL C (g_at C FF 2 (g_var C 0)) (g_var C 7) rfl (map_get (g := fun m => dNat m) (d := 0) l1))) hlook) (is := [8, 9]) (gg_tupT C (ggs_cons (gg_name C 8) (ggs_cons (gg_name C 9) ggs_nil))) rfl fun H5 σ5 ok5 => ?_
          refine st_set C 10 (d := eCh (some ⟨x.bytes + fam.sizes.getD a 0, a :: x.ks⟩)) ok5 Errs.none (gcast (g_tup (a_cons (g_cat (g_list (a_cons (g_var C 7) a_nil)) (g_var C 8) (by simp; omega)) (a_cons (g_add (g_ixL C (g_at C FF 3 (g_var C 0)) (g_var C 7) rfl (map_get (g := fun m => dNat m) (d := 0) l2)) (g_var C 9)) a_nil))) ?_) fun H6 σ6 ok6 => ?_
          · show dT [dL (dNat a :: x.ks.map fun i => dNat i), dI (((fam.sizes.getD a 0 : Nat) : Int) + (x.bytes : Int))] = dT [dL (dNat a :: x.ks.map fun i => dNat i), dNat (x.bytes + fam.sizes.getD a 0)]
            rw [show (((fam.sizes.getD a 0 : Nat) : Int) + (x.bytes : Int)) = ((x.bytes + fam.sizes.getD a 0 : Nat) : Int) by omega]
          obtain ⟨y, hy⟩ : ∃ y : Choice, y = ⟨x.bytes + fam.sizes.getD a 0, a :: x.ks⟩ := ⟨_, rfl⟩
          rw [← hy] at ok6
          cases b with
          | none =>
            have hst := stepB_first (kind := kind) hbit hx
            rw [← hy] at hst
            refine st_if ok6 Errs.none (t_or (t_isN (g_var C 6) non_N) (fun z => by cases z) (q := false)) ?_ (fun z => by cases z)
            intro _ H7 ok7
            refine st_set C 6 ok7 Errs.none (g_var C 10) fun H8 σ8 ok8 => st_nil (st_nil (st_nil (done ok8 hst.symm)))
          | some z =>
            have hst := stepB_more (kind := kind) (z := z) hbit hx
            rw [← hy] at hst
            refine st_if ok6 Errs.none (t_or (t_isN (g_var C 6) non_T) fun _ => t_ltT C
              (g_call C h2 (a_cons (g_var C 2) (a_cons (g_lenL C B.len (g_ixT C (g_var C 10) g_int (n := 0) rfl rfl)) (a_cons (g_ixT C (g_var C 10) g_int (n := 1) rfl rfl) a_nil))) ⟨_, _, _, rfl, rfl⟩)
              (g_call C h2 (a_cons (g_var C 2) (a_cons (g_lenL C B.len (g_ixT C (g_var C 6) g_int (n := 0) rfl rfl)) (a_cons (g_ixT C (g_var C 6) g_int (n := 1) rfl rfl) a_nil))) ⟨_, _, _, rfl, rfl⟩)) ?_ ?_
            · intro hb H7 ok7
              rw [Bool.false_or, List.length_map, List.length_map, better_is] at hb
              rw [if_pos hb] at hst
              refine st_set C 6 ok7 Errs.none (g_var C 10) fun H8 σ8 ok8 => st_nil (st_nil (st_nil (done ok8 hst.symm)))
            · intro hb H7 ok7
              rw [Bool.false_or, List.length_map, List.length_map, better_is] at hb
              rw [if_neg (by rw [hb]; exact fun z => by cases z)] at hst
              exact st_nil (st_nil (st_nil (done ok7 hst.symm)))
      · intro ht H4 ok4
        refine st_nil (st_nil (done ok4 ?_))
        rw [Bool.and_eq_false_iff] at ht
        rcases ht with ht | ht
        · exact (stepB_no ht).symm
        · cases hx : lk (covered ||| fam.covers.getD a 0) with
          | none => exact (stepB_none hx).symm
          | some x => rw [hx] at ht; cases ht
    · rintro ss1 o1 ⟨x1, x2, x3, x4, rfl, rfl⟩ H3 σ3 ok3
      rw [List.take_length] at ok3
      exact st_ret ok3 Errs.none (g_var C 6) fun v H' => hr _ v H' hk
end
end Lp
namespace Lp
open PySem PySem.Spec PyProof.Rows L2 Tr
open Vahypc (hasBit lowest Goal Choice better Cand slim putCand)
theorem enumD_map {α : Type} (enc : α → D) : ∀ (n : Nat) (l : List α), enumD n (l.map enc) = (l.zipIdx n).map fun x => dT [dNat x.2, enc x.1]
  | _, [] => rfl
  | n, a :: r => by
    show dT [dI (n : Int), enc a] :: enumD (n + 1) (r.map enc) = _
    rw [enumD_map enc (n + 1) r, List.zipIdx_cons]
    rfl
section
variable {P : Program} {w : World} {K : PySem.W.Frag} {mg : Str → Option Value} {base : Heap} {f : Addr} {fd : FuncData}
theorem gi_enumL {X : CS} {N : List Str} {kd : Str → Option NameKind} {k : Nat} {E : XK} {ex : Er → Prop} {ss : List (Option D)} (C : Ctx X P w K mg base N kd k E) {elts : List Expr} {kk : Nat} {tpos : Pos} {a : Expr} {p pos : Pos} {α : Type} {enc : α → D} {l : List α} (hm : mg "enumerate" = none) (h : Ge X E ex ss a (dL (l.map enc))) (hg : kd "enumerate" = some .globalImplicit := by rfl) (hs : ∀ env, starEach [a] env = [(false, eval a env)] := by intro _; rfl) :
    Gi X E ex ss (.Tuple elts kk tpos) (.Call (.Name "enumerate" p) [a] [] pos) ((l.zipIdx).map fun x => dT [dNat x.2, enc x.1]) := by
  rw [← enumD_map]
  exact gi_enum C hm h hg hs
/-! ### Family's methods -/
abbrev sFam (j : Nat) : Stmt := inClass (top 25) j
theorem sc_every : FnScope ["self"] ["self"] (defScope (sFam 1)) := ⟨rfl, rfl, rfl, by decide +kernel, rfl, by decide +kernel, by decide +kernel⟩
def A_every (cF : Addr) : Pr := fun ds kr _ => ∃ fam : Fam, ds = [eFam cF fam] ∧ fam.goals.length ≤ 60 ∧ kr (dNat (2 ^ fam.goals.length - 1))
theorem ok_every (B : Bi mg) {cF : Addr} (FF : Fld K cF nsF) (F : Fun K "every" "Family.every" (sFam 1) f fd) : FnOk P w K mg base CX0 1 f fd ["self"] (spT (A_every cF)) := by
  refine def_ok F sc_every (fun ds kr ke h => ?_) fun X C S H σ ds kr ke0 hA ok er Dn hr hn => ?_
  · obtain ⟨fam, rfl, _⟩ := h
    rfl
  · obtain ⟨ke, fam, rfl, hl, hk⟩ := hA
    refine st_ret ok Errs.none (gcast (g_sub (g_shlN (m := 1) g_int (g_lenL C B.len (g_at C FF 0 (g_var C 0))) (by decide) (by rw [List.length_map]; omega)) g_int) ?_) fun v H' => hr _ v H' hk
    rw [List.length_map, Nat.one_shiftLeft]
    have h := Nat.one_le_two_pow (n := fam.goals.length)
    show dI _ = dI _
    congr 1
    omega
theorem sc_together : FnScope ["self", "some", "found", "i"] ["self", "some"] (defScope (sFam 2)) := ⟨rfl, rfl, rfl, by decide +kernel, rfl, by decide +kernel, by decide +kernel⟩
def orOf (cs : List Nat) (some_ : List Nat) : Nat := some_.foldl (fun m i => m ||| cs.getD i 0) 0
def A_together (cF : Addr) : Pr := fun ds kr _ => ∃ (fam : Fam) (some_ : List Nat), ds = [eFam cF fam, dL (some_.map fun i => dNat i)] ∧ (∀ i ∈ some_, i < fam.covers.length) ∧ kr (dNat (orOf fam.covers some_))
theorem ok_together {cF : Addr} (FF : Fld K cF nsF) (F : Fun K "together" "Family.together" (sFam 2) f fd) : FnOk P w K mg base CX0 1 f fd ["self", "some"] (spT (A_together cF)) := by
  refine def_ok F sc_together (fun ds kr ke h => ?_) fun X C S H σ ds kr ke0 hA ok er Dn hr hn => ?_
  · obtain ⟨fam, so, rfl, _⟩ := h
    rfl
  · obtain ⟨ke, fam, so, rfl, hix, hk⟩ := hA
    refine st_set C 2 ok Errs.none (g_int (i := 0)) fun H1 σ1 ok1 => ?_
    refine st_for C (f := fun i ss => ss.set 3 (some (dNat i))) (is := [3]) ok1 Errs.none (gi_list C (g_var C 1)) (fun i _ ss1 _ => gg_name C 3)
      (fun i ss1 o1 => ∃ x, ss1 = [some (eFam cF fam), some (dL (so.map fun i => dNat i)), some (dNat (orOf fam.covers (so.take i))), x] ∧ o1 = [])
      ⟨none, rfl, rfl⟩ (fun i ss1 o1 ⟨x, h, h'⟩ => by subst h h'; exact ⟨rfl, rfl⟩) ?_ ?_
    · rintro B' eB _ i a ha ss1 o1 ⟨x, rfl, rfl⟩ H3 σ3 ok3
      refine st_set C 2 ok3 Errs.none (g_orN (g_var C 2) (g_ixL C (g_at C FF 2 (g_var C 0)) (g_var C 3) rfl (map_get (g := fun m => dNat m) (d := 0) (hix a (List.mem_of_getElem? ha))))) fun H4 σ4 ok4 => st_nil ⟨_, _, ⟨some (dNat a), rfl, rfl⟩, ?_⟩
      have e : orOf fam.covers (so.take (i + 1)) = orOf fam.covers (so.take i) ||| fam.covers.getD a 0 := by
        rw [take_succ_of ha, orOf, orOf, List.foldl_append]
        rfl
      rw [e]
      exact ok4
    · rintro ss1 o1 ⟨x, rfl, rfl⟩ H3 σ3 ok3
      rw [List.take_length] at ok3
      exact st_ret ok3 Errs.none (g_var C 2) fun v H' => hr _ v H' hk
theorem sc_all_covered : FnScope ["self"] ["self"] (defScope (sFam 3)) := ⟨rfl, rfl, rfl, by decide +kernel, rfl, by decide +kernel, by decide +kernel⟩
def A_all_covered (cF : Addr) : Pr := fun ds kr _ => ∃ fam : Fam, ds = [eFam cF fam] ∧ fam.pieces.length = fam.covers.length ∧ fam.pieces.length ≤ 10000 ∧ kr (dNat (orOf fam.covers (List.range fam.covers.length)))
theorem ok_all_covered (B : Bi mg) {cF : Addr} (FF : Fld K cF nsF) (hT : HasM P w K mg base CX0 1 cF "together" (A_together cF)) (F : Fun K "all_covered" "Family.all_covered" (sFam 3) f fd) : FnOk P w K mg base CX0 2 f fd ["self"] (spT (A_all_covered cF)) := by
  refine def_ok F sc_all_covered (fun ds kr ke h => ?_) fun X C S H σ ds kr ke0 hA ok er Dn hr hn => ?_
  · obtain ⟨fam, rfl, _⟩ := h
    rfl
  · obtain ⟨ke, fam, rfl, hl, hz, hk⟩ := hA
    refine st_ret ok Errs.none (g_meth C hT (g_var C 0) (a_cons (g_listRange C B.list B.range (g_lenL C B.len (g_at C FF 1 (g_var C 0))) (by rw [List.length_map]; omega)) a_nil) ⟨fam, List.range fam.covers.length, ?_, fun i hi => List.mem_range.mp hi, rfl⟩) fun v H' => hr _ v H' hk
    rw [List.length_map, hl]
theorem sc_first_lacking : FnScope ["self", "covered", "k", "goal"] ["self", "covered"] (defScope (sFam 4)) := ⟨rfl, rfl, rfl, by decide +kernel, rfl, by decide +kernel, by decide +kernel⟩
def firstL (gs : List Goal) (m : Nat) : Option Goal := (gs.zipIdx.find? fun x => !hasBit m x.2).map Prod.fst
def eGoalO : Option Goal → D
  | none => dN
  | some g => eGoal g
def A_first_lacking (cF : Addr) : Pr := fun ds kr _ => ∃ (fam : Fam) (m : Nat), ds = [eFam cF fam, dNat m] ∧ kr (eGoalO (firstL fam.goals m))
theorem find_take_none {α : Type} {p : α → Bool} {l : List α} {i : Nat} {a : α} (h : (l.take i).find? p = none) (ha : l[i]? = some a) : (l.take (i + 1)).find? p = if p a = true then some a else none := by
  rw [take_succ_of ha, List.find?_append, h, Option.none_or, List.find?_cons]
  cases p a <;> rfl
theorem find_of_take {α : Type} {p : α → Bool} {l : List α} {i : Nat} {a : α} (h : (l.take (i + 1)).find? p = some a) : l.find? p = some a := by
  conv => lhs; rw [← List.take_append_drop (i + 1) l]
  rw [List.find?_append, h]
  rfl
theorem ok_first_lacking (B : Bi mg) {cF : Addr} (FF : Fld K cF nsF) (F : Fun K "first_lacking" "Family.first_lacking" (sFam 4) f fd) : FnOk P w K mg base CX0 1 f fd ["self", "covered"] (spT (A_first_lacking cF)) := by
  refine def_ok F sc_first_lacking (fun ds kr ke h => ?_) fun X C S H σ ds kr ke0 hA ok er Dn hr hn => ?_
  · obtain ⟨fam, m, rfl, _⟩ := h
    rfl
  · obtain ⟨ke, fam, m, rfl, hk⟩ := hA
    refine st_for C (f := fun x ss => (ss.set 2 (some (dNat x.2))).set 3 (some (eGoal x.1))) (is := [2, 3]) ok Errs.none (gi_enumL C B.enumerate (g_at C FF 0 (g_var C 0))) (fun x _ ss1 _ => gg_tupT C (ggs_cons (gg_name C 2) (ggs_cons (gg_name C 3) ggs_nil)))
      (fun i ss1 o1 => ∃ x y, ss1 = [some (eFam cF fam), some (dNat m), x, y] ∧ o1 = [] ∧ (fam.goals.zipIdx.take i).find? (fun x => !hasBit m x.2) = none)
      ⟨none, none, rfl, rfl, rfl⟩ (fun i ss1 o1 ⟨x, y, h, h', _⟩ => by subst h h'; exact ⟨rfl, rfl⟩) ?_ ?_
    · rintro B' eB _ i a ha ss1 o1 ⟨x, y, rfl, rfl, hf⟩ H3 σ3 ok3
      have hf' := find_take_none hf ha
      refine st_if ok3 Errs.none (t_bit0 (g_var C 1) (g_var C 2)) (fun ht H4 ok4 => ?_) (fun ht H4 ok4 => ?_)
      · have ht : (!hasBit m a.2) = true := ht
        rw [if_pos ht] at hf'
        have e : firstL fam.goals m = some a.1 := by
          unfold firstL
          rw [find_of_take hf']
          rfl
        rw [e] at hk
        exact st_ret ok4 Errs.none (g_var C 3) fun v H' e1 => hr _ v H' hk (eB.trans e1)
      · have ht : (!hasBit m a.2) = false := ht
        rw [if_neg (by rw [ht]; exact fun z => by cases z)] at hf'
        exact st_nil (st_nil ⟨_, _, ⟨_, _, rfl, rfl, hf'⟩, ok4⟩)
    · rintro ss1 o1 ⟨x, y, rfl, rfl, hf⟩ H3 σ3 ok3
      rw [List.take_length] at hf
      have e : firstL fam.goals m = none := by
        unfold firstL
        rw [hf]
        rfl
      rw [e] at hk
      exact st_ret ok3 (Errs.none (E := E0)) g_non fun v H' => hr _ v H' hk
theorem sc_used : FnScope ["self", "best", "i", "covered"] ["self"] (defScope (sFam 5)) := ⟨rfl, rfl, rfl, by decide +kernel, rfl, by decide +kernel, by decide +kernel⟩
def candsF (fam : Fam) : List Cand := fam.covers.zipIdx.map fun x => ⟨x.2, x.1, fam.sizes.getD x.2 0⟩
def usedF (fam : Fam) : List Nat := (slim (candsF fam)).map (·.k)
def A_used (cF : Addr) : Pr := fun ds kr _ => ∃ fam : Fam, ds = [eFam cF fam] ∧ fam.sizes.length = fam.covers.length ∧ fam.covers.length ≤ 10000 ∧ kr (dL ((usedF fam).map fun i => dNat i))
abbrev encC (c : Cand) : Key × D := (.inl (c.mask : Int), dNat c.k)
theorem mask_key {a b : Nat} : decide ((Sum.inl (a : Int) : Key) = Sum.inl (b : Int)) = decide (a = b) := by
  by_cases h : a = b
  · rw [decide_eq_true h, decide_eq_true (by rw [h])]
  · rw [decide_eq_false h, decide_eq_false fun e => h (by have := Sum.inl.inj e; omega)]
theorem look_cands (m : Nat) : ∀ l : List Cand, lookD (l.map encC) (.inl (m : Int)) = (l.find? fun c => decide (c.mask = m)).map fun c => dNat c.k
  | [] => rfl
  | c :: r => by
    have ih := look_cands m r
    unfold lookD at ih ⊢
    rw [List.map_cons, List.find?_cons, List.find?_cons]
    have e : decide ((encC c).1 = (Sum.inl (m : Int) : Key)) = decide (c.mask = m) := mask_key
    rw [e]
    cases h : decide (c.mask = m) with
    | true => rfl
    | false => exact ih
/-- masks that differ -/
def Apart (l : List Cand) : Prop := (l.map (·.mask)).Nodup
theorem put_miss : ∀ {l : List Cand} {c : Cand}, (l.find? fun d => decide (d.mask = c.mask)) = none → putCand l c = l ++ [c]
  | [], _, _ => rfl
  | d :: r, c, h => by
    rw [List.find?_cons] at h
    unfold putCand
    cases e : decide (d.mask = c.mask) with
    | true => rw [e] at h; cases h
    | false =>
      rw [e] at h
      rw [if_neg (of_decide_eq_false e), put_miss h]
      rfl
theorem put_hit : ∀ {l : List Cand} {c d : Cand}, Apart l → (l.find? fun d => decide (d.mask = c.mask)) = some d → putCand l c = if c.bytes < d.bytes then l.map (fun e => if e.mask = c.mask then c else e) else l
  | [], _, _, _, h => by cases h
  | x :: r, c, d, nd, h => by
    obtain ⟨n1, n2⟩ := List.nodup_cons.mp (show (x.mask :: r.map (·.mask)).Nodup from nd)
    rw [List.find?_cons] at h
    unfold putCand
    cases e : decide (x.mask = c.mask) with
    | true =>
      rw [e] at h
      cases h
      have e := of_decide_eq_true e
      rw [if_pos e]
      by_cases hb : c.bytes < x.bytes
      · rw [if_pos hb, if_pos hb, List.map_cons, if_pos e]
        congr 1
        have go : ∀ y ∈ r, (fun e : Cand => if e.mask = c.mask then c else e) y = id y := fun y hy => if_neg fun z => n1 (by rw [e, ← z]; exact List.mem_map.mpr ⟨y, hy, rfl⟩)
        rw [List.map_congr_left go, List.map_id]
      · rw [if_neg hb, if_neg hb]
    | false =>
      rw [e] at h
      rw [if_neg (of_decide_eq_false e), put_hit n2 h]
      by_cases hb : c.bytes < d.bytes
      · rw [if_pos hb, if_pos hb, List.map_cons, if_neg (of_decide_eq_false e)]
      · rw [if_neg hb, if_neg hb]
theorem apart_put : ∀ {l : List Cand} {c : Cand}, Apart l → Apart (putCand l c)
  | [], _, _ => by simp [Apart, putCand]
  | x :: r, c, nd => by
    obtain ⟨n1, n2⟩ := List.nodup_cons.mp (show (x.mask :: r.map (·.mask)).Nodup from nd)
    unfold putCand
    by_cases e : x.mask = c.mask
    · rw [if_pos e]
      split
      · exact List.nodup_cons.mpr ⟨by show ¬ c.mask ∈ _; rw [← e]; exact n1, n2⟩
      · exact nd
    · rw [if_neg e]
      refine List.nodup_cons.mpr ⟨fun hm => ?_, apart_put n2⟩
      have key : ∀ (l : List Cand), x.mask ∈ (putCand l c).map (·.mask) → x.mask ∈ l.map (·.mask) ∨ x.mask = c.mask := by
        intro l
        induction l with
        | nil => intro h; exact .inr (by simpa [putCand] using h)
        | cons y l ih =>
          intro h
          unfold putCand at h
          by_cases ey : y.mask = c.mask
          · rw [if_pos ey] at h
            split at h
            · rcases List.mem_cons.mp h with q | q
              · exact .inr q
              · exact .inl (List.mem_cons_of_mem _ q)
            · exact .inl h
          · rw [if_neg ey] at h
            rcases List.mem_cons.mp h with q | q
            · exact .inl (by rw [q]; exact List.mem_cons_self)
            · rcases ih q with q | q
              · exact .inl (List.mem_cons_of_mem _ q)
              · exact .inr q
      rcases key r hm with q | q
      · exact n1 q
      · exact e q
theorem apart_slim (l : List Cand) : Apart (slim l) := by
  unfold slim
  have go : ∀ (l acc : List Cand), Apart acc → Apart (l.foldl putCand acc) := by
    intro l
    induction l with
    | nil => intro acc h; exact h
    | cons c l ih => intro acc h; exact ih _ (apart_put h)
  exact go l [] List.nodup_nil
theorem putD_cands {l : List Cand} {c : Cand} (nd : Apart l) (h : (l.find? fun d => decide (d.mask = c.mask)) = none ∨ ∃ d, (l.find? fun d => decide (d.mask = c.mask)) = some d ∧ c.bytes < d.bytes) :
    putD (l.map encC) (.inl (c.mask : Int)) (dNat c.k) = (putCand l c).map encC := by
  unfold putD
  rw [look_cands]
  rcases h with h | ⟨d, h, hb⟩
  · rw [h, put_miss h, if_neg (by simp), List.map_append]
    rfl
  · rw [h, put_hit nd h, if_pos hb, if_pos (show ((some d).map fun c => dNat c.k).isSome = true from rfl), List.map_map, List.map_map]
    refine List.map_congr_left fun e _ => ?_
    show (if (encC e).1 = (Sum.inl (c.mask : Int) : Key) then ((encC e).1, dNat c.k) else encC e) = encC (if e.mask = c.mask then c else e)
    have k : ((encC e).1 = (Sum.inl (c.mask : Int) : Key)) ↔ e.mask = c.mask := by
      constructor
      · intro q
        have q : (Sum.inl (e.mask : Int) : Key) = Sum.inl (c.mask : Int) := q
        have := Sum.inl.inj q
        omega
      · intro q
        show (Sum.inl (e.mask : Int) : Key) = Sum.inl (c.mask : Int)
        rw [q]
    by_cases q : e.mask = c.mask
    · rw [if_pos (k.mpr q), if_pos q]
      show (Sum.inl (e.mask : Int), dNat c.k) = (Sum.inl (c.mask : Int), dNat c.k)
      rw [q]
    · rw [if_neg fun z => q (k.mp z), if_neg q]
theorem slim_len (l : List Cand) : (slim l).length ≤ l.length := by
  have one : ∀ (l : List Cand) (c : Cand), (putCand l c).length ≤ l.length + 1 := by
    intro l c
    induction l with
    | nil => exact Nat.le_refl _
    | cons x r ih =>
      unfold putCand
      split
      · split <;> simp
      · simp only [List.length_cons]; omega
  have go : ∀ (l acc : List Cand), (l.foldl putCand acc).length ≤ acc.length + l.length := by
    intro l
    induction l with
    | nil => intro acc; exact Nat.le_refl _
    | cons c l ih =>
      intro acc
      have h1 := ih (putCand acc c)
      have h2 := one acc c
      simp only [List.foldl_cons, List.length_cons]
      omega
  have := go l []
  simpa [slim] using this
/-- each slim one is a candidate -/
theorem slim_mem {l : List Cand} : ∀ c ∈ slim l, c ∈ l := by
  have one : ∀ (l : List Cand) (c : Cand), ∀ x ∈ putCand l c, x ∈ l ∨ x = c := by
    intro l c
    induction l with
    | nil => intro x h; exact .inr (by simpa [putCand] using h)
    | cons y r ih =>
      intro x h
      unfold putCand at h
      split at h
      · split at h
        · rcases List.mem_cons.mp h with q | q
          · exact .inr q
          · exact .inl (List.mem_cons_of_mem _ q)
        · exact .inl h
      · rcases List.mem_cons.mp h with q | q
        · exact .inl (by rw [q]; exact List.mem_cons_self)
        · rcases ih x q with q | q
          · exact .inl (List.mem_cons_of_mem _ q)
          · exact .inr q
  have go : ∀ (l acc : List Cand), ∀ x ∈ l.foldl putCand acc, x ∈ acc ∨ x ∈ l := by
    intro l
    induction l with
    | nil => intro acc x h; exact .inl h
    | cons c l ih =>
      intro acc x h
      rcases ih _ x h with q | q
      · rcases one acc c x q with q | q
        · exact .inl q
        · exact .inr (by rw [q]; exact List.mem_cons_self)
      · exact .inr (List.mem_cons_of_mem _ q)
  intro c hc
  rcases go l [] c hc with q | q
  · cases q
  · exact q
theorem cand_at {fam : Fam} {i : Nat} {x : Nat × Nat} (h : fam.covers.zipIdx[i]? = some x) : (candsF fam)[i]? = some ⟨x.2, x.1, fam.sizes.getD x.2 0⟩ := by
  unfold candsF
  rw [List.getElem?_map, h]
  rfl
theorem cand_is {fam : Fam} {c : Cand} (h : c ∈ candsF fam) : c.k < fam.covers.length ∧ c.mask = fam.covers.getD c.k 0 ∧ c.bytes = fam.sizes.getD c.k 0 := by
  unfold candsF at h
  obtain ⟨x, hx, rfl⟩ := List.mem_map.mp h
  obtain ⟨h1, h2, h3⟩ := List.mem_zipIdx hx
  simp only [Nat.zero_add, Nat.sub_zero] at h2 h3
  refine ⟨h2, ?_, rfl⟩
  show x.1 = fam.covers.getD x.2 0
  rw [List.getD_eq_getElem?_getD, List.getElem?_eq_getElem h2]
  exact h3
theorem ok_used (B : Bi mg) {cF : Addr} (FF : Fld K cF nsF) (F : Fun K "used" "Family.used" (sFam 5) f fd) : FnOk P w K mg base CX0 1 f fd ["self"] (spT (A_used cF)) := by
  refine def_ok F sc_used (fun ds kr ke h => ?_) fun X C S H σ ds kr ke0 hA ok er Dn hr hn => ?_
  · obtain ⟨fam, rfl, _⟩ := h
    rfl
  · obtain ⟨ke, fam, rfl, hsz, hln, hk⟩ := hA
    refine st_newM C 1 ok (Nat.le_of_ble_eq_true rfl) fun a H1 σ1 ok1 => ?_
    refine st_for C (f := fun x ss => (ss.set 2 (some (dNat x.2))).set 3 (some (dNat x.1))) (is := [2, 3]) ok1 Errs.none (gi_enumL C B.enumerate (g_at C FF 2 (g_var C 0))) (fun x _ ss1 _ => gg_tupT C (ggs_cons (gg_name C 2) (ggs_cons (gg_name C 3) ggs_nil)))
      (fun i ss1 o1 => ∃ x y, ss1 = [some (eFam cF fam), none, x, y] ∧ o1 = [(1, oM ((slim ((candsF fam).take i)).map encC))])
      ⟨none, none, rfl, rfl⟩ (fun i ss1 o1 ⟨x, y, h, h'⟩ => by subst h h'; exact ⟨rfl, rfl⟩) ?_ ?_
    · rintro B' eB _ i x hx ss1 o1 ⟨y1, y2, rfl, rfl⟩ H3 σ3 ok3
      have hc := cand_at hx
      obtain ⟨c, hcd⟩ : ∃ c : Cand, c = ⟨x.2, x.1, fam.sizes.getD x.2 0⟩ := ⟨_, rfl⟩
      rw [← hcd] at hc
      obtain ⟨k1, k2, k3⟩ := cand_is (List.mem_of_getElem? hc)
      have e1 : x.1 = c.mask := by rw [hcd]
      have e2 : x.2 = c.k := by rw [hcd]
      have hstep : slim ((candsF fam).take (i + 1)) = putCand (slim ((candsF fam).take i)) c := by
        rw [take_succ_of hc]
        unfold slim
        rw [List.foldl_append]
        rfl
      have nd := apart_slim ((candsF fam).take i)
      have hlen := slim_len ((candsF fam).take i)
      have hlen2 : ((candsF fam).take i).length ≤ 10000 := by
        rw [List.length_take, candsF, List.length_map, List.length_zipIdx]
        omega
      rw [e1, e2] at ok3
      have l2 : c.k < fam.sizes.length := by rw [hsz]; exact k1
      cases hf : (slim ((candsF fam).take i)).find? fun d => decide (d.mask = c.mask) with
      | none =>
        have hlook : lookD ((slim ((candsF fam).take i)).map encC) (.inl (c.mask : Int)) = none := by rw [look_cands, hf]; rfl
        refine se_if (t := true) ok3 (et_seen ok3 Errs.none oM_dM (t_or (p := true) (q := false) (tcast (t_dnin C (g_var C 3) (g_var C 1)) (by rw [hlook]; rfl)) (fun z => by cases z))) (fun _ H4 ok4 => ?_) (fun z => by cases z)
        refine st_putM C ok4 Errs.none (ev_ge ok4 Errs.none (g_var C 2)) (g_var C 3) (by rw [List.length_map]; omega) fun H5 ok5 => st_nil (st_nil ⟨_, _, ⟨some (dNat c.k), some (dNat c.mask), rfl, rfl⟩, ?_⟩)
        rw [putD_cands nd (.inl hf)] at ok5
        rw [hstep]
        exact ok5
      | some d =>
        have hlook : lookD ((slim ((candsF fam).take i)).map encC) (.inl (c.mask : Int)) = some (dNat d.k) := by rw [look_cands, hf]; rfl
        obtain ⟨j1, j2, j3⟩ := cand_is (List.mem_of_mem_take (slim_mem d (List.mem_of_find?_eq_some hf)))
        refine se_if (t := decide (c.bytes < d.bytes)) ok3 (et_seen ok3 Errs.none oM_dM (tcast (t_or (p := false) (q := decide (c.bytes < d.bytes)) (tcast (t_dnin C (g_var C 3) (g_var C 1)) (by rw [hlook]; rfl)) (fun _ => tcast (t_lt (g_ixL C (g_at C FF 3 (g_var C 0)) (g_var C 2) rfl (map_get (g := fun m => dNat m) (d := 0) l2)) (g_ixL C (g_at C FF 3 (g_var C 0)) (g_dget C (g_var C 1) (g_var C 3) hlook) rfl (map_get (g := fun m => dNat m) (d := 0) (by rw [hsz]; exact j1)))) ?_)) (Bool.false_or _))) (fun ht H4 ok4 => ?_) (fun ht H4 ok4 => ?_)
        · rw [k3, j3]
          simp
        · have ht := of_decide_eq_true ht
          refine st_putM C ok4 Errs.none (ev_ge ok4 Errs.none (g_var C 2)) (g_var C 3) (by rw [List.length_map]; omega) fun H5 ok5 => st_nil (st_nil ⟨_, _, ⟨some (dNat c.k), some (dNat c.mask), rfl, rfl⟩, ?_⟩)
          rw [putD_cands nd (.inr ⟨d, hf, ht⟩)] at ok5
          rw [hstep]
          exact ok5
        · have ht := of_decide_eq_false ht
          refine st_nil (st_nil ⟨_, _, ⟨some (dNat c.k), some (dNat c.mask), rfl, rfl⟩, ?_⟩)
          rw [hstep, put_hit nd hf, if_neg ht]
          exact ok4
    · rintro ss1 o1 ⟨y1, y2, rfl, rfl⟩ H3 σ3 ok3
      rw [List.length_zipIdx] at ok3
      have e : (candsF fam).take fam.covers.length = candsF fam := List.take_of_length_le (by rw [candsF, List.length_map, List.length_zipIdx]; exact Nat.le_refl _)
      rw [e] at ok3
      refine se_ret ok3 (ev_seen ok3 Errs.none oM_dM oM_is (g_listVals C B.list (g_var C 1)) (free_L (fun _ z => z) ?_)) fun v H' => hr _ v H' ?_
      · intro d hd
        rw [List.map_map] at hd
        obtain ⟨c, _, rfl⟩ := List.mem_map.mp hd
        exact free_V
      · unfold usedF at hk
        rw [List.map_map] at hk ⊢
        exact hk
end
end Lp
namespace Lp
open PySem PySem.Spec PyProof.Rows L2 Tr
open Vahypc (hasBit lowest Goal Choice better Cand slim putCand)
structure PreF (fam : Fam) : Prop where
  n9 : fam.goals.length ≤ 9
  pc : fam.pieces.length = fam.covers.length
  sz : fam.sizes.length = fam.covers.length
  le : fam.covers.length ≤ 10000
  lt : ∀ m ∈ fam.covers, m < 2 ^ fam.goals.length
theorem getD_mem {l : List Nat} {i : Nat} (h : i < l.length) : l.getD i 0 ∈ l := by
  rw [List.getD_eq_getElem?_getD, List.getElem?_eq_getElem h]
  exact List.getElem_mem h
theorem used_lt {fam : Fam} {i : Nat} (h : i ∈ usedF fam) : i < fam.covers.length := by
  unfold usedF at h
  obtain ⟨c, hc, rfl⟩ := List.mem_map.mp h
  exact (cand_is (slim_mem c hc)).1
/-! ### least_set -/
def kn (fam : Fam) (kind n : Nat) : Nat → List (Option Choice)
  | 0 => [some ⟨0, []⟩]
  | i + 1 => (usedF fam).foldl (stepB fam kind (lowest n (2 ^ n - 1 - (i + 1))) (2 ^ n - 1 - (i + 1)) (fun x => ((kn fam kind n i)[x - (2 ^ n - 1 - (i + 1)) - 1]?).bind id)) none :: kn fam kind n i
theorem kn_len (fam : Fam) (kind n : Nat) : ∀ i, (kn fam kind n i).length = i + 1
  | 0 => rfl
  | i + 1 => by
    unfold kn
    rw [List.length_cons, kn_len fam kind n i]
theorem step_small {fam : Fam} {kind g covered B : Nat} {lk : Nat → Option Choice} (hl : ∀ x c, lk x = some c → c.ks.length ≤ B) : ∀ (l : List Nat) (b : Option Choice), (∀ c, b = some c → c.ks.length ≤ B + 1) → ∀ c, l.foldl (stepB fam kind g covered lk) b = some c → c.ks.length ≤ B + 1
  | [], _, h, c, e => h c e
  | i :: r, b, h, c, e => by
    refine step_small hl r _ ?_ c e
    intro c' e'
    unfold stepB at e'
    split at e'
    · exact h c' e'
    · split at e'
      · exact h c' e'
      · rename_i x hx
        dsimp only at e'
        have hb := hl _ _ hx
        have hy : (⟨x.bytes + fam.sizes.getD i 0, i :: x.ks⟩ : Choice).ks.length ≤ B + 1 := by
          show x.ks.length + 1 ≤ B + 1
          omega
        split at e'
        · cases e'
          exact hy
        · split at e'
          · cases e'
            exact hy
          · exact h c' e'
theorem kn_small (fam : Fam) (kind n : Nat) : ∀ (i k : Nat) (c : Choice), (kn fam kind n i)[k]? = some (some c) → c.ks.length ≤ i
  | 0, k, c, h => by
    cases k with
    | zero => cases h; exact Nat.le_refl _
    | succ k => simp [kn] at h
  | i + 1, 0, c, h => by
    have h : (usedF fam).foldl (stepB fam kind (lowest n (2 ^ n - 1 - (i + 1))) (2 ^ n - 1 - (i + 1)) (fun x => ((kn fam kind n i)[x - (2 ^ n - 1 - (i + 1)) - 1]?).bind id)) none = some c := Option.some.inj h
    refine step_small (B := i) (fun x c' hx => ?_) _ _ (fun c' e => by cases e) c h
    cases e : (kn fam kind n i)[x - (2 ^ n - 1 - (i + 1)) - 1]? with
    | none => rw [e] at hx; cases hx
    | some o =>
      rw [e] at hx
      have hx : o = some c' := hx
      subst hx
      exact kn_small fam kind n i _ c' e
  | i + 1, k + 1, c, h => Nat.le_succ_of_le (kn_small fam kind n i k c (by simpa [kn] using h))
/-- what the dict holds behind i turns -/
structure Tab (fam : Fam) (kind n i : Nat) (kvs : List (Key × D)) : Prop where
  len : kvs.length = i + 1
  hi : ∀ x : Nat, x < 2 ^ n → 2 ^ n - 1 - i ≤ x → lookD kvs (.inl (x : Int)) = some (eCh (((kn fam kind n i)[x - (2 ^ n - 1 - i)]?).bind id))
  lo : ∀ x : Nat, x < 2 ^ n - 1 - i → lookD kvs (.inl (x : Int)) = none
theorem look_snoc {kvs : List (Key × D)} {k k' : Key} {d : D} (h : lookD kvs k = none) : lookD (kvs ++ [(k, d)]) k' = if k' = k then some d else lookD kvs k' := by
  unfold lookD at h ⊢
  rw [List.find?_append]
  by_cases e : k' = k
  · subst e
    rw [if_pos rfl]
    cases hf : kvs.find? (fun kv => decide (kv.1 = k')) with
    | none => simp
    | some x => rw [hf] at h; cases h
  · rw [if_neg e]
    cases hf : kvs.find? (fun kv => decide (kv.1 = k')) with
    | none => simp [Ne.symm e]
    | some x => simp
theorem Tab.start (fam : Fam) (kind n : Nat) : Tab fam kind n 0 [(.inl ((2 ^ n - 1 : Nat) : Int), eCh (some ⟨0, []⟩))] := by
  refine ⟨rfl, fun x h1 h2 => ?_, fun x h => ?_⟩
  · have e : x = 2 ^ n - 1 := by omega
    subst e
    simp [lookD, kn]
  · have e : ((Sum.inl ((2 ^ n - 1 : Nat) : Int) : Key) = Sum.inl (x : Int)) = False := by
      apply eq_false
      intro q
      have := Sum.inl.inj q
      omega
    simp [lookD, e]
theorem Tab.next {fam : Fam} {kind n i : Nat} {kvs : List (Key × D)} (T : Tab fam kind n i kvs) (hi : i + 1 ≤ 2 ^ n - 1) :
    Tab fam kind n (i + 1) (putD kvs (.inl ((2 ^ n - 1 - (i + 1) : Nat) : Int)) (eCh ((usedF fam).foldl (stepB fam kind (lowest n (2 ^ n - 1 - (i + 1))) (2 ^ n - 1 - (i + 1)) (fun x => ((kn fam kind n i)[x - (2 ^ n - 1 - (i + 1)) - 1]?).bind id)) none))) := by
  have hn := T.lo (2 ^ n - 1 - (i + 1)) (by omega)
  have e : putD kvs (.inl ((2 ^ n - 1 - (i + 1) : Nat) : Int)) (eCh ((usedF fam).foldl (stepB fam kind (lowest n (2 ^ n - 1 - (i + 1))) (2 ^ n - 1 - (i + 1)) (fun x => ((kn fam kind n i)[x - (2 ^ n - 1 - (i + 1)) - 1]?).bind id)) none)) = kvs ++ [(.inl ((2 ^ n - 1 - (i + 1) : Nat) : Int), eCh ((usedF fam).foldl (stepB fam kind (lowest n (2 ^ n - 1 - (i + 1))) (2 ^ n - 1 - (i + 1)) (fun x => ((kn fam kind n i)[x - (2 ^ n - 1 - (i + 1)) - 1]?).bind id)) none))] := by
    unfold putD
    rw [hn]
    rfl
  rw [e]
  refine ⟨by rw [List.length_append, T.len]; rfl, fun x h1 h2 => ?_, fun x h => ?_⟩
  · rw [look_snoc hn]
    by_cases q : x = 2 ^ n - 1 - (i + 1)
    · rw [if_pos (by rw [q]), q, Nat.sub_self]
      rfl
    · rw [if_neg fun z => q (by have := Sum.inl.inj z; omega), T.hi x h1 (by omega)]
      have e2 : x - (2 ^ n - 1 - (i + 1)) = (x - (2 ^ n - 1 - i)) + 1 := by omega
      rw [e2]
      rfl
  · rw [look_snoc hn, if_neg fun z => by have := Sum.inl.inj z; omega]
    exact T.lo x (by omega)
theorem or_gt {a b g : Nat} (h1 : hasBit a g = false) (h2 : hasBit b g = true) : a < a ||| b := by
  have h : a ≤ a ||| b := Nat.left_le_or
  rcases Nat.lt_or_ge a (a ||| b) with q | q
  · exact q
  · have e : a ||| b = a := by omega
    have := hasBit_or a b g
    rw [e, h1, h2] at this
    cases this
section
variable {P : Program} {w : World} {K : PySem.W.Frag} {mg : Str → Option Value} {base : Heap} {f : Addr} {fd : FuncData}
theorem free_eCh {b : Option Choice} : Free isDK (eCh b) := by
  cases b with
  | none => exact free_V
  | some c =>
    refine free_T (fun _ z => z) fun d hd => ?_
    rcases List.mem_cons.mp hd with e | hd
    · subst e
      refine free_L (fun _ z => z) fun d hd => ?_
      obtain ⟨i, _, rfl⟩ := List.mem_map.mp hd
      exact free_V
    · rw [List.mem_singleton.mp hd]
      exact free_V
abbrev s_least_set : Stmt := top 4
theorem sc_least_set : FnScope ["family", "kind", "used", "later", "covered"] ["family", "kind"] (defScope s_least_set) := ⟨rfl, rfl, rfl, by decide +kernel, rfl, by decide +kernel, by decide +kernel⟩
def A_least_set (cF : Addr) : Pr := fun ds kr _ => ∃ (fam : Fam) (kind : Nat) (c : Choice), ds = [eFam cF fam, dNat kind] ∧ PreF fam ∧ (kn fam kind fam.goals.length (2 ^ fam.goals.length - 1))[0]? = some (some c) ∧ kr (dL (c.ks.map fun i => dNat i))
theorem ok_least_set (B : Bi mg) {cF : Addr} (FF : Fld K cF nsF) (hU : HasM P w K mg base CX0 1 cF "used" (A_used cF)) (hE : HasM P w K mg base CX0 1 cF "every" (A_every cF)) (hB : Has P w K mg base CX0 2 "best_from" (A_best_from cF)) (F : Fun K "least_set" "least_set" s_least_set f fd) :
    FnOk P w K mg base CX0 3 f fd ["family", "kind"] (spT (A_least_set cF)) := by
  refine def_ok F sc_least_set (fun ds kr ke h => ?_) fun X C S H σ ds kr ke0 hA ok er Dn hr hn => ?_
  · obtain ⟨fam, kind, c, rfl, _⟩ := h
    rfl
  · obtain ⟨ke, fam, kind, c, rfl, Pr, hc, hk⟩ := hA
    obtain ⟨n, hn'⟩ : ∃ n, n = fam.goals.length := ⟨_, rfl⟩
    have h9 := Pr.n9
    rw [← hn'] at hc h9
    have h2n : 2 ^ n ≤ 512 := Nat.le_trans (Nat.pow_le_pow_right (by decide) h9) (by decide)
    have h1n : 1 ≤ 2 ^ n := Nat.one_le_two_pow
    refine st_set C 2 ok Errs.none (g_meth0 C hU (g_var C 0) ⟨fam, rfl, Pr.sz, Pr.le, rfl⟩) fun H1 σ1 ok1 => ?_
    refine st_newM1 C 3 ok1 Errs.none (g_meth0 C hE (g_var C 0) ⟨fam, rfl, by omega, rfl⟩) (g_tup (a_cons (g_list a_nil) (a_cons g_int a_nil))) (Nat.le_of_ble_eq_true rfl) fun a H2 σ2 ok2 => ?_
    rw [← hn'] at ok2
    refine st_for C (l := (List.range (2 ^ n - 1)).map fun j => 2 ^ n - 1 - 1 - j) (enc := fun m => dNat m) (f := fun m ss => ss.set 4 (some (dNat m))) (is := [4]) ok2 Errs.none ?_ (fun x _ ss1 _ => gg_name C 4)
      (fun i ss1 o1 => ∃ x kvs, ss1 = [some (eFam cF fam), some (dNat kind), some (dL ((usedF fam).map fun i => dNat i)), none, x] ∧ o1 = [(3, oM kvs)] ∧ Tab fam kind n i kvs)
      ⟨none, _, rfl, rfl, Tab.start fam kind n⟩ (fun i ss1 o1 ⟨x, kvs, h, h', _⟩ => by subst h h'; exact ⟨rfl, rfl⟩) ?_ ?_
    · rw [List.map_map]
      refine gi_revRange C B.reversed B.range (gcast (g_meth0 C hE (g_var C 0) ⟨fam, rfl, by omega, rfl⟩) (by rw [hn'])) (by omega)
    · rintro B' eB _ i m hm ss1 o1 ⟨x, kvs, rfl, rfl, T⟩ H3 σ3 ok3
      rw [List.getElem?_map] at hm
      have hi : i < 2 ^ n - 1 := by
        rcases Nat.lt_or_ge i (2 ^ n - 1) with q | q
        · exact q
        · rw [List.getElem?_eq_none (by rw [List.length_range]; exact q)] at hm
          cases hm
      rw [List.getElem?_range hi] at hm
      have hm : 2 ^ n - 1 - 1 - i = m := Option.some.inj hm
      have em : m = 2 ^ n - 1 - (i + 1) := by omega
      have hlt : m < 2 ^ n - 1 := by omega
      obtain ⟨l1, l2⟩ := lowest_lt hlt
      have kl := T.len
      refine st_putM C ok3 Errs.none (ev_seen ok3 Errs.none oM_dM oM_is (g_call C hB (a_cons (g_var C 0) (a_cons (g_var C 2) (a_cons (g_var C 1) (a_cons (g_var C 4) (a_cons (g_var C 3) a_nil)))))
        ⟨fam, usedF fam, kind, n, m, kvs, fun x => ((kn fam kind n i)[x - m - 1]?).bind id, rfl, ⟨by omega, fun j hj => ⟨used_lt hj, by rw [Pr.sz]; exact used_lt hj⟩, fun j hj hb => ?_, fun x c' hx => ?_⟩, rfl⟩) free_eCh) (g_var C 4) (by omega) fun H4 ok4 => st_nil ⟨_, _, ⟨some (dNat m), _, rfl, rfl, ?_⟩, ok4⟩
      · have h1 := or_gt l2 hb
        have h2 : m ||| fam.covers.getD j 0 < 2 ^ n := or_lt (by omega) (by rw [hn']; exact Pr.lt _ (getD_mem (used_lt hj)))
        rw [T.hi _ h2 (by omega)]
        have e : 2 ^ n - 1 - i = m + 1 := by omega
        rw [e, Nat.sub_sub]
      · cases e : (kn fam kind n i)[x - m - 1]? with
        | none => rw [e] at hx; cases hx
        | some o =>
          rw [e] at hx
          have hx : o = some c' := hx
          subst hx
          have := kn_small fam kind n i _ c' e
          omega
      · subst em
        exact T.next (by omega)
    · rintro ss1 o1 ⟨x, kvs, rfl, rfl, T⟩ H3 σ3 ok3
      rw [List.length_map, List.length_range] at T
      have hl := T.hi 0 (by omega) (by omega)
      rw [Nat.sub_self, Nat.sub_zero, hc] at hl
      refine se_ret ok3 (ev_seen ok3 Errs.none oM_dM oM_is (g_ixT C (g_dget C (g_var C 3) g_int hl) g_int (n := 0) rfl rfl) (free_L (fun _ z => z) fun d hd => ?_)) fun v H' => hr _ v H' hk
      obtain ⟨i, _, rfl⟩ := List.mem_map.mp hd
      exact free_V
end
end Lp
namespace Lp
open PySem PySem.Spec PyProof.Rows L2 Tr
open Vahypc (hasBit lowest Goal Choice better Cand slim putCand gain)
/-! ### greedy -/
def eNatO : Option Nat → D
  | none => dN
  | some i => dNat i
def stepG (n c : Nat) (b : Option Nat × Nat) (x : Nat × Nat) : Option Nat × Nat := if b.2 < gain n c x.1 then (some x.2, gain n c x.1) else b
def greedF (fam : Fam) (c : Nat) : Option Nat × Nat := fam.covers.zipIdx.foldl (stepG fam.goals.length c) (none, 0)
theorem hasBit_rest {n c k : Nat} (h : c < 2 ^ n) : hasBit (2 ^ n - 1 - c) k = (decide (k < n) && !hasBit c k) := by
  rw [hasBit_eq, hasBit_eq, show 2 ^ n - 1 - c = 2 ^ n - (c + 1) by omega, Nat.testBit_two_pow_sub_succ h]
theorem gain_bits {n c m : Nat} (h : c < 2 ^ n) : (bitsOf n (m &&& (2 ^ n - 1 - c))).length = gain n c m := by
  unfold gain bitsOf
  congr 1
  refine List.filter_congr fun k hk => ?_
  rw [hasBit_and, hasBit_rest h, decide_eq_true (List.mem_range.mp hk), Bool.true_and]
theorem greed_lt {n c : Nat} : ∀ (l : List (Nat × Nat)) (b : Option Nat × Nat) (i : Nat), (l.foldl (stepG n c) b).1 = some i → (b.1 = some i ∨ ∃ x ∈ l, x.2 = i)
  | [], b, i, h => .inl h
  | x :: l, b, i, h => by
    rcases greed_lt l _ i h with q | ⟨y, hy, e⟩
    · unfold stepG at q
      split at q
      · exact .inr ⟨x, List.mem_cons_self, Option.some.inj q⟩
      · exact .inl q
    · exact .inr ⟨y, List.mem_cons_of_mem _ hy, e⟩
/-- the best gains so much -/
theorem greed_is {n c : Nat} : ∀ (l : List (Nat × Nat)) (b : Option Nat × Nat), (l.foldl (stepG n c) b) = b ∨ ∃ x ∈ l, l.foldl (stepG n c) b = (some x.2, gain n c x.1) ∧ b.2 < gain n c x.1
  | [], b => .inl rfl
  | x :: l, b => by
    rcases greed_is l (stepG n c b x) with q | ⟨y, hy, e, hlt⟩
    · rw [List.foldl_cons, q]
      unfold stepG
      split
      · exact .inr ⟨x, List.mem_cons_self, rfl, by assumption⟩
      · exact .inl rfl
    · refine .inr ⟨y, List.mem_cons_of_mem _ hy, e, ?_⟩
      unfold stepG at hlt
      split at hlt
      · exact Nat.lt_trans (by assumption) hlt
      · exact hlt
theorem greedF_is (fam : Fam) (c : Nat) : greedF fam c = (none, 0) ∨ ∃ i, i < fam.covers.length ∧ greedF fam c = (some i, gain fam.goals.length c (fam.covers.getD i 0)) ∧ 0 < gain fam.goals.length c (fam.covers.getD i 0) := by
  rcases greed_is (n := fam.goals.length) (c := c) fam.covers.zipIdx (none, 0) with q | ⟨x, hx, e, hlt⟩
  · exact .inl q
  · obtain ⟨h1, h2, h3⟩ := List.mem_zipIdx hx
    simp only [Nat.zero_add, Nat.sub_zero] at h2 h3
    have e1 : x.1 = fam.covers.getD x.2 0 := by
      rw [List.getD_eq_getElem?_getD, List.getElem?_eq_getElem h2]
      exact h3
    rw [e1] at e hlt
    exact .inr ⟨x.2, h2, e, hlt⟩
/-- goals that m lacks -/
def lack (n m : Nat) : Nat := ((List.range n).filter fun k => !hasBit m k).length
theorem filter_le {α : Type} {p q : α → Bool} : ∀ {l : List α}, (∀ a ∈ l, p a = true → q a = true) → (l.filter p).length ≤ (l.filter q).length
  | [], _ => Nat.le_refl _
  | a :: l, h => by
    have ih := filter_le (l := l) fun b hb => h b (List.mem_cons_of_mem _ hb)
    rw [List.filter_cons, List.filter_cons]
    by_cases hp : p a = true
    · rw [if_pos hp, if_pos (h a List.mem_cons_self hp)]
      simp only [List.length_cons]
      omega
    · rw [if_neg hp]
      split
      · simp only [List.length_cons]; omega
      · exact ih
theorem filter_lt {α : Type} {p q : α → Bool} : ∀ {l : List α}, (∀ a ∈ l, p a = true → q a = true) → (∃ a ∈ l, p a = false ∧ q a = true) → (l.filter p).length < (l.filter q).length
  | [], _, ⟨_, h, _⟩ => by cases h
  | a :: l, h, ⟨b, hb, h1, h2⟩ => by
    have le := filter_le (l := l) fun b hb => h b (List.mem_cons_of_mem _ hb)
    rw [List.filter_cons, List.filter_cons]
    rcases List.mem_cons.mp hb with e | hb
    · subst e
      rw [if_neg (by rw [h1]; exact Bool.false_ne_true), if_pos h2]
      simp only [List.length_cons]
      omega
    · have ih := filter_lt (l := l) (fun b hb => h b (List.mem_cons_of_mem _ hb)) ⟨b, hb, h1, h2⟩
      by_cases hp : p a = true
      · rw [if_pos hp, if_pos (h a List.mem_cons_self hp)]
        simp only [List.length_cons]
        omega
      · rw [if_neg hp]
        split
        · simp only [List.length_cons]; omega
        · exact ih
theorem lack_gain {n c m : Nat} (h : 0 < gain n c m) : lack n (c ||| m) < lack n c := by
  unfold gain at h
  obtain ⟨k, hk⟩ := List.exists_mem_of_length_pos h
  obtain ⟨h1, h2⟩ := List.mem_filter.mp hk
  rw [Bool.and_eq_true] at h2
  unfold lack
  refine filter_lt (fun a _ ha => ?_) ⟨k, h1, ?_, h2.2⟩
  · rw [hasBit_or] at ha
    cases q : hasBit c a with
    | false => rfl
    | true => rw [q] at ha; cases ha
  · rw [hasBit_or, h2.1, Bool.or_true]
    rfl
theorem lack_le (n c : Nat) : lack n c ≤ n := by
  unfold lack
  refine Nat.le_trans (List.length_filter_le _ _) ?_
  rw [List.length_range]
  exact Nat.le_refl _
/-- greedily, so many turns at most -/
def gSet (fam : Fam) : Nat → List Nat → List Nat
  | 0, l => l
  | f + 1, l => match greedF fam (orOf fam.covers l) with
    | (some i, many) => if 0 < many then gSet fam f (l ++ [i]) else l
    | (none, _) => l
theorem orOf_lt {cs : List Nat} {n : Nat} (h : ∀ m ∈ cs, m < 2 ^ n) : ∀ {l : List Nat}, (∀ i ∈ l, i < cs.length) → orOf cs l < 2 ^ n := by
  intro l hl
  unfold orOf
  have go : ∀ (l : List Nat) (m : Nat), m < 2 ^ n → (∀ i ∈ l, i < cs.length) → l.foldl (fun m i => m ||| cs.getD i 0) m < 2 ^ n := by
    intro l
    induction l with
    | nil => intro m h _; exact h
    | cons i l ih =>
      intro m hm hl
      exact ih _ (or_lt hm (h _ (getD_mem (hl i List.mem_cons_self)))) fun j hj => hl j (List.mem_cons_of_mem _ hj)
  exact go l 0 (Nat.two_pow_pos n) hl
theorem orOf_snoc (cs l : List Nat) (i : Nat) : orOf cs (l ++ [i]) = orOf cs l ||| cs.getD i 0 := by
  unfold orOf
  rw [List.foldl_append]
  rfl
theorem swap2 {env : Env} {x y : Str} {px py pt pt2 : Pos} {kt k2 : Nat} {a b : Expr} (h1 : env.scope.kind = .function) (h2 : env.scope.names.lookup x = some .local) (h3 : env.scope.names.lookup y = some .local) (hne : x ≠ y) (hl : (Expr.Name x px).pos.line = (Expr.Name y py).pos.line)
    (hv : (([a, b].any fun | .Starred .. => true | _ => false) || ([a, b].all (foldedForSure 8) || [a, b].all (constantsAlone 8))) = false) :
    swappedStores [.Tuple [.Name x px, .Name y py] kt pt] (.Tuple [a, b] k2 pt2) env = pure (some [x, y]) := by
  rw [Bool.or_eq_false_iff, Bool.or_eq_false_iff] at hv
  obtain ⟨v1, v2, v3⟩ := hv
  have hbk : env.blockKind = .function := by
    unfold Env.blockKind
    rw [h1]
    rfl
  have hn : ([Expr.Name x px, Expr.Name y py].filterMap fun
    | .Name id pos => if env.kindOf id == some .local && pos.line == (Expr.Name x px).pos.line then some id else none
    | _ => none) = [x, y] := by
    have e1 : (env.kindOf x == some .local && px.line == (Expr.Name x px).pos.line) = true := by
      unfold Env.kindOf
      rw [h2]
      simp [Expr.pos]
    have e2 : (env.kindOf y == some .local && py.line == (Expr.Name x px).pos.line) = true := by
      unfold Env.kindOf
      rw [h3, hl]
      simp [Expr.pos]
    simp only [List.filterMap_cons, List.filterMap_nil, e1, e2, if_true]
  unfold swappedStores
  dsimp only
  rw [hbk]
  show (if [a, b].any _ = true then _ else _) = _
  refine (if_neg fun z => by have := v1.symm.trans z; cases this).trans ?_
  show (if (([Expr.Name x px, Expr.Name y py].filterMap _).length != 2 || _) = true then _ else _) = _
  have ed : [x, y].eraseDups = [x, y] := by
    have : (y == x) = false := beq_eq_false_iff_ne.mpr (Ne.symm hne)
    simp [List.eraseDups_cons, this]
  erw [hn]
  rw [ed, if_neg (by simp)]
  rw [if_neg (by rw [v2]; exact Bool.false_ne_true), if_neg (by rw [v3]; exact Bool.false_ne_true)]
section
variable {P : Program} {w : World} {K : PySem.W.Frag} {mg : Str → Option Value} {base : Heap} {f : Addr} {fd : FuncData}
abbrev s_greediest : Stmt := top 6
theorem sc_greediest : FnScope ["family", "covered", "found", "most", "i", "own", "many"] ["family", "covered"] (defScope s_greediest) := ⟨rfl, rfl, rfl, by decide +kernel, rfl, by decide +kernel, by decide +kernel⟩
def A_greediest (cF : Addr) : Pr := fun ds kr _ => ∃ (fam : Fam) (c : Nat), ds = [eFam cF fam, dNat c] ∧ fam.goals.length ≤ 60 ∧ (∀ m ∈ fam.covers, m < 2 ^ fam.goals.length) ∧ c < 2 ^ fam.goals.length ∧ kr (dT [eNatO (greedF fam c).1, dNat (greedF fam c).2])
theorem ok_greediest (B : Bi mg) {cF : Addr} (FF : Fld K cF nsF) (hM : Has P w K mg base CX0 1 "many_bits" A_many_bits) (hE : HasM P w K mg base CX0 1 cF "every" (A_every cF)) (F : Fun K "greediest" "greediest" s_greediest f fd) :
    FnOk P w K mg base CX0 2 f fd ["family", "covered"] (spT (A_greediest cF)) := by
  refine def_ok F sc_greediest (fun ds kr ke h => ?_) fun X C S H σ ds kr ke0 hA ok er Dn hr hn => ?_
  · obtain ⟨fam, c, rfl, _⟩ := h
    rfl
  · obtain ⟨ke, fam, c, rfl, h60, hlt, hc, hk⟩ := hA
    obtain ⟨n, hn'⟩ : ∃ n, n = fam.goals.length := ⟨_, rfl⟩
    have eF : greedF fam c = fam.covers.zipIdx.foldl (stepG n c) (none, 0) := by rw [hn']; rfl
    rw [eF] at hk
    rw [← hn'] at h60 hlt hc
    refine st_set C 2 ok Errs.none g_non fun H1 σ1 ok1 => ?_
    refine st_set C 3 (d := dNat 0) ok1 Errs.none g_int fun H2 σ2 ok2 => ?_
    refine st_for C (f := fun x ss => (ss.set 4 (some (dNat x.2))).set 5 (some (dNat x.1))) (is := [4, 5]) ok2 Errs.none (gi_enumL C B.enumerate (g_at C FF 2 (g_var C 0))) (fun x _ ss1 _ => gg_tupT C (ggs_cons (gg_name C 4) (ggs_cons (gg_name C 5) ggs_nil)))
      (fun i ss1 o1 => ∃ x y z, ss1 = [some (eFam cF fam), some (dNat c), some (eNatO ((fam.covers.zipIdx.take i).foldl (stepG n c) (none, 0)).1), some (dNat ((fam.covers.zipIdx.take i).foldl (stepG n c) (none, 0)).2), x, y, z] ∧ o1 = [])
      ⟨none, none, none, rfl, rfl⟩ (fun i ss1 o1 ⟨x, y, z, h, h'⟩ => by subst h h'; exact ⟨rfl, rfl⟩) ?_ ?_
    · rintro B' eB _ i a ha ss1 o1 ⟨x, y, z, rfl, rfl⟩ H3 σ3 ok3
      obtain ⟨b, hb⟩ : ∃ b, b = (fam.covers.zipIdx.take i).foldl (stepG n c) (none, 0) := ⟨_, rfl⟩
      rw [take_succ_of ha, List.foldl_append, ← hb]
      rw [← hb] at ok3
      have ha1 : a.1 < 2 ^ n := hlt _ (by
        obtain ⟨h1, h2, h3⟩ := List.mem_zipIdx (List.mem_of_getElem? ha)
        rw [h3]
        exact List.getElem_mem _)
      have hE' : ∀ {ss : List (Option D)} {a : Expr} {p1 p2 pos : Pos}, Ge X E0 (fun _ => False) ss a (eFam cF fam) → (∀ env, attributeBase a "every" env (eval a env) = eval a env) → True := fun _ _ => trivial
      refine st_set C 6 (d := dNat (gain n c a.1)) ok3 Errs.none (g_call C hM (a_cons (g_andN (g_var C 5) (gcast (g_sub (g_meth0 C hE (g_var C 0) ⟨fam, rfl, by omega, rfl⟩) (g_var C 1)) (d' := dNat (2 ^ n - 1 - c)) ?_)) a_nil) ⟨a.1 &&& (2 ^ n - 1 - c), n, rfl, and_lt ha1, h60, ?_⟩) fun H4 σ4 ok4 => ?_
      · rw [← hn']
        show dI _ = dI _
        congr 1
        omega
      · rw [gain_bits hc]
      · refine st_if ok4 Errs.none (t_gt (g_var C 6) (g_var C 3)) (fun ht H5 ok5 => ?_) (fun ht H5 ok5 => ?_)
        · have ht := of_decide_eq_true ht
          refine st_par C 2 3 ok5 Errs.none (g_var C 4) (g_var C 6) (fun H6 σ6 ok6 => st_nil (st_nil ⟨_, _, ⟨some (dNat a.2), some (dNat a.1), some (dNat (gain n c a.1)), rfl, rfl⟩, ?_⟩)) (hw := ?_)
          · have e : [a].foldl (stepG n c) b = (some a.2, gain n c a.1) := if_pos (by omega)
            rw [e]
            exact ok6
          · intro env h1 h2 h3
            exact swap2 h1 h2 h3 (by decide) rfl rfl
        · have ht := of_decide_eq_false ht
          refine st_nil (st_nil ⟨_, _, ⟨some (dNat a.2), some (dNat a.1), some (dNat (gain n c a.1)), rfl, rfl⟩, ?_⟩)
          have e : [a].foldl (stepG n c) b = b := if_neg (by omega)
          rw [e]
          exact ok5
    · rintro ss1 o1 ⟨x, y, z, rfl, rfl⟩ H3 σ3 ok3
      rw [List.take_length] at ok3
      exact st_ret ok3 (Errs.none (E := E0)) (g_tup (a_cons (g_var C 2) (a_cons (g_var C 3) a_nil))) fun v H' => hr _ v H' hk
abbrev s_greedy_set : Stmt := top 7
theorem sc_greedy_set : FnScope ["family", "found", "i", "many"] ["family"] (defScope s_greedy_set) := ⟨rfl, rfl, rfl, by decide +kernel, rfl, by decide +kernel, by decide +kernel⟩
def A_greedy_set (cF : Addr) : Pr := fun ds kr _ => ∃ (fam : Fam), ds = [eFam cF fam] ∧ fam.goals.length ≤ 60 ∧ (∀ m ∈ fam.covers, m < 2 ^ fam.goals.length) ∧ kr (dL ((gSet fam (fam.goals.length + 1) []).map fun i => dNat i))
theorem free_nat (o : Option Nat) (m : Nat) : Free isLst (dT [eNatO o, dNat m]) := by
  refine free_T (fun _ z => z) fun d hd => ?_
  rcases List.mem_cons.mp hd with e | hd
  · subst e
    cases o <;> exact free_V
  · rw [List.mem_singleton.mp hd]
    exact free_V
structure InvG (fam : Fam) (l : List Nat) : Prop where
  ix : ∀ i ∈ l, i < fam.covers.length
  few : l.length + lack fam.goals.length (orOf fam.covers l) ≤ fam.goals.length
  same : ∃ f, lack fam.goals.length (orOf fam.covers l) < f ∧ gSet fam (fam.goals.length + 1) [] = gSet fam f l
theorem InvG.start (fam : Fam) : InvG fam [] := by
  refine ⟨fun i h => (by cases h), ?_, ?_⟩
  · rw [List.length_nil, Nat.zero_add]
    exact lack_le _ _
  · exact ⟨_, Nat.lt_succ_of_le (lack_le _ _), rfl⟩
theorem InvG.next {fam : Fam} {l : List Nat} {i : Nat} (I : InvG fam l) (hi : i < fam.covers.length) (e : greedF fam (orOf fam.covers l) = (some i, gain fam.goals.length (orOf fam.covers l) (fam.covers.getD i 0))) (hp : 0 < gain fam.goals.length (orOf fam.covers l) (fam.covers.getD i 0)) :
    InvG fam (l ++ [i]) ∧ lack fam.goals.length (orOf fam.covers (l ++ [i])) < lack fam.goals.length (orOf fam.covers l) := by
  have hl : lack fam.goals.length (orOf fam.covers (l ++ [i])) < lack fam.goals.length (orOf fam.covers l) := by
    rw [orOf_snoc]
    exact lack_gain hp
  refine ⟨⟨fun j hj => ?_, ?_, ?_⟩, hl⟩
  · rcases List.mem_append.mp hj with h | h
    · exact I.ix j h
    · rw [List.mem_singleton.mp h]
      exact hi
  · have := I.few
    rw [List.length_append]
    simp only [List.length_cons, List.length_nil]
    omega
  · obtain ⟨f, h1, h2⟩ := I.same
    cases f with
    | zero => exact absurd h1 (Nat.not_lt_zero _)
    | succ f =>
      refine ⟨f, by omega, h2.trans ?_⟩
      show (match greedF fam (orOf fam.covers l) with
        | (some i, many) => if 0 < many then gSet fam f (l ++ [i]) else l
        | (none, _) => l) = _
      rw [e]
      exact if_pos hp
theorem InvG.last {fam : Fam} {l : List Nat} (I : InvG fam l) (e : (greedF fam (orOf fam.covers l)).2 = 0) : gSet fam (fam.goals.length + 1) [] = l := by
  obtain ⟨f, h1, h2⟩ := I.same
  cases f with
  | zero => exact absurd h1 (Nat.not_lt_zero _)
  | succ f =>
    refine h2.trans ?_
    show (match greedF fam (orOf fam.covers l) with
      | (some i, many) => if 0 < many then gSet fam f (l ++ [i]) else l
      | (none, _) => l) = _
    generalize greedF fam (orOf fam.covers l) = z at e ⊢
    obtain ⟨o, m⟩ := z
    have e : m = 0 := e
    subst e
    cases o <;> rfl
theorem ok_greedy_set {cF : Addr} (hG : Has P w K mg base CX0 2 "greediest" (A_greediest cF)) (hT : HasM P w K mg base CX0 1 cF "together" (A_together cF)) (F : Fun K "greedy_set" "greedy_set" s_greedy_set f fd) :
    FnOk P w K mg base CX0 3 f fd ["family"] (spT (A_greedy_set cF)) := by
  refine def_ok F sc_greedy_set (fun ds kr ke h => ?_) fun X C S H σ ds kr ke0 hA ok er Dn hr hn => ?_
  · obtain ⟨fam, rfl, _⟩ := h
    rfl
  · obtain ⟨ke, fam, rfl, h60, hlt, hk⟩ := hA
    refine st_newL C 1 ok (Nat.le_of_ble_eq_true rfl) fun p H1 σ1 ok1 => ?_
    refine st_asg ok1 Errs.none (g_call C hG (a_cons (g_var C 0) (a_cons (g_int (i := 0)) a_nil)) ⟨fam, 0, rfl, h60, hlt, Nat.two_pow_pos _, rfl⟩) (is := [2, 3]) (gg_tupT C (ggs_cons (gg_name C 2) (ggs_cons (gg_name C 3) ggs_nil))) rfl fun H2 σ2 ok2 => ?_
    refine st_while C (fun l : List Nat => [some (eFam cF fam), none, some (eNatO (greedF fam (orOf fam.covers l)).1), some (dNat (greedF fam (orOf fam.covers l)).2)]) (fun l => [(1, oL (l.map fun i => dNat i))]) (InvG fam)
      (fun l => lack fam.goals.length (orOf fam.covers l)) (fun l => decide ((0 : Int) < ((greedF fam (orOf fam.covers l)).2 : Int))) [] ok2 Errs.none (InvG.start fam) ?_ ?_ ?_
    · intro l _
      exact t_gt (g_var C 3) g_int
    · intro l I ht H3 σ3 ok3
      have ht := of_decide_eq_true ht
      rcases greedF_is fam (orOf fam.covers l) with e | ⟨i, hi, e, hp⟩
      · rw [e] at ht
        exact absurd ht (by decide)
      · obtain ⟨I', hlt'⟩ := I.next hi e hp
        have few := I.few
        rw [e] at ok3
        refine st_app C ok3 (ev_ge ok3 Errs.none (g_var C 2)) (by rw [List.length_map]; omega) fun H4 ok4 => ?_
        have em : (l.map fun i => dNat i) ++ [dNat i] = (l ++ [i]).map fun i => dNat i := by rw [List.map_append]; rfl
        replace ok4 := okf_cast (o' := [(1, oL ((l ++ [i]).map fun i => dNat i))]) ok4 (by rw [← em]; rfl)
        refine se_asg ok4 (ev_seen ok4 Errs.none oL_dL oL_is (g_call C hG (a_cons (g_var C 0) (a_cons (g_meth C hT (g_var C 0) (a_cons (g_var C 1) a_nil) ⟨fam, l ++ [i], rfl, I'.ix, rfl⟩) a_nil)) ⟨fam, orOf fam.covers (l ++ [i]), rfl, h60, hlt, orOf_lt hlt I'.ix, rfl⟩) (free_nat _ _)) (is := [2, 3]) (gg_tupT C (ggs_cons (gg_name C 2) (ggs_cons (gg_name C 3) ggs_nil))) (fun H5 σ5 ok5 => st_nil ?_) rfl
        exact ⟨l ++ [i], hlt', I', ok5⟩
    · intro l I ht H3 σ3 ok3
      have ht := of_decide_eq_false ht
      have e0 : (greedF fam (orOf fam.covers l)).2 = 0 := by omega
      have e := I.last e0
      rw [e] at hk
      exact st_retL C 1 ok3 fun v H' => hr _ v H' hk
end
end Lp
namespace Lp
open PySem PySem.Spec PyProof.Rows L2 Tr
open Vahypc (hasBit lowest Goal Choice better Cand slim putCand gain)
def apF (n : Nat) (cs : List Nat) (m : Nat) : Bool := cs.all fun c => decide ((bitsOf n (c &&& m)).length < 2)
abbrev Kq := (Int × List Int) × Int
def keyOf (n m : Nat) : Kq := ((-((bitsOf n m).length : Int), (List.range n).map fun k => ((m / 2 ^ k % 2 : Nat) : Int)), (m : Int))
abbrev eKey (p : Int × List Int) : D := dT [dI p.1, dL (p.2.map fun i => dI i)]
abbrev eKq (p : Kq) : D := dT [eKey p.1, dI p.2]
theorem pd_key (p : Kq) : Pd (eKq p) (PySem.W.Datum.toD p) := pd_T2 (pd_T2 pd_I (pd_L (g := PyData.int) fun _ => pd_I)) pd_I
def coversOf (fam : Fam) : List Nat := (usedF fam).map fun i => fam.covers.getD i 0
def boundM (fam : Fam) : Nat := match ((List.range (2 ^ fam.goals.length)).filter (apF fam.goals.length (coversOf fam))).map (keyOf fam.goals.length) with
  | [] => 0
  | x :: xs => (PySem.W.minOf x xs).2.toNat
theorem minOf_mem {α : Type} [DecidableEq α] [PySem.W.DatumOrd α] : ∀ (xs : List α) (x : α), PySem.W.minOf x xs ∈ x :: xs
  | [], x => List.mem_cons_self
  | y :: ys, x => by
    have ih := minOf_mem ys (if PySem.W.DatumOrd.lt y x = true then y else x)
    have e : PySem.W.minOf x (y :: ys) = PySem.W.minOf (if PySem.W.DatumOrd.lt y x = true then y else x) ys := rfl
    rw [e]
    rcases List.mem_cons.mp ih with h | h
    · rw [h]
      split
      · exact List.mem_cons_of_mem _ List.mem_cons_self
      · exact List.mem_cons_self
    · exact List.mem_cons_of_mem _ (List.mem_cons_of_mem _ h)
section
variable {P : Program} {w : World} {K : PySem.W.Frag} {mg : Str → Option Value} {base : Heap} {f : Addr} {fd : FuncData}
abbrev s_are_apart : Stmt := top 8
theorem sc_are_apart : FnScope ["covers", "some", "own"] ["covers", "some"] (defScope s_are_apart) := ⟨rfl, rfl, rfl, by decide +kernel, rfl, by decide +kernel, by decide +kernel⟩
def A_are_apart : Pr := fun ds kr _ => ∃ (cs : List Nat) (m n : Nat), ds = [dL (cs.map fun i => dNat i), dNat m] ∧ m < 2 ^ n ∧ n ≤ 60 ∧ cs.length ≤ 10000 ∧ kr (dB (apF n cs m))
theorem ok_are_apart (B : Bi mg) (hM : Has P w K mg base CX0 1 "many_bits" A_many_bits) (F : Fun K "are_apart" "are_apart" s_are_apart f fd) : FnOk P w K mg base CX0 2 f fd ["covers", "some"] (spT A_are_apart) := by
  refine def_ok F sc_are_apart (fun ds kr ke h => ?_) fun X C S H σ ds kr ke0 hA ok er Dn hr hn => ?_
  · obtain ⟨cs, m, n, rfl, _⟩ := h
    rfl
  · obtain ⟨ke, cs, m, n, rfl, hm, h60, hz, hk⟩ := hA
    have e : (cs.map fun c => decide ((bitsOf n (c &&& m)).length < 2)).all id = apF n cs m := by
      rw [List.all_map]
      rfl
    refine st_ret ok Errs.none (gcast (g_all C (bs := cs.map fun c => decide ((bitsOf n (c &&& m)).length < 2)) B.all (gcast (g_lc C [("own", 2)] (l := cs) (enc := fun c => dNat c) (is := [2]) (f := fun c => [some (dL (cs.map fun i => dNat i)), some (dNat m), some (dNat c)]) (t := fun _ => true) (g := fun c => dB (decide ((bitsOf n (c &&& m)).length < 2)))
      (gi_list C (g_var C 0)) (by decide +kernel) (by rw [sizeLine_eq]; omega) (by simp)
      (fun i hi => gg_name (C.blk _ rfl) 2)
      (fun i hi => ts_nil)
      (fun c hi ht => gcast (g_lt (g_call (C.blk _ rfl) hM (a_cons (g_andN (g_var (C.blk _ rfl) 2) (g_var (C.blk _ rfl) 1)) a_nil) ⟨c &&& m, n, rfl, Nat.lt_of_le_of_lt Nat.and_le_right hm, h60, rfl⟩) g_int) ?_)) ?_)) (by rw [e])) fun v H' => hr _ v H' hk
    · show dB _ = dB _
      congr 1
      rw [decide_eq_decide]
      omega
    · rw [filter_yes, List.map_map]
      rfl
abbrev s_bound_key : Stmt := top 10
theorem sc_bound_key : FnScope ["family", "some", "k"] ["family", "some"] (defScope s_bound_key) := ⟨rfl, rfl, rfl, by decide +kernel, rfl, by decide +kernel, by decide +kernel⟩
def A_bound_key (cF : Addr) : Pr := fun ds kr _ => ∃ (fam : Fam) (m : Nat), ds = [eFam cF fam, dNat m] ∧ m < 2 ^ fam.goals.length ∧ fam.goals.length ≤ 60 ∧ kr (eKey (keyOf fam.goals.length m).1)
theorem ok_bound_key (B : Bi mg) {cF : Addr} (FF : Fld K cF nsF) (hM : Has P w K mg base CX0 1 "many_bits" A_many_bits) (F : Fun K "bound_key" "bound_key" s_bound_key f fd) : FnOk P w K mg base CX0 2 f fd ["family", "some"] (spT (A_bound_key cF)) := by
  refine def_ok F sc_bound_key (fun ds kr ke h => ?_) fun X C S H σ ds kr ke0 hA ok er Dn hr hn => ?_
  · obtain ⟨fam, m, rfl, _⟩ := h
    rfl
  · obtain ⟨ke, fam, m, rfl, hm, h60, hk⟩ := hA
    refine st_ret ok Errs.none (gcast (g_tup (a_cons (g_sub (g_int (i := 0)) (g_call C hM (a_cons (g_var C 1) a_nil) ⟨m, fam.goals.length, rfl, hm, h60, rfl⟩)) (a_cons
      (g_lc C [("k", 2)] (l := List.range (fam.goals.map eGoal).length) (enc := fun i => dNat i) (is := [2]) (f := fun i => [some (eFam cF fam), some (dNat m), some (dNat i)]) (t := fun _ => true) (g := fun k => dNat (m / 2 ^ k % 2))
        (gi_rangeN C B.range (g_lenL C B.len (g_at C FF 0 (g_var C 0))) (by rw [List.length_map]; omega)) (by decide +kernel) (by rw [List.length_range, List.length_map, sizeLine_eq]; omega) (by simp)
        (fun i hi => gg_name (C.blk _ rfl) 2) (fun i hi => ts_nil) (fun k hi ht => g_bit (g_var (C.blk _ rfl) 1) (g_var (C.blk _ rfl) 2))) a_nil))) ?_) fun v H' => hr _ v H' hk
    rw [filter_yes, List.length_map]
    show dT [dI (0 - _), _] = dT [dI (-_), dL (((List.range _).map _).map _)]
    rw [List.map_map, Int.zero_sub]
    rfl
abbrev s_bound_of : Stmt := top 11
theorem sc_bound_of : FnScope ["family", "covers", "sets", "i", "some"] ["family"] (defScope s_bound_of) := ⟨rfl, rfl, rfl, by decide +kernel, rfl, by decide +kernel, by decide +kernel⟩
def A_bound_of (cF : Addr) : Pr := fun ds kr _ => ∃ (fam : Fam), ds = [eFam cF fam] ∧ PreF fam ∧ kr (dL ((bitsOf fam.goals.length (boundM fam)).map fun i => dNat i))
theorem apF_zero (n : Nat) (cs : List Nat) : apF n cs 0 = true := by
  unfold apF
  rw [List.all_eq_true]
  intro c _
  have e : bitsOf n 0 = [] := by
    unfold bitsOf
    rw [List.filter_eq_nil_iff]
    intro k _
    rw [hasBit_zero]
    exact Bool.false_ne_true
  rw [Nat.and_zero, e]
  rfl
theorem keys_cons (fam : Fam) : ∃ xs, ((List.range (2 ^ fam.goals.length)).filter (apF fam.goals.length (coversOf fam))).map (keyOf fam.goals.length) = keyOf fam.goals.length 0 :: xs := by
  obtain ⟨d, hd⟩ : ∃ d, 2 ^ fam.goals.length = d + 1 := ⟨2 ^ fam.goals.length - 1, by have := Nat.two_pow_pos fam.goals.length; omega⟩
  rw [hd, List.range_succ_eq_map, List.filter_cons, if_pos (apF_zero _ _)]
  exact ⟨_, rfl⟩
theorem ok_bound_of (B : Bi mg) {cF : Addr} (FF : Fld K cF nsF) (hU : HasM P w K mg base CX0 1 cF "used" (A_used cF)) (hE : HasM P w K mg base CX0 1 cF "every" (A_every cF)) (hA' : Has P w K mg base CX0 2 "are_apart" A_are_apart) (hB : Has P w K mg base CX0 2 "bound_key" (A_bound_key cF)) (hN : Has P w K mg base CX0 1 "numbers_in" A_numbers_in)
    (F : Fun K "bound_of" "bound_of" s_bound_of f fd) : FnOk P w K mg base CX0 3 f fd ["family"] (spT (A_bound_of cF)) := by
  refine def_ok F sc_bound_of (fun ds kr ke h => ?_) fun X C S H σ ds kr ke0 hA ok er Dn hr hn => ?_
  · obtain ⟨fam, rfl, _⟩ := h
    rfl
  · obtain ⟨ke, fam, rfl, Pr, hk⟩ := hA
    obtain ⟨n, hn'⟩ : ∃ n, n = fam.goals.length := ⟨_, rfl⟩
    have h9 := Pr.n9
    rw [← hn'] at h9
    have h2n : 2 ^ n ≤ 512 := Nat.le_trans (Nat.pow_le_pow_right (by decide) h9) (by decide)
    have hln : (usedF fam).length ≤ 10000 := by
      unfold usedF
      rw [List.length_map]
      refine Nat.le_trans (slim_len _) ?_
      unfold candsF
      rw [List.length_map, List.length_zipIdx]
      exact Pr.le
    refine st_setLcC C 1 [("i", 3)] ok (Errs.none (E := E0)) (l := usedF fam) (enc := fun c => dNat c) (is := [3]) (f := fun c => [some (eFam cF fam), none, none, some (dNat c), none]) (t := fun _ => true) (g := fun c => dNat (fam.covers.getD c 0))
      (gi_list C (g_meth0 C hU (g_var C 0) ⟨fam, rfl, Pr.sz, Pr.le, rfl⟩)) (by decide +kernel) (by rw [sizeLine_eq]; omega) (by simp)
      (fun i hi => gg_name (C.blk _ rfl) 3) (fun i hi => ts_nil)
      (fun c hc ht => g_ixL (C.blk _ rfl) (g_at (C.blk _ rfl) FF 2 (g_var (C.blk _ rfl) 0)) (g_var (C.blk _ rfl) 3) rfl (map_get (g := fun m => dNat m) (d := 0) (used_lt hc))) fun H1 σ1 ok1 => ?_
    have ecv : (((usedF fam).filter fun _ => true).map fun c => dNat (fam.covers.getD c 0)) = (coversOf fam).map fun i => dNat i := by rw [filter_yes]; unfold coversOf; rw [List.map_map]; rfl
    rw [ecv] at ok1
    refine st_setLc C 2 [("some", 4)] ok1 (Errs.none (E := E0)) (l := List.range (2 ^ n)) (enc := fun c => dNat c) (is := [4]) (f := fun m => [some (eFam cF fam), some (dL ((coversOf fam).map fun i => dNat i)), none, none, some (dNat m)]) (t := apF n (coversOf fam)) (g := fun m => dNat m)
      (gi_rangeN C B.range (gcast (g_add (g_meth0 C hE (g_var C 0) ⟨fam, rfl, by omega, rfl⟩) g_int) (by rw [← hn']; show dI _ = dI _; congr 1; have := Nat.two_pow_pos n; omega)) (by omega)) (by decide +kernel) (by rw [List.length_range, sizeLine_eq]; omega) (by simp)
      (fun i hi => gg_name (C.blk _ rfl) 4)
      (fun m hm => ts_one (t_val (g_call (C.blk _ rfl) hA' (a_cons (g_var (C.blk _ rfl) 1) (a_cons (g_var (C.blk _ rfl) 4) a_nil)) ⟨coversOf fam, m, n, rfl, List.mem_range.mp hm, by omega, by unfold coversOf; rw [List.length_map]; exact hln, rfl⟩)))
      (fun m hm ht => g_var (C.blk _ rfl) 4) fun H2 σ2 ok2 => ?_
    obtain ⟨xs, hxs⟩ := keys_cons fam
    have hbm : boundM fam = (PySem.W.minOf (keyOf fam.goals.length 0) xs).2.toNat := by
      unfold boundM
      rw [hxs]
    have hmem := minOf_mem xs (keyOf fam.goals.length 0)
    rw [← hxs] at hmem
    obtain ⟨m, hm, em⟩ := List.mem_map.mp hmem
    have hml := List.mem_range.mp (List.mem_filter.mp hm).1
    have e2 : (PySem.W.minOf (keyOf fam.goals.length 0) xs).2 = (m : Int) := by rw [← em]; rfl
    have ebm : boundM fam = m := by rw [hbm, e2]; exact Int.toNat_natCast m
    rw [ebm] at hk
    refine st_ret ok2 Errs.none (g_call C hN (a_cons (g_ixT C (g_minD C (enc := eKq) (x := keyOf fam.goals.length 0) (xs := xs) pd_key (by decide) B.min (gcast (g_lc C [("some", 4)] (l := (List.range (2 ^ n)).filter (apF n (coversOf fam))) (enc := fun c => dNat c) (is := [4]) (f := fun m => [some (eFam cF fam), some (dL ((coversOf fam).map fun i => dNat i)), some (dL (((List.range (2 ^ n)).filter (apF n (coversOf fam))).map fun i => dNat i)), none, some (dNat m)]) (t := fun _ => true) (g := fun m => eKq (keyOf n m))
      (gi_list C (g_var C 2)) (by decide +kernel) (by refine Nat.le_trans (List.length_filter_le _ _) ?_; rw [List.length_range, sizeLine_eq]; omega) (by simp)
      (fun i hi => gg_name (C.blk _ rfl) 4) (fun i hi => ts_nil)
      (fun m hm ht => g_tup (a_cons (g_call (C.blk _ rfl) hB (a_cons (g_var (C.blk _ rfl) 0) (a_cons (g_var (C.blk _ rfl) 4) a_nil)) ⟨fam, m, rfl, by rw [← hn']; exact List.mem_range.mp (List.mem_filter.mp hm).1, by omega, by rw [← hn']⟩) (a_cons (g_var (C.blk _ rfl) 4) a_nil)))) ?_)) g_int (n := 1) rfl rfl) a_nil) ⟨m, fam.goals.length, by rw [e2], hml, by omega, rfl⟩) fun v H' => hr _ v H' hk
    rw [filter_yes, ← hxs, List.map_map, hn']
    rfl
end
end Lp
namespace Lp
open PySem PySem.Spec PyProof.Rows L2 Tr
/-! ### a dict whose keys are pieces -/
def nk (p : Pc) : NestedKey := .tup [.text (sU p.x), .num (p.at_ : Int), .num (if p.f = true then 1 else 0), .num (if p.e = true then 1 else 0)]
theorem b2_inj {a b : Bool} (h : (if a = true then (1 : Int) else 0) = if b = true then 1 else 0) : a = b := by
  cases a <;> cases b <;> first | rfl | exact absurd h (by decide)
theorem nk_inj {p q : Pc} (h : nk p = nk q) : p = q := by
  obtain ⟨x, a, f, e⟩ := p
  obtain ⟨y, b, g, d⟩ := q
  simp only [nk, NestedKey.tup.injEq, List.cons.injEq, NestedKey.text.injEq, NestedKey.num.injEq, and_true] at h
  obtain ⟨h1, h2, h3, h4⟩ := h
  rw [sU_inj h1, b2_inj h3, b2_inj h4, show a = b by omega]
def seenO (d : Addr) (o : Obj) : HO := .ext fun h => h.get? d = some o
abbrev Ent := NestedKey × Addr × Value
def SeenIs (P : Program) (w : World) (W : Hp) (d : Addr) (ks : List Pc) (ho : HO) : Prop := ∃ (o : Obj) (es : Array DictEntry) (ep : Nat) (xs : List Ent), ho = seenO d o ∧ (d == sysModules) = false ∧ o.ExactDict ∧ o.data = .dict es ep ∧ es.toList = xs.map (entryOfKey (nestedKind P w)) ∧ xs.map (·.1) = ks.map nk ∧ ks.Nodup ∧ Reps W (xs.map fun x => V.ref x.2.1) (ks.map ePc)
theorem SeenIs.up {P : Program} {w : World} {W W' : Hp} {d : Addr} {ks : List Pc} {ho : HO} (e : Same W W') (h : SeenIs P w W d ks ho) : SeenIs P w W' d ks ho := by
  obtain ⟨o, es, ep, xs, h1, h2, h3, h4, h5, h6, h7, h8⟩ := h
  exact ⟨o, es, ep, xs, h1, h2, h3, h4, h5, h6, h7, h8.up e⟩
def oSeen (P : Program) (w : World) (d : Addr) (ks : List Pc) : OD := ⟨fun W h => SeenIs P w W d ks h, fun e h => h.up e⟩
/-- the dict in sight -/
def dSeen (P : Program) (w : World) (d : Addr) (ks : List Pc) : D := ⟨fun W v => v = .ref d ∧ ∃ ho, W d = some ho ∧ SeenIs P w W d ks ho, fun e ⟨h1, ho, h2, h3⟩ => ⟨h1, ho, e _ _ h2, h3.up e⟩⟩
def isExt : HO → Prop
  | .ext _ => True
  | _ => False
def putS (ks : List Pc) (p : Pc) : List Pc := if p ∈ ks then ks else ks ++ [p]
theorem key_at {X : Cx} {pins : List (Addr × Obj)} {σ : Sg} {H W : Hp} {s : Shared} (I : Inv X pins σ H s) (sm : Same W H) {p : Pc} {b : Addr} (h : (ePc p).p W (.ref b)) : (nestedKind X.prog X.w).is s.heap (nk p) b := by
  obtain ⟨a, vs, e, ha, r⟩ := h
  cases e
  obtain ⟨its, rv, ⟨ob, hob, hc, n, hd⟩, _⟩ := I.tuple (.inl (.inl (sm _ _ ha)))
  match vs, r with
  | [v1, v2, v3, v4], r =>
    obtain ⟨r1, r2, r3, r4, _⟩ := r
    have r1 : v1 = .str (sU p.x) := r1
    have r2 : v2 = .int (p.at_ : Int) := r2
    have r3 : v3 = .bl p.f := r3
    have r4 : v4 = .bl p.e := r4
    subst r1 r2 r3 r4
    match its, rv with
    | [u1, u2, u3, u4], .cons q1 (.cons q2 (.cons q3 (.cons q4 .nil))) =>
      obtain ⟨t1, q1⟩ := (show ∃ t, u1 = Value.str _ t from q1)
      obtain ⟨t2, q2⟩ := (show ∃ t, u2 = Value.int _ t from q2)
      have q3 : u3 = Value.bool p.f := q3
      have q4 : u4 = Value.bool p.e := q4
      subst q1 q2 q3 q4
      refine ⟨.tup hob hc hd (.cons (.text _ _) (.cons (.int _ _) (.cons (.bool rfl) (.cons (.bool rfl) .nil)))), ?_⟩
      simp [nk, NestedKey.depth, NestedKey.depthAll]
theorem keys_at {X : Cx} {pins : List (Addr × Obj)} {σ : Sg} {H W : Hp} {s : Shared} (I : Inv X pins σ H s) (sm : Same W H) : ∀ {xs : List Ent} {ks : List Pc}, xs.map (·.1) = ks.map nk → Reps W (xs.map fun x => V.ref x.2.1) (ks.map ePc) → ∀ x ∈ xs, (nestedKind X.prog X.w).is s.heap x.1 x.2.1
  | [], _, _, _, x, hx => by cases hx
  | y :: xs, [], h, _, _, _ => by cases h
  | y :: xs, k :: ks, h, r, x, hx => by
    rw [List.map_cons, List.map_cons] at h
    obtain ⟨h1, h2⟩ := List.cons.inj h
    rcases List.mem_cons.mp hx with e | hx
    · subst e
      rw [h1]
      exact key_at I sm r.1
    · exact keys_at I sm h2 r.2 x hx
theorem nodup_map {α β : Type} {f : α → β} (hf : ∀ a b, f a = f b → a = b) {l : List α} (h : l.Nodup) : (l.map f).Nodup := by
  induction l with
  | nil => exact List.nodup_nil
  | cons a l ih =>
    obtain ⟨h1, h2⟩ := List.nodup_cons.mp h
    refine List.nodup_cons.mpr ⟨fun z => ?_, ih h2⟩
    obtain ⟨b, hb, e⟩ := List.mem_map.mp z
    rw [← hf _ _ e] at h1
    exact h1 hb
theorem atKey_some {xs : List Ent} {ks : List Pc} {p : Pc} (h : xs.map (·.1) = ks.map nk) : (atKey xs (nk p)).isSome = decide (p ∈ ks) := by
  induction xs generalizing ks with
  | nil =>
    cases ks with
    | nil => rfl
    | cons _ _ => cases h
  | cons x xs ih =>
    cases ks with
    | nil => cases h
    | cons k ks =>
      rw [List.map_cons, List.map_cons] at h
      obtain ⟨h1, h2⟩ := List.cons.inj h
      have ih := ih h2
      unfold atKey at ih ⊢
      rw [List.find?_cons]
      by_cases e : p = k
      · subst e
        simp [h1]
      · have hne : ¬ x.1 = nk p := fun z => e (nk_inj (by rw [← z, h1]))
        simp only [decide_eq_false hne]
        rw [ih]
        simp [e]
/-- {} -/
def tSeenNew (P : Program) (w : World) : TE := fun _ H Q => ∀ p ho, H p = none → SeenIs P w (fun _ => none) p [] ho → Q (.ref p) (upd H p ho)
theorem pe_seenNew {X : Cx} {pos : Pos} : PE X (.Dict [] [] pos) (tSeenNew X.prog X.w) := ⟨fun pins s σ H Q I h =>
  wpAny_Dict_empty ⟨.ref s.heap.objs.size, _, I.laid (a := s.heap.objs.size) (o := seenO s.heap.objs.size { cls := .type "dict", data := .dict #[] }) (t' := s.toks) (fun _ _ q => Heap.get?_push_of_some _ q) (Nat.le_refl _) ⟨Heap.get?_push_size _ rfl, ⟨_, Heap.get?_push_size _ rfl⟩, fun h1 h2 z st => st _ z⟩, rfl,
    h _ _ (I.hok.fresh (Nat.le_refl _)) ⟨_, #[], 0, [], rfl, beq_eq_false_iff_ne.mpr (Ne.symm (Nat.ne_of_lt I.big)), ⟨rfl, rfl, rfl⟩, rfl, rfl, rfl, List.nodup_nil, trivial⟩⟩⟩
/-- d[y] = v -/
def sSeenPut (P : Program) (w : World) (td ty tv : TE) : TS := fun D σ H => tv σ H fun v H1 => td σ H1 fun x H2 => ty σ H2 fun y H3 => ∃ d ks p ho W, x = .ref d ∧ H3 d = some ho ∧ Same W H3 ∧ SeenIs P w W d ks ho ∧ (ePc p).p W y ∧ ks.length ≤ 1000000 ∧ ∀ ho', SeenIs P w W d (putS ks p) ho' → D.nx σ (upd H3 d ho')
theorem ps_seenPut {X : Cx} {o i value : Expr} {pos pos' : Pos} {td ty tv : TE} (hu : X.A.units + 1 + 8 + 1 < cLine) (ho : PE X o td) (hi : PE X i ty) (hv : PE X value tv) (hs : swapsWith value (some (.Subscript o i pos')) pos.line X.env = pure false) :
    PS X (.Assign [.Subscript o i pos'] value pos) (sSeenPut X.prog X.w td ty tv) := by
  refine ⟨fun pins s σ H D I h => ?_⟩
  refine wpAny_Assign_Subscript (thn (hv.run pins s σ H _ I h) fun r s1 ⟨v, H1, I1, rv, q1⟩ => thn (ho.run pins s1 σ H1 _ I1 q1) fun u s2 ⟨x, H2, I2, rx, q2⟩ => thn (hi.run pins s2 σ H2 _ I2 q2) fun iv s3 ⟨y, H3, I3, ry, d, ks, p, hob, W, ex, hd, sm, si, py, hz, q3⟩ => ?_) hs
  subst ex
  obtain rfl : u = Value.ref d := rx
  obtain ⟨o, es, ep, xs, e1, hsys, hx, hdat, hes, hks, hnd, rp⟩ := si
  subst e1
  obtain ⟨b, vs, eb, hb, rb⟩ := id py
  subst eb
  obtain rfl : iv = Value.ref b := ry
  have hxl : xs.length = ks.length := by
    have := congrArg List.length hks
    simpa using this
  have hget : s3.heap.get? d = some o := (I3.hok d _ hd).1
  have hnd' : (xs.map (·.1)).Nodup := by
    rw [hks]
    exact nodup_map (fun _ _ => nk_inj) hnd
  have hm : s3.heap.DictOfH (nestedKind X.prog X.w) d xs := ⟨o, es, ep, hget, hx, hdat, hes, keys_at I3 sm hks rp, hnd'⟩
  refine wpAny_setItem_heap (hsz := by rw [hxl, sizeLine_eq]; omega) (by show X.A.in1.units + 8 < cLine; show X.A.units + 1 + 8 < cLine; omega) (key_at I3 sm py) hm fun h' dd' hs => ?_
  obtain ⟨o', es', ep', hq, h2, h3, h4, _, h5⟩ := dd'
  have hw : Inv X pins σ (upd H3 d (seenO d o')) { s3 with heap := h', toks := s3.toks + (nestedKind X.prog X.w).draws (nk p) } :=
    d_write I3 (by rw [hd]; exact True.intro) hs ⟨o', hq⟩ ⟨hq, ⟨o', hq⟩, fun h1 h2 z st => st _ z⟩
  refine ⟨σ, _, hw, q3 _ ?_⟩
  have hat := atKey_some (p := p) hks
  by_cases hm : p ∈ ks
  · rw [decide_eq_true hm] at hat
    refine ⟨o', es', ep', storedH xs (nk p) b r, rfl, hsys, h2, h3, h4, ?_, ?_, ?_⟩
    · unfold storedH putS
      rw [if_pos hat, if_pos hm, List.map_map, ← hks]
      refine List.map_congr_left fun x _ => ?_
      show (putAt (nk p) r x).1 = x.1
      unfold putAt
      split <;> rfl
    · unfold putS
      rw [if_pos hm]
      exact hnd
    · unfold storedH putS
      rw [if_pos hat, if_pos hm, List.map_map]
      have e : (xs.map ((fun x => V.ref x.2.1) ∘ putAt (nk p) r)) = xs.map fun x => V.ref x.2.1 := List.map_congr_left fun x _ => by
        show V.ref (putAt (nk p) r x).2.1 = V.ref x.2.1
        unfold putAt
        split <;> rfl
      rw [e]
      exact rp
  · rw [decide_eq_false hm] at hat
    refine ⟨o', es', ep', storedH xs (nk p) b r, rfl, hsys, h2, h3, h4, ?_, ?_, ?_⟩
    · unfold storedH putS
      rw [if_neg (by rw [hat]; exact Bool.false_ne_true), if_neg hm, List.map_append, List.map_append, hks]
      rfl
    · unfold putS
      rw [if_neg hm]
      refine List.nodup_append.mpr ⟨hnd, by simp, fun a ha c hc => ?_⟩
      rw [List.mem_singleton.mp hc]
      exact fun z => hm (by rw [← z]; exact ha)
    · unfold storedH putS
      rw [if_neg (by rw [hat]; exact Bool.false_ne_true), if_neg hm, List.map_append, List.map_append]
      exact rp.snoc py
/-! the keys, walked -/
def Itseen (d : Addr) (o : Obj) (as : List Addr) : It :=
  ⟨fun i H => H d = some (seenO d o) ∧ i < as.length, fun i H x H' => H' = H ∧ ∃ a, as[i]? = some a ∧ x = .ref a, fun i H => H d = some (seenO d o) ∧ as.length ≤ i⟩
theorem turn_seen {P : Program} {w : World} {K : PySem.W.Frag} {tg : Expr} {d : Addr} {o : Obj} {es : Array DictEntry} {ep : Nat} {as : List Addr} (it : Addr) (hod : o.data = .dict es ep) (hsz : es.size = as.length) (hk : ∀ (i : Nat) (a : Addr), as[i]? = some a → ∃ en : DictEntry, es[i]? = some en ∧ en.key = .ref a) :
    Turn P w K tg (Itseen d o as) [it] it (fun i h => h.IsKeyIter it d i as.length ep) where
  mem := by simp
  obj := fun i h st b hb => by
    have e : b = it := by simpa using hb
    subst e
    obtain ⟨oi, e, c, dd⟩ := st
    exact ⟨oi, e, fun v z => by rw [dd] at z; cases z⟩
  keep := fun i h h' st k => st.at fun oi e => k it (by simp) oi e
  item := by
    intro X hP hw hK hc i pins s σ H E I hf st hg
    subst hP hw hK
    obtain ⟨hd, hi⟩ := hg
    obtain ⟨f0, f1, f2, f3, f4, f5⟩ := hf it (by simp)
    have hgd : s.heap.get? d = some o := (I.hok d _ hd).1
    have ha : as[i]? = some as[i] := List.getElem?_eq_getElem hi
    obtain ⟨en, hen, hkey⟩ := hk i _ ha
    refine next_key_item st hgd hod hsz hen fun h' st' sb => ?_
    have I1 : Inv X pins σ H { s with heap := h' } := I.turned (t' := s.toks) (fun b ob hb e => (sb.2 b hb).trans e) f0 f1 f3 f4 f5
    obtain ⟨oi, e, c, dd⟩ := id st'
    exact ⟨en.key, rfl, go_of (s := { s with heap := h' }) e c dd (by decide) ⟨.ref as[i], H, I1, hkey, ⟨rfl, _, ha, rfl⟩, st', fun b hb => (hf b hb).1⟩⟩
  done := by
    intro X hP hw hK hc i pins s σ H E I hf st hg
    subst hP hw hK
    obtain ⟨hd, hi⟩ := hg
    obtain ⟨f0, f1, f2, f3, f4, f5⟩ := hf it (by simp)
    have hgd : s.heap.get? d = some o := (I.hok d _ hd).1
    exact next_key_end (I.ok.hd hc) st hgd hod hsz hi fun h' eb => ⟨rfl, I.turned (t' := s.toks) (fun b ob hb e => eb b ob hb e) f0 f1 f3 f4 f5⟩
  self := fun A i s Q E st h => by
    refine wpAny_pyIter_slot st.typeIs F.slot_dict_keyiterator_iter (wpAny_call_entry F.slot_dict_keyiterator_iter st.typeIs F.entry_dict_keyiterator_iter ?_ (F.args_dict_keyiterator_iter_1 _))
    show wpAny _ _ (ret (.ref it)) _ _ s
    exact wpAny_pure ⟨_, rfl, "dict_keyiterator", _, st.typeIs, F.slot_dict_keyiterator_next.lookup, h⟩
def iSeen (P : Program) (w : World) (td : TE) : TI := fun σ H R => td σ H fun x H1 => ∃ d o es ep as, x = .ref d ∧ H1 d = some (seenO d o) ∧ (d == sysModules) = false ∧ o.ExactDict ∧ o.data = .dict es ep ∧ es.size = as.length ∧ (∀ (i : Nat) (a : Addr), as[i]? = some a → ∃ en : DictEntry, es[i]? = some en ∧ en.key = .ref a) ∧ R (Itseen d o as) H1
theorem pi_seen {X : Cx} {tg e : Expr} {td : TE} (he : PE X e td) : PI X tg e (iSeen X.prog X.w td) := by
  refine ⟨fun pins s σ H R I h => ?_⟩
  refine thn (he.run pins s σ H _ I h) fun u s1 ⟨x, H1, I1, rx, d, o, es, ep, as, ex, hd, hs, hx, hdt, hsz, hk, q⟩ => ?_
  subst ex
  obtain rfl : u = Value.ref d := rx
  have hgd : s1.heap.get? d = some o := (I1.hok d _ hd).1
  refine iter_keys hs hgd hx hdt (pi_one (tk := s1.toks) I1 _ (turn_seen _ hdt hsz hk) ⟨_, Heap.get?_push_size _ rfl, rfl, ?_⟩ q)
  rw [hsz] <;> rfl
section
variable {X : CS} {P : Program} {w : World} {K : PySem.W.Frag} {mg : Str → Option Value} {base : Heap} {N : List Str} {kd : Str → Option NameKind} {k : Nat} {E : XK} {ex : Er → Prop} {ss : List (Option D)} {d : D} {pos p1 p2 : Pos} {B : Hp} {S q : List Addr} {H : Hp} {σ : Sg} {o : Ow} {Dn : Ends} {r : List Stmt} {e ie : Expr} {a : Addr} {i : Nat} {y : Str} {ks : List Pc} {p : Pc}
theorem st_newSeen (C : Ctx X P w K mg base N kd k E) (i : Nat) {y : Str} {pos1 pos2 : Pos} (ok : Okf B S q H σ ss o) (hi : i < ss.length := by exact Nat.le_of_ble_eq_true rfl)
    (kk : ∀ p H' σ', Okf B S (p :: q) H' σ' (ss.set i none) ((i, oSeen P w p []) :: o) → wpS X r Dn σ' H') (ho : offO o [i] = true := by rfl) (hN : N[i]? = some y := by rfl) (hl : Own1 kd y := by first | exact Or.inl rfl | exact Or.inr rfl) : wpS X (.Assign [.Name y pos1] (.Dict [] [] pos2) pos :: r) Dn σ H :=
  wpS_cons (t := tAsg (tSeenNew P w) (gName i)) (fun x hx => ps_set (i := i) (by rw [C.slots x hx]; exact C.nd) (by rw [C.slots x hx]; exact hN) (C.lo hx hl) (by rw [← C.prog x hx, ← C.world x hx]; exact pe_seenNew) rfl (C.fnl hx hl)) fun p ob hp hs => kk p _ _ (ok.own_new hp (by rw [ok.sl.len]; exact hi) ho fun W => hs.up fun b o e => by cases e)
theorem st_putSeen (C : Ctx X P w K mg base N kd k E) (ok : Okf B S (a :: q) H σ ss ((i, oSeen P w a ks) :: o)) (er : Errs E ex B) (g : Ev X (a :: q ++ S) H σ e d) (gi : Ge X E ex ss ie (ePc p)) (hz : ks.length ≤ 1000000)
    (kk : ∀ H', Okf B S (a :: q) H' σ ss ((i, oSeen P w a (putS ks p)) :: o) → wpS X r Dn σ H') (hN : N[i]? = some y := by rfl) (hv : Seen kd y := by first | exact Or.inl rfl | exact Or.inr (Or.inl rfl))
    (hd : (y == ("__debug__" : Str)) = false := by decide) (hcd : (y == ("__classdict__" : Str)) = false := by decide)
    (hs : ∀ env, swapsWith e (some (.Subscript (.Name y p1) ie p2)) pos.line env = pure false := by intro _; rfl) :
    wpS X (.Assign [.Subscript (.Name y p1) ie p2] e pos :: r) Dn σ H := by
  refine wpS_cons (t := sSeenPut P w (tVar i) (wpE X ie) (wpE X e)) (fun x hx => by rw [← C.prog x hx, ← C.world x hx]; exact ps_seenPut (by have := (C.room x hx).units; omega) (pe_var (i := i) (by rw [C.slots x hx]; exact hN) (C.vis x hx _ hv) hd hcd) (wpE_pe hx) (wpE_pe hx) (hs x.env)) ?_
  obtain ⟨h1, ⟨u, h2, h3⟩, h4⟩ := ok.own
  refine g _ fun v H1 e1 pv => ⟨_, h1, ?_⟩
  have ok1 := ok.up e1
  refine gi _ H1 σ ok1.ok (er.at ok1.ex) _ fun iv H2 e2 pi => ?_
  have e12 := e1.trans e2
  refine ⟨a, ks, p, u, wd (a :: q ++ S) H2, rfl, e12 _ _ h2, wd_same _ _, SeenIs.up (wd_mono e12) h3, pi, hz, fun ho' hs' => ?_⟩
  exact kk _ ((ok.up e12).own_put hs')
theorem gi_seen (C : Ctx X P w K mg base N kd k E) {tg iter : Expr} (h : Ge X E ex ss iter (dSeen P w a ks)) : Gi X E ex ss tg iter (ks.map ePc) := fun S H σ ok er R q => by
  refine wpI_of (t := iSeen P w (wpE X iter)) (fun x hx => by rw [← C.prog x hx, ← C.world x hx]; exact pi_seen (wpE_pe hx)) ?_
  refine h S H σ ok er _ fun v H1 e1 pv => ?_
  obtain ⟨rfl, ho, h2, o, es, ep, xs, e, hs, hx, hdt, hes, hks, hnd, rp⟩ := pv
  subst e
  have hsz : es.size = xs.length := size_of_entries hes
  have hl : (xs.map fun x => x.2.1).length = ks.length := by
    have := rp.len
    rw [List.length_map, List.length_map] at this
    rw [List.length_map]
    exact this
  refine ⟨a, o, es, ep, xs.map fun x => x.2.1, rfl, wd_same S H1 _ _ h2, hs, hx, hdt, by rw [hsz, List.length_map], fun i b hb => ?_, q _ H1 e1 ?_⟩
  · rw [List.getElem?_map] at hb
    cases hxi : xs[i]? with
    | none => rw [hxi] at hb; cases hb
    | some x =>
      rw [hxi] at hb
      cases hb
      have q := entry_at hes i
      rw [hxi] at q
      exact ⟨_, q, rfl⟩
  · rw [List.length_map, ← hl]
    refine ⟨fun i Ha hi g => ⟨g _ _ h2, hi⟩, fun Ha g => ⟨g _ _ h2, Nat.le_refl _⟩, fun i Ha x Hb hi g y => ?_⟩
    obtain ⟨rfl, b, hb, rfl⟩ := y
    have hb' : (xs.map fun x => V.ref x.2.1)[i]? = some (.ref b) := by
      rw [List.getElem?_map] at hb ⊢
      cases hxi : xs[i]? with
      | none => rw [hxi] at hb; cases hb
      | some x =>
        rw [hxi] at hb
        cases hb
        rfl
    obtain ⟨d, hd, pd⟩ := rp.get hb'
    exact ⟨Same.refl _, d, hd, fun S' sm _ => d.up sm pd⟩
theorem oSeen_d : ∀ W h, W a = some h → (oSeen P w a ks).p W h → (dSeen P w a ks).p W (.ref a) := fun W h e s => ⟨rfl, h, e, s⟩
theorem oSeen_is : ∀ W h, (oSeen P w a ks).p W h → isExt h := fun W h ⟨o, es, ep, xs, e, _⟩ => by rw [e]; trivial
theorem free_pcs {l : List Pc} : Free isExt (dL (l.map ePc)) := by
  refine free_L (fun _ z => z) fun d hd => ?_
  obtain ⟨p, _, rfl⟩ := List.mem_map.mp hd
  refine free_T (fun _ z => z) fun d hd => ?_
  rcases List.mem_cons.mp hd with e | hd
  · rw [e]; exact free_V
  rcases List.mem_cons.mp hd with e | hd
  · rw [e]; exact free_V
  rcases List.mem_cons.mp hd with e | hd
  · rw [e]; exact free_V
  · rw [List.mem_singleton.mp hd]; exact free_V
end
end Lp
namespace Tr
open PySem PySem.Spec PyProof.Rows L2
section
variable {X : CS} {P : Program} {w : World} {K : PySem.W.Frag} {mg : Str → Option Value} {base : Heap} {N : List Str} {kd : Str → Option NameKind} {k : Nat} {E : XK} {ex : Er → Prop} {ss ss' : List (Option D)} {d : D} {ds es : List D} {pos p1 p2 apos : Pos}
  {B : Hp} {S q : List Addr} {H : Hp} {σ : Sg} {o : Ow} {Dn : Ends} {r : List Stmt} {els : List Expr}
/-- x = [e, ..] -/
theorem st_newLs (C : Ctx X P w K mg base N kd k E) (i : Nat) {y : Str} {pos1 pos2 : Pos} (ok : Okf B S q H σ ss o) (er : Errs E ex B) (ga : Gas X E ex ss els ds) (hz : ds.length ≤ 1000) (hi : i < ss.length := by exact Nat.le_of_ble_eq_true rfl)
    (kk : ∀ p H' σ', Okf B S (p :: q) H' σ' (ss.set i none) ((i, oL ds) :: o) → wpS X r Dn σ' H') (ho : offO o [i] = true := by rfl) (hN : N[i]? = some y := by rfl) (hl : Own1 kd y := by first | exact Or.inl rfl | exact Or.inr rfl)
    (hs : ∀ env, swapsWith (.List els pos2) (some (.Name y pos1)) pos.line env = pure false := by intro _; rfl) : wpS X (.Assign [.Name y pos1] (.List els pos2) pos :: r) Dn σ H :=
  wpS_cons (fun x hx => ps_set (i := i) (by rw [C.slots x hx]; exact C.nd) (by rw [C.slots x hx]; exact hN) (C.lo hx hl) (pe_lst (wpA_pa hx)) (hs x.env) (C.fnl hx hl)) (ga _ H σ ok.ok (er.at ok.ex) _ fun vs H1 e1 pr => ⟨by rw [pr.len, sizeLine_eq]; omega, fun p hp => by
    have ok1 := (ok.up e1).own_new (u := .lst vs) (od := ⟨fun _ _ => True, fun _ _ => trivial⟩) hp (by rw [ok.sl.len]; exact hi) ho fun W => trivial
    have ok2 := ok1.own_put (u := .lst vs) (od' := oL ds) ⟨vs, rfl, pr.up (made_one hp)⟩
    rw [upd_upd] at ok2
    exact kk p _ _ ok2⟩)
end
end Tr
namespace Lp
open PySem PySem.Spec PyProof.Rows L2 Tr
open Vahypc (hasBit lowest Goal Choice better Cand slim putCand)
open Vahypa (Word Lst)
/-! ### what the pieces are -/
theorem cut_lo {α : Type} (l : List α) (n : Nat) : cutD l none (some (n : Int)) = l.take n := by
  unfold Tr.cutD
  rw [HT.sIx_none, HT.sIx_nat, List.drop_zero, Nat.sub_zero]
  rcases Nat.le_total n l.length with h | h
  · rw [Nat.min_eq_left h]
  · rw [Nat.min_eq_right h, List.take_length, List.take_of_length_le h]
theorem cut_hi {α : Type} (l : List α) (n : Nat) : cutD l (some (n : Int)) none = l.drop n := by
  unfold Tr.cutD
  rw [HT.sIx_none, HT.sIx_nat]
  rcases Nat.le_total n l.length with h | h
  · rw [Nat.min_eq_left h, List.take_of_length_le (by rw [List.length_drop]; exact Nat.le_refl _)]
  · rw [Nat.min_eq_right h, Nat.sub_self, List.take_zero, List.drop_eq_nil_of_le h]
theorem cut_mid {α : Type} (l : List α) (a n : Nat) (h : a ≤ l.length) : cutD l (some (a : Int)) (some ((a + n : Nat) : Int)) = (l.drop a).take n := by
  unfold Tr.cutD
  rw [HT.sIx_nat, HT.sIx_nat, Nat.min_eq_left h]
  rcases Nat.le_total (a + n) l.length with q | q
  · rw [Nat.min_eq_left q, Nat.add_sub_cancel_left]
  · rw [Nat.min_eq_right q, List.take_of_length_le (by rw [List.length_drop]; exact Nat.le_refl _), List.take_of_length_le (by rw [List.length_drop]; omega)]
structure PreL (s : Lst) : Prop where
  few : s.words.length ≤ 24
  len : ∀ w ∈ s.words, w.x.length ≤ 16
  cuts : ∀ w ∈ s.words, w.cuts.length ≤ 16
def inW (s : Lst) (x : List UInt8) (g : Nat) : Bool := decide (max 1 s.l ≤ g) && decide (max 1 s.r + g ≤ x.length)
def goalsT (s : Lst) (l : List (Word × Nat)) : List Goal := l.flatMap fun w => (w.1.cuts.filter (inW s w.1.x)).map fun g => ⟨w.2, g⟩
def goalsF (s : Lst) : List Goal := goalsT s s.words.zipIdx
def wordX (s : Lst) (i : Nat) : List UInt8 := ((s.words[i]?).map fun w => w.x).getD []
def chunkF (p : Pc) : List UInt8 := (if p.f then [46] else []) ++ p.x.take p.at_ ++ [49] ++ p.x.drop p.at_ ++ (if p.e then [46] else [])
def placesF (p : Pc) (x : List UInt8) : List Nat := ((List.range (x.length + 1 - p.x.length)).filter fun o => decide ((x.drop o).take p.x.length = p.x)).filter fun o => !(p.f && decide (0 < o)) && !(p.e && decide (o + p.x.length < x.length))
def partedF (s : Lst) (p : Pc) (x : List UInt8) : List Nat := ((placesF p x).map (· + p.at_)).filter (inW s x)
def goodF (s : Lst) (p : Pc) : Bool := s.words.all fun w => (partedF s p w.x).all fun g => decide (g ∈ w.cuts)
section
variable {P : Program} {w : World} {K : PySem.W.Frag} {mg : Str → Option Value} {base : Heap} {f : Addr} {fd : FuncData}
abbrev s_is_within : Stmt := inClass (top 61) 1
theorem sc_is_within : FnScope ["self", "word", "gap", "behind"] ["self", "word", "gap"] (defScope s_is_within) := ⟨rfl, rfl, rfl, by decide +kernel, rfl, by decide +kernel, by decide +kernel⟩
def A_is_within (cL cW : Addr) : Pr := fun ds kr _ => ∃ (s : Lst) (v : Word) (g : Nat), ds = [eLst cL cW s, eWord cW v, dNat g] ∧ v.x.length ≤ 16 ∧ kr (dB (inW s v.x g))
theorem ok_is_within (B : Bi mg) {cL cW : Addr} (FL : Fld K cL nsL) (FW : Fld K cW nsW) (F : Fun K "is_within" "Listed.is_within" s_is_within f fd) : FnOk P w K mg base CX0 1 f fd ["self", "word", "gap"] (spT (A_is_within cL cW)) := by
  refine def_ok F sc_is_within (fun ds kr ke h => ?_) fun X C S H σ ds kr ke0 hA ok er Dn hr hn => ?_
  · obtain ⟨s, v, g, rfl, _⟩ := h
    rfl
  · obtain ⟨ke, s, v, g, rfl, hz, hk⟩ := hA
    refine st_set C 3 ok Errs.none (g_sub (g_lenU C B.len (g_at C FW 0 (g_var C 1)) (by omega)) (g_var C 2)) fun H1 σ1 ok1 => ?_
    refine st_ret ok1 Errs.none (gcast (g_andV (g_le (g_max C B.max (a_cons g_int (a_cons (g_at C FL 0 (g_var C 0)) a_nil))) (g_var C 2)) fun _ => g_le (g_max C B.max (a_cons g_int (a_cons (g_at C FL 1 (g_var C 0)) a_nil))) (g_var C 3)) ?_) fun v H' => hr _ v H' hk
    unfold inW
    have e1 : decide (max (1 : Int) (s.l : Int) ≤ (g : Int)) = decide (max 1 s.l ≤ g) := by
      rw [decide_eq_decide]
      omega
    have e2 : decide (max (1 : Int) (s.r : Int) ≤ (v.x.length : Int) - (g : Int)) = decide (max 1 s.r + g ≤ v.x.length) := by
      rw [decide_eq_decide]
      omega
    rw [e1, e2]
abbrev s_goals_of : Stmt := top 15
theorem sc_goals_of : FnScope ["listed", "found", "number", "word", "gap"] ["listed"] (defScope s_goals_of) := ⟨rfl, rfl, rfl, by decide +kernel, rfl, by decide +kernel, by decide +kernel⟩
def A_goals_of (cL cW : Addr) : Pr := fun ds kr _ => ∃ (s : Lst), ds = [eLst cL cW s] ∧ PreL s ∧ kr (dL ((goalsF s).map eGoal))
theorem flat_le {α β : Type} {f : α → List β} {n : Nat} : ∀ {l : List α}, (∀ a ∈ l, (f a).length ≤ n) → (l.flatMap f).length ≤ l.length * n
  | [], _ => Nat.zero_le _
  | a :: l, h => by
    have ih := flat_le (l := l) fun b hb => h b (List.mem_cons_of_mem _ hb)
    have h1 := h a List.mem_cons_self
    rw [List.flatMap_cons, List.length_append, List.length_cons, Nat.succ_mul]
    omega
theorem zip_mem {s : Lst} {a : Word × Nat} (h : a ∈ s.words.zipIdx) : a.1 ∈ s.words := by
  obtain ⟨_, h2, h3⟩ := List.mem_zipIdx h
  rw [h3]
  exact List.getElem_mem _
theorem ok_goals_of (B : Bi mg) {cL cW : Addr} (FL : Fld K cL nsL) (FW : Fld K cW nsW) (hW : HasM P w K mg base CX0 1 cL "is_within" (A_is_within cL cW)) (F : Fun K "goals_of" "goals_of" s_goals_of f fd) : FnOk P w K mg base CX0 2 f fd ["listed"] (spT (A_goals_of cL cW)) := by
  refine def_ok F sc_goals_of (fun ds kr ke h => ?_) fun X C S H σ ds kr ke0 hA ok er Dn hr hn => ?_
  · obtain ⟨s, rfl, _⟩ := h
    rfl
  · obtain ⟨ke, s, rfl, Pl, hk⟩ := hA
    refine st_newL C 1 ok (Nat.le_of_ble_eq_true rfl) fun p H1 σ1 ok1 => ?_
    refine st_for C (f := fun x ss => (ss.set 2 (some (dNat x.2))).set 3 (some (eWord cW x.1))) (is := [2, 3]) ok1 Errs.none (gi_enumL C B.enumerate (g_at C FL 2 (g_var C 0))) (fun x _ ss1 _ => gg_tupT C (ggs_cons (gg_name C 2) (ggs_cons (gg_name C 3) ggs_nil)))
      (fun i ss1 o1 => ∃ x y, ss1 = [some (eLst cL cW s), none, x, y, none] ∧ o1 = [(1, oL ((goalsT s (s.words.zipIdx.take i)).map eGoal))])
      ⟨none, none, rfl, rfl⟩ (fun i ss1 o1 ⟨x, y, h, h'⟩ => by subst h h'; exact ⟨rfl, rfl⟩) ?_ ?_
    · rintro B' eB _ i a ha ss1 o1 ⟨x, y, rfl, rfl⟩ H3 σ3 ok3
      have hm := zip_mem (List.mem_of_getElem? ha)
      have h1 := Pl.len _ hm
      have h2 := Pl.cuts _ hm
      have hb : (goalsT s (s.words.zipIdx.take i)).length ≤ (s.words.zipIdx.take i).length * 16 := flat_le fun b hb => by
        have := Pl.cuts _ (zip_mem (List.mem_of_mem_take hb))
        rw [List.length_map]
        exact Nat.le_trans (List.length_filter_le _ _) this
      have hb2 : (s.words.zipIdx.take i).length ≤ 24 := by
        rw [List.length_take, List.length_zipIdx]
        have := Pl.few
        omega
      have hlf := List.length_filter_le (inW s a.1.x) a.1.cuts
      refine st_ext C ok3 (es := (a.1.cuts.filter (inW s a.1.x)).map fun g => eGoal ⟨a.2, g⟩) (ev_ge ok3 Errs.none (g_lc C [("gap", 4)] (l := a.1.cuts) (enc := fun g => dNat g) (is := [4]) (f := fun g => [some (eLst cL cW s), none, some (dNat a.2), some (eWord cW a.1), some (dNat g)]) (t := inW s a.1.x) (g := fun g => eGoal ⟨a.2, g⟩)
        (gi_list C (g_at C FW 1 (g_var C 3))) (by decide +kernel) (by rw [sizeLine_eq]; omega) (by simp)
        (fun g hg => gg_name (C.blk _ rfl) 4)
        (fun g hg => ts_one (t_val (g_meth (C.blk _ rfl) hW (g_var (C.blk _ rfl) 0) (a_cons (g_var (C.blk _ rfl) 3) (a_cons (g_var (C.blk _ rfl) 4) a_nil)) ⟨s, a.1, g, rfl, h1, rfl⟩)))
        (fun g hg ht => g_tup (a_cons (g_var (C.blk _ rfl) 2) (a_cons (g_var (C.blk _ rfl) 4) a_nil))))) (by rw [List.length_map, List.length_map]; omega) fun H4 ok4 => st_nil ⟨_, _, ⟨some (dNat a.2), some (eWord cW a.1), rfl, rfl⟩, ?_⟩
      refine okf_cast ok4 ?_
      rw [take_succ_of ha]
      unfold goalsT
      rw [List.flatMap_append, List.map_append]
      simp [List.map_map]
      rfl
    · rintro ss1 o1 ⟨x, y, rfl, rfl⟩ H3 σ3 ok3
      rw [List.take_length] at ok3
      exact st_retL C 1 ok3 fun v H' => hr _ v H' hk
end
end Lp
namespace Lp
open PySem PySem.Spec PyProof.Rows L2 Tr
open Vahypc (hasBit lowest Goal Choice better Cand slim putCand)
open Vahypa (Word Lst)
def pointsF (x : List UInt8) (a : Nat) (b e : Bool) : List Pc := [⟨x, a, false, false⟩] ++ (if b = true then [⟨x, a, true, false⟩] else []) ++ (if e = true then [⟨x, a, false, true⟩] else []) ++ (if (b && e) = true then [⟨x, a, true, true⟩] else [])
def aroundT (x : List UInt8) (g n : Nat) (l : List Nat) : List Pc := l.flatMap fun o => if (decide (o ≤ g) && decide (g ≤ o + n)) = true then pointsF ((x.drop o).take n) (g - o) (decide (o = 0)) (decide (o + n = x.length)) else []
def aroundF (x : List UInt8) (g n : Nat) : List Pc := aroundT x g n (List.range (x.length + 1 - n))
def coveredT (s : Lst) (p : Pc) (l : List (Goal × Nat)) : Nat := l.foldl (fun m x => if decide (x.1.g ∈ partedF s p (wordX s x.1.w)) = true then m ||| 1 <<< x.2 else m) 0
def coveredF (s : Lst) (gs : List Goal) (p : Pc) : Nat := coveredT s p gs.zipIdx
section
variable {P : Program} {w : World} {K : PySem.W.Frag} {mg : Str → Option Value} {base : Heap} {f : Addr} {fd : FuncData}
abbrev s_chunk_of : Stmt := top 16
theorem sc_chunk_of : FnScope ["piece", "letters", "at", "is_front", "is_end"] ["piece"] (defScope s_chunk_of) := ⟨rfl, rfl, rfl, by decide +kernel, rfl, by decide +kernel, by decide +kernel⟩
def A_chunk_of : Pr := fun ds kr _ => ∃ p : Pc, ds = [ePc p] ∧ p.x.length ≤ 16 ∧ kr (dU (chunkF p))
theorem ok_chunk_of (B : Bi mg) (hP : Cn mg "POINT_families" (.str (sU [46]))) (hD : Cn mg "DIGIT" (.str (sU [49]))) (F : Fun K "chunk_of" "chunk_of" s_chunk_of f fd) : FnOk P w K mg base CX0 1 f fd ["piece"] (spT A_chunk_of) := by
  refine def_ok F sc_chunk_of (fun ds kr ke h => ?_) fun X C S H σ ds kr ke0 hA ok er Dn hr hn => ?_
  · obtain ⟨p, rfl, _⟩ := h
    rfl
  · obtain ⟨ke, p, rfl, hz, hk⟩ := hA
    refine st_asg ok Errs.none (g_var C 0) (is := [1, 2, 3, 4]) (gg_tupT C (ggs_cons (gg_name C 1) (ggs_cons (gg_name C 2) (ggs_cons (gg_name C 3) (ggs_cons (gg_name C 4) ggs_nil))))) rfl fun H1 σ1 ok1 => ?_
    have hl1 : (p.x.take p.at_).length ≤ 16 := by rw [List.length_take]; omega
    have hl2 : (p.x.drop p.at_).length ≤ 16 := by rw [List.length_drop]; omega
    have hb : ∀ b : Bool, (if b = true then ([46] : List UInt8) else []).length ≤ 1 := fun b => by cases b <;> decide
    have h1 := hb p.f
    have h2 := hb p.e
    refine st_ret ok1 Errs.none (g_addU (g_addU (g_addU (g_addU (g_mulU (x := [46]) (g_cn C hP) (g_intB C B.int (g_var C 3)) (by decide)) (gcast (g_slU (x := p.x) (g_var C 1) po_no (po_e (g_var C 2)) (by omega)) (by rw [cut_lo])) (by omega)) (y := [49]) (g_cn C hD) (by simp only [List.length_append, List.length_singleton]; omega)) (gcast (g_slU (x := p.x) (g_var C 1) (po_e (g_var C 2)) po_no (by omega)) (by rw [cut_hi])) (by simp only [List.length_append, List.length_singleton]; omega)) (g_mulU (x := [46]) (g_cn C hP) (g_intB C B.int (g_var C 4)) (by decide)) (by simp only [List.length_append, List.length_singleton]; omega)) fun v H' => hr _ v H' hk
theorem chunk_le {p : Pc} (h : p.x.length ≤ 16) : (chunkF p).length ≤ 40 := by
  have hl1 : (p.x.take p.at_).length ≤ 16 := by rw [List.length_take]; omega
  have hl2 : (p.x.drop p.at_).length ≤ 16 := by rw [List.length_drop]; omega
  have hb : ∀ b : Bool, (if b = true then ([46] : List UInt8) else []).length ≤ 1 := fun b => by cases b <;> decide
  have h1 := hb p.f
  have h2 := hb p.e
  unfold chunkF
  simp only [List.length_append, List.length_singleton]
  omega
abbrev s_size_of : Stmt := top 17
theorem sc_size_of : FnScope ["piece"] ["piece"] (defScope s_size_of) := ⟨rfl, rfl, rfl, by decide +kernel, rfl, by decide +kernel, by decide +kernel⟩
def A_size_of : Pr := fun ds kr _ => ∃ p : Pc, ds = [ePc p] ∧ p.x.length ≤ 16 ∧ kr (dNat (chunkF p).length)
theorem ok_size_of (B : Bi mg) (hC : Has P w K mg base CX0 1 "chunk_of" A_chunk_of) (F : Fun K "size_of" "size_of" s_size_of f fd) : FnOk P w K mg base CX0 2 f fd ["piece"] (spT A_size_of) := by
  refine def_ok F sc_size_of (fun ds kr ke h => ?_) fun X C S H σ ds kr ke0 hA ok er Dn hr hn => ?_
  · obtain ⟨p, rfl, _⟩ := h
    rfl
  · obtain ⟨ke, p, rfl, hz, hk⟩ := hA
    have hc := chunk_le hz
    exact st_ret ok Errs.none (g_lenU C B.len (g_call C hC (a_cons (g_var C 0) a_nil) ⟨p, rfl, hz, rfl⟩) (by omega)) fun v H' => hr _ v H' hk
abbrev s_places_in : Stmt := top 18
theorem sc_places_in : FnScope ["piece", "letters", "own", "at", "is_front", "is_end", "last", "found", "place"] ["piece", "letters"] (defScope s_places_in) := ⟨rfl, rfl, rfl, by decide +kernel, rfl, by decide +kernel, by decide +kernel⟩
def A_places_in : Pr := fun ds kr _ => ∃ (p : Pc) (x : List UInt8), ds = [ePc p, dU x] ∧ p.x.length ≤ 16 ∧ x.length ≤ 16 ∧ kr (dL ((placesF p x).map fun i => dNat i))
theorem ok_places_in (B : Bi mg) (F : Fun K "places_in" "places_in" s_places_in f fd) : FnOk P w K mg base CX0 1 f fd ["piece", "letters"] (spT A_places_in) := by
  refine def_ok F sc_places_in (fun ds kr ke h => ?_) fun X C S H σ ds kr ke0 hA ok er Dn hr hn => ?_
  · obtain ⟨p, x, rfl, _⟩ := h
    rfl
  · obtain ⟨ke, p, x, rfl, hp, hx, hk⟩ := hA
    refine st_asg ok Errs.none (g_var C 0) (is := [2, 3, 4, 5]) (gg_tupT C (ggs_cons (gg_name C 2) (ggs_cons (gg_name C 3) (ggs_cons (gg_name C 4) (ggs_cons (gg_name C 5) ggs_nil))))) rfl fun H1 σ1 ok1 => ?_
    refine st_set C 6 ok1 Errs.none (g_sub (g_lenU C B.len (x := x) (g_var C 1) (by omega)) (g_lenU C B.len (x := p.x) (g_var C 2) (by omega))) fun H2 σ2 ok2 => ?_
    have el : (((x.length : Int) - (p.x.length : Int)) + 1).toNat = x.length + 1 - p.x.length := by omega
    refine st_setLc C 7 [("place", 8)] ok2 (Errs.none (E := E0)) (l := List.range (x.length + 1 - p.x.length)) (enc := fun i => dNat i) (is := [8]) (f := fun o => [some (ePc p), some (dU x), some (dU p.x), some (dNat p.at_), some (dB p.f), some (dB p.e), some (dI ((x.length : Int) - (p.x.length : Int))), none, some (dNat o)]) (t := fun o => decide ((x.drop o).take p.x.length = p.x)) (g := fun o => dNat o)
      (by rw [← rngD0, ← el]; exact gi_range C B.range (g_add (g_var C 6) g_int) (by omega)) (by decide +kernel) (by rw [List.length_range, sizeLine_eq]; omega) (by simp)
      (fun o ho => gg_name (C.blk _ rfl) 8)
      (fun o ho => ts_one (t_eqU (gcast (g_slU (x := x) (g_var (C.blk _ rfl) 1) (po_e (g_var (C.blk _ rfl) 8)) (po_e (g_add (g_var (C.blk _ rfl) 8) (g_lenU (C.blk _ rfl) B.len (x := p.x) (g_var (C.blk _ rfl) 2) (by omega)))) (by omega)) (by rw [← Int.natCast_add, cut_mid _ _ _ (by have := List.mem_range.mp ho; omega)])) (g_var (C.blk _ rfl) 2)))
      (fun o ho ht => g_var (C.blk _ rfl) 8) fun H3 σ3 ok3 => ?_
    refine st_ret ok3 Errs.none (gcast (g_lc C [("place", 8)] (l := (List.range (x.length + 1 - p.x.length)).filter fun o => decide ((x.drop o).take p.x.length = p.x)) (enc := fun i => dNat i) (is := [8]) (f := fun o => [some (ePc p), some (dU x), some (dU p.x), some (dNat p.at_), some (dB p.f), some (dB p.e), some (dI ((x.length : Int) - (p.x.length : Int))), some (dL (((List.range (x.length + 1 - p.x.length)).filter fun o => decide ((x.drop o).take p.x.length = p.x)).map fun o => dNat o)), some (dNat o)]) (t := fun o => !(p.f && decide (0 < o)) && !(p.e && decide (o + p.x.length < x.length))) (g := fun o => dNat o)
      (gi_list C (g_var C 7)) (by decide +kernel) (by refine Nat.le_trans (List.length_filter_le _ _) ?_; rw [List.length_range, sizeLine_eq]; omega) (by simp)
      (fun o ho => gg_name (C.blk _ rfl) 8)
      (fun o ho => ts_one (tcast (t_and (t_not (t_and (t_val (g_var (C.blk _ rfl) 4)) fun _ => t_gt (g_var (C.blk _ rfl) 8) g_int)) fun _ => t_not (t_and (t_val (g_var (C.blk _ rfl) 5)) fun _ => t_lt (g_var (C.blk _ rfl) 8) (g_var (C.blk _ rfl) 6))) ?_))
      (fun o ho ht => g_var (C.blk _ rfl) 8)) rfl) fun v H' => hr _ v H' hk
    have e1 : decide ((0 : Int) < (o : Int)) = decide (0 < o) := by rw [decide_eq_decide]; omega
    have e2 : decide ((o : Int) < (x.length : Int) - (p.x.length : Int)) = decide (o + p.x.length < x.length) := by rw [decide_eq_decide]; omega
    rw [e1, e2]
abbrev s_parted_by : Stmt := top 19
theorem sc_parted_by : FnScope ["listed", "piece", "word", "gaps", "place", "gap"] ["listed", "piece", "word"] (defScope s_parted_by) := ⟨rfl, rfl, rfl, by decide +kernel, rfl, by decide +kernel, by decide +kernel⟩
def A_parted_by (cL cW : Addr) : Pr := fun ds kr _ => ∃ (s : Lst) (p : Pc) (v : Word), ds = [eLst cL cW s, ePc p, eWord cW v] ∧ p.x.length ≤ 16 ∧ v.x.length ≤ 16 ∧ kr (dL ((partedF s p v.x).map fun i => dNat i))
theorem places_le (p : Pc) (x : List UInt8) : (placesF p x).length ≤ x.length + 1 := by
  unfold placesF
  refine Nat.le_trans (List.length_filter_le _ _) (Nat.le_trans (List.length_filter_le _ _) ?_)
  rw [List.length_range]
  omega
theorem ok_parted_by (B : Bi mg) {cL cW : Addr} (FW : Fld K cW nsW) (hW : HasM P w K mg base CX0 1 cL "is_within" (A_is_within cL cW)) (hPl : Has P w K mg base CX0 1 "places_in" A_places_in) (F : Fun K "parted_by" "parted_by" s_parted_by f fd) : FnOk P w K mg base CX0 2 f fd ["listed", "piece", "word"] (spT (A_parted_by cL cW)) := by
  refine def_ok F sc_parted_by (fun ds kr ke h => ?_) fun X C S H σ ds kr ke0 hA ok er Dn hr hn => ?_
  · obtain ⟨s, p, v, rfl, _⟩ := h
    rfl
  · obtain ⟨ke, s, p, v, rfl, hp, hv, hk⟩ := hA
    have hpl := places_le p v.x
    refine st_setLc C 3 [("place", 4)] ok (Errs.none (E := E0)) (l := placesF p v.x) (enc := fun i => dNat i) (is := [4]) (f := fun o => [some (eLst cL cW s), some (ePc p), some (eWord cW v), none, some (dNat o), none]) (t := fun _ => true) (g := fun o => dNat (o + p.at_))
      (gi_list C (g_call C hPl (a_cons (g_var C 1) (a_cons (g_at C FW 0 (g_var C 2)) a_nil)) ⟨p, v.x, rfl, hp, hv, rfl⟩)) (by decide +kernel) (by rw [sizeLine_eq]; omega) (by simp)
      (fun o ho => gg_name (C.blk _ rfl) 4) (fun o ho => ts_nil)
      (fun o ho ht => gcast (g_add (g_var (C.blk _ rfl) 4) (g_ixT (C.blk _ rfl) (g_var (C.blk _ rfl) 1) g_int (n := 1) rfl rfl)) rfl) fun H1 σ1 ok1 => ?_
    have e1 : (((placesF p v.x).filter fun _ => true).map fun o => dNat (o + p.at_)) = ((placesF p v.x).map (· + p.at_)).map fun i => dNat i := by rw [filter_yes, List.map_map]; rfl
    rw [e1] at ok1
    exact st_ret ok1 Errs.none (g_lc C [("gap", 5)] (l := (placesF p v.x).map (· + p.at_)) (enc := fun i => dNat i) (is := [5]) (f := fun g => [some (eLst cL cW s), some (ePc p), some (eWord cW v), some (dL (((placesF p v.x).map (· + p.at_)).map fun i => dNat i)), none, some (dNat g)]) (t := inW s v.x) (g := fun g => dNat g)
      (gi_list C (g_var C 3)) (by decide +kernel) (by rw [List.length_map, sizeLine_eq]; omega) (by simp)
      (fun o ho => gg_name (C.blk _ rfl) 5)
      (fun g hg => ts_one (t_val (g_meth (C.blk _ rfl) hW (g_var (C.blk _ rfl) 0) (a_cons (g_var (C.blk _ rfl) 2) (a_cons (g_var (C.blk _ rfl) 5) a_nil)) ⟨s, v, g, rfl, hv, rfl⟩)))
      (fun g hg ht => g_var (C.blk _ rfl) 5)) fun v H' => hr _ v H' hk
end
end Lp
namespace Lp
open PySem PySem.Spec PyProof.Rows L2 Tr
open Vahypc (hasBit lowest Goal Choice better Cand slim putCand)
open Vahypa (Word Lst)
theorem parted_le (s : Lst) (p : Pc) (x : List UInt8) : (partedF s p x).length ≤ x.length + 1 := by
  unfold partedF
  refine Nat.le_trans (List.length_filter_le _ _) ?_
  rw [List.length_map]
  exact places_le p x
theorem points_le (x : List UInt8) (a : Nat) (b e : Bool) : (pointsF x a b e).length ≤ 4 := by
  unfold pointsF
  cases b <;> cases e <;> exact Nat.le_of_ble_eq_true rfl
theorem around_le (x : List UInt8) (g n : Nat) (l : List Nat) : (aroundT x g n l).length ≤ l.length * 4 := by
  unfold aroundT
  refine flat_le fun o _ => ?_
  split
  · exact points_le _ _ _ _
  · exact Nat.zero_le _
theorem around_mem {x : List UInt8} {g n : Nat} {p : Pc} (h : p ∈ aroundF x g n) : p.x.length ≤ x.length := by
  unfold aroundF aroundT at h
  obtain ⟨o, _, h⟩ := List.mem_flatMap.mp h
  split at h
  · unfold pointsF at h
    have e : p.x = (x.drop o).take n := by
      simp only [List.mem_append] at h
      rcases h with ((h | h) | h) | h
      · rw [List.mem_singleton.mp h]
      · split at h
        · rw [List.mem_singleton.mp h]
        · cases h
      · split at h
        · rw [List.mem_singleton.mp h]
        · cases h
      · split at h
        · rw [List.mem_singleton.mp h]
        · cases h
    rw [e, List.length_take, List.length_drop]
    omega
  · cases h
theorem mem_cast (g : Nat) (l : List Nat) : decide ((g : Int) ∈ l.map fun (c : Nat) => (c : Int)) = decide (g ∈ l) := by
  rw [decide_eq_decide, List.mem_map]
  constructor
  · rintro ⟨a, ha, e⟩
    have : a = g := by omega
    rw [← this]
    exact ha
  · exact fun h => ⟨g, h, rfl⟩
theorem dec_int {a b : Int} {q : Prop} [Decidable q] (h : a = b ↔ q) : decide (V.int a = V.int b) = decide q := by
  rw [decide_eq_decide]
  exact ⟨fun e => h.mp (V.int.inj e), fun e => by rw [h.mpr e]⟩
theorem word_at {s : Lst} {i : Nat} (h : i < s.words.length) : s.words[i]? = some (s.words.getD i ⟨[], []⟩) ∧ (s.words.getD i ⟨[], []⟩).x = wordX s i ∧ s.words.getD i ⟨[], []⟩ ∈ s.words := by
  have e : s.words[i]? = some s.words[i] := List.getElem?_eq_getElem h
  refine ⟨?_, ?_, ?_⟩
  · rw [List.getD_eq_getElem?_getD, e]
    rfl
  · unfold wordX
    rw [List.getD_eq_getElem?_getD, e]
    rfl
  · rw [List.getD_eq_getElem?_getD, e]
    exact List.getElem_mem h
section
variable {P : Program} {w : World} {K : PySem.W.Frag} {mg : Str → Option Value} {base : Heap} {f : Addr} {fd : FuncData}
abbrev s_is_good : Stmt := top 20
theorem sc_is_good : FnScope ["listed", "piece", "word", "gap"] ["listed", "piece"] (defScope s_is_good) := ⟨rfl, rfl, rfl, by decide +kernel, rfl, by decide +kernel, by decide +kernel⟩
def A_is_good (cL cW : Addr) : Pr := fun ds kr _ => ∃ (s : Lst) (p : Pc), ds = [eLst cL cW s, ePc p] ∧ PreL s ∧ p.x.length ≤ 16 ∧ kr (dB (goodF s p))
theorem all_take_none {α : Type} {q : α → Bool} {l : List α} {i : Nat} {a : α} (h : (l.take i).all q = true) (ha : l[i]? = some a) : (q a = true → (l.take (i + 1)).all q = true) ∧ (q a = false → l.all q = false) := by
  refine ⟨fun z => ?_, fun z => ?_⟩
  · rw [take_succ_of ha, List.all_append, h]
    simp [z]
  · cases e : l.all q with
    | false => rfl
    | true =>
      have := List.all_eq_true.mp e a (List.mem_of_getElem? ha)
      rw [z] at this
      cases this
theorem ok_is_good (B : Bi mg) {cL cW : Addr} (FL : Fld K cL nsL) (FW : Fld K cW nsW) (hP : Has P w K mg base CX0 2 "parted_by" (A_parted_by cL cW)) (F : Fun K "is_good" "is_good" s_is_good f fd) : FnOk P w K mg base CX0 3 f fd ["listed", "piece"] (spT (A_is_good cL cW)) := by
  refine def_ok F sc_is_good (fun ds kr ke h => ?_) fun X C S H σ ds kr ke0 hA ok er Dn hr hn => ?_
  · obtain ⟨s, p, rfl, _⟩ := h
    rfl
  · obtain ⟨ke, s, p, rfl, Pl, hp, hk⟩ := hA
    refine st_for C (f := fun v ss => ss.set 2 (some (eWord cW v))) (is := [2]) ok Errs.none (gi_list C (g_at C FL 2 (g_var C 0))) (fun x _ ss1 _ => gg_name C 2)
      (fun i ss1 o1 => ∃ x, ss1 = [some (eLst cL cW s), some (ePc p), x, none] ∧ o1 = [] ∧ (s.words.take i).all (fun v => (partedF s p v.x).all fun g => decide (g ∈ v.cuts)) = true)
      ⟨none, rfl, rfl, rfl⟩ (fun i ss1 o1 ⟨x, h, h', _⟩ => by subst h h'; exact ⟨rfl, rfl⟩) ?_ ?_
    · rintro B' eB _ i v hv ss1 o1 ⟨x, rfl, rfl, hall⟩ H3 σ3 ok3
      have hm : v ∈ s.words := List.mem_of_getElem? hv
      have h1 := Pl.len _ hm
      have hl := parted_le s p v.x
      obtain ⟨a1, a2⟩ := all_take_none hall hv
      have e1 : ((partedF s p v.x).map fun g => !decide (g ∈ v.cuts)).any id = !((partedF s p v.x).all fun g => decide (g ∈ v.cuts)) := by
        rw [List.any_map, List.all_eq_not_any_not]
        simp only [Bool.not_not]
        rfl
      refine st_if ok3 Errs.none (tcast (t_val (g_any C (bs := (partedF s p v.x).map fun g => !decide (g ∈ v.cuts)) B.any (gcast (g_lc C [("gap", 3)] (l := partedF s p v.x) (enc := fun g => dNat g) (is := [3]) (f := fun g => [some (eLst cL cW s), some (ePc p), some (eWord cW v), some (dNat g)]) (t := fun _ => true) (g := fun g => dB (!decide (g ∈ v.cuts)))
        (gi_list C (g_call C hP (a_cons (g_var C 0) (a_cons (g_var C 1) (a_cons (g_var C 2) a_nil))) ⟨s, p, v, rfl, hp, h1, rfl⟩)) (by decide +kernel) (by rw [sizeLine_eq]; omega) (by simp)
        (fun g hg => gg_name (C.blk _ rfl) 3) (fun g hg => ts_nil)
        (fun g hg ht => gcast (g_ninLs (C.blk _ rfl) (u := .int (g : Int)) (us := (v.cuts.map fun (c : Nat) => (c : Int)).map V.int) (g_var (C.blk _ rfl) 3) (gcast (g_ofL (g_at (C.blk _ rfl) FW 1 (g_var (C.blk _ rfl) 2))) (by rw [List.map_map, List.map_map]; rfl)) rfl (by simp [flatV])) (by rw [inV_ints, mem_cast]))) (by rw [filter_yes, List.map_map]; rfl)))) e1) (fun ht H4 ok4 => ?_) (fun ht H4 ok4 => ?_)
      · have e : goodF s p = false := a2 (by simpa using ht)
        rw [e] at hk
        exact st_ret ok4 (Errs.none (E := E0)) g_bl fun v H' e1 => hr _ v H' hk (eB.trans e1)
      · exact st_nil (st_nil ⟨_, _, ⟨some (eWord cW v), rfl, rfl, a1 (by simpa using ht)⟩, ok4⟩)
    · rintro ss1 o1 ⟨x, rfl, rfl, hall⟩ H3 σ3 ok3
      rw [List.take_length] at hall
      have e : goodF s p = true := hall
      rw [e] at hk
      exact st_ret ok3 (Errs.none (E := E0)) g_bl fun v H' => hr _ v H' hk
abbrev s_with_points : Stmt := top 21
theorem sc_with_points : FnScope ["letters", "at", "begins", "ends", "found"] ["letters", "at", "begins", "ends"] (defScope s_with_points) := ⟨rfl, rfl, rfl, by decide +kernel, rfl, by decide +kernel, by decide +kernel⟩
def A_with_points : Pr := fun ds kr _ => ∃ (x : List UInt8) (a : Nat) (b e : Bool), ds = [dU x, dNat a, dB b, dB e] ∧ kr (dL ((pointsF x a b e).map ePc))
theorem ok_with_points (F : Fun K "with_points" "with_points" s_with_points f fd) : FnOk P w K mg base CX0 1 f fd ["letters", "at", "begins", "ends"] (spT A_with_points) := by
  refine def_ok F sc_with_points (fun ds kr ke h => ?_) fun X C S H σ ds kr ke0 hA ok er Dn hr hn => ?_
  · obtain ⟨x, a, b, e, rfl, _⟩ := h
    rfl
  · obtain ⟨ke, x, a, b, e, rfl, hk⟩ := hA
    refine st_newLs C 4 ok (Errs.none (E := E0)) (a_cons (g_tup (a_cons (g_var C 0) (a_cons (g_var C 1) (a_cons g_bl (a_cons g_bl a_nil))))) a_nil) (Nat.le_of_ble_eq_true rfl) (Nat.le_of_ble_eq_true rfl) fun p H1 σ1 ok1 => ?_
    cases b <;> cases e
    · refine st_if ok1 Errs.none (t_val (g_var C 2)) (fun z => by cases z) fun _ H2 ok2 => st_nil ?_
      refine st_if ok2 Errs.none (t_val (g_var C 3)) (fun z => by cases z) fun _ H3 ok3 => st_nil ?_
      refine st_if ok3 Errs.none (t_and (q := false) (t_val (g_var C 2)) fun z => by cases z) (fun z => by cases z) fun _ H4 ok4 => st_nil ?_
      exact st_retL C 4 ok4 fun v H'' => hr _ v H'' hk
    · refine st_if ok1 Errs.none (t_val (g_var C 2)) (fun z => by cases z) fun _ H2 ok2 => st_nil ?_
      refine st_if ok2 Errs.none (t_val (g_var C 3)) (fun _ H3 ok3 => ?_) fun z => by cases z
      refine st_app C ok3 (ev_ge ok3 Errs.none (g_tup (a_cons (g_var C 0) (a_cons (g_var C 1) (a_cons g_bl (a_cons g_bl a_nil)))))) (Nat.le_of_ble_eq_true rfl) fun H4 ok4 => st_nil ?_
      refine st_if ok4 Errs.none (t_and (q := false) (t_val (g_var C 2)) fun z => by cases z) (fun z => by cases z) fun _ H5 ok5 => st_nil ?_
      exact st_retL C 4 ok5 fun v H'' => hr _ v H'' hk
    · refine st_if ok1 Errs.none (t_val (g_var C 2)) (fun _ H2 ok2 => ?_) fun z => by cases z
      refine st_app C ok2 (ev_ge ok2 Errs.none (g_tup (a_cons (g_var C 0) (a_cons (g_var C 1) (a_cons g_bl (a_cons g_bl a_nil)))))) (Nat.le_of_ble_eq_true rfl) fun H3 ok3 => st_nil ?_
      refine st_if ok3 Errs.none (t_val (g_var C 3)) (fun z => by cases z) fun _ H4 ok4 => st_nil ?_
      refine st_if ok4 Errs.none (t_and (t_val (g_var C 2)) fun _ => t_val (g_var C 3)) (fun z => by cases z) fun _ H5 ok5 => st_nil ?_
      exact st_retL C 4 ok5 fun v H'' => hr _ v H'' hk
    · refine st_if ok1 Errs.none (t_val (g_var C 2)) (fun _ H2 ok2 => ?_) fun z => by cases z
      refine st_app C ok2 (ev_ge ok2 Errs.none (g_tup (a_cons (g_var C 0) (a_cons (g_var C 1) (a_cons g_bl (a_cons g_bl a_nil)))))) (Nat.le_of_ble_eq_true rfl) fun H3 ok3 => st_nil ?_
      refine st_if ok3 Errs.none (t_val (g_var C 3)) (fun _ H4 ok4 => ?_) fun z => by cases z
      refine st_app C ok4 (ev_ge ok4 Errs.none (g_tup (a_cons (g_var C 0) (a_cons (g_var C 1) (a_cons g_bl (a_cons g_bl a_nil)))))) (Nat.le_of_ble_eq_true rfl) fun H5 ok5 => st_nil ?_
      refine st_if ok5 Errs.none (t_and (t_val (g_var C 2)) fun _ => t_val (g_var C 3)) (fun _ H6 ok6 => ?_) fun z => by cases z
      refine st_app C ok6 (ev_ge ok6 Errs.none (g_tup (a_cons (g_var C 0) (a_cons (g_var C 1) (a_cons g_bl (a_cons g_bl a_nil)))))) (Nat.le_of_ble_eq_true rfl) fun H7 ok7 => st_nil ?_
      exact st_retL C 4 ok7 fun v H'' => hr _ v H'' hk
abbrev s_around : Stmt := top 22
theorem sc_around : FnScope ["letters", "gap", "length", "found", "place", "own"] ["letters", "gap", "length"] (defScope s_around) := ⟨rfl, rfl, rfl, by decide +kernel, rfl, by decide +kernel, by decide +kernel⟩
def A_around : Pr := fun ds kr _ => ∃ (x : List UInt8) (g n : Nat), ds = [dU x, dNat g, dNat n] ∧ x.length ≤ 16 ∧ n ≤ 100 ∧ kr (dL ((aroundF x g n).map ePc))
theorem ok_around (B : Bi mg) (hP : Has P w K mg base CX0 1 "with_points" A_with_points) (F : Fun K "around" "around" s_around f fd) : FnOk P w K mg base CX0 2 f fd ["letters", "gap", "length"] (spT A_around) := by
  refine def_ok F sc_around (fun ds kr ke h => ?_) fun X C S H σ ds kr ke0 hA ok er Dn hr hn => ?_
  · obtain ⟨x, g, n, rfl, _⟩ := h
    rfl
  · obtain ⟨ke, x, g, n, rfl, hx, hn', hk⟩ := hA
    refine st_newL C 3 ok (Nat.le_of_ble_eq_true rfl) fun p H1 σ1 ok1 => ?_
    have el : (((x.length : Int) - (n : Int)) + 1).toNat = x.length + 1 - n := by omega
    refine st_for C (l := List.range (x.length + 1 - n)) (enc := fun i => dNat i) (f := fun o ss => ss.set 4 (some (dNat o))) (is := [4]) ok1 (Errs.none (E := E0)) (by rw [← rngD0, ← el]; exact gi_range C B.range (g_add (g_sub (g_lenU C B.len (x := x) (g_var C 0) (by omega)) (g_var C 2)) g_int) (by omega)) (fun o _ ss1 _ => gg_name C 4)
      (fun i ss1 o1 => ∃ y z, ss1 = [some (dU x), some (dNat g), some (dNat n), none, y, z] ∧ o1 = [(3, oL ((aroundT x g n ((List.range (x.length + 1 - n)).take i)).map ePc))])
      ⟨none, none, rfl, rfl⟩ (fun i ss1 o1 ⟨y, z, h, h'⟩ => by subst h h'; exact ⟨rfl, rfl⟩) ?_ ?_
    · rintro B' eB _ i o ho ss1 o1 ⟨y, z, rfl, rfl⟩ H3 σ3 ok3
      have hm := List.mem_range.mp (List.mem_of_getElem? ho)
      have hb := around_le x g n ((List.range (x.length + 1 - n)).take i)
      rw [List.length_take, List.length_range] at hb
      have e1 : (decide ((o : Int) ≤ (g : Int)) && decide ((g : Int) ≤ (o : Int) + (n : Int))) = (decide (o ≤ g) && decide (g ≤ o + n)) := by
        congr 1 <;> rw [decide_eq_decide] <;> omega
      have next : aroundT x g n ((List.range (x.length + 1 - n)).take (i + 1)) = aroundT x g n ((List.range (x.length + 1 - n)).take i) ++ aroundT x g n [o] := by
        rw [take_succ_of ho]
        unfold aroundT
        rw [List.flatMap_append]
      refine st_if ok3 (Errs.none (E := E0)) (tcast (t_le_le (g_var C 4) (g_var C 1) (g_add (g_var C 4) (g_var C 2))) e1) (fun ht H4 ok4 => ?_) (fun ht H4 ok4 => ?_)
      · have hog : o ≤ g := by
          rw [Bool.and_eq_true] at ht
          exact of_decide_eq_true ht.1
        refine st_set C 5 ok4 (Errs.none (E := E0)) (gcast (g_slU (x := x) (g_var C 0) (po_e (g_var C 4)) (po_e (g_add (g_var C 4) (g_var C 2))) (by omega)) (by rw [← Int.natCast_add, cut_mid _ _ _ (by omega)])) fun H5 σ5 ok5 => ?_
        have hp := points_le ((x.drop o).take n) (g - o) (decide (o = 0)) (decide (o + n = x.length))
        refine st_ext C ok5 (es := (pointsF ((x.drop o).take n) (g - o) (decide (o = 0)) (decide (o + n = x.length))).map ePc) (ev_ge ok5 (Errs.none (E := E0)) (g_call C hP (a_cons (g_var C 5) (a_cons (gcast (g_sub (g_var C 1) (g_var C 4)) (d' := dNat (g - o)) (by show dI _ = dI _; congr 1; omega)) (a_cons (gcast (g_eq (g_var C 4) g_int) (d' := dB (decide (o = 0))) (by rw [dec_int (show ((o : Int) = 0) ↔ o = 0 by omega)])) (a_cons (gcast (g_eq (g_add (g_var C 4) (g_var C 2)) (g_lenU C B.len (x := x) (g_var C 0) (by omega))) (d' := dB (decide (o + n = x.length))) (by rw [dec_int (show ((o : Int) + (n : Int) = (x.length : Int)) ↔ o + n = x.length by omega)])) a_nil))))
          ⟨(x.drop o).take n, g - o, _, _, rfl, rfl⟩)) (by rw [List.length_map, List.length_map]; omega) fun H6 ok6 => st_nil (st_nil ⟨_, _, ⟨some (dNat o), some (dU ((x.drop o).take n)), rfl, rfl⟩, ?_⟩)
        refine okf_cast ok6 ?_
        rw [next]
        unfold aroundT
        rw [List.flatMap_cons, List.flatMap_nil, List.append_nil, if_pos ht, List.map_append]
      · refine st_nil (st_nil ⟨_, _, ⟨some (dNat o), z, rfl, rfl⟩, ?_⟩)
        refine okf_cast ok4 ?_
        rw [next]
        conv => rhs; unfold aroundT
        rw [List.flatMap_cons, List.flatMap_nil, List.append_nil, if_neg (by rw [ht]; exact Bool.false_ne_true), List.append_nil]
        rfl
    · rintro ss1 o1 ⟨y, z, rfl, rfl⟩ H3 σ3 ok3
      rw [List.take_length] at ok3
      exact st_retL C 3 ok3 fun v H' => hr _ v H' hk
abbrev s_covered_by : Stmt := top 24
theorem sc_covered_by : FnScope ["listed", "goals", "piece", "found", "k", "number", "gap"] ["listed", "goals", "piece"] (defScope s_covered_by) := ⟨rfl, rfl, rfl, by decide +kernel, rfl, by decide +kernel, by decide +kernel⟩
def A_covered_by (cL cW : Addr) : Pr := fun ds kr _ => ∃ (s : Lst) (gs : List Goal) (p : Pc), ds = [eLst cL cW s, dL (gs.map eGoal), ePc p] ∧ PreL s ∧ p.x.length ≤ 16 ∧ gs.length ≤ 60 ∧ (∀ x ∈ gs, x.w < s.words.length) ∧ kr (dNat (coveredF s gs p))
theorem ok_covered_by (B : Bi mg) {cL cW : Addr} (FL : Fld K cL nsL) (hP : Has P w K mg base CX0 2 "parted_by" (A_parted_by cL cW)) (F : Fun K "covered_by" "covered_by" s_covered_by f fd) : FnOk P w K mg base CX0 3 f fd ["listed", "goals", "piece"] (spT (A_covered_by cL cW)) := by
  refine def_ok F sc_covered_by (fun ds kr ke h => ?_) fun X C S H σ ds kr ke0 hA ok er Dn hr hn => ?_
  · obtain ⟨s, gs, p, rfl, _⟩ := h
    rfl
  · obtain ⟨ke, s, gs, p, rfl, Pl, hp, h60, hgs, hk⟩ := hA
    refine st_set C 3 (d := dNat 0) ok (Errs.none (E := E0)) g_int fun H1 σ1 ok1 => ?_
    refine st_for C (f := fun (x : Goal × Nat) ss => ((ss.set 4 (some (dNat x.2))).set 5 (some (dNat x.1.w))).set 6 (some (dNat x.1.g))) (is := [4, 5, 6]) (l := gs.zipIdx) (enc := fun x => dT [dNat x.2, eGoal x.1]) ok1 (Errs.none (E := E0)) (gi_enumL C (l := gs) (enc := eGoal) B.enumerate (g_var C 1)) (fun x _ ss1 _ => gg_tupT C (ggs_cons (gg_name C 4) (ggs_cons (gg_tupT C (ggs_cons (gg_name C 5) (ggs_cons (gg_name C 6) ggs_nil))) ggs_nil)))
      (fun i ss1 o1 => ∃ x y z, ss1 = [some (eLst cL cW s), some (dL (gs.map eGoal)), some (ePc p), some (dNat (coveredT s p (gs.zipIdx.take i))), x, y, z] ∧ o1 = [])
      ⟨none, none, none, rfl, rfl⟩ (fun i ss1 o1 ⟨x, y, z, h, h'⟩ => by subst h h'; exact ⟨rfl, rfl⟩) ?_ ?_
    · rintro B' eB _ i a ha ss1 o1 ⟨x, y, z, rfl, rfl⟩ H3 σ3 ok3
      obtain ⟨_, h2, h3⟩ := List.mem_zipIdx (List.mem_of_getElem? ha)
      simp only [Nat.zero_add, Nat.sub_zero] at h2 h3
      have hg : a.1 ∈ gs := by rw [h3]; exact List.getElem_mem _
      obtain ⟨w1, w2, w3⟩ := word_at (hgs _ hg)
      have hw16 := Pl.len _ w3
      have next : coveredT s p (gs.zipIdx.take (i + 1)) = if decide (a.1.g ∈ partedF s p (wordX s a.1.w)) = true then coveredT s p (gs.zipIdx.take i) ||| 1 <<< a.2 else coveredT s p (gs.zipIdx.take i) := by
        rw [take_succ_of ha, coveredT, List.foldl_append]
        rfl
      rw [next]
      refine st_if ok3 (Errs.none (E := E0)) (tcast (t_inLs C (u := .int (a.1.g : Int)) (us := ((partedF s p (wordX s a.1.w)).map fun (c : Nat) => (c : Int)).map V.int) (g_var C 6) (gcast (g_ofL (g_call C hP (a_cons (g_var C 0) (a_cons (g_var C 2) (a_cons (g_ixL C (g_at C FL 2 (g_var C 0)) (g_var C 5) rfl (by rw [List.getElem?_map, w1]; rfl)) a_nil))) ⟨s, p, s.words.getD a.1.w ⟨[], []⟩, rfl, hp, hw16, rfl⟩)) (by rw [w2, List.map_map, List.map_map]; rfl)) rfl (by simp [flatV])) (by rw [inV_ints, mem_cast])) (fun ht H4 ok4 => ?_) (fun ht H4 ok4 => ?_)
      · rw [if_pos ht]
        refine st_set C 3 ok4 (Errs.none (E := E0)) (g_orN (g_var C 3) (g_shlN (m := 1) g_int (g_var C 4) (by decide) (by omega))) fun H5 σ5 ok5 => st_nil (st_nil ⟨_, _, ⟨some (dNat a.2), some (dNat a.1.w), some (dNat a.1.g), rfl, rfl⟩, ok5⟩)
      · rw [if_neg (by rw [ht]; exact Bool.false_ne_true)]
        exact st_nil (st_nil ⟨_, _, ⟨some (dNat a.2), some (dNat a.1.w), some (dNat a.1.g), rfl, rfl⟩, ok4⟩)
    · rintro ss1 o1 ⟨x, y, z, rfl, rfl⟩ H3 σ3 ok3
      rw [List.take_length] at ok3
      exact st_ret ok3 (Errs.none (E := E0)) (g_var C 3) fun v H' => hr _ v H' hk
end
end Lp
namespace Lp
open PySem PySem.Spec PyProof.Rows L2 Tr
open Vahypc (hasBit lowest Goal Choice better Cand slim putCand)
open Vahypa (Word Lst)
def aroundG (s : Lst) (g : Goal) (l : List Nat) : List Pc := l.flatMap fun k => aroundF (wordX s g.w) g.g (1 + k)
def allP (s : Lst) (m : Nat) (gs : List Goal) : List Pc := gs.flatMap fun g => aroundG s g (List.range m)
def putAll (l : List Pc) : List Pc := l.foldl putS []
def piecesF (s : Lst) (m : Nat) : List Pc := (putAll (allP s m (goalsF s))).filter (goodF s)
theorem putAll_snoc (l : List Pc) (p : Pc) : putAll (l ++ [p]) = putS (putAll l) p := by
  unfold putAll
  rw [List.foldl_append]
  rfl
theorem putS_le (ks : List Pc) (p : Pc) : (putS ks p).length ≤ ks.length + 1 := by
  unfold putS
  split
  · omega
  · rw [List.length_append]; exact Nat.le_refl _
theorem putAll_le (l : List Pc) : (putAll l).length ≤ l.length := by
  have go : ∀ (l acc : List Pc), (l.foldl putS acc).length ≤ acc.length + l.length := by
    intro l
    induction l with
    | nil => intro acc; exact Nat.le_refl _
    | cons c l ih =>
      intro acc
      have h1 := ih (putS acc c)
      have h2 := putS_le acc c
      simp only [List.foldl_cons, List.length_cons]
      omega
  have := go l []
  simpa [putAll] using this
theorem putS_mem {ks : List Pc} {p q : Pc} (h : q ∈ putS ks p) : q ∈ ks ∨ q = p := by
  unfold putS at h
  split at h
  · exact .inl h
  · rcases List.mem_append.mp h with h | h
    · exact .inl h
    · exact .inr (List.mem_singleton.mp h)
theorem putAll_mem {l : List Pc} {q : Pc} (h : q ∈ putAll l) : q ∈ l := by
  have go : ∀ (l acc : List Pc), q ∈ l.foldl putS acc → q ∈ acc ∨ q ∈ l := by
    intro l
    induction l with
    | nil => intro acc h; exact .inl h
    | cons c l ih =>
      intro acc h
      rcases ih _ h with h | h
      · rcases putS_mem h with h | h
        · exact .inl h
        · exact .inr (by rw [h]; exact List.mem_cons_self)
      · exact .inr (List.mem_cons_of_mem _ h)
  rcases go l [] h with h | h
  · cases h
  · exact h
theorem goal_w {s : Lst} {g : Goal} (h : g ∈ goalsF s) : g.w < s.words.length := by
  unfold goalsF goalsT at h
  obtain ⟨a, ha, h⟩ := List.mem_flatMap.mp h
  obtain ⟨_, _, rfl⟩ := List.mem_map.mp h
  obtain ⟨_, h2, _⟩ := List.mem_zipIdx ha
  simpa using h2
theorem wordX_le {s : Lst} (Pl : PreL s) (i : Nat) : (wordX s i).length ≤ 16 := by
  unfold wordX
  cases h : s.words[i]? with
  | none => exact Nat.zero_le _
  | some w => exact Pl.len w (List.mem_of_getElem? h)
theorem aroundF_le {x : List UInt8} (h : x.length ≤ 16) (g n : Nat) : (aroundF x g n).length ≤ 68 := by
  have := around_le x g n (List.range (x.length + 1 - n))
  rw [List.length_range] at this
  unfold aroundF
  omega
theorem aroundG_le {s : Lst} (Pl : PreL s) (g : Goal) (l : List Nat) : (aroundG s g l).length ≤ l.length * 68 := flat_le fun k _ => aroundF_le (wordX_le Pl _) _ _
theorem allP_le {s : Lst} (Pl : PreL s) {m : Nat} (hm : m ≤ 4) (gs : List Goal) : (allP s m gs).length ≤ gs.length * 272 := flat_le fun g _ => by
  have := aroundG_le Pl g (List.range m)
  rw [List.length_range] at this
  omega
theorem piece_len {s : Lst} (Pl : PreL s) {m : Nat} {p : Pc} {gs : List Goal} (h : p ∈ putAll (allP s m gs)) : p.x.length ≤ 16 := by
  have h := putAll_mem h
  unfold allP at h
  obtain ⟨g, _, h⟩ := List.mem_flatMap.mp h
  unfold aroundG at h
  obtain ⟨k, _, h⟩ := List.mem_flatMap.mp h
  exact Nat.le_trans (around_mem h) (wordX_le Pl _)
section
variable {P : Program} {w : World} {K : PySem.W.Frag} {mg : Str → Option Value} {base : Heap} {f : Addr} {fd : FuncData}
theorem gi_from1 {X : CS} {N : List Str} {kd : Str → Option NameKind} {k : Nat} {E : XK} {ex : Er → Prop} {ss : List (Option D)} (C : Ctx X P w K mg base N kd k E) {tg a b : Expr} {p pos : Pos} {m : Nat} (hm : mg "range" = none) (h : Ge X E ex ss a (dI 1)) (h2 : Ge X E ex ss b (dI ((m : Int) + 1))) (hz : m < 1000000) (hg : kd "range" = some .globalImplicit := by rfl)
    (hs : ∀ env, starEach [a, b] env = [(false, eval a env), (false, eval b env)] := by intro _; rfl) (hs2 : ∀ env, starEach [b] env = [(false, eval b env)] := by intro _; rfl) :
    Gi X E ex ss tg (.Call (.Name "range" p) [a, b] [] pos) ((List.range m).map fun k => dNat (1 + k)) := by
  have e1 : (((m : Int) + 1) - 1).toNat = m := by omega
  have e2 : rngD 1 m = (List.range m).map fun k => dNat (1 + k) := by
    unfold rngD
    refine List.map_congr_left fun k _ => ?_
    show dI _ = dI _
    congr 1
  have q := gi_range2 (tg := tg) (p := p) (pos := pos) C hm h h2 (by omega) hg hs hs2
  rw [e1, e2] at q
  exact q
abbrev s_pieces_of : Stmt := top 23
theorem sc_pieces_of : FnScope ["listed", "most", "seen", "number", "gap", "letters", "length", "piece"] ["listed", "most"] (defScope s_pieces_of) := ⟨rfl, rfl, rfl, by decide +kernel, rfl, by decide +kernel, by decide +kernel⟩
def A_pieces_of (cL cW : Addr) : Pr := fun ds kr _ => ∃ (s : Lst) (m : Nat), ds = [eLst cL cW s, dNat m] ∧ PreL s ∧ m ≤ 4 ∧ (goalsF s).length ≤ 9 ∧ kr (dL ((piecesF s m).map ePc))
theorem ok_pieces_of (B : Bi mg) {cL cW : Addr} (FL : Fld K cL nsL) (FW : Fld K cW nsW) (hG : Has P w K mg base CX0 2 "goals_of" (A_goals_of cL cW)) (hA' : Has P w K mg base CX0 2 "around" A_around) (hI : Has P w K mg base CX0 3 "is_good" (A_is_good cL cW)) (F : Fun K "pieces_of" "pieces_of" s_pieces_of f fd) : FnOk P w K mg base CX0 4 f fd ["listed", "most"] (spT (A_pieces_of cL cW)) := by
  refine def_ok F sc_pieces_of (fun ds kr ke h => ?_) fun X C S H σ ds kr ke0 hA ok er Dn hr hn => ?_
  · obtain ⟨s, m, rfl, _⟩ := h
    rfl
  · obtain ⟨ke, s, m, rfl, Pl, hm, h9, hk⟩ := hA
    refine st_newSeen C 2 ok (Nat.le_of_ble_eq_true rfl) fun p H1 σ1 ok1 => ?_
    refine st_for C (f := fun (g : Goal) ss => (ss.set 3 (some (dNat g.w))).set 4 (some (dNat g.g))) (is := [3, 4]) (l := goalsF s) (enc := eGoal) ok1 (Errs.none (E := E0)) (gi_list C (g_call C hG (a_cons (g_var C 0) a_nil) ⟨s, rfl, Pl, rfl⟩)) (fun x _ ss1 _ => gg_tupT C (ggs_cons (gg_name C 3) (ggs_cons (gg_name C 4) ggs_nil)))
      (fun i ss1 o1 => ∃ x y z u v, ss1 = [some (eLst cL cW s), some (dNat m), none, x, y, z, u, v] ∧ o1 = [(2, oSeen P w p (putAll (allP s m ((goalsF s).take i))))])
      ⟨none, none, none, none, none, rfl, rfl⟩ (fun i ss1 o1 ⟨x, y, z, u, v, h, h'⟩ => by subst h h'; exact ⟨rfl, rfl⟩) ?_ ?_
    · rintro B' eB _ i g hg ss1 o1 ⟨x, y, z, u, v, rfl, rfl⟩ H3 σ3 ok3
      have hgm := List.mem_of_getElem? hg
      obtain ⟨w1, w2, w3⟩ := word_at (goal_w hgm)
      have hx16 := wordX_le Pl g.w
      have b1 := allP_le Pl hm ((goalsF s).take i)
      rw [List.length_take] at b1
      refine st_set C 5 (d := dU (wordX s g.w)) ok3 (Errs.none (E := E0)) (gcast (g_at C FW 0 (g_ixL C (g_at C FL 2 (g_var C 0)) (g_var C 3) rfl (by rw [List.getElem?_map, w1]; rfl))) (by rw [w2])) fun H4 σ4 ok4 => ?_
      refine st_for C (f := fun (k : Nat) ss => ss.set 6 (some (dNat (1 + k)))) (is := [6]) (l := List.range m) (enc := fun k => dNat (1 + k)) ok4 (Errs.none (E := E0)) ?_ (fun k _ ss1 _ => gg_name C 6)
        (fun j ss1 o1 => ∃ u v, ss1 = [some (eLst cL cW s), some (dNat m), none, some (dNat g.w), some (dNat g.g), some (dU (wordX s g.w)), u, v] ∧ o1 = [(2, oSeen P w p (putAll (allP s m ((goalsF s).take i) ++ aroundG s g ((List.range m).take j))))])
        ⟨u, v, rfl, by rw [List.take_zero]; show _ = [(2, oSeen P w p (putAll (allP s m ((goalsF s).take i) ++ [])))]; rw [List.append_nil]⟩ (fun j ss1 o1 ⟨u, v, h, h'⟩ => by subst h h'; exact ⟨rfl, rfl⟩) ?_ ?_
      · exact gi_from1 C B.range g_int (g_add (g_var C 1) g_int) (by omega)
      · rintro B2 eB2 _ j k hk' ss1 o1 ⟨u, v, rfl, rfl⟩ H5 σ5 ok5
        have hkm : k < m := List.mem_range.mp (List.mem_of_getElem? hk')
        have b2 := aroundG_le Pl g ((List.range m).take j)
        rw [List.length_take, List.length_range] at b2
        have b3 := aroundF_le hx16 g.g (1 + k)
        refine st_for C (f := fun (q : Pc) ss => ss.set 7 (some (ePc q))) (is := [7]) (l := aroundF (wordX s g.w) g.g (1 + k)) (enc := ePc) ok5 (Errs.none (E := E0)) (gi_list C (g_call C hA' (a_cons (g_var C 5) (a_cons (g_var C 4) (a_cons (g_var C 6) a_nil))) ⟨wordX s g.w, g.g, 1 + k, rfl, hx16, by omega, rfl⟩)) (fun q _ ss1 _ => gg_name C 7)
          (fun l ss1 o1 => ∃ v, ss1 = [some (eLst cL cW s), some (dNat m), none, some (dNat g.w), some (dNat g.g), some (dU (wordX s g.w)), some (dNat (1 + k)), v] ∧ o1 = [(2, oSeen P w p (putAll (allP s m ((goalsF s).take i) ++ aroundG s g ((List.range m).take j) ++ (aroundF (wordX s g.w) g.g (1 + k)).take l)))])
          ⟨v, rfl, by rw [List.take_zero, List.append_nil]⟩ (fun l ss1 o1 ⟨v, h, h'⟩ => by subst h h'; exact ⟨rfl, rfl⟩) ?_ ?_
        · rintro B3 eB3 _ l q hq ss1 o1 ⟨v, rfl, rfl⟩ H6 σ6 ok6
          have b4 := putAll_le (allP s m ((goalsF s).take i) ++ aroundG s g ((List.range m).take j) ++ (aroundF (wordX s g.w) g.g (1 + k)).take l)
          rw [List.length_append, List.length_append, List.length_take] at b4
          refine st_putSeen C ok6 (Errs.none (E := E0)) (ev_ge ok6 (Errs.none (E := E0)) g_bl) (g_var C 7) (by omega) fun H7 ok7 => st_nil ⟨_, _, ⟨some (ePc q), rfl, rfl⟩, ?_⟩
          refine okf_cast ok7 ?_
          rw [take_succ_of hq, ← List.append_assoc, putAll_snoc]
        · rintro ss1 o1 ⟨v, rfl, rfl⟩ H6 σ6 ok6
          rw [List.take_length] at ok6
          refine st_nil ⟨_, _, ⟨some (dNat (1 + k)), v, rfl, rfl⟩, okf_cast ok6 ?_⟩
          rw [take_succ_of hk']
          unfold aroundG
          rw [List.flatMap_append, List.flatMap_cons, List.flatMap_nil, List.append_nil, List.append_assoc]
      · rintro ss1 o1 ⟨u, v, rfl, rfl⟩ H5 σ5 ok5
        rw [show (List.range m).take (List.range m).length = List.range m from List.take_length] at ok5
        refine st_nil ⟨_, _, ⟨some (dNat g.w), some (dNat g.g), some (dU (wordX s g.w)), u, v, rfl, rfl⟩, okf_cast ok5 ?_⟩
        rw [take_succ_of hg]
        unfold allP
        rw [List.flatMap_append, List.flatMap_cons, List.flatMap_nil, List.append_nil]
    · rintro ss1 o1 ⟨x, y, z, u, v, rfl, rfl⟩ H3 σ3 ok3
      rw [List.take_length] at ok3
      have b1 := allP_le Pl hm (goalsF s)
      have b4 := putAll_le (allP s m (goalsF s))
      exact se_ret ok3 (ev_seen ok3 (Errs.none (E := E0)) oSeen_d oSeen_is (gcast (g_lc C [("piece", 7)] (l := putAll (allP s m (goalsF s))) (enc := ePc) (is := [7]) (f := fun q => [some (eLst cL cW s), some (dNat m), some (dSeen P w p (putAll (allP s m (goalsF s)))), x, y, z, u, some (ePc q)]) (t := goodF s) (g := ePc)
        (gi_seen C (g_var C 2)) (by decide +kernel) (by rw [sizeLine_eq]; omega) (by simp)
        (fun q hq => gg_name (C.blk _ rfl) 7)
        (fun q hq => ts_one (t_val (g_call (C.blk _ rfl) hI (a_cons (g_var (C.blk _ rfl) 0) (a_cons (g_var (C.blk _ rfl) 7) a_nil)) ⟨s, q, rfl, Pl, piece_len Pl hq, rfl⟩)))
        (fun q hq ht => g_var (C.blk _ rfl) 7)) rfl) free_pcs) fun v H' => hr _ v H' hk
end
end Lp
namespace Tr
open PySem PySem.Spec PyProof.Rows L2
def isIns : HO → Prop
  | .ins _ _ _ => True
  | _ => False
theorem oI_dO {Cl : Addr} {ns : List Str} {fs : List D} {a : Addr} : ∀ W h, W a = some h → (oI Cl ns fs).p W h → (dO Cl ns fs).p W (.ref a) := fun W h e ⟨dx, vs, h1, h2⟩ => ⟨a, dx, vs, rfl, by rw [e, h1], h2⟩
theorem oI_is {Cl : Addr} {ns : List Str} {fs : List D} : ∀ W h, (oI Cl ns fs).p W h → isIns h := fun W h ⟨dx, vs, h1, _⟩ => by rw [h1]; trivial
theorem free_Ls {α : Type} {f : α → V} {l : List α} : Free isIns (dL (l.map fun a => dV (f a))) := free_L (fun _ z => z) fun d hd => by
  obtain ⟨a, _, rfl⟩ := List.mem_map.mp hd
  exact free_V
end Tr
namespace Lp
open PySem PySem.Spec PyProof.Rows L2 Tr
open Vahypc (hasBit lowest Goal Choice better Cand slim putCand)
open Vahypa (Word Lst)
def famOf (s : Lst) (m : Nat) : Fam := ⟨goalsF s, piecesF s m, (piecesF s m).map (coveredF s (goalsF s)), (piecesF s m).map fun p => (chunkF p).length⟩
section
variable {P : Program} {w : World} {K : PySem.W.Frag} {mg : Str → Option Value} {base : Heap} {f : Addr} {fd : FuncData}
theorem g_atS {X : CS} {N : List Str} {kd : Str → Option NameKind} {k : Nat} {E : XK} {ex : Er → Prop} {ss : List (Option D)} {d : D} {ds : List D} {a : Expr} {pos : Pos} (C : Ctx X P w K mg base N kd k E) {Cl : Addr} {ns ns0 : List Str} {f : Str} (F : Fld K Cl ns0) (i : Nat) (ha : Ge X E ex ss a (dO Cl ns ds)) (h : ds[i]? = some d := by rfl) (hf : ns[i]? = some f := by rfl) (hf0 : f ∈ ns0 := by decide) (nd : ns.Nodup := by decide)
    (hb : ∀ env, attributeBase a f env (eval a env) = eval a env := by intro _; rfl) : Ge X E ex ss (.Attribute a f pos) d := g_fld C i ha F.cl (F.na f hf0) h hf nd hb
theorem pieces_len {s : Lst} (Pl : PreL s) {m : Nat} {p : Pc} (h : p ∈ piecesF s m) : p.x.length ≤ 16 := piece_len Pl (List.mem_filter.mp h).1
theorem pieces_le {s : Lst} (Pl : PreL s) {m : Nat} (hm : m ≤ 4) (h9 : (goalsF s).length ≤ 9) : (piecesF s m).length ≤ 2448 := by
  have b1 := allP_le Pl hm (goalsF s)
  have b2 := putAll_le (allP s m (goalsF s))
  have b3 := List.length_filter_le (goodF s) (putAll (allP s m (goalsF s)))
  unfold piecesF
  omega
abbrev s_Fam_init : Stmt := sFam 0
theorem sc_Fam_init : FnScope ["self", "listed", "most", "piece"] ["self", "listed", "most"] (defScope s_Fam_init) := ⟨rfl, rfl, rfl, by decide +kernel, rfl, by decide +kernel, by decide +kernel⟩
def I_Fam (cL cW : Addr) : PrI := fun ds kr => ∃ (s : Lst) (m : Nat), ds = [eLst cL cW s, dNat m] ∧ PreL s ∧ m ≤ 4 ∧ (goalsF s).length ≤ 9 ∧ kr [dL ((famOf s m).goals.map eGoal), dL ((famOf s m).pieces.map ePc), dL ((famOf s m).covers.map fun m => dNat m), dL ((famOf s m).sizes.map fun m => dNat m)]
theorem ok_Fam_init (B : Bi mg) {cF cL cW : Addr} (FF : Fld K cF nsF) (hG : Has P w K mg base CX0 2 "goals_of" (A_goals_of cL cW)) (hP : Has P w K mg base CX0 4 "pieces_of" (A_pieces_of cL cW)) (hC : Has P w K mg base CX0 3 "covered_by" (A_covered_by cL cW)) (hS : Has P w K mg base CX0 2 "size_of" A_size_of)
    (F : Fun K "__init__" "Family.__init__" s_Fam_init f fd) : FnOk P w K mg base CX0 5 f fd ["self", "listed", "most"] (spI cF nsF (I_Fam cL cW)) := by
  refine def_okI F sc_Fam_init (fun ds kr h => ?_) fun X C S p H σ ds kr hA ok Dn hn => ?_
  · obtain ⟨s, m, rfl, _⟩ := h
    rfl
  · obtain ⟨s, m, rfl, Pl, hm, h9, hk⟩ := hA
    have hpl := pieces_le Pl hm h9
    refine st_fldNew C ok (ev_ge ok (Errs.none (E := E0)) (g_call C hG (a_cons (g_var C 1) a_nil) ⟨s, rfl, Pl, rfl⟩)) FF.cl (FF.na _ (by decide)) (by decide) (by decide) fun H1 ok1 => ?_
    refine st_fldNew C ok1 (ev_ge ok1 (Errs.none (E := E0)) (g_call C hP (a_cons (g_var C 1) (a_cons (g_var C 2) a_nil)) ⟨s, m, rfl, Pl, hm, h9, rfl⟩)) FF.cl (FF.na _ (by decide)) (by decide) (by decide) fun H2 ok2 => ?_
    have e1 : (((piecesF s m).filter fun _ => true).map fun q => dNat (coveredF s (goalsF s) q)) = ((famOf s m).covers.map fun m => dNat m) := by rw [filter_yes]; unfold famOf; rw [List.map_map]; rfl
    have e2 : (((piecesF s m).filter fun _ => true).map fun q => dNat (chunkF q).length) = ((famOf s m).sizes.map fun m => dNat m) := by rw [filter_yes]; unfold famOf; rw [List.map_map]; rfl
    refine st_fldNew C ok2 (ev_seen ok2 (Errs.none (E := E0)) oI_dO oI_is (gcast (g_lc C [("piece", 3)] (l := piecesF s m) (enc := ePc) (is := [3]) (f := fun q => [some (dO cF ["goals", "pieces"] [dL ((goalsF s).map eGoal), dL ((piecesF s m).map ePc)]), some (eLst cL cW s), some (dNat m), some (ePc q)]) (t := fun _ => true) (g := fun q => dNat (coveredF s (goalsF s) q))
      (gi_list C (g_atS C FF 1 (ns := ["goals", "pieces"]) (g_var C 0))) (by decide +kernel) (by rw [sizeLine_eq]; omega) (by simp)
      (fun q hq => gg_name (C.blk _ rfl) 3) (fun q hq => ts_nil)
      (fun q hq ht => g_call (C.blk _ rfl) hC (a_cons (g_var (C.blk _ rfl) 1) (a_cons (g_atS (C.blk _ rfl) FF 0 (ns := ["goals", "pieces"]) (g_var (C.blk _ rfl) 0)) (a_cons (g_var (C.blk _ rfl) 3) a_nil))) ⟨s, goalsF s, q, rfl, Pl, pieces_len Pl hq, by omega, fun x hx => goal_w hx, rfl⟩)) (congrArg dL e1)) free_Ls) FF.cl (FF.na _ (by decide)) (by decide) (by decide) fun H3 ok3 => ?_
    refine st_fldNew C ok3 (ev_seen ok3 (Errs.none (E := E0)) oI_dO oI_is (gcast (g_lc C [("piece", 3)] (l := piecesF s m) (enc := ePc) (is := [3]) (f := fun q => [some (dO cF ["goals", "pieces", "covers"] [dL ((goalsF s).map eGoal), dL ((piecesF s m).map ePc), dL ((famOf s m).covers.map fun m => dNat m)]), some (eLst cL cW s), some (dNat m), some (ePc q)]) (t := fun _ => true) (g := fun q => dNat (chunkF q).length)
      (gi_list C (g_atS C FF 1 (ns := ["goals", "pieces", "covers"]) (g_var C 0))) (by decide +kernel) (by rw [sizeLine_eq]; omega) (by simp)
      (fun q hq => gg_name (C.blk _ rfl) 3) (fun q hq => ts_nil)
      (fun q hq ht => g_call (C.blk _ rfl) hS (a_cons (g_var (C.blk _ rfl) 3) a_nil) ⟨q, rfl, pieces_len Pl hq, rfl⟩)) (congrArg dL e2)) free_Ls) FF.cl (FF.na _ (by decide)) (by decide) (by decide) fun H4 ok4 => ?_
    exact st_nil (hn _ _ _ _ hk ok4)
theorem bits_shl (k : Nat) (n : Nat) (h : k < n) : 1 <<< k < 2 ^ n := by
  rw [Nat.one_shiftLeft]
  exact Nat.pow_lt_pow_right (by decide) h
theorem covered_lt (s : Lst) (gs : List Goal) (p : Pc) : coveredF s gs p < 2 ^ gs.length := by
  unfold coveredF coveredT
  have go : ∀ (l : List (Goal × Nat)) (m : Nat), m < 2 ^ gs.length → (∀ x ∈ l, x.2 < gs.length) → l.foldl (fun m x => if decide (x.1.g ∈ partedF s p (wordX s x.1.w)) = true then m ||| 1 <<< x.2 else m) m < 2 ^ gs.length := by
    intro l
    induction l with
    | nil => intro m h _; exact h
    | cons x l ih =>
      intro m h hl
      refine ih _ ?_ fun y hy => hl y (List.mem_cons_of_mem _ hy)
      dsimp only
      split
      · exact or_lt h (bits_shl _ _ (hl x List.mem_cons_self))
      · exact h
  refine go _ 0 (Nat.two_pow_pos _) fun x hx => ?_
  obtain ⟨_, h2, _⟩ := List.mem_zipIdx hx
  simpa using h2
theorem preF {s : Lst} (Pl : PreL s) {m : Nat} (hm : m ≤ 4) (h9 : (goalsF s).length ≤ 9) : PreF (famOf s m) := by
  have hpl := pieces_le Pl hm h9
  refine ⟨h9, ?_, ?_, ?_, ?_⟩
  · show (piecesF s m).length = ((piecesF s m).map _).length
    rw [List.length_map]
  · show ((piecesF s m).map _).length = ((piecesF s m).map _).length
    rw [List.length_map, List.length_map]
  · show ((piecesF s m).map _).length ≤ _
    rw [List.length_map]
    omega
  · intro c hc
    obtain ⟨q, _, rfl⟩ := List.mem_map.mp hc
    exact covered_lt _ _ _
end
end Lp
namespace Lp
open PySem PySem.Spec PyProof.Rows L2 Tr
open Vahypc (hasBit lowest Goal Choice better Cand slim putCand)
open Vahypa (Word Lst)
/-! ### __init__ -/
section
variable {P : Program} {w : World} {K : PySem.W.Frag} {mg : Str → Option Value} {base : Heap} {f : Addr} {fd : FuncData}
abbrev s_Word_init : Stmt := inClass (top 60) 0
theorem sc_Word_init : FnScope ["self", "letters", "gaps"] ["self", "letters", "gaps"] (defScope s_Word_init) := ⟨rfl, rfl, rfl, by decide +kernel, rfl, by decide +kernel, by decide +kernel⟩
def I_Word : PrI := fun ds kr => ∃ d1 d2, ds = [d1, d2] ∧ kr [d1, d2]
theorem ok_Word_init {cW : Addr} (FW : Fld K cW nsW) (F : Fun K "__init__" "Word.__init__" s_Word_init f fd) : FnOk P w K mg base CX0 1 f fd ["self", "letters", "gaps"] (spI cW nsW I_Word) := by
  refine def_okI F sc_Word_init (fun ds kr h => ?_) fun X C S p H σ ds kr hA ok Dn hn => ?_
  · obtain ⟨d1, d2, rfl, _⟩ := h
    rfl
  · obtain ⟨d1, d2, rfl, hk⟩ := hA
    refine st_fldNew C ok (ev_ge ok (Errs.none (E := E0)) (g_var C 1)) FW.cl (FW.na _ (by decide)) (by decide) (by decide) fun H1 ok1 => ?_
    refine st_fldNew C ok1 (ev_ge ok1 (Errs.none (E := E0)) (g_var C 2)) FW.cl (FW.na _ (by decide)) (by decide) (by decide) fun H2 ok2 => ?_
    exact st_nil (hn _ _ _ _ hk ok2)
abbrev s_Listed_init : Stmt := inClass (top 61) 0
theorem sc_Listed_init : FnScope ["self", "left", "right", "words", "patterns"] ["self", "left", "right", "words", "patterns"] (defScope s_Listed_init) := ⟨rfl, rfl, rfl, by decide +kernel, rfl, by decide +kernel, by decide +kernel⟩
def I_Listed : PrI := fun ds kr => ∃ d1 d2 d3 d4, ds = [d1, d2, d3, d4] ∧ kr [d1, d2, d3, d4]
theorem ok_Listed_init {cL : Addr} (FL : Fld K cL nsL) (F : Fun K "__init__" "Listed.__init__" s_Listed_init f fd) : FnOk P w K mg base CX0 1 f fd ["self", "left", "right", "words", "patterns"] (spI cL nsL I_Listed) := by
  refine def_okI F sc_Listed_init (fun ds kr h => ?_) fun X C S p H σ ds kr hA ok Dn hn => ?_
  · obtain ⟨d1, d2, d3, d4, rfl, _⟩ := h
    rfl
  · obtain ⟨d1, d2, d3, d4, rfl, hk⟩ := hA
    refine st_fldNew C ok (ev_ge ok (Errs.none (E := E0)) (g_var C 1)) FL.cl (FL.na _ (by decide)) (by decide) (by decide) fun H1 ok1 => ?_
    refine st_fldNew C ok1 (ev_ge ok1 (Errs.none (E := E0)) (g_var C 2)) FL.cl (FL.na _ (by decide)) (by decide) (by decide) fun H2 ok2 => ?_
    refine st_fldNew C ok2 (ev_ge ok2 (Errs.none (E := E0)) (g_var C 3)) FL.cl (FL.na _ (by decide)) (by decide) (by decide) fun H3 ok3 => ?_
    refine st_fldNew C ok3 (ev_ge ok3 (Errs.none (E := E0)) (g_var C 4)) FL.cl (FL.na _ (by decide)) (by decide) (by decide) fun H4 ok4 => ?_
    exact st_nil (hn _ _ _ _ hk ok4)
abbrev nsR : List Str := ["tokens", "at"]
abbrev s_Reader_init : Stmt := inClass (top 66) 0
theorem sc_Reader_init : FnScope ["self", "tokens"] ["self", "tokens"] (defScope s_Reader_init) := ⟨rfl, rfl, rfl, by decide +kernel, rfl, by decide +kernel, by decide +kernel⟩
def I_Reader : PrI := fun ds kr => ∃ d1, ds = [d1] ∧ kr [d1, dNat 0]
theorem ok_Reader_init {cR : Addr} (FR : Fld K cR nsR) (F : Fun K "__init__" "ListReader.__init__" s_Reader_init f fd) : FnOk P w K mg base CX0 1 f fd ["self", "tokens"] (spI cR nsR I_Reader) := by
  refine def_okI F sc_Reader_init (fun ds kr h => ?_) fun X C S p H σ ds kr hA ok Dn hn => ?_
  · obtain ⟨d1, rfl, _⟩ := h
    rfl
  · obtain ⟨d1, rfl, hk⟩ := hA
    refine st_fldNew C ok (ev_ge ok (Errs.none (E := E0)) (g_var C 1)) FR.cl (FR.na _ (by decide)) (by decide) (by decide) fun H1 ok1 => ?_
    refine st_fldNew C ok1 (ev_ge ok1 (Errs.none (E := E0)) (g_int (i := 0))) FR.cl (FR.na _ (by decide)) (by decide) (by decide) fun H2 ok2 => ?_
    exact st_nil (hn _ _ _ _ hk ok2)
abbrev nsK : List Str := ["held"]
abbrev s_Keeper_init : Stmt := inClass (top 79) 0
theorem sc_Keeper_init : FnScope ["self"] ["self"] (defScope s_Keeper_init) := ⟨rfl, rfl, rfl, by decide +kernel, rfl, by decide +kernel, by decide +kernel⟩
def I_Keeper : PrI := fun ds kr => ds = [] ∧ kr [dN]
theorem ok_Keeper_init {cK : Addr} (FK : Fld K cK nsK) (F : Fun K "__init__" "Keeper.__init__" s_Keeper_init f fd) : FnOk P w K mg base CX0 1 f fd ["self"] (spI cK nsK I_Keeper) := by
  refine def_okI F sc_Keeper_init (fun ds kr h => ?_) fun X C S p H σ ds kr hA ok Dn hn => ?_
  · obtain ⟨rfl, _⟩ := h
    rfl
  · obtain ⟨rfl, hk⟩ := hA
    refine st_fldNew C ok (ev_ge ok (Errs.none (E := E0)) g_non) FK.cl (FK.na _ (by decide)) (by decide) (by decide) fun H1 ok1 => ?_
    exact st_nil (hn _ _ _ _ hk ok1)
/-! the errors' -/
abbrev s_Fault_init : Stmt := inClass (top 40) 0
theorem sc_Fault_init : FnScope ["self", "code", "place"] ["self", "code", "place"] (defScope s_Fault_init) := ⟨rfl, rfl, rfl, by decide +kernel, rfl, by decide +kernel, by decide +kernel⟩
def foFault : List V → List (Str × V)
  | [c, p] => [("place", p), ("code", c)]
  | _ => []
def foRefused : List V → List (Str × V)
  | [c] => [("code", c)]
  | _ => []
def VeI (K : PySem.W.Frag) : Prop := PySem.W.findCls K (.type "ValueError") (.type "type") "__init__" = some (.val (.builtin "ValueError.__init__"))
theorem ok_Fault_init (B : Bi mg) (hV : VeI K) {cE fI : Addr} (T : ExT K mg "Fault" cE fI ["code", "place"]) (F : Fun K "__init__" "Fault.__init__" s_Fault_init f fd) : FnOk P w K mg base CX0 1 f fd ["self", "code", "place"] (spX cE 2 foFault) := by
  refine F.ok sc_Fault_init (fun vs H Q E h => ?_) fun cdv A outer s H vs Q E hr h => ?_
  · obtain ⟨a, us, rfl, hu, _⟩ := h
    rw [List.length_cons, hu]
    rfl
  · obtain ⟨a, us, rfl, hu, ha, hq⟩ := h
    obtain ⟨c, p, rfl⟩ := two_of hu
    refine ⟨_, pss_cons (ps_expr (pe_veinit (by rfl) B.valueError hV (pa_cons (pe_var (i := 0) rfl (.inl rfl)) (pa_cons pe_str pa_nil)))) (pss_cons (ps_ost (pe_var (i := 0) rfl (.inl rfl)) (pe_var (i := 1) rfl (.inl rfl))) (pss_cons (ps_ost (pe_var (i := 0) rfl (.inl rfl)) (pe_var (i := 2) rfl (.inl rfl))) pss_nil)), ?_⟩
    refine ⟨_, rfl, a, cE, _, rfl, (by show 1 ≤ 1000; decide), T.oex, ha, ?_⟩
    refine ⟨_, rfl, _, rfl, a, cE, rfl, T.oex, T.no _ (by decide), .inl ⟨ha, fun dx h1 h2 => ?_⟩⟩
    have hd : (upd (upd H dx (exd dx [("code", c)])) a (exo a cE (some dx))) dx = some (exd dx [("code", c)]) := by rw [upd_ne h2, upd_same]
    refine ⟨_, rfl, _, rfl, a, cE, rfl, T.oex, T.no _ (by decide), .inr ⟨dx, _, upd_same, hd, (by show 1 ≤ 900; decide), ?_⟩⟩
    refine hq dx _ h1 h2 ?_ upd_same fun b n1 n2 => ?_
    · rw [upd_ne (Ne.symm h2), upd_same]
    · rw [upd_ne n2, upd_ne n1, upd_ne n2]
abbrev s_Refused_init : Stmt := inClass (top 76) 0
theorem sc_Refused_init : FnScope ["self", "code"] ["self", "code"] (defScope s_Refused_init) := ⟨rfl, rfl, rfl, by decide +kernel, rfl, by decide +kernel, by decide +kernel⟩
theorem ok_Refused_init (B : Bi mg) (hV : VeI K) {cE fI : Addr} (T : ExT K mg "Refused" cE fI ["code"]) (F : Fun K "__init__" "Refused.__init__" s_Refused_init f fd) : FnOk P w K mg base CX0 1 f fd ["self", "code"] (spX cE 1 foRefused) := by
  refine F.ok sc_Refused_init (fun vs H Q E h => ?_) fun cdv A outer s H vs Q E hr h => ?_
  · obtain ⟨a, us, rfl, hu, _⟩ := h
    rw [List.length_cons, hu]
    rfl
  · obtain ⟨a, us, rfl, hu, ha, hq⟩ := h
    obtain ⟨c, rfl⟩ := one_of hu
    refine ⟨_, pss_cons (ps_expr (pe_veinit (by rfl) B.valueError hV (pa_cons (pe_var (i := 0) rfl (.inl rfl)) (pa_cons pe_str pa_nil)))) (pss_cons (ps_ost (pe_var (i := 0) rfl (.inl rfl)) (pe_var (i := 1) rfl (.inl rfl))) pss_nil), ?_⟩
    refine ⟨_, rfl, a, cE, _, rfl, (by show 1 ≤ 1000; decide), T.oex, ha, ?_⟩
    refine ⟨_, rfl, _, rfl, a, cE, rfl, T.oex, T.no _ (by decide), .inl ⟨ha, fun dx h1 h2 => ?_⟩⟩
    refine hq dx _ h1 h2 upd_same (by rw [upd_ne h2, upd_same]; rfl) fun b n1 n2 => ?_
    rw [upd_ne n1, upd_ne n2]
end
end Lp
namespace Lp
open PySem PySem.Spec PyProof.Rows L2 Tr
open VahypBase (isLetter isDigit inChunk isBlank)
/-! ### texts: signs, chunks, tokens -/
def lettersB : List UInt8 := (List.range 26).map fun i => UInt8.ofNat (97 + i)
def digitsB : List UInt8 := (List.range 10).map fun i => UInt8.ofNat (48 + i)
def sgn (c : UInt8) : List UInt8 := if isLetter c = true ∨ isDigit c = true ∨ c = 45 ∨ c = 46 ∨ c = 59 then [c] else []
abbrev eB (b : List UInt8) : D := dL (b.map fun c => dNat c.toNat)
theorem u8_all {p : UInt8 → Bool} (h : ((List.range 256).all fun n => p (UInt8.ofNat n)) = true) (c : UInt8) : p c = true := by
  have q := List.all_eq_true.mp h c.toNat (List.mem_range.mpr c.toNat_lt)
  rw [UInt8.ofNat_toNat] at q
  exact q
theorem letter_at (c : UInt8) (h : isLetter c = true) : lettersB[c.toNat - 97]? = some c := by
  have q := u8_all (p := fun c => !isLetter c || decide (lettersB[c.toNat - 97]? = some c)) (by decide +kernel) c
  simpa [h] using q
theorem digit_at (c : UInt8) (h : isDigit c = true) : digitsB[c.toNat - 48]? = some c := by
  have q := u8_all (p := fun c => !isDigit c || decide (digitsB[c.toNat - 48]? = some c)) (by decide +kernel) c
  simpa [h] using q
theorem sgn_oth : ∀ c : UInt8, isLetter c = false → isDigit c = false → (othS 45 46 59 (sU [45]) (sU [46]) (sU [59]) (c.toNat : Int)).getD (sU []) = sU (sgn c) := by
  intro c h1 h2
  have inj : ∀ k : UInt8, ((k.toNat : Int) = (c.toNat : Int)) ↔ c = k := fun k => ⟨fun h => by
    have : k.toNat = c.toNat := by omega
    exact (UInt8.toNat_inj.mp this).symm, fun h => by rw [h]⟩
  unfold othS sgn
  rw [h1, h2]
  by_cases e1 : c = 45
  · subst e1; rfl
  · rw [if_neg (show ¬ ((45 : Int) = (c.toNat : Int)) from fun h => e1 ((inj 45).mp h))]
    by_cases e2 : c = 46
    · subst e2; rfl
    · rw [if_neg (show ¬ ((46 : Int) = (c.toNat : Int)) from fun h => e2 ((inj 46).mp h))]
      by_cases e3 : c = 59
      · subst e3; rfl
      · rw [if_neg (show ¬ ((59 : Int) = (c.toNat : Int)) from fun h => e3 ((inj 59).mp h)), if_neg (by simp [e1, e2, e3])]
        rfl
/-- the module's own constants of the text layer -/
structure CnT (mg : Str → Option Value) (K : PySem.W.Frag) : Prop where
  letters : Cn mg "LETTERS" (.str (sU lettersB))
  digits : Cn mg "DIGITS" (.str (sU digitsB))
  fl : Cn mg "FIRST_LETTER" (.int 97)
  fdg : Cn mg "FIRST_DIGIT" (.int 48)
  others : ∃ a, Oth K mg "OTHERS" 45 46 59 (sU [45]) (sU [46]) (sU [59]) a
  sign : Cn mg "SIGN" (.str (sU [59]))
  blanks : ∃ p vs, mg "BLANKS" = some (.ref p) ∧ (∀ H, SqT K H p vs) ∧ vs = [.int 32, .int 9, .int 10]
  remark : Cn mg "REMARK" (.int 35)
  lineEnd : Cn mg "LINE_END" (.int 10)
  longest : Cn mg "LONGEST" (.int 40)
  mostBytes : Cn mg "MOST_BYTES" (.int 4096)
  tooLong : Cn mg "TOO_LONG" (.int 1)
  noToken : Cn mg "NO_TOKEN" (.int 2)
section
variable {P : Program} {w : World} {K : PySem.W.Frag} {mg : Str → Option Value} {base : Heap} {f : Addr} {fd : FuncData}
abbrev s_sign_of : Stmt := top 41
theorem sc_sign_of : FnScope ["byte"] ["byte"] (defScope s_sign_of) := ⟨rfl, rfl, rfl, by decide +kernel, rfl, by decide +kernel, by decide +kernel⟩
def A_sign_of : Pr := fun ds kr _ => ∃ c : UInt8, ds = [dNat c.toNat] ∧ kr (dU (sgn c))
theorem letter_iff (c : UInt8) : isLetter c = (decide ((97 : Int) ≤ (c.toNat : Int)) && decide ((c.toNat : Int) < 97 + (lettersB.length : Int))) := by
  have e : (lettersB.length : Int) = 26 := by decide
  rw [e]
  unfold VahypBase.isLetter
  rw [Bool.eq_iff_iff, Bool.and_eq_true]
  simp only [decide_eq_true_eq]
  omega
theorem digit_iff (c : UInt8) : isDigit c = (decide ((48 : Int) ≤ (c.toNat : Int)) && decide ((c.toNat : Int) < 48 + (digitsB.length : Int))) := by
  have e : (digitsB.length : Int) = 10 := by decide
  rw [e]
  unfold VahypBase.isDigit
  rw [Bool.eq_iff_iff, Bool.and_eq_true]
  simp only [decide_eq_true_eq]
  omega
theorem ok_sign_of (B : Bi mg) (T : CnT mg K) (F : Fun K "sign_of" "sign_of" s_sign_of f fd) : FnOk P w K mg base CX0 1 f fd ["byte"] (spT A_sign_of) := by
  refine def_ok F sc_sign_of (fun ds kr ke h => ?_) fun X C S H σ ds kr ke0 hA ok er Dn hr hn => ?_
  · obtain ⟨c, rfl, _⟩ := h
    rfl
  · obtain ⟨ke, c, rfl, hk⟩ := hA
    refine st_if (t := isLetter c) ok (Errs.none (E := E0)) (tcast (t_le_lt (g_cn C T.fl) (g_var C 0) (g_add (g_cn C T.fl) (g_lenU C B.len (x := lettersB) (g_cn C T.letters) (by decide)))) (letter_iff c).symm) (fun h1 H1 ok1 => ?_) fun h1 H1 ok1 => st_nil ?_
    · have e : sgn c = [c] := if_pos (.inl h1)
      rw [e] at hk
      have hc : 97 ≤ c.toNat := by
        unfold VahypBase.isLetter at h1
        exact (of_decide_eq_true h1).1
      exact st_ret ok1 (Errs.none (E := E0)) (g_ixU (x := lettersB) (n := c.toNat - 97) (g_cn C T.letters) (g_sub (g_var C 0) (g_cn C T.fl)) (by omega) (letter_at c h1) (by decide)) fun v H' => hr _ v H' hk
    · refine st_if (t := isDigit c) ok1 (Errs.none (E := E0)) (tcast (t_le_lt (g_cn C T.fdg) (g_var C 0) (g_add (g_cn C T.fdg) (g_lenU C B.len (x := digitsB) (g_cn C T.digits) (by decide)))) (digit_iff c).symm) (fun h2 H2 ok2 => ?_) fun h2 H2 ok2 => st_nil ?_
      · have e : sgn c = [c] := if_pos (.inr (.inl h2))
        rw [e] at hk
        have hc : 48 ≤ c.toNat := by
          unfold VahypBase.isDigit at h2
          exact (of_decide_eq_true h2).1
        exact st_ret ok2 (Errs.none (E := E0)) (g_ixU (x := digitsB) (n := c.toNat - 48) (g_cn C T.digits) (g_sub (g_var C 0) (g_cn C T.fdg)) (by omega) (digit_at c h2) (by decide)) fun v H' => hr _ v H' hk
      · obtain ⟨a, O⟩ := T.others
        refine st_ret ok2 (Errs.none (E := E0)) (gcast (g_oth C O (g_var C 0) (d := sU []) g_str) ?_) fun v H' => hr _ v H' hk
        rw [sgn_oth c h1 h2]
/-! remark_end, behind_blanks -/
def upTo (p : UInt8 → Bool) (b : List UInt8) (a : Nat) : Nat := a + ((b.drop a).takeWhile p).length
abbrev s_remark_end : Stmt := top 42
theorem sc_remark_end : FnScope ["text", "at"] ["text", "at"] (defScope s_remark_end) := ⟨rfl, rfl, rfl, by decide +kernel, rfl, by decide +kernel, by decide +kernel⟩
def A_remark_end : Pr := fun ds kr _ => ∃ (b : List UInt8) (a : Nat), ds = [eB b, dNat a] ∧ a ≤ b.length ∧ kr (dNat (upTo (· != 10) b a))
theorem upTo_step {p : UInt8 → Bool} {b : List UInt8} {a : Nat} {c : UInt8} (h : b[a]? = some c) (hp : p c = true) : upTo p b a = upTo p b (a + 1) := by
  have hl := (List.getElem?_eq_some_iff.mp h).1
  have hc := (List.getElem?_eq_some_iff.mp h).2
  unfold upTo
  rw [List.drop_eq_getElem_cons hl, hc, List.takeWhile_cons, if_pos hp, List.length_cons]
  omega
theorem upTo_stop {p : UInt8 → Bool} {b : List UInt8} {a : Nat} (h : ∀ c, b[a]? = some c → p c = false) : upTo p b a = a := by
  unfold upTo
  cases e : b[a]? with
  | none =>
    rw [List.drop_eq_nil_of_le (by simpa using e)]
    rfl
  | some c =>
    have hl := (List.getElem?_eq_some_iff.mp e).1
    have hc := (List.getElem?_eq_some_iff.mp e).2
    rw [List.drop_eq_getElem_cons hl, hc, List.takeWhile_cons, if_neg (by rw [h c e]; exact Bool.false_ne_true)]
    rfl
theorem upTo_ge (p : UInt8 → Bool) (b : List UInt8) (a : Nat) : a ≤ upTo p b a := Nat.le_add_right _ _
theorem upTo_le {p : UInt8 → Bool} {b : List UInt8} {a : Nat} (h : a ≤ b.length) : upTo p b a ≤ b.length := by
  unfold upTo
  have := (List.takeWhile_sublist p (l := b.drop a)).length_le
  rw [List.length_drop] at this
  omega
theorem byte_at {b : List UInt8} {a : Nat} (h : a < b.length) : ∃ c, b[a]? = some c ∧ (b.map fun c => dNat c.toNat)[a]? = some (dNat c.toNat) := by
  have e := List.getElem?_eq_getElem h
  refine ⟨b[a], e, ?_⟩
  rw [List.getElem?_map, e]
  rfl
theorem byte_eq (c k : UInt8) (kn : Int) (hk : kn = (k.toNat : Int)) : decide (V.int (c.toNat : Int) = V.int kn) = decide (c = k) := by
  subst hk
  refine dec_int ⟨fun h => ?_, fun h => by rw [h]⟩
  exact UInt8.toNat_inj.mp (by omega)
theorem ok_remark_end (B : Bi mg) (T : CnT mg K) (F : Fun K "remark_end" "remark_end" s_remark_end f fd) : FnOk P w K mg base CX0 1 f fd ["text", "at"] (spT A_remark_end) := by
  refine def_ok F sc_remark_end (fun ds kr ke h => ?_) fun X C S H σ ds kr ke0 hA ok er Dn hr hn => ?_
  · obtain ⟨b, a, rfl, _⟩ := h
    rfl
  · obtain ⟨ke, b, a, rfl, ha, hk⟩ := hA
    refine st_while C (fun i : Nat => [some (eB b), some (dNat i)]) (fun _ => []) (fun i => i ≤ b.length ∧ upTo (· != 10) b i = upTo (· != 10) b a) (fun i => b.length - i) (fun i => decide (i < b.length) && !decide (b[i]? = some 10)) a ok (Errs.none (E := E0)) ⟨ha, rfl⟩ ?_ ?_ ?_
    · rintro i ⟨hi, hu⟩
      by_cases h : i < b.length
      · obtain ⟨c, hc, hd⟩ := byte_at h
        refine tcast (t_and (p := true) (tcast (t_lt (g_var C 1) (g_lenL C B.len (g_var C 0))) (by rw [List.length_map]; simpa using h)) fun _ => t_ne (g_ixL C (g_var C 0) (g_var C 1) rfl hd) (g_cn C T.lineEnd)) ?_
        rw [byte_eq c 10 10 rfl, hc, decide_eq_true h]
        simp
      · refine tcast (t_and (p := false) (q := false) (tcast (t_lt (g_var C 1) (g_lenL C B.len (g_var C 0))) (by rw [List.length_map]; simpa using h)) fun z => by cases z) ?_
        rw [decide_eq_false h]
        rfl
    · rintro i ⟨hi, hu⟩ ht H2 σ2 ok2
      rw [Bool.and_eq_true] at ht
      have hlt := of_decide_eq_true ht.1
      obtain ⟨c, hc, hd⟩ := byte_at hlt
      have hne : (c != 10) = true := by
        rw [hc] at ht
        simpa using ht.2
      refine st_set C 1 (d := dNat (i + 1)) ok2 (Errs.none (E := E0)) (gcast (g_add (g_var C 1) g_int) rfl) fun H3 σ3 ok3 => st_nil ⟨i + 1, by omega, ⟨hlt, by rw [← hu]; exact (upTo_step hc hne).symm⟩, ok3⟩
    · rintro i ⟨hi, hu⟩ ht H2 σ2 ok2
      have e : upTo (· != 10) b a = i := by
        rw [← hu]
        refine upTo_stop fun c hc => ?_
        have hl := (List.getElem?_eq_some_iff.mp hc).1
        rw [decide_eq_true hl, hc] at ht
        simpa using ht
      rw [e] at hk
      exact st_ret ok2 (Errs.none (E := E0)) (g_var C 1) fun v H' => hr _ v H' hk
end
end Lp
namespace Lp
open PySem PySem.Spec PyProof.Rows L2 Tr
open VahypBase (isLetter isDigit inChunk isBlank)
def skipF (b : List UInt8) : Nat → Nat → Nat
  | 0, a => a
  | n + 1, a => match b[a]? with
    | some c => if c = 35 then skipF b n (upTo (· != 10) b a) else if isBlank c = true then skipF b n (a + 1) else a
    | none => a
def skipP (b : List UInt8) (a : Nat) : Nat := skipF b (b.length + 1) a
theorem skipF_ge (b : List UInt8) : ∀ n a, a ≤ skipF b n a
  | 0, a => Nat.le_refl _
  | n + 1, a => by
    unfold skipF
    split
    · split
      · exact Nat.le_trans (upTo_ge _ _ _) (skipF_ge b n _)
      · split
        · exact Nat.le_trans (Nat.le_succ a) (skipF_ge b n _)
        · exact Nat.le_refl _
    · exact Nat.le_refl _
theorem skipF_le (b : List UInt8) : ∀ n a, a ≤ b.length → skipF b n a ≤ b.length
  | 0, a, h => h
  | n + 1, a, h => by
    unfold skipF
    split
    · rename_i c hc
      have hl := (List.getElem?_eq_some_iff.mp hc).1
      split
      · exact skipF_le b n _ (upTo_le h)
      · split
        · exact skipF_le b n _ hl
        · exact h
    · exact h
theorem blank_iff (c : UInt8) : decide ((c.toNat : Int) ∈ ([32, 9, 10] : List Int)) = isBlank c := by
  have q := u8_all (p := fun c => decide ((c.toNat : Int) ∈ ([32, 9, 10] : List Int)) == isBlank c) (by decide +kernel) c
  exact eq_of_beq q
theorem remark_on {b : List UInt8} {a : Nat} (h : b[a]? = some 35) : a + 1 ≤ upTo (· != 10) b a := by
  rw [upTo_step h rfl]
  exact upTo_ge _ _ _
section
variable {P : Program} {w : World} {K : PySem.W.Frag} {mg : Str → Option Value} {base : Heap} {f : Addr} {fd : FuncData}
abbrev s_behind_blanks : Stmt := top 43
theorem sc_behind_blanks : FnScope ["text", "at"] ["text", "at"] (defScope s_behind_blanks) := ⟨rfl, rfl, rfl, by decide +kernel, rfl, by decide +kernel, by decide +kernel⟩
def A_behind_blanks : Pr := fun ds kr _ => ∃ (b : List UInt8) (a : Nat), ds = [eB b, dNat a] ∧ a ≤ b.length ∧ kr (dNat (skipP b a))
def more (b : List UInt8) (i : Nat) : Bool := match b[i]? with
  | some c => isBlank c || decide (c = 35)
  | none => false
theorem ok_behind_blanks (B : Bi mg) (T : CnT mg K) (hR : Has P w K mg base CX0 1 "remark_end" A_remark_end) (F : Fun K "behind_blanks" "behind_blanks" s_behind_blanks f fd) : FnOk P w K mg base CX0 2 f fd ["text", "at"] (spT A_behind_blanks) := by
  refine def_ok F sc_behind_blanks (fun ds kr ke h => ?_) fun X C S H σ ds kr ke0 hA ok er Dn hr hn => ?_
  · obtain ⟨b, a, rfl, _⟩ := h
    rfl
  · obtain ⟨ke, b, a, rfl, ha, hk⟩ := hA
    refine st_while C (fun i : Nat => [some (eB b), some (dNat i)]) (fun _ => []) (fun i => i ≤ b.length ∧ ∃ n, b.length - i < n ∧ skipF b n i = skipP b a) (fun i => b.length - i) (more b) a ok (Errs.none (E := E0)) ⟨ha, _, by omega, rfl⟩ ?_ ?_ ?_
    · rintro i ⟨hi, hu⟩
      by_cases h : i < b.length
      · obtain ⟨c, hc, hd⟩ := byte_at h
        obtain ⟨bp, vs, hb1, hb2, rfl⟩ := T.blanks
        refine tcast (t_and (p := true) (tcast (t_lt (g_var C 1) (g_lenL C B.len (g_var C 0))) (by rw [List.length_map]; simpa using h)) fun _ => t_or (t_inTs C (u := .int (c.toNat : Int)) (us := ([32, 9, 10] : List Int).map V.int) (g_ixL C (g_var C 0) (g_var C 1) rfl hd) (g_globT C hb1 hb2 fun H => ⟨rfl, rfl, rfl, trivial⟩) rfl rfl) fun _ => t_eq (g_ixL C (g_var C 0) (g_var C 1) rfl hd) (g_cn C T.remark)) ?_
        rw [inV_ints, blank_iff, byte_eq c 35 35 rfl]
        unfold more
        rw [hc]
        rfl
      · refine tcast (t_and (p := false) (q := false) (tcast (t_lt (g_var C 1) (g_lenL C B.len (g_var C 0))) (by rw [List.length_map]; simpa using h)) fun z => by cases z) ?_
        unfold more
        rw [List.getElem?_eq_none (by omega)]
        rfl
    · rintro i ⟨hi, n, hn1, hn2⟩ ht H2 σ2 ok2
      have hlt : i < b.length := by
        rcases Nat.lt_or_ge i b.length with q | q
        · exact q
        · unfold more at ht
          rw [List.getElem?_eq_none q] at ht
          cases ht
      obtain ⟨c, hc, hd⟩ := byte_at hlt
      have hb : (isBlank c || decide (c = 35)) = true := by
        unfold more at ht
        rw [hc] at ht
        exact ht
      cases n with
      | zero => omega
      | succ n =>
        by_cases h35 : c = 35
        · have e : skipF b (n + 1) i = skipF b n (upTo (· != 10) b i) := by
            conv => lhs; unfold skipF
            rw [hc]
            exact if_pos h35
          have h1 := remark_on (by rw [hc, h35])
          have h2 := upTo_le (p := (· != 10)) (Nat.le_of_lt hlt)
          refine st_set C 1 (d := dNat (upTo (· != 10) b i)) ok2 (Errs.none (E := E0)) (g_if (p := true) (tcast (t_eq (g_ixL C (g_var C 0) (g_var C 1) rfl hd) (g_cn C T.remark)) (by rw [byte_eq c 35 35 rfl]; simpa using h35)) (fun _ => g_call C hR (a_cons (g_var C 0) (a_cons (g_var C 1) a_nil)) ⟨b, i, rfl, hi, rfl⟩) fun z => by cases z) fun H3 σ3 ok3 => st_nil ⟨_, by omega, ⟨h2, n, by omega, by rw [← hn2, e]⟩, ok3⟩
        · have hbl : isBlank c = true := by
            rw [decide_eq_false h35, Bool.or_false] at hb
            exact hb
          have e : skipF b (n + 1) i = skipF b n (i + 1) := by
            conv => lhs; unfold skipF
            rw [hc]
            exact (if_neg h35).trans (if_pos hbl)
          refine st_set C 1 (d := dNat (i + 1)) ok2 (Errs.none (E := E0)) (g_if (p := false) (tcast (t_eq (g_ixL C (g_var C 0) (g_var C 1) rfl hd) (g_cn C T.remark)) (by rw [byte_eq c 35 35 rfl]; simpa using h35)) (fun z => by cases z) fun _ => gcast (g_add (g_var C 1) g_int) rfl) fun H3 σ3 ok3 => st_nil ⟨i + 1, by omega, ⟨hlt, n, by omega, by rw [← hn2, e]⟩, ok3⟩
    · rintro i ⟨hi, n, hn1, hn2⟩ ht H2 σ2 ok2
      have e : skipP b a = i := by
        rw [← hn2]
        cases n with
        | zero => rfl
        | succ n =>
          unfold skipF
          unfold more at ht
          cases hc : b[i]? with
          | none => rfl
          | some c =>
            rw [hc] at ht
            rw [Bool.or_eq_false_iff] at ht
            have h2 := of_decide_eq_false ht.2
            exact (if_neg h2).trans (if_neg (by rw [ht.1]; exact Bool.false_ne_true))
      rw [e] at hk
      exact st_ret ok2 (Errs.none (E := E0)) (g_var C 1) fun v H' => hr _ v H' hk
/-! chunk_at, token_at, tokens_of -/
abbrev s_chunk_at : Stmt := top 44
theorem sc_chunk_at : FnScope ["text", "begin", "found", "byte", "sign"] ["text", "begin"] (defScope s_chunk_at) := ⟨rfl, rfl, rfl, by decide +kernel, rfl, by decide +kernel, by decide +kernel⟩
def A_chunk_at : Pr := fun ds kr _ => ∃ (b : List UInt8) (a : Nat), ds = [eB b, dNat a] ∧ b.length ≤ 4096 ∧ kr (dU ((b.drop a).takeWhile inChunk))
theorem sgn_chunk (c : UInt8) (h : inChunk c = true) : sgn c = [c] ∧ c ≠ 59 := by
  have q := u8_all (p := fun c => !inChunk c || (decide (sgn c = [c]) && decide (c ≠ 59))) (by decide +kernel) c
  rw [h] at q
  simpa using q
theorem sgn_stop (c : UInt8) : (decide (sgn c = []) || decide (sgn c = [59])) = !inChunk c := by
  have q := u8_all (p := fun c => (decide (sgn c = []) || decide (sgn c = [59])) == !inChunk c) (by decide +kernel) c
  exact eq_of_beq q
theorem take_take {p : UInt8 → Bool} : ∀ {l : List UInt8} {i : Nat} {c : UInt8}, l[i]? = some c → (l.take i).all p = true → (p c = false → l.takeWhile p = l.take i)
  | [], i, c, h, _, _ => by simp at h
  | x :: l, 0, c, h, _, hp => by
    have h : x = c := by simpa using h
    rw [List.takeWhile_cons, if_neg (by rw [h, hp]; exact Bool.false_ne_true)]
    rfl
  | x :: l, i + 1, c, h, ha, hp => by
    rw [List.take_succ_cons, List.all_cons, Bool.and_eq_true] at ha
    rw [List.takeWhile_cons, if_pos ha.1, List.take_succ_cons, take_take (by simpa using h) ha.2 hp]
theorem all_while {p : UInt8 → Bool} : ∀ {l : List UInt8}, l.all p = true → l.takeWhile p = l
  | [], _ => rfl
  | x :: l, h => by
    rw [List.all_cons, Bool.and_eq_true] at h
    rw [List.takeWhile_cons, if_pos h.1, all_while h.2]
theorem ok_chunk_at (B : Bi mg) (T : CnT mg K) (hS : Has P w K mg base CX0 1 "sign_of" A_sign_of) (F : Fun K "chunk_at" "chunk_at" s_chunk_at f fd) : FnOk P w K mg base CX0 2 f fd ["text", "begin"] (spT A_chunk_at) := by
  refine def_ok F sc_chunk_at (fun ds kr ke h => ?_) fun X C S H σ ds kr ke0 hA ok er Dn hr hn => ?_
  · obtain ⟨b, a, rfl, _⟩ := h
    rfl
  · obtain ⟨ke, b, a, rfl, hz, hk⟩ := hA
    refine st_set C 2 (d := dU []) ok (Errs.none (E := E0)) (g_strU []) fun H1 σ1 ok1 => ?_
    refine st_for C (l := b.drop a) (enc := fun c => dNat c.toNat) (f := fun c ss => ss.set 3 (some (dNat c.toNat))) (is := [3]) ok1 (Errs.none (E := E0)) (gi_list C (gcast (g_slL C (g_var C 0) (po_e (g_var C 1)) po_no) (by rw [cut_hi, List.map_drop]))) (fun x _ ss1 _ => gg_name C 3)
      (fun i ss1 o1 => ∃ x y, ss1 = [some (eB b), some (dNat a), some (dU ((b.drop a).take i)), x, y] ∧ o1 = [] ∧ ((b.drop a).take i).all inChunk = true)
      ⟨none, none, rfl, rfl, rfl⟩ (fun i ss1 o1 ⟨x, y, h, h', _⟩ => by subst h h'; exact ⟨rfl, rfl⟩) ?_ ?_
    · rintro B' eB' _ i c hc ss1 o1 ⟨x, y, rfl, rfl, hall⟩ H3 σ3 ok3
      have hlen : ((b.drop a).take i).length ≤ 4096 := by
        rw [List.length_take, List.length_drop]
        omega
      refine st_set C 4 (d := dU (sgn c)) ok3 (Errs.none (E := E0)) (g_call C hS (a_cons (g_var C 3) a_nil) ⟨c, rfl, rfl⟩) fun H4 σ4 ok4 => ?_
      refine st_if (t := !inChunk c) ok4 (Errs.none (E := E0)) (tcast (t_or (t_eqU (g_var C 4) (g_strU [])) fun _ => t_eqU (y := [59]) (g_var C 4) (g_cn C T.sign)) (sgn_stop c)) (fun ht H5 ok5 => ?_) fun ht H5 ok5 => st_nil ?_
      · have e := take_take hc hall (by simpa using ht)
        rw [e] at hk
        exact st_ret ok5 (Errs.none (E := E0)) (g_var C 2) fun v H' e1 => hr _ v H' hk (eB'.trans e1)
      · have hin : inChunk c = true := by simpa using ht
        obtain ⟨s1, s2⟩ := sgn_chunk c hin
        refine st_set C 2 (d := dU ((b.drop a).take i ++ [c])) ok5 (Errs.none (E := E0)) (gcast (g_addU (g_var C 2) (g_var C 4) (by rw [s1]; simp only [List.length_singleton]; omega)) (by rw [s1])) fun H6 σ6 ok6 => st_nil ?_
        refine ⟨_, _, ⟨some (dNat c.toNat), some (dU (sgn c)), rfl, rfl, ?_⟩, ?_⟩
        · rw [take_succ_of hc, List.all_append, hall]
          simp [hin]
        · rw [take_succ_of hc]
          exact ok6
    · rintro ss1 o1 ⟨x, y, rfl, rfl, hall⟩ H3 σ3 ok3
      rw [List.take_length] at ok3 hall
      rw [all_while hall] at hk
      exact st_ret ok3 (Errs.none (E := E0)) (g_var C 2) fun v H' => hr _ v H' hk
def tokAt (b : List UInt8) (a : Nat) : Option (List UInt8) := if b[a]? = some 59 then some [59] else if 1 ≤ ((b.drop a).takeWhile inChunk).length ∧ ((b.drop a).takeWhile inChunk).length ≤ 40 then some ((b.drop a).takeWhile inChunk) else none
abbrev erF (cE : Addr) (c p : Nat) : Er := ⟨cE, foFault [.int (c : Int), .int (p : Int)]⟩
abbrev s_token_at : Stmt := top 45
theorem sc_token_at : FnScope ["text", "begin", "found"] ["text", "begin"] (defScope s_token_at) := ⟨rfl, rfl, rfl, by decide +kernel, rfl, by decide +kernel, by decide +kernel⟩
def A_token_at (cE : Addr) : Pr := fun ds kr ke => ∃ (b : List UInt8) (a : Nat), ds = [eB b, dNat a] ∧ a < b.length ∧ b.length ≤ 4096 ∧ (∀ w, tokAt b a = some w → kr (dU w)) ∧ (tokAt b a = none → ke (erF cE 2 a))
theorem sgn_59 (c : UInt8) : decide (sgn c = [59]) = decide (c = 59) := by
  have q := u8_all (p := fun c => decide (sgn c = [59]) == decide (c = 59)) (by decide +kernel) c
  exact eq_of_beq q
theorem ok_token_at (B : Bi mg) (T : CnT mg K) {cE fI : Addr} (TF : ExT K mg "Fault" cE fI ["code", "place"]) (hI : HasX P w K mg base 1 cE fI 2 foFault) (hS : Has P w K mg base CX0 1 "sign_of" A_sign_of) (hC : Has P w K mg base CX0 2 "chunk_at" A_chunk_at) (F : Fun K "token_at" "token_at" s_token_at f fd) :
    FnOk P w K mg base (L2.CX P w) 3 f fd ["text", "begin"] (spT (A_token_at cE)) := by
  refine def_okX F sc_token_at (fun ds kr ke h => ?_) fun X E C S H σ ds kr ke hA ok er Dn hr hn => ?_
  · obtain ⟨b, a, rfl, _⟩ := h
    rfl
  · obtain ⟨b, a, rfl, ha, hz, h1, h2⟩ := hA
    obtain ⟨c, hc, hd⟩ := byte_at ha
    refine st_if (t := decide (c = 59)) ok er (tcast (t_eqU (y := [59]) (g_call C hS (a_cons (g_ixL C (g_var C 0) (g_var C 1) rfl hd) a_nil) ⟨c, rfl, rfl⟩) (g_cn C T.sign)) (sgn_59 c)) (fun ht H1 ok1 => ?_) fun ht H1 ok1 => st_nil ?_
    · have e : tokAt b a = some [59] := if_pos (by rw [hc, of_decide_eq_true ht])
      exact st_ret ok1 er (g_cn C T.sign) fun v H' => hr _ v H' (h1 _ e)
    · have h59 : ¬ b[a]? = some 59 := by
        rw [hc]
        exact fun z => of_decide_eq_false ht (Option.some.inj z)
      obtain ⟨x, hx⟩ : ∃ x, x = (b.drop a).takeWhile inChunk := ⟨_, rfl⟩
      have hxl : x.length ≤ 4096 := by
        rw [hx]
        refine Nat.le_trans (List.takeWhile_sublist _).length_le ?_
        rw [List.length_drop]
        omega
      refine st_set C 2 (d := dU x) ok1 er (g_call C hC (a_cons (g_var C 0) (a_cons (g_var C 1) a_nil)) ⟨b, a, rfl, hz, by rw [← hx]⟩) fun H2 σ2 ok2 => ?_
      have e0 : tokAt b a = if 1 ≤ x.length ∧ x.length ≤ 40 then some x else none := by
        unfold tokAt
        rw [if_neg h59, ← hx]
      refine st_if (t := !(decide (1 ≤ x.length) && decide (x.length ≤ 40))) ok2 er (tcast (t_not (t_le_le g_int (g_lenU C B.len (g_var C 2) (by omega)) (g_cn C T.longest))) (by congr 1; congr 1 <;> rw [decide_eq_decide] <;> omega)) (fun ht H3 ok3 => ?_) fun ht H3 ok3 => st_nil ?_
      · have e : tokAt b a = none := by
          rw [e0, if_neg]
          intro z
          rw [decide_eq_true z.1, decide_eq_true z.2] at ht
          cases ht
        exact st_raise C TF hI (us := [.int 2, .int (a : Int)]) ok3 er (a_cons (g_cn C T.noToken) (a_cons (g_var C 1) a_nil)) rfl (by show 2 ≤ 1000; decide) (h2 e)
      · have e : tokAt b a = some x := by
          rw [e0, if_pos]
          simpa using ht
        exact st_ret ok3 er (g_var C 2) fun v H' => hr _ v H' (h1 _ e)
end
end Lp
namespace Tr
open PySem PySem.Spec PyProof.Rows L2
/-- no value at all: what never comes back -/
def dX : D := ⟨fun _ _ => False, fun _ h => h⟩
theorem okf_never {B : Hp} {S q : List Addr} {H : Hp} {σ : Sg} {ss : List (Option D)} {o : Ow} (i : Nat) (ok : Okf B S q H σ ss o) (h : ss[i]? = some (some dX)) : False := by
  obtain ⟨v, _, hv⟩ := ok.sl.get h
  exact hv
theorem st_exprX {X : CS} {E : XK} {ex : Er → Prop} {ss : List (Option D)} {B : Hp} {S q : List Addr} {H : Hp} {σ : Sg} {o : Ow} {Dn : Ends} {r : List Stmt} {e : Expr} {pos : Pos} (ok : Okf B S q H σ ss o) (er : Errs E ex B) (g : Ge X E ex ss e dX) (hs : ∀ env, swapsWith e none pos.line env = pure false := by intro _; rfl) : wpS X (.Expr e pos :: r) Dn σ H :=
  wpS_cons (fun x hx => ps_expr (wpE_pe hx) (hs x.env)) (g _ H σ ok.ok (er.at ok.ex) _ fun v H1 e1 pv => False.elim pv)
theorem se_exprX {X : CS} {S q : List Addr} {H : Hp} {σ : Sg} {Dn : Ends} {r : List Stmt} {e : Expr} {pos : Pos} (g : Ev X (q ++ S) H σ e dX) (hs : ∀ env, swapsWith e none pos.line env = pure false := by intro _; rfl) : wpS X (.Expr e pos :: r) Dn σ H :=
  wpS_cons (fun x hx => ps_expr (wpE_pe hx) (hs x.env)) (g _ fun v H1 e1 pv => False.elim pv)
theorem se_expr {X : CS} {B : Hp} {S q : List Addr} {H : Hp} {σ : Sg} {ss : List (Option D)} {o : Ow} {Dn : Ends} {r : List Stmt} {e : Expr} {d : D} {pos : Pos} (ok : Okf B S q H σ ss o) (g : Ev X (q ++ S) H σ e d) (k : ∀ H', Okf B S q H' σ ss o → wpS X r Dn σ H') (hs : ∀ env, swapsWith e none pos.line env = pure false := by intro _; rfl) : wpS X (.Expr e pos :: r) Dn σ H :=
  wpS_cons (fun x hx => ps_expr (wpE_pe hx) (hs x.env)) (g _ fun v H1 e1 pv => k H1 (ok.up e1))
theorem free_X {κ : HO → Prop} : Free κ dX := fun _ _ _ _ _ _ h => h
end Tr
namespace Lp
open PySem PySem.Spec PyProof.Rows L2 Tr
open VahypBase (isLetter isDigit inChunk isBlank)
abbrev Tk := List UInt8 × Nat
abbrev eTok (t : Tk) : D := dT [dU t.1, dNat t.2]
def toksP (b : List UInt8) : Nat → Nat → List Tk → Nat ⊕ List Tk
  | 0, _, acc => .inr (acc ++ [([], b.length)])
  | n + 1, a, acc => if a < b.length then match tokAt b a with
    | none => .inl a
    | some x => toksP b n (skipP b (a + x.length)) (acc ++ [(x, a)]) else .inr (acc ++ [([], b.length)])
def toksF (b : List UInt8) : Nat ⊕ List Tk := toksP b (b.length + 1) (skipP b 0) []
theorem tok_pos {b : List UInt8} {a : Nat} {x : List UInt8} (h : tokAt b a = some x) : 1 ≤ x.length ∧ a + x.length ≤ b.length ∧ x.length ≤ 40 := by
  unfold tokAt at h
  split at h
  · rename_i h59
    have hl := (List.getElem?_eq_some_iff.mp h59).1
    cases h
    exact ⟨Nat.le_refl _, hl, by decide⟩
  · split at h
    · rename_i hx
      cases h
      have hle := (List.takeWhile_sublist inChunk (l := b.drop a)).length_le
      rw [List.length_drop] at hle
      exact ⟨hx.1, by omega, hx.2⟩
    · cases h
section
variable {P : Program} {w : World} {K : PySem.W.Frag} {mg : Str → Option Value} {base : Heap} {f : Addr} {fd : FuncData}
abbrev s_tokens_of : Stmt := top 46
theorem sc_tokens_of : FnScope ["text", "found", "at", "token"] ["text"] (defScope s_tokens_of) := ⟨rfl, rfl, rfl, by decide +kernel, rfl, by decide +kernel, by decide +kernel⟩
def A_tokens_of (cE : Addr) : Pr := fun ds kr ke => ∃ (b : List UInt8), ds = [eB b] ∧ b.length ≤ 10000 ∧ (4096 < b.length → ke (erF cE 1 4096)) ∧ (b.length ≤ 4096 → ∀ a, toksF b = .inl a → ke (erF cE 2 a)) ∧ (b.length ≤ 4096 → ∀ l, toksF b = .inr l → kr (dL (l.map eTok)))
theorem ok_tokens_of (B : Bi mg) (T : CnT mg K) {cE fI : Addr} (TF : ExT K mg "Fault" cE fI ["code", "place"]) (hI : HasX P w K mg base 1 cE fI 2 foFault) (hS : Has P w K mg base CX0 2 "behind_blanks" A_behind_blanks) (hT : Has P w K mg base (L2.CX P w) 3 "token_at" (A_token_at cE)) (F : Fun K "tokens_of" "tokens_of" s_tokens_of f fd) :
    FnOk P w K mg base (L2.CX P w) 4 f fd ["text"] (spT (A_tokens_of cE)) := by
  refine def_okX F sc_tokens_of (fun ds kr ke h => ?_) fun X E C S H σ ds kr ke hA ok er Dn hr hn => ?_
  · obtain ⟨b, rfl, _⟩ := h
    rfl
  · obtain ⟨b, rfl, hz, h1, h2, h3⟩ := hA
    refine st_if (t := decide (4096 < b.length)) ok er (tcast (t_gt (g_lenL C B.len (g_var C 0)) (g_cn C T.mostBytes)) (by rw [List.length_map, decide_eq_decide]; omega)) (fun ht H1 ok1 => ?_) fun ht H1 ok1 => st_nil ?_
    · exact st_raise C TF hI (us := [.int 1, .int 4096]) ok1 er (a_cons (g_cn C T.tooLong) (a_cons (g_cn C T.mostBytes) a_nil)) rfl (by show 2 ≤ 1000; decide) (h1 (of_decide_eq_true ht))
    · have hz : b.length ≤ 4096 := by have := of_decide_eq_false ht; omega
      have h2 := h2 hz
      have h3 := h3 hz
      refine st_newL C 1 ok1 (Nat.le_of_ble_eq_true rfl) fun p H2 σ2 ok2 => ?_
      refine st_set C 2 ok2 er (g_call C hS (a_cons (g_var C 0) (a_cons (g_int (i := 0)) a_nil)) ⟨b, 0, rfl, Nat.zero_le _, rfl⟩) fun H3 σ3 ok3 => ?_
      refine st_while C (τ := Nat × List Tk × Option D) (fun z => [some (eB b), none, some (dNat z.1), z.2.2]) (fun z => [(1, oL (z.2.1.map eTok))]) (fun z => z.1 ≤ b.length ∧ z.2.1.length + (b.length - z.1) ≤ b.length ∧ ∃ n, b.length - z.1 < n ∧ toksP b n z.1 z.2.1 = toksF b) (fun z => b.length - z.1) (fun z => decide (z.1 < b.length)) (skipP b 0, [], none) ok3 er ⟨skipF_le b _ _ (Nat.zero_le _), by simp, _, by simp; omega, rfl⟩ ?_ ?_ ?_
      · rintro ⟨i, acc, x⟩ ⟨hi, _⟩
        exact tcast (t_lt (g_var C 2) (g_lenL C B.len (g_var C 0))) (by rw [List.length_map, decide_eq_decide]; omega)
      · rintro ⟨i, acc, x⟩ ⟨hi, hacc, n, hn1, hn2⟩ ht H4 σ4 ok4
        have hlt : i < b.length := of_decide_eq_true ht
        have hi : i ≤ b.length := hi
        have hacc : acc.length + (b.length - i) ≤ b.length := hacc
        have hn1 : b.length - i < n := hn1
        cases n with
        | zero => omega
        | succ n =>
          have hstep : toksP b (n + 1) i acc = match tokAt b i with
            | none => .inl i
            | some x => toksP b n (skipP b (i + x.length)) (acc ++ [(x, i)]) := if_pos hlt
          cases ht : tokAt b i with
          | none =>
            rw [ht] at hstep
            have herr := h2 i (by rw [← hn2]; exact hstep)
            exact st_set C 3 (d := dX) ok4 er (g_callX C hT (a_cons (g_var C 0) (a_cons (g_var C 2) a_nil)) ⟨b, i, rfl, hlt, hz, fun w hw => (by rw [ht] at hw; cases hw), fun _ => herr⟩) fun H5 σ5 ok5 => (okf_never 3 ok5 rfl).elim
          | some y =>
            rw [ht] at hstep
            obtain ⟨p1, p2, p3⟩ := tok_pos ht
            refine st_set C 3 (d := dU y) ok4 er (g_callX C hT (a_cons (g_var C 0) (a_cons (g_var C 2) a_nil)) ⟨b, i, rfl, hlt, hz, fun w hw => (by rw [ht] at hw; cases hw; rfl), fun z => (by rw [ht] at z; cases z)⟩) fun H5 σ5 ok5 => ?_
            refine st_app C ok5 (ev_ge ok5 er (g_tup (a_cons (g_var C 3) (a_cons (g_var C 2) a_nil)))) (by rw [List.length_map]; omega) fun H6 ok6 => ?_
            have hs1 := skipF_ge b (b.length + 1) (i + y.length)
            have hs2 := skipF_le b (b.length + 1) (i + y.length) p2
            refine st_set C 2 (d := dNat (skipP b (i + y.length))) ok6 er (g_call C hS (a_cons (g_var C 0) (a_cons (gcast (g_add (g_var C 2) (g_lenU C B.len (g_var C 3) (by omega))) (d' := dNat (i + y.length)) rfl) a_nil)) ⟨b, i + y.length, rfl, p2, rfl⟩) fun H7 σ7 ok7 => st_nil ?_
            refine ⟨(skipP b (i + y.length), acc ++ [(y, i)], some (dU y)), ?_, ⟨hs2, ?_, n, ?_, ?_⟩, okf_cast ok7 ?_⟩
            · show b.length - skipP b (i + y.length) < b.length - i
              unfold skipP
              omega
            · show (acc ++ [(y, i)]).length + (b.length - skipP b (i + y.length)) ≤ b.length
              rw [List.length_append]
              unfold skipP
              simp only [List.length_singleton]
              omega
            · show b.length - skipP b (i + y.length) < n
              unfold skipP
              omega
            · rw [← hn2]
              exact hstep.symm
            · show [(1, oL (acc.map eTok ++ [eTok (y, i)]))] = [(1, oL ((acc ++ [(y, i)]).map eTok))]
              rw [List.map_append]
              rfl
      · rintro ⟨i, acc, x⟩ ⟨hi, hacc, n, hn1, hn2⟩ ht H4 σ4 ok4
        have hge : ¬ i < b.length := of_decide_eq_false ht
        have hacc : acc.length + (b.length - i) ≤ b.length := hacc
        have e : toksF b = .inr (acc ++ [([], b.length)]) := by
          rw [← hn2]
          cases n with
          | zero => rfl
          | succ n => exact if_neg hge
        have hk := h3 _ e
        have ok5 := ok4.give oL_dL
        refine st_ret ok5 er (g_cat (g_var C 1) (g_list (a_cons (g_tup (a_cons (g_strU []) (a_cons (g_lenL C B.len (g_var C 0)) a_nil))) a_nil)) (by simp only [List.length_map, List.length_singleton]; omega)) fun v H' => hr _ v H' ?_
        rw [List.map_append] at hk
        rw [List.length_map]
        exact hk
end
end Lp
namespace Tr
open PySem PySem.Spec PyProof.Rows L2
def isOf (C : Addr) : HO → Prop
  | .ins C' _ _ => C' = C
  | _ => False
theorem oI_of {Cl : Addr} {ns : List Str} {fs : List D} : ∀ W h, (oI Cl ns fs).p W h → isOf Cl h := fun W h ⟨dx, vs, h1, _⟩ => by rw [h1]; rfl
theorem free_O {κ : HO → Prop} {Cl : Addr} {ns : List Str} {ds : List D} (hκ : ∀ dx fs, ¬ κ (.ins Cl dx fs)) (h : ∀ d ∈ ds, Free κ d) : Free κ (dO Cl ns ds) := fun W v p u hp hk ⟨a, dx, vs, h1, h2, h3⟩ => by
  refine ⟨a, dx, vs, h1, ?_, free_Reps hp hk h h3⟩
  rw [wd_out fun z => ?_]
  · exact h2
  · have e : a = p := by simpa using z
    rw [e, hp] at h2
    cases h2
    exact hκ _ _ hk
section
variable {X : CS} {P : Program} {w : World} {K : PySem.W.Frag} {mg : Str → Option Value} {base : Heap} {N : List Str} {kd : Str → Option NameKind} {k : Nat} {E : XK} {ex : Er → Prop} {ss ss' : List (Option D)} {d : D} {ds es : List D} {pos p1 p2 apos : Pos}
  {B : Hp} {S q : List Addr} {H : Hp} {σ : Sg} {o : Ow} {Dn : Ends} {r : List Stmt} {e : Expr} {a p : Addr} {i j : Nat} {y : Str} {od od2 : OD}
/-- .. what is owned first out of sight again -/
theorem ev_hide {κ : HO → Prop} (ok : Okf B S (a :: q) H σ ss ((i, od) :: o)) (hκ : ∀ W h, od.p W h → κ h) (g : Ev X (q ++ S) H σ e d) (hf : Free κ d) : Ev X (a :: q ++ S) H σ e d := fun Q k => by
  have hout : ¬ a ∈ q ++ S := fun z => by
    rcases List.mem_append.mp z with z | z
    · exact (List.nodup_cons.mp ok.nd).1 z
    · exact ok.hid a z (ok.new a List.mem_cons_self)
  obtain ⟨h1, ⟨u, h2, h3⟩, h4⟩ := ok.own
  refine g _ fun v H1 e1 pv => k v H1 e1 ?_
  have z := hf _ v a u (by rw [wd_out hout]; exact e1 _ _ h2) (hκ _ _ h3) pv
  rw [wd_wd] at z
  exact z
/-- None, or no answer at all -/
def dW (b : Bool) : D := if b = true then dN else dX
theorem dW_t {b : Bool} (h : b = true) : dN = dW b := by rw [h]; rfl
theorem free_W {κ : HO → Prop} {b : Bool} : Free κ (dW b) := by
  cases b
  · exact free_X
  · exact free_V
theorem st_want {b : Bool} (ok : Okf B S q H σ ss o) (er : Errs E ex B) (g : Ge X E ex ss e (dW b)) (kk : b = true → ∀ H', Okf B S q H' σ ss o → wpS X r Dn σ H') (hs : ∀ env, swapsWith e none pos.line env = pure false := by intro _; rfl) : wpS X (.Expr e pos :: r) Dn σ H := by
  cases b
  · exact st_exprX ok er g hs
  · exact st_expr ok er g (kk rfl) hs
theorem se_want {b : Bool} (ok : Okf B S q H σ ss o) (g : Ev X (q ++ S) H σ e (dW b)) (kk : b = true → ∀ H', Okf B S q H' σ ss o → wpS X r Dn σ H') (hs : ∀ env, swapsWith e none pos.line env = pure false := by intro _; rfl) : wpS X (.Expr e pos :: r) Dn σ H := by
  cases b
  · exact se_exprX (q := q) g hs
  · exact se_expr ok g (kk rfl) hs
/-- two owned things in sight -/
theorem ev_seen2 {dv dv2 : D} {κ κ2 : HO → Prop} {p : Addr} (ok : Okf B S (a :: p :: q) H σ ss ((i, od) :: (j, od2) :: o)) (er : Errs E ex B) (hod : ∀ W h, W a = some h → od.p W h → dv.p W (.ref a)) (hκ : ∀ W h, od.p W h → κ h) (hod2 : ∀ W h, W p = some h → od2.p W h → dv2.p W (.ref p)) (hκ2 : ∀ W h, od2.p W h → κ2 h)
    (g : Ge X E ex ((ss.set i (some dv)).set j (some dv2)) e d) (hf : Free κ d) (hf2 : Free κ2 d) : Ev X (a :: p :: q ++ S) H σ e d :=
  ev_hide ok hκ (ev_seen (ok.give hod) er hod2 hκ2 g hf2) hf
/-- while c: .., c seeing what is owned -/
theorem st_whileE (C : Ctx X P w K mg base N kd k E) {c : Expr} {body : List Stmt} {τ : Type} (I : τ → List (Option D)) (J : τ → Ow) (V : τ → Prop) (m : τ → Nat) (t : τ → Bool) (a0 : τ) (ok : Okf B S q H σ (I a0) (J a0)) (v0 : V a0)
    (ht : ∀ a, V a → ∀ H1 σ1, Okf B S q H1 σ1 (I a) (J a) → Et X H1 σ1 c (t a))
    (hs : ∀ a, V a → t a = true → ∀ H1 σ1, Okf B S q H1 σ1 (I a) (J a) → wpS X body { Dn with nx := fun σ2 H2 => ∃ a', m a' < m a ∧ V a' ∧ Okf B S q H2 σ2 (I a') (J a'), ct := fun σ2 H2 => ∃ a', m a' < m a ∧ V a' ∧ Okf B S q H2 σ2 (I a') (J a'), bk := wpS X r Dn } σ1 H1)
    (hd : ∀ a, V a → t a = false → ∀ H1 σ1, Okf B S q H1 σ1 (I a) (J a) → wpS X r Dn σ1 H1) : wpS X (.While c body [] pos :: r) Dn σ H := by
  refine wpS_cons (fun x hx => ps_while (C.own x hx) (wpT_pt hx) (wpS_pss hx)) ?_
  refine ⟨fun n σ' H' => ∃ a, m a = n ∧ V a ∧ Okf B S q H' σ' (I a) (J a), ⟨_, a0, rfl, v0, ok⟩, ?_⟩
  rintro n σ' H' ⟨a, rfl, va, ok1⟩
  refine ht a va H' σ' ok1 _ fun H1 e1 => ?_
  cases htt : t a with
  | true =>
    rw [if_pos rfl]
    refine ⟨fun σ2 H2 => ∃ a', m a' < m a ∧ V a' ∧ Okf B S q H2 σ2 (I a') (J a'), fun σ2 H2 ⟨a', h1, h2, h3⟩ => ⟨m a', h1, a', rfl, h2, h3⟩, ?_⟩
    exact hs a va htt H1 σ' (ok1.up e1)
  | false =>
    rw [if_neg Bool.false_ne_true]
    exact hd a va htt H1 σ' (ok1.up e1)
/-- x.append(e), e a call that changes what is owned first, x what is owned next -/
theorem st_appO {R : Ow → D → Prop} (C : Ctx X P w K mg base N kd k E) (ok : Okf B S (p :: a :: q) H σ ss ((i, od) :: (j, oL ds) :: o)) (g : EvO X B S (p :: a :: q) H σ ss e R) (hR : ∀ o' d, R o' d → ∃ od', o' = (i, od') :: (j, oL ds) :: o) (hz : ds.length < 1000000)
    (kk : ∀ H' od' d, R ((i, od') :: (j, oL ds) :: o) d → (∃ W v, d.p W v) → Okf B S (p :: a :: q) H' σ ss ((i, od') :: (j, oL (ds ++ [d])) :: o) → wpS X r Dn σ H') (hN : N[j]? = some y := by rfl) (hv : Seen kd y := by first | exact Or.inl rfl | exact Or.inr (Or.inl rfl))
    (hd : (y == ("__debug__" : Str)) = false := by decide) (hcd : (y == ("__classdict__" : Str)) = false := by decide) (hs : ∀ env, starEach [e] env = (false, eval e env) :: starEach [] env := by intro _; rfl)
    (hfew : ∀ env, ((backTo p2 (starEach [e] env)).all (fun x => !x.1) && (backToKw p2 (keywordEach [] env)).all (fun x => x.1.isSome) && decide ([e].length + ([] : List Keyword).length + (if ([] : List Keyword).isEmpty then 0 else 1) < 30)) = true := by intro _; rfl)
    (hb : ∀ env, attributeBase (.Name y p1) "append" env (eval (.Name y p1) env) = eval (.Name y p1) env := by intro _; rfl) (hl : (apos.endLine == p2.line) = true := by rfl)
    (hsw : ∀ env, swapsWith (.Call (.Attribute (.Name y p1) "append" apos) [e] [] p2) none pos.line env = pure false := by intro _; rfl) :
    wpS X (.Expr (.Call (.Attribute (.Name y p1) "append" apos) [e] [] p2) pos :: r) Dn σ H := by
  refine wpS_cons (t := tDrop (tBM K "list" rAppend (tVar j) (tCons (wpE X e) tNil))) (fun x hx => by rw [← C.frag x hx]; exact ps_expr (pe_bm PySem.F.plainAttrs_list PySem.F.slot_list_append PySem.F.type_list_append mt_append (pe_var (i := j) (by rw [C.slots x hx]; exact hN) (C.vis x hx _ hv) hd hcd) (pa_cons (wpE_pe hx) pa_nil (hs x.env)) (hbase := hb x.env) (hs := hs x.env) (hfew := hfew x.env) (hline := hl)) (hsw x.env)) ?_
  obtain ⟨g1, ⟨gu, g2, g3⟩, h1, ⟨u, h2, vs, rfl, h3⟩, h4⟩ := ok.own
  refine ⟨_, h1, .inl ⟨rfl, _, SqL.of h2⟩, ?_⟩
  refine g _ fun v H1 o' d hr ok1 pv => ?_
  obtain ⟨od', rfl⟩ := hR o' d hr
  obtain ⟨_, _, h1', ⟨u', h2', vs', rfl, h3'⟩, h4'⟩ := ok1.own
  refine ⟨a, vs', v, rfl, rfl, h2', by rw [h3'.len, sizeLine_eq]; omega, ?_⟩
  have ok2 := (ok1.swap.own_put (od' := oL (ds ++ [d])) ⟨vs' ++ [v], rfl, ?_⟩).swap
  · exact kk _ od' d hr ⟨_, v, pv⟩ ok2
  · have e : wd (a :: p :: q ++ S) H1 = wd (p :: a :: q ++ S) H1 := by
      funext b
      have iff : b ∈ a :: p :: q ++ S ↔ b ∈ p :: a :: q ++ S := by
        simp only [List.cons_append, List.mem_cons]
        constructor <;> (rintro (h | h | h) <;> simp [h])
      by_cases hb : b ∈ a :: p :: q ++ S
      · rw [wd_in hb, wd_in (iff.mp hb)]
      · rw [wd_out hb, wd_out fun z => hb (iff.mpr z)]
    rw [e]
    exact h3'.snoc pv
end
end Tr
namespace Lp
open PySem PySem.Spec PyProof.Rows L2 Tr
open VahypBase (isLetter isDigit inChunk isBlank)
open Vahypa (Word Lst)
/-- the module's own constants of the lists' layer -/
structure CnL (mg : Str → Option Value) : Prop where
  notAllowed : Cn mg "NOT_ALLOWED" (.int 3)
  tooMany : Cn mg "TOO_MANY" (.int 4)
  there : Cn mg "THERE_ALREADY" (.int 5)
  notTold : Cn mg "NOT_AS_TOLD_lists" (.int 7)
  mostMargin : Cn mg "MOST_MARGIN" (.int 5)
  leastLetters : Cn mg "LEAST_LETTERS" (.int 2)
  mostLetters : Cn mg "MOST_LETTERS" (.int 16)
  mostIn : Cn mg "MOST_IN_PATTERN" (.int 6)
  mostWords : Cn mg "MOST_WORDS" (.int 24)
  mostPats : Cn mg "MOST_PATTERNS" (.int 40)
  point : Cn mg "POINT_lists" (.str (sU [46]))
  hyphen : Cn mg "HYPHEN" (.str (sU [45]))
theorem mem_letters (c : UInt8) : decide (c ∈ lettersB) = isLetter c := eq_of_beq (u8_all (p := fun c => decide (c ∈ lettersB) == isLetter c) (by decide +kernel) c)
theorem mem_digits (c : UInt8) : decide (c ∈ digitsB) = isDigit c := eq_of_beq (u8_all (p := fun c => decide (c ∈ digitsB) == isDigit c) (by decide +kernel) c)
def gapsL : Nat → List (List UInt8) → List Nat
  | _, [] => []
  | b, p :: r => (b + p.length) :: gapsL (b + p.length) r
def sumL (l : List (List UInt8)) : Nat := l.flatten.length
theorem gapsL_snoc : ∀ (l : List (List UInt8)) (b : Nat) (p : List UInt8), gapsL b (l ++ [p]) = gapsL b l ++ [b + sumL l + p.length]
  | [], b, p => by simp [gapsL, sumL]
  | q :: l, b, p => by
    show (b + q.length) :: gapsL (b + q.length) (l ++ [p]) = (b + q.length) :: gapsL (b + q.length) l ++ [_]
    rw [gapsL_snoc l]
    simp [sumL]
    omega
theorem gapsL_len : ∀ (l : List (List UInt8)) (b : Nat), (gapsL b l).length = l.length
  | [], _ => rfl
  | q :: l, b => by
    show (gapsL (b + q.length) l).length + 1 = l.length + 1
    rw [gapsL_len l]
theorem sumL_snoc (l : List (List UInt8)) (p : List UInt8) : sumL (l ++ [p]) = sumL l + p.length := by simp [sumL]
def wordF (b : List UInt8) : Option Word :=
  let ps := splB 45 [] b
  if ps.all (fun p => !decide (p = []) && p.all isLetter) = true then if 2 ≤ ps.flatten.length ∧ ps.flatten.length ≤ 16 then some ⟨ps.flatten, gapsL 0 ps.dropLast⟩ else none else none
def eWordO (cW : Addr) : Option Word → D
  | none => dN
  | some w => eWord cW w
theorem spl_len : ∀ (x acc : List UInt8), (splB 45 acc x).flatten.length ≤ acc.length + x.length ∧ (splB 45 acc x).length ≤ x.length + 1
  | [], acc => by simp [splB]
  | c :: r, acc => by
    unfold splB
    split
    · obtain ⟨h1, h2⟩ := spl_len r []
      simp only [List.flatten_cons, List.length_append, List.length_cons] at h1 ⊢
      simp only [List.length_nil] at h1
      omega
    · obtain ⟨h1, h2⟩ := spl_len r (acc ++ [c])
      simp only [List.length_append, List.length_cons, List.length_nil] at h1 h2 ⊢
      omega
theorem cut_last {α : Type} (l : List α) : cutD l none (some (-1)) = l.dropLast := by
  unfold Tr.cutD HT.sIx
  rw [List.drop_zero, List.dropLast_eq_take]
  congr 1
  show (if (-1 : Int) < 0 then ((-1 : Int) + (l.length : Int)).toNat else _) - 0 = l.length - 1
  rw [if_pos (by decide)]
  omega
section
variable {P : Program} {w : World} {K : PySem.W.Frag} {mg : Str → Option Value} {base : Heap} {f : Addr} {fd : FuncData}
abbrev s_are_letters : Stmt := top 62
theorem sc_are_letters : FnScope ["text", "sign"] ["text"] (defScope s_are_letters) := ⟨rfl, rfl, rfl, by decide +kernel, rfl, by decide +kernel, by decide +kernel⟩
def A_are_letters : Pr := fun ds kr _ => ∃ b : List UInt8, ds = [dU b] ∧ b.length ≤ 1000 ∧ kr (dB (b.all isLetter))
theorem ok_are_letters (B : Bi mg) (T : CnT mg K) (F : Fun K "are_letters" "are_letters" s_are_letters f fd) : FnOk P w K mg base CX0 1 f fd ["text"] (spT A_are_letters) := by
  refine def_ok F sc_are_letters (fun ds kr ke h => ?_) fun X C S H σ ds kr ke0 hA ok er Dn hr hn => ?_
  · obtain ⟨b, rfl, _⟩ := h
    rfl
  · obtain ⟨ke, b, rfl, hz, hk⟩ := hA
    have e : (b.map fun c => isLetter c).all id = b.all isLetter := by rw [List.all_map]; rfl
    refine st_ret ok (Errs.none (E := E0)) (gcast (g_all C (bs := b.map fun c => isLetter c) B.all (gcast (g_lc C [("sign", 1)] (l := b) (enc := fun c => dU [c]) (is := [1]) (f := fun c => [some (dU b), some (dU [c])]) (t := fun _ => true) (g := fun c => dB (isLetter c))
      (gi_U (g_var C 0)) (by decide +kernel) (by rw [sizeLine_eq]; omega) (by simp)
      (fun c hc => gg_name (C.blk _ rfl) 1) (fun c hc => ts_nil)
      (fun c hc ht => gcast (g_inU (z := lettersB) (g_var (C.blk _ rfl) 1) (g_cn (C.blk _ rfl) T.letters)) (by rw [mem_letters]))) (by rw [filter_yes, List.map_map]; rfl))) (by rw [e])) fun v H' => hr _ v H' hk
abbrev s_word_of : Stmt := top 63
theorem sc_word_of : FnScope ["chunk", "parts", "letters", "gaps", "before", "part"] ["chunk"] (defScope s_word_of) := ⟨rfl, rfl, rfl, by decide +kernel, rfl, by decide +kernel, by decide +kernel⟩
def A_word_of (cW : Addr) : Pr := fun ds kr _ => ∃ b : List UInt8, ds = [dU b] ∧ b.length ≤ 100 ∧ kr (eWordO cW (wordF b))
theorem ok_word_of (B : Bi mg) (T : CnT mg K) (TL : CnL mg) {cW : Addr} (hA' : Has P w K mg base CX0 1 "are_letters" A_are_letters) (hW : HasC P w K mg base 1 cW "Word" nsW I_Word) (F : Fun K "word_of" "word_of" s_word_of f fd) : FnOk P w K mg base CX0 3 f fd ["chunk"] (spT (A_word_of cW)) := by
  refine def_ok F sc_word_of (fun ds kr ke h => ?_) fun X C S H σ ds kr ke0 hA ok er Dn hr hn => ?_
  · obtain ⟨b, rfl, _⟩ := h
    rfl
  · obtain ⟨ke, b, rfl, hz, hk⟩ := hA
    obtain ⟨ps, hps⟩ : ∃ ps, ps = splB 45 [] b := ⟨_, rfl⟩
    obtain ⟨l1, l2⟩ := spl_len b []
    rw [← hps] at l1 l2
    have l1 : ps.flatten.length ≤ 100 := by simp only [List.length_nil] at l1; omega
    have l3 : ∀ p ∈ ps, p.length ≤ 100 := fun p hp => by
      have := (List.sublist_flatten_of_mem hp).length_le
      omega
    have hw : wordF b = if ps.all (fun p => !decide (p = []) && p.all isLetter) = true then if 2 ≤ ps.flatten.length ∧ ps.flatten.length ≤ 16 then some ⟨ps.flatten, gapsL 0 ps.dropLast⟩ else none else none := by
      unfold wordF
      rw [← hps]
    refine st_set C 1 (d := dL (ps.map fun p => dU p)) ok (Errs.none (E := E0)) (gcast (g_splitU (x := b) (s := 45) (g_var C 0) (g_cn C TL.hyphen) (by omega)) (by rw [← hps])) fun H1 σ1 ok1 => ?_
    refine st_set C 2 (d := dU ps.flatten) ok1 (Errs.none (E := E0)) (g_joinU C (ps := ps) (g_strU []) (g_var C 1) (by omega)) fun H2 σ2 ok2 => ?_
    have eall : (ps.map fun p => !decide (p = []) && p.all isLetter).all id = ps.all (fun p => !decide (p = []) && p.all isLetter) := by rw [List.all_map]; rfl
    refine st_if (t := !(ps.all fun p => !decide (p = []) && p.all isLetter)) ok2 (Errs.none (E := E0)) (tcast (t_not (t_val (g_all C (bs := ps.map fun p => !decide (p = []) && p.all isLetter) B.all (gcast (g_lc C [("part", 5)] (l := ps) (enc := fun p => dU p) (is := [5]) (f := fun p => [some (dU b), some (dL (ps.map fun p => dU p)), some (dU ps.flatten), none, none, some (dU p)]) (t := fun _ => true) (g := fun p => dB (!decide (p = []) && p.all isLetter))
      (gi_list C (g_var C 1)) (by decide +kernel) (by rw [sizeLine_eq]; omega) (by simp)
      (fun p hp => gg_name (C.blk _ rfl) 5) (fun p hp => ts_nil)
      (fun p hp ht => g_andV (g_neU (g_var (C.blk _ rfl) 5) (g_strU [])) fun _ => g_call (C.blk _ rfl) hA' (a_cons (g_var (C.blk _ rfl) 5) a_nil) ⟨p, rfl, by have := l3 p hp; omega, rfl⟩)) (by rw [filter_yes, List.map_map]; rfl))))) (by rw [eall])) (fun ht H3 ok3 => ?_) fun ht H3 ok3 => st_nil ?_
    · have e : wordF b = none := by
        rw [hw, if_neg]
        simpa using ht
      rw [e] at hk
      exact st_ret ok3 (Errs.none (E := E0)) g_non fun v H' => hr _ v H' hk
    · have hall : ps.all (fun p => !decide (p = []) && p.all isLetter) = true := by simpa using ht
      rw [if_pos hall] at hw
      refine st_if (t := !(decide (2 ≤ ps.flatten.length) && decide (ps.flatten.length ≤ 16))) ok3 (Errs.none (E := E0)) (tcast (t_not (t_le_le (g_cn C TL.leastLetters) (g_lenU C B.len (g_var C 2) (by omega)) (g_cn C TL.mostLetters))) (by congr 1; congr 1 <;> rw [decide_eq_decide] <;> omega)) (fun h2 H4 ok4 => ?_) fun h2 H4 ok4 => st_nil ?_
      · have e : wordF b = none := by
          rw [hw, if_neg]
          intro z
          rw [decide_eq_true z.1, decide_eq_true z.2] at h2
          cases h2
        rw [e] at hk
        exact st_ret ok4 (Errs.none (E := E0)) g_non fun v H' => hr _ v H' hk
      · have e : wordF b = some ⟨ps.flatten, gapsL 0 ps.dropLast⟩ := by
          rw [hw, if_pos]
          simpa using h2
        rw [e] at hk
        refine st_newL C 3 ok4 (Nat.le_of_ble_eq_true rfl) fun p H5 σ5 ok5 => ?_
        refine st_set C 4 (d := dNat 0) ok5 (Errs.none (E := E0)) g_int fun H6 σ6 ok6 => ?_
        refine st_for C (l := ps.dropLast) (enc := fun p => dU p) (f := fun p ss => ss.set 5 (some (dU p))) (is := [5]) ok6 (Errs.none (E := E0)) (gi_list C (gcast (g_slL C (g_var C 1) po_no (po_e (i := -1) (g_neg g_int))) (by rw [cut_last, List.map_dropLast]))) (fun p _ ss1 _ => gg_name C 5)
          (fun i ss1 o1 => ∃ x, ss1 = [some (dU b), some (dL (ps.map fun p => dU p)), some (dU ps.flatten), none, some (dNat (sumL (ps.dropLast.take i))), x] ∧ o1 = [(3, oL ((gapsL 0 (ps.dropLast.take i)).map fun g => dNat g))])
          ⟨none, rfl, rfl⟩ (fun i ss1 o1 ⟨x, h, h'⟩ => by subst h h'; exact ⟨rfl, rfl⟩) ?_ ?_
        · rintro B' eB' _ i q hq ss1 o1 ⟨x, rfl, rfl⟩ H7 σ7 ok7
          have hql := l3 q ((List.dropLast_sublist _).subset (List.mem_of_getElem? hq))
          have hgl : (gapsL 0 (ps.dropLast.take i)).length ≤ 101 := by
            rw [gapsL_len, List.length_take, List.length_dropLast]
            omega
          refine st_set C 4 (d := dNat (sumL (ps.dropLast.take (i + 1)))) ok7 (Errs.none (E := E0)) (gcast (g_add (g_var C 4) (g_lenU C B.len (g_var C 5) (by omega))) (by rw [take_succ_of hq, sumL_snoc]; rfl)) fun H8 σ8 ok8 => ?_
          refine st_app C ok8 (ev_ge ok8 (Errs.none (E := E0)) (g_var C 4)) (by rw [List.length_map]; omega) fun H9 ok9 => st_nil ⟨_, _, ⟨some (dU q), rfl, rfl⟩, okf_cast ok9 ?_⟩
          rw [take_succ_of hq, gapsL_snoc, sumL_snoc, Nat.zero_add, List.map_append]
          rfl
        · rintro ss1 o1 ⟨x, rfl, rfl⟩ H7 σ7 ok7
          rw [List.take_length] at ok7
          have ok8 := ok7.give oL_dL
          exact st_ret ok8 (Errs.none (E := E0)) (g_make C hW (a_cons (g_var C 2) (a_cons (g_var C 3) a_nil)) ⟨_, _, rfl, rfl⟩) fun v H' => hr _ v H' hk
abbrev s_bare_pattern : Stmt := top 64
theorem sc_bare_pattern : FnScope ["chunk", "is_front", "rest", "is_end"] ["chunk"] (defScope s_bare_pattern) := ⟨rfl, rfl, rfl, by decide +kernel, rfl, by decide +kernel, by decide +kernel⟩
def bareF (b : List UInt8) : Bool := decide (b.head? = some 46)
def bareR (b : List UInt8) : List UInt8 := b.drop (if bareF b = true then 1 else 0)
def bareE (b : List UInt8) : Bool := decide ((bareR b).getLast? = some 46)
def bareX (b : List UInt8) : List UInt8 := (bareR b).take ((bareR b).length - (if bareE b = true then 1 else 0))
def A_bare_pattern : Pr := fun ds kr _ => ∃ b : List UInt8, ds = [dU b] ∧ b.length ≤ 100 ∧ kr (dT [dU (bareX b), dB (bareF b), dB (bareE b)])
theorem ok_bare_pattern (B : Bi mg) (TL : CnL mg) (F : Fun K "bare_pattern" "bare_pattern" s_bare_pattern f fd) : FnOk P w K mg base CX0 1 f fd ["chunk"] (spT A_bare_pattern) := by
  refine def_ok F sc_bare_pattern (fun ds kr ke h => ?_) fun X C S H σ ds kr ke0 hA ok er Dn hr hn => ?_
  · obtain ⟨b, rfl, _⟩ := h
    rfl
  · obtain ⟨ke, b, rfl, hz, hk⟩ := hA
    have hR : (bareR b).length ≤ 100 := by unfold bareR; rw [List.length_drop]; omega
    refine st_set C 1 (d := dB (bareF b)) ok (Errs.none (E := E0)) (g_startsU (x := b) (s := 46) (g_var C 0) (g_cn C TL.point)) fun H1 σ1 ok1 => ?_
    refine st_set C 2 (d := dU (bareR b)) ok1 (Errs.none (E := E0)) (gcast (g_slU (x := b) (g_var C 0) (po_e (i := ((if bareF b = true then 1 else 0 : Nat) : Int)) (gcast (g_intB C B.int (g_var C 1)) (by cases bareF b <;> rfl))) po_no (by omega)) (by rw [cut_hi]; rfl)) fun H2 σ2 ok2 => ?_
    refine st_set C 3 (d := dB (bareE b)) ok2 (Errs.none (E := E0)) (g_endsU (x := bareR b) (s := 46) (g_var C 2) (g_cn C TL.point)) fun H3 σ3 ok3 => ?_
    have hl : (if bareE b = true then 1 else 0) ≤ (bareR b).length := by
      split
      · rename_i h
        unfold bareE at h
        have h := of_decide_eq_true h
        cases hb : bareR b with
        | nil => rw [hb] at h; cases h
        | cons c r => simp
      · exact Nat.zero_le _
    refine st_ret ok3 (Errs.none (E := E0)) (g_tup (a_cons (gcast (g_slU (x := bareR b) (g_var C 2) po_no (po_e (i := (((bareR b).length - (if bareE b = true then 1 else 0) : Nat) : Int)) (gcast (g_sub (g_lenU C B.len (g_var C 2) (by omega)) (g_intB C B.int (g_var C 3))) ?_)) (by omega)) (by rw [cut_lo]; rfl)) (a_cons (g_var C 1) (a_cons (g_var C 3) a_nil)))) fun v H' => hr _ v H' hk
    show dI _ = dI _
    congr 1
    cases hb : bareE b
    · simp
    · rw [hb] at hl
      simp at hl ⊢
      omega
end
end Lp
namespace Lp
open PySem PySem.Spec PyProof.Rows L2 Tr
open VahypBase (isLetter isDigit inChunk isBlank)
open Vahypa (Word Lst)
abbrev Pt3 := List UInt8 × Bool × Bool
abbrev ePat (p : Pt3) : D := dT [dU p.1, dB p.2.1, dB p.2.2]
def ePatO : Option Pt3 → D
  | none => dN
  | some p => ePat p
def patF (b : List UInt8) : Option Pt3 :=
  let r := bareX b
  let ds := r.filter fun c => !isLetter c
  if ds = [] ∨ ds.all (fun c => isDigit c && !decide (c = 48)) = false then none
  else if (r.zip (r.drop 1)).any (fun z => isDigit z.1 && isDigit z.2) = true then none
  else if 1 ≤ (r.filter isLetter).length ∧ (r.filter isLetter).length ≤ 6 then some (r.filter isLetter, bareF b, bareE b) else none
theorem flat_one {α : Type} : ∀ l : List α, (l.map fun c => [c]).flatten = l
  | [] => rfl
  | c :: r => by rw [List.map_cons, List.flatten_cons, flat_one r]; rfl
theorem pd_signs (l : List UInt8) : Pd (dL (l.map fun c => dU [c])) (PySem.W.Datum.toD (l.map fun c => sU [c])) := by
  have h := pd_L (enc := fun c : UInt8 => dU [c]) (g := fun c => PyData.str (sU [c])) (l := l) fun c => pd_S
  have e : PySem.W.Datum.toD (l.map fun c => sU [c]) = PyData.list (l.map fun c => PyData.str (sU [c])) := by
    show PyData.list ((l.map fun c => sU [c]).map PyData.str) = _
    rw [List.map_map]
    rfl
  rw [e]
  exact h
section
variable {P : Program} {w : World} {K : PySem.W.Frag} {mg : Str → Option Value} {base : Heap} {f : Addr} {fd : FuncData}
abbrev s_pattern_of : Stmt := top 65
theorem sc_pattern_of : FnScope ["chunk", "rest", "is_front", "is_end", "letters", "digits", "sign", "digit", "one", "other"] ["chunk"] (defScope s_pattern_of) := ⟨rfl, rfl, rfl, by decide +kernel, rfl, by decide +kernel, by decide +kernel⟩
def A_pattern_of : Pr := fun ds kr _ => ∃ b : List UInt8, ds = [dU b] ∧ b.length ≤ 100 ∧ kr (ePatO (patF b))
theorem ok_pattern_of (B : Bi mg) (T : CnT mg K) (TL : CnL mg) (hB : Has P w K mg base CX0 1 "bare_pattern" A_bare_pattern) (F : Fun K "pattern_of" "pattern_of" s_pattern_of f fd) : FnOk P w K mg base CX0 2 f fd ["chunk"] (spT A_pattern_of) := by
  refine def_ok F sc_pattern_of (fun ds kr ke h => ?_) fun X C S H σ ds kr ke0 hA ok er Dn hr hn => ?_
  · obtain ⟨b, rfl, _⟩ := h
    rfl
  · obtain ⟨ke, b, rfl, hz, hk⟩ := hA
    obtain ⟨r, hr'⟩ : ∃ r, r = bareX b := ⟨_, rfl⟩
    have hrl : r.length ≤ 100 := by
      rw [hr']
      unfold bareX bareR
      rw [List.length_take, List.length_drop]
      omega
    obtain ⟨dg, hdg⟩ : ∃ dg, dg = r.filter fun c => !isLetter c := ⟨_, rfl⟩
    have hdl : dg.length ≤ 100 := by rw [hdg]; exact Nat.le_trans (List.length_filter_le _ _) hrl
    have hw : patF b = if dg = [] ∨ dg.all (fun c => isDigit c && !decide (c = 48)) = false then none
        else if (r.zip (r.drop 1)).any (fun z => isDigit z.1 && isDigit z.2) = true then none
        else if 1 ≤ (r.filter isLetter).length ∧ (r.filter isLetter).length ≤ 6 then some (r.filter isLetter, bareF b, bareE b) else none := by
      unfold patF
      rw [← hr', hdg]
    refine st_asg ok (Errs.none (E := E0)) (g_call C hB (a_cons (g_var C 0) a_nil) ⟨b, rfl, hz, rfl⟩) (is := [1, 2, 3]) (gg_tupT C (ggs_cons (gg_name C 1) (ggs_cons (gg_name C 2) (ggs_cons (gg_name C 3) ggs_nil)))) rfl fun H1 σ1 ok1 => ?_
    rw [← hr'] at ok1
    refine st_set C 4 (d := dU (r.filter isLetter)) ok1 (Errs.none (E := E0)) (gcast (g_joinU C (ps := (r.filter isLetter).map fun c => [c]) (g_strU []) (gcast (g_lc C [("sign", 6)] (l := r) (enc := fun c => dU [c]) (is := [6]) (f := fun c => [some (dU b), some (dU r), some (dB (bareF b)), some (dB (bareE b)), none, none, some (dU [c]), none, none, none]) (t := isLetter) (g := fun c => dU [c])
      (gi_U (g_var C 1)) (by decide +kernel) (by rw [sizeLine_eq]; omega) (by simp)
      (fun c hc => gg_name (C.blk _ rfl) 6)
      (fun c hc => ts_one (tcast (t_inU (z := lettersB) (g_var (C.blk _ rfl) 6) (g_cn (C.blk _ rfl) T.letters)) (mem_letters c)))
      (fun c hc ht => g_var (C.blk _ rfl) 6)) (by rw [List.map_map]; rfl)) (by rw [flat_one]; exact Nat.le_trans (List.length_filter_le _ _) (by omega))) (by rw [flat_one])) fun H2 σ2 ok2 => ?_
    refine st_setLc C 5 [("sign", 6)] ok2 (Errs.none (E := E0)) (l := r) (enc := fun c => dU [c]) (is := [6]) (f := fun c => [some (dU b), some (dU r), some (dB (bareF b)), some (dB (bareE b)), some (dU (r.filter isLetter)), none, some (dU [c]), none, none, none]) (t := fun c => !isLetter c) (g := fun c => dU [c])
      (gi_U (g_var C 1)) (by decide +kernel) (by rw [sizeLine_eq]; omega) (by simp)
      (fun c hc => gg_name (C.blk _ rfl) 6)
      (fun c hc => ts_one (tcast (t_ninU (z := lettersB) (g_var (C.blk _ rfl) 6) (g_cn (C.blk _ rfl) T.letters)) (by rw [mem_letters])))
      (fun c hc ht => g_var (C.blk _ rfl) 6) fun H3 σ3 ok3 => ?_
    rw [← hdg] at ok3
    have eall : (dg.map fun c => isDigit c && !decide (c = 48)).all id = dg.all (fun c => isDigit c && !decide (c = 48)) := by rw [List.all_map]; rfl
    have e48 : ∀ c : UInt8, (!decide (([c] : List UInt8) = [48])) = !decide (c = 48) := fun c => by simp
    refine st_if (t := decide (dg = []) || !(dg.all fun c => isDigit c && !decide (c = 48))) ok3 (Errs.none (E := E0)) (t_or (tcast (t_eqT C (α := List Str) (x := dg.map fun c => sU [c]) (y := []) (g_var C 5) (g_list a_nil) (pd_signs dg) (pd_signs []) (by decide)) (by cases dg <;> simp)) fun _ => t_not (tcast (t_val (g_all C (bs := dg.map fun c => isDigit c && !decide (c = 48)) B.all (gcast (g_lc C [("digit", 7)] (l := dg) (enc := fun c => dU [c]) (is := [7]) (f := fun c => [some (dU b), some (dU r), some (dB (bareF b)), some (dB (bareE b)), some (dU (r.filter isLetter)), some (dL (dg.map fun c => dU [c])), none, some (dU [c]), none, none]) (t := fun _ => true) (g := fun c => dB (isDigit c && !decide (c = 48)))
      (gi_list C (g_var C 5)) (by decide +kernel) (by rw [sizeLine_eq]; omega) (by simp)
      (fun c hc => gg_name (C.blk _ rfl) 7) (fun c hc => ts_nil)
      (fun c hc ht => g_andV (gcast (g_inU (z := digitsB) (g_var (C.blk _ rfl) 7) (g_cn (C.blk _ rfl) T.digits)) (by rw [mem_digits])) fun _ => gcast (g_neU (g_var (C.blk _ rfl) 7) (g_strU [48])) (by rw [e48]))) (by rw [filter_yes, List.map_map]; rfl)))) eall)) (fun ht H4 ok4 => ?_) fun ht H4 ok4 => st_nil ?_
    · have e : patF b = none := by
        rw [hw, if_pos]
        rw [Bool.or_eq_true] at ht
        rcases ht with h | h
        · exact .inl (of_decide_eq_true h)
        · exact .inr (by simpa using h)
      rw [e] at hk
      exact st_ret ok4 (Errs.none (E := E0)) g_non fun v H' => hr _ v H' hk
    · rw [if_neg (by
        rw [Bool.or_eq_false_iff] at ht
        rintro (h | h)
        · exact of_decide_eq_false ht.1 h
        · rw [h] at ht
          cases ht.2)] at hw
      have eany : ((r.zip (r.drop 1)).map fun z => isDigit z.1 && isDigit z.2).any id = (r.zip (r.drop 1)).any (fun z => isDigit z.1 && isDigit z.2) := by rw [List.any_map]; rfl
      have hzl : (r.zip (r.drop 1)).length ≤ 100 := by rw [List.length_zip]; omega
      refine st_if (t := (r.zip (r.drop 1)).any (fun z => isDigit z.1 && isDigit z.2)) ok4 (Errs.none (E := E0)) (tcast (t_val (g_any C (bs := (r.zip (r.drop 1)).map fun z => isDigit z.1 && isDigit z.2) B.any (gcast (g_lc C [("one", 8), ("other", 9)] (l := r.zip (r.drop 1)) (enc := fun z => dT [dU [z.1], dU [z.2]]) (is := [8, 9]) (f := fun z => [some (dU b), some (dU r), some (dB (bareF b)), some (dB (bareE b)), some (dU (r.filter isLetter)), some (dL (dg.map fun c => dU [c])), none, none, some (dU [z.1]), some (dU [z.2])]) (t := fun _ => true) (g := fun z => dB (isDigit z.1 && isDigit z.2))
        (gi_zipU C B.zip (g_var C 1) (gcast (g_slU (x := r) (g_var C 1) (po_e (i := ((1 : Nat) : Int)) g_int) po_no (by omega)) (by rw [cut_hi]))) (by decide +kernel) (by rw [sizeLine_eq]; omega) (by simp)
        (fun z hz => gg_tupT (C.blk _ rfl) (ggs_cons (gg_name (C.blk _ rfl) 8) (ggs_cons (gg_name (C.blk _ rfl) 9) ggs_nil))) (fun z hz => ts_nil)
        (fun z hz ht => g_andV (gcast (g_inU (z := digitsB) (g_var (C.blk _ rfl) 8) (g_cn (C.blk _ rfl) T.digits)) (by rw [mem_digits])) fun _ => gcast (g_inU (z := digitsB) (g_var (C.blk _ rfl) 9) (g_cn (C.blk _ rfl) T.digits)) (by rw [mem_digits]))) (by rw [filter_yes, List.map_map]; rfl)))) eany) (fun ht H5 ok5 => ?_) fun ht H5 ok5 => st_nil ?_
      · rw [if_pos ht] at hw
        rw [hw] at hk
        exact st_ret ok5 (Errs.none (E := E0)) g_non fun v H' => hr _ v H' hk
      · rw [if_neg (by rw [ht]; exact Bool.false_ne_true)] at hw
        have hfl : (r.filter isLetter).length ≤ 100 := Nat.le_trans (List.length_filter_le _ _) hrl
        refine st_ret ok5 (Errs.none (E := E0)) (g_if (p := decide (1 ≤ (r.filter isLetter).length) && decide ((r.filter isLetter).length ≤ 6)) (tcast (t_le_le g_int (g_lenU C B.len (g_var C 4) (by omega)) (g_cn C TL.mostIn)) (by congr 1 <;> rw [decide_eq_decide] <;> omega)) (fun h => ?_) fun h => ?_) fun v H' => hr _ v H' hk
        · have e : patF b = some (r.filter isLetter, bareF b, bareE b) := by
            rw [hw, if_pos]
            simpa using h
          rw [e]
          exact g_tup (a_cons (g_var C 4) (a_cons (g_var C 2) (a_cons (g_var C 3) a_nil)))
        · have e : patF b = none := by
            rw [hw, if_neg]
            intro z
            rw [decide_eq_true z.1, decide_eq_true z.2] at h
            cases h
          rw [e]
          exact g_non
end
end Lp
namespace Lp
open PySem PySem.Spec PyProof.Rows L2 Tr
open VahypBase (isLetter isDigit inChunk isBlank)
open Vahypa (Word Lst)
/-- tokens as tokens_of gives them -/
structure TokOk (ts : List Tk) : Prop where
  few : ts.length ≤ 5000
  end_ : ∀ (i : Nat) (t : Tk), ts[i]? = some t → (t.1 = [] ↔ i + 1 = ts.length)
  short : ∀ t ∈ ts, t.1.length ≤ 40
abbrev rdF (ts : List Tk) (a : Nat) : List D := [dL (ts.map eTok), dNat a]
abbrev eRd (cR : Addr) (ts : List Tk) (a : Nat) : D := dO cR nsR (rdF ts a)
abbrev oRd (cR : Addr) (ts : List Tk) (a : Nat) : OD := oI cR nsR (rdF ts a)
def curT (ts : List Tk) (a : Nat) : Tk := ts.getD a ([], 0)
theorem cur_get {ts : List Tk} {a : Nat} (h : a < ts.length) : ts[a]? = some (curT ts a) := by
  unfold curT
  rw [List.getD_eq_getElem?_getD, List.getElem?_eq_getElem h]
  rfl
theorem cur_map {ts : List Tk} {a : Nat} (h : a < ts.length) : (ts.map eTok)[a]? = some (eTok (curT ts a)) := by
  rw [List.getElem?_map, cur_get h]
  rfl
theorem cur_next {ts : List Tk} {a : Nat} (T : TokOk ts) (h : a < ts.length) (hc : (curT ts a).1 ≠ []) : a + 1 < ts.length := by
  have h2 : ¬ a + 1 = ts.length := fun z => hc ((T.end_ a _ (cur_get h)).mpr z)
  omega
theorem cur_short {ts : List Tk} {a : Nat} (T : TokOk ts) (h : a < ts.length) : (curT ts a).1.length ≤ 40 := T.short _ (List.mem_of_getElem? (cur_get h))
section
variable {X : CS} {P : Program} {w : World} {K : PySem.W.Frag} {mg : Str → Option Value} {base : Heap} {N : List Str} {kd : Str → Option NameKind} {k : Nat} {E : XK} {ex : Er → Prop} {ss : List (Option D)} {a e : Expr} {pos p tpos : Pos}
theorem digit_int (c : UInt8) (h : isDigit c = true) : PySem.intText? (sU [c]) = some ((c.toNat - 48 : Nat) : Int) := by
  have q := u8_all (p := fun c => !isDigit c || decide (PySem.intText? (sU [c]) = some ((c.toNat - 48 : Nat) : Int))) (by decide +kernel) c
  simpa [h] using q
theorem g_intD (C : Ctx X P w K mg base N kd k E) {c : UInt8} (hd : isDigit c = true) (hm : mg "int" = none) (h : Ge X E ex ss e (dU [c])) (hg : kd "int" = some .globalImplicit := by rfl) (he : ∀ env, starEach [e] env = (false, eval e env) :: starEach [] env := by intro _; rfl) : Ge X E ex ss (.Call (.Name "int" p) [e] [] pos) (dNat (c.toNat - 48)) :=
  g_callTy C (fun _ _ => call_int_str) hm (by decide +kernel) (a_cons h a_nil he) (rn_v1 fun H Q q => ⟨sU [c], _, rfl, digit_int c hd, by rw [sU_len]; show 1 ≤ 640; decide, q⟩) hg (by decide) (by decide) he (fun _ => rfl)
end
section
variable {P : Program} {w : World} {K : PySem.W.Frag} {mg : Str → Option Value} {base : Heap} {f : Addr} {fd : FuncData}
abbrev sRd (j : Nat) : Stmt := inClass (top 66) j
theorem sc_token : FnScope ["self"] ["self"] (defScope (sRd 1)) := ⟨rfl, rfl, rfl, by decide +kernel, rfl, by decide +kernel, by decide +kernel⟩
def A_token (cR : Addr) : Pr := fun ds kr _ => ∃ (ts : List Tk) (a : Nat), ds = [eRd cR ts a] ∧ a < ts.length ∧ kr (dU (curT ts a).1)
theorem ok_token {cR : Addr} (FR : Fld K cR nsR) (F : Fun K "token" "ListReader.token" (sRd 1) f fd) : FnOk P w K mg base CX0 1 f fd ["self"] (spT (A_token cR)) := by
  refine def_ok F sc_token (fun ds kr ke h => ?_) fun X C S H σ ds kr ke0 hA ok er Dn hr hn => ?_
  · obtain ⟨ts, a, rfl, _⟩ := h
    rfl
  · obtain ⟨ke, ts, a, rfl, ha, hk⟩ := hA
    exact st_ret ok (Errs.none (E := E0)) (g_ixT C (g_ixL C (g_at C FR 0 (g_var C 0)) (g_at C FR 1 (g_var C 0)) rfl (cur_map ha)) g_int (n := 0) rfl rfl) fun v H' => hr _ v H' hk
theorem sc_fail : FnScope ["self", "code"] ["self", "code"] (defScope (sRd 2)) := ⟨rfl, rfl, rfl, by decide +kernel, rfl, by decide +kernel, by decide +kernel⟩
def A_fail (cR cE : Addr) : Pr := fun ds _ ke => ∃ (ts : List Tk) (a c : Nat), ds = [eRd cR ts a, dNat c] ∧ a < ts.length ∧ ke (erF cE c (curT ts a).2)
theorem ok_fail {cR cE fI : Addr} (FR : Fld K cR nsR) (TF : ExT K mg "Fault" cE fI ["code", "place"]) (hI : HasX P w K mg base 1 cE fI 2 foFault) (F : Fun K "fail" "ListReader.fail" (sRd 2) f fd) : FnOk P w K mg base (L2.CX P w) 3 f fd ["self", "code"] (spT (A_fail cR cE)) := by
  refine def_okX F sc_fail (fun ds kr ke h => ?_) fun X E C S H σ ds kr ke hA ok er Dn hr hn => ?_
  · obtain ⟨ts, a, c, rfl, _⟩ := h
    rfl
  · obtain ⟨ts, a, c, rfl, ha, hk⟩ := hA
    exact st_raise C TF hI (us := [.int (c : Int), .int ((curT ts a).2 : Int)]) ok er (a_cons (g_var C 1) (a_cons (g_ixT C (g_ixL C (g_at C FR 0 (g_var C 0)) (g_at C FR 1 (g_var C 0)) rfl (cur_map ha)) g_int (n := 1) rfl rfl) a_nil)) rfl (by show 2 ≤ 1000; decide) hk
theorem sc_want : FnScope ["self", "is_so", "code"] ["self", "is_so", "code"] (defScope (sRd 3)) := ⟨rfl, rfl, rfl, by decide +kernel, rfl, by decide +kernel, by decide +kernel⟩
def A_want (cR cE : Addr) : Pr := fun ds kr ke => ∃ (ts : List Tk) (a c : Nat) (b : Bool), ds = [eRd cR ts a, dB b, dNat c] ∧ a < ts.length ∧ (b = true → kr dN) ∧ (b = false → ke (erF cE c (curT ts a).2))
theorem ok_want {cR cE : Addr} (hF : HasM P w K mg base (L2.CX P w) 3 cR "fail" (A_fail cR cE)) (F : Fun K "want" "ListReader.want" (sRd 3) f fd) : FnOk P w K mg base (L2.CX P w) 4 f fd ["self", "is_so", "code"] (spT (A_want cR cE)) := by
  refine def_okX F sc_want (fun ds kr ke h => ?_) fun X E C S H σ ds kr ke hA ok er Dn hr hn => ?_
  · obtain ⟨ts, a, c, b, rfl, _⟩ := h
    rfl
  · obtain ⟨ts, a, c, b, rfl, ha, h1, h2⟩ := hA
    refine st_if (t := !b) ok er (t_not (t_val (g_var C 1))) (fun ht H1 ok1 => ?_) fun ht H1 ok1 => st_nil (st_nil (hn _ _ (h1 (by simpa using ht)) ok1.ex))
    have hk := h2 (by simpa using ht)
    exact st_exprX ok1 er (g_methX C hF (g_var C 0) (a_cons (g_var C 2) a_nil) ⟨ts, a, c, rfl, ha, hk⟩)
end
end Lp
namespace Lp
open PySem PySem.Spec PyProof.Rows L2 Tr
open VahypBase (isLetter isDigit inChunk isBlank)
open Vahypa (Word Lst)
section
variable {P : Program} {w : World} {K : PySem.W.Frag} {mg : Str → Option Value} {base : Heap} {f : Addr} {fd : FuncData}
theorem sc_take : FnScope ["self", "token"] ["self", "token"] (defScope (sRd 4)) := ⟨rfl, rfl, rfl, by decide +kernel, rfl, by decide +kernel, by decide +kernel⟩
def A_take (cR cE : Addr) : PrO := fun o ds kr ke => ∃ (ts : List Tk) (a : Nat) (x : List UInt8), o = [oRd cR ts a] ∧ ds = [dU x] ∧ a < ts.length ∧ ((curT ts a).1 = x → kr [oRd cR ts (a + 1)] dN) ∧ (¬ (curT ts a).1 = x → ke (erF cE 3 (curT ts a).2))
theorem ok_take (TL : CnL mg) {cR cE : Addr} (FR : Fld K cR nsR) (hT : HasM P w K mg base CX0 1 cR "token" (A_token cR)) (hW : HasM P w K mg base (L2.CX P w) 4 cR "want" (A_want cR cE)) (F : Fun K "take" "ListReader.take" (sRd 4) f fd) : FnOk P w K mg base (L2.CX P w) 5 f fd ["self", "token"] (spO (A_take cR cE)) := by
  refine def_okO F sc_take (fun o ds kr ke h => ?_) fun X E C Tp S q H σ o ds kr ke hA hq ok er Dn hr hn => ?_
  · obtain ⟨ts, a, x, rfl, rfl, _⟩ := h
    rfl
  · obtain ⟨ts, a, x, rfl, rfl, ha, h1, h2⟩ := hA
    obtain ⟨p, rfl⟩ := one_of hq
    have ok : Okf (wd [p] H) S [p] H σ [none, some (dU x)] [(0, oRd cR ts a)] := ok
    refine se_want (b := decide ((curT ts a).1 = x)) ok (ev_seen ok er oI_dO oI_is (g_methX C hW (g_var C 0) (a_cons (g_eqU (g_meth0 C hT (g_var C 0) ⟨ts, a, rfl, ha, rfl⟩) (g_var C 1)) (a_cons (g_cn C TL.notAllowed) a_nil)) ⟨ts, a, 3, _, rfl, ha, dW_t, fun z => h2 (of_decide_eq_false z)⟩) free_W) fun hx H1 ok1 => ?_
    refine st_fldPut C 1 ok1 (ev_seen ok1 er oI_dO oI_is (gcast (g_add (g_at C FR 1 (g_var C 0)) g_int) (d' := dNat (a + 1)) rfl) free_V) FR.cl (FR.na _ (by decide)) fun H2 ok2 => ?_
    exact st_nil (hn [oRd cR ts (a + 1)] _ _ _ (h1 (of_decide_eq_true hx)) ok2)
theorem sc_want_chunk : FnScope ["self"] ["self"] (defScope (sRd 5)) := ⟨rfl, rfl, rfl, by decide +kernel, rfl, by decide +kernel, by decide +kernel⟩
def isCh (x : List UInt8) : Bool := !decide (x ∈ ([[], [59]] : List (List UInt8)))
def A_want_chunk (cR cE : Addr) : Pr := fun ds kr ke => ∃ (ts : List Tk) (a : Nat), ds = [eRd cR ts a] ∧ a < ts.length ∧ (isCh (curT ts a).1 = true → kr dN) ∧ (isCh (curT ts a).1 = false → ke (erF cE 3 (curT ts a).2))
theorem ok_want_chunk (T : CnT mg K) (TL : CnL mg) {cR cE : Addr} (FR : Fld K cR nsR) (hT : HasM P w K mg base CX0 1 cR "token" (A_token cR)) (hW : HasM P w K mg base (L2.CX P w) 4 cR "want" (A_want cR cE)) (F : Fun K "want_chunk" "ListReader.want_chunk" (sRd 5) f fd) : FnOk P w K mg base (L2.CX P w) 5 f fd ["self"] (spT (A_want_chunk cR cE)) := by
  refine def_okX F sc_want_chunk (fun ds kr ke h => ?_) fun X E C S H σ ds kr ke hA ok er Dn hr hn => ?_
  · obtain ⟨ts, a, rfl, _⟩ := h
    rfl
  · obtain ⟨ts, a, rfl, ha, h1, h2⟩ := hA
    refine st_want (b := isCh (curT ts a).1) ok er (g_methX C hW (g_var C 0) (a_cons (gcast (g_ninTs C (u := .str (sU (curT ts a).1)) (us := ([[], [59]] : List (List UInt8)).map fun b => V.str (sU b)) (g_meth0 C hT (g_var C 0) ⟨ts, a, rfl, ha, rfl⟩) (gcast (g_ofT (g_tup (a_cons (g_strU []) (a_cons (g_cn C T.sign) a_nil)))) rfl) rfl rfl) (d' := dB (isCh (curT ts a).1)) (by rw [inV_strs]; rfl)) (a_cons (g_cn C TL.notAllowed) a_nil)) ⟨ts, a, 3, _, rfl, ha, dW_t, h2⟩) fun hb H1 ok1 => st_nil (hn _ _ (h1 hb) ok1.ex)
theorem sc_margin : FnScope ["self", "chunk"] ["self"] (defScope (sRd 6)) := ⟨rfl, rfl, rfl, by decide +kernel, rfl, by decide +kernel, by decide +kernel⟩
def margF (x : List UInt8) : Option Nat := match x with
  | [c] => if isDigit c = true ∧ c.toNat - 48 ≤ 5 then some (c.toNat - 48) else none
  | _ => none
theorem marg_some {x : List UInt8} {m : Nat} (hm : margF x = some m) : ∃ c, x = [c] ∧ isDigit c = true ∧ m = c.toNat - 48 := by
  match x, hm with
  | [c], hm =>
    unfold margF at hm
    simp only at hm
    split at hm
    · rename_i h
      exact ⟨c, rfl, h.1, (Option.some.inj hm).symm⟩
    · cases hm
def A_margin (cR cE : Addr) : PrO := fun o ds kr ke => ∃ (ts : List Tk) (a : Nat), o = [oRd cR ts a] ∧ ds = [] ∧ TokOk ts ∧ a < ts.length ∧ (isCh (curT ts a).1 = false → ke (erF cE 3 (curT ts a).2)) ∧ (isCh (curT ts a).1 = true → margF (curT ts a).1 = none → ke (erF cE 7 (curT ts a).2)) ∧ (∀ m, isCh (curT ts a).1 = true → margF (curT ts a).1 = some m → kr [oRd cR ts (a + 1)] (dNat m))
theorem ok_margin (B : Bi mg) (T : CnT mg K) (TL : CnL mg) {cR cE : Addr} (FR : Fld K cR nsR) (hT : HasM P w K mg base CX0 1 cR "token" (A_token cR)) (hW : HasM P w K mg base (L2.CX P w) 4 cR "want" (A_want cR cE)) (hC : HasM P w K mg base (L2.CX P w) 5 cR "want_chunk" (A_want_chunk cR cE)) (F : Fun K "margin" "ListReader.margin" (sRd 6) f fd) :
    FnOk P w K mg base (L2.CX P w) 6 f fd ["self"] (spO (A_margin cR cE)) := by
  refine def_okO F sc_margin (fun o ds kr ke h => ?_) fun X E C Tp S q H σ o ds kr ke hA hq ok er Dn hr hn => ?_
  · obtain ⟨ts, a, rfl, rfl, _⟩ := h
    rfl
  · obtain ⟨ts, a, rfl, rfl, tok, ha, h1, h2, h3⟩ := hA
    obtain ⟨p, rfl⟩ := one_of hq
    have ok : Okf (wd [p] H) S [p] H σ [none, none] [(0, oRd cR ts a)] := ok
    have hsh := cur_short tok ha
    obtain ⟨x, hx⟩ : ∃ x, x = (curT ts a).1 := ⟨_, rfl⟩
    refine se_want (b := isCh (curT ts a).1) ok (ev_seen ok er oI_dO oI_is (g_methX0 C hC (g_var C 0) ⟨ts, a, rfl, ha, dW_t, h1⟩) free_W) fun hb H1 ok1 => ?_
    have h2 := h2 hb
    have h3 := fun m => h3 m hb
    refine se_set C 1 (d := dU x) ok1 (ev_seen ok1 er oI_dO oI_is (g_meth0 C hT (g_var C 0) ⟨ts, a, rfl, ha, by rw [← hx]⟩) free_V) fun H2 σ2 ok2 => ?_
    rw [← hx] at h2 h3 hsh
    have ok2 : Okf (wd [p] H) S [p] H2 σ2 [none, some (dU x)] [(0, oRd cR ts a)] := ok2
    refine se_want (b := (margF x).isSome) ok2 (ev_seen ok2 er oI_dO oI_is (g_methX C hW (g_var C 0) (a_cons (gcast (g_andV3 (p := decide (x.length = 1)) (q := x.all isDigit) (r := (margF x).isSome) (gcast (g_eq (g_lenU C B.len (g_var C 1) (by omega)) g_int) (by rw [dec_int (show ((x.length : Int) = 1) ↔ x.length = 1 by omega)])) (fun h => by
          obtain ⟨c, rfl⟩ := one_of (of_decide_eq_true h)
          exact gcast (g_inU (z := digitsB) (g_var C 1) (g_cn C T.digits)) (by rw [mem_digits]; simp)) (fun h h' => by
          obtain ⟨c, rfl⟩ := one_of (of_decide_eq_true h)
          have hd : isDigit c = true := by simpa using h'
          exact gcast (g_le (g_intD C hd B.int (g_var C 1)) (g_cn C TL.mostMargin)) (by
            congr 1
            unfold margF
            by_cases h5 : c.toNat - 48 ≤ 5
            · simp [hd, h5]
              omega
            · simp [hd, h5]
              omega))) (d' := dB (margF x).isSome) (by
          congr 1
          unfold margF
          match x with
          | [] => rfl
          | [c] => cases hdc : isDigit c <;> simp [hdc]
          | _ :: _ :: _ => simp)) (a_cons (g_cn C TL.notTold) a_nil)) ⟨ts, a, 7, _, rfl, ha, dW_t, fun z => h2 (by simpa using z)⟩) free_W) fun hm' H3 ok3 => ?_
    obtain ⟨m, hm⟩ := Option.isSome_iff_exists.mp hm'
    · · refine st_fldPut C 1 ok3 (ev_seen ok3 er oI_dO oI_is (gcast (g_add (g_at C FR 1 (g_var C 0)) g_int) (d' := dNat (a + 1)) rfl) free_V) FR.cl (FR.na _ (by decide)) fun H4 ok4 => ?_
        have hxc := marg_some hm
        obtain ⟨c, rfl, hd, rfl⟩ := hxc
        exact so_retE ok4 er (g_intD C hd B.int (g_var C 1)) fun v H5 ok5 pv => hr [oRd cR ts (a + 1)] _ v H5 _ _ (h3 _ hm) ok5 pv
end
end Lp
namespace Lp
open PySem PySem.Spec PyProof.Rows L2 Tr
open VahypBase (isLetter isDigit inChunk isBlank)
open Vahypa (Word Lst)
abbrev Rs (α : Type) := (Nat × Nat) ⊕ α
def wordB : List UInt8 := [119, 111, 114, 100]
def patB : List UInt8 := [112, 97, 116, 116, 101, 114, 110]
def margB : List UInt8 := [109, 97, 114, 103, 105, 110, 115]
def stepW (ts : List Tk) (a : Nat) (ws : List Word) : Rs (Word × Nat) :=
  if 24 ≤ ws.length then .inl (4, (curT ts a).2)
  else if ¬ (curT ts a).1 = wordB then .inl (3, (curT ts a).2)
  else if isCh (curT ts (a + 1)).1 = false then .inl (3, (curT ts (a + 1)).2)
  else match wordF (curT ts (a + 1)).1 with
    | none => .inl (7, (curT ts (a + 1)).2)
    | some v => if v.x ∈ ws.map (·.x) then .inl (5, (curT ts (a + 1)).2)
      else if ¬ (curT ts (a + 2)).1 = [59] then .inl (3, (curT ts (a + 2)).2)
      else .inr (v, a + 3)
def stepP (ts : List Tk) (a : Nat) (ps : List Pt3) : Rs (Pt3 × Nat) :=
  if 40 ≤ ps.length then .inl (4, (curT ts a).2)
  else if ¬ (curT ts a).1 = patB then .inl (3, (curT ts a).2)
  else if isCh (curT ts (a + 1)).1 = false then .inl (3, (curT ts (a + 1)).2)
  else match patF (curT ts (a + 1)).1 with
    | none => .inl (7, (curT ts (a + 1)).2)
    | some v => if v ∈ ps then .inl (5, (curT ts (a + 1)).2)
      else if ¬ (curT ts (a + 2)).1 = [59] then .inl (3, (curT ts (a + 2)).2)
      else .inr (v, a + 3)
theorem ch_ne {x : List UInt8} (h : isCh x = true) : x ≠ [] := fun z => by rw [z] at h; cases h
section
variable {P : Program} {w : World} {K : PySem.W.Frag} {mg : Str → Option Value} {base : Heap} {f : Addr} {fd : FuncData}
theorem sc_word : FnScope ["self", "words", "found", "one"] ["self", "words"] (defScope (sRd 7)) := ⟨rfl, rfl, rfl, by decide +kernel, rfl, by decide +kernel, by decide +kernel⟩
def A_word (cR cE cW : Addr) : PrO := fun o ds kr ke => ∃ (ts : List Tk) (a : Nat) (ws : List Word), o = [oRd cR ts a, oL (ws.map (eWord cW))] ∧ ds = [] ∧ TokOk ts ∧ a < ts.length ∧ ws.length ≤ 1000 ∧ (∀ c p, stepW ts a ws = .inl (c, p) → ke (erF cE c p)) ∧ (∀ v a', stepW ts a ws = .inr (v, a') → kr [oRd cR ts a', oL (ws.map (eWord cW))] (eWord cW v))
theorem free_word {cR cW : Addr} (hne : cW ≠ cR) (o : Option Word) : Free (isOf cR) (eWordO cW o) := by
  cases o with
  | none => exact free_V
  | some v =>
    refine free_O (fun _ _ z => hne z) fun d hd => ?_
    rcases List.mem_cons.mp hd with e | hd
    · rw [e]; exact free_V
    · rw [List.mem_singleton.mp hd]
      refine free_L (fun _ z => z) fun d hd => ?_
      obtain ⟨g, _, rfl⟩ := List.mem_map.mp hd
      exact free_V
theorem ok_word (B : Bi mg) (T : CnT mg K) (TL : CnL mg) {cR cE cW : Addr} (hne : cW ≠ cR) (FR : Fld K cR nsR) (FW : Fld K cW nsW) (hT : HasM P w K mg base CX0 1 cR "token" (A_token cR)) (hW : HasM P w K mg base (L2.CX P w) 4 cR "want" (A_want cR cE)) (hK : HasMO P w K mg base 5 cR "take" (A_take cR cE)) (hC : HasM P w K mg base (L2.CX P w) 5 cR "want_chunk" (A_want_chunk cR cE))
    (hWo : Has P w K mg base CX0 3 "word_of" (A_word_of cW)) (F : Fun K "word" "ListReader.word" (sRd 7) f fd) : FnOk P w K mg base (L2.CX P w) 6 f fd ["self", "words"] (spO (A_word cR cE cW)) := by
  refine def_okO F sc_word (fun o ds kr ke h => ?_) fun X E C Tp S q H σ o ds kr ke hA hq ok er Dn hr hn => ?_
  · obtain ⟨ts, a, ws, rfl, rfl, _⟩ := h
    rfl
  · obtain ⟨ts, a, ws, rfl, rfl, tok, ha, hws, h1, h2⟩ := hA
    obtain ⟨p, a', rfl⟩ := two_of hq
    have ok : Okf (wd [p, a'] H) S [p, a'] H σ [none, none, none, none] [(0, oRd cR ts a), (1, oL (ws.map (eWord cW)))] := ok
    -- too many
    refine se_want (b := decide (ws.length < 24)) ok (ev_seen2 (j := 1) ok er oI_dO oI_is oL_dL oL_is (g_methX C hW (g_var C 0) (a_cons (gcast (g_lt (g_lenL C B.len (g_var C 1)) (g_cn C TL.mostWords)) (d' := dB (decide (ws.length < 24))) (by rw [List.length_map]; congr 1; rw [decide_eq_decide]; omega)) (a_cons (g_cn C TL.tooMany) a_nil)) ⟨ts, a, 4, _, rfl, ha, dW_t, fun z => h1 _ _ (if_pos (by have := of_decide_eq_false z; omega))⟩) free_W free_W) fun c1 H1 ok1 => ?_
    have c1 : ¬ 24 ≤ ws.length := by have := of_decide_eq_true c1; omega
    have e1 : stepW ts a ws = _ := if_neg c1
    rw [e1] at h1 h2
    refine so_expr (evO_meth C hK ok1 er (a_cons (g_strU wordB) a_nil) (R1 := fun o' d => (curT ts a).1 = wordB ∧ o' = [oRd cR ts (a + 1)]) ⟨ts, a, wordB, rfl, rfl, ha, fun z => ⟨z, rfl⟩, fun z => h1 _ _ (if_pos z)⟩) fun H2 o' d hR ok2 => ?_
    obtain ⟨od', ⟨c2, hod⟩, rfl⟩ := hR
    cases hod
    rw [if_neg (fun z => z c2)] at h1 h2
    have ha1 : a + 1 < ts.length := cur_next tok ha (by rw [c2]; decide)
    refine se_want (b := isCh (curT ts (a + 1)).1) ok2 (ev_seen ok2 er oI_dO oI_is (g_methX0 C hC (g_var C 0) ⟨ts, a + 1, rfl, ha1, dW_t, fun z => h1 _ _ (if_pos z)⟩) free_W) fun c3 H3 ok3 => ?_
    rw [if_neg (by rw [c3]; exact fun z => by cases z)] at h1 h2
    have ha2 : a + 2 < ts.length := cur_next tok ha1 (ch_ne c3)
    have hsh := cur_short tok ha1
    refine se_set C 2 (d := eWordO cW (wordF (curT ts (a + 1)).1)) ok3 (ev_seen ok3 er oI_dO oI_of (g_call C hWo (a_cons (g_meth0 C hT (g_var C 0) ⟨ts, a + 1, rfl, ha1, rfl⟩) a_nil) ⟨(curT ts (a + 1)).1, rfl, by omega, rfl⟩) (free_word hne _)) fun H4 σ4 ok4 => ?_
    have non : ∀ W v, (eWordO cW (wordF (curT ts (a + 1)).1)).p W v → decide (v = .non) = (wordF (curT ts (a + 1)).1).isNone := fun W v hv => by
      cases hw : wordF (curT ts (a + 1)).1 with
      | none => rw [hw] at hv; exact non_N W v hv
      | some x => rw [hw] at hv; exact non_O W v hv
    refine se_want (b := !(wordF (curT ts (a + 1)).1).isNone) ok4 (ev_seen ok4 er oI_dO oI_is (g_methX C hW (g_var C 0) (a_cons (g_notN (g_var C 2) non) (a_cons (g_cn C TL.notTold) a_nil)) ⟨ts, a + 1, 7, _, rfl, ha1, dW_t, fun z => ?_⟩) free_W) fun c4 H5 ok5 => ?_
    · have hw : wordF (curT ts (a + 1)).1 = none := by simpa using z
      rw [hw] at h1
      exact h1 _ _ rfl
    · obtain ⟨v, hv⟩ : ∃ v, wordF (curT ts (a + 1)).1 = some v := by
        cases hw : wordF (curT ts (a + 1)).1 with
        | none => rw [hw] at c4; cases c4
        | some v => exact ⟨v, rfl⟩
      rw [hv] at h1 h2 ok5
      dsimp only at h1 h2
      have ok5 : Okf (wd [p, a'] H) S [p, a'] H5 σ4 [none, none, some (eWord cW v), none] [(0, oRd cR ts (a + 1)), (1, oL (ws.map (eWord cW)))] := ok5
      refine se_want (b := !decide (v.x ∈ ws.map (·.x))) ok5 (ev_seen2 (j := 1) ok5 er oI_dO oI_is oL_dL oL_is (g_methX C hW (g_var C 0) (a_cons (gcast (g_ninLs C (u := .str (sU v.x)) (us := (ws.map (·.x)).map fun b => V.str (sU b)) (g_at C FW 0 (g_var C 2)) (gcast (g_ofL (g_lc C [("one", 3)] (l := ws) (enc := eWord cW) (is := [3]) (f := fun x => [some (eRd cR ts (a + 1)), some (dL (ws.map (eWord cW))), some (eWord cW v), some (eWord cW x)]) (t := fun _ => true) (g := fun x => dU x.x)
          (gi_list C (g_var C 1)) (by decide +kernel) (by rw [sizeLine_eq]; omega) (by simp)
          (fun x hx => gg_name (C.blk _ rfl) 3) (fun x hx => ts_nil)
          (fun x hx ht => g_at (C.blk _ rfl) FW 0 (g_var (C.blk _ rfl) 3)))) (by rw [filter_yes, List.map_map, List.map_map]; rfl)) rfl (by simp [flatV])) (d' := dB (!decide (v.x ∈ ws.map (·.x)))) (by rw [inV_strs])) (a_cons (g_cn C TL.there) a_nil)) ⟨ts, a + 1, 5, _, rfl, ha1, dW_t, fun z => h1 _ _ (if_pos (by simpa using z))⟩) free_W free_W) fun c5 H6 ok6 => ?_
      have c5 : ¬ v.x ∈ ws.map (·.x) := by simpa using c5
      rw [if_neg c5] at h1 h2
      refine st_fldPut C 1 ok6 (ev_seen ok6 er oI_dO oI_is (gcast (g_add (g_at C FR 1 (g_var C 0)) g_int) (d' := dNat (a + 2)) rfl) free_V) FR.cl (FR.na _ (by decide)) fun H7 ok7 => ?_
      have ok7 : Okf (wd [p, a'] H) S [p, a'] H7 σ4 [none, none, some (eWord cW v), none] [(0, oRd cR ts (a + 2)), (1, oL (ws.map (eWord cW)))] := ok7
      refine so_expr (evO_meth C hK ok7 er (a_cons (g_cn C T.sign) a_nil) (R1 := fun o' d => (curT ts (a + 2)).1 = [59] ∧ o' = [oRd cR ts (a + 2 + 1)]) ⟨ts, a + 2, [59], rfl, rfl, ha2, fun z => ⟨z, rfl⟩, fun z => h1 _ _ (if_pos z)⟩) fun H8 o' d hR ok8 => ?_
      obtain ⟨od', ⟨c6, hod⟩, rfl⟩ := hR
      cases hod
      rw [if_neg (fun z => z c6)] at h1 h2
      exact so_retE ok8 er (g_var C 2) fun u H9 ok9 pv => hr [oRd cR ts (a + 3), oL (ws.map (eWord cW))] _ u H9 _ _ (h2 _ _ rfl) ok9 pv
end
end Lp
namespace Lp
open PySem PySem.Spec PyProof.Rows L2 Tr
open VahypBase (isLetter isDigit inChunk isBlank)
open Vahypa (Word Lst)
/-- a pattern as data -/
structure Pt where
  x : Str
  f : Bool
  e : Bool
  deriving DecidableEq
instance : PySem.W.Datum Pt where
  toD p := .tuple [.str p.x, .bool p.f, .bool p.e]
  plain p := by simp only [PyData.plain, PyData.plainAll, Bool.and_self]
  eqv p q := by
    simp only [PyData.eqv, PyData.eqvAll]
    obtain ⟨a, b, c⟩ := p
    obtain ⟨a', b', c'⟩ := q
    rw [Bool.and_true, Bool.eq_iff_iff, Bool.and_eq_true, Bool.and_eq_true]
    simp only [beq_iff_eq, decide_eq_true_eq, Pt.mk.injEq]
  depth := 1
  depth_le p := by
    simp only [PyData.depth, PyData.depthAll]
    exact Nat.le_refl _
def ptOf (p : Pt3) : Pt := ⟨sU p.1, p.2.1, p.2.2⟩
theorem ptOf_mem (p : Pt3) (ps : List Pt3) : decide (ptOf p ∈ ps.map ptOf) = decide (p ∈ ps) := by
  rw [decide_eq_decide, List.mem_map]
  constructor
  · rintro ⟨q, hq, e⟩
    obtain ⟨x, f, g⟩ := p
    obtain ⟨y, f', g'⟩ := q
    simp only [ptOf, Pt.mk.injEq] at e
    obtain ⟨e1, e2, e3⟩ := e
    rw [← sU_inj e1, ← e2, ← e3]
    exact hq
  · exact fun h => ⟨p, h, rfl⟩
theorem pd_pat (p : Pt3) : Pd (ePat p) (PySem.W.Datum.toD (ptOf p)) := pd_T3 pd_S pd_B pd_B
theorem pd_pats (ps : List Pt3) : Pd (dL (ps.map ePat)) (.list ((ps.map ptOf).map PySem.W.Datum.toD)) := by
  rw [List.map_map]
  exact pd_L fun p => pd_pat p
section
variable {P : Program} {w : World} {K : PySem.W.Frag} {mg : Str → Option Value} {base : Heap} {f : Addr} {fd : FuncData}
theorem sc_pattern : FnScope ["self", "patterns", "found"] ["self", "patterns"] (defScope (sRd 8)) := ⟨rfl, rfl, rfl, by decide +kernel, rfl, by decide +kernel, by decide +kernel⟩
def A_pattern (cR cE : Addr) : PrO := fun o ds kr ke => ∃ (ts : List Tk) (a : Nat) (ps : List Pt3), o = [oRd cR ts a, oL (ps.map ePat)] ∧ ds = [] ∧ TokOk ts ∧ a < ts.length ∧ ps.length ≤ 1000 ∧ (∀ c p, stepP ts a ps = .inl (c, p) → ke (erF cE c p)) ∧ (∀ v a', stepP ts a ps = .inr (v, a') → kr [oRd cR ts a', oL (ps.map ePat)] (ePat v))
theorem free_patO {κ : HO → Prop} (hκ : ∀ xs, ¬ κ (.tup xs)) (o : Option Pt3) : Free κ (ePatO o) := by
  cases o with
  | none => exact free_V
  | some v =>
    refine free_T hκ fun d hd => ?_
    rcases List.mem_cons.mp hd with e | hd
    · rw [e]; exact free_V
    rcases List.mem_cons.mp hd with e | hd
    · rw [e]; exact free_V
    · rw [List.mem_singleton.mp hd]; exact free_V
theorem ok_pattern (B : Bi mg) (T : CnT mg K) (TL : CnL mg) {cR cE : Addr} (FR : Fld K cR nsR) (hT : HasM P w K mg base CX0 1 cR "token" (A_token cR)) (hW : HasM P w K mg base (L2.CX P w) 4 cR "want" (A_want cR cE)) (hK : HasMO P w K mg base 5 cR "take" (A_take cR cE)) (hC : HasM P w K mg base (L2.CX P w) 5 cR "want_chunk" (A_want_chunk cR cE))
    (hPo : Has P w K mg base CX0 2 "pattern_of" A_pattern_of) (F : Fun K "pattern" "ListReader.pattern" (sRd 8) f fd) : FnOk P w K mg base (L2.CX P w) 6 f fd ["self", "patterns"] (spO (A_pattern cR cE)) := by
  refine def_okO F sc_pattern (fun o ds kr ke h => ?_) fun X E C Tp S q H σ o ds kr ke hA hq ok er Dn hr hn => ?_
  · obtain ⟨ts, a, ps, rfl, rfl, _⟩ := h
    rfl
  · obtain ⟨ts, a, ps, rfl, rfl, tok, ha, hps, h1, h2⟩ := hA
    obtain ⟨p, a', rfl⟩ := two_of hq
    have ok : Okf (wd [p, a'] H) S [p, a'] H σ [none, none, none] [(0, oRd cR ts a), (1, oL (ps.map ePat))] := ok
    refine se_want (b := decide (ps.length < 40)) ok (ev_seen2 (j := 1) ok er oI_dO oI_is oL_dL oL_is (g_methX C hW (g_var C 0) (a_cons (gcast (g_lt (g_lenL C B.len (g_var C 1)) (g_cn C TL.mostPats)) (d' := dB (decide (ps.length < 40))) (by rw [List.length_map]; congr 1; rw [decide_eq_decide]; omega)) (a_cons (g_cn C TL.tooMany) a_nil)) ⟨ts, a, 4, _, rfl, ha, dW_t, fun z => h1 _ _ (if_pos (by have := of_decide_eq_false z; omega))⟩) free_W free_W) fun c1 H1 ok1 => ?_
    have c1 : ¬ 40 ≤ ps.length := by have := of_decide_eq_true c1; omega
    have e1 : stepP ts a ps = _ := if_neg c1
    rw [e1] at h1 h2
    refine so_expr (evO_meth C hK ok1 er (a_cons (g_strU patB) a_nil) (R1 := fun o' d => (curT ts a).1 = patB ∧ o' = [oRd cR ts (a + 1)]) ⟨ts, a, patB, rfl, rfl, ha, fun z => ⟨z, rfl⟩, fun z => h1 _ _ (if_pos z)⟩) fun H2 o' d hR ok2 => ?_
    obtain ⟨od', ⟨c2, hod⟩, rfl⟩ := hR
    cases hod
    rw [if_neg (fun z => z c2)] at h1 h2
    have ha1 : a + 1 < ts.length := cur_next tok ha (by rw [c2]; decide)
    refine se_want (b := isCh (curT ts (a + 1)).1) ok2 (ev_seen ok2 er oI_dO oI_is (g_methX0 C hC (g_var C 0) ⟨ts, a + 1, rfl, ha1, dW_t, fun z => h1 _ _ (if_pos z)⟩) free_W) fun c3 H3 ok3 => ?_
    rw [if_neg (by rw [c3]; exact fun z => by cases z)] at h1 h2
    have ha2 : a + 2 < ts.length := cur_next tok ha1 (ch_ne c3)
    have hsh := cur_short tok ha1
    refine se_set C 2 (d := ePatO (patF (curT ts (a + 1)).1)) ok3 (ev_seen ok3 er oI_dO oI_is (g_call C hPo (a_cons (g_meth0 C hT (g_var C 0) ⟨ts, a + 1, rfl, ha1, rfl⟩) a_nil) ⟨(curT ts (a + 1)).1, rfl, by omega, rfl⟩) (free_patO (fun _ z => z) _)) fun H4 σ4 ok4 => ?_
    have non : ∀ W v, (ePatO (patF (curT ts (a + 1)).1)).p W v → decide (v = .non) = (patF (curT ts (a + 1)).1).isNone := fun W v hv => by
      cases hw : patF (curT ts (a + 1)).1 with
      | none => rw [hw] at hv; exact non_N W v hv
      | some x => rw [hw] at hv; exact non_T W v hv
    refine se_want (b := !(patF (curT ts (a + 1)).1).isNone) ok4 (ev_seen ok4 er oI_dO oI_is (g_methX C hW (g_var C 0) (a_cons (g_notN (g_var C 2) non) (a_cons (g_cn C TL.notTold) a_nil)) ⟨ts, a + 1, 7, _, rfl, ha1, dW_t, fun z => ?_⟩) free_W) fun c4 H5 ok5 => ?_
    · have hw : patF (curT ts (a + 1)).1 = none := by simpa using z
      rw [hw] at h1
      exact h1 _ _ rfl
    · obtain ⟨v, hv⟩ : ∃ v, patF (curT ts (a + 1)).1 = some v := by
        cases hw : patF (curT ts (a + 1)).1 with
        | none => rw [hw] at c4; cases c4
        | some v => exact ⟨v, rfl⟩
      rw [hv] at h1 h2 ok5
      dsimp only at h1 h2
      have ok5 : Okf (wd [p, a'] H) S [p, a'] H5 σ4 [none, none, some (ePat v)] [(0, oRd cR ts (a + 1)), (1, oL (ps.map ePat))] := ok5
      refine se_want (b := !decide (v ∈ ps)) ok5 (ev_seen2 (j := 1) ok5 er oI_dO oI_is oL_dL oL_is (g_methX C hW (g_var C 0) (a_cons (gcast (g_ninT C (x := ptOf v) (xs := ps.map ptOf) (g_var C 2) (g_var C 1) (pd_pat v) (pd_pats ps) (by decide)) (d' := dB (!decide (v ∈ ps))) (by rw [ptOf_mem])) (a_cons (g_cn C TL.there) a_nil)) ⟨ts, a + 1, 5, _, rfl, ha1, dW_t, fun z => h1 _ _ (if_pos (by simpa using z))⟩) free_W free_W) fun c5 H6 ok6 => ?_
      have c5 : ¬ v ∈ ps := by simpa using c5
      rw [if_neg c5] at h1 h2
      refine st_fldPut C 1 ok6 (ev_seen ok6 er oI_dO oI_is (gcast (g_add (g_at C FR 1 (g_var C 0)) g_int) (d' := dNat (a + 2)) rfl) free_V) FR.cl (FR.na _ (by decide)) fun H7 ok7 => ?_
      have ok7 : Okf (wd [p, a'] H) S [p, a'] H7 σ4 [none, none, some (ePat v)] [(0, oRd cR ts (a + 2)), (1, oL (ps.map ePat))] := ok7
      refine so_expr (evO_meth C hK ok7 er (a_cons (g_cn C T.sign) a_nil) (R1 := fun o' d => (curT ts (a + 2)).1 = [59] ∧ o' = [oRd cR ts (a + 2 + 1)]) ⟨ts, a + 2, [59], rfl, rfl, ha2, fun z => ⟨z, rfl⟩, fun z => h1 _ _ (if_pos z)⟩) fun H8 o' d hR ok8 => ?_
      obtain ⟨od', ⟨c6, hod⟩, rfl⟩ := hR
      cases hod
      rw [if_neg (fun z => z c6)] at h1 h2
      exact so_retE ok8 er (g_var C 2) fun u H9 ok9 pv => hr [oRd cR ts (a + 3), oL (ps.map ePat)] _ u H9 _ _ (h2 _ _ rfl) ok9 pv
end
end Lp
namespace Lp
open PySem PySem.Spec PyProof.Rows L2 Tr
open VahypBase (isLetter isDigit inChunk isBlank)
open Vahypa (Word Lst)
def loopW (ts : List Tk) : Nat → Nat → List Word → Rs (List Word × Nat)
  | 0, a, ws => .inr (ws, a)
  | n + 1, a, ws => if (curT ts a).1 = wordB then match stepW ts a ws with
    | .inl e => .inl e
    | .inr (v, a') => loopW ts n a' (ws ++ [v]) else .inr (ws, a)
def loopP (ts : List Tk) : Nat → Nat → List Pt3 → Rs (List Pt3 × Nat)
  | 0, a, ps => .inr (ps, a)
  | n + 1, a, ps => if (curT ts a).1 = patB then match stepP ts a ps with
    | .inl e => .inl e
    | .inr (v, a') => loopP ts n a' (ps ++ [v]) else .inr (ps, a)
def stepM (ts : List Tk) (a : Nat) : Rs Nat :=
  if isCh (curT ts a).1 = false then .inl (3, (curT ts a).2) else match margF (curT ts a).1 with
    | none => .inl (7, (curT ts a).2)
    | some m => .inr m
abbrev Rd4 := Nat × Nat × List Word × Nat
def restF (ts : List Tk) (m1 m2 : Nat) : Rs Rd4 := match loopW ts (ts.length + 1) 4 [] with
  | .inl e => .inl e
  | .inr (ws, a) => match loopP ts (ts.length + 1) a [] with
    | .inl e => .inl e
    | .inr (ps, a) => if (curT ts a).1 = [] then .inr (m1, m2, ws, ps.length) else .inl (3, (curT ts a).2)
def wholeF (ts : List Tk) : Rs Rd4 :=
  if ¬ (curT ts 0).1 = margB then .inl (3, (curT ts 0).2) else match stepM ts 1 with
    | .inl e => .inl e
    | .inr m1 => match stepM ts 2 with
      | .inl e => .inl e
      | .inr m2 => if ¬ (curT ts 3).1 = [59] then .inl (3, (curT ts 3).2) else restF ts m1 m2
theorem stepW_ok {ts : List Tk} {a : Nat} {ws : List Word} {v : Word} {a' : Nat} (T : TokOk ts) (h : stepW ts a ws = .inr (v, a')) (ha : a < ts.length) : a' = a + 3 ∧ a + 3 < ts.length ∧ ws.length < 24 := by
  unfold stepW at h
  split at h
  · cases h
  rename_i h0
  split at h
  · cases h
  rename_i h1
  split at h
  · cases h
  rename_i h2
  split at h
  · cases h
  split at h
  · cases h
  split at h
  · cases h
  rename_i h3
  cases h
  have h1 : (curT ts a).1 = wordB := Classical.not_not.mp h1
  have h3 : (curT ts (a + 2)).1 = [59] := Classical.not_not.mp h3
  have e1 := cur_next T ha (by rw [h1]; decide)
  have e2 := cur_next T e1 (ch_ne (by simpa using h2))
  have e3 := cur_next T e2 (by rw [h3]; decide)
  exact ⟨rfl, e3, by omega⟩
theorem stepP_ok {ts : List Tk} {a : Nat} {ps : List Pt3} {v : Pt3} {a' : Nat} (T : TokOk ts) (h : stepP ts a ps = .inr (v, a')) (ha : a < ts.length) : a' = a + 3 ∧ a + 3 < ts.length ∧ ps.length < 40 := by
  unfold stepP at h
  split at h
  · cases h
  rename_i h0
  split at h
  · cases h
  rename_i h1
  split at h
  · cases h
  rename_i h2
  split at h
  · cases h
  split at h
  · cases h
  split at h
  · cases h
  rename_i h3
  cases h
  have h1 : (curT ts a).1 = patB := Classical.not_not.mp h1
  have h3 : (curT ts (a + 2)).1 = [59] := Classical.not_not.mp h3
  have e1 := cur_next T ha (by rw [h1]; decide)
  have e2 := cur_next T e1 (ch_ne (by simpa using h2))
  have e3 := cur_next T e2 (by rw [h3]; decide)
  exact ⟨rfl, e3, by omega⟩
theorem stepM_ch {ts : List Tk} {a m : Nat} (h : stepM ts a = .inr m) : isCh (curT ts a).1 = true := by
  unfold stepM at h
  split at h
  · cases h
  · rename_i h2
    simpa using h2
abbrev eLs (cL cW : Addr) (r : Rd4) : D := dO cL nsL [dNat r.1, dNat r.2.1, dL (r.2.2.1.map (eWord cW)), dNat r.2.2.2]
section
variable {P : Program} {w : World} {K : PySem.W.Frag} {mg : Str → Option Value} {base : Heap} {f : Addr} {fd : FuncData}
theorem sc_whole : FnScope ["self", "left", "right", "words", "patterns"] ["self"] (defScope (sRd 9)) := ⟨rfl, rfl, rfl, by decide +kernel, rfl, by decide +kernel, by decide +kernel⟩
def A_whole (cR cE cL cW : Addr) : PrO := fun o ds kr ke => ∃ (ts : List Tk), o = [oRd cR ts 0] ∧ ds = [] ∧ TokOk ts ∧ 0 < ts.length ∧ (∀ c p, wholeF ts = .inl (c, p) → ke (erF cE c p)) ∧ (∀ r, wholeF ts = .inr r → ∀ o', kr o' (eLs cL cW r))
theorem mStep {cR cE : Addr} {ts : List Tk} {a : Nat} {ke : Er → Prop} (tok : TokOk ts) (ha : a < ts.length) (h1 : ∀ c p, stepM ts a = .inl (c, p) → ke (erF cE c p)) : A_margin cR cE [oRd cR ts a] [] (fun o' d => ∃ m, stepM ts a = .inr m ∧ o' = [oRd cR ts (a + 1)] ∧ d = dNat m) ke := by
  refine ⟨ts, a, rfl, rfl, tok, ha, fun h => h1 _ _ (if_pos h), fun h hm => h1 _ _ ?_, fun m h hm => ⟨m, ?_, rfl, rfl⟩⟩
  · unfold stepM
    rw [if_neg (by rw [h]; exact fun z => by cases z), hm]
  · unfold stepM
    rw [if_neg (by rw [h]; exact fun z => by cases z), hm]
theorem ok_whole (B : Bi mg) (T : CnT mg K) (TL : CnL mg) {cR cE cW cL : Addr} (FR : Fld K cR nsR) (hT : HasM P w K mg base CX0 1 cR "token" (A_token cR)) (hW : HasM P w K mg base (L2.CX P w) 4 cR "want" (A_want cR cE)) (hK : HasMO P w K mg base 5 cR "take" (A_take cR cE)) (hMg : HasMO P w K mg base 6 cR "margin" (A_margin cR cE))
    (hWd : HasMO P w K mg base 6 cR "word" (A_word cR cE cW)) (hPa : HasMO P w K mg base 6 cR "pattern" (A_pattern cR cE)) (hL : HasC P w K mg base 1 cL "Listed" nsL I_Listed) (F : Fun K "whole" "ListReader.whole" (sRd 9) f fd) : FnOk P w K mg base (L2.CX P w) 7 f fd ["self"] (spO (A_whole cR cE cL cW)) := by
  refine def_okO F sc_whole (fun o ds kr ke h => ?_) fun X E C Tp S q H σ o ds kr ke hA hq ok er Dn hr hn => ?_
  · obtain ⟨ts, rfl, rfl, _⟩ := h
    rfl
  · obtain ⟨ts, rfl, rfl, tok, ha, h1, h2⟩ := hA
    obtain ⟨p, rfl⟩ := one_of hq
    have ok : Okf (wd [p] H) S [p] H σ [none, none, none, none, none] [(0, oRd cR ts 0)] := ok
    refine so_expr (evO_meth C hK ok er (a_cons (g_strU margB) a_nil) (R1 := fun o' d => (curT ts 0).1 = margB ∧ o' = [oRd cR ts 1]) ⟨ts, 0, margB, rfl, rfl, ha, fun z => ⟨z, rfl⟩, fun z => h1 _ _ (if_pos z)⟩) fun H1 o' d hR ok1 => ?_
    obtain ⟨od', ⟨c0, hod⟩, rfl⟩ := hR
    cases hod
    have e0 : wholeF ts = _ := if_neg (fun z => z c0)
    rw [e0] at h1 h2
    have ha1 := cur_next tok ha (by rw [c0]; decide)
    refine so_set C 1 (evO_meth0 C hMg ok1 er (R1 := fun o' d => ∃ m, stepM ts 1 = .inr m ∧ o' = [oRd cR ts 2] ∧ d = dNat m) (mStep tok ha1 fun c p hs => h1 c p (by rw [hs]))) (fun H2 σ2 o' d hR ok2 => ?_) (fun o' d hR => by obtain ⟨_, _, rfl⟩ := hR; rfl)
    obtain ⟨od', ⟨m1, hm1, hod, rfl⟩, rfl⟩ := hR
    cases hod
    rw [hm1] at h1 h2
    dsimp only at h1 h2
    have ha2 := cur_next tok ha1 (ch_ne (stepM_ch hm1))
    refine so_set C 2 (evO_meth0 C hMg ok2 er (R1 := fun o' d => ∃ m, stepM ts 2 = .inr m ∧ o' = [oRd cR ts 3] ∧ d = dNat m) (mStep tok ha2 fun c p hs => h1 c p (by rw [hs]))) (fun H3 σ3 o' d hR ok3 => ?_) (fun o' d hR => by obtain ⟨_, _, rfl⟩ := hR; rfl)
    obtain ⟨od', ⟨m2, hm2, hod, rfl⟩, rfl⟩ := hR
    cases hod
    rw [hm2] at h1 h2
    dsimp only at h1 h2
    have ha3 := cur_next tok ha2 (ch_ne (stepM_ch hm2))
    refine so_expr (evO_meth C hK ok3 er (a_cons (g_cn C T.sign) a_nil) (R1 := fun o' d => (curT ts 3).1 = [59] ∧ o' = [oRd cR ts 4]) ⟨ts, 3, [59], rfl, rfl, ha3, fun z => ⟨z, rfl⟩, fun z => h1 _ _ (if_pos z)⟩) fun H4 o' d hR ok4 => ?_
    obtain ⟨od', ⟨c3, hod⟩, rfl⟩ := hR
    cases hod
    rw [if_neg (fun z => z c3)] at h1 h2
    have ha4 := cur_next tok ha3 (by rw [c3]; decide)
    refine st_newL C 3 ok4 (Nat.le_of_ble_eq_true rfl) fun aw H5 σ5 ok5 => ?_
    have ok5 := ok5.swap
    refine st_whileE C (τ := Nat × List Word) (fun z => [none, some (dNat m1), some (dNat m2), none, none]) (fun z => [(0, oRd cR ts z.1), (3, oL (z.2.map (eWord cW)))]) (fun z => z.1 < ts.length ∧ z.2.length ≤ 24 ∧ ∃ n, ts.length - z.1 < n ∧ loopW ts n z.1 z.2 = loopW ts (ts.length + 1) 4 []) (fun z => ts.length - z.1) (fun z => decide ((curT ts z.1).1 = wordB)) (4, []) ok5 ⟨ha4, Nat.zero_le _, _, by simp only; omega, rfl⟩ ?_ ?_ ?_
    · rintro ⟨a, ws⟩ ⟨hlt, _⟩ H6 σ6 ok6
      exact et_seen ok6 er oI_dO (t_eqU (g_meth0 C hT (g_var C 0) ⟨ts, a, rfl, hlt, rfl⟩) (g_strU wordB))
    · rintro ⟨a, ws⟩ ⟨hlt, h24, n, hn1, hn2⟩ ht H6 σ6 ok6
      have hlt : a < ts.length := hlt
      have h24 : ws.length ≤ 24 := h24
      have hn1 : ts.length - a < n := hn1
      have hn2 : loopW ts n a ws = loopW ts (ts.length + 1) 4 [] := hn2
      have hcw : (curT ts a).1 = wordB := of_decide_eq_true ht
      have hstep : ∀ n, loopW ts (n + 1) a ws = match stepW ts a ws with
        | .inl e => .inl e
        | .inr (v, a') => loopW ts n a' (ws ++ [v]) := fun n => if_pos hcw
      obtain ⟨n, rfl⟩ : ∃ n', n = n' + 1 := ⟨n - 1, by omega⟩
      rw [hstep] at hn2
      refine st_appO C ok6 (j := 3) (evO_meth2 C hWd ok6 er (R1 := fun o' d => ∃ v a', stepW ts a ws = .inr (v, a') ∧ o' = [oRd cR ts a', oL (ws.map (eWord cW))] ∧ d = eWord cW v) ⟨ts, a, ws, rfl, rfl, tok, hlt, by omega, fun c p hs => h1 c p ?_, fun v a' hs => ⟨v, a', hs, rfl, rfl⟩⟩) (fun o' d hR => ?_) (by rw [List.length_map]; omega) fun H7 od' d hR _ ok7 => ?_
      · unfold restF
        rw [← hn2, hs]
      · obtain ⟨od1, od2, ⟨v, a', hs, hod, rfl⟩, rfl⟩ := hR
        cases hod
        exact ⟨_, rfl⟩
      · obtain ⟨od1, od2, ⟨v, a', hs, hod, rfl⟩, e⟩ := hR
        cases hod
        cases e
        obtain ⟨rfl, h3, h24'⟩ := stepW_ok tok hs hlt
        rw [hs] at hn2
        refine st_nil ⟨(a + 3, ws ++ [v]), ?_, ⟨h3, ?_, n, ?_, hn2⟩, okf_cast ok7 ?_⟩
        · show ts.length - (a + 3) < ts.length - a
          omega
        · show (ws ++ [v]).length ≤ 24
          rw [List.length_append]
          simp only [List.length_singleton]
          omega
        · show ts.length - (a + 3) < n
          omega
        · show [(0, oRd cR ts (a + 3)), (3, oL (ws.map (eWord cW) ++ [eWord cW v]))] = [(0, oRd cR ts (a + 3)), (3, oL ((ws ++ [v]).map (eWord cW)))]
          rw [List.map_append]
          rfl
    · rintro ⟨a, ws⟩ ⟨hlt, h24, n, hn1, hn2⟩ ht H6 σ6 ok6
      have hlt : a < ts.length := hlt
      have hcw : ¬ (curT ts a).1 = wordB := of_decide_eq_false ht
      have hlw : loopW ts (ts.length + 1) 4 [] = .inr (ws, a) := by
        rw [← hn2]
        cases n with
        | zero => rfl
        | succ n => exact if_neg hcw
      have h1 : ∀ c p, (match loopP ts (ts.length + 1) a [] with
        | .inl e => .inl e
        | .inr (ps, a) => if (curT ts a).1 = [] then .inr (m1, m2, ws, ps.length) else .inl (3, (curT ts a).2) : Rs Rd4) = .inl (c, p) → ke (erF cE c p) := fun c p hs => h1 c p (by unfold restF; rw [hlw]; exact hs)
      have h2 : ∀ r, (match loopP ts (ts.length + 1) a [] with
        | .inl e => .inl e
        | .inr (ps, a) => if (curT ts a).1 = [] then .inr (m1, m2, ws, ps.length) else .inl (3, (curT ts a).2) : Rs Rd4) = .inr r → ∀ o', kr o' (eLs cL cW r) := fun r hs => h2 r (by unfold restF; rw [hlw]; exact hs)
      have ok6 : Okf (wd [p] H) S [p, aw] H6 σ6 [none, some (dNat m1), some (dNat m2), none, none] [(0, oRd cR ts a), (3, oL (ws.map (eWord cW)))] := ok6
      refine st_newL C 4 ok6 (Nat.le_of_ble_eq_true rfl) fun ap H7 σ7 ok7 => ?_
      have ok7 := ok7.swap
      refine st_whileE C (τ := Nat × List Pt3) (fun z => [none, some (dNat m1), some (dNat m2), none, none]) (fun z => [(0, oRd cR ts z.1), (4, oL (z.2.map ePat)), (3, oL (ws.map (eWord cW)))]) (fun z => z.1 < ts.length ∧ z.2.length ≤ 40 ∧ ∃ n, ts.length - z.1 < n ∧ loopP ts n z.1 z.2 = loopP ts (ts.length + 1) a []) (fun z => ts.length - z.1) (fun z => decide ((curT ts z.1).1 = patB)) (a, []) ok7 ⟨hlt, Nat.zero_le _, _, by simp only; omega, rfl⟩ ?_ ?_ ?_
      · rintro ⟨b, ps⟩ ⟨hlt, _⟩ H8 σ8 ok8
        exact et_seen ok8 er oI_dO (t_eqU (g_meth0 C hT (g_var C 0) ⟨ts, b, rfl, hlt, rfl⟩) (g_strU patB))
      · rintro ⟨b, ps⟩ ⟨hlt, h40, n, hn1, hn2⟩ ht H8 σ8 ok8
        have hlt : b < ts.length := hlt
        have h40 : ps.length ≤ 40 := h40
        have hn1 : ts.length - b < n := hn1
        have hn2 : loopP ts n b ps = loopP ts (ts.length + 1) a [] := hn2
        have hcw : (curT ts b).1 = patB := of_decide_eq_true ht
        have hstep : ∀ n, loopP ts (n + 1) b ps = match stepP ts b ps with
          | .inl e => .inl e
          | .inr (v, a') => loopP ts n a' (ps ++ [v]) := fun n => if_pos hcw
        obtain ⟨n, rfl⟩ : ∃ n', n = n' + 1 := ⟨n - 1, by omega⟩
        rw [hstep] at hn2
        refine st_appO C ok8 (j := 4) (evO_meth2 C hPa ok8 er (R1 := fun o' d => ∃ v a', stepP ts b ps = .inr (v, a') ∧ o' = [oRd cR ts a', oL (ps.map ePat)] ∧ d = ePat v) ⟨ts, b, ps, rfl, rfl, tok, hlt, by omega, fun c p hs => h1 c p ?_, fun v a' hs => ⟨v, a', hs, rfl, rfl⟩⟩) (fun o' d hR => ?_) (by rw [List.length_map]; omega) fun H9 od' d hR _ ok9 => ?_
        · rw [← hn2, hs]
        · obtain ⟨od1, od2, ⟨v, a', hs, hod, rfl⟩, rfl⟩ := hR
          cases hod
          exact ⟨_, rfl⟩
        · obtain ⟨od1, od2, ⟨v, a', hs, hod, rfl⟩, e⟩ := hR
          cases hod
          cases e
          obtain ⟨rfl, h3, h40'⟩ := stepP_ok tok hs hlt
          rw [hs] at hn2
          refine st_nil ⟨(b + 3, ps ++ [v]), ?_, ⟨h3, ?_, n, ?_, hn2⟩, okf_cast ok9 ?_⟩
          · show ts.length - (b + 3) < ts.length - b
            omega
          · show (ps ++ [v]).length ≤ 40
            rw [List.length_append]
            simp only [List.length_singleton]
            omega
          · show ts.length - (b + 3) < n
            omega
          · show [(0, oRd cR ts (b + 3)), (4, oL (ps.map ePat ++ [ePat v])), (3, oL (ws.map (eWord cW)))] = [(0, oRd cR ts (b + 3)), (4, oL ((ps ++ [v]).map ePat)), (3, oL (ws.map (eWord cW)))]
            rw [List.map_append]
            rfl
      · rintro ⟨b, ps⟩ ⟨hlt, h40, n, hn1, hn2⟩ ht H8 σ8 ok8
        have hlt : b < ts.length := hlt
        have hcw : ¬ (curT ts b).1 = patB := of_decide_eq_false ht
        have hlp : loopP ts (ts.length + 1) a [] = .inr (ps, b) := by
          rw [← hn2]
          cases n with
          | zero => rfl
          | succ n => exact if_neg hcw
        rw [hlp] at h1 h2
        dsimp only at h1 h2
        have ok8 : Okf (wd [p] H) S [p, ap, aw] H8 σ8 [none, some (dNat m1), some (dNat m2), none, none] [(0, oRd cR ts b), (4, oL (ps.map ePat)), (3, oL (ws.map (eWord cW)))] := ok8
        refine se_want (b := decide ((curT ts b).1 = [])) ok8 (ev_seen ok8 er oI_dO oI_is (g_methX C hW (g_var C 0) (a_cons (g_eqU (g_meth0 C hT (g_var C 0) ⟨ts, b, rfl, hlt, rfl⟩) (g_strU [])) (a_cons (g_cn C TL.notAllowed) a_nil)) ⟨ts, b, 3, _, rfl, hlt, dW_t, fun z => h1 _ _ (if_neg (of_decide_eq_false z))⟩) free_W) fun hc H9 ok9 => ?_
        rw [if_pos (of_decide_eq_true hc)] at h2
        have oka := ((ok9.swap.give oL_dL).swap).give oL_dL
        exact so_retE oka er (gcast (g_make C hL (a_cons (g_var C 1) (a_cons (g_var C 2) (a_cons (g_var C 3) (a_cons (g_lenL C B.len (g_var C 4)) a_nil)))) ⟨_, _, _, _, rfl, rfl⟩) (d' := eLs cL cW (m1, m2, ws, ps.length)) (by rw [List.length_map])) fun u Ha okb pv => hr [oRd cR ts b] _ u Ha _ _ (h2 _ rfl _) okb pv
end
end Lp
namespace Lp
open PySem PySem.Spec PyProof.Rows L2 Tr
open VahypBase (isLetter isDigit inChunk isBlank)
open Vahypa (Word Lst)
theorem toksP_ok {b : List UInt8} : ∀ (n a : Nat) (acc ts : List Tk), toksP b n a acc = .inr ts → (∀ t ∈ acc, t.1 ≠ [] ∧ t.1.length ≤ 40) → acc.length ≤ a → a ≤ b.length → ∃ l, ts = l ++ [([], b.length)] ∧ (∀ t ∈ l, t.1 ≠ [] ∧ t.1.length ≤ 40) ∧ l.length ≤ b.length
  | 0, a, acc, ts, h, h1, h2, h3 => by
    cases h
    exact ⟨acc, rfl, h1, by omega⟩
  | n + 1, a, acc, ts, h, h1, h2, h3 => by
    unfold toksP at h
    split at h
    · split at h
      · cases h
      · rename_i x hx
        obtain ⟨p1, p2, p3⟩ := tok_pos hx
        have g1 := skipF_ge b (b.length + 1) (a + x.length)
        have g2 := skipF_le b (b.length + 1) (a + x.length) p2
        refine toksP_ok n _ _ ts h (fun t ht => ?_) ?_ g2
        · rcases List.mem_append.mp ht with q | q
          · exact h1 t q
          · rw [List.mem_singleton.mp q]
            exact ⟨fun z => by rw [show x = [] from z] at p1; exact absurd p1 (by decide), p3⟩
        · rw [List.length_append]
          unfold skipP
          simp only [List.length_singleton]
          omega
    · cases h
      exact ⟨acc, rfl, h1, by omega⟩
theorem toks_ok {b : List UInt8} {ts : List Tk} (h : toksF b = .inr ts) (hz : b.length ≤ 4096) : TokOk ts ∧ 0 < ts.length := by
  obtain ⟨l, rfl, h1, h2⟩ := toksP_ok _ _ _ _ h (fun t ht => by cases ht) (Nat.zero_le _) (skipF_le b _ _ (Nat.zero_le _))
  refine ⟨⟨?_, fun i t ht => ?_, fun t ht => ?_⟩, by simp⟩
  · rw [List.length_append]
    simp only [List.length_singleton]
    omega
  · rw [List.length_append]
    simp only [List.length_singleton]
    rcases Nat.lt_or_ge i l.length with q | q
    · rw [List.getElem?_append_left q] at ht
      have := (h1 t (List.mem_of_getElem? ht)).1
      exact ⟨fun z => absurd z this, fun z => by omega⟩
    · rw [List.getElem?_append_right q] at ht
      have e : i - l.length = 0 := by
        rcases Nat.eq_zero_or_pos (i - l.length) with z | z
        · exact z
        · rw [List.getElem?_eq_none (show [(([] : List UInt8), b.length)].length ≤ i - l.length from z)] at ht
          cases ht
      rw [e] at ht
      cases ht
      exact ⟨fun _ => by omega, fun _ => rfl⟩
  · rcases List.mem_append.mp ht with q | q
    · exact (h1 t q).2
    · rw [List.mem_singleton.mp q]
      exact Nat.zero_le _
def readF (b : List UInt8) : Rs Rd4 := if 4096 < b.length then .inl (1, 4096) else match toksF b with
  | .inl a => .inl (2, a)
  | .inr ts => wholeF ts
section
variable {P : Program} {w : World} {K : PySem.W.Frag} {mg : Str → Option Value} {base : Heap} {f : Addr} {fd : FuncData}
abbrev s_read_list : Stmt := top 67
theorem sc_read_list : FnScope ["text"] ["text"] (defScope s_read_list) := ⟨rfl, rfl, rfl, by decide +kernel, rfl, by decide +kernel, by decide +kernel⟩
def A_read_list (cE cL cW : Addr) : Pr := fun ds kr ke => ∃ (b : List UInt8), ds = [eB b] ∧ b.length ≤ 10000 ∧ (∀ c p, readF b = .inl (c, p) → ke (erF cE c p)) ∧ (∀ r, readF b = .inr r → kr (eLs cL cW r))
theorem ok_read_list {cR cE cW cL : Addr} (hTo : Has P w K mg base (L2.CX P w) 4 "tokens_of" (A_tokens_of cE)) (hR : HasC P w K mg base 1 cR "ListReader" nsR I_Reader) (hWh : HasMO P w K mg base 7 cR "whole" (A_whole cR cE cL cW)) (F : Fun K "read_list" "read_list" s_read_list f fd) : FnOk P w K mg base (L2.CX P w) 8 f fd ["text"] (spT (A_read_list cE cL cW)) := by
  refine def_okX F sc_read_list (fun ds kr ke h => ?_) fun X E C S H σ ds kr ke hA ok er Dn hr hn => ?_
  · obtain ⟨b, rfl, _⟩ := h
    rfl
  · obtain ⟨b, rfl, hz, h1, h2⟩ := hA
    by_cases hb : 4096 < b.length
    · have e : readF b = .inl (1, 4096) := if_pos hb
      refine st_ret (d := dX) ok er (g_newMeth C hR hWh (fs := [dX, dNat 0]) (a_cons (g_callX C hTo (d := dX) (a_cons (g_var C 0) a_nil) ⟨b, rfl, hz, fun _ => h1 _ _ e, fun z => by omega, fun z => by omega⟩) a_nil) (fun ⟨W, us, r⟩ => ?_)) fun v H' _ pv => False.elim pv
      cases us with
      | nil => exact r.elim
      | cons _ _ => exact False.elim r.1
    · have hz4 : b.length ≤ 4096 := by omega
      cases ht : toksF b with
      | inl a =>
        have e : readF b = .inl (2, a) := by
          unfold readF
          rw [if_neg hb, ht]
        refine st_ret (d := dX) ok er (g_newMeth C hR hWh (fs := [dX, dNat 0]) (a_cons (g_callX C hTo (d := dX) (a_cons (g_var C 0) a_nil) ⟨b, rfl, hz, fun z => absurd z hb, fun _ a' ha' => (by rw [ht] at ha'; cases ha'; exact h1 _ _ e), fun _ l hl => (by rw [ht] at hl; cases hl)⟩) a_nil) (fun ⟨W, us, r⟩ => ?_)) fun v H' _ pv => False.elim pv
        cases us with
        | nil => exact r.elim
        | cons _ _ => exact False.elim r.1
      | inr ts =>
        have e : readF b = wholeF ts := by
          unfold readF
          rw [if_neg hb, ht]
        obtain ⟨tok, tpos⟩ := toks_ok ht hz4
        cases hw : wholeF ts with
        | inl cp =>
          obtain ⟨c, p⟩ := cp
          exact st_ret (d := dX) ok er (g_newMeth C hR hWh (fs := rdF ts 0) (a_cons (g_callX C hTo (d := dL (ts.map eTok)) (a_cons (g_var C 0) a_nil) ⟨b, rfl, hz, fun z => absurd z hb, fun _ a' ha' => (by rw [ht] at ha'; cases ha'), fun _ l hl => (by rw [ht] at hl; cases hl; rfl)⟩) a_nil) (fun _ => ⟨⟨_, rfl, rfl⟩, ts, rfl, rfl, tok, tpos, fun c p hs => h1 c p (by rw [e]; exact hs), fun r hs => (by rw [hw] at hs; cases hs)⟩)) fun v H' _ pv => False.elim pv
        | inr r =>
          exact st_ret (d := eLs cL cW r) ok er (g_newMeth C hR hWh (fs := rdF ts 0) (a_cons (g_callX C hTo (d := dL (ts.map eTok)) (a_cons (g_var C 0) a_nil) ⟨b, rfl, hz, fun z => absurd z hb, fun _ a' ha' => (by rw [ht] at ha'; cases ha'), fun _ l hl => (by rw [ht] at hl; cases hl; rfl)⟩) a_nil) (fun _ => ⟨⟨_, rfl, rfl⟩, ts, rfl, rfl, tok, tpos, fun c p hs => h1 c p (by rw [e]; exact hs), fun r' hs o' => (by rw [hw] at hs; cases hs; rfl)⟩)) fun v H' => hr _ v H' (h2 r (by rw [e, hw]))
end
end Lp
namespace Lp
open PySem PySem.Spec PyProof.Rows L2 Tr
open Vahypa (Word Lst)
open Vahypc (hasBit lowest Goal Choice better Cand slim putCand)
structure CnK (mg : Str → Option Value) : Prop where
  noList : Cn mg "NO_LIST" (.int (-1))
  noPiece : Cn mg "NO_PIECE" (.int (-2))
  badLength : Cn mg "BAD_LENGTH" (.int (-3))
  notTold : Cn mg "NOT_AS_TOLD_keeper" (.int (-4))
  tooMany : Cn mg "TOO_MANY_GOALS" (.int (-6))
  mostLength : Cn mg "MOST_LENGTH" (.int 4)
  mostGoals : Cn mg "MOST_GOALS" (.int 9)
abbrev dLi (l : List Int) : D := dL (l.map fun i => dI i)
abbrev erK (cX : Addr) (c : Int) : Er := ⟨cX, foRefused [.int c]⟩
def eHeld (cL cW : Addr) : Option Lst → D
  | none => dN
  | some s => eLst cL cW s
abbrev eKp (cK cL cW : Addr) (h : Option Lst) : D := dO cK nsK [eHeld cL cW h]
def famR (h : Option Lst) (m : Int) : Int ⊕ (Lst × Nat) := match h with
  | none => .inl (-1)
  | some s => if ¬ (1 ≤ m ∧ m ≤ 4) then .inl (-3) else if 9 < (goalsF s).length then .inl (-6) else .inr (s, m.toNat)
theorem famR_ok {h : Option Lst} {m : Int} {s : Lst} {n : Nat} (e : famR h m = .inr (s, n)) : h = some s ∧ n ≤ 4 ∧ (goalsF s).length ≤ 9 := by
  unfold famR at e
  split at e
  · cases e
  · split at e
    · cases e
    · split at e
      · cases e
      · cases e
        exact ⟨rfl, by omega, by omega⟩
def PreH (h : Option Lst) : Prop := ∀ s, h = some s → PreL s
theorem held_non (cL cW : Addr) (h : Option Lst) : ∀ W v, (eHeld cL cW h).p W v → decide (v = .non) = h.isNone := fun W v hv => by
  cases h with
  | none => exact non_N W v hv
  | some s => exact non_O W v hv
theorem goal_non (g : Option Goal) : ∀ W v, (eGoalO g).p W v → decide (v = .non) = g.isNone := fun W v hv => by
  cases g with
  | none => exact non_N W v hv
  | some s => exact non_T W v hv
section
variable {P : Program} {w : World} {K : PySem.W.Frag} {mg : Str → Option Value} {base : Heap} {f : Addr} {fd : FuncData}
abbrev s_want : Stmt := top 77
theorem sc_wantK : FnScope ["is_so", "code"] ["is_so", "code"] (defScope s_want) := ⟨rfl, rfl, rfl, by decide +kernel, rfl, by decide +kernel, by decide +kernel⟩
def A_wantK (cX : Addr) : Pr := fun ds kr ke => ∃ (b : Bool) (c : Int), ds = [dB b, dI c] ∧ (b = true → kr dN) ∧ (b = false → ke (erK cX c))
theorem ok_wantK {cX fI : Addr} (TX : ExT K mg "Refused" cX fI ["code"]) (hI : HasX P w K mg base 1 cX fI 1 foRefused) (F : Fun K "want" "want" s_want f fd) : FnOk P w K mg base (L2.CX P w) 3 f fd ["is_so", "code"] (spT (A_wantK cX)) := by
  refine def_okX F sc_wantK (fun ds kr ke h => ?_) fun X E C S H σ ds kr ke hA ok er Dn hr hn => ?_
  · obtain ⟨b, c, rfl, _⟩ := h
    rfl
  · obtain ⟨b, c, rfl, h1, h2⟩ := hA
    refine st_if (t := !b) ok er (t_not (t_val (g_var C 0))) (fun ht H1 ok1 => ?_) fun ht H1 ok1 => st_nil (st_nil (hn _ _ (h1 (by simpa using ht)) ok1.ex))
    exact st_raise C TX hI (us := [.int c]) ok1 er (a_cons (g_var C 1) a_nil) rfl (by show 1 ≤ 1000; decide) (h2 (by simpa using ht))
abbrev s_listed : Stmt := top 78
theorem sc_listed : FnScope ["some"] ["some"] (defScope s_listed) := ⟨rfl, rfl, rfl, by decide +kernel, rfl, by decide +kernel, by decide +kernel⟩
def lnF (l : List Int) : List Int := (l.length : Int) :: l
def A_listed : Pr := fun ds kr _ => ∃ (l : List Int), ds = [dLi l] ∧ l.length ≤ 100000 ∧ kr (dLi (lnF l))
theorem ok_listed (B : Bi mg) (F : Fun K "listed_numbers" "listed_numbers" s_listed f fd) : FnOk P w K mg base CX0 1 f fd ["some"] (spT A_listed) := by
  refine def_ok F sc_listed (fun ds kr ke h => ?_) fun X C S H σ ds kr ke0 hA ok er Dn hr hn => ?_
  · obtain ⟨l, rfl, _⟩ := h
    rfl
  · obtain ⟨ke, l, rfl, hz, hk⟩ := hA
    refine st_ret ok (Errs.none (E := E0)) (gcast (g_cat (g_list (a_cons (g_lenL C B.len (g_var C 0)) a_nil)) (g_listL C B.list (g_var C 0)) (by simp only [List.length_singleton, List.length_map]; omega)) ?_) fun v H' => hr _ v H' hk
    rw [List.length_map]
    rfl
abbrev sKp (j : Nat) : Stmt := inClass (top 79) j
theorem sc_want_list : FnScope ["self"] ["self"] (defScope (sKp 2)) := ⟨rfl, rfl, rfl, by decide +kernel, rfl, by decide +kernel, by decide +kernel⟩
def A_want_list (cK cL cW cX : Addr) : Pr := fun ds kr ke => ∃ (h : Option Lst), ds = [eKp cK cL cW h] ∧ (h.isSome = true → kr dN) ∧ (h = none → ke (erK cX (-1)))
theorem ok_want_list (TK : CnK mg) {cK cL cW cX : Addr} (FK : Fld K cK nsK) (hW : Has P w K mg base (L2.CX P w) 3 "want" (A_wantK cX)) (F : Fun K "want_list" "Keeper.want_list" (sKp 2) f fd) : FnOk P w K mg base (L2.CX P w) 4 f fd ["self"] (spT (A_want_list cK cL cW cX)) := by
  refine def_okX F sc_want_list (fun ds kr ke h => ?_) fun X E C S H σ ds kr ke hA ok er Dn hr hn => ?_
  · obtain ⟨h, rfl, _⟩ := h
    rfl
  · obtain ⟨h, rfl, h1, h2⟩ := hA
    refine st_want (b := h.isSome) ok er (g_callX C hW (a_cons (gcast (g_notN (g_at C FK 0 (g_var C 0)) (held_non cL cW h)) (by cases h <;> rfl)) (a_cons (g_cn C TK.noList) a_nil)) ⟨h.isSome, -1, rfl, dW_t, fun z => h2 (by cases h with | none => rfl | some _ => cases z)⟩) fun hb H1 ok1 => st_nil (hn _ _ (h1 hb) ok1.ex)
theorem sc_family_of : FnScope ["self", "most"] ["self", "most"] (defScope (sKp 3)) := ⟨rfl, rfl, rfl, by decide +kernel, rfl, by decide +kernel, by decide +kernel⟩
def A_family_of (cK cL cW cX cF : Addr) : Pr := fun ds kr ke => ∃ (h : Option Lst) (m : Int), ds = [eKp cK cL cW h, dI m] ∧ PreH h ∧ (∀ c, famR h m = .inl c → ke (erK cX c)) ∧ (∀ s n, famR h m = .inr (s, n) → kr (eFam cF (famOf s n)))
theorem ok_family_of (B : Bi mg) (TK : CnK mg) {cK cL cW cX cF : Addr} (FK : Fld K cK nsK) (hW : Has P w K mg base (L2.CX P w) 3 "want" (A_wantK cX)) (hL : HasM P w K mg base (L2.CX P w) 4 cK "want_list" (A_want_list cK cL cW cX)) (hG : Has P w K mg base CX0 2 "goals_of" (A_goals_of cL cW)) (hF : HasC P w K mg base 5 cF "Family" nsF (I_Fam cL cW))
    (F : Fun K "family_of" "Keeper.family_of" (sKp 3) f fd) : FnOk P w K mg base (L2.CX P w) 7 f fd ["self", "most"] (spT (A_family_of cK cL cW cX cF)) := by
  refine def_okX F sc_family_of (fun ds kr ke h => ?_) fun X E C S H σ ds kr ke hA ok er Dn hr hn => ?_
  · obtain ⟨h, m, rfl, _⟩ := h
    rfl
  · obtain ⟨h, m, rfl, ph, h1, h2⟩ := hA
    refine st_want (b := h.isSome) ok er (g_methX0 C hL (g_var C 0) ⟨h, rfl, dW_t, fun z => h1 _ (by rw [z]; rfl)⟩) fun hb H1 ok1 => ?_
    obtain ⟨s, rfl⟩ := Option.isSome_iff_exists.mp hb
    have Pl := ph s rfl
    have e0 : famR (some s) m = if ¬ (1 ≤ m ∧ m ≤ 4) then .inl (-3) else if 9 < (goalsF s).length then .inl (-6) else .inr (s, m.toNat) := rfl
    rw [e0] at h1 h2
    refine st_want (b := decide (1 ≤ m) && decide (m ≤ 4)) ok1 er (g_callX C hW (a_cons (g_le_le g_int (g_var C 1) (g_cn C TK.mostLength)) (a_cons (g_cn C TK.badLength) a_nil)) ⟨_, -3, rfl, dW_t, fun z => h1 _ (if_pos fun q => by rw [decide_eq_true q.1, decide_eq_true q.2] at z; cases z)⟩) fun hb2 H2 ok2 => ?_
    rw [Bool.and_eq_true] at hb2
    have m1 := of_decide_eq_true hb2.1
    have m2 := of_decide_eq_true hb2.2
    rw [if_neg (fun z => z ⟨m1, m2⟩)] at h1 h2
    refine st_want (b := decide ((goalsF s).length ≤ 9)) ok2 er (g_callX C hW (a_cons (gcast (g_le (g_lenL C B.len (g_call C hG (a_cons (g_at C FK 0 (g_var C 0)) a_nil) ⟨s, rfl, Pl, rfl⟩)) (g_cn C TK.mostGoals)) (d' := dB (decide ((goalsF s).length ≤ 9))) (by rw [List.length_map]; congr 1; rw [decide_eq_decide]; omega)) (a_cons (g_cn C TK.tooMany) a_nil)) ⟨_, -6, rfl, dW_t, fun z => h1 _ (if_pos (by have := of_decide_eq_false z; omega))⟩) fun hb3 H3 ok3 => ?_
    have g9 := of_decide_eq_true hb3
    rw [if_neg (by omega)] at h2
    obtain ⟨n, rfl⟩ : ∃ n : Nat, m = (n : Int) := ⟨m.toNat, by omega⟩
    have h2 := h2 s n (by rw [Int.toNat_natCast])
    exact st_ret ok3 er (g_make C hF (a_cons (g_at C FK 0 (g_var C 0)) (a_cons (g_var C 1) a_nil)) ⟨s, n, rfl, Pl, by omega, g9, rfl⟩) fun v H' => hr _ v H' h2
end
end Lp
namespace Lp
open PySem PySem.Spec PyProof.Rows L2 Tr
open Vahypa (Word Lst)
open Vahypc (hasBit lowest Goal Choice better Cand slim putCand)
/-! ### where every goal has a piece there is a least choice -/
theorem stepB_some {fam : Fam} {kind g covered : Nat} {lk : Nat → Option Choice} {b : Option Choice} {i : Nat} (h : b.isSome = true) : (stepB fam kind g covered lk b i).isSome = true := by
  unfold stepB
  split
  · exact h
  · split
    · exact h
    · dsimp only
      split
      · rfl
      · split
        · rfl
        · exact h
theorem stepB_hit {fam : Fam} {kind g covered : Nat} {lk : Nat → Option Choice} {b : Option Choice} {i : Nat} {x : Choice} (h : hasBit (fam.covers.getD i 0) g = true) (hx : lk (covered ||| fam.covers.getD i 0) = some x) : (stepB fam kind g covered lk b i).isSome = true := by
  cases b with
  | none => rw [stepB_first h hx]; rfl
  | some z =>
    rw [stepB_more h hx]
    split <;> rfl
theorem fold_keep {fam : Fam} {kind g covered : Nat} {lk : Nat → Option Choice} : ∀ (l : List Nat) (b : Option Choice), b.isSome = true → (l.foldl (stepB fam kind g covered lk) b).isSome = true
  | [], _, h => h
  | i :: l, b, h => fold_keep l _ (stepB_some h)
theorem fold_hit {fam : Fam} {kind g covered : Nat} {lk : Nat → Option Choice} {i : Nat} {x : Choice} (h : hasBit (fam.covers.getD i 0) g = true) (hx : lk (covered ||| fam.covers.getD i 0) = some x) : ∀ (l : List Nat) (b : Option Choice), i ∈ l → (l.foldl (stepB fam kind g covered lk) b).isSome = true
  | [], _, hi => by cases hi
  | j :: l, b, hi => by
    rcases List.mem_cons.mp hi with e | hi
    · subst e
      exact fold_keep l _ (stepB_hit h hx)
    · exact fold_hit h hx l _ hi
theorem kn_some {fam : Fam} {kind n : Nat} (hn : n = fam.goals.length) (hlt : ∀ m ∈ fam.covers, m < 2 ^ n) (hc : ∀ g, g < n → ∃ i ∈ usedF fam, hasBit (fam.covers.getD i 0) g = true) : ∀ (i : Nat), i ≤ 2 ^ n - 1 → ∀ k, k ≤ i → ∃ c, (kn fam kind n i)[k]? = some (some c)
  | 0, _, k, hk => by
    have e : k = 0 := by omega
    subst e
    exact ⟨_, rfl⟩
  | i + 1, hi, 0, _ => by
    have h2 : 1 ≤ 2 ^ n := Nat.one_le_two_pow
    obtain ⟨m, hm⟩ : ∃ m, m = 2 ^ n - 1 - (i + 1) := ⟨_, rfl⟩
    have e : (kn fam kind n (i + 1))[0]? = some ((usedF fam).foldl (stepB fam kind (lowest n m) m (fun x => ((kn fam kind n i)[x - m - 1]?).bind id)) none) := by
      rw [hm]
      rfl
    rw [e]
    obtain ⟨l1, l2⟩ := lowest_lt (n := n) (m := m) (by omega)
    obtain ⟨j, hj, hb⟩ := hc _ l1
    have hjl := used_lt hj
    have g1 := or_gt l2 hb
    have g2 : m ||| fam.covers.getD j 0 < 2 ^ n := or_lt (by omega) (hlt _ (getD_mem hjl))
    obtain ⟨c, hc'⟩ := kn_some hn hlt hc i (by omega) ((m ||| fam.covers.getD j 0) - m - 1) (by omega)
    have hx : (fun x => ((kn fam kind n i)[x - m - 1]?).bind id) (m ||| fam.covers.getD j 0) = some c := by
      show ((kn fam kind n i)[(m ||| fam.covers.getD j 0) - m - 1]?).bind id = some c
      rw [hc']
      rfl
    have := fold_hit (kind := kind) (lk := fun x => ((kn fam kind n i)[x - m - 1]?).bind id) hb hx (usedF fam) none hj
    obtain ⟨y, hy⟩ := Option.isSome_iff_exists.mp this
    exact ⟨y, by rw [hy]⟩
  | i + 1, hi, k + 1, hk => by
    obtain ⟨c, hc'⟩ := kn_some hn hlt hc i (by omega) k (by omega)
    exact ⟨c, hc'⟩
theorem put_mask : ∀ (l : List Cand) (c : Cand), (∃ d ∈ putCand l c, d.mask = c.mask) ∧ ∀ e ∈ l, ∃ d ∈ putCand l c, d.mask = e.mask
  | [], c => ⟨⟨c, List.mem_cons_self, rfl⟩, fun e h => by cases h⟩
  | x :: r, c => by
    unfold putCand
    by_cases h : x.mask = c.mask
    · rw [if_pos h]
      split
      · refine ⟨⟨c, List.mem_cons_self, rfl⟩, fun e he => ?_⟩
        rcases List.mem_cons.mp he with q | q
        · exact ⟨c, List.mem_cons_self, by rw [q, h]⟩
        · exact ⟨e, List.mem_cons_of_mem _ q, rfl⟩
      · exact ⟨⟨x, List.mem_cons_self, h⟩, fun e he => ⟨e, he, rfl⟩⟩
    · rw [if_neg h]
      obtain ⟨⟨d, h1, h2⟩, h3⟩ := put_mask r c
      refine ⟨⟨d, List.mem_cons_of_mem _ h1, h2⟩, fun e he => ?_⟩
      rcases List.mem_cons.mp he with q | q
      · exact ⟨x, List.mem_cons_self, by rw [q]⟩
      · obtain ⟨d', h4, h5⟩ := h3 e q
        exact ⟨d', List.mem_cons_of_mem _ h4, h5⟩
theorem slim_mask {l : List Cand} {c : Cand} (h : c ∈ l) : ∃ d ∈ slim l, d.mask = c.mask := by
  unfold slim
  have go : ∀ (l acc : List Cand), (∀ e ∈ acc, ∃ d ∈ l.foldl putCand acc, d.mask = e.mask) ∧ ∀ e ∈ l, ∃ d ∈ l.foldl putCand acc, d.mask = e.mask := by
    intro l
    induction l with
    | nil => intro acc; exact ⟨fun e he => ⟨e, he, rfl⟩, fun e he => by cases he⟩
    | cons x l ih =>
      intro acc
      obtain ⟨i1, i2⟩ := ih (putCand acc x)
      obtain ⟨⟨d, p1, p2⟩, p3⟩ := put_mask acc x
      refine ⟨fun e he => ?_, fun e he => ?_⟩
      · obtain ⟨d', q1, q2⟩ := p3 e he
        obtain ⟨d2, r1, r2⟩ := i1 d' q1
        exact ⟨d2, r1, r2.trans q2⟩
      · rcases List.mem_cons.mp he with q | q
        · obtain ⟨d2, r1, r2⟩ := i1 d p1
          exact ⟨d2, r1, by rw [r2, p2, q]⟩
        · exact i2 e q
  exact (go l []).2 c h
theorem bit_orOf {cs : List Nat} {g : Nat} : ∀ {l : List Nat} {m : Nat}, hasBit (l.foldl (fun m i => m ||| cs.getD i 0) m) g = (hasBit m g || l.any fun i => hasBit (cs.getD i 0) g)
  | [], m => by simp
  | i :: l, m => by
    rw [List.foldl_cons, bit_orOf, hasBit_or, List.any_cons, Bool.or_assoc]
theorem firstL_none {gs : List Goal} {m : Nat} (h : firstL gs m = none) : ∀ g, g < gs.length → hasBit m g = true := by
  intro g hg
  unfold firstL at h
  cases hf : gs.zipIdx.find? (fun x => !hasBit m x.2) with
  | some x => rw [hf] at h; cases h
  | none =>
    rw [List.find?_eq_none] at hf
    have hm : (gs[g], g) ∈ gs.zipIdx := by
      rw [List.mem_iff_getElem?]
      exact ⟨g, by rw [List.getElem?_zipIdx, List.getElem?_eq_getElem hg]; simp⟩
    have := hf _ hm
    simpa using this
theorem cand_of {fam : Fam} {i : Nat} (h : i < fam.covers.length) : (⟨i, fam.covers.getD i 0, fam.sizes.getD i 0⟩ : Cand) ∈ candsF fam := by
  unfold candsF
  refine List.mem_map.mpr ⟨(fam.covers.getD i 0, i), ?_, rfl⟩
  rw [List.mem_iff_getElem?]
  refine ⟨i, ?_⟩
  rw [List.getElem?_zipIdx, List.getD_eq_getElem?_getD, List.getElem?_eq_getElem h]
  simp
theorem least_there {fam : Fam} (Pr : PreF fam) (kind : Nat) (h : firstL fam.goals (orOf fam.covers (List.range fam.covers.length)) = none) : ∃ c, (kn fam kind fam.goals.length (2 ^ fam.goals.length - 1))[0]? = some (some c) := by
  refine kn_some rfl Pr.lt (fun g hg => ?_) _ (Nat.le_refl _) 0 (Nat.zero_le _)
  have hb := firstL_none h g hg
  unfold orOf at hb
  rw [bit_orOf, hasBit_zero, Bool.false_or, List.any_eq_true] at hb
  obtain ⟨i, hi, hb⟩ := hb
  have hi := List.mem_range.mp hi
  obtain ⟨d, hd, hm⟩ := slim_mask (cand_of hi)
  have hk := cand_is (slim_mem d hd)
  refine ⟨d.k, List.mem_map.mpr ⟨d, hd, rfl⟩, ?_⟩
  rw [← hk.2.1, hm]
  exact hb
theorem used_len (fam : Fam) : (usedF fam).length ≤ fam.covers.length := by
  unfold usedF
  rw [List.length_map]
  refine Nat.le_trans (slim_len _) ?_
  unfold candsF
  rw [List.length_map, List.length_zipIdx]
  exact Nat.le_refl _
/-- a choice's pieces are used ones -/
theorem step_in {fam : Fam} {kind g covered : Nat} {lk : Nat → Option Choice} {U : List Nat} (hl : ∀ x c, lk x = some c → ∀ j ∈ c.ks, j ∈ U) : ∀ (l : List Nat) (b : Option Choice), (∀ j ∈ l, j ∈ U) → (∀ c, b = some c → ∀ j ∈ c.ks, j ∈ U) → ∀ c, l.foldl (stepB fam kind g covered lk) b = some c → ∀ j ∈ c.ks, j ∈ U
  | [], _, _, h, c, e => h c e
  | i :: r, b, hU, h, c, e => by
    refine step_in hl r _ (fun j hj => hU j (List.mem_cons_of_mem _ hj)) ?_ c e
    intro c' e'
    unfold stepB at e'
    split at e'
    · exact h c' e'
    · split at e'
      · exact h c' e'
      · rename_i x hx
        dsimp only at e'
        have hy : ∀ j ∈ (⟨x.bytes + fam.sizes.getD i 0, i :: x.ks⟩ : Choice).ks, j ∈ U := fun j hj => by
          rcases List.mem_cons.mp hj with q | q
          · rw [q]; exact hU i List.mem_cons_self
          · exact hl _ _ hx j q
        split at e'
        · cases e'
          exact hy
        · split at e'
          · cases e'
            exact hy
          · exact h c' e'
theorem kn_in (fam : Fam) (kind n : Nat) : ∀ (i k : Nat) (c : Choice), (kn fam kind n i)[k]? = some (some c) → ∀ j ∈ c.ks, j ∈ usedF fam
  | 0, k, c, h => by
    cases k with
    | zero => cases h; intro j hj; cases hj
    | succ k => simp [kn] at h
  | i + 1, 0, c, h => by
    have h : (usedF fam).foldl (stepB fam kind (lowest n (2 ^ n - 1 - (i + 1))) (2 ^ n - 1 - (i + 1)) (fun x => ((kn fam kind n i)[x - (2 ^ n - 1 - (i + 1)) - 1]?).bind id)) none = some c := Option.some.inj h
    refine step_in (fun x c' hx => ?_) _ _ (fun j hj => hj) (fun c' e => by cases e) c h
    cases e : (kn fam kind n i)[x - (2 ^ n - 1 - (i + 1)) - 1]? with
    | none => rw [e] at hx; cases hx
    | some o =>
      rw [e] at hx
      have hx : o = some c' := hx
      subst hx
      exact kn_in fam kind n i _ c' e
  | i + 1, k + 1, c, h => kn_in fam kind n i k c (by simpa [kn] using h)
end Lp
namespace Lp
open PySem PySem.Spec PyProof.Rows L2 Tr
open Vahypa (Word Lst)
open Vahypc (hasBit lowest Goal Choice better Cand slim putCand)
/-! ### what the keeper's calls tell -/
abbrev Told := Int ⊕ List Int
def withF (h : Option Lst) (m : Int) (k : Fam → Told) : Told := match famR h m with
  | .inl c => .inl c
  | .inr r => k (famOf r.1 r.2)
def dFam (cF : Addr) (h : Option Lst) (m : Int) : D := match famR h m with
  | .inl _ => dX
  | .inr r => eFam cF (famOf r.1 r.2)
theorem dFam_l {cF : Addr} {h : Option Lst} {m c : Int} (e : famR h m = .inl c) : dFam cF h m = dX := by unfold dFam; rw [e]
theorem dFam_r {cF : Addr} {h : Option Lst} {m : Int} {r : Lst × Nat} (e : famR h m = .inr r) : dFam cF h m = eFam cF (famOf r.1 r.2) := by unfold dFam; rw [e]
theorem withF_l {h : Option Lst} {m c : Int} {k : Fam → Told} (e : famR h m = .inl c) : withF h m k = .inl c := by unfold withF; rw [e]
theorem withF_r {h : Option Lst} {m : Int} {r : Lst × Nat} {k : Fam → Told} (e : famR h m = .inr r) : withF h m k = k (famOf r.1 r.2) := by unfold withF; rw [e]
abbrev goalI (g : Goal) : List Int := [(g.w : Int), (g.g : Int)]
def lackF (fam : Fam) : Option Goal := firstL fam.goals (orOf fam.covers (List.range fam.covers.length))
abbrev natsI (l : List Nat) : List Int := l.map fun (i : Nat) => (i : Int)
theorem dLi_nat (l : List Nat) : dL (l.map fun i => dNat i) = dLi (natsI l) := by rw [dLi, natsI, List.map_map]; rfl
def goalsTold (h : Option Lst) : Told := match h with
  | none => .inl (-1)
  | some s => .inr (((goalsF s).length : Int) :: (goalsF s).flatMap goalI)
def famTold (fam : Fam) : Told := .inr ([(fam.pieces.length : Int), ((usedF fam).length : Int)] ++ match lackF fam with
  | none => [-1, 0]
  | some g => goalI g)
def pieceTold (i : Int) (fam : Fam) : Told := if 0 ≤ i ∧ i < fam.pieces.length then .inr (lnF (natsI ((chunkF (fam.pieces.getD i.toNat ⟨[], 0, false, false⟩)).map UInt8.toNat)) ++ lnF (natsI (bitsOf fam.goals.length (fam.covers.getD i.toNat 0)))) else .inl (-2)
def setTold (fam : Fam) (some_ : List Nat) : List Int := [1, ((some_.map fun i => ((fam.sizes.getD i 0 : Nat) : Int)).sum)] ++ lnF (natsI some_)
def lackT (fam : Fam) : List Int := match lackF fam with
  | none => []
  | some g => 0 :: goalI g
/-- Ctx-free: the fields that Kp methods are told by -/
structure HasKp (P : Program) (w : World) (K : PySem.W.Frag) (mg : Str → Option Value) (base : Heap) (cK cL cW cX cF : Addr) : Prop where
  bi : Bi mg
  cn : CnK mg
  fK : Fld K cK nsK
  fL : Fld K cL nsL
  fF : Fld K cF nsF
  want : Has P w K mg base (L2.CX P w) 3 "want" (A_wantK cX)
  listed : Has P w K mg base CX0 1 "listed_numbers" A_listed
  wantL : HasM P w K mg base (L2.CX P w) 4 cK "want_list" (A_want_list cK cL cW cX)
  familyOf : HasM P w K mg base (L2.CX P w) 7 cK "family_of" (A_family_of cK cL cW cX cF)
  goalsOf : Has P w K mg base CX0 2 "goals_of" (A_goals_of cL cW)
  chunkOf : Has P w K mg base CX0 1 "chunk_of" A_chunk_of
  numbersIn : Has P w K mg base CX0 1 "numbers_in" A_numbers_in
  firstLack : HasM P w K mg base CX0 1 cF "first_lacking" (A_first_lacking cF)
  allCov : HasM P w K mg base CX0 2 cF "all_covered" (A_all_covered cF)
  together : HasM P w K mg base CX0 1 cF "together" (A_together cF)
  used : HasM P w K mg base CX0 1 cF "used" (A_used cF)
  leastSet : Has P w K mg base CX0 3 "least_set" (A_least_set cF)
  greedySet : Has P w K mg base CX0 3 "greedy_set" (A_greedy_set cF)
  boundOf : Has P w K mg base CX0 3 "bound_of" (A_bound_of cF)
section
variable {P : Program} {w : World} {K : PySem.W.Frag} {mg : Str → Option Value} {base : Heap} {f : Addr} {fd : FuncData} {cK cL cW cX cF : Addr}
theorem sc_goals_told : FnScope ["self", "goals", "found", "number", "gap"] ["self"] (defScope (sKp 4)) := ⟨rfl, rfl, rfl, by decide +kernel, rfl, by decide +kernel, by decide +kernel⟩
def A_goals_told (cK cL cW cX : Addr) : Pr := fun ds kr ke => ∃ (h : Option Lst), ds = [eKp cK cL cW h] ∧ PreH h ∧ (∀ c, goalsTold h = .inl c → ke (erK cX c)) ∧ (∀ l, goalsTold h = .inr l → kr (dLi l))
theorem goals_len {s : Lst} (Pl : PreL s) : (goalsF s).length ≤ 384 := by
  have h2 := Pl.few
  have hb : (goalsT s s.words.zipIdx).length ≤ s.words.zipIdx.length * 16 := flat_le fun b hb => by
    have := Pl.cuts _ (zip_mem hb)
    rw [List.length_map]
    exact Nat.le_trans (List.length_filter_le _ _) this
  rw [List.length_zipIdx] at hb
  show (goalsT s s.words.zipIdx).length ≤ 384
  omega
theorem flatGoal (l : List Goal) : (l.flatMap goalI).length = 2 * l.length := by
  induction l with
  | nil => rfl
  | cons g l ih => rw [List.flatMap_cons, List.length_append, ih]; simp only [List.length_cons, List.length_nil]; omega
theorem ok_goals_told (M : HasKp P w K mg base cK cL cW cX cF) (F : Fun K "goals_told" "Keeper.goals_told" (sKp 4) f fd) : FnOk P w K mg base (L2.CX P w) 5 f fd ["self"] (spT (A_goals_told cK cL cW cX)) := by
  refine def_okX F sc_goals_told (fun ds kr ke h => ?_) fun X E C S H σ ds kr ke hA ok er Dn hr hn => ?_
  · obtain ⟨h, rfl, _⟩ := h
    rfl
  · obtain ⟨h, rfl, ph, h1, h2⟩ := hA
    refine st_want (b := h.isSome) ok er (g_methX0 C M.wantL (g_var C 0) ⟨h, rfl, dW_t, fun z => h1 _ (by rw [z]; rfl)⟩) fun hb H1 ok1 => ?_
    obtain ⟨s, rfl⟩ := Option.isSome_iff_exists.mp hb
    have Pl := ph s rfl
    have h2 := h2 _ rfl
    refine st_set C 1 ok1 er (g_call C M.goalsOf (a_cons (g_at C M.fK 0 (g_var C 0)) a_nil) ⟨s, rfl, Pl, rfl⟩) fun H2 σ2 ok2 => ?_
    refine st_newLs C 2 ok2 er (ds := [dI ((goalsF s).length : Int)]) (a_cons (gcast (g_lenL C M.bi.len (g_var C 1)) (by rw [List.length_map])) a_nil) (by simp) (Nat.le_of_ble_eq_true rfl) fun p H3 σ3 ok3 => ?_
    have gl := goals_len Pl
    refine st_for C (f := fun (g : Goal) ss => (ss.set 3 (some (dNat g.w))).set 4 (some (dNat g.g))) (is := [3, 4]) ok3 er (gi_list C (g_var C 1)) (fun g _ ss1 _ => gg_tupT C (ggs_cons (gg_name C 3) (ggs_cons (gg_name C 4) ggs_nil)))
      (fun i ss1 o1 => ∃ x y, ss1 = [some (eKp cK cL cW (some s)), some (dL ((goalsF s).map eGoal)), none, x, y] ∧ o1 = [(2, oL ((((goalsF s).length : Int) :: ((goalsF s).take i).flatMap goalI).map fun i => dI i))])
      ⟨none, none, rfl, rfl⟩ (fun i ss1 o1 ⟨x, y, h, h'⟩ => by subst h h'; exact ⟨rfl, rfl⟩) ?_ ?_
    · rintro B' eB er' i g hg ss1 o1 ⟨x, y, rfl, rfl⟩ H4 σ4 ok4
      refine st_ext C ok4 (es := [dNat g.w, dNat g.g]) (ev_ge ok4 er' (g_list (a_cons (g_var C 3) (a_cons (g_var C 4) a_nil)))) ?_ fun H5 ok5 => st_nil ⟨_, _, ⟨some (dNat g.w), some (dNat g.g), rfl, rfl⟩, okf_cast ok5 ?_⟩
      · rw [List.length_map, List.length_cons, flatGoal, List.length_take]
        simp only [List.length_cons, List.length_nil]
        omega
      · rw [take_succ_of hg, List.flatMap_append]
        simp
    · rintro ss1 o1 ⟨x, y, rfl, rfl⟩ H4 σ4 ok4
      rw [List.take_length] at ok4
      exact st_retL C 2 ok4 fun v H' => hr _ v H' h2
end
end Lp
namespace Lp
open PySem PySem.Spec PyProof.Rows L2 Tr
open Vahypa (Word Lst)
open Vahypc (hasBit lowest Goal Choice better Cand slim putCand)
section
variable {P : Program} {w : World} {K : PySem.W.Frag} {mg : Str → Option Value} {base : Heap} {f : Addr} {fd : FuncData} {cK cL cW cX cF : Addr}
variable {X : CS} {N : List Str} {kd : Str → Option NameKind} {k j : Nat} {E : XK} {ex : Er → Prop} {ss : List (Option D)} {pos p1 p2 apos : Pos} {a e : Expr}
/-- list(lacking), lacking is no None -/
theorem g_goalL (C : Ctx X P w K mg base N kd k E) {g : Goal} (hm : mg "list" = none) (h : Ge X E ex ss e (eGoalO (some g))) (hg : kd "list" = some .globalImplicit := by rfl) (he : ∀ env, starEach [e] env = (false, eval e env) :: starEach [] env := by intro _; rfl) : Ge X E ex ss (.Call (.Name "list" p1) [e] [] pos) (dLi (goalI g)) := g_listT C hm h hg he
theorem g_lenLi (C : Ctx X P w K mg base N kd k E) {α : Type} {enc : α → D} {l : List α} (hm : mg "len" = none) (h : Ge X E ex ss e (dL (l.map enc))) (hg : kd "len" = some .globalImplicit := by rfl) (he : ∀ env, starEach [e] env = (false, eval e env) :: starEach [] env := by intro _; rfl) : Ge X E ex ss (.Call (.Name "len" p1) [e] [] pos) (dI (l.length : Int)) := gcast (g_lenL C hm h hg he) (by rw [List.length_map])
theorem g_catI (C : Ctx X P w K mg base N kd k E) {b : Expr} {l m : List Int} (ha : Ge X E ex ss a (dLi l)) (hb : Ge X E ex ss b (dLi m)) (hz : l.length + m.length ≤ 1000000) : Ge X E ex ss (.BinOp a .Add b pos) (dLi (l ++ m)) := gcast (g_cat ha hb (by rw [List.length_map, List.length_map]; exact hz)) (congrArg dL List.map_append.symm)
theorem g_lnI (C : Ctx X P w K mg base N kd k E) {l : List Int} (hL : Has P w K mg base CX0 1 "listed_numbers" A_listed) (h : Ge X E ex ss e (dLi l)) (hz : l.length ≤ 100000) (hj : 1 ≤ k := by decide) (hg : kd "listed_numbers" = some .globalImplicit := by rfl) (he : ∀ env, starEach [e] env = (false, eval e env) :: starEach [] env := by intro _; rfl) : Ge X E ex ss (.Call (.Name "listed_numbers" p1) [e] [] pos) (dLi (lnF l)) := g_call C hL (a_cons h a_nil (hs := he)) ⟨l, rfl, hz, rfl⟩ hj hg (by decide) he
theorem lnF_len (l : List Int) : (lnF l).length = l.length + 1 := rfl
/-! ### family -/
theorem fam_pre {h : Option Lst} {m : Int} {r : Lst × Nat} (ph : PreH h) (e : famR h m = .inr r) : PreF (famOf r.1 r.2) ∧ PreL r.1 := by
  obtain ⟨rfl, h1, h2⟩ := famR_ok (s := r.1) (n := r.2) e
  exact ⟨preF (ph _ rfl) h1 h2, ph _ rfl⟩
def A_fam (cK cL cW cX : Addr) (k : Fam → Told) : Pr := fun ds kr ke => ∃ (h : Option Lst) (m : Int), ds = [eKp cK cL cW h, dI m] ∧ PreH h ∧ (∀ c, withF h m k = .inl c → ke (erK cX c)) ∧ (∀ l, withF h m k = .inr l → kr (dLi l))
theorem famOf_arg {cF : Addr} {h : Option Lst} {m : Int} {k : Fam → Told} {ke : Er → Prop} (ph : PreH h) (h1 : ∀ c, withF h m k = .inl c → ke (erK cX c)) : A_family_of cK cL cW cX cF [eKp cK cL cW h, dI m] (fun d' => d' = dFam cF h m) ke :=
  ⟨h, m, rfl, ph, fun c e => h1 c (withF_l e), fun s n e => (dFam_r e).symm⟩
theorem sc_family : FnScope ["self", "most", "family", "lacking"] ["self", "most"] (defScope (sKp 5)) := ⟨rfl, rfl, rfl, by decide +kernel, rfl, by decide +kernel, by decide +kernel⟩
theorem ok_family (M : HasKp P w K mg base cK cL cW cX cF) (F : Fun K "family" "Keeper.family" (sKp 5) f fd) : FnOk P w K mg base (L2.CX P w) 8 f fd ["self", "most"] (spT (A_fam cK cL cW cX famTold)) := by
  refine def_okX F sc_family (fun ds kr ke h => ?_) fun X E C S H σ ds kr ke hA ok er Dn hr hn => ?_
  · obtain ⟨h, m, rfl, _⟩ := h
    rfl
  · obtain ⟨h, m, rfl, ph, h1, h2⟩ := hA
    refine st_set C 2 ok er (g_methX C M.familyOf (g_var C 0) (a_cons (g_var C 1) a_nil) (famOf_arg (cF := cF) ph h1)) fun H1 σ1 ok1 => ?_
    cases e : famR h m with
    | inl c =>
      rw [dFam_l e] at ok1
      exact (okf_never 2 ok1 rfl).elim
    | inr r =>
      obtain ⟨Pf, Pl⟩ := fam_pre ph e
      rw [dFam_r e] at ok1
      have h2 := h2 _ (withF_r e)
      obtain ⟨fam, hf⟩ : ∃ fam, fam = famOf r.1 r.2 := ⟨_, rfl⟩
      rw [← hf] at Pf h2 ok1
      refine st_set C 3 ok1 er (g_meth C M.firstLack (g_var C 2) (a_cons (g_meth0 C M.allCov (g_var C 2) ⟨fam, rfl, Pf.pc, by rw [Pf.pc]; exact Pf.le, rfl⟩) a_nil) ⟨fam, _, rfl, rfl⟩) fun H2 σ2 ok2 => ?_
      have e2 : (dL [dI (fam.pieces.length : Int), dI ((usedF fam).length : Int)]) = dLi [(fam.pieces.length : Int), ((usedF fam).length : Int)] := rfl
      refine st_ret ok2 er (g_catI C (l := [(fam.pieces.length : Int), ((usedF fam).length : Int)]) (g_list (a_cons (g_lenLi C M.bi.len (g_at C M.fF 1 (g_var C 2))) (a_cons (g_lenLi C M.bi.len (g_meth0 C M.used (g_var C 2) ⟨fam, rfl, Pf.sz, Pf.le, rfl⟩)) a_nil)))
        (g_if (p := (lackF fam).isNone) (t_isN (g_var C 3) (goal_non _)) (fun z => (?_ : Ge X E _ _ _ (dLi (match lackF fam with | none => [-1, 0] | some g => goalI g)))) (fun z => ?_)) ?_) fun v H' => hr _ v H' h2
      · cases el : lackF fam with
        | some g => rw [el] at z; cases z
        | none => exact g_list (a_cons (g_neg g_int) (a_cons g_int a_nil))
      · cases el : lackF fam with
        | none => rw [el] at z; cases z
        | some g => exact g_goalL C M.bi.list (g_var C 3 (hs := by show some (some (eGoalO (lackF fam))) = _; rw [el]))
      · cases lackF fam <;> simp
end
end Lp
namespace Lp
open PySem PySem.Spec PyProof.Rows L2 Tr
open Vahypa (Word Lst)
open Vahypc (hasBit lowest Goal Choice better Cand slim putCand)
/-! ### the sets' lengths -/
theorem step_len {fam : Fam} {kind g covered n : Nat} {lk : Nat → Option Choice} (hl : ∀ x c, lk x = some c → c.ks.length ≤ n) : ∀ (l : List Nat) (b : Option Choice), (∀ c, b = some c → c.ks.length ≤ n + 1) → ∀ c, l.foldl (stepB fam kind g covered lk) b = some c → c.ks.length ≤ n + 1
  | [], _, h, c, e => h c e
  | i :: r, b, h, c, e => by
    refine step_len hl r _ ?_ c e
    intro c' e'
    unfold stepB at e'
    split at e'
    · exact h c' e'
    · split at e'
      · exact h c' e'
      · rename_i x hx
        dsimp only at e'
        have hy : (⟨x.bytes + fam.sizes.getD i 0, i :: x.ks⟩ : Choice).ks.length ≤ n + 1 := by
          have := hl _ _ hx
          simp only [List.length_cons]
          omega
        split at e'
        · cases e'
          exact hy
        · split at e'
          · cases e'
            exact hy
          · exact h c' e'
theorem kn_kslen (fam : Fam) (kind n : Nat) : ∀ (i k : Nat) (c : Choice), (kn fam kind n i)[k]? = some (some c) → c.ks.length ≤ i
  | 0, k, c, h => by
    cases k with
    | zero => cases h; exact Nat.le_refl _
    | succ k => simp [kn] at h
  | i + 1, 0, c, h => by
    have h : (usedF fam).foldl (stepB fam kind (lowest n (2 ^ n - 1 - (i + 1))) (2 ^ n - 1 - (i + 1)) (fun x => ((kn fam kind n i)[x - (2 ^ n - 1 - (i + 1)) - 1]?).bind id)) none = some c := Option.some.inj h
    refine step_len (fun x c' hx => ?_) _ _ (fun c' e => by cases e) c h
    cases e : (kn fam kind n i)[x - (2 ^ n - 1 - (i + 1)) - 1]? with
    | none => rw [e] at hx; cases hx
    | some o =>
      rw [e] at hx
      have hx : o = some c' := hx
      subst hx
      exact kn_kslen fam kind n i _ c' e
  | i + 1, k + 1, c, h => Nat.le_succ_of_le (kn_kslen fam kind n i k c (by simpa [kn] using h))
theorem gSet_ok (fam : Fam) : ∀ (f : Nat) (l : List Nat), (∀ i ∈ l, i < fam.covers.length) → (∀ i ∈ gSet fam f l, i < fam.covers.length) ∧ (gSet fam f l).length ≤ f + l.length
  | 0, l, h => ⟨h, by show l.length ≤ 0 + l.length; omega⟩
  | f + 1, l, h => by
    unfold gSet
    rcases greedF_is fam (orOf fam.covers l) with e | ⟨i, hi, e, hp⟩
    · rw [e]
      exact ⟨h, Nat.le_add_left _ _⟩
    · rw [e]
      dsimp only
      rw [if_pos hp]
      obtain ⟨h1, h2⟩ := gSet_ok fam f (l ++ [i]) (fun j hj => by
        rcases List.mem_append.mp hj with q | q
        · exact h j q
        · rw [List.mem_singleton.mp q]; exact hi)
      refine ⟨h1, ?_⟩
      rw [List.length_append, List.length_singleton] at h2
      omega
def leastKs (fam : Fam) (kind : Nat) : List Nat := match ((kn fam kind fam.goals.length (2 ^ fam.goals.length - 1))[0]?).bind id with
  | none => []
  | some c => c.ks
def leastTold (kind : Int) (fam : Fam) : Told := if kind = 0 ∨ kind = 1 then .inr (if lackT fam = [] then setTold fam (leastKs fam kind.toNat) else lackT fam) else .inl (-4)
def greedTold (fam : Fam) : Told := .inr (if lackT fam = [] then setTold fam (gSet fam (fam.goals.length + 1) []) else lackT fam)
def boundTold (fam : Fam) : Told := .inr (lnF (natsI (bitsOf fam.goals.length (boundM fam))))
def chkO (n : Nat) : Option Goal → List Int
  | none => [1, (n : Int)]
  | some g => 0 :: goalI g
def checkTold (l : List Int) (fam : Fam) : Told := if (l.all fun i => decide (0 ≤ i) && decide (i < (fam.pieces.length : Int))) = true then .inr (chkO l.length (firstL fam.goals (orOf fam.covers (l.map Int.toNat)))) else .inl (-4)
section
variable {P : Program} {w : World} {K : PySem.W.Frag} {mg : Str → Option Value} {base : Heap} {f : Addr} {fd : FuncData} {cK cL cW cX cF : Addr}
/-! ### set_told, lacking_told -/
theorem sc_set_told : FnScope ["self", "family", "some", "i"] ["self", "family", "some"] (defScope (sKp 7)) := ⟨rfl, rfl, rfl, by decide +kernel, rfl, by decide +kernel, by decide +kernel⟩
def A_set_told (cK cL cW cF : Addr) : Pr := fun ds kr ke => ∃ (h : Option Lst) (fam : Fam) (l : List Nat), ds = [eKp cK cL cW h, eFam cF fam, dL (l.map fun i => dNat i)] ∧ PreF fam ∧ (∀ i ∈ l, i < fam.covers.length) ∧ l.length ≤ 10000 ∧ kr (dLi (setTold fam l))
theorem ok_set_told (M : HasKp P w K mg base cK cL cW cX cF) (F : Fun K "set_told" "Keeper.set_told" (sKp 7) f fd) : FnOk P w K mg base CX0 2 f fd ["self", "family", "some"] (spT (A_set_told cK cL cW cF)) := by
  refine def_ok F sc_set_told (fun ds kr ke h => ?_) fun X C S H σ ds kr ke0 hA ok er Dn hr hn => ?_
  · obtain ⟨h, fam, l, rfl, _⟩ := h
    rfl
  · obtain ⟨ke, h, fam, l, rfl, Pf, hix, hl, hk⟩ := hA
    have e1 : ((l.filter fun _ => true).map fun i => dNat (fam.sizes.getD i 0)) = ((l.map fun i => ((fam.sizes.getD i 0 : Nat) : Int)).map fun n => dI n) := by rw [filter_yes, List.map_map]; rfl
    refine st_ret ok (Errs.none (E := E0)) (g_catI C (l := [1, ((l.map fun i => ((fam.sizes.getD i 0 : Nat) : Int)).sum)]) (g_list (a_cons g_int (a_cons (g_sum C M.bi.sum (gcast (g_lc C [("i", 3)] (l := l) (enc := fun i => dNat i) (is := [3]) (f := fun i => [some (eKp cK cL cW h), some (eFam cF fam), some (dL (l.map fun i => dNat i)), some (dNat i)]) (t := fun _ => true) (g := fun i => dNat (fam.sizes.getD i 0))
      (gi_list C (g_var C 2)) (by decide +kernel) (by rw [sizeLine_eq]; omega) (by simp)
      (fun q hq => gg_name (C.blk _ rfl) 3) (fun q hq => ts_nil)
      (fun q hq ht => g_ixL (C.blk _ rfl) (g_at (C.blk _ rfl) M.fF 3 (g_var (C.blk _ rfl) 1)) (g_var (C.blk _ rfl) 3) rfl (map_get (g := fun m => dNat m) (d := 0) (by rw [Pf.sz]; exact hix q hq)))) (congrArg dL e1))) a_nil)))
      (g_lnI C M.listed (gcast (g_var C 2) (dLi_nat l)) (by unfold natsI; rw [List.length_map]; omega)) (by rw [lnF_len, natsI, List.length_map]; simp only [List.length_cons, List.length_nil]; omega)) fun v H' => hr _ v H' hk
theorem sc_lacking_told : FnScope ["self", "family", "lacking"] ["self", "family"] (defScope (sKp 8)) := ⟨rfl, rfl, rfl, by decide +kernel, rfl, by decide +kernel, by decide +kernel⟩
def A_lacking_told (cK cL cW cF : Addr) : Pr := fun ds kr ke => ∃ (h : Option Lst) (fam : Fam), ds = [eKp cK cL cW h, eFam cF fam] ∧ PreF fam ∧ kr (dLi (lackT fam))
theorem ok_lacking_told (M : HasKp P w K mg base cK cL cW cX cF) (F : Fun K "lacking_told" "Keeper.lacking_told" (sKp 8) f fd) : FnOk P w K mg base CX0 3 f fd ["self", "family"] (spT (A_lacking_told cK cL cW cF)) := by
  refine def_ok F sc_lacking_told (fun ds kr ke h => ?_) fun X C S H σ ds kr ke0 hA ok er Dn hr hn => ?_
  · obtain ⟨h, fam, rfl, _⟩ := h
    rfl
  · obtain ⟨ke, h, fam, rfl, Pf, hk⟩ := hA
    refine st_set C 2 ok (Errs.none (E := E0)) (g_meth C M.firstLack (g_var C 1) (a_cons (g_meth0 C M.allCov (g_var C 1) ⟨fam, rfl, Pf.pc, by rw [Pf.pc]; exact Pf.le, rfl⟩) a_nil) ⟨fam, _, rfl, rfl⟩) fun H2 σ2 ok2 => ?_
    refine st_ret ok2 (Errs.none (E := E0)) (g_if (p := (lackF fam).isNone) (t_isN (g_var C 2) (goal_non _)) (fun z => (?_ : Ge X _ _ _ _ (dLi (lackT fam)))) (fun z => ?_)) fun v H' => hr _ v H' hk
    · unfold lackT
      cases el : lackF fam with
      | some g => rw [el] at z; cases z
      | none => exact g_list a_nil
    · unfold lackT
      cases el : lackF fam with
      | none => rw [el] at z; cases z
      | some g => exact g_catI C (l := [0]) (m := goalI g) (g_list (a_cons g_int a_nil)) (g_goalL C M.bi.list (g_var C 2 (hs := by show some (some (eGoalO (lackF fam))) = _; rw [el]))) (by show 1 + 2 ≤ 1000000; decide)
end
end Lp
namespace Lp
open PySem PySem.Spec PyProof.Rows L2 Tr
open Vahypa (Word Lst)
open Vahypc (hasBit lowest Goal Choice better Cand slim putCand)
section
variable {P : Program} {w : World} {K : PySem.W.Frag} {mg : Str → Option Value} {base : Heap} {X : CS} {N : List Str} {kd : Str → Option NameKind} {k j : Nat} {E : XK} {ex : Er → Prop} {ss : List (Option D)} {d : D} {ds : List D} {pos p : Pos} {e : Expr} {es : List Expr} {x : Str} {A : Pr}
theorem no_dX {ds : List D} (q : ∃ (W : Hp) (us : List V), Reps W us (dX :: ds)) : False := by
  obtain ⟨W, us, r⟩ := q
  cases us with
  | nil => exact r.elim
  | cons _ _ => exact False.elim r.1
theorem gv_callR {E' : XK} {t : TA} {ke : Er → Prop} (ha : Ga E ex t ss ds) (hA : (∃ (W : Hp) (us : List V), Reps W us ds) → A ds (fun d' => d' = d) ke) (he : ∀ H, Errs E ex H → Errs E' ke H) : Gv E ex (tCall (spT A) [] E' t) ss d := fun S H σ ok er Q q =>
  ha S H σ ok er _ fun vs H1 e1 pr => by
    show spT A (vs ++ []) H1 Q E'
    rw [List.append_nil]
    refine ⟨S, ds, _, ke, (ok.up e1).hid, pr, hA ⟨_, _, pr⟩, fun d' v H' hk e2 pd => ?_, he _ (er.up e1)⟩
    subst hk
    exact q v H' (e1.trans e2) pd
theorem g_callR (C : Ctx X P w K mg base N kd k E) (h : Has P w K mg base CX0 j x A) (ha : Gas X E ex ss (e :: es) ds) (hA : (∃ (W : Hp) (us : List V), Reps W us ds) → A ds (fun d' => d' = d) (fun _ => False)) (hj : j ≤ k := by decide) (hg : kd x = some .globalImplicit := by rfl)
    (hdb : (x == ("__debug__" : Str)) = false := by decide) (he : ∀ env, starEach (e :: es) env = (false, eval e env) :: starEach es env := by intro _; rfl) (hpl : ∀ env, (backTo pos (starEach es env)).any (·.1) = false := by intro _; rfl) :
    Ge X E ex ss (.Call (.Name x p) (e :: es) [] pos) d := by
  obtain ⟨f, fd, ps, hm, hk, hb, F⟩ := h
  refine ge_pe (fun y hy => ?_) (gv_callR (E' := E0) ha hA fun _ _ => Errs.none)
  exact pe_call (C.fn hy F) ((C.room y hy).mono hj) (C.gl hy hg) (by rw [C.names y hy]; exact hm) (by rw [C.frag y hy]; exact hk) (by rw [C.frag y hy]; exact hb) .nil pass0 (wpA_pa hy) hdb (he _) (hpl _)
end
section
variable {P : Program} {w : World} {K : PySem.W.Frag} {mg : Str → Option Value} {base : Heap} {f : Addr} {fd : FuncData} {cK cL cW cX cF : Addr}
structure HasKq (P : Program) (w : World) (K : PySem.W.Frag) (mg : Str → Option Value) (base : Heap) (cK cL cW cX cF : Addr) : Prop extends HasKp P w K mg base cK cL cW cX cF where
  setTold : HasM P w K mg base CX0 2 cK "set_told" (A_set_told cK cL cW cF)
  lackTold : HasM P w K mg base CX0 3 cK "lacking_told" (A_lacking_told cK cL cW cF)
theorem lack_ne (fam : Fam) : (!decide (lackT fam = [])) = (lackF fam).isSome := by
  unfold lackT
  cases lackF fam with
  | none => rfl
  | some g => rfl
theorem lack_none {fam : Fam} (h : lackT fam = []) : lackF fam = none := by
  unfold lackT at h
  cases e : lackF fam with
  | none => rfl
  | some g => rw [e] at h; cases h
theorem pd_Li (l : List Int) : Pd (dLi l) (PySem.W.Datum.toD l) := pd_L (fun i => pd_I)
section
variable {X : CS} {N : List Str} {kd : Str → Option NameKind} {k j : Nat} {E : XK} {ex : Er → Prop} {ss : List (Option D)} {pos p1 p2 apos : Pos} {a e : Expr}
theorem g_nilI : Ge X E ex ss (.List [] pos) (dLi []) := g_list a_nil
end
/-! ### least, greedy, bound -/
theorem sc_least : FnScope ["self", "most", "kind", "family", "lacking"] ["self", "most", "kind"] (defScope (sKp 9)) := ⟨rfl, rfl, rfl, by decide +kernel, rfl, by decide +kernel, by decide +kernel⟩
def A_least (cK cL cW cX : Addr) : Pr := fun ds kr ke => ∃ (h : Option Lst) (m kind : Int), ds = [eKp cK cL cW h, dI m, dI kind] ∧ PreH h ∧ (∀ c, withF h m (leastTold kind) = .inl c → ke (erK cX c)) ∧ (∀ l, withF h m (leastTold kind) = .inr l → kr (dLi l))
theorem ok_least (M : HasKq P w K mg base cK cL cW cX cF) (F : Fun K "least" "Keeper.least" (sKp 9) f fd) : FnOk P w K mg base (L2.CX P w) 8 f fd ["self", "most", "kind"] (spT (A_least cK cL cW cX)) := by
  refine def_okX F sc_least (fun ds kr ke h => ?_) fun X E C S H σ ds kr ke hA ok er Dn hr hn => ?_
  · obtain ⟨h, m, kind, rfl, _⟩ := h
    rfl
  · obtain ⟨h, m, kind, rfl, ph, h1, h2⟩ := hA
    refine st_set C 3 ok er (g_methX C M.familyOf (g_var C 0) (a_cons (g_var C 1) a_nil) (famOf_arg (cF := cF) ph h1)) fun H1 σ1 ok1 => ?_
    cases e : famR h m with
    | inl c =>
      rw [dFam_l e] at ok1
      exact (okf_never 3 ok1 rfl).elim
    | inr r =>
      obtain ⟨Pf, Pl⟩ := fam_pre ph e
      rw [dFam_r e] at ok1
      rw [withF_r e] at h1 h2
      obtain ⟨fam, hf⟩ : ∃ fam, fam = famOf r.1 r.2 := ⟨_, rfl⟩
      rw [← hf] at Pf h1 h2 ok1
      unfold leastTold at h1 h2
      refine st_want (b := decide (kind = 0 ∨ kind = 1)) ok1 er (g_callX C M.want (a_cons (gcast (g_inTs C (u := .int kind) (us := [.int 0, .int 1]) (g_var C 2) (g_ofT (g_tup (ds := [dI 0, dI 1]) (a_cons g_int (a_cons g_int a_nil)))) rfl rfl) (d' := dB (decide (kind = 0 ∨ kind = 1))) ?_) (a_cons (g_cn C M.cn.notTold) a_nil)) ⟨_, -4, rfl, dW_t, fun z => h1 _ (if_neg (of_decide_eq_false z))⟩) fun hb H2 ok2 => ?_
      · have e00 : inV (.int kind) [.int 0, .int 1] = decide (kind = 0 ∨ kind = 1) := ?_
        · rw [e00]
        have e0 : inV (.int kind) [.int 0, .int 1] = ((0 == kind) || ((1 == kind) || false)) := rfl
        rw [e0, Bool.or_false, Bool.eq_iff_iff, Bool.or_eq_true, beq_iff_eq, beq_iff_eq, decide_eq_true_iff]
        exact ⟨fun q => q.imp Eq.symm Eq.symm, fun q => q.imp Eq.symm Eq.symm⟩
      have hb := of_decide_eq_true hb
      have h2 := h2 _ (if_pos hb)
      refine st_set C 4 ok2 er (g_meth C M.lackTold (g_var C 0) (a_cons (g_var C 3) a_nil) ⟨h, fam, rfl, Pf, rfl⟩) fun H3 σ3 ok3 => ?_
      refine st_ret ok3 er (g_if (p := !decide (lackT fam = [])) (t_neT C (x := lackT fam) (y := []) (g_var C 4) g_nilI (pd_Li _) (pd_Li _) (by decide)) (fun z => (?_ : Ge X _ _ _ _ (dLi (if lackT fam = [] then setTold fam (leastKs fam kind.toNat) else lackT fam)))) (fun z => ?_)) fun v H' => hr _ v H' h2
      · have z : ¬ lackT fam = [] := of_decide_eq_false (by simpa using z)
        rw [if_neg z]
        exact g_var C 4
      · have z : lackT fam = [] := of_decide_eq_true (by simpa using z)
        rw [if_pos z]
        obtain ⟨c, hc⟩ := least_there Pf kind.toNat (lack_none z)
        have ek : leastKs fam kind.toNat = c.ks := by
          unfold leastKs
          rw [hc]
          rfl
        rw [ek]
        have hl := kn_kslen _ _ _ _ _ _ hc
        have h9 : 2 ^ fam.goals.length ≤ 2 ^ 9 := Nat.pow_le_pow_right (by decide) Pf.n9
        obtain ⟨kk, rfl⟩ : ∃ n : Nat, kind = (n : Int) := ⟨kind.toNat, by omega⟩
        exact g_meth C M.setTold (g_var C 0) (a_cons (g_var C 3) (a_cons (g_call C M.leastSet (a_cons (g_var C 3) (a_cons (g_var C 2) a_nil)) ⟨fam, kk, c, rfl, Pf, hc, rfl⟩) a_nil)) ⟨h, fam, c.ks, rfl, Pf, fun j hj => used_lt (kn_in _ _ _ _ _ _ hc j hj), by omega, rfl⟩
theorem sc_greedy : FnScope ["self", "most", "family", "lacking"] ["self", "most"] (defScope (sKp 10)) := ⟨rfl, rfl, rfl, by decide +kernel, rfl, by decide +kernel, by decide +kernel⟩
theorem ok_greedy (M : HasKq P w K mg base cK cL cW cX cF) (F : Fun K "greedy" "Keeper.greedy" (sKp 10) f fd) : FnOk P w K mg base (L2.CX P w) 8 f fd ["self", "most"] (spT (A_fam cK cL cW cX greedTold)) := by
  refine def_okX F sc_greedy (fun ds kr ke h => ?_) fun X E C S H σ ds kr ke hA ok er Dn hr hn => ?_
  · obtain ⟨h, m, rfl, _⟩ := h
    rfl
  · obtain ⟨h, m, rfl, ph, h1, h2⟩ := hA
    refine st_set C 2 ok er (g_methX C M.familyOf (g_var C 0) (a_cons (g_var C 1) a_nil) (famOf_arg (cF := cF) ph h1)) fun H1 σ1 ok1 => ?_
    cases e : famR h m with
    | inl c =>
      rw [dFam_l e] at ok1
      exact (okf_never 2 ok1 rfl).elim
    | inr r =>
      obtain ⟨Pf, Pl⟩ := fam_pre ph e
      rw [dFam_r e] at ok1
      have h2 := h2 _ (withF_r e)
      obtain ⟨fam, hf⟩ : ∃ fam, fam = famOf r.1 r.2 := ⟨_, rfl⟩
      rw [← hf] at Pf h2 ok1
      refine st_set C 3 ok1 er (g_meth C M.lackTold (g_var C 0) (a_cons (g_var C 2) a_nil) ⟨h, fam, rfl, Pf, rfl⟩) fun H3 σ3 ok3 => ?_
      have n9 := Pf.n9
      obtain ⟨g1, g2⟩ := gSet_ok fam (fam.goals.length + 1) [] (fun i hi => by cases hi)
      refine st_ret ok3 er (g_if (p := !decide (lackT fam = [])) (t_neT C (x := lackT fam) (y := []) (g_var C 3) g_nilI (pd_Li _) (pd_Li _) (by decide)) (fun z => (?_ : Ge X _ _ _ _ (dLi (if lackT fam = [] then setTold fam (gSet fam (fam.goals.length + 1) []) else lackT fam)))) (fun z => ?_)) fun v H' => hr _ v H' h2
      · have z : ¬ lackT fam = [] := of_decide_eq_false (by simpa using z)
        rw [if_neg z]
        exact g_var C 3
      · have z : lackT fam = [] := of_decide_eq_true (by simpa using z)
        rw [if_pos z]
        exact g_meth C M.setTold (g_var C 0) (a_cons (g_var C 2) (a_cons (g_call C M.greedySet (a_cons (g_var C 2) a_nil) ⟨fam, rfl, by omega, Pf.lt, rfl⟩) a_nil)) ⟨h, fam, _, rfl, Pf, g1, by rw [List.length_nil] at g2; omega, rfl⟩
theorem sc_bound : FnScope ["self", "most"] ["self", "most"] (defScope (sKp 11)) := ⟨rfl, rfl, rfl, by decide +kernel, rfl, by decide +kernel, by decide +kernel⟩
theorem ok_bound (M : HasKq P w K mg base cK cL cW cX cF) (F : Fun K "bound" "Keeper.bound" (sKp 11) f fd) : FnOk P w K mg base (L2.CX P w) 8 f fd ["self", "most"] (spT (A_fam cK cL cW cX boundTold)) := by
  refine def_okX F sc_bound (fun ds kr ke h => ?_) fun X E C S H σ ds kr ke hA ok er Dn hr hn => ?_
  · obtain ⟨h, m, rfl, _⟩ := h
    rfl
  · obtain ⟨h, m, rfl, ph, h1, h2⟩ := hA
    cases e : famR h m with
    | inl c =>
      refine st_ret ok er (g_callR (d := dX) C M.listed (a_cons (g_callR (d := dX) C M.boundOf (a_cons (g_methX C M.familyOf (g_var C 0) (a_cons (g_var C 1) a_nil) (famOf_arg (cF := cF) ph h1)) a_nil) (fun q => ?_)) a_nil) (fun q => ?_)) fun v H' _ pv => False.elim pv
      · rw [dFam_l e] at q
        exact (no_dX q).elim
      · exact (no_dX q).elim
    | inr r =>
      obtain ⟨Pf, Pl⟩ := fam_pre ph e
      have h2 := h2 _ (withF_r e)
      obtain ⟨fam, hf⟩ : ∃ fam, fam = famOf r.1 r.2 := ⟨_, rfl⟩
      rw [← hf] at Pf h2
      have n9 := Pf.n9
      have hb : (natsI (bitsOf fam.goals.length (boundM fam))).length ≤ 9 := by
        unfold natsI bitsOf
        rw [List.length_map]
        refine Nat.le_trans (List.length_filter_le _ _) ?_
        rw [List.length_range]
        exact n9
      exact st_ret ok er (g_lnI C M.listed (gcast (g_callR C M.boundOf (a_cons (g_methX C M.familyOf (g_var C 0) (a_cons (g_var C 1) a_nil) (famOf_arg (cF := cF) ph h1)) a_nil) (fun _ => ⟨fam, by rw [dFam_r e, ← hf], Pf, rfl⟩)) (dLi_nat _)) (by omega)) fun v H' => hr _ v H' h2
end
end Lp
namespace Lp
open PySem PySem.Spec PyProof.Rows L2 Tr
open Vahypa (Word Lst)
open Vahypc (hasBit lowest Goal Choice better Cand slim putCand)
section
variable {P : Program} {w : World} {K : PySem.W.Frag} {mg : Str → Option Value} {base : Heap} {f : Addr} {fd : FuncData} {cK cL cW cX cF : Addr}
/-! ### check -/
theorem sc_check : FnScope ["self", "most", "some", "family", "lacking", "i"] ["self", "most", "some"] (defScope (sKp 12)) := ⟨rfl, rfl, rfl, by decide +kernel, rfl, by decide +kernel, by decide +kernel⟩
def A_check (cK cL cW cX : Addr) : Pr := fun ds kr ke => ∃ (h : Option Lst) (m : Int) (l : List Int), ds = [eKp cK cL cW h, dI m, dLi l] ∧ l.length ≤ 100000 ∧ PreH h ∧ (∀ c, withF h m (checkTold l) = .inl c → ke (erK cX c)) ∧ (∀ x, withF h m (checkTold l) = .inr x → kr (dLi x))
theorem ok_check (M : HasKq P w K mg base cK cL cW cX cF) (F : Fun K "check" "Keeper.check" (sKp 12) f fd) : FnOk P w K mg base (L2.CX P w) 8 f fd ["self", "most", "some"] (spT (A_check cK cL cW cX)) := by
  refine def_okX F sc_check (fun ds kr ke h => ?_) fun X E C S H σ ds kr ke hA ok er Dn hr hn => ?_
  · obtain ⟨h, m, l, rfl, _⟩ := h
    rfl
  · obtain ⟨h, m, l, rfl, hz, ph, h1, h2⟩ := hA
    refine st_set C 3 ok er (g_methX C M.familyOf (g_var C 0) (a_cons (g_var C 1) a_nil) (famOf_arg (cF := cF) ph h1)) fun H1 σ1 ok1 => ?_
    cases e : famR h m with
    | inl c =>
      rw [dFam_l e] at ok1
      exact (okf_never 3 ok1 rfl).elim
    | inr r =>
      obtain ⟨Pf, Pl⟩ := fam_pre ph e
      rw [dFam_r e] at ok1
      rw [withF_r e] at h1 h2
      obtain ⟨fam, hf⟩ : ∃ fam, fam = famOf r.1 r.2 := ⟨_, rfl⟩
      rw [← hf] at Pf h1 h2 ok1
      unfold checkTold at h1 h2
      have e1 : ((l.filter fun _ => true).map fun i => dB (decide (0 ≤ i) && decide (i < (fam.pieces.length : Int)))) = ((l.map fun i => decide (0 ≤ i) && decide (i < (fam.pieces.length : Int))).map fun o => dB o) := by rw [filter_yes, List.map_map]; rfl
      refine st_want (b := l.all fun i => decide (0 ≤ i) && decide (i < (fam.pieces.length : Int))) ok1 er (g_callX C M.want (a_cons (gcast (g_all C M.bi.all (gcast (g_lc C [("i", 5)] (l := l) (enc := fun i => dI i) (is := [5]) (f := fun i => [some (eKp cK cL cW h), some (dI m), some (dLi l), some (eFam cF fam), none, some (dI i)]) (t := fun _ => true) (g := fun i => dB (decide (0 ≤ i) && decide (i < (fam.pieces.length : Int))))
        (gi_list C (g_var C 2)) (by decide +kernel) (by rw [sizeLine_eq]; omega) (by simp)
        (fun q hq => gg_name (C.blk _ rfl) 5) (fun q hq => ts_nil)
        (fun q hq ht => g_le_lt g_int (g_var (C.blk _ rfl) 5) (g_lenLi (C.blk _ rfl) M.bi.len (g_at (C.blk _ rfl) M.fF 1 (g_var (C.blk _ rfl) 3))))) (congrArg dL e1))) (by rw [List.all_map]; rfl)) (a_cons (g_cn C M.cn.notTold) a_nil)) ⟨_, -4, rfl, dW_t, fun z => h1 _ (if_neg (by rw [z]; exact fun q => by cases q))⟩) fun hb H2 ok2 => ?_
      have h2 := h2 _ (if_pos hb)
      have hall := List.all_eq_true.mp hb
      have hin : ∀ i ∈ l, 0 ≤ i ∧ i < (fam.covers.length : Int) := fun i hi => by
        have := hall i hi
        rw [Bool.and_eq_true] at this
        have a1 := of_decide_eq_true this.1
        have a2 := of_decide_eq_true this.2
        rw [Pf.pc] at a2
        exact ⟨a1, a2⟩
      have hl : dLi l = dL ((l.map Int.toNat).map fun i => dNat i) := by
        rw [dLi, List.map_map]
        congr 1
        refine List.map_congr_left fun i hi => ?_
        have := hin i hi
        show dI i = dI ((i.toNat : Nat) : Int)
        congr 1
        congr 1
        omega
      refine st_set C 4 ok2 er (g_meth C M.firstLack (g_var C 3) (a_cons (g_meth C M.together (g_var C 3) (a_cons (gcast (g_var C 2) hl) a_nil) ⟨fam, l.map Int.toNat, rfl, fun i hi => by
        obtain ⟨j, hj, rfl⟩ := List.mem_map.mp hi
        have := hin j hj
        omega, rfl⟩) a_nil) ⟨fam, _, rfl, rfl⟩) fun H3 σ3 ok3 => ?_
      obtain ⟨G, hG⟩ : ∃ G, G = firstL fam.goals (orOf fam.covers (l.map Int.toNat)) := ⟨_, rfl⟩
      rw [← hG] at ok3 h2
      refine st_ret ok3 er (g_if (p := G.isNone) (t_isN (g_var C 4) (goal_non _)) (fun z => (?_ : Ge X _ _ _ _ (dLi (chkO l.length G)))) (fun z => ?_)) fun v H' => hr _ v H' h2
      · cases G with
        | some g => cases z
        | none => exact g_list (ds := [dI 1, dI (l.length : Int)]) (a_cons g_int (a_cons (g_lenLi C M.bi.len (g_var C 2)) a_nil))
      · cases G with
        | none => cases z
        | some g => exact g_catI C (l := [0]) (m := goalI g) (g_list (a_cons g_int a_nil)) (g_goalL C M.bi.list (g_var C 4)) (by show 1 + 2 ≤ 1000000; decide)
/-! ### piece -/
theorem sc_piece : FnScope ["self", "most", "i", "family", "chunk", "sign"] ["self", "most", "i"] (defScope (sKp 6)) := ⟨rfl, rfl, rfl, by decide +kernel, rfl, by decide +kernel, by decide +kernel⟩
def A_piece (cK cL cW cX : Addr) : Pr := fun ds kr ke => ∃ (h : Option Lst) (m i : Int), ds = [eKp cK cL cW h, dI m, dI i] ∧ PreH h ∧ (∀ c, withF h m (pieceTold i) = .inl c → ke (erK cX c)) ∧ (∀ x, withF h m (pieceTold i) = .inr x → kr (dLi x))
theorem chunk_len {p : Pc} (h : p.x.length ≤ 16) : (chunkF p).length ≤ 19 := by
  have h1 : (p.x.take p.at_).length + (p.x.drop p.at_).length = p.x.length := by rw [← List.length_append, List.take_append_drop]
  unfold chunkF
  simp only [List.length_append, List.length_singleton]
  split <;> split <;> simp only [List.length_singleton, List.length_nil] <;> omega
theorem ok_piece (M : HasKq P w K mg base cK cL cW cX cF) (F : Fun K "piece" "Keeper.piece" (sKp 6) f fd) : FnOk P w K mg base (L2.CX P w) 8 f fd ["self", "most", "i"] (spT (A_piece cK cL cW cX)) := by
  refine def_okX F sc_piece (fun ds kr ke h => ?_) fun X E C S H σ ds kr ke hA ok er Dn hr hn => ?_
  · obtain ⟨h, m, i, rfl, _⟩ := h
    rfl
  · obtain ⟨h, m, i, rfl, ph, h1, h2⟩ := hA
    refine st_set C 3 ok er (g_methX C M.familyOf (g_var C 0) (a_cons (g_var C 1) a_nil) (famOf_arg (cF := cF) ph h1)) fun H1 σ1 ok1 => ?_
    cases e : famR h m with
    | inl c =>
      rw [dFam_l e] at ok1
      exact (okf_never 3 ok1 rfl).elim
    | inr r =>
      obtain ⟨Pf, Pl⟩ := fam_pre ph e
      have hpl : ∀ p ∈ (famOf r.1 r.2).pieces, p.x.length ≤ 16 := fun p hp => pieces_len Pl hp
      rw [dFam_r e] at ok1
      rw [withF_r e] at h1 h2
      obtain ⟨fam, hf⟩ : ∃ fam, fam = famOf r.1 r.2 := ⟨_, rfl⟩
      rw [← hf] at Pf h1 h2 ok1 hpl
      unfold pieceTold at h1 h2
      refine st_want (b := decide (0 ≤ i) && decide (i < (fam.pieces.length : Int))) ok1 er (g_callX C M.want (a_cons (g_le_lt g_int (g_var C 2) (g_lenLi C M.bi.len (g_at C M.fF 1 (g_var C 3)))) (a_cons (g_cn C M.cn.noPiece) a_nil)) ⟨_, -2, rfl, dW_t, fun z => h1 _ (if_neg fun q => by rw [decide_eq_true q.1, decide_eq_true q.2] at z; cases z)⟩) fun hb H2 ok2 => ?_
      rw [Bool.and_eq_true] at hb
      have b1 := of_decide_eq_true hb.1
      have b2 := of_decide_eq_true hb.2
      have h2 := h2 _ (if_pos ⟨b1, b2⟩)
      obtain ⟨n, rfl⟩ : ∃ n : Nat, i = (n : Int) := ⟨i.toNat, by omega⟩
      rw [Int.toNat_natCast] at h2
      have hn1 : n < fam.pieces.length := by omega
      have hn2 : n < fam.covers.length := by rw [← Pf.pc]; exact hn1
      obtain ⟨p, hp⟩ : ∃ p, p = fam.pieces.getD n ⟨[], 0, false, false⟩ := ⟨_, rfl⟩
      have hpm : p ∈ fam.pieces := by
        rw [hp, List.getD_eq_getElem?_getD, List.getElem?_eq_getElem hn1]
        exact List.getElem_mem hn1
      have hcl := chunk_len (hpl p hpm)
      rw [← hp] at h2
      refine st_setLc C 4 [("sign", 5)] ok2 er (l := chunkF p) (enc := fun c => dU [c]) (is := [5]) (f := fun c => [some (eKp cK cL cW h), some (dI m), some (dNat n), some (eFam cF fam), none, some (dU [c])]) (t := fun _ => true) (g := fun c => dNat c.toNat)
        (gi_U (g_call C M.chunkOf (a_cons (g_ixL C (g_at C M.fF 1 (g_var C 3)) (g_var C 2) rfl (map_get (g := ePc) (d := ⟨[], 0, false, false⟩) hn1)) a_nil) ⟨p, by rw [hp], hpl p hpm, rfl⟩)) (by decide +kernel) (by rw [sizeLine_eq]; omega) (by simp)
        (fun c hc => gg_name (C.blk _ rfl) 5) (fun c hc => ts_nil)
        (fun c hc ht => g_ord (C.blk _ rfl) M.bi.ord (g_var (C.blk _ rfl) 5)) fun H3 σ3 ok3 => ?_
      have ec : (((chunkF p).filter fun _ => true).map fun c => dNat c.toNat) = (natsI ((chunkF p).map UInt8.toNat)).map fun i => dI i := by
        rw [filter_yes, natsI, List.map_map, List.map_map]
        rfl
      rw [ec] at ok3
      have hm : fam.covers.getD n 0 < 2 ^ fam.goals.length := Pf.lt _ (getD_mem hn2)
      have n9 := Pf.n9
      have hbl : (natsI (bitsOf fam.goals.length (fam.covers.getD n 0))).length ≤ 9 := by
        unfold natsI bitsOf
        rw [List.length_map]
        refine Nat.le_trans (List.length_filter_le _ _) ?_
        rw [List.length_range]
        exact n9
      have hcl2 : (natsI ((chunkF p).map UInt8.toNat)).length ≤ 19 := by unfold natsI; rw [List.length_map, List.length_map]; exact hcl
      refine st_ret ok3 er (g_catI C (g_lnI C M.listed (g_var C 4) (by omega)) (g_lnI C M.listed (gcast (g_call C M.numbersIn (a_cons (g_ixL C (g_at C M.fF 2 (g_var C 3)) (g_var C 2) rfl (map_get (g := fun m => dNat m) (d := 0) hn2)) a_nil) ⟨_, fam.goals.length, rfl, hm, by omega, rfl⟩) (dLi_nat _)) (by omega)) (by rw [lnF_len, lnF_len]; omega)) fun v H' => hr _ v H' h2
end
end Lp
namespace Lp
open PySem PySem.Spec PyProof.Rows L2 Tr
open Vahypa (Word Lst)
def patP (n : Nat) : List Vahypa.Pat := List.replicate n ⟨false, [], false, []⟩
def lstOf (r : Rd4) : Lst := ⟨r.1, r.2.1, r.2.2.1, patP r.2.2.2⟩
theorem eLs_lst (cL cW : Addr) (r : Rd4) : eLs cL cW r = eLst cL cW (lstOf r) := by
  show dO cL nsL [dNat r.1, dNat r.2.1, dL (r.2.2.1.map (eWord cW)), dNat r.2.2.2] = dO cL nsL [dNat r.1, dNat r.2.1, dL (r.2.2.1.map (eWord cW)), dNat (patP r.2.2.2).length]
  unfold patP
  rw [List.length_replicate]
def loadH (h : Option Lst) (b : List UInt8) : Option Lst := match readF b with
  | .inl _ => h
  | .inr r => some (lstOf r)
def loadT (b : List UInt8) : List Int := match readF b with
  | .inl (c, p) => [0, (c : Int), (p : Int)]
  | .inr r => [1, (r.2.2.1.length : Int), (r.2.2.2 : Int)]
section
variable {P : Program} {w : World} {K : PySem.W.Frag} {mg : Str → Option Value} {base : Heap} {f : Addr} {fd : FuncData} {cK cL cW cX cF cE fE : Addr}
theorem ts3 {C a dd : Addr} {i : Nat} {f g : Str} {fs : List (Str × V)} {v1 v2 : V} {Dn : Ends} {σ : Sg} {H : Hp} (hs : σ[i]? = some (some (V.ref a))) (hd : H dd = some (.xd fs)) (h1 : fs.lookup f = some v1) (h2 : fs.lookup g = some v2) (hq : ∀ l, H l = none → Dn.rt (.ref l) (upd H l (.lst [.int 0, v1, v2]))) :
    tSeq (tRet (tLst (tCons (tC (.int 0)) (tCons (tExf C a (.ref C) (some dd) f (tVar i)) (tCons (tExf C a (.ref C) (some dd) g (tVar i)) tNil))))) tNext Dn σ H :=
  ⟨_, hs, rfl, rfl, dd, _, _, rfl, hd, h1, _, hs, rfl, rfl, dd, _, _, rfl, hd, h2, le_line (Nat.le_of_ble_eq_true rfl), hq⟩
theorem ts1 {C a dd : Addr} {i : Nat} {f : Str} {fs : List (Str × V)} {v1 : V} {Dn : Ends} {σ : Sg} {H : Hp} (hs : σ[i]? = some (some (V.ref a))) (hd : H dd = some (.xd fs)) (h1 : fs.lookup f = some v1) (hq : ∀ l, H l = none → Dn.rt (.ref l) (upd H l (.lst [v1]))) :
    tSeq (tRet (tLst (tCons (tExf C a (.ref C) (some dd) f (tVar i)) tNil))) tNext Dn σ H :=
  ⟨_, hs, rfl, rfl, dd, _, _, rfl, hd, h1, le_line (Nat.le_of_ble_eq_true rfl), hq⟩
theorem ev_at {X : CS} {E : XK} {ex : Er → Prop} {ss : List (Option D)} {S : List Addr} {H : Hp} {σ : Sg} {e : Expr} {d : D} (ok : Ok S H σ ss) (er : Errs E ex H) (g : Ge X E ex ss e d) : Ev X S H σ e d := fun Q h => g _ H σ ok er Q h
abbrev oKp (cK cL cW : Addr) (h : Option Lst) : OD := oI cK nsK [eHeld cL cW h]
theorem sc_load : FnScope ["self", "text", "e"] ["self", "text"] (defScope (sKp 1)) := ⟨rfl, rfl, rfl, by decide +kernel, rfl, by decide +kernel, by decide +kernel⟩
def A_load (cK cL cW : Addr) : PrO := fun o ds kr _ => ∃ (h : Option Lst) (b : List UInt8), o = [oKp cK cL cW h] ∧ ds = [eB b] ∧ b.length ≤ 10000 ∧ kr [oKp cK cL cW (loadH h b)] (dLi (loadT b))
theorem ok_load (B : Bi mg) (FK : Fld K cK nsK) (FL : Fld K cL nsL) (TF : ExT K mg "Fault" cE fE ["code", "place"]) (hR : Has P w K mg base (L2.CX P w) 8 "read_list" (A_read_list cE cL cW)) (F : Fun K "load" "Keeper.load" (sKp 1) f fd) : FnOk P w K mg base (L2.CX P w) 9 f fd ["self", "text"] (spO (A_load cK cL cW)) := by
  refine def_okO F sc_load (fun o ds kr ke h => ?_) fun X E C Tp S q H σ o ds kr ke hA hq ok er Dn hr hn => ?_
  · obtain ⟨h, b, rfl, rfl, _⟩ := h
    rfl
  · obtain ⟨h, b, rfl, rfl, hz, hk⟩ := hA
    obtain ⟨p, rfl⟩ := one_of hq
    have ok : Okf (wd [p] H) S [p] H σ [none, some (eB b), none] [(0, oKp cK cL cW h)] := ok
    refine st_try C Tp 2 (ts := fun a cls d => tSeq (tRet (tLst (tCons (tC (.int 0)) (tCons (tExf cE a cls d "code" (tVar 2)) (tCons (tExf cE a cls d "place" (tVar 2)) tNil))))) tNext) TF.gC (fun y hy a oe cls d pn hz' hf => ?_) fun X' C' => ?_
    · have T : ExT y.K mg "Fault" cE fE ["code", "place"] := by rw [C.frag y hy]; exact TF
      have hN : (y.suite a ((a, oe) :: pn)).N[2]? = some ("e" : Str) := by show y.N[2]? = _; rw [C.slots y hy]; rfl
      exact pss_cons (ps_ret (pe_lst (pa_cons pe_int (pa_cons (pe_exf T (by decide) hz' hf (pe_var hN (C.vis y hy _ (.inl rfl)))) (pa_cons (pe_exf T (by decide) hz' hf (pe_var hN (C.vis y hy _ (.inl rfl)))) pa_nil))))) pss_nil
    · cases hb : readF b with
      | inl cp =>
        obtain ⟨c, pl⟩ := cp
        have e1 : loadH h b = h := by unfold loadH; rw [hb]
        have e2 : loadT b = [0, (c : Int), (pl : Int)] := by unfold loadT; rw [hb]
        rw [e1, e2] at hk
        refine st_fldPut C' 0 ok (d := dX) (ev_at (ex := fun er => er = erF cE c pl) ok.ok ?_ (g_callX C' hR (a_cons (g_var C' 1) a_nil) ⟨b, rfl, hz, fun c' p' hh => (by rw [hb] at hh; cases hh; rfl), fun r hh => (by rw [hb] at hh; cases hh)⟩)) FK.cl (FK.na _ (by decide)) fun H1 ok1 => ?_
        · rintro er' dd H' rfl sm hd σ' hσ
          refine ⟨true, TF.te, fun _ a ha => ?_, fun z => by cases z⟩
          have hs2 : (σ'.set 2 (some (V.ref a)))[2]? = some (some (V.ref a)) := List.getElem?_set_self (by rw [hσ]; decide)
          refine ts3 hs2 hd (v1 := .int c) (v2 := .int pl) rfl rfl fun l hl => ?_
          have ok2 := (ok.up sm).up (Same.new hl (o := .lst [.int 0, .int c, .int pl]))
          exact hr [oKp cK cL cW h] (dLi [0, (c : Int), (pl : Int)]) _ _ σ _ hk ok2 (new_L (ok.up sm).ok.hid hl ⟨rfl, rfl, rfl, trivial⟩)
        · obtain ⟨_, ⟨u, _, dx, fvs, _, r⟩, _⟩ := ok1.own
          cases fvs with
          | nil => exact r.elim
          | cons _ _ => exact False.elim r.1
      | inr r =>
        have e1 : loadH h b = some (lstOf r) := by unfold loadH; rw [hb]
        have e2 : loadT b = [1, (r.2.2.1.length : Int), (r.2.2.2 : Int)] := by unfold loadT; rw [hb]
        rw [e1, e2] at hk
        refine st_fldPut C' 0 ok (d := eLs cL cW r) (ev_at (ex := fun _ => False) ok.ok Errs.none (g_callX C' hR (a_cons (g_var C' 1) a_nil) ⟨b, rfl, hz, fun c' p' hh => (by rw [hb] at hh; cases hh), fun r' hh => (by rw [hb] at hh; cases hh; rfl)⟩)) FK.cl (FK.na _ (by decide)) fun H1 ok1 => ?_
        refine st_nil ?_
        have ok1 : Okf (wd [p] H) S [p] H1 σ [none, some (eB b), none] [(0, oI cK nsK [eLs cL cW r])] := ok1
        refine so_retS ok1 (ev_seen ok1 er oI_dO oI_is (d := dLi [1, (r.2.2.1.length : Int), (r.2.2.2 : Int)]) (g_list (a_cons g_int (a_cons (g_lenLi C B.len (g_at C FL 2 (g_at C FK 0 (g_var C 0)))) (a_cons (g_at C FL 3 (g_at C FK 0 (g_var C 0))) a_nil)))) (free_Ls (f := fun (i : Int) => V.int i))) fun v H2 ok2 pv => ?_
        rw [eLs_lst] at ok2
        exact hr [oKp cK cL cW (some (lstOf r))] _ v H2 σ _ hk ok2 pv
end
end Lp
namespace Lp
open PySem PySem.Spec PyProof.Rows L2 Tr
open Vahypa (Word Lst)
def toldD : Told → D
  | .inl _ => dX
  | .inr l => dLi l
def toldF (h : Option Lst) (c : Int) (n row : List Int) : Told :=
  if c = 1 then goalsTold h else if c = 2 then withF h (n.getD 0 0) famTold else if c = 3 then withF h (n.getD 0 0) (pieceTold (n.getD 1 0)) else if c = 4 then withF h (n.getD 0 0) (leastTold (n.getD 1 0))
  else if c = 5 then withF h (n.getD 0 0) greedTold else if c = 6 then withF h (n.getD 0 0) boundTold else withF h (n.getD 0 0) (checkTold row)
def ansF (h : Option Lst) (c : Int) (n row : List Int) : List Int := match toldF h c n row with
  | .inl e => [e]
  | .inr l => l
structure HasKr (P : Program) (w : World) (K : PySem.W.Frag) (mg : Str → Option Value) (base : Heap) (cK cL cW cX fX : Addr) : Prop where
  tx : ExT K mg "Refused" cX fX ["code"]
  load : HasMO P w K mg base 9 cK "load" (A_load cK cL cW)
  goals : HasM P w K mg base (L2.CX P w) 5 cK "goals_told" (A_goals_told cK cL cW cX)
  family : HasM P w K mg base (L2.CX P w) 8 cK "family" (A_fam cK cL cW cX famTold)
  piece : HasM P w K mg base (L2.CX P w) 8 cK "piece" (A_piece cK cL cW cX)
  least : HasM P w K mg base (L2.CX P w) 8 cK "least" (A_least cK cL cW cX)
  greedy : HasM P w K mg base (L2.CX P w) 8 cK "greedy" (A_fam cK cL cW cX greedTold)
  bound : HasM P w K mg base (L2.CX P w) 8 cK "bound" (A_fam cK cL cW cX boundTold)
  check : HasM P w K mg base (L2.CX P w) 8 cK "check" (A_check cK cL cW cX)
section
variable {P : Program} {w : World} {K : PySem.W.Frag} {mg : Str → Option Value} {base : Heap} {f : Addr} {fd : FuncData} {cK cL cW cX cF cE fX : Addr}
section
variable {X : CS} {N : List Str} {kd : Str → Option NameKind} {k j : Nat} {E : XK} {ex : Er → Prop} {ss : List (Option D)} {pos p1 p2 apos : Pos} {a e b : Expr} {B : Hp} {S q : List Addr} {H : Hp} {σ : Sg} {o : Ow} {Dn : Ends} {r : List Stmt}
theorem t_eqI {i j : Int} (ha : Ge X E ex ss a (dI i)) (hb : Ge X E ex ss b (dI j)) : Gt X E ex ss (.Compare a [.Eq] [b] pos) (decide (i = j)) := tcast (t_eq ha hb) (by rw [decide_eq_decide]; exact ⟨fun h => (by injection h), fun h => by rw [h]⟩)
theorem st_retT {t : Told} (ok : Okf B S q H σ ss o) (er : Errs E ex B) (g : Ge X E ex ss e (toldD t)) (h : ∀ x, t = .inr x → ∀ v H', Same B H' → (dLi x).p (wd S H') v → Dn.rt v H') : wpS X (.Return (some e) pos :: r) Dn σ H :=
  st_ret ok er g fun v H' s pv => by
    cases t with
    | inl c => exact False.elim pv
    | inr x => exact h x rfl v H' s pv
end
theorem sc_told : FnScope ["keeper", "call", "n", "row"] ["keeper", "call", "n", "row"] (defScope (top 83)) := ⟨rfl, rfl, rfl, by decide +kernel, rfl, by decide +kernel, by decide +kernel⟩
def A_toldO (cK cL cW : Addr) : PrO := fun o ds kr _ => ∃ (h : Option Lst) (n : List Int) (b : List UInt8), o = [oKp cK cL cW h] ∧ ds = [dI 0, dLi n, eB b] ∧ b.length ≤ 10000 ∧ kr [oKp cK cL cW (loadH h b)] (dLi (loadT b))
theorem ok_toldO (M : HasKr P w K mg base cK cL cW cX fX) (F : Fun K "told" "told" (top 83) f fd) : FnOk P w K mg base (L2.CX P w) 10 f fd ["keeper", "call", "n", "row"] (spO (A_toldO cK cL cW)) := by
  refine def_okO F sc_told (fun o ds kr ke h => ?_) fun X E C Tp S q H σ o ds kr ke hA hq ok er Dn hr hn => ?_
  · obtain ⟨h, n, b, rfl, rfl, _⟩ := h
    rfl
  · obtain ⟨h, n, b, rfl, rfl, hz, hk⟩ := hA
    obtain ⟨p, rfl⟩ := one_of hq
    have ok : Okf (wd [p] H) S [p] H σ [none, some (dI 0), some (dLi n), some (eB b)] [(0, oKp cK cL cW h)] := ok
    refine st_if (t := true) ok er (tcast (t_eqI (g_var C 1) g_int) rfl) (fun _ H1 ok1 => ?_) fun z => by cases z
    refine so_ret (evO_meth C M.load ok1 er (a_cons (g_var C 3) a_nil) (R1 := fun o' d => o' = [oKp cK cL cW (loadH h b)] ∧ d = dLi (loadT b)) ⟨h, b, rfl, rfl, hz, rfl, rfl⟩) fun v H2 o' d hR ok2 pv => ?_
    obtain ⟨od', ⟨h1, h2⟩, rfl⟩ := hR
    cases h1
    subst h2
    exact hr _ _ v H2 _ _ hk ok2 pv
structure CallOk (h : Option Lst) (c : Int) (n row : List Int) : Prop where
  lo : 1 ≤ c
  hi : c ≤ 7
  n1 : 2 ≤ c → 1 ≤ n.length
  n2 : c = 3 ∨ c = 4 → 2 ≤ n.length
  row : row.length ≤ 100000
  ph : PreH h
def A_told (cK cL cW cX : Addr) : Pr := fun ds kr ke => ∃ (h : Option Lst) (c : Int) (n row : List Int), ds = [eKp cK cL cW h, dI c, dLi n, dLi row] ∧ CallOk h c n row ∧ (∀ e, toldF h c n row = .inl e → ke (erK cX e)) ∧ (∀ x, toldF h c n row = .inr x → kr (dLi x))
theorem ok_told (M : HasKr P w K mg base cK cL cW cX fX) (F : Fun K "told" "told" (top 83) f fd) : FnOk P w K mg base (L2.CX P w) 10 f fd ["keeper", "call", "n", "row"] (spT (A_told cK cL cW cX)) := by
  refine def_okX F sc_told (fun ds kr ke h => ?_) fun X E C S H σ ds kr ke hA ok er Dn hr hn => ?_
  · obtain ⟨h, c, n, row, rfl, _⟩ := h
    rfl
  · obtain ⟨h, c, n, row, rfl, O, h1, h2⟩ := hA
    have hm := O.lo
    have hM := O.hi
    refine st_if ok er (t_eqI (g_var C 1) g_int) (fun z => absurd (of_decide_eq_true z) (by omega)) fun _ H1 ok1 => ?_
    refine st_nil ?_
    refine st_if ok1 er (t_eqI (g_var C 1) g_int) (fun z H2 ok2 => ?_) fun z H2 ok2 => st_nil ?_
    · have z := of_decide_eq_true z
      have e : toldF h c n row = goalsTold h := if_pos z
      rw [e] at h1 h2
      exact st_retT (t := goalsTold h) ok2 er (g_methX0 C M.goals (g_var C 0) ⟨h, rfl, O.ph, h1, fun x e => by rw [e]; rfl⟩) fun x e v H' => hr _ v H' (h2 x e)
    have z1 := of_decide_eq_false z
    refine st_if ok2 er (t_eqI (g_var C 1) g_int) (fun z H3 ok3 => ?_) fun z H3 ok3 => st_nil ?_
    · have z := of_decide_eq_true z
      have e : toldF h c n row = withF h (n.getD 0 0) famTold := by unfold toldF; rw [if_neg z1, if_pos z]
      rw [e] at h1 h2
      exact st_retT (t := withF h (n.getD 0 0) famTold) ok3 er (g_methX C M.family (g_var C 0) (a_cons (g_ixL C (g_var C 2) g_int rfl (map_get (g := fun i => dI i) (d := 0) (O.n1 (by omega)))) a_nil) ⟨h, _, rfl, O.ph, h1, fun x e => by rw [e]; rfl⟩) fun x e v H' => hr _ v H' (h2 x e)
    have z2 := of_decide_eq_false z
    refine st_if ok3 er (t_eqI (g_var C 1) g_int) (fun z H4 ok4 => ?_) fun z H4 ok4 => st_nil ?_
    · have z := of_decide_eq_true z
      have e : toldF h c n row = withF h (n.getD 0 0) (pieceTold (n.getD 1 0)) := by unfold toldF; rw [if_neg z1, if_neg z2, if_pos z]
      rw [e] at h1 h2
      exact st_retT (t := withF h (n.getD 0 0) (pieceTold (n.getD 1 0))) ok4 er (g_methX C M.piece (g_var C 0) (a_cons (g_ixL C (g_var C 2) g_int rfl (map_get (g := fun i => dI i) (d := 0) (O.n1 (by omega)))) (a_cons (g_ixL C (g_var C 2) g_int rfl (map_get (g := fun i => dI i) (d := 0) (O.n2 (by omega)))) a_nil)) ⟨h, _, _, rfl, O.ph, h1, fun x e => by rw [e]; rfl⟩) fun x e v H' => hr _ v H' (h2 x e)
    have z3 := of_decide_eq_false z
    refine st_if ok4 er (t_eqI (g_var C 1) g_int) (fun z H5 ok5 => ?_) fun z H5 ok5 => st_nil ?_
    · have z := of_decide_eq_true z
      have e : toldF h c n row = withF h (n.getD 0 0) (leastTold (n.getD 1 0)) := by unfold toldF; rw [if_neg z1, if_neg z2, if_neg z3, if_pos z]
      rw [e] at h1 h2
      exact st_retT (t := withF h (n.getD 0 0) (leastTold (n.getD 1 0))) ok5 er (g_methX C M.least (g_var C 0) (a_cons (g_ixL C (g_var C 2) g_int rfl (map_get (g := fun i => dI i) (d := 0) (O.n1 (by omega)))) (a_cons (g_ixL C (g_var C 2) g_int rfl (map_get (g := fun i => dI i) (d := 0) (O.n2 (by omega)))) a_nil)) ⟨h, _, _, rfl, O.ph, h1, fun x e => by rw [e]; rfl⟩) fun x e v H' => hr _ v H' (h2 x e)
    have z4 := of_decide_eq_false z
    refine st_if ok5 er (t_eqI (g_var C 1) g_int) (fun z H6 ok6 => ?_) fun z H6 ok6 => st_nil ?_
    · have z := of_decide_eq_true z
      have e : toldF h c n row = withF h (n.getD 0 0) greedTold := by unfold toldF; rw [if_neg z1, if_neg z2, if_neg z3, if_neg z4, if_pos z]
      rw [e] at h1 h2
      exact st_retT (t := withF h (n.getD 0 0) greedTold) ok6 er (g_methX C M.greedy (g_var C 0) (a_cons (g_ixL C (g_var C 2) g_int rfl (map_get (g := fun i => dI i) (d := 0) (O.n1 (by omega)))) a_nil) ⟨h, _, rfl, O.ph, h1, fun x e => by rw [e]; rfl⟩) fun x e v H' => hr _ v H' (h2 x e)
    have z5 := of_decide_eq_false z
    refine st_retT (t := toldF h c n row) ok6 er (g_if (t_eqI (g_var C 1) g_int) (fun z => ?_) fun z => ?_) fun x e v H' => hr _ v H' (h2 x e)
    · have z := of_decide_eq_true z
      have e : toldF h c n row = withF h (n.getD 0 0) boundTold := by unfold toldF; rw [if_neg z1, if_neg z2, if_neg z3, if_neg z4, if_neg z5, if_pos z]
      rw [e] at h1 h2 ⊢
      exact g_methX C M.bound (g_var C 0) (a_cons (g_ixL C (g_var C 2) g_int rfl (map_get (g := fun i => dI i) (d := 0) (O.n1 (by omega)))) a_nil) ⟨h, _, rfl, O.ph, h1, fun x e => by rw [e]; rfl⟩
    · have z := of_decide_eq_false z
      have e : toldF h c n row = withF h (n.getD 0 0) (checkTold row) := by unfold toldF; rw [if_neg z1, if_neg z2, if_neg z3, if_neg z4, if_neg z5, if_neg z]
      rw [e] at h1 h2 ⊢
      exact g_methX C M.check (g_var C 0) (a_cons (g_ixL C (g_var C 2) g_int rfl (map_get (g := fun i => dI i) (d := 0) (O.n1 (by omega)))) (a_cons (g_var C 3) a_nil)) ⟨h, _, row, rfl, O.row, O.ph, h1, fun x e => by rw [e]; rfl⟩
end
end Lp
namespace Lp
open PySem PySem.Spec PyProof.Rows L2 Tr
open Vahypa (Word Lst)
section
variable {P : Program} {w : World} {K : PySem.W.Frag} {mg : Str → Option Value} {base : Heap} {f : Addr} {fd : FuncData} {cK cL cW cX cF cE fX : Addr}
theorem sc_answer : FnScope ["keeper", "call", "n", "row", "e"] ["keeper", "call", "n", "row"] (defScope (top 84)) := ⟨rfl, rfl, rfl, by decide +kernel, rfl, by decide +kernel, by decide +kernel⟩
theorem su_answer {X : CS} {kd : Str → Option NameKind} {N : List Str} {k : Nat} {E : XK} (C : Ctx X P w K mg base N kd k E) (TX : ExT K mg "Refused" cX fX ["code"]) (hN : N[4]? = some ("e" : Str)) (hl : kd "e" = some .local) {p1 p2 p3 p4 : Pos} (y : Cx) (hy : X y) (a : Addr) (oe : Obj) (cls : Value) (d : Option Addr) (pn : List (Addr × Obj)) (hz : Zc cls d oe) (hf : ∃ vs, oe.data = .fields vs) :
    PSs (y.suite a ((a, oe) :: pn)) [.Return (some (.List [.Attribute (.Name "e" p1) "code" p2] p3)) p4] (tSeq (tRet (tLst (tCons (tExf cX a cls d "code" (tVar 4)) tNil))) tNext) := by
  have T : ExT y.K mg "Refused" cX fX ["code"] := by rw [C.frag y hy]; exact TX
  have hN : (y.suite a ((a, oe) :: pn)).N[4]? = some ("e" : Str) := by show y.N[4]? = _; rw [C.slots y hy]; exact hN
  exact pss_cons (ps_ret (pe_lst (pa_cons (pe_exf T (by decide) hz hf (pe_var hN (C.vis y hy _ (.inl hl)))) pa_nil))) pss_nil
def A_answerO (cK cL cW : Addr) : PrO := A_toldO cK cL cW
theorem ok_answerO (TX : ExT K mg "Refused" cX fX ["code"]) (hT : HasO P w K mg base 10 "told" (A_toldO cK cL cW)) (F : Fun K "answer" "answer" (top 84) f fd) : FnOk P w K mg base (L2.CX P w) 11 f fd ["keeper", "call", "n", "row"] (spO (A_answerO cK cL cW)) := by
  refine def_okO F sc_answer (fun o ds kr ke h => ?_) fun X E C Tp S q H σ o ds kr ke hA hq ok er Dn hr hn => ?_
  · obtain ⟨h, n, b, rfl, rfl, _⟩ := h
    rfl
  · obtain ⟨h, n, b, rfl, rfl, hz, hk⟩ := hA
    obtain ⟨p, rfl⟩ := one_of hq
    have ok : Okf (wd [p] H) S [p] H σ [none, some (dI 0), some (dLi n), some (eB b), none] [(0, oKp cK cL cW h)] := ok
    refine st_try C Tp 4 TX.gC (su_answer C TX rfl rfl) fun X' C' => ?_
    refine so_ret (evO_call C' hT ok (ex := fun _ => False) Errs.none (a_cons (g_var C' 1) (a_cons (g_var C' 2) (a_cons (g_var C' 3) a_nil))) (R1 := fun o' d => o' = [oKp cK cL cW (loadH h b)] ∧ d = dLi (loadT b)) ⟨h, n, b, rfl, rfl, hz, rfl, rfl⟩) fun v H2 o' d hR ok2 pv => ?_
    obtain ⟨od', ⟨h1, h2⟩, rfl⟩ := hR
    cases h1
    subst h2
    exact hr _ _ v H2 _ _ hk ok2 pv
def A_answer (cK cL cW : Addr) : Pr := fun ds kr _ => ∃ (h : Option Lst) (c : Int) (n row : List Int), ds = [eKp cK cL cW h, dI c, dLi n, dLi row] ∧ CallOk h c n row ∧ kr (dLi (ansF h c n row))
theorem ok_answer (TX : ExT K mg "Refused" cX fX ["code"]) (hT : Has P w K mg base (L2.CX P w) 10 "told" (A_told cK cL cW cX)) (F : Fun K "answer" "answer" (top 84) f fd) : FnOk P w K mg base (L2.CX P w) 11 f fd ["keeper", "call", "n", "row"] (spT (A_answer cK cL cW)) := by
  refine def_okXT F sc_answer (fun ds kr ke h => ?_) fun X E C Tp S H σ ds kr ke hA ok er Dn hr hn => ?_
  · obtain ⟨h, c, n, row, rfl, _⟩ := h
    rfl
  · obtain ⟨h, c, n, row, rfl, O, hk⟩ := hA
    refine st_try C Tp 4 TX.gC (su_answer C TX rfl rfl) fun X' C' => ?_
    cases ht : toldF h c n row with
    | inl e =>
      have e1 : ansF h c n row = [e] := by unfold ansF; rw [ht]
      rw [e1] at hk
      refine se_ret ok (d := dX) (ev_at (ex := fun er => er = erK cX e) ok.ok ?_ (g_callX C' hT (a_cons (g_var C' 0) (a_cons (g_var C' 1) (a_cons (g_var C' 2) (a_cons (g_var C' 3) a_nil)))) ⟨h, c, n, row, rfl, O, fun e' he => (by rw [ht] at he; cases he; rfl), fun x hx => (by rw [ht] at hx; cases hx)⟩)) fun v H' _ pv => False.elim pv
      rintro er' dd H' rfl sm hd σ' hσ
      refine ⟨true, TX.te, fun _ a ha => ?_, fun z => by cases z⟩
      have hs2 : (σ'.set 4 (some (V.ref a)))[4]? = some (some (V.ref a)) := List.getElem?_set_self (by rw [hσ]; decide)
      refine ts1 hs2 hd (v1 := .int e) rfl fun l hl => ?_
      exact hr (dLi [e]) _ _ hk ((ok.up sm).up (Same.new hl (o := .lst [.int e]))).ex (new_L (ok.up sm).ok.hid hl ⟨rfl, trivial⟩)
    | inr x =>
      have e1 : ansF h c n row = x := by unfold ansF; rw [ht]
      rw [e1] at hk
      exact se_ret ok (d := dLi x) (ev_at (ex := fun _ => False) ok.ok Errs.none (g_callX C' hT (a_cons (g_var C' 0) (a_cons (g_var C' 1) (a_cons (g_var C' 2) (a_cons (g_var C' 3) a_nil)))) ⟨h, c, n, row, rfl, O, fun e' he => (by rw [ht] at he; cases he), fun y hy => (by rw [ht] at hy; cases hy; rfl)⟩)) fun v H' => hr _ v H' hk
end
end Lp
namespace Lp
open PySem PySem.Spec PyProof.Rows L2 Tr
open VahypBase (isLetter isDigit inChunk isBlank)
open Vahypa (Word Lst)
open Vahypc (hasBit lowest Goal Choice better Cand slim putCand)
theorem flat_ge {α : Type} : ∀ {l : List (List α)}, (∀ x ∈ l, x ≠ []) → l.length ≤ l.flatten.length
  | [], _ => Nat.le_refl _
  | x :: l, h => by
    have h1 := flat_ge (l := l) fun y hy => h y (List.mem_cons_of_mem _ hy)
    have h2 : 0 < x.length := List.length_pos_iff.mpr (h x List.mem_cons_self)
    rw [List.flatten_cons, List.length_append, List.length_cons]
    omega
theorem gapsL_length : ∀ (l : List (List UInt8)) (a : Nat), (gapsL a l).length = l.length
  | [], _ => rfl
  | x :: l, a => by
    unfold gapsL
    rw [List.length_cons, List.length_cons, gapsL_length l]
theorem wordF_ok {b : List UInt8} {v : Word} (h : wordF b = some v) : v.x.length ≤ 16 ∧ v.cuts.length ≤ 16 := by
  unfold wordF at h
  dsimp only at h
  split at h
  · rename_i h1
    split at h
    · rename_i h2
      cases h
      refine ⟨h2.2, ?_⟩
      show (gapsL 0 (splB 45 [] b).dropLast).length ≤ 16
      rw [gapsL_length, List.length_dropLast]
      have := flat_ge (l := splB 45 [] b) fun x hx z => by
        have := List.all_eq_true.mp h1 x hx
        rw [z] at this
        simp at this
      omega
    · cases h
  · cases h
theorem stepW_word {ts : List Tk} {a : Nat} {ws : List Word} {v : Word} {a' : Nat} (h : stepW ts a ws = .inr (v, a')) : ws.length < 24 ∧ v.x.length ≤ 16 ∧ v.cuts.length ≤ 16 := by
  unfold stepW at h
  split at h
  · cases h
  · rename_i h1
    split at h
    · cases h
    · split at h
      · cases h
      · split at h
        · cases h
        · rename_i v' hv
          split at h
          · cases h
          · split at h
            · cases h
            · cases h
              exact ⟨by omega, wordF_ok hv⟩
theorem loopW_word {ts : List Tk} : ∀ (n a : Nat) (ws ws' : List Word) (a' : Nat), loopW ts n a ws = .inr (ws', a') → ws.length ≤ 24 → (∀ v ∈ ws, v.x.length ≤ 16 ∧ v.cuts.length ≤ 16) → ws'.length ≤ 24 ∧ ∀ v ∈ ws', v.x.length ≤ 16 ∧ v.cuts.length ≤ 16
  | 0, a, ws, ws', a', h, h1, h2 => by
    cases h
    exact ⟨h1, h2⟩
  | n + 1, a, ws, ws', a', h, h1, h2 => by
    unfold loopW at h
    split at h
    · split at h
      · cases h
      · rename_i v a2 hs
        obtain ⟨q1, q2⟩ := stepW_word hs
        refine loopW_word n _ _ _ _ h ?_ fun x hx => ?_
        · rw [List.length_append, List.length_singleton]
          omega
        · rcases List.mem_append.mp hx with z | z
          · exact h2 x z
          · rw [List.mem_singleton.mp z]
            exact q2
    · cases h
      exact ⟨h1, h2⟩
theorem readF_words {b : List UInt8} {r : Rd4} (h : readF b = .inr r) : r.2.2.1.length ≤ 24 ∧ ∀ v ∈ r.2.2.1, v.x.length ≤ 16 ∧ v.cuts.length ≤ 16 := by
  unfold readF at h
  split at h
  · cases h
  · split at h
    · cases h
    · unfold wholeF at h
      split at h
      · cases h
      · split at h
        · cases h
        · split at h
          · cases h
          · split at h
            · cases h
            · unfold restF at h
              split at h
              · cases h
              · rename_i ws a hw
                split at h
                · cases h
                · split at h
                  · cases h
                    exact loopW_word _ _ _ _ _ hw (Nat.zero_le _) fun v hv => by cases hv
                  · cases h
theorem preH_load {h : Option Lst} {b : List UInt8} (ph : PreH h) : PreH (loadH h b) := by
  unfold loadH
  cases e : readF b with
  | inl _ => exact ph
  | inr r =>
    intro s hs
    cases hs
    obtain ⟨h1, h2⟩ := readF_words e
    exact ⟨h1, fun v hv => (h2 v hv).1, fun v hv => (h2 v hv).2⟩
/-! ### no answer is long -/
theorem goalI_len (g : Goal) : (goalI g).length = 2 := rfl
theorem setTold_len (fam : Fam) (l : List Nat) : (setTold fam l).length = l.length + 3 := by
  unfold setTold
  rw [List.length_append, lnF_len, natsI, List.length_map]
  simp only [List.length_cons, List.length_nil]
  omega
theorem lackT_len (fam : Fam) : (lackT fam).length ≤ 3 := by
  unfold lackT
  split <;> simp
theorem bits_len (n m : Nat) : (natsI (bitsOf n m)).length ≤ n := by
  unfold natsI bitsOf
  rw [List.length_map]
  refine Nat.le_trans (List.length_filter_le _ _) ?_
  rw [List.length_range]
  exact Nat.le_refl _
theorem leastKs_len {fam : Fam} (Pf : PreF fam) (kind : Nat) : (leastKs fam kind).length ≤ 512 := by
  unfold leastKs
  split
  · exact Nat.zero_le _
  · rename_i c hc
    cases e : (kn fam kind fam.goals.length (2 ^ fam.goals.length - 1))[0]? with
    | none => rw [e] at hc; cases hc
    | some o =>
      rw [e] at hc
      have hc : o = some c := hc
      subst hc
      have h1 := kn_kslen _ _ _ _ _ _ e
      have h9 : 2 ^ fam.goals.length ≤ 2 ^ 9 := Nat.pow_le_pow_right (by decide) Pf.n9
      omega
theorem withF_short {h : Option Lst} {m : Int} {k : Fam → Told} (ph : PreH h) (hk : ∀ fam, PreF fam → (∀ p ∈ fam.pieces, p.x.length ≤ 16) → ∀ l, k fam = .inr l → l.length ≤ 1000) : ∀ l, withF h m k = .inr l → l.length ≤ 1000 := by
  intro l hl
  unfold withF at hl
  cases e : famR h m with
  | inl c => rw [e] at hl; cases hl
  | inr r =>
    rw [e] at hl
    obtain ⟨Pf, Pl⟩ := fam_pre ph e
    exact hk _ Pf (fun p hp => pieces_len Pl hp) l hl
theorem ans_short {h : Option Lst} {c : Int} {n row : List Int} (ph : PreH h) : (ansF h c n row).length ≤ 1000 := by
  have key : ∀ l, toldF h c n row = .inr l → l.length ≤ 1000 := by
    intro l hl
    unfold toldF at hl
    split at hl
    · unfold goalsTold at hl
      split at hl
      · cases hl
      · rename_i s
        cases hl
        have := goals_len (ph s rfl)
        rw [List.length_cons, flatGoal]
        omega
    · split at hl
      · refine withF_short ph (fun fam Pf _ l hl => ?_) l hl
        unfold famTold at hl
        cases hl
        rw [List.length_append]
        split <;> simp
      · split at hl
        · refine withF_short ph (fun fam Pf hp l hl => ?_) l hl
          unfold pieceTold at hl
          split at hl
          · rename_i hi
            cases hl
            have hm : fam.pieces.getD (n.getD 1 0).toNat ⟨[], 0, false, false⟩ ∈ fam.pieces := by
              rw [List.getD_eq_getElem?_getD, List.getElem?_eq_getElem (by omega)]
              exact List.getElem_mem _
            have h1 := chunk_len (hp _ hm)
            have h2 := bits_len fam.goals.length (fam.covers.getD (n.getD 1 0).toNat 0)
            have h9 := Pf.n9
            rw [List.length_append, lnF_len, lnF_len, natsI, List.length_map, List.length_map]
            omega
          · cases hl
        · split at hl
          · refine withF_short ph (fun fam Pf hp l hl => ?_) l hl
            unfold leastTold at hl
            split at hl
            · cases hl
              have h1 := leastKs_len Pf (n.getD 1 0).toNat
              have h2 := lackT_len fam
              split
              · rw [setTold_len]; omega
              · omega
            · cases hl
          · split at hl
            · refine withF_short ph (fun fam Pf hp l hl => ?_) l hl
              unfold greedTold at hl
              cases hl
              have h2 := lackT_len fam
              obtain ⟨_, g2⟩ := gSet_ok fam (fam.goals.length + 1) [] (fun i hi => by cases hi)
              have h9 := Pf.n9
              rw [List.length_nil] at g2
              split
              · rw [setTold_len]; omega
              · omega
            · split at hl
              · refine withF_short ph (fun fam Pf hp l hl => ?_) l hl
                unfold boundTold at hl
                cases hl
                have h2 := bits_len fam.goals.length (boundM fam)
                have h9 := Pf.n9
                rw [lnF_len]
                omega
              · refine withF_short ph (fun fam Pf hp l hl => ?_) l hl
                unfold checkTold at hl
                split at hl
                · cases hl
                  unfold chkO
                  split <;> simp
                · cases hl
  unfold ansF
  split
  · simp
  · rename_i l hl
    exact key l hl
theorem loadT_len (b : List UInt8) : (loadT b).length = 3 := by
  unfold loadT
  split <;> rfl
end Lp
namespace Lp
open PySem PySem.Spec PyProof.Rows L2 Tr
open Vahypa (Word Lst)
/-! ### the calls in one list -/
def numsL : List Int := [0, 0, 1, 2, 2, 1, 1, 1]
def rowsL : List Int := [1, 0, 0, 0, 0, 0, 0, 1]
theorem shape_is {p : Int} {nn rr : Nat} (h : PyVahypc.shape p = some (nn, rr)) : 0 ≤ p ∧ p ≤ 7 ∧ numsL[p.toNat]? = some (nn : Int) ∧ rowsL[p.toNat]? = some (rr : Int) ∧ (rr = 0 ∨ rr = 1) ∧ (p = 0 → rr = 1) ∧ (2 ≤ p → 1 ≤ nn) ∧ (p = 3 ∨ p = 4 → 2 ≤ nn) := by
  unfold PyVahypc.shape at h
  split at h
  · rename_i e; subst e; cases h; decide
  split at h
  · rename_i e; subst e; cases h; decide
  split at h
  · rename_i e; subst e; cases h; decide
  split at h
  · rename_i e; subst e; cases h; decide
  split at h
  · rename_i e; subst e; cases h; decide
  split at h
  · rename_i e; subst e; cases h; decide
  split at h
  · rename_i e; subst e; cases h; decide
  split at h
  · rename_i e; subst e; cases h; decide
  · cases h
theorem calls_step {f : Nat} {p : Int} {r : List Int} {cs : List (List (List Int))} (h : PyFlat.calls PyVahypc.shape f (p :: r) = some cs) : ∃ f' c t cs', PyFlat.call PyVahypc.shape (p :: r) = some (c, t) ∧ PyFlat.calls PyVahypc.shape f' t = some cs' ∧ cs = c :: cs' := by
  cases f with
  | zero => cases h
  | succ f =>
    unfold PyFlat.calls at h
    cases e : PyFlat.call PyVahypc.shape (p :: r) with
    | none => rw [e] at h; cases h
    | some x =>
      obtain ⟨c, t⟩ := x
      rw [e] at h
      dsimp only at h
      cases e2 : PyFlat.calls PyVahypc.shape f t with
      | none => rw [e2] at h; cases h
      | some cs' =>
        rw [e2] at h
        cases h
        exact ⟨f, c, t, cs', rfl, e2, rfl⟩
theorem calls_nil {f : Nat} {cs : List (List (List Int))} (h : PyFlat.calls PyVahypc.shape f [] = some cs) : cs = [] := by
  cases f <;> cases h <;> rfl
theorem call_cut {p : Int} {r : List Int} {c : List (List Int)} {t : List Int} (h : PyFlat.call PyVahypc.shape (p :: r) = some (c, t)) : ∃ nn rr, PyVahypc.shape p = some (nn, rr) ∧ nn ≤ r.length ∧ (rr = 0 → c = [p :: r.take nn] ∧ t = r.drop nn) ∧
    (rr = 1 → ∃ z : Nat, r[nn]? = some (z : Int) ∧ z ≤ (r.drop (nn + 1)).length ∧ c = [p :: r.take nn, (r.drop (nn + 1)).take z] ∧ t = (r.drop (nn + 1)).drop z) := by
  unfold PyFlat.call at h
  dsimp only at h
  cases e : PyVahypc.shape p with
  | none => rw [e] at h; cases h
  | some x =>
    obtain ⟨nn, rr⟩ := x
    rw [e] at h
    dsimp only at h
    split at h
    · cases h
    · rename_i hn
      refine ⟨nn, rr, rfl, by omega, fun z => ?_, fun z => ?_⟩
      · subst z
        cases h
        exact ⟨rfl, rfl⟩
      · subst z
        unfold PyFlat.rows at h
        cases hd : r.drop nn with
        | nil =>
          rw [hd] at h
          cases h
        | cons z r2 =>
          rw [hd] at h
          have hlt : nn < r.length := by
            rcases Nat.lt_or_ge nn r.length with q | q
            · exact q
            · rw [List.drop_eq_nil_of_le q] at hd; cases hd
          rw [List.drop_eq_getElem_cons hlt] at hd
          injection hd with hz hr2
          unfold PyFlat.row at h
          dsimp only at h
          by_cases hc : 0 ≤ z ∧ z.toNat ≤ r2.length
          · rw [if_pos hc] at h
            unfold PyFlat.rows at h
            cases h
            refine ⟨z.toNat, ?_, by rw [hr2]; exact hc.2, by rw [hr2], by rw [hr2]⟩
            rw [List.getElem?_eq_getElem hlt, hz]
            congr 1
            omega
          · rw [if_neg hc] at h
            cases h
theorem cut_both {α : Type} {l : List α} {i j : Nat} (hi : i ≤ l.length) (hj : j ≤ l.length) : Tr.cutD l (some (i : Int)) (some (j : Int)) = (l.drop i).take (j - i) := by
  unfold Tr.cutD
  rw [HT.sIx_nat, HT.sIx_nat, Nat.min_eq_left hi, Nat.min_eq_left hj]
/-! ### what they do -/
def stepC (h : Option Lst) (c : List (List Int)) : Option Lst × List Int :=
  if (c.headD []).headD 0 = 0 then (loadH h (VahypcNeutral.bytesOf (c.getD 1 [])), loadT (VahypcNeutral.bytesOf (c.getD 1 []))) else (h, ansF h ((c.headD []).headD 0) (c.headD []).tail (c.getD 1 []))
def OkCall (c : List (List Int)) : Prop := ((c.headD []).headD 0 = 0 → ∀ z ∈ c.getD 1 [], 0 ≤ z ∧ z < 256) ∧ (c.getD 1 []).length ≤ 10000
theorem bytes_row {l : List Int} (h : ∀ z ∈ l, 0 ≤ z ∧ z < 256) : dLi l = eB (VahypcNeutral.bytesOf l) := by
  show dL _ = dL _
  unfold VahypcNeutral.bytesOf
  rw [List.map_map]
  congr 1
  refine List.map_congr_left fun z hz => ?_
  obtain ⟨h1, h2⟩ := h z hz
  show dI z = dI ((UInt8.ofNat z.toNat).toNat : Int)
  congr 1
  congr 1
  rw [UInt8.toNat_ofNat']
  omega
theorem stepC_pre {h : Option Lst} {c : List (List Int)} (ph : PreH h) : PreH (stepC h c).1 := by
  unfold stepC
  split
  · exact preH_load ph
  · exact ph
theorem stepC_len {h : Option Lst} {c : List (List Int)} (ph : PreH h) : (stepC h c).2.length ≤ 1000 := by
  unfold stepC
  split
  · show (loadT _).length ≤ 1000
    rw [loadT_len]
    decide
  · exact ans_short ph
end Lp
namespace Lp
open PySem PySem.Spec PyProof.Rows L2 Tr
open Vahypa (Word Lst)
/-- a tuple of ints of the module -/
def TupG (K : PySem.W.Frag) (mg : Str → Option Value) (x : Str) (l : List Int) : Prop := ∃ p, mg x = some (.ref p) ∧ ∀ H, SqT K H p (l.map fun i => V.int i)
structure At where
  h : Option Lst
  found : List Int
  at_ : Nat
  cs : List (List (List Int))
  x1 : Option D
  x2 : Option D
  x3 : Option D
  x4 : Option D
  x5 : Option D
/-- what is handed in: a list that is read alone -/
abbrev dLk (K : PySem.W.Frag) (l : List Int) : D := dLs K (l.map fun i => dI i)
abbrev slA (K : PySem.W.Frag) (l : List Int) (a : At) : List (Option D) := [some (dLk K l), none, none, some (dNat a.at_), a.x1, a.x2, a.x3, a.x4, a.x5]
abbrev owA (cK cL cW : Addr) (h : Option Lst) (found : List Int) : Ow := [(2, oL (found.map fun i => dI i)), (1, oKp cK cL cW h)]
structure InvA (l total : List Int) (a : At) : Prop where
  le : a.at_ ≤ l.length
  cs : ∃ f, PyFlat.calls PyVahypc.shape f (l.drop a.at_) = some a.cs
  few : a.found.length + 1001 * a.cs.length ≤ 20020
  ph : PreH a.h
  ok : ∀ c ∈ a.cs, OkCall c
  all : a.found ++ PyFlat.told (PyFlat.played stepC a.h a.cs) = total
def wbody : Stmt → List Stmt
  | .While _ b _ _ => b
  | _ => []
abbrev s_restB : List Stmt := (wbody ((defBody (top 85)).getD 3 (.Pass ⟨0, 0, 0, 0⟩))).drop 5
theorem g_listI {X : CS} {E : XK} {ex : Er → Prop} {ss : List (Option D)} {pos : Pos} : Ge X E ex ss (.List [] pos) (dLi []) := g_list a_nil
section
variable {P : Program} {w : World} {K : PySem.W.Frag} {mg : Str → Option Value} {base : Heap} {f : Addr} {fd : FuncData} {cK cL cW cX cF cE fX : Addr}
theorem g_tupG {X : CS} {N : List Str} {kd : Str → Option NameKind} {k : Nat} {E : XK} {ex : Er → Prop} {ss : List (Option D)} {pos : Pos} (C : Ctx X P w K mg base N kd k E) {y : Str} {l : List Int} (T : TupG K mg y l) (hg : kd y = some .globalImplicit := by rfl) (hd : (y == ("__debug__" : Str)) = false := by decide) : Ge X E ex ss (.Name y pos) (dTs K (l.map fun i => dI i)) := by
  obtain ⟨p, hm, ht⟩ := T
  exact g_globT C hm ht (fun H => Reps.vals (fun i => V.int i) l) hg hd
abbrev nmA : List Str := ["calls", "keeper", "found", "at", "call", "behind", "n", "row", "one"]
theorem sc_answers : FnScope nmA ["calls"] (defScope (top 85)) := ⟨rfl, rfl, rfl, by decide +kernel, rfl, by decide +kernel, by decide +kernel⟩
def A_answers (K : PySem.W.Frag) : Pr := fun ds kr _ => ∃ (l : List Int) (cs : List (List (List Int))), ds = [dLk K l] ∧ l.length ≤ 1000000 ∧ PyFlat.calls PyVahypc.shape l.length l = some cs ∧ cs.length ≤ 20 ∧ (∀ c ∈ cs, OkCall c) ∧ kr (dLi (PyFlat.told (PyFlat.played stepC none cs)))
theorem rest_ok (B0 : Bi mg) (hO : HasO P w K mg base 11 "answer" (A_answerO cK cL cW)) (hA : Has P w K mg base (L2.CX P w) 11 "answer" (A_answer cK cL cW)) {X : CS} (C : Ctx X P w K mg base nmA (fun y => (defScope (top 85)).names.lookup y) 11 E0) {B : Hp} {S : List Addr} {pf pk : Addr} {H : Hp} {σ : Sg} {Dn : Ends}
    {l : List Int} {h : Option Lst} {found : List Int} {at0 bh : Nat} {p : Int} {ns row : List Int} {x5 : Option D} {c : List (List Int)} (ok : Okf B S [pf, pk] H σ [some (dLk K l), none, none, some (dNat at0), some (dI p), some (dNat bh), some (dLi ns), some (dLi row), x5] (owA cK cL cW h found))
    (ph : PreH h) (hc0 : (c.headD []).headD 0 = p) (hc1 : (c.headD []).tail = ns) (hc2 : c.getD 1 [] = row) (hO1 : OkCall c) (hcall : p ≠ 0 → CallOk h p ns row) (few : found.length ≤ 19019)
    (kk : ∀ H' σ', Okf B S [pf, pk] H' σ' [some (dLk K l), none, none, some (dNat bh), some (dI p), some (dNat bh), some (dLi ns), some (dLi row), some (dLi (stepC h c).2)] (owA cK cL cW (stepC h c).1 (found ++ (((stepC h c).2.length : Int) :: (stepC h c).2))) → Dn.nx σ' H') : wpS X s_restB Dn σ H := by
  have tail : ∀ H1 σ1, Okf B S [pf, pk] H1 σ1 [some (dLk K l), none, none, some (dNat at0), some (dI p), some (dNat bh), some (dLi ns), some (dLi row), some (dLi (stepC h c).2)] (owA cK cL cW (stepC h c).1 found) → wpS X (s_restB.drop 1) Dn σ1 H1 := fun H1 σ1 ok1 => by
    have hl := stepC_len (c := c) ph
    refine st_app C ok1 (ev_ge ok1 (Errs.none (E := E0)) (g_lenLi C B0.len (g_var C 8))) (by rw [List.length_map]; omega) fun H2 ok2 => ?_
    refine st_ext C ok2 (ev_ge ok2 (Errs.none (E := E0)) (g_var C 8)) (by rw [List.length_append, List.length_map, List.length_map, List.length_singleton]; omega) fun H3 ok3 => ?_
    refine st_set C 3 ok3 (Errs.none (E := E0)) (g_var C 5) fun H4 σ4 ok4 => st_nil (kk _ _ (okf_cast ok4 ?_))
    simp
  by_cases hp : p = 0
  · have e1 : stepC h c = (loadH h (VahypcNeutral.bytesOf row), loadT (VahypcNeutral.bytesOf row)) := by unfold stepC; rw [hc0, if_pos hp, hc2]
    have hb := bytes_row (l := row) (by rw [← hc2]; exact hO1.1 (by rw [hc0]; exact hp))
    have hl : (VahypcNeutral.bytesOf row).length ≤ 10000 := by unfold VahypcNeutral.bytesOf; rw [List.length_map, ← hc2]; exact hO1.2
    rw [e1] at tail
    subst hp
    refine so_set C 8 (evO_call C hO ok.swap (ex := fun _ => False) Errs.none (a_cons (g_var C 4) (a_cons (g_var C 6) (a_cons (gcast (g_var C 7) hb) a_nil))) (R1 := fun o' d => o' = [oKp cK cL cW (loadH h (VahypcNeutral.bytesOf row))] ∧ d = dLi (loadT (VahypcNeutral.bytesOf row))) ⟨h, ns, _, rfl, rfl, hl, rfl, rfl⟩) (fun H1 σ1 o' d hR ok1 => ?_) (fun o' d hR => ?_)
    · obtain ⟨od', ⟨h1, h2⟩, rfl⟩ := hR
      cases h1
      subst h2
      exact tail H1 σ1 ok1.swap
    · obtain ⟨od', ⟨h1, h2⟩, rfl⟩ := hR
      cases h1
      rfl
  · have e1 : stepC h c = (h, ansF h p ns row) := by unfold stepC; rw [hc0, if_neg hp, hc1, hc2]
    rw [e1] at tail
    have ok' := ok.swap
    refine se_set C 8 ok' (d := dLi (ansF h p ns row)) (ev_seen ok' (Errs.none (E := E0)) oI_dO oI_is (g_callX C (ex := fun _ => False) hA (a_cons (g_var C 1) (a_cons (g_var C 4) (a_cons (g_var C 6) (a_cons (g_var C 7) a_nil)))) ⟨h, p, ns, row, rfl, hcall hp, rfl⟩) (free_Ls (f := fun (i : Int) => V.int i))) fun H1 σ1 ok1 => tail H1 σ1 ok1.swap
end
end Lp
namespace Lp
open PySem PySem.Spec PyProof.Rows L2 Tr
open Vahypa (Word Lst)
theorem cutI {l : List Int} {i j : Nat} (hi : i ≤ l.length) (hj : j ≤ l.length) : dL (Tr.cutD (l.map fun i => dI i) (some (i : Int)) (some (j : Int))) = dLi ((l.drop i).take (j - i)) := by
  rw [cut_both (by rw [List.length_map]; exact hi) (by rw [List.length_map]; exact hj), dLi, List.map_take, List.map_drop]
theorem told_cons (a : List Int) (l : List (List Int)) : PyFlat.told (a :: l) = (a.length : Int) :: a ++ PyFlat.told l := by
  unfold PyFlat.told
  rw [List.flatMap_cons]
section
variable {P : Program} {w : World} {K : PySem.W.Frag} {mg : Str → Option Value} {base : Heap} {f : Addr} {fd : FuncData} {cK cL cW cX cF cE fX : Addr}
theorem ok_answers (B0 : Bi mg) (TN : TupG K mg "NUMBERS" numsL) (TR : TupG K mg "ROWS" rowsL) (hC : HasC P w K mg base 1 cK "Keeper" nsK I_Keeper) (hO : HasO P w K mg base 11 "answer" (A_answerO cK cL cW)) (hA : Has P w K mg base (L2.CX P w) 11 "answer" (A_answer cK cL cW))
    (F : Fun K "answers" "answers" (top 85) f fd) : FnOk P w K mg base CX0 12 f fd ["calls"] (spT (A_answers K)) := by
  refine def_ok F sc_answers (fun ds kr ke h => ?_) fun X C S H σ ds kr ke0 hA' ok er Dn hr hn => ?_
  · obtain ⟨l, cs, rfl, _⟩ := h
    rfl
  · obtain ⟨ke, l, cs, rfl, hz, hcs, h20, hok, hk⟩ := hA'
    refine st_make0 C 1 ok hC ⟨rfl, rfl⟩ (Nat.le_of_ble_eq_true rfl) fun pk H1 σ1 ok1 => ?_
    refine st_newL C 2 ok1 (Nat.le_of_ble_eq_true rfl) fun pf H2 σ2 ok2 => ?_
    refine st_set C 3 ok2 (Errs.none (E := E0)) g_int fun H3 σ3 ok3 => ?_
    refine st_while C (slA K l) (fun a => owA cK cL cW a.h a.found) (InvA l (PyFlat.told (PyFlat.played stepC none cs))) (fun a => l.length - a.at_) (fun a => decide (a.at_ < l.length)) ⟨none, [], 0, cs, none, none, none, none, none⟩ ok3 (Errs.none (E := E0)) ⟨Nat.zero_le _, ⟨_, hcs⟩, by show 0 + 1001 * cs.length ≤ _; omega, (fun s hs => nomatch hs), hok, rfl⟩ ?_ ?_ ?_
    · intro a _
      exact tcast (t_lt (g_var C 3) (gcast (g_lenLs C B0.len (g_var C 0)) (by rw [List.length_map]))) (by rw [decide_eq_decide]; omega)
    · rintro ⟨h, found, at0, cs0, x1, x2, x3, x4, x5⟩ ⟨hle, ⟨f0, hcs0⟩, few, ph, hok0, hall⟩ ht H4 σ4 ok4
      have hlt : at0 < l.length := of_decide_eq_true ht
      replace ok4 : Okf H S [pf, pk] H4 σ4 [some (dLk K l), none, none, some (dNat at0), x1, x2, x3, x4, x5] (owA cK cL cW h found) := ok4
      replace hcs0 : PyFlat.calls PyVahypc.shape f0 (l.drop at0) = some cs0 := hcs0
      replace few : found.length + 1001 * cs0.length ≤ 20020 := few
      replace ph : PreH h := ph
      replace hok0 : ∀ c ∈ cs0, OkCall c := hok0
      replace hall : found ++ PyFlat.told (PyFlat.played stepC h cs0) = PyFlat.told (PyFlat.played stepC none cs) := hall
      obtain ⟨p, hp⟩ : ∃ p, p = l.getD at0 0 := ⟨_, rfl⟩
      have hpe : l[at0] = p := by rw [hp, List.getD_eq_getElem?_getD, List.getElem?_eq_getElem hlt]; rfl
      obtain ⟨r, hrd⟩ : ∃ r, r = l.drop (at0 + 1) := ⟨_, rfl⟩
      have hd : l.drop at0 = p :: r := by rw [List.drop_eq_getElem_cons hlt, hpe, hrd]
      have hrl : r.length = l.length - (at0 + 1) := by rw [hrd, List.length_drop]
      rw [hd] at hcs0
      obtain ⟨f', c, t, cs', hcall, hcs', rfl⟩ := calls_step hcs0
      obtain ⟨nn, rr, hsh, hnn, hr0, hr1⟩ := call_cut hcall
      obtain ⟨p0, p7, hN, hR, hrr, hp0, hp2, hp34⟩ := shape_is hsh
      have hO1 := hok0 c List.mem_cons_self
      have few' : found.length + 1001 * (cs'.length + 1) ≤ 20020 := few
      have next : ∀ (bh : Nat) (row : List Int), (c.headD []).headD 0 = p → (c.headD []).tail = r.take nn → c.getD 1 [] = row → bh ≤ l.length → at0 < bh → t = l.drop bh → ∀ (x : Option D) H6 σ6, Okf H S [pf, pk] H6 σ6 [some (dLk K l), none, none, some (dNat at0), some (dI p), some (dNat bh), some (dLi (r.take nn)), some (dLi row), x] (owA cK cL cW h found) →
          ∀ Dn' : Ends, (∀ σ2 H2, (∃ a', l.length - a'.at_ < l.length - at0 ∧ InvA l (PyFlat.told (PyFlat.played stepC none cs)) a' ∧ Okf H S [pf, pk] H2 σ2 (slA K l a') (owA cK cL cW a'.h a'.found)) → Dn'.nx σ2 H2) → wpS X s_restB Dn' σ6 H6 := by
        intro bh row c0 c1 c2 hb1 hb2 htd x H6 σ6 ok6 Dn' hDn
        refine rest_ok B0 hO hA C ok6 ph c0 c1 c2 hO1 (fun hpn => ⟨by omega, p7, fun z => ?_, fun z => ?_, ?_, ph⟩) (by omega) fun H7 σ7 ok7 => hDn _ _ ⟨⟨(stepC h c).1, found ++ (((stepC h c).2.length : Int) :: (stepC h c).2), bh, cs', _, _, _, _, _⟩, ?_, ⟨hb1, ⟨f', by rw [← htd]; exact hcs'⟩, ?_, stepC_pre ph, fun c' hc' => hok0 c' (List.mem_cons_of_mem _ hc'), ?_⟩, ok7⟩
        · have := hp2 z
          rw [List.length_take]
          omega
        · have := hp34 z
          rw [List.length_take]
          omega
        · have := hO1.2
          rw [← c2]
          omega
        · show l.length - bh < l.length - at0
          omega
        · show (found ++ _).length + 1001 * cs'.length ≤ 20020
          have := stepC_len (c := c) ph
          rw [List.length_append, List.length_cons]
          omega
        · rw [← hall]
          show (found ++ _) ++ PyFlat.told (PyFlat.played stepC (stepC h c).1 cs') = found ++ PyFlat.told ((stepC h c).2 :: PyFlat.played stepC (stepC h c).1 cs')
          rw [told_cons, List.append_assoc]
      refine st_set C 4 ok4 (Errs.none (E := E0)) (gcast (g_ixLs C (g_var C 0) (g_var C 3) rfl (map_get (g := fun i => dI i) (d := 0) hlt)) (by rw [← hp])) fun H5 σ5 ok5 => ?_
      refine st_set C 5 ok5 (Errs.none (E := E0)) (gcast (g_add (g_add (g_var C 3) g_int) (g_ixTs C (n := p.toNat) (d := dNat nn) (g_tupG C TN) (g_var C 4) (by omega) (by rw [List.getElem?_map, hN]; rfl))) (d' := dNat (at0 + 1 + nn)) rfl) fun H6 σ6 ok6 => ?_
      refine st_set C 6 ok6 (Errs.none (E := E0)) (gcast (g_slLs C (g_var C 0) (po_e (g_add (g_var C 3) g_int)) (po_e (g_var C 5))) (d' := dLi (r.take nn)) ?_) fun H7 σ7 ok7 => ?_
      · have := cutI (l := l) (i := at0 + 1) (j := at0 + 1 + nn) (by clear hr0 hr1; omega) (by clear hr0 hr1; omega)
        rw [Nat.add_sub_cancel_left, ← hrd] at this
        exact this
      refine st_set C 7 ok7 (Errs.none (E := E0)) g_listI fun H8 σ8 ok8 => ?_
      replace ok8 : Okf H S [pf, pk] H8 σ8 [some (dLk K l), none, none, some (dNat at0), some (dI p), some (dNat (at0 + 1 + nn)), some (dLi (r.take nn)), some (dLi []), x5] (owA cK cL cW h found) := ok8
      refine st_if ok8 (Errs.none (E := E0)) (t_eqI (g_ixTs C (n := p.toNat) (d := dNat rr) (g_tupG C TR) (g_var C 4) (by omega) (by rw [List.getElem?_map, hR]; rfl)) g_int) (fun z H9 ok9 => ?_) fun z H9 ok9 => ?_
      · have z : (rr : Int) = 1 := of_decide_eq_true z
        obtain ⟨zz, hz1, hz2, hc, htt⟩ := hr1 (Int.ofNat.inj z)
        clear hr0 hr1
        have hdd : r.drop (nn + 1) = l.drop (at0 + 1 + nn + 1) := by rw [hrd, List.drop_drop]; congr 1
        rw [hdd] at hz2 hc htt
        rw [List.length_drop] at hz2
        have hbl : at0 + 1 + nn < l.length := by
          have : nn < r.length := by
            rcases Nat.lt_or_ge nn r.length with q | q
            · exact q
            · rw [List.getElem?_eq_none q] at hz1; cases hz1
          omega
        have hgl : l[at0 + 1 + nn]? = some (zz : Int) := by rw [← hz1, hrd, List.getElem?_drop]
        have hrl2 : ((l.drop (at0 + 1 + nn + 1)).take zz).length = zz := by rw [List.length_take, List.length_drop]; omega
        refine st_set C 7 ok9 (Errs.none (E := E0)) (gcast (g_slLs C (g_var C 0) (po_e (g_add (g_var C 5) g_int)) (po_e (g_add (g_add (g_var C 5) g_int) (g_ixLs C (d := dNat zz) (g_var C 0) (g_var C 5) rfl (by rw [List.getElem?_map, hgl]; rfl))))) (d' := dLi ((l.drop (at0 + 1 + nn + 1)).take zz)) ?_) fun H10 σ10 ok10 => ?_
        · have := cutI (l := l) (i := at0 + 1 + nn + 1) (j := at0 + 1 + nn + 1 + zz) (by omega) (by omega)
          rw [Nat.add_sub_cancel_left] at this
          exact this
        refine st_set C 5 ok10 (Errs.none (E := E0)) (gcast (g_add (g_add (g_var C 5) g_int) (g_lenLi C B0.len (g_var C 7))) (d' := dNat (at0 + 1 + nn + 1 + zz)) (by rw [hrl2]; rfl)) fun H11 σ11 ok11 => st_nil ?_
        exact next (at0 + 1 + nn + 1 + zz) _ (by rw [hc]; rfl) (by rw [hc]; rfl) (by rw [hc]; rfl) (by omega) (by omega) (by rw [htt, List.drop_drop]) _ _ _ ok11 _ fun _ _ q => q
      · have z : ¬ (rr : Int) = 1 := of_decide_eq_false z
        obtain ⟨hc, htt⟩ := hr0 (hrr.resolve_right fun q => z (by rw [q]; rfl))
        clear hr0 hr1
        refine st_nil ?_
        exact next (at0 + 1 + nn) _ (by rw [hc]; rfl) (by rw [hc]; rfl) (by rw [hc]; rfl) (by omega) (by omega) (by rw [htt, hrd, List.drop_drop]) _ _ _ ok9 _ fun _ _ q => q
    · rintro ⟨h, found, at0, cs0, x1, x2, x3, x4, x5⟩ ⟨hle, ⟨f0, hcs0⟩, few, ph, hok0, hall⟩ ht H4 σ4 ok4
      have hge : ¬ at0 < l.length := of_decide_eq_false ht
      replace hcs0 : PyFlat.calls PyVahypc.shape f0 (l.drop at0) = some cs0 := hcs0
      rw [List.drop_eq_nil_of_le (by omega)] at hcs0
      have e := calls_nil hcs0
      subst e
      replace hall : found ++ PyFlat.told (PyFlat.played stepC h []) = PyFlat.told (PyFlat.played stepC none cs) := hall
      have e2 : PyFlat.told (PyFlat.played stepC h []) = [] := rfl
      rw [e2, List.append_nil] at hall
      rw [← hall] at hk
      exact st_retL C 2 ok4 fun v H' => hr _ v H' hk
end
end Lp
namespace Lp
open Vahypa (Word Lst Pat)
open Vahypc (hasBit lowest Goal Choice better Cand slim putCand)
/-! ### the document's patterns -/
def lvl (n a : Nat) : List Nat := (List.range (n + 1)).map fun k => if k = a then 1 else 0
def pat (p : Pc) : Pat := ⟨p.f, p.x, p.e, lvl p.x.length p.at_⟩
theorem lvl_get {n a k : Nat} (ha : a ≤ n) : ((lvl n a)[k]?).getD 0 = if k = a then 1 else 0 := by
  unfold lvl
  rw [List.getElem?_map]
  by_cases h : k < n + 1
  · rw [List.getElem?_range h]
    rfl
  · rw [List.getElem?_eq_none (by rw [List.length_range]; omega)]
    rw [if_neg (by omega)]
    rfl
theorem pat_inj {p q : Pc} (hp : p.at_ ≤ p.x.length) (hq : q.at_ ≤ q.x.length) (h : pat p = pat q) : p = q := by
  unfold pat at h
  injection h with h1 h2 h3 h4
  have e : p.at_ = q.at_ := by
    have l1 := lvl_get (n := p.x.length) (k := p.at_) hp
    have l2 := lvl_get (n := q.x.length) (k := p.at_) hq
    rw [h4, l2, if_pos rfl] at l1
    by_cases z : p.at_ = q.at_
    · exact z
    · rw [if_neg z] at l1
      cases l1
  cases p
  cases q
  simp only at h1 h2 h3 e
  subst h1 h2 h3 e
  rfl
theorem piece_pat {x : List UInt8} {o n g : Nat} {f e : Bool} (h1 : o + n ≤ x.length) (h2 : o ≤ g) : Vahypc.piece x o n g f e = pat ⟨(x.drop o).take n, g - o, f, e⟩ := by
  unfold Vahypc.piece pat lvl
  have hl : ((x.drop o).take n).length = n := by rw [List.length_take, List.length_drop]; omega
  show Pat.mk f ((x.drop o).take n) e _ = Pat.mk f ((x.drop o).take n) e _
  congr 1
  rw [hl]
  refine List.map_congr_left fun k _ => ?_
  have : (o + k = g) ↔ (k = g - o) := by omega
  simp only [this]
theorem range_cut {β : Type} {f : Nat → List β} {n N : Nat} (h : n ≤ N) (hf : ∀ k, n ≤ k → k < N → f k = []) : (List.range N).flatMap f = (List.range n).flatMap f := by
  obtain ⟨d, rfl⟩ : ∃ d, N = n + d := ⟨N - n, by omega⟩
  induction d with
  | zero => rfl
  | succ d ih =>
    rw [show n + (d + 1) = (n + d) + 1 by omega, List.range_succ, List.flatMap_append, ih (by omega) fun k h1 h2 => hf k h1 (by omega)]
    rw [List.flatMap_cons, hf _ (by omega) (by omega)]
    simp
theorem points_pat {x : List UInt8} {o n g : Nat} (h1 : o + n ≤ x.length) (h2 : o ≤ g) : (pointsF ((x.drop o).take n) (g - o) (decide (o = 0)) (decide (o + n = x.length))).map pat =
    [Vahypc.piece x o n g false false] ++ ((if o = 0 then [Vahypc.piece x o n g true false] else []) ++ ((if o + n = x.length then [Vahypc.piece x o n g false true] else []) ++ (if o = 0 ∧ o + n = x.length then [Vahypc.piece x o n g true true] else []))) := by
  rw [piece_pat h1 h2, piece_pat h1 h2, piece_pat h1 h2, piece_pat h1 h2]
  have key : ∀ (A B : Bool) (q1 q2 q3 q4 : Pc), ([q1] ++ (if A = true then [q2] else []) ++ (if B = true then [q3] else []) ++ (if (A && B) = true then [q4] else [])).map pat = [pat q1] ++ ((if A = true then [pat q2] else []) ++ ((if B = true then [pat q3] else []) ++ (if (A && B) = true then [pat q4] else []))) := by
    intro A B q1 q2 q3 q4
    cases A <;> cases B <;> rfl
  unfold pointsF
  rw [key]
  simp only [decide_eq_true_eq, Bool.and_eq_true]
theorem flatMap_map' {α β γ : Type} (f : α → List β) (g : β → γ) (l : List α) : (l.flatMap f).map g = l.flatMap fun a => (f a).map g := by
  induction l with
  | nil => rfl
  | cons a l ih => rw [List.flatMap_cons, List.flatMap_cons, List.map_append, ih]
theorem flatMap_congr' {α β : Type} {f g : α → List β} {l : List α} (h : ∀ a ∈ l, f a = g a) : l.flatMap f = l.flatMap g := by
  induction l with
  | nil => rfl
  | cons a l ih => rw [List.flatMap_cons, List.flatMap_cons, h a List.mem_cons_self, ih fun b hb => h b (List.mem_cons_of_mem _ hb)]
theorem around_pat (x : List UInt8) (m g : Nat) : ((List.range m).flatMap fun k => aroundF x g (k + 1)).map pat = Vahypc.piecesAt x m g := by
  unfold Vahypc.piecesAt
  rw [flatMap_map']
  refine flatMap_congr' fun k _ => ?_
  dsimp only
  rw [range_cut (n := x.length + 1 - (k + 1)) (N := x.length + 1) (by omega) fun o h1 h2 => if_neg (by omega)]
  unfold aroundF aroundT
  rw [flatMap_map']
  refine flatMap_congr' fun o ho => ?_
  have ho := List.mem_range.mp ho
  by_cases c : o ≤ g ∧ g ≤ o + (k + 1)
  · rw [if_pos (by rw [decide_eq_true c.1, decide_eq_true c.2]; rfl), if_pos ⟨by omega, c⟩]
    exact points_pat (by omega) c.1
  · rw [if_neg (fun z => c (by rw [Bool.and_eq_true] at z; exact ⟨of_decide_eq_true z.1, of_decide_eq_true z.2⟩)), if_neg fun z => c z.2]
    rfl
/-! ### where a pattern parts -/
theorem fits_is (p : Pc) (x : List UInt8) (o : Nat) : Vahypa.fitsAt (pat p) x o = true ↔ o ∈ placesF p x := by
  unfold Vahypa.fitsAt placesF
  rw [List.mem_filter, List.mem_filter, List.mem_range]
  show (decide (o + p.x.length ≤ x.length) && (((x.drop o).take p.x.length == p.x) && ((!p.f || o == 0) && (!p.e || o + p.x.length == x.length)))) = true ↔ _
  rw [Bool.and_eq_true, Bool.and_eq_true, decide_eq_true_iff, beq_iff_eq]
  have key : o + p.x.length ≤ x.length → ((!p.f || o == 0) && (!p.e || o + p.x.length == x.length)) = (!(p.f && decide (0 < o)) && !(p.e && decide (o + p.x.length < x.length))) := fun h => by
    have e1 : (o == 0) = !decide (0 < o) := by
      rw [Bool.eq_iff_iff]
      simp
    have e2 : (o + p.x.length == x.length) = !decide (o + p.x.length < x.length) := by
      rw [Bool.eq_iff_iff]
      simp
      omega
    rw [e1, e2, Bool.not_and, Bool.not_and]
  refine ⟨fun ⟨h1, h2, h3⟩ => ⟨⟨by omega, decide_eq_true h2⟩, by rw [← key h1]; exact h3⟩, fun ⟨⟨h1, h2⟩, h3⟩ => ⟨by omega, of_decide_eq_true h2, by rw [key (by omega)]; exact h3⟩⟩
end Lp
namespace Lp
open Vahypa (Word Lst Pat)
open Vahypc (hasBit lowest Goal Choice better Cand slim putCand)
theorem foldmax {t : Nat → Nat} : ∀ (l : List Nat) (m : Nat), (∀ o ∈ l, t o ≤ 1) → m ≤ 1 → l.foldl (fun m o => Nat.max m (t o)) m ≤ 1 ∧ (l.foldl (fun m o => Nat.max m (t o)) m = 1 ↔ m = 1 ∨ ∃ o ∈ l, t o = 1)
  | [], m, _, h => ⟨h, by simp⟩
  | o :: l, m, ht, hm => by
    have h1 := ht o List.mem_cons_self
    have e : Nat.max m (t o) ≤ 1 := Nat.max_le.mpr ⟨hm, h1⟩
    obtain ⟨i1, i2⟩ := foldmax l (Nat.max m (t o)) (fun q hq => ht q (List.mem_cons_of_mem _ hq)) e
    refine ⟨i1, i2.trans ?_⟩
    have e2 : Nat.max m (t o) = 1 ↔ m = 1 ∨ t o = 1 := by
      show max m (t o) = 1 ↔ _
      omega
    rw [e2]
    constructor
    · rintro ((h | h) | ⟨q, hq, h⟩)
      · exact .inl h
      · exact .inr ⟨o, List.mem_cons_self, h⟩
      · exact .inr ⟨q, List.mem_cons_of_mem _ hq, h⟩
    · rintro (h | ⟨q, hq, h⟩)
      · exact .inl (.inl h)
      · rcases List.mem_cons.mp hq with z | z
        · subst z; exact .inl (.inr h)
        · exact .inr ⟨q, z, h⟩
theorem tells_is {p : Pc} (hp : p.at_ ≤ p.x.length) (x : List UInt8) (o g : Nat) : Vahypa.tells (pat p) x o g = if o ∈ placesF p x ∧ g = o + p.at_ then 1 else 0 := by
  unfold Vahypa.tells
  by_cases h : Vahypa.fitsAt (pat p) x o = true ∧ o ≤ g
  · rw [if_pos h]
    show ((lvl p.x.length p.at_)[g - o]?).getD 0 = _
    rw [lvl_get hp]
    have := (fits_is p x o).mp h.1
    by_cases e : g - o = p.at_
    · rw [if_pos e, if_pos ⟨this, by omega⟩]
    · rw [if_neg e, if_neg fun z => e (by omega)]
  · rw [if_neg h, if_neg fun z => h ⟨(fits_is p x o).mpr z.1, by omega⟩]
theorem places_lt {p : Pc} {x : List UInt8} {o : Nat} (h : o ∈ placesF p x) : o < x.length + 1 := by
  have := (fits_is p x o).mpr h
  unfold Vahypa.fitsAt at this
  rw [Bool.and_eq_true] at this
  have := of_decide_eq_true this.1
  omega
theorem level_is {p : Pc} (hp : p.at_ ≤ p.x.length) (x : List UInt8) (g : Nat) : (Vahypa.levelAt [pat p] x g % 2 == 1) = true ↔ ∃ o ∈ placesF p x, g = o + p.at_ := by
  have h1 : ∀ o ∈ List.range (x.length + 1), Vahypa.tells (pat p) x o g ≤ 1 := fun o _ => by
    rw [tells_is hp]
    split <;> omega
  obtain ⟨i1, i2⟩ := foldmax (List.range (x.length + 1)) 0 h1 (by omega)
  have e : Vahypa.levelAt [pat p] x g = (List.range (x.length + 1)).foldl (fun m o => Nat.max m (Vahypa.tells (pat p) x o g)) 0 := rfl
  rw [e, beq_iff_eq]
  have e2 : ∀ v : Nat, v ≤ 1 → (v % 2 = 1 ↔ v = 1) := fun v hv => by omega
  rw [e2 _ i1, i2]
  constructor
  · rintro (z | ⟨o, _, h⟩)
    · cases z
    · rw [tells_is hp] at h
      split at h
      · rename_i q; exact ⟨o, q⟩
      · cases h
  · rintro ⟨o, ho, h⟩
    refine .inr ⟨o, List.mem_range.mpr (places_lt ho), ?_⟩
    rw [tells_is hp, if_pos ⟨ho, h⟩]
theorem inW_is (s : Lst) (x : List UInt8) (g : Nat) : inW s x g = true ↔ (1 ≤ g ∧ g + 1 ≤ x.length) ∧ Vahypa.within s x g = true := by
  unfold inW Vahypa.within
  rw [Bool.and_eq_true, decide_eq_true_iff, decide_eq_true_iff, decide_eq_true_iff]
  omega
theorem parts_is {p : Pc} (hp : p.at_ ≤ p.x.length) (s : Lst) (x : List UInt8) (g : Nat) : g ∈ Vahypa.partsBy s [pat p] x ↔ g ∈ partedF s p x := by
  unfold Vahypa.partsBy partedF
  rw [List.mem_filter, List.mem_filter, List.mem_map, Bool.and_eq_true, level_is hp, inW_is]
  have e : g ∈ Vahypa.gaps x ↔ 1 ≤ g ∧ g + 1 ≤ x.length := by
    unfold Vahypa.gaps
    rw [List.mem_map]
    constructor
    · rintro ⟨k, hk, rfl⟩
      have := List.mem_range.mp hk
      omega
    · intro h
      exact ⟨g - 1, List.mem_range.mpr (by omega), by omega⟩
  rw [e]
  constructor
  · rintro ⟨h1, ⟨o, ho, h2⟩, h3⟩
    exact ⟨⟨o, ho, h2.symm⟩, h1, h3⟩
  · rintro ⟨⟨o, ho, h2⟩, h1, h3⟩
    exact ⟨h1, ⟨o, ho, h2.symm⟩, h3⟩
theorem all_same {α : Type} {p : α → Bool} {l m : List α} (h : ∀ a, a ∈ l ↔ a ∈ m) : l.all p = m.all p := by
  rw [Bool.eq_iff_iff, List.all_eq_true, List.all_eq_true]
  exact ⟨fun q a ha => q a ((h a).mpr ha), fun q a ha => q a ((h a).mp ha)⟩
theorem good_is {p : Pc} (hp : p.at_ ≤ p.x.length) (s : Lst) : Vahypc.good s (pat p) = goodF s p := by
  unfold Vahypc.good goodF
  congr 1
  funext w
  rw [all_same (parts_is hp s w.x)]
  congr 1
  funext g
  rw [Bool.eq_iff_iff, List.contains_iff_mem, decide_eq_true_iff]
theorem parts1_is {p : Pc} (hp : p.at_ ≤ p.x.length) (s : Lst) (x : Goal) : Vahypc.parts1 s (pat p) x = decide (x.g ∈ partedF s p (wordX s x.w)) := by
  unfold Vahypc.parts1
  rw [Bool.eq_iff_iff, List.contains_iff_mem, decide_eq_true_iff]
  exact parts_is hp s (wordX s x.w) x.g
theorem mask_is (f : Goal → Bool) : ∀ (l : List Goal) (k m : Nat), m < 2 ^ k → (l.zipIdx k).foldl (fun m x => if f x.1 = true then m ||| 1 <<< x.2 else m) m = m + Vahypc.maskBy f k l
  | [], k, m, _ => rfl
  | x :: l, k, m, h => by
    rw [List.zipIdx_cons, List.foldl_cons]
    have e : (if f (x, k).1 = true then m ||| 1 <<< (x, k).2 else m) = m + (if f x = true then 2 ^ k else 0) := by
      show (if f x = true then m ||| 1 <<< k else m) = _
      split
      · rw [Nat.one_shiftLeft, Nat.or_comm]
        have := Nat.two_pow_add_eq_or_of_lt h 1
        rw [Nat.mul_one] at this
        omega
      · rfl
    rw [e, mask_is f l (k + 1) _ (by rw [Nat.pow_succ]; split <;> omega)]
    show _ = m + ((if f x = true then 2 ^ k else 0) + Vahypc.maskBy f (k + 1) l)
    omega
/-- cuts within their words -/
def Wf (s : Lst) : Prop := ∀ v ∈ s.words, ∀ g ∈ v.cuts, 1 ≤ g ∧ g + 1 ≤ v.x.length
theorem goals_is {s : Lst} (W : Wf s) : goalsF s = Vahypc.goals s := by
  unfold goalsF goalsT Vahypc.goals
  refine flatMap_congr' fun w hw => ?_
  congr 1
  refine List.filter_congr fun g hg => ?_
  rw [Bool.eq_iff_iff, inW_is]
  exact ⟨fun h => h.2, fun h => ⟨W _ (zip_mem hw) g hg, h⟩⟩
theorem covers_is {s : Lst} (W : Wf s) {p : Pc} (hp : p.at_ ≤ p.x.length) : Vahypc.covers s (pat p) = coveredF s (goalsF s) p := by
  unfold Vahypc.covers coveredF coveredT
  have := mask_is (Vahypc.parts1 s (pat p)) (Vahypc.goals s) 0 0 (by decide)
  rw [Nat.zero_add] at this
  rw [← this, ← goals_is W]
  simp only [parts1_is hp]
end Lp
namespace Lp
open Vahypa (Word Lst Pat)
open Vahypc (hasBit lowest Goal Choice better Cand slim putCand)
theorem points_at {x : List UInt8} {a : Nat} {b e : Bool} {p : Pc} (h : p ∈ pointsF x a b e) : p.x = x ∧ p.at_ = a := by
  unfold pointsF at h
  cases b <;> cases e <;> simp at h
  · subst h; exact ⟨rfl, rfl⟩
  · rcases h with h | h <;> subst h <;> exact ⟨rfl, rfl⟩
  · rcases h with h | h <;> subst h <;> exact ⟨rfl, rfl⟩
  · rcases h with h | h | h | h <;> subst h <;> exact ⟨rfl, rfl⟩
theorem around_at {x : List UInt8} {g n : Nat} {p : Pc} (h : p ∈ aroundF x g n) : p.at_ ≤ p.x.length := by
  unfold aroundF aroundT at h
  obtain ⟨o, ho, hp⟩ := List.mem_flatMap.mp h
  have ho := List.mem_range.mp ho
  split at hp
  · rename_i hc
    rw [Bool.and_eq_true] at hc
    have c1 := of_decide_eq_true hc.1
    have c2 := of_decide_eq_true hc.2
    obtain ⟨e1, e2⟩ := points_at hp
    rw [e1, e2, List.length_take, List.length_drop]
    omega
  · cases hp
theorem all_at {s : Lst} {m : Nat} {gs : List Goal} {p : Pc} (h : p ∈ allP s m gs) : p.at_ ≤ p.x.length := by
  unfold allP at h
  obtain ⟨g, _, hp⟩ := List.mem_flatMap.mp h
  unfold aroundG at hp
  obtain ⟨k, _, hp⟩ := List.mem_flatMap.mp hp
  exact around_at hp
theorem pieces_at {s : Lst} {m : Nat} {p : Pc} (h : p ∈ piecesF s m) : p.at_ ≤ p.x.length := all_at (putAll_mem (List.mem_filter.mp h).1)
theorem put_map : ∀ (l acc : List Pc), (∀ p ∈ l, p.at_ ≤ p.x.length) → (∀ p ∈ acc, p.at_ ≤ p.x.length) → (l.foldl putS acc).map pat = (l.map pat).foldl Vahypc.putNew (acc.map pat)
  | [], acc, _, _ => rfl
  | p :: l, acc, hl, ha => by
    rw [List.foldl_cons, List.map_cons, List.foldl_cons]
    have hp := hl p List.mem_cons_self
    have e : (putS acc p).map pat = Vahypc.putNew (acc.map pat) (pat p) := by
      unfold putS Vahypc.putNew
      have hi : (acc.map pat).contains (pat p) = true ↔ p ∈ acc := by
        rw [List.contains_iff_mem, List.mem_map]
        constructor
        · rintro ⟨q, hq, e⟩
          rw [← pat_inj (ha q hq) hp e]
          exact hq
        · intro h
          exact ⟨p, h, rfl⟩
      by_cases h : p ∈ acc
      · rw [if_pos h, if_pos (hi.mpr h)]
      · rw [if_neg h, if_neg fun z => h (hi.mp z), List.map_append]
        rfl
    rw [← e]
    refine put_map l _ (fun q hq => hl q (List.mem_cons_of_mem _ hq)) fun q hq => ?_
    rcases putS_mem hq with z | z
    · exact ha q z
    · rw [z]; exact hp
theorem family_is {s : Lst} (W : Wf s) (m : Nat) : (piecesF s m).map pat = Vahypc.family s m := by
  unfold piecesF Vahypc.family
  have e1 : (allP s m (goalsF s)).map pat = (Vahypc.goals s).flatMap fun x => Vahypc.piecesAt (Vahypc.wordAt s x.w) m x.g := by
    unfold allP
    rw [flatMap_map', goals_is W]
    refine flatMap_congr' fun g _ => ?_
    unfold aroundG
    rw [← around_pat]
    congr 1
    refine flatMap_congr' fun k _ => ?_
    rw [Nat.add_comm 1 k]
    rfl
  have e2 : (putAll (allP s m (goalsF s))).map pat = ((Vahypc.goals s).flatMap fun x => Vahypc.piecesAt (Vahypc.wordAt s x.w) m x.g).foldl Vahypc.putNew [] := by
    rw [← e1]
    exact put_map _ [] (fun p hp => all_at hp) (fun p hp => by cases hp)
  rw [← e2]
  have e3 : ∀ l : List Pc, (∀ p ∈ l, p.at_ ≤ p.x.length) → (l.filter (goodF s)).map pat = (l.map pat).filter (Vahypc.good s) := by
    intro l
    induction l with
    | nil => intro _; rfl
    | cons p l ih =>
      intro h
      have ih := ih fun q hq => h q (List.mem_cons_of_mem _ hq)
      have hg := good_is (h p List.mem_cons_self) s
      rw [List.map_cons, List.filter_cons, List.filter_cons, hg]
      split
      · rw [List.map_cons, ih]
      · exact ih
  exact e3 _ fun p hp => all_at (putAll_mem hp)
/-! ### a pattern shown -/
theorem digit_0 : Vahypa.digit 0 = [] := rfl
theorem digit_1 : Vahypa.digit 1 = [49] := by decide +kernel
theorem show_go {v : Nat → Nat} {a : Nat} (hv : ∀ k, v k = if k = a then 1 else 0) : ∀ (x : List UInt8) (i : Nat), i ≤ a → a ≤ i + x.length → (x.zipIdx i).flatMap (fun c => Vahypa.digit (v c.2) ++ [c.1]) ++ Vahypa.digit (v (i + x.length)) = x.take (a - i) ++ [49] ++ x.drop (a - i)
  | [], i, h1, h2 => by
    have e : a = i := by simp at h2; omega
    subst e
    rw [hv, if_pos (by simp), digit_1]
    simp
  | c :: x, i, h1, h2 => by
    rw [List.zipIdx_cons, List.flatMap_cons]
    have hz : ∀ (y : List UInt8) (j : Nat), a < j → (y.zipIdx j).flatMap (fun c => Vahypa.digit (v c.2) ++ [c.1]) ++ Vahypa.digit (v (j + y.length)) = y := by
      intro y
      induction y with
      | nil =>
        intro j hj
        rw [hv, if_neg (by simp; omega)]
        rfl
      | cons d y ih =>
        intro j hj
        have := ih (j + 1) (by omega)
        rw [List.zipIdx_cons, List.flatMap_cons, List.append_assoc]
        rw [show j + (d :: y).length = j + 1 + y.length by simp only [List.length_cons]; omega, this]
        show Vahypa.digit (v j) ++ [d] ++ y = d :: y
        rw [hv, if_neg (by omega)]
        rfl
    rw [List.append_assoc, show i + (c :: x).length = i + 1 + x.length by simp only [List.length_cons]; omega]
    show Vahypa.digit (v i) ++ [c] ++ _ = _
    rw [hv i]
    by_cases e : i = a
    · rw [if_pos e, digit_1, hz x (i + 1) (by omega)]
      subst e
      simp
    · rw [if_neg e, show_go hv x (i + 1) (by omega) (by simp only [List.length_cons] at h2; omega)]
      obtain ⟨d, hd⟩ : ∃ d, a - i = d + 1 := ⟨a - i - 1, by omega⟩
      rw [hd, show a - (i + 1) = d by omega]
      rfl
theorem show_is {p : Pc} (hp : p.at_ ≤ p.x.length) : Vahypa.showPat (pat p) = chunkF p := by
  unfold Vahypa.showPat chunkF
  have h := show_go (v := fun k => ((lvl p.x.length p.at_)[k]?).getD 0) (a := p.at_) (fun k => lvl_get hp) p.x 0 (Nat.zero_le _) (by omega)
  rw [Nat.zero_add, Nat.sub_zero] at h
  show (if p.f = true then [46] else []) ++ (p.x.zipIdx.flatMap (fun c => Vahypa.digit (((lvl p.x.length p.at_)[c.2]?).getD 0) ++ [c.1]) ++ (Vahypa.digit (((lvl p.x.length p.at_)[p.x.length]?).getD 0) ++ (if p.e = true then [46] else []))) = _
  rw [← List.append_assoc (p.x.zipIdx.flatMap _), h]
  simp only [List.append_assoc]
end Lp
namespace Lp
open Vahypa (Word Lst Pat)
open Vahypc (hasBit lowest Goal Choice better Cand slim putCand)
/-! ### both together -/
theorem joinBy_is : ∀ (n a b : Nat), a < 2 ^ n → b < 2 ^ n → Vahypc.joinBy n a b = a ||| b
  | 0, a, b, h1, h2 => by
    have e1 : a = 0 := by omega
    have e2 : b = 0 := by omega
    subst e1 e2
    rfl
  | n + 1, a, b, h1, h2 => by
    unfold Vahypc.joinBy
    rw [Nat.pow_succ] at h1 h2
    rw [joinBy_is n (a / 2) (b / 2) (by omega) (by omega)]
    refine Nat.eq_of_testBit_eq fun i => ?_
    have e : (if a % 2 = 1 ∨ b % 2 = 1 then 1 else 0) < 2 ^ 1 := by split <;> omega
    rw [Nat.testBit_or]
    cases i with
    | zero =>
      rw [Nat.testBit_zero, Nat.testBit_zero, Nat.testBit_zero]
      by_cases x : a % 2 = 1 <;> by_cases y : b % 2 = 1 <;> simp [x, y] <;> omega
    | succ i =>
      rw [Nat.testBit_succ, Nat.testBit_succ, Nat.testBit_succ, ← Nat.testBit_or]
      congr 1
      split <;> omega
theorem join_is {n a b : Nat} (hn : n ≤ 9) (h1 : a < 2 ^ n) (h2 : b < 2 ^ n) : Vahypc.join a b = a ||| b := by
  have : 2 ^ n ≤ 2 ^ 10 := Nat.pow_le_pow_right (by decide) (by omega)
  exact joinBy_is 10 a b (by omega) (by omega)
/-! ### candidates -/
theorem cands_is {s : Lst} (W : Wf s) (m : Nat) : Vahypc.candsOf s (Vahypc.family s m) = candsF (famOf s m) := by
  rw [← family_is W]
  unfold Vahypc.candsOf candsF famOf
  refine List.ext_getElem? fun i => ?_
  rw [List.getElem?_map, List.getElem?_map, List.getElem?_zipIdx, List.getElem?_zipIdx, List.getElem?_map, List.getElem?_map]
  cases e : (piecesF s m)[i]? with
  | none => rfl
  | some p =>
    have hp := pieces_at (List.mem_of_getElem? e)
    have hs : ((piecesF s m).map fun p => (chunkF p).length).getD (0 + i) 0 = (chunkF p).length := by
      rw [List.getD_eq_getElem?_getD, List.getElem?_map, Nat.zero_add, e]
      rfl
    show some (Cand.mk (0 + i) (Vahypc.covers s (pat p)) (Vahypc.bytesOf (pat p))) = some (Cand.mk (0 + i) (coveredF s (goalsF s) p) (((piecesF s m).map fun p => (chunkF p).length).getD (0 + i) 0))
    rw [hs, covers_is W hp, Vahypc.bytesOf, show_is hp]
/-! ### the least choice -/
theorem best_is {fam : Fam} (Pf : PreF fam) (kind : Nat) (i : Nat) (hi : i + 1 ≤ 2 ^ fam.goals.length - 1) :
    Vahypc.bestAt (slim (candsF fam)) kind fam.goals.length (2 ^ fam.goals.length - 1 - (i + 1)) (kn fam kind fam.goals.length i) = (usedF fam).foldl (stepB fam kind (lowest fam.goals.length (2 ^ fam.goals.length - 1 - (i + 1))) (2 ^ fam.goals.length - 1 - (i + 1)) (fun x => ((kn fam kind fam.goals.length i)[x - (2 ^ fam.goals.length - 1 - (i + 1)) - 1]?).bind id)) none := by
  have h2 : 1 ≤ 2 ^ fam.goals.length := Nat.one_le_two_pow
  unfold Vahypc.bestAt usedF
  rw [if_neg (by omega), List.foldl_map]
  have go : ∀ (l : List Cand) (b : Option Choice), (∀ c ∈ l, c ∈ candsF fam) →
      l.foldl (fun (b : Option Choice) c => if hasBit c.mask (lowest fam.goals.length (2 ^ fam.goals.length - 1 - (i + 1))) = false then b else match ((kn fam kind fam.goals.length i)[Vahypc.join (2 ^ fam.goals.length - 1 - (i + 1)) c.mask - (2 ^ fam.goals.length - 1 - (i + 1)) - 1]?).bind id with
        | none => b
        | some x => let y : Choice := ⟨x.bytes + c.bytes, c.k :: x.ks⟩
          match b with
            | none => some y
            | some z => if better kind y z = true then some y else b) b = l.foldl (fun b c => stepB fam kind (lowest fam.goals.length (2 ^ fam.goals.length - 1 - (i + 1))) (2 ^ fam.goals.length - 1 - (i + 1)) (fun x => ((kn fam kind fam.goals.length i)[x - (2 ^ fam.goals.length - 1 - (i + 1)) - 1]?).bind id) b c.k) b := by
    intro l
    induction l with
    | nil => intro b _; rfl
    | cons c l ih =>
      intro b h
      rw [List.foldl_cons, List.foldl_cons, ih _ fun d hd => h d (List.mem_cons_of_mem _ hd)]
      obtain ⟨k1, k2, k3⟩ := cand_is (h c List.mem_cons_self)
      congr 1
      unfold stepB
      rw [join_is Pf.n9 (by omega) (by rw [k2]; exact Pf.lt _ (getD_mem k1)), k2, k3] <;> rfl
  exact go _ none fun c hc => slim_mem c hc
theorem bestBy_is {fam : Fam} (Pf : PreF fam) (kind : Nat) : ∀ (j i : Nat), i + j = 2 ^ fam.goals.length - 1 → Vahypc.bestBy (slim (candsF fam)) kind fam.goals.length j (kn fam kind fam.goals.length i) = kn fam kind fam.goals.length (2 ^ fam.goals.length - 1)
  | 0, i, h => by
    show kn _ _ _ _ = _
    rw [show i = 2 ^ fam.goals.length - 1 by omega]
  | j + 1, i, h => by
    unfold Vahypc.bestBy
    have e : j = 2 ^ fam.goals.length - 1 - (i + 1) := by omega
    have := best_is Pf kind i (by omega)
    rw [← e] at this
    rw [this]
    have e2 : kn fam kind fam.goals.length (i + 1) = (usedF fam).foldl (stepB fam kind (lowest fam.goals.length j) j (fun x => ((kn fam kind fam.goals.length i)[x - j - 1]?).bind id)) none :: kn fam kind fam.goals.length i := by
      rw [e]
      rfl
    rw [← e2]
    exact bestBy_is Pf kind j (i + 1) (by omega)
theorem least_is {s : Lst} (W : Wf s) {m : Nat} (Pf : PreF (famOf s m)) (kind : Nat) : Vahypc.leastOf s (Vahypc.family s m) kind = ((kn (famOf s m) kind (famOf s m).goals.length (2 ^ (famOf s m).goals.length - 1))[0]?).bind id := by
  unfold Vahypc.leastOf
  dsimp only
  rw [cands_is W]
  have eg : (Vahypc.goals s).length = (famOf s m).goals.length := by rw [← goals_is W]; rfl
  rw [eg]
  have h2 : 1 ≤ 2 ^ (famOf s m).goals.length := Nat.one_le_two_pow
  obtain ⟨q, hq⟩ : ∃ q, 2 ^ (famOf s m).goals.length = q + 1 := ⟨2 ^ (famOf s m).goals.length - 1, by omega⟩
  have e0 : Vahypc.bestBy (slim (candsF (famOf s m))) kind (famOf s m).goals.length (q + 1) [] = Vahypc.bestBy (slim (candsF (famOf s m))) kind (famOf s m).goals.length q (kn (famOf s m) kind (famOf s m).goals.length 0) := by
    show Vahypc.bestBy _ _ _ q (Vahypc.bestAt _ _ _ q [] :: []) = _
    unfold Vahypc.bestAt
    rw [if_pos hq.symm]
    rfl
  rw [hq, e0, bestBy_is Pf kind q 0 (by omega), hq, List.head?_eq_getElem?]
end Lp
namespace Lp
open Vahypa (Word Lst Pat)
open Vahypc (hasBit lowest Goal Choice better Cand slim putCand gain)
def sizeSum (fam : Fam) (l : List Nat) : Nat := (l.map fun i => fam.sizes.getD i 0).sum
theorem sizeSum_int (fam : Fam) (l : List Nat) : (l.map fun i => ((fam.sizes.getD i 0 : Nat) : Int)).sum = (sizeSum fam l : Int) := by
  unfold sizeSum
  induction l with
  | nil => rfl
  | cons i l ih => rw [List.map_cons, List.map_cons, List.sum_cons, List.sum_cons, ih]; rfl
/-! ### bytes of a least choice -/
theorem step_sum {fam : Fam} {kind g covered : Nat} {lk : Nat → Option Choice} (hl : ∀ x c, lk x = some c → c.bytes = sizeSum fam c.ks) : ∀ (l : List Nat) (b : Option Choice), (∀ c, b = some c → c.bytes = sizeSum fam c.ks) → ∀ c, l.foldl (stepB fam kind g covered lk) b = some c → c.bytes = sizeSum fam c.ks
  | [], _, h, c, e => h c e
  | i :: r, b, h, c, e => by
    refine step_sum hl r _ ?_ c e
    intro c' e'
    unfold stepB at e'
    split at e'
    · exact h c' e'
    · split at e'
      · exact h c' e'
      · rename_i x hx
        dsimp only at e'
        have hy : (⟨x.bytes + fam.sizes.getD i 0, i :: x.ks⟩ : Choice).bytes = sizeSum fam (⟨x.bytes + fam.sizes.getD i 0, i :: x.ks⟩ : Choice).ks := by
          have := hl _ _ hx
          show x.bytes + fam.sizes.getD i 0 = sizeSum fam (i :: x.ks)
          rw [this]
          unfold sizeSum
          rw [List.map_cons, List.sum_cons]
          omega
        split at e'
        · cases e'
          exact hy
        · split at e'
          · cases e'
            exact hy
          · exact h c' e'
theorem kn_sum (fam : Fam) (kind n : Nat) : ∀ (i k : Nat) (c : Choice), (kn fam kind n i)[k]? = some (some c) → c.bytes = sizeSum fam c.ks
  | 0, k, c, h => by
    cases k with
    | zero => cases h; rfl
    | succ k => simp [kn] at h
  | i + 1, 0, c, h => by
    have h : (usedF fam).foldl (stepB fam kind (lowest n (2 ^ n - 1 - (i + 1))) (2 ^ n - 1 - (i + 1)) (fun x => ((kn fam kind n i)[x - (2 ^ n - 1 - (i + 1)) - 1]?).bind id)) none = some c := Option.some.inj h
    refine step_sum (fun x c' hx => ?_) _ _ (fun c' e => by cases e) c h
    cases e : (kn fam kind n i)[x - (2 ^ n - 1 - (i + 1)) - 1]? with
    | none => rw [e] at hx; cases hx
    | some o =>
      rw [e] at hx
      have hx : o = some c' := hx
      subst hx
      exact kn_sum fam kind n i _ c' e
  | i + 1, k + 1, c, h => kn_sum fam kind n i k c (by simpa [kn] using h)
/-! ### greedily -/
def stepD (n m : Nat) (b : Option Cand) (c : Cand) : Option Cand := match b with
  | none => if 0 < gain n m c.mask then some c else none
  | some d => if gain n m d.mask < gain n m c.mask then some c else b
def RelG (fam : Fam) (n m : Nat) (b : Option Nat × Nat) : Option Cand → Prop
  | none => b = (none, 0)
  | some d => b = (some d.k, gain n m d.mask) ∧ 0 < gain n m d.mask ∧ d ∈ candsF fam
theorem rel_go {fam : Fam} {n m : Nat} : ∀ (l : List (Nat × Nat)) (b : Option Nat × Nat) (b' : Option Cand), RelG fam n m b b' → (∀ x ∈ l, (⟨x.2, x.1, fam.sizes.getD x.2 0⟩ : Cand) ∈ candsF fam) → RelG fam n m (l.foldl (stepG n m) b) (l.foldl (fun b x => stepD n m b ⟨x.2, x.1, fam.sizes.getD x.2 0⟩) b')
  | [], _, _, h, _ => h
  | x :: l, b, b', h, hc => by
    rw [List.foldl_cons, List.foldl_cons]
    refine rel_go l _ _ ?_ fun y hy => hc y (List.mem_cons_of_mem _ hy)
    have hx := hc x List.mem_cons_self
    unfold stepG stepD
    cases b' with
    | none =>
      have h : b = (none, 0) := h
      subst h
      dsimp only
      by_cases q : 0 < gain n m x.1
      · rw [if_pos q, if_pos q]
        exact ⟨rfl, q, hx⟩
      · rw [if_neg q, if_neg q]
        rfl
    | some d =>
      obtain ⟨h1, h2, h3⟩ := h
      subst h1
      dsimp only
      by_cases q : gain n m d.mask < gain n m x.1
      · rw [if_pos q, if_pos q]
        exact ⟨rfl, by show 0 < gain n m x.1; omega, hx⟩
      · rw [if_neg q, if_neg q]
        exact ⟨rfl, h2, h3⟩
theorem pick_is (fam : Fam) (m : Nat) : RelG fam fam.goals.length m (greedF fam m) ((candsF fam).foldl (stepD fam.goals.length m) none) := by
  unfold greedF
  have e : (candsF fam).foldl (stepD fam.goals.length m) none = fam.covers.zipIdx.foldl (fun b x => stepD fam.goals.length m b ⟨x.2, x.1, fam.sizes.getD x.2 0⟩) none := by
    unfold candsF
    rw [List.foldl_map]
  rw [e]
  exact rel_go _ _ _ rfl fun x hx => List.mem_map.mpr ⟨x, hx, rfl⟩
theorem greedyBy_is {fam : Fam} (Pf : PreF fam) : ∀ (f : Nat) (l : List Nat), (∀ i ∈ l, i < fam.covers.length) → (Vahypc.greedyBy (candsF fam) fam.goals.length f (orOf fam.covers l) ⟨sizeSum fam l, l⟩).2 = ⟨sizeSum fam (gSet fam f l), gSet fam f l⟩
  | 0, l, _ => rfl
  | f + 1, l, hl => by
    have hr := pick_is fam (orOf fam.covers l)
    unfold Vahypc.greedyBy gSet
    show (match (candsF fam).foldl (stepD fam.goals.length (orOf fam.covers l)) none with
      | none => (orOf fam.covers l, (⟨sizeSum fam l, l⟩ : Choice))
      | some c => Vahypc.greedyBy (candsF fam) fam.goals.length f (Vahypc.join (orOf fam.covers l) c.mask) ⟨sizeSum fam l + c.bytes, l ++ [c.k]⟩).2 = _
    cases e : (candsF fam).foldl (stepD fam.goals.length (orOf fam.covers l)) none with
    | none =>
      rw [e] at hr
      have hr : greedF fam (orOf fam.covers l) = (none, 0) := hr
      rw [hr]
    | some d =>
      rw [e] at hr
      obtain ⟨h1, h2, h3⟩ := hr
      rw [h1]
      dsimp only
      rw [if_pos h2]
      obtain ⟨k1, k2, k3⟩ := cand_is h3
      have hi : ∀ i ∈ l ++ [d.k], i < fam.covers.length := fun i hi => by
        rcases List.mem_append.mp hi with q | q
        · exact hl i q
        · rw [List.mem_singleton.mp q]; exact k1
      have e1 : Vahypc.join (orOf fam.covers l) d.mask = orOf fam.covers (l ++ [d.k]) := by
        rw [orOf_snoc, k2]
        exact join_is Pf.n9 (orOf_lt Pf.lt hl) (Pf.lt _ (getD_mem k1))
      have e2 : sizeSum fam l + d.bytes = sizeSum fam (l ++ [d.k]) := by
        unfold sizeSum
        rw [k3, List.map_append, List.sum_append]
        simp
      rw [e1, e2]
      exact greedyBy_is Pf f _ hi
theorem greedy_is {s : Lst} (W : Wf s) {m : Nat} (Pf : PreF (famOf s m)) : (Vahypc.greedyOf s (Vahypc.family s m)).2 = ⟨sizeSum (famOf s m) (gSet (famOf s m) ((famOf s m).goals.length + 1) []), gSet (famOf s m) ((famOf s m).goals.length + 1) []⟩ := by
  unfold Vahypc.greedyOf
  rw [cands_is W]
  have eg : (Vahypc.goals s).length = (famOf s m).goals.length := by rw [← goals_is W]; rfl
  rw [eg]
  exact greedyBy_is Pf _ [] fun i hi => by cases hi
end Lp
namespace Lp
open Vahypa (Word Lst Pat)
open Vahypc (hasBit lowest Goal Choice better Cand slim putCand gain)
/-! ### goals that no piece covers -/
theorem bit_shl (k j : Nat) : hasBit (1 <<< k) j = decide (k = j) := by
  rw [hasBit_eq, Nat.one_shiftLeft, Nat.testBit_two_pow]
theorem bit_fold {f : Goal → Bool} {j : Nat} : ∀ (l : List (Goal × Nat)) (m : Nat), hasBit (l.foldl (fun m x => if f x.1 = true then m ||| 1 <<< x.2 else m) m) j = (hasBit m j || l.any fun x => f x.1 && decide (x.2 = j))
  | [], m => by simp
  | x :: l, m => by
    rw [List.foldl_cons, bit_fold l, List.any_cons]
    cases h : f x.1 with
    | true => rw [if_pos rfl, hasBit_or, bit_shl, Bool.true_and, Bool.or_assoc]
    | false => rw [if_neg (by simp), Bool.false_and, Bool.false_or]
theorem any_idx {f : Goal → Bool} {gs : List Goal} {j : Nat} {g : Goal} (h : gs[j]? = some g) : (gs.zipIdx.any fun x => f x.1 && decide (x.2 = j)) = f g := by
  rw [Bool.eq_iff_iff, List.any_eq_true]
  constructor
  · rintro ⟨⟨a, i⟩, hx, hf⟩
    rw [Bool.and_eq_true] at hf
    have e : i = j := of_decide_eq_true hf.2
    subst e
    rw [List.mem_zipIdx_iff_getElem?] at hx
    have hx : gs[i]? = some a := hx
    rw [h] at hx
    cases hx
    exact hf.1
  · intro hf
    refine ⟨(g, j), ?_, by rw [Bool.and_eq_true]; exact ⟨hf, decide_eq_true rfl⟩⟩
    rw [List.mem_zipIdx_iff_getElem?]
    exact h
theorem covered_bit {s : Lst} {p : Pc} {j : Nat} {g : Goal} (hp : p.at_ ≤ p.x.length) (h : (goalsF s)[j]? = some g) : hasBit (coveredF s (goalsF s) p) j = Vahypc.parts1 s (pat p) g := by
  unfold coveredF coveredT
  have := bit_fold (f := fun x => decide (x.g ∈ partedF s p (wordX s x.w))) (j := j) (goalsF s).zipIdx 0
  rw [hasBit_zero, Bool.false_or, any_idx (f := fun x => decide (x.g ∈ partedF s p (wordX s x.w))) h] at this
  rw [parts1_is hp]
  exact this
theorem find_idx {α : Type} {q : α → Bool} : ∀ (l : List α) (k : Nat) (r : α × Nat → Bool), (∀ x ∈ l.zipIdx k, r x = q x.1) → ((l.zipIdx k).find? r).map Prod.fst = l.find? q
  | [], _, _, _ => rfl
  | a :: l, k, r, h => by
    rw [List.zipIdx_cons, List.find?_cons, List.find?_cons, h (a, k) (by rw [List.zipIdx_cons]; exact List.mem_cons_self)]
    cases q a with
    | true => rfl
    | false => exact find_idx l (k + 1) r fun x hx => h x (by rw [List.zipIdx_cons]; exact List.mem_cons_of_mem _ hx)
theorem bare_is {s : Lst} (W : Wf s) {ps : List Pat} {m : Nat} (h : ∀ j g, (goalsF s)[j]? = some g → hasBit m j = ps.any fun p => Vahypc.parts1 s p g) : Vahypc.bare s ps = firstL (goalsF s) m := by
  unfold Vahypc.bare firstL
  rw [← goals_is W]
  refine (find_idx (goalsF s) 0 _ fun x hx => ?_).symm
  rw [List.mem_zipIdx_iff_getElem?] at hx
  rw [h x.2 x.1 hx]
theorem bare_all {s : Lst} (W : Wf s) (m : Nat) : Vahypc.bare s (Vahypc.family s m) = lackF (famOf s m) := by
  refine bare_is W fun j g hg => ?_
  unfold orOf
  rw [bit_orOf, hasBit_zero, Bool.false_or, ← family_is W, List.any_map]
  show ((List.range ((piecesF s m).map (coveredF s (goalsF s))).length).any fun i => hasBit (((piecesF s m).map (coveredF s (goalsF s))).getD i 0) j) = _
  rw [List.length_map, Bool.eq_iff_iff, List.any_eq_true, List.any_eq_true]
  constructor
  · rintro ⟨i, hi, hb⟩
    have hi := List.mem_range.mp hi
    have hm : (piecesF s m)[i] ∈ piecesF s m := List.getElem_mem hi
    refine ⟨_, hm, ?_⟩
    rw [List.getD_eq_getElem?_getD, List.getElem?_map, List.getElem?_eq_getElem hi] at hb
    show Vahypc.parts1 s (pat _) g = true
    rw [← covered_bit (pieces_at hm) hg]
    exact hb
  · rintro ⟨p, hp, hb⟩
    obtain ⟨i, hi⟩ := List.mem_iff_getElem?.mp hp
    obtain ⟨hil, _⟩ := List.getElem?_eq_some_iff.mp hi
    refine ⟨i, List.mem_range.mpr hil, ?_⟩
    rw [List.getD_eq_getElem?_getD, List.getElem?_map, hi]
    have hb : Vahypc.parts1 s (pat p) g = true := hb
    rw [← covered_bit (pieces_at hp) hg] at hb
    exact hb
theorem bare_some {s : Lst} (W : Wf s) (m : Nat) {l : List Int} (hl : ∀ z ∈ l, 0 ≤ z ∧ z < ((piecesF s m).length : Int)) : Vahypc.bare s (l.filterMap fun z => (Vahypc.family s m)[z.toNat]?) = firstL (famOf s m).goals (orOf (famOf s m).covers (l.map Int.toNat)) := by
  refine bare_is W fun j g hg => ?_
  unfold orOf
  rw [bit_orOf, hasBit_zero, Bool.false_or, List.any_map, ← family_is W, Bool.eq_iff_iff, List.any_eq_true, List.any_eq_true]
  constructor
  · rintro ⟨z, hz, hb⟩
    obtain ⟨h1, h2⟩ := hl z hz
    have hi : z.toNat < (piecesF s m).length := by omega
    have hm : (piecesF s m)[z.toNat] ∈ piecesF s m := List.getElem_mem hi
    refine ⟨pat (piecesF s m)[z.toNat], List.mem_filterMap.mpr ⟨z, hz, by rw [List.getElem?_map, List.getElem?_eq_getElem hi]; rfl⟩, ?_⟩
    have hb : hasBit (((piecesF s m).map (coveredF s (goalsF s))).getD z.toNat 0) j = true := hb
    rw [List.getD_eq_getElem?_getD, List.getElem?_map, List.getElem?_eq_getElem hi] at hb
    rw [← covered_bit (pieces_at hm) hg]
    exact hb
  · rintro ⟨p, hp, hb⟩
    obtain ⟨z, hz, e⟩ := List.mem_filterMap.mp hp
    obtain ⟨h1, h2⟩ := hl z hz
    have hi : z.toNat < (piecesF s m).length := by omega
    rw [List.getElem?_map, List.getElem?_eq_getElem hi] at e
    cases e
    refine ⟨z, hz, ?_⟩
    rw [← covered_bit (pieces_at (List.getElem_mem hi)) hg] at hb
    show hasBit (((piecesF s m).map (coveredF s (goalsF s))).getD z.toNat 0) j = true
    rw [List.getD_eq_getElem?_getD, List.getElem?_map, List.getElem?_eq_getElem hi]
    exact hb
end Lp
namespace Lp
open Vahypa (Word Lst Pat)
open Vahypc (hasBit lowest Goal Choice better Cand slim putCand gain)
open PySem.W (listLt DatumOrd minOf)
/-! ### rows of goals in order -/
def masksBy : Nat → List Nat
  | 0 => [0]
  | n + 1 => (masksBy n).flatMap fun m => [m, m + 2 ^ n]
theorem masks_lt : ∀ (n m : Nat), m ∈ masksBy n → m < 2 ^ n
  | 0, m, h => by
    have := List.mem_singleton.mp h
    subst this
    decide
  | n + 1, m, h => by
    obtain ⟨a, ha, hm⟩ := List.mem_flatMap.mp h
    have := masks_lt n a ha
    rw [Nat.pow_succ]
    rcases List.mem_cons.mp hm with e | e
    · omega
    · have := List.mem_singleton.mp e
      omega
theorem masks_all : ∀ (n m : Nat), m < 2 ^ n → m ∈ masksBy n
  | 0, m, h => by
    have : m = 0 := by omega
    subst this
    exact List.mem_singleton.mpr rfl
  | n + 1, m, h => by
    rw [Nat.pow_succ] at h
    unfold masksBy
    by_cases q : m < 2 ^ n
    · exact List.mem_flatMap.mpr ⟨m, masks_all n m q, List.mem_cons_self⟩
    · exact List.mem_flatMap.mpr ⟨m - 2 ^ n, masks_all n _ (by omega), List.mem_cons_of_mem _ (List.mem_singleton.mpr (by omega))⟩
theorem bit_add {n m : Nat} (h : m < 2 ^ n) (k : Nat) : hasBit (m + 2 ^ n) k = (hasBit m k || decide (k = n)) := by
  have := Nat.two_pow_add_eq_or_of_lt h 1
  rw [Nat.mul_one] at this
  rw [Nat.add_comm, this, hasBit_or, hasBit_eq (2 ^ n), Nat.testBit_two_pow, Bool.or_comm]
  congr 1
  rw [decide_eq_decide]
  exact eq_comm
theorem bit_hi {n m k : Nat} (h : m < 2 ^ n) (hk : n ≤ k) : hasBit m k = false := by
  rw [hasBit_eq]
  exact Nat.testBit_lt_two_pow (Nat.lt_of_lt_of_le h (Nat.pow_le_pow_right (by decide) hk))
theorem bits_lo {n m : Nat} (h : m < 2 ^ n) : bitsOf (n + 1) m = bitsOf n m := by
  unfold bitsOf
  rw [List.range_succ, List.filter_append, List.filter_cons, if_neg (by rw [bit_hi h (Nat.le_refl n)]; exact Bool.false_ne_true)]
  simp
theorem bits_hi {n m : Nat} (h : m < 2 ^ n) : bitsOf (n + 1) (m + 2 ^ n) = bitsOf n m ++ [n] := by
  unfold bitsOf
  rw [List.range_succ, List.filter_append, List.filter_cons, if_pos (by rw [bit_add h, decide_eq_true rfl, Bool.or_true])]
  congr 1
  refine List.filter_congr fun k hk => ?_
  have := List.mem_range.mp hk
  rw [bit_add h, decide_eq_false (by omega), Bool.or_false]
theorem rows_is : ∀ n, Vahypc.rowsBy n = (masksBy n).map (bitsOf n)
  | 0 => rfl
  | n + 1 => by
    unfold Vahypc.rowsBy masksBy
    rw [rows_is n, flatMap_map', List.flatMap_map]
    refine flatMap_congr' fun m hm => ?_
    have := masks_lt n m hm
    rw [List.map_cons, List.map_cons, bits_lo this, bits_hi this]
    rfl
/-! ### their order -/
abbrev bl (n m : Nat) : List Int := (List.range n).map fun k => ((m / 2 ^ k % 2 : Nat) : Int)
theorem ll_app : ∀ {x y : List Int} (a b : List Int), x.length = y.length → listLt x y = true → listLt (x ++ a) (y ++ b) = true
  | [], [], a, b, _, h => by cases h
  | [], _ :: _, _, _, l, _ => by cases l
  | _ :: _, [], _, _, l, _ => by cases l
  | u :: x, v :: y, a, b, l, h => by
    have h : (if u = v then listLt x y else DatumOrd.lt u v) = true := h
    show (if u = v then listLt (x ++ a) (y ++ b) else DatumOrd.lt u v) = true
    by_cases e : u = v
    · rw [if_pos e] at h ⊢
      exact ll_app a b (Nat.succ.inj l) h
    · rw [if_neg e] at h ⊢
      exact h
theorem ll_same : ∀ (x : List Int) (a b : List Int), listLt (x ++ a) (x ++ b) = listLt a b
  | [], _, _ => rfl
  | u :: x, a, b => by
    show (if u = u then listLt (x ++ a) (x ++ b) else DatumOrd.lt u u) = _
    rw [if_pos rfl, ll_same x a b]
theorem ll_asym : ∀ {x y : List Int}, listLt x y = true → listLt y x = false
  | [], [], h => by cases h
  | [], _ :: _, _ => rfl
  | _ :: _, [], h => by cases h
  | u :: x, v :: y, h => by
    have h : (if u = v then listLt x y else DatumOrd.lt u v) = true := h
    show (if v = u then listLt y x else DatumOrd.lt v u) = false
    by_cases e : u = v
    · rw [if_pos e] at h
      rw [if_pos e.symm]
      exact ll_asym h
    · rw [if_neg e] at h
      rw [if_neg fun z => e z.symm]
      have h : decide (u < v) = true := h
      have h := of_decide_eq_true h
      exact decide_eq_false (by omega)
theorem bl_lo {n m : Nat} (h : m < 2 ^ n) : bl (n + 1) m = bl n m ++ [0] := by
  unfold bl
  rw [List.range_succ, List.map_append, List.map_cons, Nat.div_eq_of_lt h]
  rfl
theorem bl_hi {n m : Nat} (h : m < 2 ^ n) : bl (n + 1) (m + 2 ^ n) = bl n m ++ [1] := by
  unfold bl
  rw [List.range_succ, List.map_append, List.map_cons]
  have e1 : (m + 2 ^ n) / 2 ^ n % 2 = 1 := by
    rw [Nat.add_div_right _ (Nat.two_pow_pos n), Nat.div_eq_of_lt h]
  rw [e1]
  congr 1
  refine List.map_congr_left fun k hk => ?_
  have hk := List.mem_range.mp hk
  congr 1
  have b1 := bit_add h k
  rw [decide_eq_false (by omega), Bool.or_false] at b1
  unfold hasBit at b1
  have c1 := Nat.mod_two_eq_zero_or_one ((m + 2 ^ n) / 2 ^ k)
  have c2 := Nat.mod_two_eq_zero_or_one (m / 2 ^ k)
  rcases c1 with c1 | c1 <;> rcases c2 with c2 | c2 <;> rw [c1, c2] at b1 ⊢ <;> simp at b1
theorem masks_order : ∀ n, (masksBy n).Pairwise fun a b => listLt (bl n a) (bl n b) = true
  | 0 => List.pairwise_singleton _ _
  | n + 1 => by
    unfold masksBy
    rw [List.pairwise_flatMap]
    refine ⟨fun m hm => ?_, ?_⟩
    · have h := masks_lt n m hm
      rw [List.pairwise_cons]
      refine ⟨fun b hb => ?_, List.pairwise_singleton _ _⟩
      rw [List.mem_singleton.mp hb, bl_lo h, bl_hi h, ll_same]
      rfl
    · refine (List.pairwise_iff_forall_sublist.mpr fun {a b} hs => ?_)
      have hab := List.pairwise_iff_forall_sublist.mp (masks_order n) hs
      have ha := masks_lt n a (hs.subset List.mem_cons_self)
      have hb := masks_lt n b (hs.subset (List.mem_cons_of_mem _ List.mem_cons_self))
      have hl : (bl n a).length = (bl n b).length := by unfold bl; rw [List.length_map, List.length_map]
      intro x hx y hy
      have ex : ∃ z, bl (n + 1) x = bl n a ++ z := by
        rcases List.mem_cons.mp hx with e | e
        · exact ⟨_, by rw [e]; exact bl_lo ha⟩
        · exact ⟨_, by rw [List.mem_singleton.mp e]; exact bl_hi ha⟩
      have ey : ∃ z, bl (n + 1) y = bl n b ++ z := by
        rcases List.mem_cons.mp hy with e | e
        · exact ⟨_, by rw [e]; exact bl_lo hb⟩
        · exact ⟨_, by rw [List.mem_singleton.mp e]; exact bl_hi hb⟩
      obtain ⟨z1, e1⟩ := ex
      obtain ⟨z2, e2⟩ := ey
      rw [e1, e2]
      exact ll_app _ _ hl hab
end Lp
namespace Lp
open Vahypa (Word Lst Pat)
open Vahypc (hasBit lowest Goal Choice better Cand slim putCand gain)
open PySem.W (listLt DatumOrd minOf)
/-! ### apart -/
theorem bits_mem {n m k : Nat} : k ∈ bitsOf n m ↔ k < n ∧ hasBit m k = true := by
  unfold bitsOf
  rw [List.mem_filter, List.mem_range]
theorem bits_sorted (n m : Nat) : (bitsOf n m).Pairwise (· < ·) := by
  unfold bitsOf
  exact List.Pairwise.filter _ List.pairwise_lt_range
theorem few_is {n x : Nat} : (bitsOf n x).length < 2 ↔ ∀ a ∈ bitsOf n x, ∀ b ∈ bitsOf n x, b ≤ a := by
  have hs := bits_sorted n x
  constructor
  · intro h a ha b hb
    cases e : bitsOf n x with
    | nil => rw [e] at ha; cases ha
    | cons c r =>
      rw [e] at h ha hb
      cases r with
      | nil =>
        rw [List.mem_singleton.mp ha, List.mem_singleton.mp hb]
        exact Nat.le_refl _
      | cons d r =>
        simp only [List.length_cons] at h
        omega
  · intro h
    cases e : bitsOf n x with
    | nil => decide
    | cons c r =>
      cases r with
      | nil => exact Nat.lt_succ_self 1
      | cons d r =>
        rw [e] at h hs
        have h1 := h c List.mem_cons_self d (List.mem_cons_of_mem _ List.mem_cons_self)
        have h2 := (List.pairwise_cons.mp hs).1 d List.mem_cons_self
        omega
theorem bit_and (a b k : Nat) : hasBit (a &&& b) k = (hasBit a k && hasBit b k) := by
  rw [hasBit_eq, hasBit_eq, hasBit_eq, Nat.testBit_and]
theorem apart_is (cs : List Cand) (n m : Nat) : Vahypc.isApart cs (bitsOf n m) = apF n (cs.map (·.mask)) m := by
  unfold Vahypc.isApart apF Vahypc.apart
  rw [List.all_map, Bool.eq_iff_iff]
  constructor
  · intro h
    rw [List.all_eq_true]
    intro c hc
    show decide ((bitsOf n (c.mask &&& m)).length < 2) = true
    rw [decide_eq_true_iff, few_is]
    intro a ha b hb
    obtain ⟨a1, a2⟩ := bits_mem.mp ha
    obtain ⟨b1, b2⟩ := bits_mem.mp hb
    rw [bit_and, Bool.and_eq_true] at a2 b2
    have := List.all_eq_true.mp h a (bits_mem.mpr ⟨a1, a2.2⟩)
    have := List.all_eq_true.mp this b (bits_mem.mpr ⟨b1, b2.2⟩)
    rw [Bool.or_eq_true] at this
    rcases this with q | q
    · exact of_decide_eq_true q
    · have := List.all_eq_true.mp q c hc
      rw [a2.1, b2.1] at this
      cases this
  · intro h
    rw [List.all_eq_true]
    intro a ha
    rw [List.all_eq_true]
    intro b hb
    rw [Bool.or_eq_true]
    by_cases q : b ≤ a
    · exact .inl (decide_eq_true q)
    · refine .inr (List.all_eq_true.mpr fun c hc => ?_)
      have := List.all_eq_true.mp h c hc
      have this : decide ((bitsOf n (c.mask &&& m)).length < 2) = true := this
      rw [decide_eq_true_iff, few_is] at this
      cases e : (hasBit c.mask a && hasBit c.mask b) with
      | false => rfl
      | true =>
        rw [Bool.and_eq_true] at e
        obtain ⟨a1, a2⟩ := bits_mem.mp ha
        obtain ⟨b1, b2⟩ := bits_mem.mp hb
        exact absurd (this a (bits_mem.mpr ⟨a1, by rw [bit_and, e.1, a2]; rfl⟩) b (bits_mem.mpr ⟨b1, by rw [bit_and, e.2, b2]; rfl⟩)) q
/-! ### the greatest set that is apart -/
def pop (n m : Nat) : Nat := (bitsOf n m).length
def stepP2 (n : Nat) (A : Nat → Bool) (b m : Nat) : Nat := if (decide (pop n b < pop n m) && A m) = true then m else b
/-- r stands ahead of m -/
def Ahead (n r m : Nat) : Prop := pop n m < pop n r ∨ (pop n m = pop n r ∧ (m = r ∨ listLt (bl n r) (bl n m) = true))
theorem fold_best {n : Nat} {A : Nat → Bool} : ∀ (l : List Nat) (b : Nat), (∀ m ∈ l, m = b ∨ listLt (bl n b) (bl n m) = true) → (l.Pairwise fun a b => listLt (bl n a) (bl n b) = true) →
    (l.foldl (stepP2 n A) b = b ∨ (l.foldl (stepP2 n A) b ∈ l ∧ A (l.foldl (stepP2 n A) b) = true)) ∧ pop n b ≤ pop n (l.foldl (stepP2 n A) b) ∧ (pop n b = pop n (l.foldl (stepP2 n A) b) → l.foldl (stepP2 n A) b = b) ∧ ∀ m ∈ l, A m = true → Ahead n (l.foldl (stepP2 n A) b) m
  | [], b, _, _ => ⟨.inl rfl, Nat.le_refl _, fun _ => rfl, fun m h => by cases h⟩
  | x :: l, b, h1, h2 => by
    obtain ⟨p1, p2⟩ := List.pairwise_cons.mp h2
    rw [List.foldl_cons]
    by_cases c : (decide (pop n b < pop n x) && A x) = true
    · have e : stepP2 n A b x = x := if_pos c
      rw [e]
      rw [Bool.and_eq_true] at c
      have c1 := of_decide_eq_true c.1
      obtain ⟨i1, i2, i3, i4⟩ := fold_best (A := A) l x (fun m hm => .inr (p1 m hm)) p2
      refine ⟨.inr ?_, by omega, fun z => by omega, fun m hm hA => ?_⟩
      · rcases i1 with q | q
        · exact ⟨by rw [q]; exact List.mem_cons_self, by rw [q]; exact c.2⟩
        · exact ⟨List.mem_cons_of_mem _ q.1, q.2⟩
      · rcases List.mem_cons.mp hm with q | q
        · subst q
          rcases Nat.lt_or_eq_of_le i2 with z | z
          · exact .inl z
          · exact .inr ⟨z, .inl (i3 z).symm⟩
        · exact i4 m q hA
    · have e : stepP2 n A b x = b := if_neg c
      rw [e]
      obtain ⟨i1, i2, i3, i4⟩ := fold_best (A := A) l b (fun m hm => h1 m (List.mem_cons_of_mem _ hm)) p2
      refine ⟨i1.imp id fun q => ⟨List.mem_cons_of_mem _ q.1, q.2⟩, i2, i3, fun m hm hA => ?_⟩
      rcases List.mem_cons.mp hm with q | q
      · subst q
        have hle : ¬ pop n b < pop n m := fun z => c (by rw [Bool.and_eq_true]; exact ⟨decide_eq_true z, hA⟩)
        rcases Nat.lt_or_eq_of_le i2 with z | z
        · exact .inl (by omega)
        · rcases Nat.lt_or_eq_of_le (show pop n m ≤ pop n b by omega) with y | y
          · exact .inl (by omega)
          · refine .inr ⟨by omega, ?_⟩
            rw [i3 z]
            exact h1 m List.mem_cons_self
      · exact i4 m q hA
theorem bl_inj {n a b : Nat} (ha : a < 2 ^ n) (hb : b < 2 ^ n) (h : bl n a = bl n b) : a = b := by
  refine Nat.eq_of_testBit_eq fun i => ?_
  rw [← hasBit_eq, ← hasBit_eq]
  by_cases hi : i < n
  · have e1 : (bl n a)[i]? = (bl n b)[i]? := by rw [h]
    unfold bl at e1
    rw [List.getElem?_map, List.getElem?_map, List.getElem?_range hi] at e1
    have e1 : ((a / 2 ^ i % 2 : Nat) : Int) = ((b / 2 ^ i % 2 : Nat) : Int) := Option.some.inj e1
    unfold hasBit
    rw [show a / 2 ^ i % 2 = b / 2 ^ i % 2 by omega]
  · rw [bit_hi ha (by omega), bit_hi hb (by omega)]
theorem key_ahead {n r m : Nat} (hr : r < 2 ^ n) (hm : m < 2 ^ n) (h : Ahead n r m) : keyOf n m = keyOf n r ∨ DatumOrd.lt (keyOf n r) (keyOf n m) = true ∧ DatumOrd.lt (keyOf n m) (keyOf n r) = false := by
  have lt_is : ∀ a b : Nat, a < 2 ^ n → b < 2 ^ n → DatumOrd.lt (keyOf n a) (keyOf n b) = if pop n a = pop n b then (if a = b then false else listLt (bl n a) (bl n b)) else decide (pop n b < pop n a) := by
    intro a b ha hb
    show (if ((-((bitsOf n a).length : Int), bl n a) : Int × List Int) = (-((bitsOf n b).length : Int), bl n b) then decide ((a : Int) < (b : Int)) else if (-((bitsOf n a).length : Int)) = (-((bitsOf n b).length : Int)) then listLt (bl n a) (bl n b) else decide (-((bitsOf n a).length : Int) < -((bitsOf n b).length : Int))) = _
    unfold pop
    by_cases e : (bitsOf n a).length = (bitsOf n b).length
    · by_cases e2 : a = b
      · subst e2
        rw [if_pos rfl, if_pos rfl, if_pos rfl]
        exact decide_eq_false (by omega)
      · rw [if_neg (fun z => e2 (bl_inj ha hb (Prod.mk.inj z).2)), if_pos (by rw [e]), if_pos e, if_neg e2]
    · rw [if_neg (fun z => e (by have := (Prod.mk.inj z).1; omega)), if_neg (fun z => e (by omega)), if_neg e, decide_eq_decide]
      omega
  rw [lt_is r m hr hm, lt_is m r hm hr]
  rcases h with h | ⟨h1, h2⟩
  · right
    rw [if_neg (by omega), if_neg (by omega)]
    exact ⟨decide_eq_true h, decide_eq_false (by omega)⟩
  · rcases h2 with h2 | h2
    · left; rw [h2]
    · by_cases e : m = r
      · left; rw [e]
      · right
        rw [if_pos h1.symm, if_neg (fun z => e z.symm), if_pos h1, if_neg e]
        exact ⟨h2, ll_asym h2⟩
theorem min_is {α : Type} [DecidableEq α] [DatumOrd α] {k : α} : ∀ (xs : List α) (x : α), k ∈ x :: xs → (∀ y ∈ x :: xs, y = k ∨ DatumOrd.lt k y = true ∧ DatumOrd.lt y k = false) → DatumOrd.lt k k = false → minOf x xs = k
  | [], x, hk, _, _ => (List.mem_singleton.mp hk).symm
  | y :: ys, x, hk, h, irr => by
    have e : minOf x (y :: ys) = minOf (if DatumOrd.lt y x = true then y else x) ys := rfl
    rw [e]
    have hx := h x List.mem_cons_self
    have hy := h y (List.mem_cons_of_mem _ List.mem_cons_self)
    refine min_is ys _ ?_ (fun z hz => ?_) irr
    · rcases List.mem_cons.mp hk with q | q
      · subst q
        have hn : ¬ DatumOrd.lt y k = true := by
          rcases hy with q | q
          · rw [q, irr]; exact Bool.false_ne_true
          · rw [q.2]; exact Bool.false_ne_true
        rw [if_neg hn]
        exact List.mem_cons_self
      · rcases List.mem_cons.mp q with q | q
        · subst q
          rcases hx with z | z
          · subst z
            rw [irr, if_neg Bool.false_ne_true]
            exact List.mem_cons_self
          · rw [if_pos z.1]
            exact List.mem_cons_self
        · exact List.mem_cons_of_mem _ q
    · rcases List.mem_cons.mp hz with q | q
      · subst q
        split
        · exact hy
        · exact hx
      · exact h z (List.mem_cons_of_mem _ (List.mem_cons_of_mem _ q))
end Lp
namespace Lp
open Vahypa (Word Lst Pat)
open Vahypc (hasBit lowest Goal Choice better Cand slim putCand gain)
open PySem.W (listLt DatumOrd minOf)
theorem masks_head (n : Nat) : ∃ l, masksBy n = 0 :: l := by
  induction n with
  | zero => exact ⟨[], rfl⟩
  | succ n ih =>
    obtain ⟨l, e⟩ := ih
    unfold masksBy
    rw [e, List.flatMap_cons]
    exact ⟨_, rfl⟩
theorem bits_zero (n : Nat) : bitsOf n 0 = [] := by
  unfold bitsOf
  rw [List.filter_eq_nil_iff]
  intro k _
  rw [hasBit_zero]
  exact Bool.false_ne_true
theorem bound_is {s : Lst} (W : Wf s) {m : Nat} (Pf : PreF (famOf s m)) : Vahypc.packed s (Vahypc.family s m) = bitsOf (famOf s m).goals.length (boundM (famOf s m)) := by
  obtain ⟨fam, hfam⟩ : ∃ fam, fam = famOf s m := ⟨_, rfl⟩
  obtain ⟨n, hn⟩ : ∃ n, n = (famOf s m).goals.length := ⟨_, rfl⟩
  have eg : (Vahypc.goals s).length = n := by rw [hn, ← goals_is W]; rfl
  have ec : (slim (candsF fam)).map (·.mask) = coversOf fam := by
    unfold coversOf usedF
    rw [List.map_map]
    refine List.map_congr_left fun c hc => ?_
    exact (cand_is (slim_mem c hc)).2.1
  unfold Vahypc.packed
  dsimp only
  rw [cands_is W, eg, rows_is, List.foldl_map, ← hfam]
  rw [← hfam] at hn
  rw [← hn]
  obtain ⟨A, hA⟩ : ∃ A, A = apF n (coversOf fam) := ⟨_, rfl⟩
  have e1 : ∀ (l : List Nat) (b : Nat), l.foldl (fun r x => if (decide (r.length < (bitsOf n x).length) && Vahypc.isApart (slim (candsF fam)) (bitsOf n x)) = true then bitsOf n x else r) (bitsOf n b) = bitsOf n (l.foldl (stepP2 n A) b) := by
    intro l
    induction l with
    | nil => intro b; rfl
    | cons x l ih =>
      intro b
      rw [List.foldl_cons, List.foldl_cons, ← ih]
      congr 1
      rw [apart_is, ec, ← hA]
      unfold stepP2 pop
      split <;> rfl
  have e0 := e1 (masksBy n) 0
  rw [bits_zero] at e0
  rw [e0]
  congr 1
  obtain ⟨l, hl⟩ := masks_head n
  have hord := masks_order n
  obtain ⟨f1, _, _, f4⟩ := fold_best (n := n) (A := A) (masksBy n) 0 (fun x hx => by
    rw [hl] at hx hord
    rcases List.mem_cons.mp hx with q | q
    · exact .inl q
    · exact .inr ((List.pairwise_cons.mp hord).1 x q)) hord
  obtain ⟨r, hr⟩ : ∃ r, r = (masksBy n).foldl (stepP2 n A) 0 := ⟨_, rfl⟩
  rw [← hr] at f1 f4 ⊢
  have hA0 : A 0 = true := by rw [hA]; exact apF_zero _ _
  have hr2 : r < 2 ^ n ∧ A r = true := by
    rcases f1 with q | q
    · rw [q]; exact ⟨Nat.two_pow_pos n, hA0⟩
    · exact ⟨masks_lt n r q.1, q.2⟩
  obtain ⟨xs, hxs⟩ := keys_cons fam
  have hn2 : fam.goals.length = n := hn.symm
  rw [hn2, ← hA] at hxs
  have hmem : ∀ y ∈ keyOf n 0 :: xs, ∃ q, q < 2 ^ n ∧ A q = true ∧ y = keyOf n q := by
    intro y hy
    rw [← hxs] at hy
    obtain ⟨q, hq, e⟩ := List.mem_map.mp hy
    rw [List.mem_filter, List.mem_range] at hq
    exact ⟨q, hq.1, hq.2, e.symm⟩
  have hmin : minOf (keyOf n 0) xs = keyOf n r := by
    refine min_is xs _ ?_ (fun y hy => ?_) ?_
    · rw [← hxs]
      exact List.mem_map.mpr ⟨r, List.mem_filter.mpr ⟨List.mem_range.mpr hr2.1, hr2.2⟩, rfl⟩
    · obtain ⟨q, h1, h2, e⟩ := hmem y hy
      rw [e]
      exact key_ahead hr2.1 h1 (f4 q (masks_all n q h1) h2)
    · show (if ((-((bitsOf n r).length : Int), bl n r) : Int × List Int) = (-((bitsOf n r).length : Int), bl n r) then decide ((r : Int) < (r : Int)) else _) = false
      rw [if_pos rfl]
      exact decide_eq_false (by omega)
  unfold boundM
  rw [hn2, ← hA, hxs]
  show r = (minOf (keyOf n 0) xs).2.toNat
  rw [hmin]
  show r = (r : Int).toNat
  omega
end Lp
namespace Lp
open Vahypa (Word Lst Pat)
open Vahypc (hasBit lowest Goal Choice better Cand slim putCand gain)
def toL : Told → List Int
  | .inl e => [e]
  | .inr l => l
theorem ans_toL (h : Option Lst) (c : Int) (n row : List Int) : ansF h c n row = toL (toldF h c n row) := by
  unfold ansF toL
  cases toldF h c n row <;> rfl
abbrev enc (a : VahypBase.Answer) : List Int := VahypcNeutral.encode a
theorem with_is {t : Lst} (W : Wf t) (Pl : PreL t) {m : Int} {f : List Pat → VahypBase.Answer} {k : Fam → Told} (h : ∀ n, PreF (famOf t n) → enc (f (Vahypc.family t n)) = toL (k (famOf t n))) : enc (Vahypc.withFamily t m f) = toL (withF (some t) m k) := by
  have eR : famR (some t) m = if ¬ (1 ≤ m ∧ m ≤ 4) then .inl (-3) else if 9 < (Vahypc.goals t).length then .inl (-6) else .inr (t, m.toNat) := by
    rw [← goals_is W]
    rfl
  unfold Vahypc.withFamily
  have e : (Vahypc.LENGTH : Int) = 4 := rfl
  rw [e]
  by_cases h1 : 1 ≤ m ∧ m ≤ 4
  · rw [if_neg (by omega)]
    rw [if_neg (fun z => z h1)] at eR
    by_cases h2 : 9 < (Vahypc.goals t).length
    · rw [if_pos h2] at eR
      rw [if_pos (show Vahypc.COUNT < (Vahypc.goals t).length from h2), withF_l eR]
      rfl
    · rw [if_neg h2] at eR
      rw [if_neg (show ¬ Vahypc.COUNT < (Vahypc.goals t).length from h2), withF_r eR]
      exact h _ (preF Pl (by omega) (by rw [goals_is W]; omega))
  · rw [if_pos h1] at eR
    rw [if_pos (by omega), withF_l eR]
    rfl
theorem row_is (g : Goal) : Vahypc.goalRow g = goalI g := rfl
theorem nats_is (l : List Nat) : VahypBase.nats l = natsI l := rfl
theorem len_pieces {t : Lst} (W : Wf t) (n : Nat) : (Vahypc.family t n).length = (famOf t n).pieces.length := by
  rw [← family_is W, List.length_map]
  rfl
theorem used_is {t : Lst} (W : Wf t) (n : Nat) : (slim (Vahypc.candsOf t (Vahypc.family t n))).length = (usedF (famOf t n)).length := by
  rw [cands_is W]
  unfold usedF
  rw [List.length_map]
theorem goals_told_is {t : Lst} (W : Wf t) : enc (Vahypc.looked t .goals) = toL (goalsTold (some t)) := by
  show ((Vahypc.goals t).length : Int) :: (Vahypc.goals t).flatMap Vahypc.goalRow = ((goalsF t).length : Int) :: (goalsF t).flatMap goalI
  rw [goals_is W]
  rfl
theorem family_told_is {t : Lst} (W : Wf t) (Pl : PreL t) (m : Int) : enc (Vahypc.looked t (.family m)) = toL (withF (some t) m famTold) := by
  refine with_is W Pl fun n Pf => ?_
  show ((Vahypc.family t n).length : Int) :: (VahypBase.nats [(slim (Vahypc.candsOf t (Vahypc.family t n))).length] ++ _) = [_, _] ++ _
  rw [len_pieces W, used_is W, bare_all W]
  cases lackF (famOf t n) <;> rfl
theorem choice_row (c : Choice) (fam : Fam) (h : c.bytes = sizeSum fam c.ks) : enc ⟨1, Vahypc.choiceRow c⟩ = setTold fam c.ks := by
  unfold setTold
  rw [sizeSum_int, ← h]
  show (1 : Int) :: (natsI (c.bytes :: c.ks.length :: c.ks)) = [1, (c.bytes : Int)] ++ (((natsI c.ks).length : Int) :: natsI c.ks)
  have e : (natsI c.ks).length = c.ks.length := by unfold natsI; rw [List.length_map]
  rw [e]
  rfl
theorem least_told_is {t : Lst} (W : Wf t) (Pl : PreL t) (m k : Int) : enc (Vahypc.looked t (.least m k)) = toL (withF (some t) m (leastTold k)) := by
  refine with_is W Pl fun n Pf => ?_
  unfold leastTold
  by_cases hk : k = 0 ∨ k = 1
  · rw [if_neg (by omega), if_pos hk]
    rw [bare_all W, least_is W Pf]
    unfold lackT
    cases el : lackF (famOf t n) with
    | some g => rfl
    | none =>
      obtain ⟨c, hc⟩ := least_there Pf k.toNat el
      have ek : leastKs (famOf t n) k.toNat = c.ks := by
        unfold leastKs
        rw [hc]
        rfl
      dsimp only
      rw [if_pos rfl, ek, hc]
      exact choice_row c _ (kn_sum _ _ _ _ _ _ hc)
  · rw [if_pos (by omega), if_neg hk]
    rfl
theorem greedy_told_is {t : Lst} (W : Wf t) (Pl : PreL t) (m : Int) : enc (Vahypc.looked t (.greedy m)) = toL (withF (some t) m greedTold) := by
  refine with_is W Pl fun n Pf => ?_
  unfold greedTold
  rw [bare_all W, greedy_is W Pf]
  unfold lackT
  cases el : lackF (famOf t n) with
  | some g => rfl
  | none =>
    dsimp only
    rw [if_pos rfl]
    exact choice_row _ _ rfl
theorem bound_told_is {t : Lst} (W : Wf t) (Pl : PreL t) (m : Int) : enc (Vahypc.looked t (.bound m)) = toL (withF (some t) m boundTold) := by
  refine with_is W Pl fun n Pf => ?_
  unfold boundTold
  rw [bound_is W Pf]
  show ((bitsOf _ _).length : Int) :: natsI (bitsOf _ _) = lnF (natsI (bitsOf _ _))
  unfold lnF
  congr 1
  unfold natsI
  rw [List.length_map]
theorem check_told_is {t : Lst} (W : Wf t) (Pl : PreL t) (m : Int) (l : List Int) : enc (Vahypc.looked t (.check m l)) = toL (withF (some t) m (checkTold l)) := by
  refine with_is W Pl fun n Pf => ?_
  unfold checkTold
  have e : (l.all fun z => (VahypBase.index z (Vahypc.family t n).length).isSome) = (l.all fun i => decide (0 ≤ i) && decide (i < ((famOf t n).pieces.length : Int))) := by
    rw [len_pieces W]
    congr 1
    funext z
    unfold VahypBase.index
    by_cases h : 0 ≤ z ∧ z < ((famOf t n).pieces.length : Int)
    · rw [if_pos h, decide_eq_true h.1, decide_eq_true h.2]
      rfl
    · rw [if_neg h]
      symm
      rw [Option.isSome_none, Bool.and_eq_false_iff]
      by_cases q : 0 ≤ z
      · exact .inr (decide_eq_false fun y => h ⟨q, y⟩)
      · exact .inl (decide_eq_false q)
  rw [e]
  by_cases h : (l.all fun i => decide (0 ≤ i) && decide (i < ((famOf t n).pieces.length : Int))) = true
  · rw [if_neg (by rw [h]; exact fun z => by cases z), if_pos h]
    have hl : ∀ z ∈ l, 0 ≤ z ∧ z < ((piecesF t n).length : Int) := fun z hz => by
      have := List.all_eq_true.mp h z hz
      rw [Bool.and_eq_true] at this
      exact ⟨of_decide_eq_true this.1, of_decide_eq_true this.2⟩
    rw [bare_some W n hl]
    cases firstL (famOf t n).goals (orOf (famOf t n).covers (l.map Int.toNat)) <;> rfl
  · rw [if_pos (by simpa using h), if_neg h]
    rfl
end Lp
namespace Lp
open Vahypa (Word Lst Pat)
open Vahypc (hasBit lowest Goal Choice better Cand slim putCand gain)
theorem piece_told_is {t : Lst} (W : Wf t) (Pl : PreL t) (m i : Int) : enc (Vahypc.looked t (.piece m i)) = toL (withF (some t) m (pieceTold i)) := by
  refine with_is W Pl fun n Pf => ?_
  unfold pieceTold
  have el := len_pieces W n
  by_cases h : 0 ≤ i ∧ i < ((famOf t n).pieces.length : Int)
  · have hi : i.toNat < (famOf t n).pieces.length := by omega
    have hi' : i.toNat < (piecesF t n).length := hi
    have e1 : VahypBase.index i (Vahypc.family t n).length = some i.toNat := by
      unfold VahypBase.index
      rw [el, if_pos h]
    have hm : (piecesF t n)[i.toNat] ∈ piecesF t n := List.getElem_mem hi'
    have e2 : (Vahypc.family t n)[i.toNat]? = some (pat (piecesF t n)[i.toNat]) := by
      rw [← family_is W, List.getElem?_map, List.getElem?_eq_getElem hi']
      rfl
    have e3 : (famOf t n).pieces.getD i.toNat ⟨[], 0, false, false⟩ = (piecesF t n)[i.toNat] := by
      show (piecesF t n).getD i.toNat _ = _
      rw [List.getD_eq_getElem?_getD, List.getElem?_eq_getElem hi']
      rfl
    have e4 : (famOf t n).covers.getD i.toNat 0 = coveredF t (goalsF t) (piecesF t n)[i.toNat] := by
      show ((piecesF t n).map (coveredF t (goalsF t))).getD i.toNat _ = _
      rw [List.getD_eq_getElem?_getD, List.getElem?_map, List.getElem?_eq_getElem hi']
      rfl
    rw [if_pos h, e1]
    show enc (match (Vahypc.family t n)[i.toNat]? with
      | none => VahypBase.one (-2)
      | some p => ⟨((Vahypa.showPat p).length : Int), (Vahypa.showPat p).map (fun c => (c.toNat : Int)) ++ VahypBase.nats (((List.range (Vahypc.goals t).length).filter (hasBit (Vahypc.covers t p))).length :: (List.range (Vahypc.goals t).length).filter (hasBit (Vahypc.covers t p)))⟩) = _
    rw [e2, e3, e4]
    dsimp only
    rw [show_is (pieces_at hm), covers_is W (pieces_at hm), ← goals_is W]
    show ((chunkF (piecesF t n)[i.toNat]).length : Int) :: ((chunkF (piecesF t n)[i.toNat]).map (fun c => (c.toNat : Int)) ++ natsI ((bitsOf (goalsF t).length (coveredF t (goalsF t) (piecesF t n)[i.toNat])).length :: bitsOf (goalsF t).length (coveredF t (goalsF t) (piecesF t n)[i.toNat]))) = lnF (natsI ((chunkF (piecesF t n)[i.toNat]).map UInt8.toNat)) ++ lnF (natsI (bitsOf (goalsF t).length (coveredF t (goalsF t) (piecesF t n)[i.toNat])))
    unfold lnF natsI
    rw [List.length_map, List.length_map, List.map_map, List.length_map]
    rfl
  · rw [if_neg h]
    have e1 : VahypBase.index i (Vahypc.family t n).length = none := by
      unfold VahypBase.index
      rw [el, if_neg h]
    rw [e1]
    rfl
/-! ### one call -/
theorem looked_pats (l r : Nat) (ws : List Word) (p q : List Pat) (c : Vahypc.Call) : Vahypc.looked ⟨l, r, ws, p⟩ c = Vahypc.looked ⟨l, r, ws, q⟩ c := by
  cases c <;> rfl
/-- what is read, told by the mirror -/
def ReadIs (b : List UInt8) : Prop := match Vahypa.read b with
  | .ok s => ∃ r, readF b = .inr r ∧ s.l = r.1 ∧ s.r = r.2.1 ∧ s.words = r.2.2.1 ∧ s.pats.length = r.2.2.2 ∧ Wf (lstOf r)
  | .error f => readF b = .inl (f.code, f.place)
/-- the document's object and the keeper's -/
def RelO2 : Vahypc.Obj → Option Lst → Prop
  | none, none => True
  | some s, some t => s.l = t.l ∧ s.r = t.r ∧ s.words = t.words ∧ Wf t ∧ PreL t
  | _, _ => False
theorem rel_ph {o : Vahypc.Obj} {h : Option Lst} (R : RelO2 o h) : PreH h := by
  intro s e
  subst e
  cases o with
  | none => exact R.elim
  | some t => exact R.2.2.2.2
theorem look_is {o : Vahypc.Obj} {h : Option Lst} (R : RelO2 o h) {c : Vahypc.Call} {p : Int} {ns row : List Int} (hc : ∀ b, c ≠ .load b) (h1 : ∀ t, Wf t → PreL t → enc (Vahypc.looked t c) = toL (toldF (some t) p ns row)) (h0 : toldF none p ns row = .inl (-1)) : (Vahypc.step o c).1 = o ∧ enc (Vahypc.step o c).2 = ansF h p ns row := by
  rw [ans_toL]
  cases o with
  | none =>
    cases h with
    | some t => exact R.elim
    | none =>
      rw [h0]
      cases c with
      | load b => exact absurd rfl (hc b)
      | _ => exact ⟨rfl, rfl⟩
  | some s =>
    cases h with
    | none => exact R.elim
    | some t =>
      obtain ⟨r1, r2, r3, r4, r5⟩ := R
      rw [← h1 t r4 r5]
      have e : Vahypc.looked s c = Vahypc.looked t c := by
        obtain ⟨l, r, ws, p⟩ := s
        obtain ⟨l', r', ws', p'⟩ := t
        simp only at r1 r2 r3
        subst r1 r2 r3
        exact looked_pats _ _ _ _ _ _
      rw [← e]
      cases c with
      | load b => exact absurd rfl (hc b)
      | _ => exact ⟨rfl, rfl⟩
theorem load_is {o : Vahypc.Obj} {h : Option Lst} (R : RelO2 o h) {b : List UInt8} (hr : ReadIs b) : RelO2 (Vahypc.step o (.load b)).1 (loadH h b) ∧ enc (Vahypc.step o (.load b)).2 = loadT b := by
  have e : Vahypc.step o (.load b) = Vahypa.step o (.load b) := by cases o <;> rfl
  rw [e]
  unfold ReadIs at hr
  have e2 : Vahypa.step o (.load b) = match Vahypa.read b with
    | .ok s => (some s, ⟨1, VahypBase.nats [s.words.length, s.pats.length]⟩)
    | .error f => (o, VahypBase.faulty f) := by cases o <;> rfl
  rw [e2]
  cases hq : Vahypa.read b with
  | error f =>
    rw [hq] at hr
    dsimp only at hr ⊢
    unfold loadH loadT
    rw [hr]
    exact ⟨R, rfl⟩
  | ok s =>
    rw [hq] at hr
    obtain ⟨r, h1, h2, h3, h4, h5, h6⟩ := hr
    obtain ⟨w1, w2⟩ := readF_words h1
    unfold loadH loadT
    rw [h1]
    dsimp only
    refine ⟨⟨h2, h3, h4, h6, w1, fun v hv => (w2 v hv).1, fun v hv => (w2 v hv).2⟩, ?_⟩
    rw [h4, h5]
    rfl
end Lp
namespace Lp
open Vahypa (Word Lst Pat)
open Vahypc (hasBit lowest Goal Choice better Cand slim putCand gain)
inductive Form : List (List Int) → Prop
  | load (row : List Int) : Form [[0], row]
  | goals : Form [[1]]
  | family (m : Int) : Form [[2, m]]
  | piece (m i : Int) : Form [[3, m, i]]
  | least (m i : Int) : Form [[4, m, i]]
  | greedy (m : Int) : Form [[5, m]]
  | bound (m : Int) : Form [[6, m]]
  | check (m : Int) (row : List Int) : Form [[7, m], row]
theorem call_form {p : Int} {r : List Int} {c : List (List Int)} {t : List Int} (h : PyFlat.call PyVahypc.shape (p :: r) = some (c, t)) : Form c := by
  obtain ⟨nn, rr, hsh, hnn, hr0, hr1⟩ := call_cut h
  have one : 1 ≤ r.length → ∃ m, r.take 1 = [m] := fun z => by
    cases r with
    | nil => cases z
    | cons m r => exact ⟨m, rfl⟩
  have two : 2 ≤ r.length → ∃ m i, r.take 2 = [m, i] := fun z => by
    cases r with
    | nil => cases z
    | cons m r =>
      cases r with
      | nil => simp at z
      | cons i r => exact ⟨m, i, rfl⟩
  unfold PyVahypc.shape at hsh
  split at hsh
  · rename_i e; subst e; cases hsh
    obtain ⟨z, _, _, hc, _⟩ := hr1 rfl
    rw [hc]
    exact .load _
  split at hsh
  · rename_i e; subst e; cases hsh
    rw [(hr0 rfl).1]
    exact .goals
  split at hsh
  · rename_i e; subst e; cases hsh
    obtain ⟨m, e⟩ := one hnn
    rw [(hr0 rfl).1, e]
    exact .family m
  split at hsh
  · rename_i e; subst e; cases hsh
    obtain ⟨m, i, e⟩ := two hnn
    rw [(hr0 rfl).1, e]
    exact .piece m i
  split at hsh
  · rename_i e; subst e; cases hsh
    obtain ⟨m, i, e⟩ := two hnn
    rw [(hr0 rfl).1, e]
    exact .least m i
  split at hsh
  · rename_i e; subst e; cases hsh
    obtain ⟨m, e⟩ := one hnn
    rw [(hr0 rfl).1, e]
    exact .greedy m
  split at hsh
  · rename_i e; subst e; cases hsh
    obtain ⟨m, e⟩ := one hnn
    rw [(hr0 rfl).1, e]
    exact .bound m
  split at hsh
  · rename_i e; subst e; cases hsh
    obtain ⟨z, _, _, hc, _⟩ := hr1 rfl
    obtain ⟨m, e⟩ := one hnn
    rw [hc, e]
    exact .check m _
  · cases hsh
theorem calls_form : ∀ (f : Nat) (l : List Int) (cs : List (List (List Int))), PyFlat.calls PyVahypc.shape f l = some cs → ∀ c ∈ cs, Form c
  | f, [], cs, h, c, hc => by
    rw [calls_nil h] at hc
    cases hc
  | 0, p :: r, cs, h, c, hc => by cases h
  | f + 1, p :: r, cs, h, c, hc => by
    unfold PyFlat.calls at h
    cases e : PyFlat.call PyVahypc.shape (p :: r) with
    | none => rw [e] at h; cases h
    | some x =>
      obtain ⟨c', t⟩ := x
      rw [e] at h
      dsimp only at h
      cases e2 : PyFlat.calls PyVahypc.shape f t with
      | none => rw [e2] at h; cases h
      | some cs' =>
        rw [e2] at h
        cases h
        rcases List.mem_cons.mp hc with q | q
        · rw [q]; exact call_form e
        · exact calls_form f t cs' e2 c q
theorem whole_is (c : List (List Int)) : PyVahypc.whole c = c := by
  unfold PyVahypc.whole
  split <;> rfl
theorem step_is (hR : ∀ b, ReadIs b) {o : Vahypc.Obj} {h : Option Lst} (R : RelO2 o h) {c : List (List Int)} (F : Form c) (O : OkCall c) : (VahypcNeutral.step o c).2 = (stepC h c).2 ∧ RelO2 (VahypcNeutral.step o c).1 (stepC h c).1 := by
  have pure_ : ∀ {k : Vahypc.Call} {p : Int} {ns row : List Int}, (VahypcNeutral.step o c = ((Vahypc.step o k).1, enc (Vahypc.step o k).2)) → stepC h c = (h, ansF h p ns row) → (∀ b, k ≠ .load b) → (∀ t, Wf t → PreL t → enc (Vahypc.looked t k) = toL (toldF (some t) p ns row)) → toldF none p ns row = .inl (-1) → (VahypcNeutral.step o c).2 = (stepC h c).2 ∧ RelO2 (VahypcNeutral.step o c).1 (stepC h c).1 := by
    intro k p ns row e1 e2 hk h1 h0
    obtain ⟨q1, q2⟩ := look_is R hk h1 h0
    rw [e1, e2]
    exact ⟨q2, by rw [q1]; exact R⟩
  cases F with
  | load row =>
    have hb : ∀ z ∈ row, 0 ≤ z ∧ z < 256 := O.1 rfl
    have e1 : VahypcNeutral.callOf [[0], row] = some (.load (VahypcNeutral.bytesOf row)) := by
      show (if NeutralIO.bytes row = true then _ else _) = _
      rw [if_pos]
      unfold NeutralIO.bytes
      rw [List.all_eq_true]
      intro z hz
      have := hb z hz
      simp
      omega
    obtain ⟨q1, q2⟩ := load_is R (hR (VahypcNeutral.bytesOf row))
    unfold VahypcNeutral.step
    rw [e1]
    exact ⟨q2, q1⟩
  | goals => exact pure_ (k := .goals) (p := 1) (ns := []) (row := []) rfl rfl (fun b z => by cases z) (fun t W Pl => goals_told_is W) rfl
  | family m => exact pure_ (k := .family m) (p := 2) (ns := [m]) (row := []) rfl rfl (fun b z => by cases z) (fun t W Pl => family_told_is W Pl m) rfl
  | piece m i => exact pure_ (k := .piece m i) (p := 3) (ns := [m, i]) (row := []) rfl rfl (fun b z => by cases z) (fun t W Pl => piece_told_is W Pl m i) rfl
  | least m i => exact pure_ (k := .least m i) (p := 4) (ns := [m, i]) (row := []) rfl rfl (fun b z => by cases z) (fun t W Pl => least_told_is W Pl m i) rfl
  | greedy m => exact pure_ (k := .greedy m) (p := 5) (ns := [m]) (row := []) rfl rfl (fun b z => by cases z) (fun t W Pl => greedy_told_is W Pl m) rfl
  | bound m => exact pure_ (k := .bound m) (p := 6) (ns := [m]) (row := []) rfl rfl (fun b z => by cases z) (fun t W Pl => bound_told_is W Pl m) rfl
  | check m row => exact pure_ (k := .check m row) (p := 7) (ns := [m]) (row := row) rfl rfl (fun b z => by cases z) (fun t W Pl => check_told_is W Pl m row) rfl
theorem played_is (hR : ∀ b, ReadIs b) : ∀ (cs : List (List (List Int))) (o : Vahypc.Obj) (h : Option Lst), RelO2 o h → (∀ c ∈ cs, Form c ∧ OkCall c) → PyFlat.played VahypcNeutral.step o (cs.map PyVahypc.whole) = PyFlat.played stepC h cs
  | [], _, _, _, _ => rfl
  | c :: cs, o, h, R, hc => by
    obtain ⟨F, O⟩ := hc c List.mem_cons_self
    obtain ⟨q1, q2⟩ := step_is hR R F O
    rw [List.map_cons, whole_is]
    show (VahypcNeutral.step o c).2 :: PyFlat.played VahypcNeutral.step (VahypcNeutral.step o c).1 (cs.map PyVahypc.whole) = (stepC h c).2 :: PyFlat.played stepC (stepC h c).1 cs
    rw [q1, played_is hR cs _ _ q2 fun c' h' => hc c' (List.mem_cons_of_mem _ h')]
end Lp
namespace Lp
open Vahypa (Word Lst Pat)
/-! ### what is asked -/
theorem inside_ok {c : List (List Int)} (F : Form c) (h : PyInside.call PyVahypc.bound c = true) : OkCall c := by
  cases F with
  | load row =>
    have h : (PyInside.each [] [] && (decide (0 ≤ row.length) && decide (row.length ≤ 8192) && row.all (PyInside.within 0 255) && PyInside.lists [] [])) = true := h
    rw [Bool.and_eq_true, Bool.and_eq_true, Bool.and_eq_true, Bool.and_eq_true] at h
    have h1 := of_decide_eq_true h.2.1.1.2
    have h2 := h.2.1.2
    refine ⟨fun _ z hz => ?_, by show row.length ≤ 10000; omega⟩
    have := List.all_eq_true.mp h2 z hz
    unfold PyInside.within at this
    rw [Bool.and_eq_true] at this
    have a1 := of_decide_eq_true this.1
    have a2 := of_decide_eq_true this.2
    omega
  | check m row =>
    have h : (PyInside.each [(-1000000000000000000, 1000000000000000000)] [m] && (decide (0 ≤ row.length) && decide (row.length ≤ 2000) && row.all (PyInside.within (-1000000000000000000) 1000000000000000000) && PyInside.lists [] [])) = true := h
    rw [Bool.and_eq_true, Bool.and_eq_true, Bool.and_eq_true, Bool.and_eq_true] at h
    have h1 := of_decide_eq_true h.2.1.1.2
    exact ⟨(fun z => by cases z), by show row.length ≤ 10000; omega⟩
  | goals => exact ⟨(fun z => by cases z), Nat.zero_le _⟩
  | family m => exact ⟨(fun z => by cases z), Nat.zero_le _⟩
  | piece m i => exact ⟨(fun z => by cases z), Nat.zero_le _⟩
  | least m i => exact ⟨(fun z => by cases z), Nat.zero_le _⟩
  | greedy m => exact ⟨(fun z => by cases z), Nat.zero_le _⟩
  | bound m => exact ⟨(fun z => by cases z), Nat.zero_le _⟩
theorem asked_is (hR : ∀ b, ReadIs b) {l : List Int} (h : PyVahypc.answers_asked l = true) : ∃ cs, PyFlat.calls PyVahypc.shape l.length l = some cs ∧ cs.length ≤ 20 ∧ (∀ c ∈ cs, OkCall c) ∧ PyVahypc.answers l = PyFlat.told (PyFlat.played stepC none cs) := by
  unfold PyVahypc.answers_asked at h
  cases e : PyFlat.calls PyVahypc.shape l.length l with
  | none => rw [e] at h; cases h
  | some cs =>
    rw [e] at h
    dsimp only at h
    rw [Bool.and_eq_true, Bool.and_eq_true, Bool.and_eq_true, Bool.and_eq_true] at h
    have h20 : cs.length ≤ 20 := of_decide_eq_true h.1.1.1.2
    have hin := h.1.1.2
    have hf := calls_form _ _ _ e
    have hok : ∀ c ∈ cs, OkCall c := fun c hc => inside_ok (hf c hc) (List.all_eq_true.mp hin c hc)
    refine ⟨cs, rfl, h20, hok, ?_⟩
    unfold PyVahypc.answers PyVahypc.calls
    rw [e]
    dsimp only
    rw [show VahypcNeutral.start = (none : Vahypc.Obj) from rfl, played_is hR cs none none trivial fun c hc => ⟨hf c hc, hok c hc⟩]
end Lp
namespace Lp
open VahypBase (isLetter isDigit inChunk isBlank)
open Vahypa (Word Lst Pat)
open Tr (splB)
/-! ### a word's chunk -/
def goodP (p : List UInt8) : Bool := !decide (p = []) && p.all isLetter
theorem spl_bad : ∀ (l acc : List UInt8), acc.all isLetter = false → (splB 45 acc l).all goodP = false
  | [], acc, h => by
    show (goodP acc && true) = false
    unfold goodP
    rw [h]
    simp
  | c :: r, acc, h => by
    unfold splB
    split
    · rw [List.all_cons]
      unfold goodP
      rw [h]
      simp
    · exact spl_bad r _ (by rw [List.all_append, h]; rfl)
theorem spl_ne : ∀ (l acc : List UInt8), splB 45 acc l ≠ []
  | [], acc => by unfold splB; simp
  | c :: r, acc => by
    unfold splB
    split
    · simp
    · exact spl_ne r _
theorem letter_ne {c : UInt8} (h : isLetter c = true) : c ≠ 45 := fun z => by rw [z] at h; exact absurd h (by decide)
theorem wordBy_is : ∀ (l : List UInt8) (n : Nat) (X acc : List UInt8) (cs : List Nat), l.length < n → acc.all isLetter = true → (acc ≠ [] ∨ ∃ c r, l = c :: r ∧ isLetter c = true) → (∀ g ∈ cs, g ≤ X.length) →
    Vahypa.wordBy n l (X ++ acc) cs = if (splB 45 acc l).all goodP = true then some ⟨X ++ (splB 45 acc l).flatten, cs ++ gapsL X.length (splB 45 acc l).dropLast⟩ else none
  | [], 0, _, _, _, h, _, _, _ => by cases h
  | _ :: _, 0, _, _, _, h, _, _, _ => by cases h
  | [], n + 1, X, acc, cs, _, hl, ha, hc => by
    have ha : acc ≠ [] := by
      rcases ha with q | ⟨c, r, e, _⟩
      · exact q
      · cases e
    unfold Vahypa.wordBy
    have e : splB 45 acc [] = [acc] := rfl
    rw [e]
    rw [if_pos (by show (goodP acc && true) = true; unfold goodP; rw [hl, decide_eq_false ha]; rfl)]
    simp [gapsL]
  | c :: r, n + 1, X, acc, cs, hn, hl, ha, hc => by
    have hn' : r.length < n := by simp only [List.length_cons] at hn; omega
    unfold Vahypa.wordBy
    dsimp only
    by_cases h1 : isLetter c = true
    · rw [if_pos h1]
      have e : splB 45 acc (c :: r) = splB 45 (acc ++ [c]) r := if_neg (letter_ne h1)
      rw [e, List.append_assoc]
      exact wordBy_is r n X (acc ++ [c]) cs hn' (by rw [List.all_append, hl]; simp [h1]) (.inl (by simp)) hc
    · rw [if_neg h1]
      have ha' : acc ≠ [] := by
        rcases ha with q | ⟨d, s, e, hd⟩
        · exact q
        · cases e
          exact absurd hd h1
      have hal : 0 < acc.length := List.length_pos_iff.mpr ha'
      by_cases h2 : c = 45
      · subst h2
        have hcon : cs.contains (X ++ acc).length = false := by
          cases q : cs.contains (X ++ acc).length with
          | false => rfl
          | true =>
            have := hc _ (List.contains_iff_mem.mp q)
            rw [List.length_append] at this
            omega
        rw [if_pos ⟨rfl, (fun z => ha' (List.append_eq_nil_iff.mp z).2), hcon⟩]
        have e : splB 45 acc (45 :: r) = acc :: splB 45 [] r := if_pos rfl
        have hg : goodP acc = true := by unfold goodP; rw [hl, decide_eq_false ha']; rfl
        rw [e, List.all_cons, hg, Bool.true_and]
        cases r with
        | nil => rfl
        | cons d s =>
          dsimp only
          by_cases h3 : isLetter d = true
          · rw [if_pos h3]
            have ih := wordBy_is (d :: s) n (X ++ acc) [] (cs ++ [(X ++ acc).length]) hn' rfl (.inr ⟨d, s, rfl, h3⟩) (fun g hg => by
              rcases List.mem_append.mp hg with q | q
              · have := hc g q
                rw [List.length_append]
                omega
              · rw [List.mem_singleton.mp q]
                exact Nat.le_refl _)
            rw [List.append_nil] at ih
            rw [ih]
            split
            · rw [List.flatten_cons, List.dropLast_cons_of_ne_nil (spl_ne _ _)]
              congr 1
              congr 1
              · rw [List.append_assoc]
              · show _ = cs ++ ((X.length + acc.length) :: gapsL (X.length + acc.length) _)
                rw [List.length_append, List.append_assoc]
                rfl
            · rfl
          · rw [if_neg h3]
            have hb : (splB 45 [] (d :: s)).all goodP = false := by
              unfold splB
              split
              · rfl
              · exact spl_bad s _ (by simp [h3])
            rw [hb]
            rfl
      · rw [if_neg (fun z => h2 (by simpa using z.1))]
        have e : splB 45 acc (c :: r) = splB 45 (acc ++ [c]) r := if_neg h2
        rw [e, spl_bad r _ (by rw [List.all_append]; simp [h1])]
        rfl
theorem word_is (b : List UInt8) : Vahypa.wordOf b = wordF b := by
  unfold Vahypa.wordOf wordF
  dsimp only
  have eg : (fun p : List UInt8 => !decide (p = []) && p.all isLetter) = goodP := rfl
  rw [eg]
  cases b with
  | nil => rfl
  | cons c r =>
    by_cases h : isLetter c = true
    · have := wordBy_is (c :: r) ((c :: r).length + 1) [] [] [] (Nat.lt_succ_self _) rfl (.inr ⟨c, r, rfl, h⟩) (fun g hg => by cases hg)
      rw [List.append_nil] at this
      rw [this]
      split
      · rw [Option.bind_some]
        show (if ([] ++ (splB 45 [] (c :: r)).flatten).length < 2 ∨ 16 < ([] ++ (splB 45 [] (c :: r)).flatten).length then none else some _) = _
        rw [List.nil_append]
        by_cases q : 2 ≤ (splB 45 [] (c :: r)).flatten.length ∧ (splB 45 [] (c :: r)).flatten.length ≤ 16
        · rw [if_pos q, if_neg (by omega)]
          rfl
        · rw [if_neg q, if_pos (by omega)]
      · rfl
    · have hb : (splB 45 [] (c :: r)).all goodP = false := by
        unfold splB
        split
        · rfl
        · exact spl_bad r _ (by simp [h])
      rw [hb, if_neg Bool.false_ne_true]
      unfold Vahypa.wordBy
      dsimp only
      rw [if_neg h, if_neg (fun z => z.2.1 rfl)]
      rfl
end Lp
namespace Lp
open VahypBase (isLetter isDigit inChunk isBlank)
open Vahypa (Word Lst Pat)
open Tr (splB)
/-! ### cuts lie within their words -/
theorem gapsL_in : ∀ (l : List (List UInt8)) (a g : Nat), (∀ p ∈ l, p ≠ []) → g ∈ gapsL a l → a + 1 ≤ g ∧ g ≤ a + l.flatten.length
  | [], a, g, _, h => by cases h
  | p :: l, a, g, hp, h => by
    have h1 : 0 < p.length := List.length_pos_iff.mpr (hp p List.mem_cons_self)
    rw [List.flatten_cons, List.length_append]
    rcases List.mem_cons.mp h with q | q
    · subst q
      omega
    · have := gapsL_in l (a + p.length) g (fun x hx => hp x (List.mem_cons_of_mem _ hx)) q
      omega
theorem wordF_wf {b : List UInt8} {v : Word} (h : wordF b = some v) : ∀ g ∈ v.cuts, 1 ≤ g ∧ g + 1 ≤ v.x.length := by
  unfold wordF at h
  dsimp only at h
  split at h
  · rename_i h1
    split at h
    · cases h
      have hne : ∀ p ∈ splB 45 [] b, p ≠ [] := fun x hx z => by
        have := List.all_eq_true.mp h1 x hx
        rw [z] at this
        simp at this
      intro g hg
      have hg : g ∈ gapsL 0 (splB 45 [] b).dropLast := hg
      have hs : splB 45 [] b ≠ [] := spl_ne b []
      have hd := List.dropLast_concat_getLast hs
      have hl : 0 < ((splB 45 [] b).getLast hs).length := List.length_pos_iff.mpr (hne _ (List.getLast_mem hs))
      have := gapsL_in _ 0 g (fun p hp => hne p (List.dropLast_subset _ hp)) hg
      have e : (splB 45 [] b).flatten.length = (splB 45 [] b).dropLast.flatten.length + ((splB 45 [] b).getLast hs).length := by
        conv => lhs; rw [← hd]
        rw [List.flatten_append, List.length_append]
        simp
      show 1 ≤ g ∧ g + 1 ≤ (splB 45 [] b).flatten.length
      omega
    · cases h
  · cases h
theorem stepW_wf {ts : List Tk} {a : Nat} {ws : List Word} {v : Word} {a' : Nat} (h : stepW ts a ws = .inr (v, a')) : ∀ g ∈ v.cuts, 1 ≤ g ∧ g + 1 ≤ v.x.length := by
  unfold stepW at h
  split at h
  · cases h
  · split at h
    · cases h
    · split at h
      · cases h
      · split at h
        · cases h
        · rename_i v' hv
          split at h
          · cases h
          · split at h
            · cases h
            · cases h
              exact wordF_wf hv
theorem loopW_wf {ts : List Tk} : ∀ (n a : Nat) (ws ws' : List Word) (a' : Nat), loopW ts n a ws = .inr (ws', a') → (∀ v ∈ ws, ∀ g ∈ v.cuts, 1 ≤ g ∧ g + 1 ≤ v.x.length) → ∀ v ∈ ws', ∀ g ∈ v.cuts, 1 ≤ g ∧ g + 1 ≤ v.x.length
  | 0, a, ws, ws', a', h, h2 => by
    cases h
    exact h2
  | n + 1, a, ws, ws', a', h, h2 => by
    unfold loopW at h
    split at h
    · split at h
      · cases h
      · rename_i v a2 hs
        have q2 := stepW_wf hs
        refine loopW_wf n _ _ _ _ h fun x hx => ?_
        rcases List.mem_append.mp hx with z | z
        · exact h2 x z
        · rw [List.mem_singleton.mp z]
          exact q2
    · cases h
      exact h2
theorem readF_wf {b : List UInt8} {r : Rd4} (h : readF b = .inr r) : Wf (lstOf r) := by
  unfold readF at h
  split at h
  · cases h
  · split at h
    · cases h
    · unfold wholeF at h
      split at h
      · cases h
      · split at h
        · cases h
        · split at h
          · cases h
          · split at h
            · cases h
            · unfold restF at h
              split at h
              · cases h
              · rename_i ws a hw
                split at h
                · cases h
                · split at h
                  · cases h
                    exact loopW_wf _ _ _ _ _ hw fun v hv => by cases hv
                  · cases h
end Lp
namespace Lp
open VahypBase (isLetter isDigit inChunk isBlank)
open Vahypa (Word Lst Pat)
/-! ### a pattern's chunk -/
def run : List UInt8 → Option (List UInt8 × Bool × List UInt8)
  | [] => some ([], false, [])
  | c :: s => if isLetter c = true then (run s).map fun q => (c :: q.1, q.2.1, q.2.2) else if isDigit c = true then (if c = 48 then none else match s with
    | [] => some ([], true, [])
    | e :: _ => if isLetter e = true then (run s).map fun q => (q.1, true, q.2.2) else some ([], true, s)) else some ([], false, c :: s)
theorem letter_dig {c : UInt8} (h : isLetter c = true) : isDigit c = false := by
  unfold isLetter at h
  unfold isDigit
  have := of_decide_eq_true h
  exact decide_eq_false (by omega)
theorem patBy_is : ∀ (n : Nat) (l x : List UInt8) (vs : List Nat), l.length < n → match run l with
    | none => Vahypa.patBy n l x vs = none
    | some q => ∃ ws, Vahypa.patBy n l x vs = some (x ++ q.1, vs ++ ws, q.2.2) ∧ ws.all (fun v => v == 0) = !q.2.1
  | 0, _, _, _, h => by cases h
  | n + 1, [], x, vs, _ => ⟨[0], by simp [Vahypa.patBy], rfl⟩
  | n + 1, c :: s, x, vs, h => by
    have hs : s.length < n := by simp only [List.length_cons] at h; omega
    unfold run Vahypa.patBy
    dsimp only
    by_cases h1 : isLetter c = true
    · have h2 := letter_dig h1
      have h3 : (c == 48) = false := by
        cases q : c == 48 with
        | false => rfl
        | true => rw [eq_of_beq q] at h1; exact absurd h1 (by decide)
      have ih := patBy_is n s (x ++ [c]) (vs ++ [0]) hs
      simp only [h1, h2, h3, if_true, Bool.false_eq_true, if_false]
      cases e : run s with
      | none =>
        rw [e] at ih
        exact ih
      | some q =>
        rw [e] at ih
        obtain ⟨ws, i1, i2⟩ := ih
        refine ⟨0 :: ws, ?_, ?_⟩
        · rw [i1]
          simp
        · rw [List.all_cons, i2]
          simp
    · by_cases h2 : isDigit c = true
      · by_cases h3 : c = 48
        · simp [h1, h2, h3]
          subst h3
          simp_all
        · have h3' : (c == 48) = false := by simpa using h3
          have hv : (c.toNat - 48 == 0) = false := by
            have hd := of_decide_eq_true (show decide (48 ≤ c.toNat ∧ c.toNat ≤ 57) = true from h2)
            have : c.toNat ≠ 48 := fun z => h3 (by rw [← UInt8.toNat_inj]; exact z)
            simp
            omega
          simp only [h1, h2, h3, h3', if_true, Bool.false_eq_true, if_false]
          cases s with
          | nil =>
            refine ⟨[c.toNat - 48], by simp, ?_⟩
            simp only [List.all_cons, hv, Bool.false_and, Bool.not_true]
          | cons e s' =>
            dsimp only
            by_cases h4 : isLetter e = true
            · have ih := patBy_is n s' (x ++ [e]) (vs ++ [c.toNat - 48]) (by simp only [List.length_cons] at hs; omega)
              have er : run (e :: s') = (run s').map fun q => (e :: q.1, q.2.1, q.2.2) := if_pos h4
              simp only [h4, if_true, er]
              cases er' : run s' with
              | none =>
                rw [er'] at ih
                exact ih
              | some q =>
                rw [er'] at ih
                obtain ⟨ws, i1, i2⟩ := ih
                refine ⟨(c.toNat - 48) :: ws, ?_, ?_⟩
                · rw [i1]
                  simp
                · rw [List.all_cons, hv]
                  simp
            · simp only [h4, Bool.false_eq_true, if_false]
              refine ⟨[c.toNat - 48], by simp, ?_⟩
              simp only [List.all_cons, hv, Bool.false_and, Bool.not_true]
      · have h2' : isDigit c = false := by simpa using h2
        have h3 : (c == 48) = false := by
          cases q : c == 48 with
          | false => rfl
          | true => rw [eq_of_beq q] at h2; exact absurd (by decide) h2
        simp only [h1, h2', h3, Bool.false_eq_true, if_false]
        exact ⟨[0], by simp, rfl⟩
end Lp
namespace Lp
open VahypBase (isLetter isDigit inChunk isBlank)
open Vahypa (Word Lst Pat)
def okR : List UInt8 → Bool
  | [] => true
  | c :: s => (isLetter c || (isDigit c && !decide (c = 48))) && !(isDigit c && (match s with | [] => false | e :: _ => isDigit e)) && okR s
theorem okR_is : ∀ R : List UInt8, okR R = ((R.filter fun c => !isLetter c).all (fun c => isDigit c && !decide (c = 48)) && !((R.zip (R.drop 1)).any fun z => isDigit z.1 && isDigit z.2))
  | [] => rfl
  | [c] => by
    unfold okR
    cases h : isLetter c <;> simp [h, okR]
  | c :: e :: s => by
    have ih := okR_is (e :: s)
    unfold okR
    dsimp only
    rw [ih]
    cases h : isLetter c <;> simp [h, Bool.and_assoc, Bool.and_comm, Bool.and_left_comm]
theorem run_of : ∀ (R t : List UInt8), okR R = true → (t = [] ∨ t = [46]) → run (R ++ t) = some (R.filter isLetter, R.any isDigit, t)
  | [], t, _, ht => by
    rcases ht with e | e <;> subst e <;> decide
  | c :: s, t, h, ht => by
    unfold okR at h
    rw [Bool.and_eq_true, Bool.and_eq_true] at h
    obtain ⟨⟨h1, h2⟩, h3⟩ := h
    have ih := run_of s t h3 ht
    show run (c :: (s ++ t)) = _
    unfold run
    by_cases hc : isLetter c = true
    · rw [if_pos hc, ih]
      simp [hc, letter_dig hc]
    · have hd : (isDigit c && !decide (c = 48)) = true := by
        rw [Bool.or_eq_true] at h1
        exact h1.resolve_left hc
      rw [Bool.and_eq_true] at hd
      have h48 : ¬ c = 48 := by simpa using hd.2
      rw [if_neg hc, if_pos hd.1, if_neg h48]
      cases s with
      | nil =>
        rcases ht with e | e <;> subst e <;> simp [hc, hd.1]
        decide
      | cons e s' =>
        have he : isDigit e = false := by simpa [hd.1] using h2
        have hl : isLetter e = true := by
          unfold okR at h3
          rw [he, Bool.and_eq_true, Bool.and_eq_true] at h3
          simpa using h3.1.1
        show (if isLetter e = true then (run ((e :: s') ++ t)).map _ else _) = _
        rw [if_pos hl, ih]
        simp [hc, hd.1]
theorem run_back : ∀ (L : List UInt8) (q : List UInt8 × Bool × List UInt8), run L = some q → ∃ R, L = R ++ q.2.2 ∧ okR R = true
  | [], q, h => by
    cases h
    exact ⟨[], rfl, rfl⟩
  | c :: s, q, h => by
    unfold run at h
    by_cases hc : isLetter c = true
    · rw [if_pos hc] at h
      cases e : run s with
      | none => rw [e] at h; cases h
      | some q' =>
        rw [e] at h
        cases h
        obtain ⟨R, h1, h2⟩ := run_back s q' e
        refine ⟨c :: R, by rw [h1]; rfl, ?_⟩
        unfold okR
        rw [hc, letter_dig hc, h2]
        rfl
    · rw [if_neg hc] at h
      by_cases hd : isDigit c = true
      · rw [if_pos hd] at h
        by_cases h48 : c = 48
        · rw [if_pos h48] at h
          cases h
        · rw [if_neg h48] at h
          have one : okR [c] = true := by
            unfold okR okR
            simp [hd, h48]
          cases s with
          | nil =>
            cases h
            exact ⟨[c], rfl, one⟩
          | cons e s' =>
            dsimp only at h
            by_cases he : isLetter e = true
            · rw [if_pos he] at h
              cases er : run (e :: s') with
              | none => rw [er] at h; cases h
              | some q' =>
                rw [er] at h
                cases h
                obtain ⟨R, h1, h2⟩ := run_back (e :: s') q' er
                refine ⟨c :: R, by rw [h1]; rfl, ?_⟩
                unfold okR
                rw [h2]
                cases R with
                | nil => simp [hd, h48]
                | cons f R' =>
                  have : e = f := by injection h1
                  subst this
                  simp [hd, h48, letter_dig he]
            · rw [if_neg he] at h
              cases h
              exact ⟨[c], rfl, one⟩
      · rw [if_neg hd] at h
        cases h
        exact ⟨[], rfl, rfl⟩
end Lp
namespace Lp
open VahypBase (isLetter isDigit inChunk isBlank)
open Vahypa (Word Lst Pat)
theorem bare_cut (b : List UInt8) : bareR b = bareX b ++ (if bareE b = true then [46] else []) := by
  unfold bareX
  by_cases h : bareE b = true
  · rw [if_pos h, if_pos h]
    unfold bareE at h
    have h := of_decide_eq_true h
    have hne : bareR b ≠ [] := fun z => by rw [z] at h; cases h
    have e := List.dropLast_concat_getLast hne
    rw [List.getLast?_eq_some_getLast hne] at h
    have h := Option.some.inj h
    rw [h] at e
    rw [← List.dropLast_eq_take]
    exact e.symm
  · rw [if_neg h, if_neg h]
    simp
theorem okR_last {R : List UInt8} (h : okR R = true) : R.getLast? ≠ some 46 := by
  intro z
  have hm : (46 : UInt8) ∈ R := List.mem_of_getLast? z
  rw [okR_is, Bool.and_eq_true] at h
  have := List.all_eq_true.mp h.1 46 (List.mem_filter.mpr ⟨hm, by decide⟩)
  exact absurd this (by decide)
theorem pat_is (b : List UInt8) : (Vahypa.patOf b).map (fun p => (p.x, p.front, p.halt_)) = patF b := by
  have ef : (b.head? == some 46) = bareF b := by
    unfold bareF
    rw [Bool.eq_iff_iff]
    simp
  have eL : (if (b.head? == some 46) = true then b.drop 1 else b) = bareR b := by
    unfold bareR
    rw [ef]
    cases bareF b <;> rfl
  have hlen : (bareR b).length < b.length + 1 := by
    unfold bareR
    rw [List.length_drop]
    omega
  have hp := patBy_is (b.length + 1) (bareR b) [] [] hlen
  unfold Vahypa.patOf patF
  dsimp only
  rw [eL, ef]
  obtain ⟨t, ht⟩ : ∃ t, t = (if bareE b = true then [46] else ([] : List UInt8)) := ⟨_, rfl⟩
  have hcut := bare_cut b
  rw [← ht] at hcut
  have ht2 : t = [] ∨ t = [46] := by rw [ht]; split <;> simp
  have hte : (t == [46]) = bareE b := by rw [ht]; cases bareE b <;> rfl
  by_cases hok : okR (bareX b) = true
  · have hr := run_of _ t hok ht2
    rw [← hcut] at hr
    rw [hr] at hp
    obtain ⟨ws, h1, h2⟩ := hp
    rw [h1, Option.bind_some]
    dsimp only
    rw [List.nil_append, List.nil_append, h2, hte]
    rw [okR_is, Bool.and_eq_true] at hok
    have e3 : (bareX b).filter (fun c => !isLetter c) = [] ↔ (bareX b).any isDigit = false := by
      rw [List.filter_eq_nil_iff, List.any_eq_false]
      constructor
      · intro q c hc hd
        have := q c hc
        rw [Bool.not_eq_true, Bool.not_eq_false'] at this
        rw [letter_dig this] at hd
        cases hd
      · intro q c hc hn
        have := List.all_eq_true.mp hok.1 c (List.mem_filter.mpr ⟨hc, hn⟩)
        rw [Bool.and_eq_true] at this
        exact q c hc this.1
    have e4 : ¬ (t ≠ [] ∧ bareE b = false) := fun ⟨z1, z2⟩ => by
      rw [z2] at ht
      exact z1 ht
    have e5 : ((bareX b).zip ((bareX b).drop 1)).any (fun z => isDigit z.1 && isDigit z.2) = false := by simpa using hok.2
    by_cases hds : (bareX b).filter (fun c => !isLetter c) = []
    · rw [if_pos (.inr (.inr (.inr (by rw [e3.mp hds]; rfl)))), if_pos (.inl hds)]
      rfl
    · have hany : (bareX b).any isDigit = true := by
        cases q : (bareX b).any isDigit with
        | true => rfl
        | false => exact absurd (e3.mpr q) hds
      have n1 : ¬ ((bareX b).filter (fun c => !isLetter c) = [] ∨ ((bareX b).filter fun c => !isLetter c).all (fun c => isDigit c && !decide (c = 48)) = false) := fun z => z.elim hds fun y => by rw [hok.1] at y; cases y
      have e6 : Vahypa.PIECE = 6 := rfl
      by_cases hl : 1 ≤ ((bareX b).filter isLetter).length ∧ ((bareX b).filter isLetter).length ≤ 6
      · rw [if_neg (by
          rintro (z | z | z | z)
          · omega
          · omega
          · exact e4 z
          · rw [hany] at z
            cases z), if_neg n1, if_neg (by rw [e5]; exact Bool.false_ne_true), if_pos hl]
        rfl
      · rw [if_pos (by omega), if_neg n1, if_neg (by rw [e5]; exact Bool.false_ne_true), if_neg hl]
        rfl
  · have hpf : (if (bareX b).filter (fun c => !isLetter c) = [] ∨ ((bareX b).filter fun c => !isLetter c).all (fun c => isDigit c && !decide (c = 48)) = false then none else if ((bareX b).zip ((bareX b).drop 1)).any (fun z => isDigit z.1 && isDigit z.2) = true then none else if 1 ≤ ((bareX b).filter isLetter).length ∧ ((bareX b).filter isLetter).length ≤ 6 then some ((bareX b).filter isLetter, bareF b, bareE b) else none) = (none : Option Pt3) := by
      rw [okR_is] at hok
      by_cases h1 : ((bareX b).filter fun c => !isLetter c).all (fun c => isDigit c && !decide (c = 48)) = false
      · rw [if_pos (.inr h1)]
      · split
        · rfl
        · rw [if_pos]
          have h1 : ((bareX b).filter fun c => !isLetter c).all (fun c => isDigit c && !decide (c = 48)) = true := (Bool.not_eq_false _).mp h1
          rw [h1, Bool.true_and] at hok
          simpa using hok
    rw [hpf]
    cases er : run (bareR b) with
    | none =>
      rw [er] at hp
      rw [hp]
      rfl
    | some q =>
      rw [er] at hp
      obtain ⟨ws, h1, h2⟩ := hp
      rw [h1, Option.bind_some]
      dsimp only
      obtain ⟨R, hR, hRok⟩ := run_back _ q er
      rw [if_pos]
      · rfl
      · refine .inr (.inr (.inl ?_))
        have key : ¬ (q.2.2 = [] ∨ q.2.2 = [46]) := by
          rintro (z | z)
          · rw [z, List.append_nil] at hR
            have hb : bareE b = false := by
              unfold bareE
              rw [hR]
              exact decide_eq_false (okR_last hRok)
            rw [hb] at ht
            have ht : t = [] := ht
            rw [ht, List.append_nil, hR] at hcut
            rw [hcut] at hRok
            exact hok hRok
          · rw [z] at hR
            have hb : bareE b = true := by
              unfold bareE
              rw [hR]
              simp
            rw [hb] at ht
            have ht : t = [46] := ht
            rw [ht, hR] at hcut
            have := List.append_cancel_right hcut
            rw [this] at hRok
            exact hok hRok
        exact ⟨fun z => key (.inl z), by
          cases y : q.2.2 == [46] with
          | false => rfl
          | true => exact absurd (.inr (eq_of_beq y)) key⟩
end Lp
namespace Lp
open VahypBase (isLetter isDigit inChunk isBlank)
open Vahypa (Word Lst Pat)
/-! ### blanks and remarks -/
theorem skip_fuel (b : List UInt8) : ∀ (n m a : Nat), b.length - a < n → b.length - a < m → skipF b n a = skipF b m a
  | 0, _, _, h, _ => by omega
  | _ + 1, 0, _, _, h => by omega
  | n + 1, m + 1, a, h1, h2 => by
    unfold skipF
    cases e : b[a]? with
    | none => rfl
    | some c =>
      dsimp only
      have hl : a < b.length := (List.getElem?_eq_some_iff.mp e).1
      by_cases h : c = 35
      · subst h
        rw [if_pos rfl, if_pos rfl]
        have := remark_on e
        exact skip_fuel b n m _ (by omega) (by omega)
      · rw [if_neg h, if_neg h]
        split
        · exact skip_fuel b n m _ (by omega) (by omega)
        · rfl
theorem skip_end {b : List UInt8} {a : Nat} (h : b[a]? = none) : skipP b a = a := by
  unfold skipP skipF
  rw [h]
theorem skip_blank {b : List UInt8} {a : Nat} {c : UInt8} (h : b[a]? = some c) (h1 : c ≠ 35) (h2 : isBlank c = true) : skipP b a = skipP b (a + 1) := by
  have hl : a < b.length := (List.getElem?_eq_some_iff.mp h).1
  have e : skipP b a = skipF b b.length (a + 1) := by
    unfold skipP
    conv => lhs; unfold skipF
    rw [h]
    dsimp only
    rw [if_neg h1, if_pos h2]
  rw [e]
  exact skip_fuel b _ _ _ (by omega) (by omega)
theorem skip_mark {b : List UInt8} {a : Nat} (h : b[a]? = some 35) : skipP b a = skipP b (upTo (· != 10) b a) := by
  have hl : a < b.length := (List.getElem?_eq_some_iff.mp h).1
  have hr := remark_on h
  have e : skipP b a = skipF b b.length (upTo (· != 10) b a) := by
    unfold skipP
    conv => lhs; unfold skipF
    rw [h]
    dsimp only
    rw [if_pos rfl]
  rw [e]
  exact skip_fuel b _ _ _ (by omega) (by omega)
theorem skip_stay {b : List UInt8} {a : Nat} {c : UInt8} (h : b[a]? = some c) (h1 : c ≠ 35) (h2 : isBlank c = false) : skipP b a = a := by
  unfold skipP skipF
  rw [h]
  dsimp only
  rw [if_neg h1, if_neg (by rw [h2]; exact Bool.false_ne_true)]
end Lp
namespace Lp
open VahypBase (isLetter isDigit inChunk isBlank PTok Tok Toks)
open Vahypa (Word Lst Pat)
/-! ### tokens -/
def back (t : Tk) : PTok := ⟨t.2, if t.1 = [] then .last else if t.1 = [59] then .sign 59 else .chunk t.1⟩
def toksQ (b : List UInt8) : Nat → Nat → Nat ⊕ List Tk
  | 0, _ => .inr [([], b.length)]
  | n + 1, a => if a < b.length then match tokAt b a with
    | none => .inl a
    | some x => match toksQ b n (skipP b (a + x.length)) with
      | .inl e => .inl e
      | .inr l => .inr ((x, a) :: l) else .inr [([], b.length)]
theorem toksP_Q (b : List UInt8) : ∀ (n a : Nat) (acc : List Tk), toksP b n a acc = match toksQ b n a with
    | .inl e => .inl e
    | .inr l => .inr (acc ++ l)
  | 0, a, acc => rfl
  | n + 1, a, acc => by
    unfold toksP toksQ
    split
    · cases e : tokAt b a with
      | none => rfl
      | some x =>
        dsimp only
        rw [toksP_Q b n]
        cases toksQ b n (skipP b (a + x.length)) with
        | inl e => rfl
        | inr l =>
          dsimp only
          rw [List.append_assoc]
          rfl
    · rfl
theorem toksF_Q (b : List UInt8) : toksF b = toksQ b (b.length + 1) (skipP b 0) := by
  unfold toksF
  rw [toksP_Q]
  cases toksQ b (b.length + 1) (skipP b 0) <;> rfl
theorem toks_fuel (b : List UInt8) : ∀ (n m a : Nat), b.length - a < n → b.length - a < m → toksQ b n a = toksQ b m a
  | 0, _, _, h, _ => by omega
  | _ + 1, 0, _, _, h => by omega
  | n + 1, m + 1, a, h1, h2 => by
    unfold toksQ
    split
    · cases e : tokAt b a with
      | none => rfl
      | some x =>
        dsimp only
        have := (tok_pos e).1
        have h3 := skipF_ge b (b.length + 1) (a + x.length)
        have h3 : a + x.length ≤ skipP b (a + x.length) := h3
        rw [toks_fuel b n m _ (by omega) (by omega)]
    · rfl
end Lp
namespace Lp
open VahypBase (isLetter isDigit inChunk isBlank PTok Tok Toks)
open Vahypa (Word Lst Pat)
def exQ : Nat ⊕ List Tk → Except VahypBase.Fault Toks
  | .inl a => .error ⟨2, a⟩
  | .inr l => .ok (l.map back)
theorem drop_at {b : List UInt8} {a : Nat} {c : UInt8} (h : b[a]? = some c) : b.drop a = c :: b.drop (a + 1) := by
  obtain ⟨hl, e⟩ := List.getElem?_eq_some_iff.mp h
  rw [List.drop_eq_getElem_cons hl, e]
theorem tok_is {b : List UInt8} {a : Nat} {c : UInt8} (h : b[a]? = some c) : VahypBase.token (b.drop a) = (tokAt b a).map fun x => ((back (x, a)).tok, x.length) := by
  unfold VahypBase.token tokAt
  rw [drop_at h]
  dsimp only
  rw [← drop_at h, h]
  by_cases h1 : inChunk c = true
  · have h59 : c ≠ 59 := fun z => by rw [z] at h1; exact absurd h1 (by decide)
    rw [if_pos h1, if_neg (fun z => h59 (Option.some.inj z))]
    have hw : (b.drop a).takeWhile inChunk = c :: (b.drop (a + 1)).takeWhile inChunk := by
      rw [drop_at h, List.takeWhile_cons, if_pos h1]
    have h2 : 1 ≤ ((b.drop a).takeWhile inChunk).length := by rw [hw]; simp
    by_cases h3 : VahypBase.CHUNK < ((b.drop a).takeWhile inChunk).length
    · rw [if_pos h3, if_neg (fun z => by have : VahypBase.CHUNK = 40 := rfl; omega)]
      rfl
    · rw [if_neg h3, if_pos ⟨h2, by have : VahypBase.CHUNK = 40 := rfl; omega⟩]
      rw [Option.map_some]
      unfold back
      rw [hw]
      rw [if_neg (by simp), if_neg (fun z => h59 (by injection z))]
  · rw [if_neg h1]
    by_cases h2 : c = 59
    · subst h2
      rfl
    · rw [if_neg (by simpa using h2), if_neg (fun z => h2 (Option.some.inj z))]
      have hw : (b.drop a).takeWhile inChunk = [] := by
        rw [drop_at h, List.takeWhile_cons, if_neg h1]
      rw [hw, if_neg (by simp)]
      rfl
theorem drop_tw {p : UInt8 → Bool} : ∀ l : List UInt8, l.dropWhile p = l.drop (l.takeWhile p).length
  | [] => rfl
  | c :: l => by
    rw [List.dropWhile_cons, List.takeWhile_cons]
    split
    · rw [List.length_cons, List.drop_succ_cons, drop_tw l]
    · rfl
theorem lex_is (b : List UInt8) : ∀ (n a : Nat), a ≤ b.length → b.length - a < n → VahypBase.lex n a (b.drop a) = exQ (toksQ b (b.length + 1) (skipP b a))
  | 0, _, _, h => by omega
  | n + 1, a, ha, h => by
    cases e : b[a]? with
    | none =>
      have hl : b.length ≤ a := List.getElem?_eq_none_iff.mp e
      have hd : b.drop a = [] := List.drop_eq_nil_of_le hl
      rw [hd, skip_end e]
      unfold toksQ
      rw [if_neg (by omega), show a = b.length by omega]
      rfl
    | some c =>
      have hl : a < b.length := (List.getElem?_eq_some_iff.mp e).1
      rw [drop_at e]
      unfold VahypBase.lex
      by_cases h1 : isBlank c = true
      · have h35 : c ≠ 35 := fun z => by rw [z] at h1; exact absurd h1 (by decide)
        rw [if_pos h1, skip_blank e h35 h1]
        exact lex_is b n (a + 1) (by omega) (by omega)
      · rw [if_neg h1]
        by_cases h2 : c = 35
        · subst h2
          rw [if_pos (show ((35 : UInt8) == 35) = true from rfl), skip_mark e]
          have hup : upTo (· != 10) b a = a + 1 + ((b.drop (a + 1)).takeWhile (· != 10)).length := by
            unfold upTo
            rw [drop_at e, List.takeWhile_cons, if_pos (by decide), List.length_cons]
            omega
          have hle := upTo_le (p := (· != 10)) (b := b) (a := a) ha
          have hdw : (b.drop (a + 1)).dropWhile (· != 10) = b.drop (upTo (· != 10) b a) := by
            rw [drop_tw, List.drop_drop, hup]
          rw [hdw, ← hup]
          exact lex_is b n _ hle (by omega)
        · rw [if_neg (by simpa using h2)]
          have hs := skip_stay e h2 (by simpa using h1)
          rw [hs, ← drop_at e, tok_is e]
          unfold toksQ
          rw [if_pos hl]
          cases ht : tokAt b a with
          | none => rfl
          | some x =>
            have hp := tok_pos ht
            have h3 : a + x.length ≤ skipP b (a + x.length) := skipF_ge b (b.length + 1) (a + x.length)
            rw [Option.map_some]
            dsimp only
            rw [List.drop_drop, lex_is b n (a + x.length) (by omega) (by omega)]
            rw [toks_fuel b (b.length + 1) b.length (skipP b (a + x.length)) (by omega) (by omega)]
            cases toksQ b b.length (skipP b (a + x.length)) <;> rfl
end Lp
namespace Lp
open VahypBase (isLetter isDigit inChunk isBlank PTok Tok Toks takeChunk takeSign takeWord nextWord next here wrong)
open Vahypa (Word Lst Pat)
/-! ### taking tokens -/
def tl (ts : List Tk) (a : Nat) : Toks := (ts.drop a).map back
theorem tl_cons {ts : List Tk} {a : Nat} (h : a < ts.length) : tl ts a = back (curT ts a) :: tl ts (a + 1) := by
  unfold tl
  have e := cur_get h
  obtain ⟨hl, e2⟩ := List.getElem?_eq_some_iff.mp e
  rw [List.drop_eq_getElem_cons hl, e2, List.map_cons]
theorem tl_len (ts : List Tk) (a : Nat) : (tl ts a).length = ts.length - a := by
  unfold tl
  rw [List.length_map, List.length_drop]
theorem tl_drop {ts : List Tk} {a : Nat} (h : a < ts.length) : (tl ts a).drop 1 = tl ts (a + 1) := by
  rw [tl_cons h]
  rfl
theorem here_is {ts : List Tk} {a : Nat} (h : a < ts.length) : here (tl ts a) = (curT ts a).2 := by
  rw [tl_cons h]
  rfl
theorem tok_chunk (x y : List UInt8) (hy : isCh y = true) : VahypBase.tokEq (back (x, 0)).tok (.chunk y) = decide (x = y) := by
  unfold back
  have h1 : y ≠ [] := ch_ne hy
  have h2 : y ≠ [59] := fun z => by rw [z] at hy; exact absurd hy (by decide)
  dsimp only
  by_cases e1 : x = []
  · rw [if_pos e1]
    exact (decide_eq_false (fun z => h1 (by rw [← z, e1]))).symm
  · rw [if_neg e1]
    by_cases e2 : x = [59]
    · rw [if_pos e2]
      exact (decide_eq_false (fun z => h2 (by rw [← z, e2]))).symm
    · rw [if_neg e2]
      show (x == y) = _
      by_cases e : x = y
      · rw [decide_eq_true e, e]
        exact beq_self_eq_true y
      · rw [decide_eq_false e]
        exact beq_eq_false_iff_ne.mpr e
theorem tok_sign (x : List UInt8) : VahypBase.tokEq (back (x, 0)).tok (.sign 59) = decide (x = [59]) := by
  unfold back
  dsimp only
  by_cases e1 : x = []
  · rw [if_pos e1, e1]
    rfl
  · rw [if_neg e1]
    by_cases e2 : x = [59]
    · rw [if_pos e2, e2]
      rfl
    · rw [if_neg e2, decide_eq_false e2]
      rfl
theorem tok_last (x : List UInt8) : VahypBase.tokEq (back (x, 0)).tok .last = decide (x = []) := by
  unfold back
  dsimp only
  by_cases e1 : x = []
  · rw [if_pos e1, e1]
    rfl
  · rw [if_neg e1, decide_eq_false e1]
    by_cases e2 : x = [59]
    · rw [if_pos e2]
      rfl
    · rw [if_neg e2]
      rfl
theorem next_chunk {ts : List Tk} {a : Nat} {y : List UInt8} (h : a < ts.length) (hy : isCh y = true) : next (.chunk y) (tl ts a) = decide ((curT ts a).1 = y) := by
  rw [tl_cons h]
  exact tok_chunk _ y hy
theorem next_sign {ts : List Tk} {a : Nat} (h : a < ts.length) : next (.sign 59) (tl ts a) = decide ((curT ts a).1 = [59]) := by
  rw [tl_cons h]
  exact tok_sign _
theorem next_last {ts : List Tk} {a : Nat} (h : a < ts.length) : next .last (tl ts a) = decide ((curT ts a).1 = []) := by
  rw [tl_cons h]
  exact tok_last _
theorem wrong_is {A : Type} {ts : List Tk} {a : Nat} (h : a < ts.length) : (wrong (tl ts a) : Except VahypBase.Fault A) = .error ⟨3, (curT ts a).2⟩ := by
  unfold wrong
  rw [here_is h]
theorem chunk_is {ts : List Tk} {a : Nat} (h : a < ts.length) : takeChunk (tl ts a) = if isCh (curT ts a).1 = true then .ok ((curT ts a).2, (curT ts a).1, tl ts (a + 1)) else .error ⟨3, (curT ts a).2⟩ := by
  rw [← wrong_is h, tl_cons h]
  unfold back isCh
  by_cases e1 : (curT ts a).1 = []
  · rw [if_pos e1, e1]
    rfl
  · rw [if_neg e1]
    by_cases e2 : (curT ts a).1 = [59]
    · rw [if_pos e2, e2]
      rfl
    · rw [if_neg e2, if_pos (by simp [e1, e2])]
      rfl
theorem sign_is {ts : List Tk} {a : Nat} (h : a < ts.length) : takeSign 59 (tl ts a) = if (curT ts a).1 = [59] then .ok (tl ts (a + 1)) else .error ⟨3, (curT ts a).2⟩ := by
  unfold takeSign VahypBase.taken
  rw [next_sign h, tl_drop h, wrong_is h]
  by_cases e : (curT ts a).1 = [59]
  · rw [if_pos e, if_pos (decide_eq_true e)]
  · rw [if_neg e, if_neg (by simpa using e)]
theorem taken_is {ts : List Tk} {a : Nat} {y : List UInt8} (h : a < ts.length) (hy : isCh y = true) : VahypBase.taken (.chunk y) (tl ts a) = if (curT ts a).1 = y then .ok (tl ts (a + 1)) else .error ⟨3, (curT ts a).2⟩ := by
  unfold VahypBase.taken
  rw [next_chunk h hy, tl_drop h, wrong_is h]
  by_cases e : (curT ts a).1 = y
  · rw [if_pos e, if_pos (decide_eq_true e)]
  · rw [if_neg e, if_neg (by simpa using e)]
theorem word_word : VahypBase.word "word" = wordB := by decide
theorem word_pat : VahypBase.word "pattern" = patB := by decide
theorem word_marg : VahypBase.word "margins" = margB := by decide
theorem ch_next {ts : List Tk} {a : Nat} (T : TokOk ts) (h : a < ts.length) (hc : isCh (curT ts a).1 = true) : a + 1 < ts.length := cur_next T h (ch_ne hc)
theorem sg_next {ts : List Tk} {a : Nat} (T : TokOk ts) (h : a < ts.length) (hc : (curT ts a).1 = [59]) : a + 1 < ts.length := cur_next T h (by rw [hc]; decide)
def exM {α β : Type} (f : α → β) : Rs α → Except VahypBase.Fault β
  | .inl e => .error ⟨e.1, e.2⟩
  | .inr x => .ok (f x)
theorem margin_is {ts : List Tk} {a : Nat} (h : a < ts.length) : Vahypa.takeMargin (tl ts a) = exM (fun m => (m, tl ts (a + 1))) (stepM ts a) := by
  unfold Vahypa.takeMargin stepM
  rw [chunk_is h]
  by_cases hc : isCh (curT ts a).1 = true
  · rw [if_pos hc, if_neg (by rw [hc]; decide)]
    show (match (curT ts a).1 with
      | [b] => if isDigit b = true ∧ b.toNat - 48 ≤ Vahypa.MARGIN then (Except.ok (b.toNat - 48, tl ts (a + 1)) : Except VahypBase.Fault (Nat × Toks)) else .error ⟨7, (curT ts a).2⟩
      | _ => .error ⟨7, (curT ts a).2⟩) = _
    unfold margF
    obtain ⟨x, hx⟩ : ∃ x, x = (curT ts a).1 := ⟨_, rfl⟩
    rw [← hx]
    match x with
    | [] => rfl
    | [c] =>
      dsimp only
      by_cases q : isDigit c = true ∧ c.toNat - 48 ≤ 5
      · rw [if_pos q, if_pos (show isDigit c = true ∧ c.toNat - 48 ≤ Vahypa.MARGIN from q)]
        rfl
      · rw [if_neg q, if_neg (show ¬ (isDigit c = true ∧ c.toNat - 48 ≤ Vahypa.MARGIN) from q)]
        rfl
    | _ :: _ :: _ => rfl
  · rw [if_neg hc, if_pos (by simpa using hc)]
    rfl
theorem words_is {ts : List Tk} (T : TokOk ts) : ∀ (n m a : Nat) (ws : List Word), ts.length - a < n → ts.length - a < m → a < ts.length → Vahypa.takeWords n ws (tl ts a) = exM (fun x => (x.1, tl ts x.2)) (loopW ts m a ws)
  | 0, _, _, _, h, _, _ => by omega
  | _ + 1, 0, _, _, _, h, _ => by omega
  | n + 1, m + 1, a, ws, h1, h2, ha => by
    unfold Vahypa.takeWords loopW
    unfold nextWord
    rw [word_word, next_chunk ha (by decide)]
    by_cases e1 : (curT ts a).1 = wordB
    · rw [if_pos (decide_eq_true e1), if_pos e1]
      unfold stepW
      by_cases e2 : 24 ≤ ws.length
      · rw [if_pos (show Vahypa.WORDS ≤ ws.length from e2), if_pos e2, here_is ha]
        rfl
      · rw [if_neg (show ¬ Vahypa.WORDS ≤ ws.length from e2), if_neg e2, if_neg (fun z => z e1)]
        have ha1 := cur_next T ha (by rw [e1]; decide)
        rw [tl_drop ha, chunk_is ha1]
        by_cases e3 : isCh (curT ts (a + 1)).1 = true
        · rw [if_pos e3, if_neg (by rw [e3]; decide)]
          have ha2 := ch_next T ha1 e3
          show (match Vahypa.wordOf (curT ts (a + 1)).1 with
            | none => _
            | some w => _) = _
          rw [word_is]
          cases hw : wordF (curT ts (a + 1)).1 with
          | none => rfl
          | some v =>
            dsimp only
            have e4 : (ws.any fun u => u.x == v.x) = decide (v.x ∈ ws.map (·.x)) := by
              rw [Bool.eq_iff_iff, List.any_eq_true, decide_eq_true_eq, List.mem_map]
              constructor
              · rintro ⟨u, hu, e⟩
                exact ⟨u, hu, eq_of_beq e⟩
              · rintro ⟨u, hu, e⟩
                exact ⟨u, hu, by rw [e]; exact beq_self_eq_true _⟩
            rw [e4]
            by_cases e5 : v.x ∈ ws.map (·.x)
            · rw [if_pos (decide_eq_true e5), if_pos e5]
              rfl
            · rw [if_neg (by rw [decide_eq_false e5]; decide), if_neg e5, sign_is ha2]
              by_cases e6 : (curT ts (a + 2)).1 = [59]
              · rw [if_pos e6, if_neg (fun z => z e6)]
                have ha3 := sg_next T ha2 e6
                show Vahypa.takeWords n (ws ++ [v]) (tl ts (a + 3)) = _
                exact words_is T n m (a + 3) _ (by omega) (by omega) ha3
              · rw [if_neg e6, if_pos e6]
                rfl
        · rw [if_neg e3, if_pos (by simpa using e3)]
          rfl
    · rw [if_neg (by rw [decide_eq_false e1]; decide), if_neg e1]
      rfl
end Lp
namespace Lp
open VahypBase (isLetter isDigit inChunk isBlank PTok Tok Toks takeChunk takeSign takeWord nextWord next here wrong)
open Vahypa (Word Lst Pat)
/-! ### patterns, and the whole -/
def pf (p : Pat) : Pt3 := (p.x, p.front, p.halt_)
def endF (ts : List Tk) : Rs (List Pt3 × Nat) → Except VahypBase.Fault (List Pt3)
  | .inl e => .error ⟨e.1, e.2⟩
  | .inr (q, a) => if (curT ts a).1 = [] then .ok q else .error ⟨3, (curT ts a).2⟩
theorem any_pf (ps : List Pat) (p : Pat) : (ps.any fun q => q.x == p.x && (q.front == p.front && q.halt_ == p.halt_)) = decide (pf p ∈ ps.map pf) := by
  rw [Bool.eq_iff_iff, List.any_eq_true, decide_eq_true_eq, List.mem_map]
  constructor
  · rintro ⟨u, hu, e⟩
    rw [Bool.and_eq_true, Bool.and_eq_true] at e
    refine ⟨u, hu, ?_⟩
    unfold pf
    rw [eq_of_beq e.1, eq_of_beq e.2.1, eq_of_beq e.2.2]
  · rintro ⟨u, hu, e⟩
    unfold pf at e
    injection e with e1 e2
    injection e2 with e2 e3
    refine ⟨u, hu, ?_⟩
    rw [e1, e2, e3, Bool.and_eq_true, Bool.and_eq_true]
    exact ⟨beq_self_eq_true _, beq_self_eq_true _, beq_self_eq_true _⟩
theorem pats_is {ts : List Tk} (T : TokOk ts) : ∀ (n m a : Nat) (ps : List Pat), ts.length - a < n → ts.length - a < m → a < ts.length → (Vahypa.takePats n ps (tl ts a)).map (·.map pf) = endF ts (loopP ts m a (ps.map pf))
  | 0, _, _, _, h, _, _ => by omega
  | _ + 1, 0, _, _, _, h, _ => by omega
  | n + 1, m + 1, a, ps, h1, h2, ha => by
    unfold Vahypa.takePats loopP
    rw [next_last ha]
    by_cases e0 : (curT ts a).1 = []
    · have e1 : ¬ (curT ts a).1 = patB := fun z => by rw [e0] at z; exact absurd z (by decide)
      rw [if_pos (decide_eq_true e0), if_neg e1]
      unfold endF
      dsimp only
      rw [if_pos e0]
      rfl
    · rw [if_neg (by rw [decide_eq_false e0]; decide)]
      unfold takeWord
      rw [word_pat, taken_is ha (by decide)]
      by_cases e1 : (curT ts a).1 = patB
      · rw [if_pos e1, if_pos e1]
        show Except.map _ (if Vahypa.PATS ≤ ps.length then _ else _) = _
        unfold stepP
        rw [List.length_map]
        by_cases e2 : 40 ≤ ps.length
        · rw [if_pos (show Vahypa.PATS ≤ ps.length from e2), if_pos e2, here_is ha]
          rfl
        · rw [if_neg (show ¬ Vahypa.PATS ≤ ps.length from e2), if_neg e2, if_neg (fun z => z e1)]
          have ha1 := cur_next T ha (by rw [e1]; decide)
          rw [chunk_is ha1]
          by_cases e3 : isCh (curT ts (a + 1)).1 = true
          · rw [if_pos e3, if_neg (by rw [e3]; decide)]
            have ha2 := ch_next T ha1 e3
            have hpat := pat_is (curT ts (a + 1)).1
            rw [← hpat]
            show Except.map _ (match Vahypa.patOf (curT ts (a + 1)).1 with
              | none => _
              | some w => _) = _
            cases hw : Vahypa.patOf (curT ts (a + 1)).1 with
            | none => rfl
            | some v =>
              rw [Option.map_some]
              dsimp only
              rw [any_pf]
              rw [show (v.x, v.front, v.halt_) = pf v from rfl]
              by_cases e5 : pf v ∈ ps.map pf
              · rw [if_pos (decide_eq_true e5), if_pos e5]
                rfl
              · rw [if_neg (by rw [decide_eq_false e5]; decide), if_neg e5, sign_is ha2]
                by_cases e6 : (curT ts (a + 2)).1 = [59]
                · rw [if_pos e6, if_neg (fun z => z e6)]
                  have ha3 := sg_next T ha2 e6
                  have ih := pats_is T n m (a + 3) (ps ++ [v]) (by omega) (by omega) ha3
                  rw [List.map_append] at ih
                  exact ih
                · rw [if_neg e6, if_pos e6]
                  rfl
          · rw [if_neg e3, if_pos (by simpa using e3)]
            rfl
      · rw [if_neg e1, if_neg e1]
        unfold endF
        dsimp only
        rw [if_neg e0]
        rfl
theorem loopW_in {ts : List Tk} (T : TokOk ts) : ∀ (n a : Nat) (ws ws' : List Word) (a' : Nat), loopW ts n a ws = .inr (ws', a') → a < ts.length → a ≤ a' ∧ a' < ts.length
  | 0, a, ws, ws', a', h, ha => by
    cases h
    exact ⟨Nat.le_refl _, ha⟩
  | n + 1, a, ws, ws', a', h, ha => by
    unfold loopW at h
    split at h
    · split at h
      · cases h
      · rename_i v a2 hs
        obtain ⟨q1, q2, _⟩ := stepW_ok T hs ha
        subst q1
        have := loopW_in T n _ _ _ _ h q2
        omega
    · cases h
      exact ⟨Nat.le_refl _, ha⟩
def sum4 (s : Lst) : Rd4 := (s.l, s.r, s.words, s.pats.length)
theorem whole4_is {ts : List Tk} (T : TokOk ts) (h0 : 0 < ts.length) : (((takeWord "margins" (ts.map back)).bind fun l => (Vahypa.takeMargin l).bind fun a => (Vahypa.takeMargin a.2).bind fun z => (takeSign 59 z.2).bind fun l => (Vahypa.takeWords (l.length + 1) [] l).bind fun ws => (Vahypa.takePats (l.length + 1) [] ws.2).map fun ps => (⟨a.1, z.1, ws.1, ps⟩ : Lst))).map sum4 = exM id (wholeF ts) := by
  have ht : ts.map back = tl ts 0 := rfl
  unfold takeWord wholeF
  rw [ht, word_marg, taken_is h0 (by decide)]
  by_cases e1 : (curT ts 0).1 = margB
  · rw [if_pos e1, if_neg (fun z => z e1)]
    have h1 := cur_next T h0 (by rw [e1]; decide)
    show Except.map sum4 ((Vahypa.takeMargin (tl ts 1)).bind _) = _
    rw [margin_is h1]
    cases e2 : stepM ts 1 with
    | inl e => rfl
    | inr m1 =>
      have h2 := ch_next T h1 (stepM_ch e2)
      show Except.map sum4 ((Vahypa.takeMargin (tl ts 2)).bind _) = _
      rw [margin_is h2]
      dsimp only
      cases e3 : stepM ts 2 with
      | inl e => rfl
      | inr m2 =>
        have h3 := ch_next T h2 (stepM_ch e3)
        show Except.map sum4 ((takeSign 59 (tl ts 3)).bind _) = _
        rw [sign_is h3]
        dsimp only
        by_cases e4 : (curT ts 3).1 = [59]
        · rw [if_pos e4, if_neg (fun z => z e4)]
          have h4 := sg_next T h3 e4
          show Except.map sum4 ((Vahypa.takeWords ((tl ts 4).length + 1) [] (tl ts 4)).bind _) = _
          unfold restF
          have hl := tl_len ts 4
          rw [words_is T _ (ts.length + 1) 4 [] (by omega) (by omega) h4]
          cases e5 : loopW ts (ts.length + 1) 4 [] with
          | inl e => rfl
          | inr w =>
            obtain ⟨ws, a⟩ := w
            have h5 := loopW_in T _ _ _ _ _ e5 h4
            show Except.map sum4 ((Vahypa.takePats ((tl ts 4).length + 1) [] (tl ts a)).map _) = _
            dsimp only
            have hp := pats_is T ((tl ts 4).length + 1) (ts.length + 1) a [] (by omega) (by omega) h5.2
            rw [List.map_nil] at hp
            cases e6 : Vahypa.takePats ((tl ts 4).length + 1) [] (tl ts a) with
            | error f =>
              rw [e6] at hp
              cases e7 : loopP ts (ts.length + 1) a [] with
              | inl e =>
                rw [e7] at hp
                have hp : Except.error f = endF ts (.inl e) := hp
                injection hp with hp
                subst hp
                rfl
              | inr q =>
                obtain ⟨ps, a'⟩ := q
                rw [e7] at hp
                have hp : Except.error f = endF ts (.inr (ps, a')) := hp
                unfold endF at hp
                dsimp only at hp ⊢
                split at hp
                · cases hp
                · rename_i hne
                  injection hp with hp
                  subst hp
                  rw [if_neg hne]
                  rfl
            | ok pl =>
              rw [e6] at hp
              cases e7 : loopP ts (ts.length + 1) a [] with
              | inl e =>
                rw [e7] at hp
                cases hp
              | inr q =>
                obtain ⟨ps, a'⟩ := q
                rw [e7] at hp
                have hp : Except.ok (pl.map pf) = endF ts (.inr (ps, a')) := hp
                unfold endF at hp
                dsimp only at hp ⊢
                split at hp
                · rename_i hne
                  injection hp with hp
                  rw [if_pos hne, ← hp, List.length_map]
                  rfl
                · cases hp
        · rw [if_neg e4, if_pos e4]
          rfl
  · rw [if_neg e1, if_pos e1]
    rfl
theorem tokens_is {b : List UInt8} (h : ¬ 4096 < b.length) : VahypBase.tokens b = exQ (toksF b) := by
  unfold VahypBase.tokens
  rw [if_neg (show ¬ VahypBase.TEXT < b.length from h), toksF_Q]
  exact lex_is b (b.length + 1) 0 (Nat.zero_le _) (by omega)
theorem read4_is (b : List UInt8) : (Vahypa.read b).map sum4 = exM id (readF b) := by
  unfold Vahypa.read readF
  by_cases h : 4096 < b.length
  · unfold VahypBase.tokens
    rw [if_pos (show VahypBase.TEXT < b.length from h), if_pos h]
    rfl
  · rw [tokens_is h, if_neg h]
    cases e : toksF b with
    | inl a => rfl
    | inr ts =>
      obtain ⟨T, h0⟩ := toks_ok e (by omega)
      exact whole4_is T h0
theorem read_is (b : List UInt8) : ReadIs b := by
  have h := read4_is b
  unfold ReadIs
  cases e : Vahypa.read b with
  | error f =>
    rw [e] at h
    cases e2 : readF b with
    | inl z =>
      rw [e2] at h
      have h : Except.error f = exM id (.inl z) := h
      unfold exM at h
      injection h with h
      subst h
      rfl
    | inr r =>
      rw [e2] at h
      cases h
  | ok s =>
    rw [e] at h
    cases e2 : readF b with
    | inl z =>
      rw [e2] at h
      cases h
    | inr r =>
      rw [e2] at h
      have h : Except.ok (sum4 s) = exM id (.inr r) := h
      unfold exM at h
      injection h with h
      have h : sum4 s = r := h
      subst h
      exact ⟨_, rfl, rfl, rfl, rfl, rfl, readF_wf e2⟩
end Lp
namespace Lp
open PySem PySem.Spec PyProof.Rows L2 Tr
open Vahypa (Word Lst)
/-! ### what the top has written -/
def FnA (K : PySem.W.Frag) (x qual : Str) (st : Stmt) (f : Addr) : Prop := ∃ fd, Fun K x qual st f fd
theorem fnA_mk {K : PySem.W.Frag} {x qual : Str} {st : Stmt} {f : Addr} {oc : Value} {od an : Option Addr} {osl : Array (Option Value)} {kV doc pm cdv ct : Value} (l : K.lookup f = some ⟨oc, od, .func (PySem.W.fnOf x qual (defArgs st) (defBody st) (defScope st) .none kV doc pm an cdv ct), osl⟩)
    (c : PySem.W.codeIn K cdv qual = true) (k : PySem.W.keepIn K (.ref f) = true) : FnA K x qual st f := ⟨_, fun_mk l c k⟩
structure ClA (K : PySem.W.Frag) (C : Addr) : Prop where
  cl : Cls K C
  made : PySem.W.makesIn K C = true
  kp : PySem.W.keepIn K (.ref C) = true
theorem clA_mk {K : PySem.W.Frag} {C : Addr} (pg : PySem.W.plainGet K C Str.empty = true) (hd : PySem.W.hasDictIn K C = true) (po : PySem.W.plainOver K C = true) (sa : PySem.W.findIn K (.ref C) "__setattr__" = some (some (.builtin "object.__setattr__"))) (mk : PySem.W.makesIn K C = true) (kp : PySem.W.keepIn K (.ref C) = true) : ClA K C := ⟨⟨pg, hd, po, sa⟩, mk, kp⟩
def LkX (K : PySem.W.Frag) (C : Addr) : Prop := ∃ nm q N bs bm sn sub ab col dd k0 k1 k2 k3 k5, K.lookup C = some (excClassObj nm q C N bs bm true sn sub ab col dd k0 k1 k2 k3 k5 "ValueError.__new__") ∧ PySem.HandSPX.refsVE bm = true
theorem lkX_mk {K : PySem.W.Frag} {C : Addr} {nm q : Str} {N : Addr} {bs : List Value} {sn : List Str} {sub : List Value} {ab : Bool} {col : Option Bool} {dd : Option Addr} {m0 m1 m2 m3 m5 : Option Value}
    (h : K.lookup C = some (excClassObj nm q C N bs [.type "ValueError", .type "Exception", .type "BaseException", .type "object"] true sn sub ab col dd m0 m1 m2 m3 m5 "ValueError.__new__")) : LkX K C :=
  ⟨nm, q, N, bs, _, sn, sub, ab, col, dd, m0, m1, m2, m3, m5, h, by decide +kernel⟩
structure ExA (K : PySem.W.Frag) (C : Addr) : Prop where
  sa : PySem.W.findIn K (.ref C) "__setattr__" = some (some (.builtin "object.__setattr__"))
  ga : PySem.W.findIn K (.ref C) "__getattribute__" = some (some (.builtin "BaseException.__getattribute__"))
  gg : PySem.W.findIn K (.ref C) "__getattr__" = some none
  eC : PySem.W.subIn K (.ref C) (.type "BaseException") = some true
  tC : PySem.W.typeIn K (.ref C) = some (.type "type")
  kC : PySem.W.keepIn K (.ref C) = true
  hC : PySem.W.hasDictIn K C = true
  iC : PySem.W.isClsIn K C = true
  sC : PySem.W.subIn K (.ref C) (.ref C) = some true
theorem exA_mk {K : PySem.W.Frag} {C : Addr} (sa : PySem.W.findIn K (.ref C) "__setattr__" = some (some (.builtin "object.__setattr__"))) (ga : PySem.W.findIn K (.ref C) "__getattribute__" = some (some (.builtin "BaseException.__getattribute__"))) (gg : PySem.W.findIn K (.ref C) "__getattr__" = some none)
    (eC : PySem.W.subIn K (.ref C) (.type "BaseException") = some true) (tC : PySem.W.typeIn K (.ref C) = some (.type "type")) (kC : PySem.W.keepIn K (.ref C) = true) (hC : PySem.W.hasDictIn K C = true) (iC : PySem.W.isClsIn K C = true) (sC : PySem.W.subIn K (.ref C) (.ref C) = some true) : ExA K C := ⟨sa, ga, gg, eC, tC, kC, hC, iC, sC⟩
/-- an error of the class is what its own clause names -/
theorem ExA.te {K : PySem.W.Frag} {C : Addr} (E : ExA K C) : PySem.W.exmOne K (.ref C) (.ref C) = some true := by
  have e1 : (PySem.W.subIn K (.ref C) (.type "BaseException") == some true) = true := by rw [E.eC] <;> rfl
  have e2 : ((PySem.W.clsIn K C).isSome && PySem.W.typeIn K (.ref C) == some (.type "type")) = true := by
    have h2 : (PySem.W.clsIn K C).isSome = true := E.iC
    rw [h2, E.tC] <;> rfl
  show (if (PySem.W.subIn K (.ref C) (.type "BaseException") == some true) = true then (if ((PySem.W.clsIn K C).isSome && PySem.W.typeIn K (.ref C) == some (.type "type")) = true then PySem.W.subIn K (.ref C) (.ref C) else none) else none) = some true
  rw [if_pos e1, if_pos e2]
  exact E.sC
def InA (K : PySem.W.Frag) (x : Str) (i : Int) : Prop := ∃ t, PySem.W.nsIn K mainGlobals x = some (some (.int i t))
theorem inA_mk {K : PySem.W.Frag} {x : Str} {i : Int} {t : Tok} (h : PySem.W.nsIn K mainGlobals x = some (some (.int i t))) : InA K x i := ⟨t, h⟩
def StA (K : PySem.W.Frag) (x : Str) (y : Str) : Prop := ∃ t, PySem.W.nsIn K mainGlobals x = some (some (.str y t))
theorem stA_mk {K : PySem.W.Frag} {x y : Str} {t : Tok} (h : PySem.W.nsIn K mainGlobals x = some (some (.str y t))) : StA K x y := ⟨t, h⟩
def TuA (K : PySem.W.Frag) (p : Addr) (l : List Int) : Prop := ∃ (o : Obj) (its : Array Value) (n : Nat), K.lookup p = some o ∧ o.cls = .type "tuple" ∧ o.data = .seq its n ∧ its.size ≤ sizeLine ∧ Vals (l.map fun i => V.int i) its.toList
theorem tuA_mk {K : PySem.W.Frag} {p : Addr} {l : List Int} {o : Obj} {its : Array Value} {n : Nat} (h : K.lookup p = some o) (hc : o.cls = .type "tuple") (hd : o.data = .seq its n) (hs : its.size ≤ 1000) (hv : Vals (l.map fun i => V.int i) its.toList) : TuA K p l := ⟨o, its, n, h, hc, hd, Nat.le_trans hs (by decide), hv⟩
theorem TuA.at_ {K : PySem.W.Frag} {p : Addr} {l : List Int} (T : TuA K p l) (H : Hp) : SqT K H p (l.map fun i => V.int i) := .inr T
def OtA (K : PySem.W.Frag) (p : Addr) : Prop := ∃ (t1 t2 t3 u1 u2 u3 : Tok) (n : Nat), K.lookup p = some ⟨.type "dict", none, .dict #[⟨hashInt 45, .int 45 t1, .str (sU [45]) u1⟩, ⟨hashInt 46, .int 46 t2, .str (sU [46]) u2⟩, ⟨hashInt 59, .int 59 t3, .str (sU [59]) u3⟩] n, #[]⟩
theorem otA_mk {K : PySem.W.Frag} {p : Addr} {h1 h2 h3 : Int} {t1 t2 t3 u1 u2 u3 : Tok} {n : Nat} (h : K.lookup p = some ⟨.type "dict", none, .dict #[⟨h1, .int 45 t1, .str "-" u1⟩, ⟨h2, .int 46 t2, .str "." u2⟩, ⟨h3, .int 59 t3, .str ";" u3⟩] n, #[]⟩) (e1 : h1 = hashInt 45) (e2 : h2 = hashInt 46) (e3 : h3 = hashInt 59) : OtA K p := by
  subst e1 e2 e3
  have s1 : sU [45] = "-" := by decide +kernel
  have s2 : sU [46] = "." := by decide +kernel
  have s3 : sU [59] = ";" := by decide +kernel
  refine ⟨t1, t2, t3, u1, u2, u3, n, ?_⟩
  rw [s1, s2, s3]
  exact h
section
variable {P : Program} {w : World} {K : PySem.W.Frag} {mg : Str → Option Value} {base : Heap} {f C : Addr} {fd : FuncData} {ps : List Str} {x qual : Str} {st : Stmt} {k : Nat}
theorem has_mk {CX : CXT} {A : Pr} (F : Fun K x qual st f fd) (m : mg x = some (.ref f)) (b : Binds K fd ps []) (o : FnOk P w K mg base CX k f fd ps (spT A)) : Has P w K mg base CX k x A := ⟨f, fd, ps, m, F.kp, b, o⟩
theorem hasO_mk {A : PrO} (F : Fun K x qual st f fd) (m : mg x = some (.ref f)) (b : Binds K fd ps []) (o : FnOk P w K mg base (L2.CX P w) k f fd ps (spO A)) : HasO P w K mg base k x A := ⟨f, fd, ps, m, F.kp, b, o⟩
theorem hasM_mk {CX : CXT} {A : Pr} (cl : ClA K C) (F : Fun K x qual st f fd) (a : PySem.W.findIn K (.ref C) x = some (some (.ref f))) (i : PySem.W.isFn K (.ref f) = true) (b : Binds K fd ps []) (o : FnOk P w K mg base CX k f fd ps (spT A)) : HasM P w K mg base CX k C x A := ⟨f, fd, ps, cl.cl, ⟨a, i, F.kp⟩, b, o⟩
theorem hasMO_mk {A : PrO} (cl : ClA K C) (F : Fun K x qual st f fd) (a : PySem.W.findIn K (.ref C) x = some (some (.ref f))) (i : PySem.W.isFn K (.ref f) = true) (b : Binds K fd ps []) (o : FnOk P w K mg base (L2.CX P w) k f fd ps (spO A)) : HasMO P w K mg base k C x A := ⟨f, fd, ps, cl.cl, ⟨a, i, F.kp⟩, b, o⟩
theorem hasC_mk {A : PrI} {y : Str} {ns : List Str} (cl : ClA K C) (m : mg y = some (.ref C)) (a : PySem.W.findIn K (.ref C) "__init__" = some (some (.ref f))) (i : PySem.W.isFn K (.ref f) = true) (b : Binds K fd ps []) (o : FnOk P w K mg base CX0 k f fd ps (spI C ns A)) : HasC P w K mg base k C y ns A := ⟨f, fd, ps, m, ⟨cl.made, a, i, cl.kp⟩, b, o⟩
end
theorem cn_int {K : PySem.W.Frag} {h : Heap} {mg : Str → Option Value} {x : Str} {i : Int} (X : K.In h) (G : h.Ns mainGlobals mg) (e : InA K x i) : Cn mg x (.int i) := by
  obtain ⟨t, e⟩ := e
  exact ⟨_, PySem.W.mg_of X G e, ⟨t, rfl⟩⟩
theorem cn_str {K : PySem.W.Frag} {h : Heap} {mg : Str → Option Value} {x y z : Str} (X : K.In h) (G : h.Ns mainGlobals mg) (e : StA K x y) (hz : z = y) : Cn mg x (.str z) := by
  obtain ⟨t, e⟩ := e
  subst hz
  exact ⟨_, PySem.W.mg_of X G e, ⟨t, rfl⟩⟩
theorem all_mk {P : Program} {w : World} {K : PySem.W.Frag} {h : Heap} {mg : Str → Option Value} {fa : Addr} (X : K.In h) (G : h.Ns mainGlobals mg) (hfa : mg "answers" = some (.ref fa))
    {cW cL cR cK cF cE cX f_cost_of f_lowest_lacking f_many_bits f_numbers_in f_best_from f_Family_every f_Family_together f_Family_all_covered f_Family_first_lacking f_Family_used f_least_set f_greediest f_greedy_set f_are_apart f_bound_key f_bound_of f_Listed_is_within f_goals_of f_chunk_of f_size_of f_places_in f_parted_by f_is_good f_with_points f_around f_covered_by f_pieces_of f_Family_init f_Word_init f_Listed_init f_ListReader_init f_Keeper_init f_Fault_init f_Refused_init f_sign_of f_remark_end f_behind_blanks f_chunk_at f_token_at f_tokens_of f_are_letters f_word_of f_bare_pattern f_pattern_of f_ListReader_token f_ListReader_fail f_ListReader_want f_ListReader_take f_ListReader_want_chunk f_ListReader_margin f_ListReader_word f_ListReader_pattern f_ListReader_whole f_read_list f_want f_listed_numbers f_Keeper_want_list f_Keeper_family_of f_Keeper_goals_told f_Keeper_family f_Keeper_set_told f_Keeper_lacking_told f_Keeper_least f_Keeper_greedy f_Keeper_bound f_Keeper_check f_Keeper_piece f_Keeper_load f_told f_answer f_answers p_BLANKS p_NUMBERS p_ROWS p_OTHERS : Addr}
    (a_Word : PySem.W.nsIn K mainGlobals "Word" = some (some (.ref cW)))
    (c_Word : ClA K cW)
    (n_Word_letters : PySem.W.findIn K (.ref cW) "letters" = some none)
    (n_Word_gaps : PySem.W.findIn K (.ref cW) "gaps" = some none)
    (a_Listed : PySem.W.nsIn K mainGlobals "Listed" = some (some (.ref cL)))
    (c_Listed : ClA K cL)
    (n_Listed_left : PySem.W.findIn K (.ref cL) "left" = some none)
    (n_Listed_right : PySem.W.findIn K (.ref cL) "right" = some none)
    (n_Listed_words : PySem.W.findIn K (.ref cL) "words" = some none)
    (n_Listed_patterns : PySem.W.findIn K (.ref cL) "patterns" = some none)
    (a_ListReader : PySem.W.nsIn K mainGlobals "ListReader" = some (some (.ref cR)))
    (c_ListReader : ClA K cR)
    (n_ListReader_tokens : PySem.W.findIn K (.ref cR) "tokens" = some none)
    (n_ListReader_at : PySem.W.findIn K (.ref cR) "at" = some none)
    (a_Keeper : PySem.W.nsIn K mainGlobals "Keeper" = some (some (.ref cK)))
    (c_Keeper : ClA K cK)
    (n_Keeper_held : PySem.W.findIn K (.ref cK) "held" = some none)
    (a_Family : PySem.W.nsIn K mainGlobals "Family" = some (some (.ref cF)))
    (c_Family : ClA K cF)
    (n_Family_goals : PySem.W.findIn K (.ref cF) "goals" = some none)
    (n_Family_pieces : PySem.W.findIn K (.ref cF) "pieces" = some none)
    (n_Family_covers : PySem.W.findIn K (.ref cF) "covers" = some none)
    (n_Family_sizes : PySem.W.findIn K (.ref cF) "sizes" = some none)
    (a_Fault : PySem.W.nsIn K mainGlobals "Fault" = some (some (.ref cE)))
    (l_Fault : LkX K cE)
    (c_Fault : ExA K cE)
    (n_Fault_code : PySem.W.findIn K (.ref cE) "code" = some none)
    (n_Fault_place : PySem.W.findIn K (.ref cE) "place" = some none)
    (a_Refused : PySem.W.nsIn K mainGlobals "Refused" = some (some (.ref cX)))
    (l_Refused : LkX K cX)
    (c_Refused : ExA K cX)
    (n_Refused_code : PySem.W.findIn K (.ref cX) "code" = some none)
    (a_cost_of : PySem.W.nsIn K mainGlobals "cost_of" = some (some (.ref f_cost_of)))
    (F_cost_of : FnA K "cost_of" "cost_of" s_cost_of f_cost_of)
    (a_lowest_lacking : PySem.W.nsIn K mainGlobals "lowest_lacking" = some (some (.ref f_lowest_lacking)))
    (F_lowest_lacking : FnA K "lowest_lacking" "lowest_lacking" s_lowest_lacking f_lowest_lacking)
    (a_many_bits : PySem.W.nsIn K mainGlobals "many_bits" = some (some (.ref f_many_bits)))
    (F_many_bits : FnA K "many_bits" "many_bits" s_many_bits f_many_bits)
    (a_numbers_in : PySem.W.nsIn K mainGlobals "numbers_in" = some (some (.ref f_numbers_in)))
    (F_numbers_in : FnA K "numbers_in" "numbers_in" s_numbers_in f_numbers_in)
    (a_best_from : PySem.W.nsIn K mainGlobals "best_from" = some (some (.ref f_best_from)))
    (F_best_from : FnA K "best_from" "best_from" s_best_from f_best_from)
    (a_Family_every : PySem.W.findIn K (.ref cF) "every" = some (some (.ref f_Family_every)))
    (i_Family_every : PySem.W.isFn K (.ref f_Family_every) = true)
    (F_Family_every : FnA K "every" "Family.every" (sFam 1) f_Family_every)
    (a_Family_together : PySem.W.findIn K (.ref cF) "together" = some (some (.ref f_Family_together)))
    (i_Family_together : PySem.W.isFn K (.ref f_Family_together) = true)
    (F_Family_together : FnA K "together" "Family.together" (sFam 2) f_Family_together)
    (a_Family_all_covered : PySem.W.findIn K (.ref cF) "all_covered" = some (some (.ref f_Family_all_covered)))
    (i_Family_all_covered : PySem.W.isFn K (.ref f_Family_all_covered) = true)
    (F_Family_all_covered : FnA K "all_covered" "Family.all_covered" (sFam 3) f_Family_all_covered)
    (a_Family_first_lacking : PySem.W.findIn K (.ref cF) "first_lacking" = some (some (.ref f_Family_first_lacking)))
    (i_Family_first_lacking : PySem.W.isFn K (.ref f_Family_first_lacking) = true)
    (F_Family_first_lacking : FnA K "first_lacking" "Family.first_lacking" (sFam 4) f_Family_first_lacking)
    (a_Family_used : PySem.W.findIn K (.ref cF) "used" = some (some (.ref f_Family_used)))
    (i_Family_used : PySem.W.isFn K (.ref f_Family_used) = true)
    (F_Family_used : FnA K "used" "Family.used" (sFam 5) f_Family_used)
    (a_least_set : PySem.W.nsIn K mainGlobals "least_set" = some (some (.ref f_least_set)))
    (F_least_set : FnA K "least_set" "least_set" s_least_set f_least_set)
    (a_greediest : PySem.W.nsIn K mainGlobals "greediest" = some (some (.ref f_greediest)))
    (F_greediest : FnA K "greediest" "greediest" s_greediest f_greediest)
    (a_greedy_set : PySem.W.nsIn K mainGlobals "greedy_set" = some (some (.ref f_greedy_set)))
    (F_greedy_set : FnA K "greedy_set" "greedy_set" s_greedy_set f_greedy_set)
    (a_are_apart : PySem.W.nsIn K mainGlobals "are_apart" = some (some (.ref f_are_apart)))
    (F_are_apart : FnA K "are_apart" "are_apart" s_are_apart f_are_apart)
    (a_bound_key : PySem.W.nsIn K mainGlobals "bound_key" = some (some (.ref f_bound_key)))
    (F_bound_key : FnA K "bound_key" "bound_key" s_bound_key f_bound_key)
    (a_bound_of : PySem.W.nsIn K mainGlobals "bound_of" = some (some (.ref f_bound_of)))
    (F_bound_of : FnA K "bound_of" "bound_of" s_bound_of f_bound_of)
    (a_Listed_is_within : PySem.W.findIn K (.ref cL) "is_within" = some (some (.ref f_Listed_is_within)))
    (i_Listed_is_within : PySem.W.isFn K (.ref f_Listed_is_within) = true)
    (F_Listed_is_within : FnA K "is_within" "Listed.is_within" s_is_within f_Listed_is_within)
    (a_goals_of : PySem.W.nsIn K mainGlobals "goals_of" = some (some (.ref f_goals_of)))
    (F_goals_of : FnA K "goals_of" "goals_of" s_goals_of f_goals_of)
    (a_chunk_of : PySem.W.nsIn K mainGlobals "chunk_of" = some (some (.ref f_chunk_of)))
    (F_chunk_of : FnA K "chunk_of" "chunk_of" s_chunk_of f_chunk_of)
    (a_size_of : PySem.W.nsIn K mainGlobals "size_of" = some (some (.ref f_size_of)))
    (F_size_of : FnA K "size_of" "size_of" s_size_of f_size_of)
    (a_places_in : PySem.W.nsIn K mainGlobals "places_in" = some (some (.ref f_places_in)))
    (F_places_in : FnA K "places_in" "places_in" s_places_in f_places_in)
    (a_parted_by : PySem.W.nsIn K mainGlobals "parted_by" = some (some (.ref f_parted_by)))
    (F_parted_by : FnA K "parted_by" "parted_by" s_parted_by f_parted_by)
    (a_is_good : PySem.W.nsIn K mainGlobals "is_good" = some (some (.ref f_is_good)))
    (F_is_good : FnA K "is_good" "is_good" s_is_good f_is_good)
    (a_with_points : PySem.W.nsIn K mainGlobals "with_points" = some (some (.ref f_with_points)))
    (F_with_points : FnA K "with_points" "with_points" s_with_points f_with_points)
    (a_around : PySem.W.nsIn K mainGlobals "around" = some (some (.ref f_around)))
    (F_around : FnA K "around" "around" s_around f_around)
    (a_covered_by : PySem.W.nsIn K mainGlobals "covered_by" = some (some (.ref f_covered_by)))
    (F_covered_by : FnA K "covered_by" "covered_by" s_covered_by f_covered_by)
    (a_pieces_of : PySem.W.nsIn K mainGlobals "pieces_of" = some (some (.ref f_pieces_of)))
    (F_pieces_of : FnA K "pieces_of" "pieces_of" s_pieces_of f_pieces_of)
    (a_Family_init : PySem.W.findIn K (.ref cF) "__init__" = some (some (.ref f_Family_init)))
    (i_Family_init : PySem.W.isFn K (.ref f_Family_init) = true)
    (F_Family_init : FnA K "__init__" "Family.__init__" s_Fam_init f_Family_init)
    (a_Word_init : PySem.W.findIn K (.ref cW) "__init__" = some (some (.ref f_Word_init)))
    (i_Word_init : PySem.W.isFn K (.ref f_Word_init) = true)
    (F_Word_init : FnA K "__init__" "Word.__init__" s_Word_init f_Word_init)
    (a_Listed_init : PySem.W.findIn K (.ref cL) "__init__" = some (some (.ref f_Listed_init)))
    (i_Listed_init : PySem.W.isFn K (.ref f_Listed_init) = true)
    (F_Listed_init : FnA K "__init__" "Listed.__init__" s_Listed_init f_Listed_init)
    (a_ListReader_init : PySem.W.findIn K (.ref cR) "__init__" = some (some (.ref f_ListReader_init)))
    (i_ListReader_init : PySem.W.isFn K (.ref f_ListReader_init) = true)
    (F_ListReader_init : FnA K "__init__" "ListReader.__init__" s_Reader_init f_ListReader_init)
    (a_Keeper_init : PySem.W.findIn K (.ref cK) "__init__" = some (some (.ref f_Keeper_init)))
    (i_Keeper_init : PySem.W.isFn K (.ref f_Keeper_init) = true)
    (F_Keeper_init : FnA K "__init__" "Keeper.__init__" s_Keeper_init f_Keeper_init)
    (a_Fault_init : PySem.W.findIn K (.ref cE) "__init__" = some (some (.ref f_Fault_init)))
    (t_Fault_init : PySem.W.typeIn K (.ref f_Fault_init) = some (.type "function"))
    (F_Fault_init : FnA K "__init__" "Fault.__init__" s_Fault_init f_Fault_init)
    (a_Refused_init : PySem.W.findIn K (.ref cX) "__init__" = some (some (.ref f_Refused_init)))
    (t_Refused_init : PySem.W.typeIn K (.ref f_Refused_init) = some (.type "function"))
    (F_Refused_init : FnA K "__init__" "Refused.__init__" s_Refused_init f_Refused_init)
    (a_sign_of : PySem.W.nsIn K mainGlobals "sign_of" = some (some (.ref f_sign_of)))
    (F_sign_of : FnA K "sign_of" "sign_of" s_sign_of f_sign_of)
    (a_remark_end : PySem.W.nsIn K mainGlobals "remark_end" = some (some (.ref f_remark_end)))
    (F_remark_end : FnA K "remark_end" "remark_end" s_remark_end f_remark_end)
    (a_behind_blanks : PySem.W.nsIn K mainGlobals "behind_blanks" = some (some (.ref f_behind_blanks)))
    (F_behind_blanks : FnA K "behind_blanks" "behind_blanks" s_behind_blanks f_behind_blanks)
    (a_chunk_at : PySem.W.nsIn K mainGlobals "chunk_at" = some (some (.ref f_chunk_at)))
    (F_chunk_at : FnA K "chunk_at" "chunk_at" s_chunk_at f_chunk_at)
    (a_token_at : PySem.W.nsIn K mainGlobals "token_at" = some (some (.ref f_token_at)))
    (F_token_at : FnA K "token_at" "token_at" s_token_at f_token_at)
    (a_tokens_of : PySem.W.nsIn K mainGlobals "tokens_of" = some (some (.ref f_tokens_of)))
    (F_tokens_of : FnA K "tokens_of" "tokens_of" s_tokens_of f_tokens_of)
    (a_are_letters : PySem.W.nsIn K mainGlobals "are_letters" = some (some (.ref f_are_letters)))
    (F_are_letters : FnA K "are_letters" "are_letters" s_are_letters f_are_letters)
    (a_word_of : PySem.W.nsIn K mainGlobals "word_of" = some (some (.ref f_word_of)))
    (F_word_of : FnA K "word_of" "word_of" s_word_of f_word_of)
    (a_bare_pattern : PySem.W.nsIn K mainGlobals "bare_pattern" = some (some (.ref f_bare_pattern)))
    (F_bare_pattern : FnA K "bare_pattern" "bare_pattern" s_bare_pattern f_bare_pattern)
    (a_pattern_of : PySem.W.nsIn K mainGlobals "pattern_of" = some (some (.ref f_pattern_of)))
    (F_pattern_of : FnA K "pattern_of" "pattern_of" s_pattern_of f_pattern_of)
    (a_ListReader_token : PySem.W.findIn K (.ref cR) "token" = some (some (.ref f_ListReader_token)))
    (i_ListReader_token : PySem.W.isFn K (.ref f_ListReader_token) = true)
    (F_ListReader_token : FnA K "token" "ListReader.token" (sRd 1) f_ListReader_token)
    (a_ListReader_fail : PySem.W.findIn K (.ref cR) "fail" = some (some (.ref f_ListReader_fail)))
    (i_ListReader_fail : PySem.W.isFn K (.ref f_ListReader_fail) = true)
    (F_ListReader_fail : FnA K "fail" "ListReader.fail" (sRd 2) f_ListReader_fail)
    (a_ListReader_want : PySem.W.findIn K (.ref cR) "want" = some (some (.ref f_ListReader_want)))
    (i_ListReader_want : PySem.W.isFn K (.ref f_ListReader_want) = true)
    (F_ListReader_want : FnA K "want" "ListReader.want" (sRd 3) f_ListReader_want)
    (a_ListReader_take : PySem.W.findIn K (.ref cR) "take" = some (some (.ref f_ListReader_take)))
    (i_ListReader_take : PySem.W.isFn K (.ref f_ListReader_take) = true)
    (F_ListReader_take : FnA K "take" "ListReader.take" (sRd 4) f_ListReader_take)
    (a_ListReader_want_chunk : PySem.W.findIn K (.ref cR) "want_chunk" = some (some (.ref f_ListReader_want_chunk)))
    (i_ListReader_want_chunk : PySem.W.isFn K (.ref f_ListReader_want_chunk) = true)
    (F_ListReader_want_chunk : FnA K "want_chunk" "ListReader.want_chunk" (sRd 5) f_ListReader_want_chunk)
    (a_ListReader_margin : PySem.W.findIn K (.ref cR) "margin" = some (some (.ref f_ListReader_margin)))
    (i_ListReader_margin : PySem.W.isFn K (.ref f_ListReader_margin) = true)
    (F_ListReader_margin : FnA K "margin" "ListReader.margin" (sRd 6) f_ListReader_margin)
    (a_ListReader_word : PySem.W.findIn K (.ref cR) "word" = some (some (.ref f_ListReader_word)))
    (i_ListReader_word : PySem.W.isFn K (.ref f_ListReader_word) = true)
    (F_ListReader_word : FnA K "word" "ListReader.word" (sRd 7) f_ListReader_word)
    (a_ListReader_pattern : PySem.W.findIn K (.ref cR) "pattern" = some (some (.ref f_ListReader_pattern)))
    (i_ListReader_pattern : PySem.W.isFn K (.ref f_ListReader_pattern) = true)
    (F_ListReader_pattern : FnA K "pattern" "ListReader.pattern" (sRd 8) f_ListReader_pattern)
    (a_ListReader_whole : PySem.W.findIn K (.ref cR) "whole" = some (some (.ref f_ListReader_whole)))
    (i_ListReader_whole : PySem.W.isFn K (.ref f_ListReader_whole) = true)
    (F_ListReader_whole : FnA K "whole" "ListReader.whole" (sRd 9) f_ListReader_whole)
    (a_read_list : PySem.W.nsIn K mainGlobals "read_list" = some (some (.ref f_read_list)))
    (F_read_list : FnA K "read_list" "read_list" s_read_list f_read_list)
    (a_want : PySem.W.nsIn K mainGlobals "want" = some (some (.ref f_want)))
    (F_want : FnA K "want" "want" s_want f_want)
    (a_listed_numbers : PySem.W.nsIn K mainGlobals "listed_numbers" = some (some (.ref f_listed_numbers)))
    (F_listed_numbers : FnA K "listed_numbers" "listed_numbers" s_listed f_listed_numbers)
    (a_Keeper_want_list : PySem.W.findIn K (.ref cK) "want_list" = some (some (.ref f_Keeper_want_list)))
    (i_Keeper_want_list : PySem.W.isFn K (.ref f_Keeper_want_list) = true)
    (F_Keeper_want_list : FnA K "want_list" "Keeper.want_list" (sKp 2) f_Keeper_want_list)
    (a_Keeper_family_of : PySem.W.findIn K (.ref cK) "family_of" = some (some (.ref f_Keeper_family_of)))
    (i_Keeper_family_of : PySem.W.isFn K (.ref f_Keeper_family_of) = true)
    (F_Keeper_family_of : FnA K "family_of" "Keeper.family_of" (sKp 3) f_Keeper_family_of)
    (a_Keeper_goals_told : PySem.W.findIn K (.ref cK) "goals_told" = some (some (.ref f_Keeper_goals_told)))
    (i_Keeper_goals_told : PySem.W.isFn K (.ref f_Keeper_goals_told) = true)
    (F_Keeper_goals_told : FnA K "goals_told" "Keeper.goals_told" (sKp 4) f_Keeper_goals_told)
    (a_Keeper_family : PySem.W.findIn K (.ref cK) "family" = some (some (.ref f_Keeper_family)))
    (i_Keeper_family : PySem.W.isFn K (.ref f_Keeper_family) = true)
    (F_Keeper_family : FnA K "family" "Keeper.family" (sKp 5) f_Keeper_family)
    (a_Keeper_set_told : PySem.W.findIn K (.ref cK) "set_told" = some (some (.ref f_Keeper_set_told)))
    (i_Keeper_set_told : PySem.W.isFn K (.ref f_Keeper_set_told) = true)
    (F_Keeper_set_told : FnA K "set_told" "Keeper.set_told" (sKp 7) f_Keeper_set_told)
    (a_Keeper_lacking_told : PySem.W.findIn K (.ref cK) "lacking_told" = some (some (.ref f_Keeper_lacking_told)))
    (i_Keeper_lacking_told : PySem.W.isFn K (.ref f_Keeper_lacking_told) = true)
    (F_Keeper_lacking_told : FnA K "lacking_told" "Keeper.lacking_told" (sKp 8) f_Keeper_lacking_told)
    (a_Keeper_least : PySem.W.findIn K (.ref cK) "least" = some (some (.ref f_Keeper_least)))
    (i_Keeper_least : PySem.W.isFn K (.ref f_Keeper_least) = true)
    (F_Keeper_least : FnA K "least" "Keeper.least" (sKp 9) f_Keeper_least)
    (a_Keeper_greedy : PySem.W.findIn K (.ref cK) "greedy" = some (some (.ref f_Keeper_greedy)))
    (i_Keeper_greedy : PySem.W.isFn K (.ref f_Keeper_greedy) = true)
    (F_Keeper_greedy : FnA K "greedy" "Keeper.greedy" (sKp 10) f_Keeper_greedy)
    (a_Keeper_bound : PySem.W.findIn K (.ref cK) "bound" = some (some (.ref f_Keeper_bound)))
    (i_Keeper_bound : PySem.W.isFn K (.ref f_Keeper_bound) = true)
    (F_Keeper_bound : FnA K "bound" "Keeper.bound" (sKp 11) f_Keeper_bound)
    (a_Keeper_check : PySem.W.findIn K (.ref cK) "check" = some (some (.ref f_Keeper_check)))
    (i_Keeper_check : PySem.W.isFn K (.ref f_Keeper_check) = true)
    (F_Keeper_check : FnA K "check" "Keeper.check" (sKp 12) f_Keeper_check)
    (a_Keeper_piece : PySem.W.findIn K (.ref cK) "piece" = some (some (.ref f_Keeper_piece)))
    (i_Keeper_piece : PySem.W.isFn K (.ref f_Keeper_piece) = true)
    (F_Keeper_piece : FnA K "piece" "Keeper.piece" (sKp 6) f_Keeper_piece)
    (a_Keeper_load : PySem.W.findIn K (.ref cK) "load" = some (some (.ref f_Keeper_load)))
    (i_Keeper_load : PySem.W.isFn K (.ref f_Keeper_load) = true)
    (F_Keeper_load : FnA K "load" "Keeper.load" (sKp 1) f_Keeper_load)
    (a_told : PySem.W.nsIn K mainGlobals "told" = some (some (.ref f_told)))
    (F_told : FnA K "told" "told" (top 83) f_told)
    (a_answer : PySem.W.nsIn K mainGlobals "answer" = some (some (.ref f_answer)))
    (F_answer : FnA K "answer" "answer" (top 84) f_answer)
    (a_answers : PySem.W.nsIn K mainGlobals "answers" = some (some (.ref f_answers)))
    (F_answers : FnA K "answers" "answers" (top 85) f_answers)
    (z_len : PySem.W.nsIn K mainGlobals "len" = some none)
    (z_range : PySem.W.nsIn K mainGlobals "range" = some none)
    (z_enumerate : PySem.W.nsIn K mainGlobals "enumerate" = some none)
    (z_max : PySem.W.nsIn K mainGlobals "max" = some none)
    (z_min : PySem.W.nsIn K mainGlobals "min" = some none)
    (z_int : PySem.W.nsIn K mainGlobals "int" = some none)
    (z_ord : PySem.W.nsIn K mainGlobals "ord" = some none)
    (z_all : PySem.W.nsIn K mainGlobals "all" = some none)
    (z_any : PySem.W.nsIn K mainGlobals "any" = some none)
    (z_sum : PySem.W.nsIn K mainGlobals "sum" = some none)
    (z_list : PySem.W.nsIn K mainGlobals "list" = some none)
    (z_reversed : PySem.W.nsIn K mainGlobals "reversed" = some none)
    (z_zip : PySem.W.nsIn K mainGlobals "zip" = some none)
    (z_ValueError : PySem.W.nsIn K mainGlobals "ValueError" = some none)
    (k_FIRST_LETTER : InA K "FIRST_LETTER" (97))
    (k_FIRST_DIGIT : InA K "FIRST_DIGIT" (48))
    (k_REMARK : InA K "REMARK" (35))
    (k_LINE_END : InA K "LINE_END" (10))
    (k_LONGEST : InA K "LONGEST" (40))
    (k_MOST_BYTES : InA K "MOST_BYTES" (4096))
    (k_TOO_LONG : InA K "TOO_LONG" (1))
    (k_NO_TOKEN : InA K "NO_TOKEN" (2))
    (k_NOT_ALLOWED : InA K "NOT_ALLOWED" (3))
    (k_TOO_MANY : InA K "TOO_MANY" (4))
    (k_THERE_ALREADY : InA K "THERE_ALREADY" (5))
    (k_NOT_AS_TOLD_lists : InA K "NOT_AS_TOLD_lists" (7))
    (k_MOST_MARGIN : InA K "MOST_MARGIN" (5))
    (k_LEAST_LETTERS : InA K "LEAST_LETTERS" (2))
    (k_MOST_LETTERS : InA K "MOST_LETTERS" (16))
    (k_MOST_IN_PATTERN : InA K "MOST_IN_PATTERN" (6))
    (k_MOST_WORDS : InA K "MOST_WORDS" (24))
    (k_MOST_PATTERNS : InA K "MOST_PATTERNS" (40))
    (k_NO_LIST : InA K "NO_LIST" (-1))
    (k_NO_PIECE : InA K "NO_PIECE" (-2))
    (k_BAD_LENGTH : InA K "BAD_LENGTH" (-3))
    (k_NOT_AS_TOLD_keeper : InA K "NOT_AS_TOLD_keeper" (-4))
    (k_TOO_MANY_GOALS : InA K "TOO_MANY_GOALS" (-6))
    (k_MOST_LENGTH : InA K "MOST_LENGTH" (4))
    (k_MOST_GOALS : InA K "MOST_GOALS" (9))
    (k_LETTERS : StA K "LETTERS" "abcdefghijklmnopqrstuvwxyz")
    (k_DIGITS : StA K "DIGITS" "0123456789")
    (k_SIGN : StA K "SIGN" ";")
    (k_POINT_lists : StA K "POINT_lists" ".")
    (k_HYPHEN : StA K "HYPHEN" "-")
    (k_POINT_families : StA K "POINT_families" ".")
    (k_DIGIT : StA K "DIGIT" "1")
    (a_BLANKS : PySem.W.nsIn K mainGlobals "BLANKS" = some (some (.ref p_BLANKS)))
    (k_BLANKS : TuA K p_BLANKS [32, 9, 10])
    (a_NUMBERS : PySem.W.nsIn K mainGlobals "NUMBERS" = some (some (.ref p_NUMBERS)))
    (k_NUMBERS : TuA K p_NUMBERS [0, 0, 1, 2, 2, 1, 1, 1])
    (a_ROWS : PySem.W.nsIn K mainGlobals "ROWS" = some (some (.ref p_ROWS)))
    (k_ROWS : TuA K p_ROWS [1, 0, 0, 0, 0, 0, 0, 1])
    (a_OTHERS : PySem.W.nsIn K mainGlobals "OTHERS" = some (some (.ref p_OTHERS)))
    (s_OTHERS : (p_OTHERS == sysModules) = false)
    (k_OTHERS : OtA K p_OTHERS)
    (vV : VeI K)
    (ne : cW ≠ cR)
    : ∃ fd : FuncData, (∀ (s : Shared) (us : List Value), us.length = (["calls"] : List Str).length → BindsTo s fd ⟨us, []⟩ ((["calls"] : List Str).zip us)) ∧ ∀ base : Heap, K.In base → base.Ns mainGlobals mg → FnOk P w K mg base CX0 12 fa fd ["calls"] (spT (A_answers K)) := by
  have e := hfa.symm.trans (PySem.W.mg_of X G a_answers)
  cases e
  obtain ⟨d_cost_of, D_cost_of⟩ := F_cost_of
  obtain ⟨d_lowest_lacking, D_lowest_lacking⟩ := F_lowest_lacking
  obtain ⟨d_many_bits, D_many_bits⟩ := F_many_bits
  obtain ⟨d_numbers_in, D_numbers_in⟩ := F_numbers_in
  obtain ⟨d_best_from, D_best_from⟩ := F_best_from
  obtain ⟨d_Family_every, D_Family_every⟩ := F_Family_every
  obtain ⟨d_Family_together, D_Family_together⟩ := F_Family_together
  obtain ⟨d_Family_all_covered, D_Family_all_covered⟩ := F_Family_all_covered
  obtain ⟨d_Family_first_lacking, D_Family_first_lacking⟩ := F_Family_first_lacking
  obtain ⟨d_Family_used, D_Family_used⟩ := F_Family_used
  obtain ⟨d_least_set, D_least_set⟩ := F_least_set
  obtain ⟨d_greediest, D_greediest⟩ := F_greediest
  obtain ⟨d_greedy_set, D_greedy_set⟩ := F_greedy_set
  obtain ⟨d_are_apart, D_are_apart⟩ := F_are_apart
  obtain ⟨d_bound_key, D_bound_key⟩ := F_bound_key
  obtain ⟨d_bound_of, D_bound_of⟩ := F_bound_of
  obtain ⟨d_Listed_is_within, D_Listed_is_within⟩ := F_Listed_is_within
  obtain ⟨d_goals_of, D_goals_of⟩ := F_goals_of
  obtain ⟨d_chunk_of, D_chunk_of⟩ := F_chunk_of
  obtain ⟨d_size_of, D_size_of⟩ := F_size_of
  obtain ⟨d_places_in, D_places_in⟩ := F_places_in
  obtain ⟨d_parted_by, D_parted_by⟩ := F_parted_by
  obtain ⟨d_is_good, D_is_good⟩ := F_is_good
  obtain ⟨d_with_points, D_with_points⟩ := F_with_points
  obtain ⟨d_around, D_around⟩ := F_around
  obtain ⟨d_covered_by, D_covered_by⟩ := F_covered_by
  obtain ⟨d_pieces_of, D_pieces_of⟩ := F_pieces_of
  obtain ⟨d_Family_init, D_Family_init⟩ := F_Family_init
  obtain ⟨d_Word_init, D_Word_init⟩ := F_Word_init
  obtain ⟨d_Listed_init, D_Listed_init⟩ := F_Listed_init
  obtain ⟨d_ListReader_init, D_ListReader_init⟩ := F_ListReader_init
  obtain ⟨d_Keeper_init, D_Keeper_init⟩ := F_Keeper_init
  obtain ⟨d_Fault_init, D_Fault_init⟩ := F_Fault_init
  obtain ⟨d_Refused_init, D_Refused_init⟩ := F_Refused_init
  obtain ⟨d_sign_of, D_sign_of⟩ := F_sign_of
  obtain ⟨d_remark_end, D_remark_end⟩ := F_remark_end
  obtain ⟨d_behind_blanks, D_behind_blanks⟩ := F_behind_blanks
  obtain ⟨d_chunk_at, D_chunk_at⟩ := F_chunk_at
  obtain ⟨d_token_at, D_token_at⟩ := F_token_at
  obtain ⟨d_tokens_of, D_tokens_of⟩ := F_tokens_of
  obtain ⟨d_are_letters, D_are_letters⟩ := F_are_letters
  obtain ⟨d_word_of, D_word_of⟩ := F_word_of
  obtain ⟨d_bare_pattern, D_bare_pattern⟩ := F_bare_pattern
  obtain ⟨d_pattern_of, D_pattern_of⟩ := F_pattern_of
  obtain ⟨d_ListReader_token, D_ListReader_token⟩ := F_ListReader_token
  obtain ⟨d_ListReader_fail, D_ListReader_fail⟩ := F_ListReader_fail
  obtain ⟨d_ListReader_want, D_ListReader_want⟩ := F_ListReader_want
  obtain ⟨d_ListReader_take, D_ListReader_take⟩ := F_ListReader_take
  obtain ⟨d_ListReader_want_chunk, D_ListReader_want_chunk⟩ := F_ListReader_want_chunk
  obtain ⟨d_ListReader_margin, D_ListReader_margin⟩ := F_ListReader_margin
  obtain ⟨d_ListReader_word, D_ListReader_word⟩ := F_ListReader_word
  obtain ⟨d_ListReader_pattern, D_ListReader_pattern⟩ := F_ListReader_pattern
  obtain ⟨d_ListReader_whole, D_ListReader_whole⟩ := F_ListReader_whole
  obtain ⟨d_read_list, D_read_list⟩ := F_read_list
  obtain ⟨d_want, D_want⟩ := F_want
  obtain ⟨d_listed_numbers, D_listed_numbers⟩ := F_listed_numbers
  obtain ⟨d_Keeper_want_list, D_Keeper_want_list⟩ := F_Keeper_want_list
  obtain ⟨d_Keeper_family_of, D_Keeper_family_of⟩ := F_Keeper_family_of
  obtain ⟨d_Keeper_goals_told, D_Keeper_goals_told⟩ := F_Keeper_goals_told
  obtain ⟨d_Keeper_family, D_Keeper_family⟩ := F_Keeper_family
  obtain ⟨d_Keeper_set_told, D_Keeper_set_told⟩ := F_Keeper_set_told
  obtain ⟨d_Keeper_lacking_told, D_Keeper_lacking_told⟩ := F_Keeper_lacking_told
  obtain ⟨d_Keeper_least, D_Keeper_least⟩ := F_Keeper_least
  obtain ⟨d_Keeper_greedy, D_Keeper_greedy⟩ := F_Keeper_greedy
  obtain ⟨d_Keeper_bound, D_Keeper_bound⟩ := F_Keeper_bound
  obtain ⟨d_Keeper_check, D_Keeper_check⟩ := F_Keeper_check
  obtain ⟨d_Keeper_piece, D_Keeper_piece⟩ := F_Keeper_piece
  obtain ⟨d_Keeper_load, D_Keeper_load⟩ := F_Keeper_load
  obtain ⟨d_told, D_told⟩ := F_told
  obtain ⟨d_answer, D_answer⟩ := F_answer
  obtain ⟨d_answers, D_answers⟩ := F_answers
  refine ⟨d_answers, ?_, fun base _ _ => ?_⟩
  · obtain ⟨oc, od, kV, doc, pm, an, cdv, ct, osl, rfl, lk, hcd⟩ := D_answers.ex
    exact fun s us hu => match us, hu with | [_], _ => .of_eq rfl
  have B : Bi mg := ⟨PySem.W.mg_none_of X G z_len, PySem.W.mg_none_of X G z_range, PySem.W.mg_none_of X G z_enumerate, PySem.W.mg_none_of X G z_max, PySem.W.mg_none_of X G z_min, PySem.W.mg_none_of X G z_int, PySem.W.mg_none_of X G z_ord, PySem.W.mg_none_of X G z_all, PySem.W.mg_none_of X G z_any, PySem.W.mg_none_of X G z_sum, PySem.W.mg_none_of X G z_list, PySem.W.mg_none_of X G z_reversed, PySem.W.mg_none_of X G z_zip, PySem.W.mg_none_of X G z_ValueError⟩
  have T : CnT mg K := ⟨cn_str X G k_LETTERS (by decide +kernel), cn_str X G k_DIGITS (by decide +kernel), cn_int X G k_FIRST_LETTER, cn_int X G k_FIRST_DIGIT, ⟨p_OTHERS, PySem.W.mg_of X G a_OTHERS, s_OTHERS, k_OTHERS⟩, cn_str X G k_SIGN (by decide +kernel), ⟨p_BLANKS, _, PySem.W.mg_of X G a_BLANKS, fun H => k_BLANKS.at_ H, rfl⟩, cn_int X G k_REMARK, cn_int X G k_LINE_END, cn_int X G k_LONGEST, cn_int X G k_MOST_BYTES, cn_int X G k_TOO_LONG, cn_int X G k_NO_TOKEN⟩
  have TL : CnL mg := ⟨cn_int X G k_NOT_ALLOWED, cn_int X G k_TOO_MANY, cn_int X G k_THERE_ALREADY, cn_int X G k_NOT_AS_TOLD_lists, cn_int X G k_MOST_MARGIN, cn_int X G k_LEAST_LETTERS, cn_int X G k_MOST_LETTERS, cn_int X G k_MOST_IN_PATTERN, cn_int X G k_MOST_WORDS, cn_int X G k_MOST_PATTERNS, cn_str X G k_POINT_lists (by decide +kernel), cn_str X G k_HYPHEN (by decide +kernel)⟩
  have TK : CnK mg := ⟨cn_int X G k_NO_LIST, cn_int X G k_NO_PIECE, cn_int X G k_BAD_LENGTH, cn_int X G k_NOT_AS_TOLD_keeper, cn_int X G k_TOO_MANY_GOALS, cn_int X G k_MOST_LENGTH, cn_int X G k_MOST_GOALS⟩
  have hPt : Cn mg "POINT_families" (.str (sU [46])) := cn_str X G k_POINT_families (by decide +kernel)
  have hDg : Cn mg "DIGIT" (.str (sU [49])) := cn_str X G k_DIGIT (by decide +kernel)
  have TN : TupG K mg "NUMBERS" numsL := ⟨p_NUMBERS, PySem.W.mg_of X G a_NUMBERS, fun H => k_NUMBERS.at_ H⟩
  have TR : TupG K mg "ROWS" rowsL := ⟨p_ROWS, PySem.W.mg_of X G a_ROWS, fun H => k_ROWS.at_ H⟩
  have Fl_cW : Fld K cW nsW := ⟨c_Word.cl, fun f hf => by
    simp only [List.mem_cons, List.not_mem_nil, or_false] at hf
    rcases hf with rfl | rfl
    · exact n_Word_letters
    · exact n_Word_gaps⟩
  have Fl_cL : Fld K cL nsL := ⟨c_Listed.cl, fun f hf => by
    simp only [List.mem_cons, List.not_mem_nil, or_false] at hf
    rcases hf with rfl | rfl | rfl | rfl
    · exact n_Listed_left
    · exact n_Listed_right
    · exact n_Listed_words
    · exact n_Listed_patterns⟩
  have Fl_cR : Fld K cR nsR := ⟨c_ListReader.cl, fun f hf => by
    simp only [List.mem_cons, List.not_mem_nil, or_false] at hf
    rcases hf with rfl | rfl
    · exact n_ListReader_tokens
    · exact n_ListReader_at⟩
  have Fl_cK : Fld K cK nsK := ⟨c_Keeper.cl, fun f hf => by
    simp only [List.mem_cons, List.not_mem_nil, or_false] at hf
    subst hf
    exact n_Keeper_held⟩
  have Fl_cF : Fld K cF nsF := ⟨c_Family.cl, fun f hf => by
    simp only [List.mem_cons, List.not_mem_nil, or_false] at hf
    rcases hf with rfl | rfl | rfl | rfl
    · exact n_Family_goals
    · exact n_Family_pieces
    · exact n_Family_covers
    · exact n_Family_sizes⟩
  have Tx_cE : ExT K mg "Fault" cE f_Fault_init ["code", "place"] := ⟨PySem.W.mg_of X G a_Fault, ⟨l_Fault, c_Fault.sa, c_Fault.eC, c_Fault.tC, c_Fault.kC⟩, a_Fault_init, t_Fault_init, c_Fault.ga, c_Fault.gg, c_Fault.hC, c_Fault.te, fun f hf => by
    simp only [List.mem_cons, List.not_mem_nil, or_false] at hf
    rcases hf with rfl | rfl
    · exact n_Fault_code
    · exact n_Fault_place⟩
  have Tx_cX : ExT K mg "Refused" cX f_Refused_init ["code"] := ⟨PySem.W.mg_of X G a_Refused, ⟨l_Refused, c_Refused.sa, c_Refused.eC, c_Refused.tC, c_Refused.kC⟩, a_Refused_init, t_Refused_init, c_Refused.ga, c_Refused.gg, c_Refused.hC, c_Refused.te, fun f hf => by
    simp only [List.mem_cons, List.not_mem_nil, or_false] at hf
    subst hf
    exact n_Refused_code⟩
  have b_cost_of := D_cost_of.binds (ps := ["kind", "many", "size"]) fun _ _ _ _ _ _ us hl => match us, hl with | [_, _, _], _ => rfl
  have h_cost_of : Has P w K mg base CX0 1 "cost_of" A_cost_of := has_mk D_cost_of (PySem.W.mg_of X G a_cost_of) b_cost_of (ok_cost_of D_cost_of)
  have b_lowest_lacking := D_lowest_lacking.binds (ps := ["covered"]) fun _ _ _ _ _ _ us hl => match us, hl with | [_], _ => rfl
  have h_lowest_lacking : Has P w K mg base CX0 1 "lowest_lacking" A_lowest_lacking := has_mk D_lowest_lacking (PySem.W.mg_of X G a_lowest_lacking) b_lowest_lacking (ok_lowest_lacking D_lowest_lacking)
  have b_many_bits := D_many_bits.binds (ps := ["some"]) fun _ _ _ _ _ _ us hl => match us, hl with | [_], _ => rfl
  have h_many_bits : Has P w K mg base CX0 1 "many_bits" A_many_bits := has_mk D_many_bits (PySem.W.mg_of X G a_many_bits) b_many_bits (ok_many_bits B D_many_bits)
  have b_numbers_in := D_numbers_in.binds (ps := ["some"]) fun _ _ _ _ _ _ us hl => match us, hl with | [_], _ => rfl
  have h_numbers_in : Has P w K mg base CX0 1 "numbers_in" A_numbers_in := has_mk D_numbers_in (PySem.W.mg_of X G a_numbers_in) b_numbers_in (ok_numbers_in B D_numbers_in)
  have b_best_from := D_best_from.binds (ps := ["family", "used", "kind", "covered", "later"]) fun _ _ _ _ _ _ us hl => match us, hl with | [_, _, _, _, _], _ => rfl
  have h_best_from : Has P w K mg base CX0 2 "best_from" (A_best_from cF) := has_mk D_best_from (PySem.W.mg_of X G a_best_from) b_best_from (ok_best_from B Fl_cF h_lowest_lacking h_cost_of D_best_from)
  have b_Family_every := D_Family_every.binds (ps := ["self"]) fun _ _ _ _ _ _ us hl => match us, hl with | [_], _ => rfl
  have h_every : HasM P w K mg base CX0 1 cF "every" (A_every cF) := hasM_mk c_Family D_Family_every a_Family_every i_Family_every b_Family_every (ok_every B Fl_cF D_Family_every)
  have b_Family_together := D_Family_together.binds (ps := ["self", "some"]) fun _ _ _ _ _ _ us hl => match us, hl with | [_, _], _ => rfl
  have h_together : HasM P w K mg base CX0 1 cF "together" (A_together cF) := hasM_mk c_Family D_Family_together a_Family_together i_Family_together b_Family_together (ok_together Fl_cF D_Family_together)
  have b_Family_all_covered := D_Family_all_covered.binds (ps := ["self"]) fun _ _ _ _ _ _ us hl => match us, hl with | [_], _ => rfl
  have h_all_covered : HasM P w K mg base CX0 2 cF "all_covered" (A_all_covered cF) := hasM_mk c_Family D_Family_all_covered a_Family_all_covered i_Family_all_covered b_Family_all_covered (ok_all_covered B Fl_cF h_together D_Family_all_covered)
  have b_Family_first_lacking := D_Family_first_lacking.binds (ps := ["self", "covered"]) fun _ _ _ _ _ _ us hl => match us, hl with | [_, _], _ => rfl
  have h_first_lacking : HasM P w K mg base CX0 1 cF "first_lacking" (A_first_lacking cF) := hasM_mk c_Family D_Family_first_lacking a_Family_first_lacking i_Family_first_lacking b_Family_first_lacking (ok_first_lacking B Fl_cF D_Family_first_lacking)
  have b_Family_used := D_Family_used.binds (ps := ["self"]) fun _ _ _ _ _ _ us hl => match us, hl with | [_], _ => rfl
  have h_used : HasM P w K mg base CX0 1 cF "used" (A_used cF) := hasM_mk c_Family D_Family_used a_Family_used i_Family_used b_Family_used (ok_used B Fl_cF D_Family_used)
  have b_least_set := D_least_set.binds (ps := ["family", "kind"]) fun _ _ _ _ _ _ us hl => match us, hl with | [_, _], _ => rfl
  have h_least_set : Has P w K mg base CX0 3 "least_set" (A_least_set cF) := has_mk D_least_set (PySem.W.mg_of X G a_least_set) b_least_set (ok_least_set B Fl_cF h_used h_every h_best_from D_least_set)
  have b_greediest := D_greediest.binds (ps := ["family", "covered"]) fun _ _ _ _ _ _ us hl => match us, hl with | [_, _], _ => rfl
  have h_greediest : Has P w K mg base CX0 2 "greediest" (A_greediest cF) := has_mk D_greediest (PySem.W.mg_of X G a_greediest) b_greediest (ok_greediest B Fl_cF h_many_bits h_every D_greediest)
  have b_greedy_set := D_greedy_set.binds (ps := ["family"]) fun _ _ _ _ _ _ us hl => match us, hl with | [_], _ => rfl
  have h_greedy_set : Has P w K mg base CX0 3 "greedy_set" (A_greedy_set cF) := has_mk D_greedy_set (PySem.W.mg_of X G a_greedy_set) b_greedy_set (ok_greedy_set h_greediest h_together D_greedy_set)
  have b_are_apart := D_are_apart.binds (ps := ["covers", "some"]) fun _ _ _ _ _ _ us hl => match us, hl with | [_, _], _ => rfl
  have h_are_apart : Has P w K mg base CX0 2 "are_apart" A_are_apart := has_mk D_are_apart (PySem.W.mg_of X G a_are_apart) b_are_apart (ok_are_apart B h_many_bits D_are_apart)
  have b_bound_key := D_bound_key.binds (ps := ["family", "some"]) fun _ _ _ _ _ _ us hl => match us, hl with | [_, _], _ => rfl
  have h_bound_key : Has P w K mg base CX0 2 "bound_key" (A_bound_key cF) := has_mk D_bound_key (PySem.W.mg_of X G a_bound_key) b_bound_key (ok_bound_key B Fl_cF h_many_bits D_bound_key)
  have b_bound_of := D_bound_of.binds (ps := ["family"]) fun _ _ _ _ _ _ us hl => match us, hl with | [_], _ => rfl
  have h_bound_of : Has P w K mg base CX0 3 "bound_of" (A_bound_of cF) := has_mk D_bound_of (PySem.W.mg_of X G a_bound_of) b_bound_of (ok_bound_of B Fl_cF h_used h_every h_are_apart h_bound_key h_numbers_in D_bound_of)
  have b_Listed_is_within := D_Listed_is_within.binds (ps := ["self", "word", "gap"]) fun _ _ _ _ _ _ us hl => match us, hl with | [_, _, _], _ => rfl
  have h_is_within : HasM P w K mg base CX0 1 cL "is_within" (A_is_within cL cW) := hasM_mk c_Listed D_Listed_is_within a_Listed_is_within i_Listed_is_within b_Listed_is_within (ok_is_within B Fl_cL Fl_cW D_Listed_is_within)
  have b_goals_of := D_goals_of.binds (ps := ["listed"]) fun _ _ _ _ _ _ us hl => match us, hl with | [_], _ => rfl
  have h_goals_of : Has P w K mg base CX0 2 "goals_of" (A_goals_of cL cW) := has_mk D_goals_of (PySem.W.mg_of X G a_goals_of) b_goals_of (ok_goals_of B Fl_cL Fl_cW h_is_within D_goals_of)
  have b_chunk_of := D_chunk_of.binds (ps := ["piece"]) fun _ _ _ _ _ _ us hl => match us, hl with | [_], _ => rfl
  have h_chunk_of : Has P w K mg base CX0 1 "chunk_of" A_chunk_of := has_mk D_chunk_of (PySem.W.mg_of X G a_chunk_of) b_chunk_of (ok_chunk_of B hPt hDg D_chunk_of)
  have b_size_of := D_size_of.binds (ps := ["piece"]) fun _ _ _ _ _ _ us hl => match us, hl with | [_], _ => rfl
  have h_size_of : Has P w K mg base CX0 2 "size_of" A_size_of := has_mk D_size_of (PySem.W.mg_of X G a_size_of) b_size_of (ok_size_of B h_chunk_of D_size_of)
  have b_places_in := D_places_in.binds (ps := ["piece", "letters"]) fun _ _ _ _ _ _ us hl => match us, hl with | [_, _], _ => rfl
  have h_places_in : Has P w K mg base CX0 1 "places_in" A_places_in := has_mk D_places_in (PySem.W.mg_of X G a_places_in) b_places_in (ok_places_in B D_places_in)
  have b_parted_by := D_parted_by.binds (ps := ["listed", "piece", "word"]) fun _ _ _ _ _ _ us hl => match us, hl with | [_, _, _], _ => rfl
  have h_parted_by : Has P w K mg base CX0 2 "parted_by" (A_parted_by cL cW) := has_mk D_parted_by (PySem.W.mg_of X G a_parted_by) b_parted_by (ok_parted_by B Fl_cW h_is_within h_places_in D_parted_by)
  have b_is_good := D_is_good.binds (ps := ["listed", "piece"]) fun _ _ _ _ _ _ us hl => match us, hl with | [_, _], _ => rfl
  have h_is_good : Has P w K mg base CX0 3 "is_good" (A_is_good cL cW) := has_mk D_is_good (PySem.W.mg_of X G a_is_good) b_is_good (ok_is_good B Fl_cL Fl_cW h_parted_by D_is_good)
  have b_with_points := D_with_points.binds (ps := ["letters", "at", "begins", "ends"]) fun _ _ _ _ _ _ us hl => match us, hl with | [_, _, _, _], _ => rfl
  have h_with_points : Has P w K mg base CX0 1 "with_points" A_with_points := has_mk D_with_points (PySem.W.mg_of X G a_with_points) b_with_points (ok_with_points D_with_points)
  have b_around := D_around.binds (ps := ["letters", "gap", "length"]) fun _ _ _ _ _ _ us hl => match us, hl with | [_, _, _], _ => rfl
  have h_around : Has P w K mg base CX0 2 "around" A_around := has_mk D_around (PySem.W.mg_of X G a_around) b_around (ok_around B h_with_points D_around)
  have b_covered_by := D_covered_by.binds (ps := ["listed", "goals", "piece"]) fun _ _ _ _ _ _ us hl => match us, hl with | [_, _, _], _ => rfl
  have h_covered_by : Has P w K mg base CX0 3 "covered_by" (A_covered_by cL cW) := has_mk D_covered_by (PySem.W.mg_of X G a_covered_by) b_covered_by (ok_covered_by B Fl_cL h_parted_by D_covered_by)
  have b_pieces_of := D_pieces_of.binds (ps := ["listed", "most"]) fun _ _ _ _ _ _ us hl => match us, hl with | [_, _], _ => rfl
  have h_pieces_of : Has P w K mg base CX0 4 "pieces_of" (A_pieces_of cL cW) := has_mk D_pieces_of (PySem.W.mg_of X G a_pieces_of) b_pieces_of (ok_pieces_of B Fl_cL Fl_cW h_goals_of h_around h_is_good D_pieces_of)
  have b_Family_init := D_Family_init.binds (ps := ["self", "listed", "most"]) fun _ _ _ _ _ _ us hl => match us, hl with | [_, _, _], _ => rfl
  have h_Fam_init : HasC P w K mg base 5 cF "Family" nsF (I_Fam cL cW) := hasC_mk c_Family (PySem.W.mg_of X G a_Family) a_Family_init i_Family_init b_Family_init (ok_Fam_init B Fl_cF h_goals_of h_pieces_of h_covered_by h_size_of D_Family_init)
  have b_Word_init := D_Word_init.binds (ps := ["self", "letters", "gaps"]) fun _ _ _ _ _ _ us hl => match us, hl with | [_, _, _], _ => rfl
  have h_Word_init : HasC P w K mg base 1 cW "Word" nsW I_Word := hasC_mk c_Word (PySem.W.mg_of X G a_Word) a_Word_init i_Word_init b_Word_init (ok_Word_init Fl_cW D_Word_init)
  have b_Listed_init := D_Listed_init.binds (ps := ["self", "left", "right", "words", "patterns"]) fun _ _ _ _ _ _ us hl => match us, hl with | [_, _, _, _, _], _ => rfl
  have h_Listed_init : HasC P w K mg base 1 cL "Listed" nsL I_Listed := hasC_mk c_Listed (PySem.W.mg_of X G a_Listed) a_Listed_init i_Listed_init b_Listed_init (ok_Listed_init Fl_cL D_Listed_init)
  have b_ListReader_init := D_ListReader_init.binds (ps := ["self", "tokens"]) fun _ _ _ _ _ _ us hl => match us, hl with | [_, _], _ => rfl
  have h_Reader_init : HasC P w K mg base 1 cR "ListReader" nsR I_Reader := hasC_mk c_ListReader (PySem.W.mg_of X G a_ListReader) a_ListReader_init i_ListReader_init b_ListReader_init (ok_Reader_init Fl_cR D_ListReader_init)
  have b_Keeper_init := D_Keeper_init.binds (ps := ["self"]) fun _ _ _ _ _ _ us hl => match us, hl with | [_], _ => rfl
  have h_Keeper_init : HasC P w K mg base 1 cK "Keeper" nsK I_Keeper := hasC_mk c_Keeper (PySem.W.mg_of X G a_Keeper) a_Keeper_init i_Keeper_init b_Keeper_init (ok_Keeper_init Fl_cK D_Keeper_init)
  have b_Fault_init := D_Fault_init.binds (ps := ["self", "code", "place"]) fun _ _ _ _ _ _ us hl => match us, hl with | [_, _, _], _ => rfl
  have h_Fault_init : HasX P w K mg base 1 cE f_Fault_init 2 foFault := ⟨_, _, b_Fault_init, (ok_Fault_init B vV Tx_cE D_Fault_init)⟩
  have b_Refused_init := D_Refused_init.binds (ps := ["self", "code"]) fun _ _ _ _ _ _ us hl => match us, hl with | [_, _], _ => rfl
  have h_Refused_init : HasX P w K mg base 1 cX f_Refused_init 1 foRefused := ⟨_, _, b_Refused_init, (ok_Refused_init B vV Tx_cX D_Refused_init)⟩
  have b_sign_of := D_sign_of.binds (ps := ["byte"]) fun _ _ _ _ _ _ us hl => match us, hl with | [_], _ => rfl
  have h_sign_of : Has P w K mg base CX0 1 "sign_of" A_sign_of := has_mk D_sign_of (PySem.W.mg_of X G a_sign_of) b_sign_of (ok_sign_of B T D_sign_of)
  have b_remark_end := D_remark_end.binds (ps := ["text", "at"]) fun _ _ _ _ _ _ us hl => match us, hl with | [_, _], _ => rfl
  have h_remark_end : Has P w K mg base CX0 1 "remark_end" A_remark_end := has_mk D_remark_end (PySem.W.mg_of X G a_remark_end) b_remark_end (ok_remark_end B T D_remark_end)
  have b_behind_blanks := D_behind_blanks.binds (ps := ["text", "at"]) fun _ _ _ _ _ _ us hl => match us, hl with | [_, _], _ => rfl
  have h_behind_blanks : Has P w K mg base CX0 2 "behind_blanks" A_behind_blanks := has_mk D_behind_blanks (PySem.W.mg_of X G a_behind_blanks) b_behind_blanks (ok_behind_blanks B T h_remark_end D_behind_blanks)
  have b_chunk_at := D_chunk_at.binds (ps := ["text", "begin"]) fun _ _ _ _ _ _ us hl => match us, hl with | [_, _], _ => rfl
  have h_chunk_at : Has P w K mg base CX0 2 "chunk_at" A_chunk_at := has_mk D_chunk_at (PySem.W.mg_of X G a_chunk_at) b_chunk_at (ok_chunk_at B T h_sign_of D_chunk_at)
  have b_token_at := D_token_at.binds (ps := ["text", "begin"]) fun _ _ _ _ _ _ us hl => match us, hl with | [_, _], _ => rfl
  have h_token_at : Has P w K mg base (L2.CX P w) 3 "token_at" (A_token_at cE) := has_mk D_token_at (PySem.W.mg_of X G a_token_at) b_token_at (ok_token_at B T Tx_cE h_Fault_init h_sign_of h_chunk_at D_token_at)
  have b_tokens_of := D_tokens_of.binds (ps := ["text"]) fun _ _ _ _ _ _ us hl => match us, hl with | [_], _ => rfl
  have h_tokens_of : Has P w K mg base (L2.CX P w) 4 "tokens_of" (A_tokens_of cE) := has_mk D_tokens_of (PySem.W.mg_of X G a_tokens_of) b_tokens_of (ok_tokens_of B T Tx_cE h_Fault_init h_behind_blanks h_token_at D_tokens_of)
  have b_are_letters := D_are_letters.binds (ps := ["text"]) fun _ _ _ _ _ _ us hl => match us, hl with | [_], _ => rfl
  have h_are_letters : Has P w K mg base CX0 1 "are_letters" A_are_letters := has_mk D_are_letters (PySem.W.mg_of X G a_are_letters) b_are_letters (ok_are_letters B T D_are_letters)
  have b_word_of := D_word_of.binds (ps := ["chunk"]) fun _ _ _ _ _ _ us hl => match us, hl with | [_], _ => rfl
  have h_word_of : Has P w K mg base CX0 3 "word_of" (A_word_of cW) := has_mk D_word_of (PySem.W.mg_of X G a_word_of) b_word_of (ok_word_of B T TL h_are_letters h_Word_init D_word_of)
  have b_bare_pattern := D_bare_pattern.binds (ps := ["chunk"]) fun _ _ _ _ _ _ us hl => match us, hl with | [_], _ => rfl
  have h_bare_pattern : Has P w K mg base CX0 1 "bare_pattern" A_bare_pattern := has_mk D_bare_pattern (PySem.W.mg_of X G a_bare_pattern) b_bare_pattern (ok_bare_pattern B TL D_bare_pattern)
  have b_pattern_of := D_pattern_of.binds (ps := ["chunk"]) fun _ _ _ _ _ _ us hl => match us, hl with | [_], _ => rfl
  have h_pattern_of : Has P w K mg base CX0 2 "pattern_of" A_pattern_of := has_mk D_pattern_of (PySem.W.mg_of X G a_pattern_of) b_pattern_of (ok_pattern_of B T TL h_bare_pattern D_pattern_of)
  have b_ListReader_token := D_ListReader_token.binds (ps := ["self"]) fun _ _ _ _ _ _ us hl => match us, hl with | [_], _ => rfl
  have h_token : HasM P w K mg base CX0 1 cR "token" (A_token cR) := hasM_mk c_ListReader D_ListReader_token a_ListReader_token i_ListReader_token b_ListReader_token (ok_token Fl_cR D_ListReader_token)
  have b_ListReader_fail := D_ListReader_fail.binds (ps := ["self", "code"]) fun _ _ _ _ _ _ us hl => match us, hl with | [_, _], _ => rfl
  have h_fail : HasM P w K mg base (L2.CX P w) 3 cR "fail" (A_fail cR cE) := hasM_mk c_ListReader D_ListReader_fail a_ListReader_fail i_ListReader_fail b_ListReader_fail (ok_fail Fl_cR Tx_cE h_Fault_init D_ListReader_fail)
  have b_ListReader_want := D_ListReader_want.binds (ps := ["self", "is_so", "code"]) fun _ _ _ _ _ _ us hl => match us, hl with | [_, _, _], _ => rfl
  have h_want : HasM P w K mg base (L2.CX P w) 4 cR "want" (A_want cR cE) := hasM_mk c_ListReader D_ListReader_want a_ListReader_want i_ListReader_want b_ListReader_want (ok_want h_fail D_ListReader_want)
  have b_ListReader_take := D_ListReader_take.binds (ps := ["self", "token"]) fun _ _ _ _ _ _ us hl => match us, hl with | [_, _], _ => rfl
  have h_take : HasMO P w K mg base 5 cR "take" (A_take cR cE) := hasMO_mk c_ListReader D_ListReader_take a_ListReader_take i_ListReader_take b_ListReader_take (ok_take TL Fl_cR h_token h_want D_ListReader_take)
  have b_ListReader_want_chunk := D_ListReader_want_chunk.binds (ps := ["self"]) fun _ _ _ _ _ _ us hl => match us, hl with | [_], _ => rfl
  have h_want_chunk : HasM P w K mg base (L2.CX P w) 5 cR "want_chunk" (A_want_chunk cR cE) := hasM_mk c_ListReader D_ListReader_want_chunk a_ListReader_want_chunk i_ListReader_want_chunk b_ListReader_want_chunk (ok_want_chunk T TL Fl_cR h_token h_want D_ListReader_want_chunk)
  have b_ListReader_margin := D_ListReader_margin.binds (ps := ["self"]) fun _ _ _ _ _ _ us hl => match us, hl with | [_], _ => rfl
  have h_margin : HasMO P w K mg base 6 cR "margin" (A_margin cR cE) := hasMO_mk c_ListReader D_ListReader_margin a_ListReader_margin i_ListReader_margin b_ListReader_margin (ok_margin B T TL Fl_cR h_token h_want h_want_chunk D_ListReader_margin)
  have b_ListReader_word := D_ListReader_word.binds (ps := ["self", "words"]) fun _ _ _ _ _ _ us hl => match us, hl with | [_, _], _ => rfl
  have h_word : HasMO P w K mg base 6 cR "word" (A_word cR cE cW) := hasMO_mk c_ListReader D_ListReader_word a_ListReader_word i_ListReader_word b_ListReader_word (ok_word B T TL ne Fl_cR Fl_cW h_token h_want h_take h_want_chunk h_word_of D_ListReader_word)
  have b_ListReader_pattern := D_ListReader_pattern.binds (ps := ["self", "patterns"]) fun _ _ _ _ _ _ us hl => match us, hl with | [_, _], _ => rfl
  have h_pattern : HasMO P w K mg base 6 cR "pattern" (A_pattern cR cE) := hasMO_mk c_ListReader D_ListReader_pattern a_ListReader_pattern i_ListReader_pattern b_ListReader_pattern (ok_pattern B T TL Fl_cR h_token h_want h_take h_want_chunk h_pattern_of D_ListReader_pattern)
  have b_ListReader_whole := D_ListReader_whole.binds (ps := ["self"]) fun _ _ _ _ _ _ us hl => match us, hl with | [_], _ => rfl
  have h_whole : HasMO P w K mg base 7 cR "whole" (A_whole cR cE cL cW) := hasMO_mk c_ListReader D_ListReader_whole a_ListReader_whole i_ListReader_whole b_ListReader_whole (ok_whole B T TL Fl_cR h_token h_want h_take h_margin h_word h_pattern h_Listed_init D_ListReader_whole)
  have b_read_list := D_read_list.binds (ps := ["text"]) fun _ _ _ _ _ _ us hl => match us, hl with | [_], _ => rfl
  have h_read_list : Has P w K mg base (L2.CX P w) 8 "read_list" (A_read_list cE cL cW) := has_mk D_read_list (PySem.W.mg_of X G a_read_list) b_read_list (ok_read_list h_tokens_of h_Reader_init h_whole D_read_list)
  have b_want := D_want.binds (ps := ["is_so", "code"]) fun _ _ _ _ _ _ us hl => match us, hl with | [_, _], _ => rfl
  have h_wantK : Has P w K mg base (L2.CX P w) 3 "want" (A_wantK cX) := has_mk D_want (PySem.W.mg_of X G a_want) b_want (ok_wantK Tx_cX h_Refused_init D_want)
  have b_listed_numbers := D_listed_numbers.binds (ps := ["some"]) fun _ _ _ _ _ _ us hl => match us, hl with | [_], _ => rfl
  have h_listed : Has P w K mg base CX0 1 "listed_numbers" A_listed := has_mk D_listed_numbers (PySem.W.mg_of X G a_listed_numbers) b_listed_numbers (ok_listed B D_listed_numbers)
  have b_Keeper_want_list := D_Keeper_want_list.binds (ps := ["self"]) fun _ _ _ _ _ _ us hl => match us, hl with | [_], _ => rfl
  have h_want_list : HasM P w K mg base (L2.CX P w) 4 cK "want_list" (A_want_list cK cL cW cX) := hasM_mk c_Keeper D_Keeper_want_list a_Keeper_want_list i_Keeper_want_list b_Keeper_want_list (ok_want_list TK Fl_cK h_wantK D_Keeper_want_list)
  have b_Keeper_family_of := D_Keeper_family_of.binds (ps := ["self", "most"]) fun _ _ _ _ _ _ us hl => match us, hl with | [_, _], _ => rfl
  have h_family_of : HasM P w K mg base (L2.CX P w) 7 cK "family_of" (A_family_of cK cL cW cX cF) := hasM_mk c_Keeper D_Keeper_family_of a_Keeper_family_of i_Keeper_family_of b_Keeper_family_of (ok_family_of B TK Fl_cK h_wantK h_want_list h_goals_of h_Fam_init D_Keeper_family_of)
  have b_Keeper_goals_told := D_Keeper_goals_told.binds (ps := ["self"]) fun _ _ _ _ _ _ us hl => match us, hl with | [_], _ => rfl
  have Kp : HasKp P w K mg base cK cL cW cX cF := ⟨B, TK, Fl_cK, Fl_cL, Fl_cF, h_wantK, h_listed, h_want_list, h_family_of, h_goals_of, h_chunk_of, h_numbers_in, h_first_lacking, h_all_covered, h_together, h_used, h_least_set, h_greedy_set, h_bound_of⟩
  have h_goals_told : HasM P w K mg base (L2.CX P w) 5 cK "goals_told" (A_goals_told cK cL cW cX) := hasM_mk c_Keeper D_Keeper_goals_told a_Keeper_goals_told i_Keeper_goals_told b_Keeper_goals_told (ok_goals_told Kp D_Keeper_goals_told)
  have b_Keeper_family := D_Keeper_family.binds (ps := ["self", "most"]) fun _ _ _ _ _ _ us hl => match us, hl with | [_, _], _ => rfl
  have h_family : HasM P w K mg base (L2.CX P w) 8 cK "family" (A_fam cK cL cW cX famTold) := hasM_mk c_Keeper D_Keeper_family a_Keeper_family i_Keeper_family b_Keeper_family (ok_family Kp D_Keeper_family)
  have b_Keeper_set_told := D_Keeper_set_told.binds (ps := ["self", "family", "some"]) fun _ _ _ _ _ _ us hl => match us, hl with | [_, _, _], _ => rfl
  have h_set_told : HasM P w K mg base CX0 2 cK "set_told" (A_set_told cK cL cW cF) := hasM_mk c_Keeper D_Keeper_set_told a_Keeper_set_told i_Keeper_set_told b_Keeper_set_told (ok_set_told Kp D_Keeper_set_told)
  have b_Keeper_lacking_told := D_Keeper_lacking_told.binds (ps := ["self", "family"]) fun _ _ _ _ _ _ us hl => match us, hl with | [_, _], _ => rfl
  have h_lacking_told : HasM P w K mg base CX0 3 cK "lacking_told" (A_lacking_told cK cL cW cF) := hasM_mk c_Keeper D_Keeper_lacking_told a_Keeper_lacking_told i_Keeper_lacking_told b_Keeper_lacking_told (ok_lacking_told Kp D_Keeper_lacking_told)
  have b_Keeper_least := D_Keeper_least.binds (ps := ["self", "most", "kind"]) fun _ _ _ _ _ _ us hl => match us, hl with | [_, _, _], _ => rfl
  have Kq : HasKq P w K mg base cK cL cW cX cF := ⟨Kp, h_set_told, h_lacking_told⟩
  have h_least : HasM P w K mg base (L2.CX P w) 8 cK "least" (A_least cK cL cW cX) := hasM_mk c_Keeper D_Keeper_least a_Keeper_least i_Keeper_least b_Keeper_least (ok_least Kq D_Keeper_least)
  have b_Keeper_greedy := D_Keeper_greedy.binds (ps := ["self", "most"]) fun _ _ _ _ _ _ us hl => match us, hl with | [_, _], _ => rfl
  have h_greedy : HasM P w K mg base (L2.CX P w) 8 cK "greedy" (A_fam cK cL cW cX greedTold) := hasM_mk c_Keeper D_Keeper_greedy a_Keeper_greedy i_Keeper_greedy b_Keeper_greedy (ok_greedy Kq D_Keeper_greedy)
  have b_Keeper_bound := D_Keeper_bound.binds (ps := ["self", "most"]) fun _ _ _ _ _ _ us hl => match us, hl with | [_, _], _ => rfl
  have h_bound : HasM P w K mg base (L2.CX P w) 8 cK "bound" (A_fam cK cL cW cX boundTold) := hasM_mk c_Keeper D_Keeper_bound a_Keeper_bound i_Keeper_bound b_Keeper_bound (ok_bound Kq D_Keeper_bound)
  have b_Keeper_check := D_Keeper_check.binds (ps := ["self", "most", "some"]) fun _ _ _ _ _ _ us hl => match us, hl with | [_, _, _], _ => rfl
  have h_check : HasM P w K mg base (L2.CX P w) 8 cK "check" (A_check cK cL cW cX) := hasM_mk c_Keeper D_Keeper_check a_Keeper_check i_Keeper_check b_Keeper_check (ok_check Kq D_Keeper_check)
  have b_Keeper_piece := D_Keeper_piece.binds (ps := ["self", "most", "i"]) fun _ _ _ _ _ _ us hl => match us, hl with | [_, _, _], _ => rfl
  have h_piece : HasM P w K mg base (L2.CX P w) 8 cK "piece" (A_piece cK cL cW cX) := hasM_mk c_Keeper D_Keeper_piece a_Keeper_piece i_Keeper_piece b_Keeper_piece (ok_piece Kq D_Keeper_piece)
  have b_Keeper_load := D_Keeper_load.binds (ps := ["self", "text"]) fun _ _ _ _ _ _ us hl => match us, hl with | [_, _], _ => rfl
  have h_load : HasMO P w K mg base 9 cK "load" (A_load cK cL cW) := hasMO_mk c_Keeper D_Keeper_load a_Keeper_load i_Keeper_load b_Keeper_load (ok_load B Fl_cK Fl_cL Tx_cE h_read_list D_Keeper_load)
  have b_told := D_told.binds (ps := ["keeper", "call", "n", "row"]) fun _ _ _ _ _ _ us hl => match us, hl with | [_, _, _, _], _ => rfl
  have Kr : HasKr P w K mg base cK cL cW cX f_Refused_init := ⟨Tx_cX, h_load, h_goals_told, h_family, h_piece, h_least, h_greedy, h_bound, h_check⟩
  have h_toldO : HasO P w K mg base 10 "told" (A_toldO cK cL cW) := hasO_mk D_told (PySem.W.mg_of X G a_told) b_told (ok_toldO Kr D_told)
  have h_told : Has P w K mg base (L2.CX P w) 10 "told" (A_told cK cL cW cX) := has_mk D_told (PySem.W.mg_of X G a_told) b_told (ok_told Kr D_told)
  have b_answer := D_answer.binds (ps := ["keeper", "call", "n", "row"]) fun _ _ _ _ _ _ us hl => match us, hl with | [_, _, _, _], _ => rfl
  have h_answerO : HasO P w K mg base 11 "answer" (A_answerO cK cL cW) := hasO_mk D_answer (PySem.W.mg_of X G a_answer) b_answer (ok_answerO Tx_cX h_toldO D_answer)
  have h_answer : Has P w K mg base (L2.CX P w) 11 "answer" (A_answer cK cL cW) := has_mk D_answer (PySem.W.mg_of X G a_answer) b_answer (ok_answer Tx_cX h_told D_answer)
  have b_answers := D_answers.binds (ps := ["calls"]) fun _ _ _ _ _ _ us hl => match us, hl with | [_], _ => rfl
  exact ok_answers B TN TR h_Keeper_init h_answerO h_answer D_answers
end Lp
namespace Lp
open PySem PySem.Spec PyProof.Rows L2 Tr
open PySem.W (Codec WData)
/-! ### the request -/
theorem wd_none (H : Hp) : wd [] H = H := by
  funext b
  exact wd_out (fun z => nomatch z)
theorem said {K : PySem.W.Frag} {H : Hp} {xs : List V} {a : Codec.denoteAll PySem.Challenge.rw_leastpieces_s01_answers.args} (hO : OnlyF H) (hwi : Codec.withinAll PySem.Challenge.rw_leastpieces_s01_answers.args a = true)
    (hask : Codec.app PySem.Challenge.rw_leastpieces_s01_answers.args PySem.Challenge.rw_leastpieces_s01_answers.asked a = true) (hx : DwAll K H xs (Codec.encAll PySem.Challenge.rw_leastpieces_s01_answers.args a)) :
    spT (A_answers K) xs H (fun v H' => Dw K H' v (PySem.Challenge.rw_leastpieces_s01_answers.ret.enc (Codec.app PySem.Challenge.rw_leastpieces_s01_answers.args PySem.Challenge.rw_leastpieces_s01_answers.f a))) fun _ _ _ => False := by
  cases hx with
  | cons h1 h2 =>
    cases h2
    cases h1 with
    | lst hs ha =>
      have e := L2.ints_dw a.1 _ ha
      subst e
      have q : ((Codec.inLen 0 16000 a.1 && a.1.all (Codec.inInt (Int.negSucc 999999999999999999) (Int.ofNat 1000000000000000000))) && true) = true := hwi
      rw [Bool.and_eq_true, Bool.and_eq_true] at q
      have hlen := (Codec.inNat_iff.mp q.1.1).2
      obtain ⟨cs, hc, h20, hok, he⟩ := asked_is read_is (l := a.1) hask
      refine ⟨[], [dLk K a.1], fun d => d = dLi (PyVahypc.answers a.1), fun _ => False, (fun b hb => nomatch hb), ⟨⟨_, _, rfl, (wd_none H).symm ▸ hs, Reps.vals (fun i => V.int i) a.1⟩, trivial⟩, ⟨a.1, cs, rfl, Nat.le_trans hlen (by decide), hc, h20, hok, by rw [← he]⟩, ?_, Errs.none⟩
      rintro d v H' rfl _ ⟨p, vs, rfl, hp, r⟩
      have ev := Reps.plain (f := fun i => V.int i) r
      subst ev
      show Dw K H' (.ref p) (.list ((PyVahypc.answers a.1).map WData.int))
      exact .lst (L2.SqL.of (wd_same [] H' _ _ hp)) (L2.dw_ints _)
end Lp
set_option maxHeartbeats 0
open PySem PySem.W PyProof.Rows
theorem PySem.Challenge.cw_leastpieces_s01_answers_holds : PySem.Challenge.rw_leastpieces_s01_answers.Holds := by
  w_on; k_headS; (case hw => exact ⟨[.list [.int 1]], by decide +kernel, by decide +kernel⟩)
  k_fillS
  refine L2.walk_specK (r := PySem.Challenge.rw_leastpieces_s01_answers) (k := 12) (CX := L2.CX0) (ps := ["calls"]) (sp := fun K => Tr.spT (Lp.A_answers K)) (by decide +kernel) rfl rfl ⟨rfl, by decide, by decide⟩ (fun w h Y => PySem.W.kIn_of Y) ?F ?S (fun _ _ _ _ z => z)
  case F =>
    intro w mg fa h Y KX G hmg
    refine' Lp.all_mk KX G hmg ?a_Word ?c_Word ?n_Word_letters ?n_Word_gaps ?a_Listed ?c_Listed ?n_Listed_left ?n_Listed_right ?n_Listed_words ?n_Listed_patterns ?a_ListReader ?c_ListReader ?n_ListReader_tokens ?n_ListReader_at ?a_Keeper ?c_Keeper ?n_Keeper_held ?a_Family ?c_Family ?n_Family_goals ?n_Family_pieces ?n_Family_covers ?n_Family_sizes ?a_Fault ?l_Fault ?c_Fault ?n_Fault_code ?n_Fault_place ?a_Refused ?l_Refused ?c_Refused ?n_Refused_code ?a_cost_of ?F_cost_of ?a_lowest_lacking ?F_lowest_lacking ?a_many_bits ?F_many_bits ?a_numbers_in ?F_numbers_in ?a_best_from ?F_best_from ?a_Family_every ?i_Family_every ?F_Family_every ?a_Family_together ?i_Family_together ?F_Family_together ?a_Family_all_covered ?i_Family_all_covered ?F_Family_all_covered ?a_Family_first_lacking ?i_Family_first_lacking ?F_Family_first_lacking ?a_Family_used ?i_Family_used ?F_Family_used ?a_least_set ?F_least_set ?a_greediest ?F_greediest ?a_greedy_set ?F_greedy_set ?a_are_apart ?F_are_apart ?a_bound_key ?F_bound_key ?a_bound_of ?F_bound_of ?a_Listed_is_within ?i_Listed_is_within ?F_Listed_is_within ?a_goals_of ?F_goals_of ?a_chunk_of ?F_chunk_of ?a_size_of ?F_size_of ?a_places_in ?F_places_in ?a_parted_by ?F_parted_by ?a_is_good ?F_is_good ?a_with_points ?F_with_points ?a_around ?F_around ?a_covered_by ?F_covered_by ?a_pieces_of ?F_pieces_of ?a_Family_init ?i_Family_init ?F_Family_init ?a_Word_init ?i_Word_init ?F_Word_init ?a_Listed_init ?i_Listed_init ?F_Listed_init ?a_ListReader_init ?i_ListReader_init ?F_ListReader_init ?a_Keeper_init ?i_Keeper_init ?F_Keeper_init ?a_Fault_init ?t_Fault_init ?F_Fault_init ?a_Refused_init ?t_Refused_init ?F_Refused_init ?a_sign_of ?F_sign_of ?a_remark_end ?F_remark_end ?a_behind_blanks ?F_behind_blanks ?a_chunk_at ?F_chunk_at ?a_token_at ?F_token_at ?a_tokens_of ?F_tokens_of ?a_are_letters ?F_are_letters ?a_word_of ?F_word_of ?a_bare_pattern ?F_bare_pattern ?a_pattern_of ?F_pattern_of ?a_ListReader_token ?i_ListReader_token ?F_ListReader_token ?a_ListReader_fail ?i_ListReader_fail ?F_ListReader_fail ?a_ListReader_want ?i_ListReader_want ?F_ListReader_want ?a_ListReader_take ?i_ListReader_take ?F_ListReader_take ?a_ListReader_want_chunk ?i_ListReader_want_chunk ?F_ListReader_want_chunk ?a_ListReader_margin ?i_ListReader_margin ?F_ListReader_margin ?a_ListReader_word ?i_ListReader_word ?F_ListReader_word ?a_ListReader_pattern ?i_ListReader_pattern ?F_ListReader_pattern ?a_ListReader_whole ?i_ListReader_whole ?F_ListReader_whole ?a_read_list ?F_read_list ?a_want ?F_want ?a_listed_numbers ?F_listed_numbers ?a_Keeper_want_list ?i_Keeper_want_list ?F_Keeper_want_list ?a_Keeper_family_of ?i_Keeper_family_of ?F_Keeper_family_of ?a_Keeper_goals_told ?i_Keeper_goals_told ?F_Keeper_goals_told ?a_Keeper_family ?i_Keeper_family ?F_Keeper_family ?a_Keeper_set_told ?i_Keeper_set_told ?F_Keeper_set_told ?a_Keeper_lacking_told ?i_Keeper_lacking_told ?F_Keeper_lacking_told ?a_Keeper_least ?i_Keeper_least ?F_Keeper_least ?a_Keeper_greedy ?i_Keeper_greedy ?F_Keeper_greedy ?a_Keeper_bound ?i_Keeper_bound ?F_Keeper_bound ?a_Keeper_check ?i_Keeper_check ?F_Keeper_check ?a_Keeper_piece ?i_Keeper_piece ?F_Keeper_piece ?a_Keeper_load ?i_Keeper_load ?F_Keeper_load ?a_told ?F_told ?a_answer ?F_answer ?a_answers ?F_answers ?z_len ?z_range ?z_enumerate ?z_max ?z_min ?z_int ?z_ord ?z_all ?z_any ?z_sum ?z_list ?z_reversed ?z_zip ?z_ValueError ?k_FIRST_LETTER ?k_FIRST_DIGIT ?k_REMARK ?k_LINE_END ?k_LONGEST ?k_MOST_BYTES ?k_TOO_LONG ?k_NO_TOKEN ?k_NOT_ALLOWED ?k_TOO_MANY ?k_THERE_ALREADY ?k_NOT_AS_TOLD_lists ?k_MOST_MARGIN ?k_LEAST_LETTERS ?k_MOST_LETTERS ?k_MOST_IN_PATTERN ?k_MOST_WORDS ?k_MOST_PATTERNS ?k_NO_LIST ?k_NO_PIECE ?k_BAD_LENGTH ?k_NOT_AS_TOLD_keeper ?k_TOO_MANY_GOALS ?k_MOST_LENGTH ?k_MOST_GOALS ?k_LETTERS ?k_DIGITS ?k_SIGN ?k_POINT_lists ?k_HYPHEN ?k_POINT_families ?k_DIGIT ?a_BLANKS ?k_BLANKS ?a_NUMBERS ?k_NUMBERS ?a_ROWS ?k_ROWS ?a_OTHERS ?s_OTHERS ?k_OTHERS ?vV ?ne
    (case a_Word => k_is)
    (case c_Word => exact Lp.clA_mk (by k_is) (by k_is) (by k_is) (by k_is) (by k_is) (by k_is))
    (case n_Word_letters => k_is)
    (case n_Word_gaps => k_is)
    (case a_Listed => k_is)
    (case c_Listed => exact Lp.clA_mk (by k_is) (by k_is) (by k_is) (by k_is) (by k_is) (by k_is))
    (case n_Listed_left => k_is)
    (case n_Listed_right => k_is)
    (case n_Listed_words => k_is)
    (case n_Listed_patterns => k_is)
    (case a_ListReader => k_is)
    (case c_ListReader => exact Lp.clA_mk (by k_is) (by k_is) (by k_is) (by k_is) (by k_is) (by k_is))
    (case n_ListReader_tokens => k_is)
    (case n_ListReader_at => k_is)
    (case a_Keeper => k_is)
    (case c_Keeper => exact Lp.clA_mk (by k_is) (by k_is) (by k_is) (by k_is) (by k_is) (by k_is))
    (case n_Keeper_held => k_is)
    (case a_Family => k_is)
    (case c_Family => exact Lp.clA_mk (by k_is) (by k_is) (by k_is) (by k_is) (by k_is) (by k_is))
    (case n_Family_goals => k_is)
    (case n_Family_pieces => k_is)
    (case n_Family_covers => k_is)
    (case n_Family_sizes => k_is)
    (case a_Fault => k_is)
    (case l_Fault => exact Lp.lkX_mk (by k_is))
    (case c_Fault => exact Lp.exA_mk (by k_is) (by k_is) (by k_is) (by k_is) (by k_is) (by k_is) (by k_is) (by k_is) (by first | rfl | k_is))
    (case n_Fault_code => k_is)
    (case n_Fault_place => k_is)
    (case a_Refused => k_is)
    (case l_Refused => exact Lp.lkX_mk (by k_is))
    (case c_Refused => exact Lp.exA_mk (by k_is) (by k_is) (by k_is) (by k_is) (by k_is) (by k_is) (by k_is) (by k_is) (by first | rfl | k_is))
    (case n_Refused_code => k_is)
    (case a_cost_of => k_is)
    (case F_cost_of => (refine' Lp.fnA_mk ?gl ?gc ?gk; (case gl => k_is); (case gc => k_is); (case gk => k_is)))
    (case a_lowest_lacking => k_is)
    (case F_lowest_lacking => (refine' Lp.fnA_mk ?gl ?gc ?gk; (case gl => k_is); (case gc => k_is); (case gk => k_is)))
    (case a_many_bits => k_is)
    (case F_many_bits => (refine' Lp.fnA_mk ?gl ?gc ?gk; (case gl => k_is); (case gc => k_is); (case gk => k_is)))
    (case a_numbers_in => k_is)
    (case F_numbers_in => (refine' Lp.fnA_mk ?gl ?gc ?gk; (case gl => k_is); (case gc => k_is); (case gk => k_is)))
    (case a_best_from => k_is)
    (case F_best_from => (refine' Lp.fnA_mk ?gl ?gc ?gk; (case gl => k_is); (case gc => k_is); (case gk => k_is)))
    (case a_Family_every => k_is)
    (case i_Family_every => k_is)
    (case F_Family_every => (refine' Lp.fnA_mk ?gl ?gc ?gk; (case gl => k_is); (case gc => k_is); (case gk => k_is)))
    (case a_Family_together => k_is)
    (case i_Family_together => k_is)
    (case F_Family_together => (refine' Lp.fnA_mk ?gl ?gc ?gk; (case gl => k_is); (case gc => k_is); (case gk => k_is)))
    (case a_Family_all_covered => k_is)
    (case i_Family_all_covered => k_is)
    (case F_Family_all_covered => (refine' Lp.fnA_mk ?gl ?gc ?gk; (case gl => k_is); (case gc => k_is); (case gk => k_is)))
    (case a_Family_first_lacking => k_is)
    (case i_Family_first_lacking => k_is)
    (case F_Family_first_lacking => (refine' Lp.fnA_mk ?gl ?gc ?gk; (case gl => k_is); (case gc => k_is); (case gk => k_is)))
    (case a_Family_used => k_is)
    (case i_Family_used => k_is)
    (case F_Family_used => (refine' Lp.fnA_mk ?gl ?gc ?gk; (case gl => k_is); (case gc => k_is); (case gk => k_is)))
    (case a_least_set => k_is)
    (case F_least_set => (refine' Lp.fnA_mk ?gl ?gc ?gk; (case gl => k_is); (case gc => k_is); (case gk => k_is)))
    (case a_greediest => k_is)
    (case F_greediest => (refine' Lp.fnA_mk ?gl ?gc ?gk; (case gl => k_is); (case gc => k_is); (case gk => k_is)))
    (case a_greedy_set => k_is)
    (case F_greedy_set => (refine' Lp.fnA_mk ?gl ?gc ?gk; (case gl => k_is); (case gc => k_is); (case gk => k_is)))
    (case a_are_apart => k_is)
    (case F_are_apart => (refine' Lp.fnA_mk ?gl ?gc ?gk; (case gl => k_is); (case gc => k_is); (case gk => k_is)))
    (case a_bound_key => k_is)
    (case F_bound_key => (refine' Lp.fnA_mk ?gl ?gc ?gk; (case gl => k_is); (case gc => k_is); (case gk => k_is)))
    (case a_bound_of => k_is)
    (case F_bound_of => (refine' Lp.fnA_mk ?gl ?gc ?gk; (case gl => k_is); (case gc => k_is); (case gk => k_is)))
    (case a_Listed_is_within => k_is)
    (case i_Listed_is_within => k_is)
    (case F_Listed_is_within => (refine' Lp.fnA_mk ?gl ?gc ?gk; (case gl => k_is); (case gc => k_is); (case gk => k_is)))
    (case a_goals_of => k_is)
    (case F_goals_of => (refine' Lp.fnA_mk ?gl ?gc ?gk; (case gl => k_is); (case gc => k_is); (case gk => k_is)))
    (case a_chunk_of => k_is)
    (case F_chunk_of => (refine' Lp.fnA_mk ?gl ?gc ?gk; (case gl => k_is); (case gc => k_is); (case gk => k_is)))
    (case a_size_of => k_is)
    (case F_size_of => (refine' Lp.fnA_mk ?gl ?gc ?gk; (case gl => k_is); (case gc => k_is); (case gk => k_is)))
    (case a_places_in => k_is)
    (case F_places_in => (refine' Lp.fnA_mk ?gl ?gc ?gk; (case gl => k_is); (case gc => k_is); (case gk => k_is)))
    (case a_parted_by => k_is)
    (case F_parted_by => (refine' Lp.fnA_mk ?gl ?gc ?gk; (case gl => k_is); (case gc => k_is); (case gk => k_is)))
    (case a_is_good => k_is)
    (case F_is_good => (refine' Lp.fnA_mk ?gl ?gc ?gk; (case gl => k_is); (case gc => k_is); (case gk => k_is)))
    (case a_with_points => k_is)
    (case F_with_points => (refine' Lp.fnA_mk ?gl ?gc ?gk; (case gl => k_is); (case gc => k_is); (case gk => k_is)))
    (case a_around => k_is)
    (case F_around => (refine' Lp.fnA_mk ?gl ?gc ?gk; (case gl => k_is); (case gc => k_is); (case gk => k_is)))
    (case a_covered_by => k_is)
    (case F_covered_by => (refine' Lp.fnA_mk ?gl ?gc ?gk; (case gl => k_is); (case gc => k_is); (case gk => k_is)))
    (case a_pieces_of => k_is)
    (case F_pieces_of => (refine' Lp.fnA_mk ?gl ?gc ?gk; (case gl => k_is); (case gc => k_is); (case gk => k_is)))
    (case a_Family_init => k_is)
    (case i_Family_init => k_is)
    (case F_Family_init => (refine' Lp.fnA_mk ?gl ?gc ?gk; (case gl => k_is); (case gc => k_is); (case gk => k_is)))
    (case a_Word_init => k_is)
    (case i_Word_init => k_is)
    (case F_Word_init => (refine' Lp.fnA_mk ?gl ?gc ?gk; (case gl => k_is); (case gc => k_is); (case gk => k_is)))
    (case a_Listed_init => k_is)
    (case i_Listed_init => k_is)
    (case F_Listed_init => (refine' Lp.fnA_mk ?gl ?gc ?gk; (case gl => k_is); (case gc => k_is); (case gk => k_is)))
    (case a_ListReader_init => k_is)
    (case i_ListReader_init => k_is)
    (case F_ListReader_init => (refine' Lp.fnA_mk ?gl ?gc ?gk; (case gl => k_is); (case gc => k_is); (case gk => k_is)))
    (case a_Keeper_init => k_is)
    (case i_Keeper_init => k_is)
    (case F_Keeper_init => (refine' Lp.fnA_mk ?gl ?gc ?gk; (case gl => k_is); (case gc => k_is); (case gk => k_is)))
    (case a_Fault_init => k_is)
    (case t_Fault_init => k_is)
    (case F_Fault_init => (refine' Lp.fnA_mk ?gl ?gc ?gk; (case gl => k_is); (case gc => k_is); (case gk => k_is)))
    (case a_Refused_init => k_is)
    (case t_Refused_init => k_is)
    (case F_Refused_init => (refine' Lp.fnA_mk ?gl ?gc ?gk; (case gl => k_is); (case gc => k_is); (case gk => k_is)))
    (case a_sign_of => k_is)
    (case F_sign_of => (refine' Lp.fnA_mk ?gl ?gc ?gk; (case gl => k_is); (case gc => k_is); (case gk => k_is)))
    (case a_remark_end => k_is)
    (case F_remark_end => (refine' Lp.fnA_mk ?gl ?gc ?gk; (case gl => k_is); (case gc => k_is); (case gk => k_is)))
    (case a_behind_blanks => k_is)
    (case F_behind_blanks => (refine' Lp.fnA_mk ?gl ?gc ?gk; (case gl => k_is); (case gc => k_is); (case gk => k_is)))
    (case a_chunk_at => k_is)
    (case F_chunk_at => (refine' Lp.fnA_mk ?gl ?gc ?gk; (case gl => k_is); (case gc => k_is); (case gk => k_is)))
    (case a_token_at => k_is)
    (case F_token_at => (refine' Lp.fnA_mk ?gl ?gc ?gk; (case gl => k_is); (case gc => k_is); (case gk => k_is)))
    (case a_tokens_of => k_is)
    (case F_tokens_of => (refine' Lp.fnA_mk ?gl ?gc ?gk; (case gl => k_is); (case gc => k_is); (case gk => k_is)))
    (case a_are_letters => k_is)
    (case F_are_letters => (refine' Lp.fnA_mk ?gl ?gc ?gk; (case gl => k_is); (case gc => k_is); (case gk => k_is)))
    (case a_word_of => k_is)
    (case F_word_of => (refine' Lp.fnA_mk ?gl ?gc ?gk; (case gl => k_is); (case gc => k_is); (case gk => k_is)))
    (case a_bare_pattern => k_is)
    (case F_bare_pattern => (refine' Lp.fnA_mk ?gl ?gc ?gk; (case gl => k_is); (case gc => k_is); (case gk => k_is)))
    (case a_pattern_of => k_is)
    (case F_pattern_of => (refine' Lp.fnA_mk ?gl ?gc ?gk; (case gl => k_is); (case gc => k_is); (case gk => k_is)))
    (case a_ListReader_token => k_is)
    (case i_ListReader_token => k_is)
    (case F_ListReader_token => (refine' Lp.fnA_mk ?gl ?gc ?gk; (case gl => k_is); (case gc => k_is); (case gk => k_is)))
    (case a_ListReader_fail => k_is)
    (case i_ListReader_fail => k_is)
    (case F_ListReader_fail => (refine' Lp.fnA_mk ?gl ?gc ?gk; (case gl => k_is); (case gc => k_is); (case gk => k_is)))
    (case a_ListReader_want => k_is)
    (case i_ListReader_want => k_is)
    (case F_ListReader_want => (refine' Lp.fnA_mk ?gl ?gc ?gk; (case gl => k_is); (case gc => k_is); (case gk => k_is)))
    (case a_ListReader_take => k_is)
    (case i_ListReader_take => k_is)
    (case F_ListReader_take => (refine' Lp.fnA_mk ?gl ?gc ?gk; (case gl => k_is); (case gc => k_is); (case gk => k_is)))
    (case a_ListReader_want_chunk => k_is)
    (case i_ListReader_want_chunk => k_is)
    (case F_ListReader_want_chunk => (refine' Lp.fnA_mk ?gl ?gc ?gk; (case gl => k_is); (case gc => k_is); (case gk => k_is)))
    (case a_ListReader_margin => k_is)
    (case i_ListReader_margin => k_is)
    (case F_ListReader_margin => (refine' Lp.fnA_mk ?gl ?gc ?gk; (case gl => k_is); (case gc => k_is); (case gk => k_is)))
    (case a_ListReader_word => k_is)
    (case i_ListReader_word => k_is)
    (case F_ListReader_word => (refine' Lp.fnA_mk ?gl ?gc ?gk; (case gl => k_is); (case gc => k_is); (case gk => k_is)))
    (case a_ListReader_pattern => k_is)
    (case i_ListReader_pattern => k_is)
    (case F_ListReader_pattern => (refine' Lp.fnA_mk ?gl ?gc ?gk; (case gl => k_is); (case gc => k_is); (case gk => k_is)))
    (case a_ListReader_whole => k_is)
    (case i_ListReader_whole => k_is)
    (case F_ListReader_whole => (refine' Lp.fnA_mk ?gl ?gc ?gk; (case gl => k_is); (case gc => k_is); (case gk => k_is)))
    (case a_read_list => k_is)
    (case F_read_list => (refine' Lp.fnA_mk ?gl ?gc ?gk; (case gl => k_is); (case gc => k_is); (case gk => k_is)))
    (case a_want => k_is)
    (case F_want => (refine' Lp.fnA_mk ?gl ?gc ?gk; (case gl => k_is); (case gc => k_is); (case gk => k_is)))
    (case a_listed_numbers => k_is)
    (case F_listed_numbers => (refine' Lp.fnA_mk ?gl ?gc ?gk; (case gl => k_is); (case gc => k_is); (case gk => k_is)))
    (case a_Keeper_want_list => k_is)
    (case i_Keeper_want_list => k_is)
    (case F_Keeper_want_list => (refine' Lp.fnA_mk ?gl ?gc ?gk; (case gl => k_is); (case gc => k_is); (case gk => k_is)))
    (case a_Keeper_family_of => k_is)
    (case i_Keeper_family_of => k_is)
    (case F_Keeper_family_of => (refine' Lp.fnA_mk ?gl ?gc ?gk; (case gl => k_is); (case gc => k_is); (case gk => k_is)))
    (case a_Keeper_goals_told => k_is)
    (case i_Keeper_goals_told => k_is)
    (case F_Keeper_goals_told => (refine' Lp.fnA_mk ?gl ?gc ?gk; (case gl => k_is); (case gc => k_is); (case gk => k_is)))
    (case a_Keeper_family => k_is)
    (case i_Keeper_family => k_is)
    (case F_Keeper_family => (refine' Lp.fnA_mk ?gl ?gc ?gk; (case gl => k_is); (case gc => k_is); (case gk => k_is)))
    (case a_Keeper_set_told => k_is)
    (case i_Keeper_set_told => k_is)
    (case F_Keeper_set_told => (refine' Lp.fnA_mk ?gl ?gc ?gk; (case gl => k_is); (case gc => k_is); (case gk => k_is)))
    (case a_Keeper_lacking_told => k_is)
    (case i_Keeper_lacking_told => k_is)
    (case F_Keeper_lacking_told => (refine' Lp.fnA_mk ?gl ?gc ?gk; (case gl => k_is); (case gc => k_is); (case gk => k_is)))
    (case a_Keeper_least => k_is)
    (case i_Keeper_least => k_is)
    (case F_Keeper_least => (refine' Lp.fnA_mk ?gl ?gc ?gk; (case gl => k_is); (case gc => k_is); (case gk => k_is)))
    (case a_Keeper_greedy => k_is)
    (case i_Keeper_greedy => k_is)
    (case F_Keeper_greedy => (refine' Lp.fnA_mk ?gl ?gc ?gk; (case gl => k_is); (case gc => k_is); (case gk => k_is)))
    (case a_Keeper_bound => k_is)
    (case i_Keeper_bound => k_is)
    (case F_Keeper_bound => (refine' Lp.fnA_mk ?gl ?gc ?gk; (case gl => k_is); (case gc => k_is); (case gk => k_is)))
    (case a_Keeper_check => k_is)
    (case i_Keeper_check => k_is)
    (case F_Keeper_check => (refine' Lp.fnA_mk ?gl ?gc ?gk; (case gl => k_is); (case gc => k_is); (case gk => k_is)))
    (case a_Keeper_piece => k_is)
    (case i_Keeper_piece => k_is)
    (case F_Keeper_piece => (refine' Lp.fnA_mk ?gl ?gc ?gk; (case gl => k_is); (case gc => k_is); (case gk => k_is)))
    (case a_Keeper_load => k_is)
    (case i_Keeper_load => k_is)
    (case F_Keeper_load => (refine' Lp.fnA_mk ?gl ?gc ?gk; (case gl => k_is); (case gc => k_is); (case gk => k_is)))
    (case a_told => k_is)
    (case F_told => (refine' Lp.fnA_mk ?gl ?gc ?gk; (case gl => k_is); (case gc => k_is); (case gk => k_is)))
    (case a_answer => k_is)
    (case F_answer => (refine' Lp.fnA_mk ?gl ?gc ?gk; (case gl => k_is); (case gc => k_is); (case gk => k_is)))
    (case a_answers => k_is)
    (case F_answers => (refine' Lp.fnA_mk ?gl ?gc ?gk; (case gl => k_is); (case gc => k_is); (case gk => k_is)))
    (case z_len => k_is)
    (case z_range => k_is)
    (case z_enumerate => k_is)
    (case z_max => k_is)
    (case z_min => k_is)
    (case z_int => k_is)
    (case z_ord => k_is)
    (case z_all => k_is)
    (case z_any => k_is)
    (case z_sum => k_is)
    (case z_list => k_is)
    (case z_reversed => k_is)
    (case z_zip => k_is)
    (case z_ValueError => k_is)
    (case k_FIRST_LETTER => exact Lp.inA_mk (by k_is))
    (case k_FIRST_DIGIT => exact Lp.inA_mk (by k_is))
    (case k_REMARK => exact Lp.inA_mk (by k_is))
    (case k_LINE_END => exact Lp.inA_mk (by k_is))
    (case k_LONGEST => exact Lp.inA_mk (by k_is))
    (case k_MOST_BYTES => exact Lp.inA_mk (by k_is))
    (case k_TOO_LONG => exact Lp.inA_mk (by k_is))
    (case k_NO_TOKEN => exact Lp.inA_mk (by k_is))
    (case k_NOT_ALLOWED => exact Lp.inA_mk (by k_is))
    (case k_TOO_MANY => exact Lp.inA_mk (by k_is))
    (case k_THERE_ALREADY => exact Lp.inA_mk (by k_is))
    (case k_NOT_AS_TOLD_lists => exact Lp.inA_mk (by k_is))
    (case k_MOST_MARGIN => exact Lp.inA_mk (by k_is))
    (case k_LEAST_LETTERS => exact Lp.inA_mk (by k_is))
    (case k_MOST_LETTERS => exact Lp.inA_mk (by k_is))
    (case k_MOST_IN_PATTERN => exact Lp.inA_mk (by k_is))
    (case k_MOST_WORDS => exact Lp.inA_mk (by k_is))
    (case k_MOST_PATTERNS => exact Lp.inA_mk (by k_is))
    (case k_NO_LIST => exact Lp.inA_mk (by k_is))
    (case k_NO_PIECE => exact Lp.inA_mk (by k_is))
    (case k_BAD_LENGTH => exact Lp.inA_mk (by k_is))
    (case k_NOT_AS_TOLD_keeper => exact Lp.inA_mk (by k_is))
    (case k_TOO_MANY_GOALS => exact Lp.inA_mk (by k_is))
    (case k_MOST_LENGTH => exact Lp.inA_mk (by k_is))
    (case k_MOST_GOALS => exact Lp.inA_mk (by k_is))
    (case k_LETTERS => exact Lp.stA_mk (by k_is))
    (case k_DIGITS => exact Lp.stA_mk (by k_is))
    (case k_SIGN => exact Lp.stA_mk (by k_is))
    (case k_POINT_lists => exact Lp.stA_mk (by k_is))
    (case k_HYPHEN => exact Lp.stA_mk (by k_is))
    (case k_POINT_families => exact Lp.stA_mk (by k_is))
    (case k_DIGIT => exact Lp.stA_mk (by k_is))
    (case a_BLANKS => k_is)
    (case k_BLANKS => (refine' Lp.tuA_mk ?gl ?gc ?gd ?gs ?gv; (case gl => k_is); (case gc => rfl); (case gd => rfl); (case gs => decide); (case gv => repeat (first | exact .nil | refine .cons ⟨_, rfl⟩ ?_))))
    (case a_NUMBERS => k_is)
    (case k_NUMBERS => (refine' Lp.tuA_mk ?gl ?gc ?gd ?gs ?gv; (case gl => k_is); (case gc => rfl); (case gd => rfl); (case gs => decide); (case gv => repeat (first | exact .nil | refine .cons ⟨_, rfl⟩ ?_))))
    (case a_ROWS => k_is)
    (case k_ROWS => (refine' Lp.tuA_mk ?gl ?gc ?gd ?gs ?gv; (case gl => k_is); (case gc => rfl); (case gd => rfl); (case gs => decide); (case gv => repeat (first | exact .nil | refine .cons ⟨_, rfl⟩ ?_))))
    (case a_OTHERS => k_is)
    (case s_OTHERS => first | rfl | decide)
    (case k_OTHERS => (refine' Lp.otA_mk ?gl ?g1 ?g2 ?g3; (case gl => k_is); (case g1 => first | rfl | decide); (case g2 => first | rfl | decide); (case g3 => first | rfl | decide)))
    (case vV => show PySem.W.findCls _ _ _ _ = _; first | k_is | decide +kernel | rfl)
    (case ne => decide)
  case S =>
    intro K H xs a hO hwi hask hx
    exact Lp.said hO hwi hask hx
#print axioms PySem.Challenge.cw_leastpieces_s01_answers_holds
