import PyProof.Rows.All
import Wide.All
import OpenK.AllK
import Wide.FinOn
import HandS.ForMost
import HandS.ForExc
import HandS.ExcCtx
import HandS.HotCalls
import HandS.Lambda
import HandS.TupAny
import HandS.TupMul
import HandS.Wide
import HandS.IsInst
import HandS.Deep
import HandS.Style
import HandS.Conv
import KE.KTupSum
import KE.DataMinMax
import HandS.Words
import HandS.Zip
import KE.GoesNew
import KE.KDictZip
import HandS.More
import HandS.TupSets
import HandS.Strs
import HandS.SetTxt0
import KE.DatumOrd
import HandS.Defaults
import HandS.HeadHook2
import HandS.HeadEnd
import HandS.Head2
import HandS.EndTab
import HandS.EndBits
import HandS.HeadHook4
import HandS.HeadWalk
import HandS.ExcIs
import PySem.Challenge.RW_skillwants_k22_whole_there_and_back
set_option Elab.async false
section
set_option Elab.async false
set_option linter.all false
set_option maxRecDepth 100000
set_option maxHeartbeats 2000000
namespace Pv
open PySem PySem.Spec PyProof.Rows L2

/-! ### values without a heap -/
inductive PV where
  | non | bl (b : Bool) | int (i : Int) | str (x : Str) | tup (xs : List PV) | lst (xs : List PV)
  | dK (ks : List Key) (vs : List PV) | dT (ks : List (List Key)) (vs : List PV)
  | scr (ns : List Int)
  | fn (a : Addr)
instance : Inhabited PV := ⟨.non⟩

mutual
inductive Rp (S : Hp) : V → PV → Prop
  | non : Rp S .non .non
  | bl (b : Bool) : Rp S (.bl b) (.bl b)
  | int (i : Int) : Rp S (.int i) (.int i)
  | str (x : Str) (h : PyData.strOk x = true) : Rp S (.str x) (.str x)
  | tup {a : Addr} {vs : List V} {ps : List PV} : S a = some (.tup vs) → RpL S vs ps → Rp S (.ref a) (.tup ps)
  | lst {a : Addr} {vs : List V} {ps : List PV} : S a = some (.lst vs) → RpL S vs ps → Rp S (.ref a) (.lst ps)
  | dK {a : Addr} {kvs : List (Key × V)} {ps : List PV} : S a = some (.dK kvs) → RpL S (kvs.map (·.2)) ps → Rp S (.ref a) (.dK (kvs.map (·.1)) ps)
  | dT {a : Addr} {kvs : List (List Key × V)} {ps : List PV} : S a = some (.dT kvs) → RpL S (kvs.map (·.2)) ps → Rp S (.ref a) (.dT (kvs.map (·.1)) ps)
  | scr {a : Addr} {ob : Obj} {ns : List Int} : S a = some (.frz ob (.lst (ns.map V.int))) → Rp S (.ref a) (.scr ns)
  | fn (a : Addr) : Rp S (.ref a) (.fn a)
inductive RpL (S : Hp) : List V → List PV → Prop
  | nil : RpL S [] []
  | cons {v : V} {vs : List V} {p : PV} {ps : List PV} : Rp S v p → RpL S vs ps → RpL S (v :: vs) (p :: ps)
end
def Sub (S S' : Hp) : Prop := ∀ a o, S a = some o → S' a = some o
theorem Sub.refl (S : Hp) : Sub S S := fun _ _ h => h
theorem Sub.trans {S S1 S2 : Hp} (a : Sub S S1) (b : Sub S1 S2) : Sub S S2 := fun x o h => b x o (a x o h)
theorem Sub.upd {S : Hp} {a : Addr} {o : HO} (h : S a = none) : Sub S (upd S a o) := fun b u e => by
  rw [upd_ne (ne_of_none e h)]; exact e

/-- the kinds that a value wants -/
def Kd (L D : Bool) : HO → Prop
  | .lst _ => L = true
  | .dK _ => D = true
  | .dT _ => D = true
  | .tup _ => True
  | .frz _ _ => True
  | _ => False
mutual
def hasL : PV → Bool
  | .lst _ => true
  | .tup xs => hasLs xs
  | .dK _ vs => hasLs vs
  | .dT _ vs => hasLs vs
  | _ => false
def hasLs : List PV → Bool
  | [] => false
  | x :: xs => hasL x || hasLs xs
end
mutual
def hasD : PV → Bool
  | .lst xs => hasDs xs
  | .tup xs => hasDs xs
  | .dK _ _ => true
  | .dT _ _ => true
  | .fn _ => true
  | _ => false
def hasDs : List PV → Bool
  | [] => false
  | x :: xs => hasD x || hasDs xs
end
theorem RpL.length {S : Hp} : ∀ {vs : List V} {ps : List PV}, RpL S vs ps → vs.length = ps.length
  | _, _, .nil => rfl
  | _, _, .cons _ t => by simp [RpL.length t]
section
variable {S S' : Hp} {L D : Bool} (h : ∀ a o, S a = some o → Kd L D o → S' a = some o)
include h
mutual
/-- lists are not asked where none is; dicts likewise -/
theorem Rp.kinds : ∀ (p : PV) (v : V), (hasL p = true → L = true) → (hasD p = true → D = true) → Rp S v p → Rp S' v p
  | .non, _, _, _, r => by cases r; exact .non
  | .bl b, _, _, _, r => by cases r; exact .bl b
  | .int i, _, _, _, r => by cases r; exact .int i
  | .str x, _, _, _, r => by cases r with | str _ z => exact .str x z
  | .tup xs, _, h1, h2, r => by cases r with | tup e q => exact .tup (h _ _ e trivial) (Rp.kindsL xs _ h1 h2 q)
  | .lst xs, _, h1, h2, r => by cases r with | lst e q => exact .lst (h _ _ e (h1 rfl)) (Rp.kindsL xs _ (fun _ => h1 rfl) h2 q)
  | .dK ks xs, _, h1, h2, r => by cases r with | dK e q => exact .dK (h _ _ e (h2 rfl)) (Rp.kindsL xs _ h1 (fun _ => h2 rfl) q)
  | .dT ks xs, _, h1, h2, r => by cases r with | dT e q => exact .dT (h _ _ e (h2 rfl)) (Rp.kindsL xs _ h1 (fun _ => h2 rfl) q)
  | .scr ns, _, h1, h2, r => by cases r with | scr e => exact .scr (h _ _ e trivial)
  | .fn a, _, h1, h2, r => by cases r; exact .fn a
theorem Rp.kindsL : ∀ (ps : List PV) (vs : List V), (hasLs ps = true → L = true) → (hasDs ps = true → D = true) → RpL S vs ps → RpL S' vs ps
  | [], _, _, _, r => by cases r; exact .nil
  | x :: xs, _, h1, h2, r => by
    cases r with
    | cons r1 r2 =>
      simp only [hasLs, hasDs, Bool.or_eq_true] at h1 h2
      exact .cons (Rp.kinds x _ (fun z => h1 (.inl z)) (fun z => h2 (.inl z)) r1) (Rp.kindsL xs _ (fun z => h1 (.inr z)) (fun z => h2 (.inr z)) r2)
end
end
theorem Rp.mono {S S' : Hp} (h : Sub S S') {v : V} {p : PV} (r : Rp S v p) : Rp S' v p := Rp.kinds (L := true) (D := true) (fun a o e _ => h a o e) p v (fun _ => rfl) (fun _ => rfl) r
theorem RpL.mono {S S' : Hp} (h : Sub S S') {v : List V} {p : List PV} (r : RpL S v p) : RpL S' v p := Rp.kindsL (L := true) (D := true) (fun a o e _ => h a o e) p v (fun _ => rfl) (fun _ => rfl) r

/-! ### heaps -/
/-- S is held by H (a walked dict may be locked there) -/
def Hold (H : Hp) (a : Addr) : HO → Prop
  | .dK k => Rd H a (.dK k)
  | .dT k => Rd H a (.dT k)
  | .tbl _ => False
  | o => H a = some o
def SzOk : HO → Prop
  | .lst vs => vs.length ≤ sizeLine
  | .tup vs => vs.length ≤ sizeLine
  | _ => True
structure Le (Tb : List (Addr × Str)) (S H : Hp) : Prop where
  holds : ∀ a o, S a = some o → Hold H a o
  tabs : LamX.Tabs Tb H
  sz : ∀ a o, S a = some o → SzOk o
instance {Tb : List (Addr × Str)} {S H : Hp} : CoeFun (Le Tb S H) (fun _ => ∀ a o, S a = some o → Hold H a o) := ⟨Le.holds⟩
theorem Hold.ne {H : Hp} {a : Addr} {o : HO} (h : Hold H a o) : H a ≠ none := fun e => by
  cases o <;> first | exact h | (have z : H a = Option.some _ := h; rw [e] at z; cases z) | (rcases (show Rd H a _ from h) with z | ⟨_, z⟩ <;> (rw [e] at z; cases z))
theorem Hold.of {H : Hp} {a : Addr} {o : HO} (h : H a = some o) (n : ∀ ps, o ≠ .tbl ps) : Hold H a o := by
  cases o <;> first | exact h | exact .inl h | exact absurd rfl (n _)
theorem Hold.map {H H' : Hp} {a : Addr} {o : HO} (h : Hold H a o) (k : ∀ u, H a = some u → (∀ ps, u ≠ .tbl ps) → H' a = some u) : Hold H' a o := by
  cases o <;> first
    | exact h
    | exact k _ h (fun _ z => by cases z)
    | (rcases (show Rd H a _ from h) with z | ⟨ob, z⟩
       · exact .inl (k _ z (fun _ z => by cases z))
       · exact .inr ⟨ob, k _ z (fun _ z => by cases z)⟩)
structure Ext (T : List (Addr × Str)) (H H' : Hp) : Prop where
  st : ∀ a o, H a = some o → (∀ ps, o ≠ .tbl ps) → H' a = some o
  no : ∀ a, H' a = none → H a = none
  tb : LamX.Tabs T H → LamX.Tabs T H'
theorem Ext.refl (T : List (Addr × Str)) (H : Hp) : Ext T H H := ⟨fun _ _ h _ => h, fun _ h => h, fun h => h⟩
theorem Ext.trans {T : List (Addr × Str)} {H H1 H2 : Hp} (a : Ext T H H1) (b : Ext T H1 H2) : Ext T H H2 := ⟨fun x o h n => b.st x o (a.st x o h n) n, fun x h => a.no x (b.no x h), fun h => b.tb (a.tb h)⟩
theorem Ext.of {T : List (Addr × Str)} {H H' : Hp} (h : Sub H H') : Ext T H H' := by
  refine ⟨fun a o e _ => h a o e, fun a e => ?_, fun t => LamX.Tabs.ext t h⟩
  cases q : H a with
  | none => rfl
  | some o => rw [h a o q] at e; cases e
theorem Ext.new {T : List (Addr × Str)} {H : Hp} {a : Addr} {o : HO} (h : H a = none) : Ext T H (upd H a o) := Ext.of (Sub.upd h)
/-- S' has what S has, and else what is new behind H -/
structure Grow (H S S' : Hp) : Prop where
  sub : Sub S S'
  new : ∀ a o, S' a = some o → S a = some o ∨ H a = none
theorem Grow.refl (H S : Hp) : Grow H S S := ⟨Sub.refl S, fun _ _ h => .inl h⟩
theorem Grow.trans {T : List (Addr × Str)} {H H1 S S1 S2 : Hp} (a : Grow H S S1) (e : Ext T H H1) (b : Grow H1 S1 S2) : Grow H S S2 := ⟨a.sub.trans b.sub, fun x o h => by
  rcases b.new x o h with q | q
  · exact a.new x o q
  · exact .inr (e.no x q)⟩
theorem Le.emp {Tb : List (Addr × Str)} {S H : Hp} (h : Le Tb S H) {a : Addr} (e : H a = none) : S a = none := by
  cases q : S a with
  | none => rfl
  | some o => exact absurd e (h a o q).ne
theorem Le.upd {Tb : List (Addr × Str)} {S H : Hp} (h : Le Tb S H) {a : Addr} {o : HO} (na : H a = none) (n : ∀ ps, o ≠ .tbl ps) (z : SzOk o) : Le Tb (upd S a o) (L2.upd H a o) := by
  refine ⟨fun b u q => ?_, (Ext.new na).tb h.tabs, fun b u q => ?_⟩
  · by_cases hb : b = a
    · subst hb; rw [upd_same] at q; cases q; exact .of upd_same n
    · rw [upd_ne hb] at q
      exact (h b u q).map fun w e _ => by rw [upd_ne hb]; exact e
  · by_cases hb : b = a
    · subst hb; rw [upd_same] at q; cases q; exact z
    · rw [upd_ne hb] at q; exact h.sz b u q
theorem Grow.upd {Tb : List (Addr × Str)} {S H : Hp} (hl : Le Tb S H) {a : Addr} {o : HO} (e : H a = none) : Grow H S (upd S a o) := ⟨Sub.upd (hl.emp e), fun b u q => by
  by_cases hb : b = a
  · subst hb; exact .inr e
  · rw [upd_ne hb] at q; exact .inl q⟩
/-- S stands behind a heap that has all of H -/
theorem Le.ext {Tb : List (Addr × Str)} {S H H' : Hp} (h : Le Tb S H) (e : Ext Tb H H') : Le Tb S H' := ⟨fun a o q => (h a o q).map fun u z n => e.st a u z n, e.tb h.tabs, h.sz⟩

/-! ### what comes of a piece of text -/
inductive Res (α : Type) where
  | ok (a : α) | exc (c : Str) | bad
def Res.bind {α β : Type} : Res α → (α → Res β) → Res β
  | .ok a, f => f a
  | .exc c, _ => .exc c
  | .bad, _ => .bad
instance : Monad Res where
  pure := .ok
  bind := Res.bind
abbrev Rho := List (Option PV)
structure RS (S : Hp) (σ : L2.St) (ρ : Rho) : Prop where
  len : σ.length = ρ.length
  slot : ∀ (i : Nat) (p : PV), ρ[i]? = some (some p) → ∃ v, σ[i]? = some (some v) ∧ Rp S v p
theorem RS.mono {S S' : Hp} {σ : L2.St} {ρ : Rho} (h : Sub S S') (r : RS S σ ρ) : RS S' σ ρ := ⟨r.len, fun i p e => let ⟨v, a, b⟩ := r.slot i p e; ⟨v, a, b.mono h⟩⟩
/-- the program's facts -/
structure Gc where
  P : Program
  w : World
  K : PySem.W.Frag
  mg : Str → Option Value
  base : Heap
  T : List (Addr × Str)
  cls : Str → Option Addr
  clo : Addr → Option (Res PV) := fun _ => none
def EndE (G : Gc) (W : WX) (S H : Hp) (σ : L2.St) (Q : VK) : Res PV → Prop
  | .ok p => ∀ v H' S', Ext G.T H H' → Le G.T S' H' → Grow H S S' → Rp S' v p → Q v H'
  | .exc c => ∀ C H', G.cls c = some C → Ext G.T H H' → W (.ref C) none σ H'
  | .bad => False
theorem EndE.next {G : Gc} {W : WX} {S H S1 H1 : Hp} {σ : L2.St} {Q : VK} (e : Ext G.T H H1) (g : Grow H S S1) : ∀ {r : Res PV}, EndE G W S H σ Q r → EndE G W S1 H1 σ Q r
  | .ok _, h => fun v H' S' e' l g' r => h v H' S' (e.trans e') l (g.trans e g') r
  | .exc _, h => fun C H' hc e' => h C H' hc (e.trans e')
  | .bad, h => h
def tE (G : Gc) (W : WX) (f : Rho → Res PV) : TE := fun σ H Q => ∃ S ρ, Le G.T S H ∧ RS S σ ρ ∧ EndE G W S H σ Q (f ρ)
/-- the same of argument lists, of tests -/
def EndA (G : Gc) (W : WX) (S H : Hp) (σ : L2.St) (Q : List V → Hp → Prop) : Res (List PV) → Prop
  | .ok p => ∀ v H' S', Ext G.T H H' → Le G.T S' H' → Grow H S S' → RpL S' v p → Q v H'
  | .exc c => ∀ C H', G.cls c = some C → Ext G.T H H' → W (.ref C) none σ H'
  | .bad => False
def tA (G : Gc) (W : WX) (f : Rho → Res (List PV)) : TA := fun σ H Q => ∃ S ρ, Le G.T S H ∧ RS S σ ρ ∧ EndA G W S H σ Q (f ρ)
def EndT (G : Gc) (W : WX) (H : Hp) (σ : L2.St) (Q : Bool → Hp → Prop) : Res Bool → Prop
  | .ok b => ∀ H', Ext G.T H H' → Q b H'
  | .exc c => ∀ C H', G.cls c = some C → Ext G.T H H' → W (.ref C) none σ H'
  | .bad => False
def tT (G : Gc) (W : WX) (f : Rho → Res Bool) : TT := fun σ H Q => ∃ S ρ, Le G.T S H ∧ RS S σ ρ ∧ EndT G W H σ Q (f ρ)
theorem EndT.next {G : Gc} {W : WX} {H H1 : Hp} {σ : L2.St} {Q : Bool → Hp → Prop} (e : Ext G.T H H1) : ∀ {r : Res Bool}, EndT G W H σ Q r → EndT G W H1 σ Q r
  | .ok _, h => fun H' e' => h H' (e.trans e')
  | .exc _, h => fun C H' hc e' => h C H' hc (e.trans e')
  | .bad, h => h

/-! ### judgements -/
/-- a block: its names, scope, what it may store, the room -/
structure Bx where
  N : List Str
  sc : Scope
  fn : Str → Bool
  k : Nat
  co : Option (Addr × Str) := none
  hot : Bool := false
  hx : Option (Addr × Addr) := none
class Cool (B : Bx) : Prop where
  out : B.hot = false
instance {N : List Str} {sc : Scope} {fn : Str → Bool} {k : Nat} {co : Option (Addr × Str)} {hx : Option (Addr × Addr)} : Cool ⟨N, sc, fn, k, co, false, hx⟩ := ⟨rfl⟩
structure CxOk (G : Gc) (B : Bx) (X : Cx) : Prop where
  prog : X.prog = G.P
  w : X.w = G.w
  K : X.K = G.K
  mg : X.mg = G.mg
  base : X.base = G.base
  N : X.N = B.N
  nd : B.N.Nodup
  sc : X.env.scope = B.sc
  fn : ∀ x, B.fn x = true → X.fn x = true
  cool : B.hot = false → X.calm = true ∧ X.A.handled = none
  roomH : L2H.RoomH B.k X.A
  co : ∀ c q, B.co = some (c, q) → X.env.code = .ref c ∧ X.env.qual = q
  hx : ∀ a C, B.hx = some (a, C) → ∃ oe, (a, oe) ∈ X.pn ∧ L2H.Hot1 X.A (a, oe) ∧ L2N.Zn (.ref C) none oe ∧ ∃ vs, oe.data = .fields vs
theorem CxOk.calm {G : Gc} {B : Bx} {X : Cx} (ok : CxOk G B X) (h : B.hot = false) : X.calm = true := (ok.cool h).1
theorem CxOk.room {G : Gc} {B : Bx} {X : Cx} (ok : CxOk G B X) (h : B.hot = false) : Room B.k X.A := ⟨(ok.cool h).2, ok.roomH.dp, ok.roomH.un⟩
def NoStar (e : Expr) : Prop := ∀ es env, starEach (e :: es) env = (false, eval e env) :: starEach es env
structure JE (G : Gc) (B : Bx) (e : Expr) (f : Rho → Res PV) : Prop where
  run : ∀ (X : Cx) (W : WX), CxOk G B X → L2N.Takes X W → PE X e (tE G W f)
structure JT (G : Gc) (B : Bx) (e : Expr) (f : Rho → Res Bool) : Prop where
  run : ∀ (X : Cx) (W : WX), CxOk G B X → L2N.Takes X W → PT X e (tT G W f)
structure JA (G : Gc) (B : Bx) (es : List Expr) (f : Rho → Res (List PV)) : Prop where
  run : ∀ (X : Cx) (W : WX), CxOk G B X → L2N.Takes X W → PA X es (tA G W f)
  ns : ∀ env pos, (backTo pos (starEach es env)).any (·.1) = false
  len : ∀ ρ qs, f ρ = .ok qs → qs.length = es.length
theorem PE.imp {X : Cx} {e : Expr} {t u : TE} (h : PE X e t) (i : ∀ σ H Q, u σ H Q → t σ H Q) : PE X e u := ⟨fun pins s σ H Q I q => h.run pins s σ H Q I (i σ H Q q)⟩
theorem PT.imp {X : Cx} {e : Expr} {t u : TT} (h : PT X e t) (i : ∀ σ H Q, u σ H Q → t σ H Q) : PT X e u := ⟨fun pins s σ H Q I q => h.run pins s σ H Q I (i σ H Q q)⟩
theorem PA.imp {X : Cx} {e : List Expr} {t u : TA} (h : PA X e t) (i : ∀ σ H Q, u σ H Q → t σ H Q) : PA X e u := ⟨fun pos pins s σ H Q I q => h.run pos pins s σ H Q I (i σ H Q q)⟩

/-- one part, then what is made of its value -/
theorem EndE.then {G : Gc} {W : WX} {S H : Hp} {σ : L2.St} {Q R : VK} {r : Res PV} {g : PV → Res PV} (he : EndE G W S H σ Q (r.bind g))
    (k : ∀ p v H1 S1, Ext G.T H H1 → Le G.T S1 H1 → Grow H S S1 → Rp S1 v p → EndE G W S1 H1 σ Q (g p) → R v H1) : EndE G W S H σ R r := by
  cases r with
  | ok p => exact fun v H' S' e1 l1 g1 r1 => k p v H' S' e1 l1 g1 r1 (EndE.next e1 g1 he)
  | exc c => exact he
  | bad => exact he
theorem EndE.thenA {G : Gc} {W : WX} {S H : Hp} {σ : L2.St} {Q : VK} {R : List V → Hp → Prop} {r : Res (List PV)} {g : List PV → Res PV} (he : EndE G W S H σ Q (r.bind g))
    (k : ∀ p v H1 S1, Ext G.T H H1 → Le G.T S1 H1 → Grow H S S1 → RpL S1 v p → EndE G W S1 H1 σ Q (g p) → R v H1) : EndA G W S H σ R r := by
  cases r with
  | ok p => exact fun v H' S' e1 l1 g1 r1 => k p v H' S' e1 l1 g1 r1 (EndE.next e1 g1 he)
  | exc c => exact he
  | bad => exact he
/-- a test ahead -/
theorem EndE.thenT {G : Gc} {W : WX} {S H : Hp} {σ : L2.St} {Q : VK} {R : Bool → Hp → Prop} {r : Res Bool} {g : Bool → Res PV} (hl : Le G.T S H) (he : EndE G W S H σ Q (r.bind g))
    (k : ∀ b H1, Ext G.T H H1 → Le G.T S H1 → EndE G W S H1 σ Q (g b) → R b H1) : EndT G W H σ R r := by
  cases r with
  | ok p => exact fun H' e1 => k p H' e1 (hl.ext e1) (EndE.next e1 ⟨Sub.refl S, fun _ _ z => .inl z⟩ he)
  | exc c => exact he
  | bad => exact he
theorem EndT.then {G : Gc} {W : WX} {S H : Hp} {σ : L2.St} {Q : Bool → Hp → Prop} {R : VK} {r : Res PV} {g : PV → Res Bool} (he : EndT G W H σ Q (r.bind g))
    (k : ∀ p v H1 S1, Ext G.T H H1 → Le G.T S1 H1 → Grow H S S1 → Rp S1 v p → EndT G W H1 σ Q (g p) → R v H1) : EndE G W S H σ R r := by
  cases r with
  | ok p => exact fun v H' S' e1 l1 g1 r1 => k p v H' S' e1 l1 g1 r1 (EndT.next e1 he)
  | exc c => exact he
  | bad => exact he
theorem EndT.thenT {G : Gc} {W : WX} {S H : Hp} {σ : L2.St} {Q R : Bool → Hp → Prop} {r : Res Bool} {g : Bool → Res Bool} (hl : Le G.T S H) (he : EndT G W H σ Q (r.bind g))
    (k : ∀ b H1, Ext G.T H H1 → Le G.T S H1 → EndT G W H1 σ Q (g b) → R b H1) : EndT G W H σ R r := by
  cases r with
  | ok p => exact fun H' e1 => k p H' e1 (hl.ext e1) (EndT.next e1 he)
  | exc c => exact he
  | bad => exact he
end Pv
namespace Pv
open PySem PySem.Spec PyProof.Rows L2
/-! ### ends -/
section
variable {G : Gc} {W : WX} {S H : Hp} {σ : L2.St} {Q : VK}
theorem EndE.here {p : PV} (h : EndE G W S H σ Q (.ok p)) (hl : Le G.T S H) {v : V} (r : Rp S v p) : Q v H := h v H S (Ext.refl _ _) hl (Grow.refl _ _) r
theorem EndE.tup {vs : List V} {ps : List PV} (h : EndE G W S H σ Q (.ok (.tup ps))) (hl : Le G.T S H) (r : RpL S vs ps) (z : vs.length ≤ sizeLine) {a : Addr} (n : H a = none) : Q (.ref a) (upd H a (.tup vs)) :=
  h _ _ (upd S a (.tup vs)) (Ext.new n) (hl.upd n (fun _ z => by cases z) z) (Grow.upd hl n) (.tup upd_same (r.mono (Sub.upd (hl.emp n))))
theorem EndE.lst {vs : List V} {ps : List PV} (h : EndE G W S H σ Q (.ok (.lst ps))) (hl : Le G.T S H) (r : RpL S vs ps) (z : vs.length ≤ sizeLine) {a : Addr} (n : H a = none) : Q (.ref a) (upd H a (.lst vs)) :=
  h _ _ (upd S a (.lst vs)) (Ext.new n) (hl.upd n (fun _ z => by cases z) z) (Grow.upd hl n) (.lst upd_same (r.mono (Sub.upd (hl.emp n))))
theorem Rp.sqT {K : PySem.W.Frag} {v : V} {ps : List PV} (r : Rp S v (.tup ps)) (hl : Le G.T S H) : ∃ a vs, v = .ref a ∧ SqT K H a vs ∧ RpL S vs ps := by
  cases r with
  | tup e q => exact ⟨_, _, rfl, .inl (.inl (hl _ _ e)), q⟩
theorem Rp.sqL {K : PySem.W.Frag} {v : V} {ps : List PV} (r : Rp S v (.lst ps)) (hl : Le G.T S H) : ∃ a vs, v = .ref a ∧ SqL K H a vs ∧ RpL S vs ps := by
  cases r with
  | lst e q => exact ⟨_, _, rfl, .inl (.inl (hl _ _ e)), q⟩
end
theorem RpL.append {S : Hp} : ∀ {vs ws : List V} {ps qs : List PV}, RpL S vs ps → RpL S ws qs → RpL S (vs ++ ws) (ps ++ qs)
  | _, _, _, _, .nil, s => s
  | _, _, _, _, .cons r t, s => .cons r (RpL.append t s)
theorem RpL.get {S : Hp} : ∀ {vs : List V} {ps : List PV} {i : Nat} {p : PV}, RpL S vs ps → ps[i]? = some p → ∃ v, vs[i]? = some v ∧ Rp S v p
  | _, _, _, _, .nil, e => by simp at e
  | _, _, 0, _, .cons r _, e => by simp at e; subst e; exact ⟨_, rfl, r⟩
  | _, _, i + 1, p, .cons _ t, e => by
    obtain ⟨u, h1, h2⟩ := RpL.get (i := i) (p := p) t (by simpa using e)
    exact ⟨u, by simpa using h1, h2⟩
theorem RpL.take {S : Hp} : ∀ {vs : List V} {ps : List PV} (n : Nat), RpL S vs ps → RpL S (vs.take n) (ps.take n)
  | _, _, 0, _ => .nil
  | _, _, _ + 1, .nil => .nil
  | _, _, n + 1, .cons r t => .cons r (RpL.take n t)
theorem RpL.drop {S : Hp} : ∀ {vs : List V} {ps : List PV} (n : Nat), RpL S vs ps → RpL S (vs.drop n) (ps.drop n)
  | _, _, 0, r => r
  | _, _, _ + 1, .nil => .nil
  | _, _, n + 1, .cons _ t => RpL.drop n t
theorem RpL.reverse {S : Hp} : ∀ {vs : List V} {ps : List PV}, RpL S vs ps → RpL S vs.reverse ps.reverse
  | _, _, .nil => .nil
  | _, _, .cons r t => by simpa using RpL.append (RpL.reverse t) (.cons r .nil)

/-! ### names, constants -/
section
variable {G : Gc} {B : Bx}
def eC (p : PV) : Rho → Res PV := fun _ => .ok p
def eV (i : Nat) : Rho → Res PV := fun ρ => match ρ[i]? with | some (some p) => .ok p | _ => .bad
theorem JE.int {i : Int} {j : Nat} {pos : Pos} : JE G B (.Constant (.int i) j pos) (eC (.int i)) := ⟨fun X W ok tk => PE.imp pe_int fun σ H Q ⟨S, ρ, hl, hs, he⟩ => he.here hl (.int i)⟩
theorem JE.bl {b : Bool} {j : Nat} {pos : Pos} : JE G B (.Constant (.bool b) j pos) (eC (.bl b)) := ⟨fun X W ok tk => PE.imp pe_bl fun σ H Q ⟨S, ρ, hl, hs, he⟩ => he.here hl (.bl b)⟩
theorem JE.non {j : Nat} {pos : Pos} : JE G B (.Constant .none j pos) (eC .non) := ⟨fun X W ok tk => PE.imp pe_non fun σ H Q ⟨S, ρ, hl, hs, he⟩ => he.here hl .non⟩
theorem JE.str {x : Str} {j : Nat} {pos : Pos} (h : PyData.strOk x = true) : JE G B (.Constant (.str x) j pos) (eC (.str x)) := ⟨fun X W ok tk => PE.imp pe_str fun σ H Q ⟨S, ρ, hl, hs, he⟩ => he.here hl (.str x h)⟩
theorem JE.var {i : Nat} {x : Str} {pos : Pos} (hN : B.N[i]? = some x) (hv : Vis B.sc x) (hd : (x == ("__debug__" : Str)) = false := by decide) (hcd : (x == ("__classdict__" : Str)) = false := by decide) : JE G B (.Name x pos) (eV i) :=
  ⟨fun X W ok tk => PE.imp (pe_var (i := i) (by rw [ok.N]; exact hN) (by rw [ok.sc]; exact hv) hd hcd) fun σ H Q ⟨S, ρ, hl, hs, he⟩ => by
    unfold eV at he
    split at he
    · rename_i p e
      obtain ⟨v, e1, r⟩ := hs.slot i p e
      exact ⟨v, e1, he.here hl r⟩
    · exact he.elim⟩
/-- a module's constant -/
theorem JE.glob {x : Str} {u : Value} {v : V} {p : PV} {pos : Pos} (hg : B.sc.names.lookup x = some .globalImplicit) (hm : G.mg x = some u) (r : RelV v u) (rp : ∀ S, Rp S v p) (hd : (x == ("__debug__" : Str)) = false := by decide) : JE G B (.Name x pos) (eC p) :=
  ⟨fun X W ok tk => PE.imp (pe_glob (show X.env.scope.names.lookup x = _ by rw [ok.sc]; exact hg) (by rw [ok.mg]; exact hm) r hd) fun σ H Q ⟨S, ρ, hl, hs, he⟩ => he.here hl (rp S)⟩

/-! ### operators -/
def OpJ (G : Gc) (r : R2) (op : PV → PV → Res PV) : Prop := ∀ (W : WX) (S H : Hp) (σ : L2.St) (Q : VK) (v w : V) (p q : PV), Le G.T S H → Rp S v p → Rp S w q → EndE G W S H σ Q (op p q) → r v w H Q
def eBin (op : PV → PV → Res PV) (fa fb : Rho → Res PV) : Rho → Res PV := fun ρ => (fa ρ).bind fun x => (fb ρ).bind fun y => op x y
theorem tE.two {G : Gc} {W : WX} {fa fb : Rho → Res PV} {op : PV → PV → Res PV} {σ : L2.St} {H : Hp} {Q : VK} {r : R2} (o : OpJ G r op) (h : tE G W (eBin op fa fb) σ H Q) :
    tOp r (tE G W fa) (tE G W fb) σ H Q := by
  obtain ⟨S, ρ, hl, hs, he⟩ := h
  refine ⟨S, ρ, hl, hs, EndE.then he fun p v H1 S1 e1 l1 g1 r1 he => ?_⟩
  refine ⟨S1, ρ, l1, hs.mono g1.sub, EndE.then he fun q w H2 S2 e2 l2 g2 r2 he => ?_⟩
  exact o W S2 H2 σ Q v w p q l2 (r1.mono g2.sub) r2 he
theorem JE.op {a b : Expr} {op : Operator} {opf : PV → PV → Res PV} {fa fb : Rho → Res PV} {pos : Pos} (ho : ∀ X, CxOk G B X → ∃ r, OpR X (binaryOp op) r ∧ OpJ G r opf) (ha : JE G B a fa) (hb : JE G B b fb) : JE G B (.BinOp a op b pos) (eBin opf fa fb) :=
  ⟨fun X W ok tk => by
    obtain ⟨r, h1, h2⟩ := ho X ok
    exact PE.imp (pe_op h1 (ha.run X W ok tk) (hb.run X W ok tk)) fun σ H Q h => tE.two h2 h⟩
theorem OpJ.or {r r' : R2} {op op' : PV → PV → Res PV} (h : OpJ G r op) (h' : OpJ G r' op') : OpJ G (fun x y H Q => r x y H Q ∨ r' x y H Q) (fun x y => match op x y with | .bad => op' x y | z => z) := by
  intro W S H σ Q v w p q hl r1 r2 he
  cases e : op p q with
  | bad => simp only [e] at he; exact .inr (h' W S H σ Q v w p q hl r1 r2 he)
  | ok a => simp only [e] at he; exact .inl (h W S H σ Q v w p q hl r1 r2 (by rw [e]; exact he))
  | exc a => simp only [e] at he; exact .inl (h W S H σ Q v w p q hl r1 r2 (by rw [e]; exact he))
end
end Pv
end
section
set_option Elab.async false
set_option linter.all false
set_option maxRecDepth 100000
set_option maxHeartbeats 2000000
namespace Pv
open PySem PySem.Spec PyProof.Rows L2
variable {G : Gc} {B : Bx}
theorem szl : sizeLine = 16777216 := sizeLine_eq
/-! ### + - * // % -/
def opAdd : PV → PV → Res PV
  | .int i, .int j => .ok (.int (i + j))
  | .str x, .str y => if x.length + y.length ≤ 16777216 then .ok (.str (x ++ y)) else .bad
  | .tup xs, .tup ys => if xs.length + ys.length ≤ 16777216 then .ok (.tup (xs ++ ys)) else .bad
  | .lst xs, .lst ys => if xs.length + ys.length ≤ 16777216 then .ok (.lst (xs ++ ys)) else .bad
  | _, _ => .bad
theorem strOk_app {x y : Str} (h : PyData.strOk x = true) (h' : PyData.strOk y = true) : PyData.strOk (x ++ y) = true := by
  unfold PyData.strOk at *
  show (x.cps ++ y.cps).all _ = true
  rw [Array.all_append, h, h']; rfl
theorem opj_add (K : PySem.W.Frag) : OpJ G (fun x y H Q => rI0 (fun i j => V.int (i + j)) x y H Q ∨ (∃ i j, x = .str i ∧ y = .str j ∧ i.length + j.length ≤ sizeLine ∧ Q (.str (i ++ j)) H) ∨ rCatA K x y H Q ∨ rCat x y H Q) opAdd := by
  intro W S H σ Q v w p q hl r1 r2 he
  unfold opAdd at he
  split at he
  · cases r1; cases r2; exact .inl ⟨_, _, rfl, rfl, he.here hl (.int _)⟩
  · split at he
    · rename_i hz
      cases r1 with | str _ a => cases r2 with | str _ b => exact .inr (.inl ⟨_, _, rfl, rfl, by rw [szl]; exact hz, he.here hl (.str _ (strOk_app a b))⟩)
    · exact he.elim
  · split at he
    · rename_i xs ys hz
      cases r1 with | tup ea qa => cases r2 with | tup eb qb =>
      refine .inr (.inr (.inl ⟨_, _, _, _, rfl, rfl, .inl (.inl (hl _ _ ea)), .inl (.inl (hl _ _ eb)), by rw [szl, qa.length, qb.length]; exact hz, fun z => ?_, fun _ z => ?_, fun _ _ a na => ?_⟩))
      · subst z; cases qa; exact he.here hl (.tup eb qb)
      · subst z; cases qb; rw [List.append_nil] at he; exact he.here hl (.tup ea qa)
      · exact he.tup hl (qa.append qb) (by rw [List.length_append, szl, qa.length, qb.length]; exact hz) na
    · exact he.elim
  · split at he
    · rename_i xs ys hz
      cases r1 with | lst ea qa => cases r2 with | lst eb qb =>
      exact .inr (.inr (.inr ⟨_, _, _, _, rfl, rfl, hl _ _ ea, hl _ _ eb, by rw [szl, qa.length, qb.length]; exact hz, fun a na => he.lst hl (qa.append qb) (by rw [List.length_append, szl, qa.length, qb.length]; exact hz) na⟩))
    · exact he.elim
  · exact he.elim
theorem JE.add {a b : Expr} {fa fb : Rho → Res PV} {pos : Pos} (ha : JE G B a fa) (hb : JE G B b fb) : JE G B (.BinOp a .Add b pos) (eBin opAdd fa fb) :=
  JE.op (fun X ok => ⟨_, op_add.or (op_add_str.or (op_catA.or op_cat)), opj_add X.K⟩) ha hb
def opSub : PV → PV → Res PV
  | .int i, .int j => .ok (.int (i - j))
  | _, _ => .bad
theorem JE.sub {a b : Expr} {fa fb : Rho → Res PV} {pos : Pos} (ha : JE G B a fa) (hb : JE G B b fb) : JE G B (.BinOp a .Sub b pos) (eBin opSub fa fb) :=
  JE.op (fun X ok => ⟨_, op_sub, by
    intro W S H σ Q v w p q hl r1 r2 he
    unfold opSub at he
    split at he
    · cases r1; cases r2; exact ⟨_, _, rfl, rfl, he.here hl (.int _)⟩
    · exact he.elim⟩) ha hb
/-- a factor below 2^64, or both below 2^9000 -/
def mulOk (i j : Int) : Bool := decide (i.natAbs < 18446744073709551616) || decide (j.natAbs < 18446744073709551616) || (decide (i.natAbs.log2 < 9000) && decide (j.natAbs.log2 < 9000))
def opMul : PV → PV → Res PV
  | .int i, .int j => if mulOk i j = true then .ok (.int (i * j)) else .bad
  | .tup xs, .int k => if 1 ≤ k ∧ k ≤ 1000 ∧ xs.length ≤ 1000 ∧ xs ≠ [] then .ok (.tup (List.replicate k.toNat xs).flatten) else .bad
  | .lst xs, .int k => if 0 ≤ k ∧ k ≤ 1000 ∧ xs.length ≤ 1000 then .ok (.lst (List.replicate k.toNat xs).flatten) else .bad
  | _, _ => .bad
theorem tuple_mul1 (l : Addr) (items : Array Value) (n : Nat) (dd : Option Addr) (sl : Array (Option Value)) (u : Tok) :
    Meets (Builtin.«tuple.__mul__» ⟨[.ref l, .int 1 u], []⟩) (fun _ R s => s.heap.get? l = some { cls := .type "tuple", dict := dd, data := .seq items n, slots := sl } ∧ R (.ok (.ret (Value.ref l))) s) :=
  .of_wp fun prog w A R s h => by
    obtain ⟨hp, g, d, tk, os⟩ := s
    obtain ⟨hl, h⟩ := h
    have f1 := AutoSeq1.idx_int
    have c0 : (decide ((1 : Int) < -(2 ^ 63)) || decide ((1 : Int) ≥ 2 ^ 63)) = false := by decide
    have c1 : (items.isEmpty || (1 : Int) == 1) = true := by simp
    wp_walk using wpAny_loadPart' hl
    repeat (first
      | (refine wpAny_ite_false (decide_eq_false (by rw [c0]; exact Bool.false_ne_true)) ?_; wp_walk using wpAny_loadPart' hl)
      | (refine wpAny_ite_true (decide_eq_true (by rw [c1])) ?_; wp_walk using wpAny_loadPart' hl))
    exact ⟨_, rfl, h⟩
def rRepT1 (K : PySem.W.Frag) : R2 := fun x y H Q => ∃ l xs, x = .ref l ∧ y = .int 1 ∧ SqT K H l xs ∧ Q (.ref l) H
theorem op_repT1 {X : Cx} : OpR X (binaryOp .Mult) (rRepT1 X.K) := by
  intro pins s σ H x y v u Q I rx ry h
  obtain ⟨l, xs, rfl, rfl, hT, q⟩ := h
  cases rx
  obtain ⟨t, rfl⟩ := ry
  obtain ⟨its, r, ⟨⟨cls, dd, data, sl⟩, ho, hc, n, hd⟩, hs⟩ := I.tuple hT
  simp only at hc hd
  subst hc hd
  refine wpAny_binaryOp_repeat_ref (T := "tuple") (U := "int") (by decide) ⟨_, ho, rfl⟩ (fun s' => typeIs_int s' 1 t) noFill_tuple_mul F.fills_int_mul F.slot_int_rmul repeat_tuple F.slot_int_index.lookup
    (call_meets F.slot_int_rmul (typeIs_int s 1 t) F.entry_int_rmul (F.args_int_rmul_2 _ _) (int_rmul_tuple 1 t l its.toArray n dd sl)
      ⟨ho, rfl, ⟨_, ho, rfl⟩, call_meets F.slot_tuple_mul ⟨_, ho, rfl⟩ F.entry_tuple_mul (F.args_tuple_mul_2 _ _) (tuple_mul1 l its.toArray n dd sl t) ⟨ho, ?_⟩⟩)
  exact ⟨.ref l, H, I, rfl, q⟩
theorem RpL.flat {S : Hp} {vs : List V} {ps : List PV} (r : RpL S vs ps) : ∀ n : Nat, RpL S (List.replicate n vs).flatten (List.replicate n ps).flatten
  | 0 => .nil
  | n + 1 => by simp only [List.replicate_succ, List.flatten_cons]; exact r.append (RpL.flat r n)
theorem flat_len {α : Type} (xs : List α) (n : Nat) : (List.replicate n xs).flatten.length = n * xs.length := by simp
theorem JE.mul {a b : Expr} {fa fb : Rho → Res PV} {pos : Pos} (ha : JE G B a fa) (hb : JE G B b fb) : JE G B (.BinOp a .Mult b pos) (eBin opMul fa fb) :=
  JE.op (fun X ok => ⟨_, op_mul.or (op_mulW.or (op_repT.or (op_repT1.or op_rep))), by
    intro W S H σ Q v w p q hl r1 r2 he
    unfold opMul at he
    split at he
    · split at he
      · rename_i i j z
        cases r1; cases r2
        unfold mulOk at z
        simp only [Bool.or_eq_true, Bool.and_eq_true, decide_eq_true_eq] at z
        have k := he.here hl (.int _)
        rcases z with (z | z) | ⟨z, z'⟩
        · exact .inl ⟨_, _, rfl, rfl, .inl (by omega), k⟩
        · exact .inl ⟨_, _, rfl, rfl, .inr (by omega), k⟩
        · exact .inr (.inl ⟨_, _, rfl, rfl, (by show _ + _ < _; omega), k⟩)
      · exact he.elim
    · split at he
      · rename_i xs k z
        obtain ⟨z1, z2, z3, z4⟩ := z
        cases r2
        cases r1 with | tup ea qa =>
        by_cases k1 : k = 1
        · subst k1
          refine .inr (.inr (.inr (.inl ⟨_, _, rfl, rfl, .inl (.inl (hl _ _ ea)), he.here hl ?_⟩)))
          have e : (List.replicate (Int.toNat 1) xs).flatten = xs := by simp
          rw [e]
          exact .tup ea qa
        · refine .inr (.inr (.inl ⟨_, _, _, rfl, rfl, .inl (.inl (hl _ _ ea)), fun e => ?_, by omega, by omega, by rw [qa.length]; exact z3, fun a na => ?_⟩))
          · subst e; cases qa; exact z4 rfl
          · exact he.tup hl (qa.flat _) (by rw [flat_len, szl, qa.length]; have a1 : k.toNat * xs.length ≤ 1000 * 1000 := Nat.mul_le_mul (by omega) z3; omega) na
      · exact he.elim
    · split at he
      · rename_i xs k z
        obtain ⟨z1, z2, z3⟩ := z
        cases r2
        cases r1 with | lst ea qa =>
        refine .inr (.inr (.inr (.inr ⟨_, _, _, rfl, rfl, hl _ _ ea, by omega, by omega, ?_, fun a na => he.lst hl (qa.flat _) (by rw [flat_len, szl, qa.length]; have a1 : k.toNat * xs.length ≤ 1000 * 1000 := Nat.mul_le_mul (by omega) z3; omega) na⟩)))
        rw [szl, qa.length]
        have a1 : xs.length * k.toNat ≤ 1000 * 1000 := Nat.mul_le_mul z3 (by omega)
        omega
      · exact he.elim
    · exact he.elim⟩) ha hb
def opDiv : PV → PV → Res PV
  | .int i, .int j => if 0 < j ∧ j.natAbs.log2 < 9000 then .ok (.int (i / j)) else .bad
  | _, _ => .bad
theorem JE.div {a b : Expr} {fa fb : Rho → Res PV} {pos : Pos} (ha : JE G B a fa) (hb : JE G B b fb) : JE G B (.BinOp a .FloorDiv b pos) (eBin opDiv fa fb) :=
  JE.op (fun X ok => ⟨_, op_fdivW, by
    intro W S H σ Q v w p q hl r1 r2 he
    unfold opDiv at he
    split at he
    · split at he
      · rename_i z; cases r1; cases r2; exact ⟨_, _, rfl, rfl, z, he.here hl (.int _)⟩
      · exact he.elim
    · exact he.elim⟩) ha hb
def opMod : PV → PV → Res PV
  | .int i, .int j => if 0 < j then .ok (.int (i % j)) else .bad
  | _, _ => .bad
theorem JE.mod {a b : Expr} {fa fb : Rho → Res PV} {pos : Pos} (ha : JE G B a fa) (hb : JE G B b fb) : JE G B (.BinOp a .Mod b pos) (eBin opMod fa fb) :=
  JE.op (fun X ok => ⟨_, op_mod, by
    intro W S H σ Q v w p q hl r1 r2 he
    unfold opMod at he
    split at he
    · split at he
      · rename_i z; cases r1; cases r2; exact ⟨_, _, rfl, rfl, z, he.here hl (.int _)⟩
      · exact he.elim
    · exact he.elim⟩) ha hb
end Pv
end
section
set_option Elab.async false
set_option linter.all false
set_option maxRecDepth 100000
set_option maxHeartbeats 2000000
namespace Pv
open PySem PySem.Spec PyProof.Rows L2
variable {G : Gc} {B : Bx}
/-! ### data -/
mutual
def toD : PV → PyData
  | .non => .none
  | .bl b => .bool b
  | .int i => .int i
  | .str x => .str x
  | .tup xs => .tuple (toDs xs)
  | .lst xs => .list (toDs xs)
  | .dK _ _ => .dict []
  | .dT _ _ => .dict []
  | .scr ns => .list (ns.map .int)
  | .fn _ => .none
def toDs : List PV → List PyData
  | [] => []
  | x :: xs => toD x :: toDs xs
end
theorem toDs_eq : ∀ xs : List PV, toDs xs = xs.map toD
  | [] => rfl
  | x :: xs => by rw [toDs, List.map_cons, toDs_eq xs]
theorem dpInts {K : PySem.W.Frag} {H : Hp} : ∀ ns : List Int, DpAll K H (ns.map V.int) (ns.map PyData.int)
  | [] => .nil
  | n :: ns => .cons (.int n) (dpInts ns)
theorem layInts : ∀ ns : List Int, PyData.canLayAll0 (ns.map PyData.int) = true
  | [] => rfl
  | n :: ns => by simp [PyData.canLayAll0, PyData.canLay0, layInts ns]
section
variable {K : PySem.W.Frag} {S H : Hp} (hl : Le G.T S H)
include hl
mutual
theorem Rp.dp : ∀ (p : PV) (v : V), hasD p = false → Rp S v p → Dp K H v (toD p)
  | .non, _, _, r => by cases r; exact .non
  | .bl b, _, _, r => by cases r; exact .bl b
  | .int i, _, _, r => by cases r; exact .int i
  | .str x, _, _, r => by cases r; exact .str x
  | .tup xs, _, h, r => by cases r with | tup e q => exact .tup (.inl (.inl (hl _ _ e))) (Rp.dps xs _ h q)
  | .lst xs, _, h, r => by cases r with | lst e q => exact .lst (.inl (.inl (hl _ _ e))) (Rp.dps xs _ h q)
  | .dK _ _, _, h, r => by cases h
  | .dT _ _, _, h, r => by cases h
  | .scr ns, _, h, r => by
    cases r with
    | scr e => exact .lst (.inl (.inr ⟨_, hl _ _ e⟩)) (dpInts ns)
  | .fn _, _, h, r => by cases h
theorem Rp.dps : ∀ (ps : List PV) (vs : List V), hasDs ps = false → RpL S vs ps → DpAll K H vs (toDs ps)
  | [], _, _, r => by cases r; exact .nil
  | x :: xs, _, h, r => by
    simp only [hasDs, Bool.or_eq_false_iff] at h
    cases r with
    | cons r1 r2 => exact .cons (Rp.dp x _ h.1 r1) (Rp.dps xs _ h.2 r2)
end
end
mutual
theorem Rp.lay {S : Hp} : ∀ (p : PV) (v : V), hasD p = false → Rp S v p → (toD p).canLay0 = true
  | .non, _, _, r => rfl
  | .bl b, _, _, r => rfl
  | .int i, _, _, r => rfl
  | .str x, _, _, r => by cases r with | str _ z => exact z
  | .tup xs, _, h, r => by cases r with | tup e q => exact Rp.lays xs _ h q
  | .lst xs, _, h, r => by cases r with | lst e q => exact Rp.lays xs _ h q
  | .dK _ _, _, h, r => by cases h
  | .dT _ _, _, h, r => by cases h
  | .scr ns, _, h, r => layInts ns
  | .fn _, _, h, r => by cases h
theorem Rp.lays {S : Hp} : ∀ (ps : List PV) (vs : List V), hasDs ps = false → RpL S vs ps → PyData.canLayAll0 (toDs ps) = true
  | [], _, _, r => rfl
  | x :: xs, _, h, r => by
    simp only [hasDs, Bool.or_eq_false_iff] at h
    cases r with
    | cons r1 r2 => simp only [toDs, PyData.canLayAll0, Rp.lay x _ h.1 r1, Rp.lays xs _ h.2 r2, Bool.and_self]
end
/-- may be compared: no dict within, not too deep -/
def flatOk (p : PV) : Bool := !hasD p && decide ((toD p).depth ≤ 64)
theorem Rp.shaped {S : Hp} {p : PV} {v : V} (h : flatOk p = true) (r : Rp S v p) : SeqAt.shaped (toD p) = true := by
  unfold flatOk at h
  simp only [Bool.and_eq_true, Bool.not_eq_true', decide_eq_true_eq] at h
  unfold SeqAt.shaped
  rw [Rp.lay p v h.1 r, decide_eq_true h.2]; rfl
theorem flatOk_hasD {p : PV} (h : flatOk p = true) : hasD p = false := by
  unfold flatOk at h
  simp only [Bool.and_eq_true, Bool.not_eq_true'] at h
  exact h.1
def peq (p q : PV) : Bool := PyData.eqv (toD p) (toD q)

/-! ### comparisons -/
structure JC (G : Gc) (B : Bx) (op : CmpOp) (a b : Expr) (f : Rho → Res PV) : Prop where
  run : ∀ (X : Cx) (W : WX), CxOk G B X → L2N.Takes X W → PC X op a b (tE G W f)
theorem PC.imp {X : Cx} {op : CmpOp} {a b : Expr} {t u : TE} (h : PC X op a b t) (i : ∀ σ H Q, u σ H Q → t σ H Q) : PC X op a b u := ⟨fun pins s σ H Q I q => h.run pins s σ H Q I (i σ H Q q)⟩
theorem PC.or {X : Cx} {op : CmpOp} {a b : Expr} {t u : TE} (h : PC X op a b t) (h' : PC X op a b u) : PC X op a b (fun σ H Q => t σ H Q ∨ u σ H Q) := ⟨fun pins s σ H Q I q => q.elim (h.run pins s σ H Q I) (h'.run pins s σ H Q I)⟩
theorem pc_op {X : Cx} {op : CmpOp} {a b : Expr} {ta tb : TE} {r : R2} (ho : OpR X (compareOp op) r) (ha : PE X a ta) (hb : PE X b tb) : PC X op a b (tOp r ta tb) :=
  ⟨fun pins s σ H Q I h => binT ha hb I h fun v u s2 x y H2 I2 rx ry q => ho pins s2 σ H2 x y v u Q I2 rx ry q⟩
theorem JC.op {a b : Expr} {op : CmpOp} {opf : PV → PV → Res PV} {fa fb : Rho → Res PV} (ho : ∀ X, CxOk G B X → ∃ r, OpR X (compareOp op) r ∧ OpJ G r opf) (ha : JE G B a fa) (hb : JE G B b fb) : JC G B op a b (eBin opf fa fb) :=
  ⟨fun X W ok tk => by
    obtain ⟨r, h1, h2⟩ := ho X ok
    exact PC.imp (pc_op h1 (ha.run X W ok tk) (hb.run X W ok tk)) fun σ H Q h => tE.two h2 h⟩
theorem CxOk.units {X : Cx} (ok : CxOk G B X) : X.A.units + 65 < cLine := by have := ok.roomH.un; omega
def opEq (p q : PV) : Res PV := if (flatOk p && flatOk q) = true then .ok (.bl (peq p q)) else .bad
def opNe (p q : PV) : Res PV := if (flatOk p && flatOk q) = true then .ok (.bl (!peq p q)) else .bad
theorem JC.eq {a b : Expr} {fa fb : Rho → Res PV} (ha : JE G B a fa) (hb : JE G B b fb) : JC G B .Eq a b (eBin opEq fa fb) :=
  JC.op (fun X ok => ⟨_, op_eqD (by have := ok.units; omega), by
    intro W S H σ Q v w p q hl r1 r2 he
    unfold opEq at he
    split at he
    · rename_i z
      simp only [Bool.and_eq_true] at z
      exact ⟨_, _, Rp.dp hl p v (flatOk_hasD z.1) r1, Rp.dp hl q w (flatOk_hasD z.2) r2, r1.shaped z.1, r2.shaped z.2, he.here hl (.bl _)⟩
    · exact he.elim⟩) ha hb
theorem JC.ne {a b : Expr} {fa fb : Rho → Res PV} (ha : JE G B a fa) (hb : JE G B b fb) : JC G B .NotEq a b (eBin opNe fa fb) :=
  JC.op (fun X ok => ⟨_, op_neD (by have := ok.units; omega), by
    intro W S H σ Q v w p q hl r1 r2 he
    unfold opNe at he
    split at he
    · rename_i z
      simp only [Bool.and_eq_true] at z
      exact ⟨_, _, Rp.dp hl p v (flatOk_hasD z.1) r1, Rp.dp hl q w (flatOk_hasD z.2) r2, r1.shaped z.1, r2.shaped z.2, he.here hl (.bl _)⟩
    · exact he.elim⟩) ha hb
def opCmp (fi : Int → Int → Bool) (fs : List Nat → List Nat → Bool) : PV → PV → Res PV
  | .int i, .int j => .ok (.bl (fi i j))
  | .str x, .str y => .ok (.bl (fs x.cps.toList y.cps.toList))
  | _, _ => .bad
theorem opj_cmp (fi : Int → Int → Bool) (fs : List Nat → List Nat → Bool) : OpJ G (fun x y H Q => rI0 (fun i j => V.bl (fi i j)) x y H Q ∨ (∃ i j, x = .str i ∧ y = .str j ∧ Q (.bl (fs i.cps.toList j.cps.toList)) H)) (opCmp fi fs) := by
  intro W S H σ Q v w p q hl r1 r2 he
  unfold opCmp at he
  split at he
  · cases r1; cases r2; exact .inl ⟨_, _, rfl, rfl, he.here hl (.bl _)⟩
  · cases r1; cases r2; exact .inr ⟨_, _, rfl, rfl, he.here hl (.bl _)⟩
  · exact he.elim
abbrev opLt := opCmp (fun i j => decide (i < j)) (fun x y => decide (x < y))
abbrev opLe := opCmp (fun i j => decide (i ≤ j)) (fun x y => !decide (y < x))
abbrev opGt := opCmp (fun i j => decide (j < i)) (fun x y => decide (y < x))
abbrev opGe := opCmp (fun i j => decide (j ≤ i)) (fun x y => !decide (x < y))
theorem JC.lt {a b : Expr} {fa fb : Rho → Res PV} (ha : JE G B a fa) (hb : JE G B b fb) : JC G B .Lt a b (eBin opLt fa fb) := JC.op (fun X ok => ⟨_, op_lt.or op_lt_str, opj_cmp _ _⟩) ha hb
theorem JC.le {a b : Expr} {fa fb : Rho → Res PV} (ha : JE G B a fa) (hb : JE G B b fb) : JC G B .LtE a b (eBin opLe fa fb) := JC.op (fun X ok => ⟨_, op_le.or op_le_str, opj_cmp _ _⟩) ha hb
theorem JC.gt {a b : Expr} {fa fb : Rho → Res PV} (ha : JE G B a fa) (hb : JE G B b fb) : JC G B .Gt a b (eBin opGt fa fb) := JC.op (fun X ok => ⟨_, op_gt.or op_gt_str, opj_cmp _ _⟩) ha hb
theorem JC.ge {a b : Expr} {fa fb : Rho → Res PV} (ha : JE G B a fa) (hb : JE G B b fb) : JC G B .GtE a b (eBin opGe fa fb) := JC.op (fun X ok => ⟨_, op_ge.or op_ge_str, opj_cmp _ _⟩) ha hb
/-- is None, is True, is False -/
def opIs (neg : Bool) : PV → PV → Res PV
  | .bl a, .bl b => .ok (.bl (xor neg (decide (a = b))))
  | .non, .non => .ok (.bl (!neg))
  | _, .non => .ok (.bl neg)
  | _, _ => .bad
theorem opj_is : OpJ G (fun x y H Q => (y = .non ∧ Q (.bl (decide (x = .non))) H) ∨ rIsB x y H Q) (opIs false) := by
  intro W S H σ Q v w p q hl r1 r2 he
  unfold opIs at he
  split at he
  · cases r1; cases r2; exact .inr ⟨_, _, rfl, rfl, by simpa using he.here hl (.bl _)⟩
  · cases r1; cases r2; exact .inl ⟨rfl, by simpa using he.here hl (.bl _)⟩
  · rename_i h1
    cases r2
    have k := he.here hl (.bl _)
    cases r1 <;> first | exact absurd rfl h1 | exact .inl ⟨rfl, k⟩
  · exact he.elim
theorem opj_isnot : OpJ G (fun x y H Q => (y = .non ∧ Q (.bl (!decide (x = .non))) H) ∨ rNotB x y H Q) (opIs true) := by
  intro W S H σ Q v w p q hl r1 r2 he
  unfold opIs at he
  split at he
  · cases r1; cases r2; exact .inr ⟨_, _, rfl, rfl, by simpa using he.here hl (.bl _)⟩
  · cases r1; cases r2; exact .inl ⟨rfl, by simpa using he.here hl (.bl _)⟩
  · rename_i h1
    cases r2
    have k := he.here hl (.bl _)
    cases r1 <;> first | exact absurd rfl h1 | exact .inl ⟨rfl, k⟩
  · exact he.elim
theorem JC.is {a b : Expr} {fa fb : Rho → Res PV} (ha : JE G B a fa) (hb : JE G B b fb) : JC G B .Is a b (eBin (opIs false) fa fb) := JC.op (fun X ok => ⟨_, op_isN.or op_isBl, opj_is⟩) ha hb
theorem JC.isnot {a b : Expr} {fa fb : Rho → Res PV} (ha : JE G B a fa) (hb : JE G B b fb) : JC G B .IsNot a b (eBin (opIs true) fa fb) := JC.op (fun X ok => ⟨_, op_notN.or op_notBl, opj_isnot⟩) ha hb
/-! as values, as tests -/
theorem JE.cmp {op : CmpOp} {a b : Expr} {f : Rho → Res PV} {pos : Pos} (h : JC G B op a b f) (hm : behindInMarks op b = false) : JE G B (.Compare a [op] [b] pos) f := ⟨fun X W ok tk => pe_cmp (h.run X W ok tk) hm⟩
/-- the bool of a value -/
def tru : PV → Res Bool
  | .bl b => .ok b
  | _ => .bad
def eTru (f : Rho → Res PV) : Rho → Res Bool := fun ρ => (f ρ).bind tru
theorem tT.tru {G : Gc} {W : WX} {f : Rho → Res PV} {σ : L2.St} {H : Hp} {Q : Bool → Hp → Prop} (h : tT G W (eTru f) σ H Q) : tB (tE G W f) σ H Q := by
  obtain ⟨S, ρ, hl, hs, he⟩ := h
  refine ⟨S, ρ, hl, hs, EndT.then he fun p v H1 S1 e1 l1 g1 r1 he => ?_⟩
  unfold Pv.tru at he
  split at he
  · cases r1; exact ⟨_, rfl, he _ (Ext.refl _ _)⟩
  · exact he.elim
theorem JT.cmp {op : CmpOp} {a b : Expr} {f : Rho → Res PV} {pos : Pos} (h : JC G B op a b f) (hm : behindInMarks op b = false) : JT G B (.Compare a [op] [b] pos) (eTru f) := ⟨fun X W ok tk => PT.imp (pt_cmp (h.run X W ok tk) hm) fun σ H Q h => tT.tru h⟩
/-- an expression that is no test of its own kind -/
def PlainT (e : Expr) : Prop := ∀ env whole, isTrue e env whole = (do let v ← whole; standAt e.pos; holding [v] (truthy v))
theorem JT.val {e : Expr} {f : Rho → Res PV} (h : JE G B e f) (hp : PlainT e) : JT G B e (eTru f) := ⟨fun X W ok tk => PT.imp (pt_val (h.run X W ok tk) (hp _)) fun σ H Q h => tT.tru h⟩
/-! chains -/
def eChain (op op' : PV → PV → Res PV) (fa fb fc : Rho → Res PV) : Rho → Res PV := fun ρ => (fa ρ).bind fun x => (fb ρ).bind fun y => (op x y).bind fun z => match z with
  | .bl true => (fc ρ).bind fun w => op' y w
  | .bl false => .ok (.bl false)
  | _ => .bad
theorem tE.chain {W : WX} {fa fb fc : Rho → Res PV} {f f' : PV → PV → Res PV} {r r' : R2} (o : OpJ G r f) (o' : OpJ G r' f') {σ : L2.St} {H : Hp} {Q : VK} (h : tE G W (eChain f f' fa fb fc) σ H Q) : tChain r r' (tE G W fa) (tE G W fb) (tE G W fc) σ H Q := by
  obtain ⟨S, ρ, hl, hs, he⟩ := h
  refine ⟨S, ρ, hl, hs, EndE.then he fun p v H1 S1 e1 l1 g1 r1 he => ?_⟩
  refine ⟨S1, ρ, l1, hs.mono g1.sub, EndE.then he fun q w H2 S2 e2 l2 g2 r2 he => ?_⟩
  refine o W S2 H2 σ _ v w p q l2 (r1.mono g2.sub) r2 (EndE.then he fun z vz H3 S3 e3 l3 g3 r3 he => ?_)
  split at he
  · cases r3
    refine ⟨true, rfl, ?_⟩
    rw [if_pos rfl]
    refine ⟨S3, ρ, l3, hs.mono (g1.sub.trans (g2.sub.trans g3.sub)), EndE.then he fun u vu H4 S4 e4 l4 g4 r4 he => ?_⟩
    exact o' W S4 H4 σ Q w vu q u l4 (r2.mono (g3.sub.trans g4.sub)) r4 he
  · cases r3
    refine ⟨false, rfl, ?_⟩
    rw [if_neg Bool.false_ne_true]
    exact he.here l3 (.bl _)
  · exact he.elim
theorem JE.chain {op op' : CmpOp} {a b c : Expr} {fa fb fc : Rho → Res PV} {f f' : PV → PV → Res PV} {pos : Pos} (ho : ∀ X, CxOk G B X → ∃ r, OpR X (compareOp op) r ∧ OpJ G r f) (ho' : ∀ X, CxOk G B X → ∃ r, OpR X (compareOp op') r ∧ OpJ G r f')
    (ha : JE G B a fa) (hb : JE G B b fb) (hc : JE G B c fc) (hm : lastMarks [op, op'] [b, c] = false) : JE G B (.Compare a [op, op'] [b, c] pos) (eChain f f' fa fb fc) :=
  ⟨fun X W ok tk => by
    obtain ⟨r, h1, h2⟩ := ho X ok
    obtain ⟨r', h1', h2'⟩ := ho' X ok
    exact PE.imp (pe_chain h1 h1' (ha.run X W ok tk) (hb.run X W ok tk) (hc.run X W ok tk) hm) fun σ H Q h => tE.chain h2 h2' h⟩
theorem JT.chain {op op' : CmpOp} {a b c : Expr} {fa fb fc : Rho → Res PV} {f f' : PV → PV → Res PV} {pos : Pos} (ho : ∀ X, CxOk G B X → ∃ r, OpR X (compareOp op) r ∧ OpJ G r f) (ho' : ∀ X, CxOk G B X → ∃ r, OpR X (compareOp op') r ∧ OpJ G r f')
    (ha : JE G B a fa) (hb : JE G B b fb) (hc : JE G B c fc) (hm : lastMarks [op, op'] [b, c] = false) : JT G B (.Compare a [op, op'] [b, c] pos) (eTru (eChain f f' fa fb fc)) :=
  ⟨fun X W ok tk => by
    obtain ⟨r, h1, h2⟩ := ho X ok
    obtain ⟨r', h1', h2'⟩ := ho' X ok
    refine PT.imp (pt_chain h1 h1' (ha.run X W ok tk) (hb.run X W ok tk) (hc.run X W ok tk) hm) fun σ H Q h => ?_
    obtain ⟨S, ρ, hl, hs, he⟩ := h
    refine tE.chain h2 h2' ⟨S, ρ, hl, hs, EndT.then he fun p v H1 S1 e1 l1 g1 r1 he => ?_⟩
    unfold tru at he
    split at he
    · cases r1; exact ⟨_, rfl, he _ (Ext.refl _ _)⟩
    · exact he.elim⟩
theorem oLe : ∀ X, CxOk G B X → ∃ r, OpR X (compareOp .LtE) r ∧ OpJ G r opLe := fun X ok => ⟨_, op_le.or op_le_str, opj_cmp _ _⟩
theorem oLt : ∀ X, CxOk G B X → ∃ r, OpR X (compareOp .Lt) r ∧ OpJ G r opLt := fun X ok => ⟨_, op_lt.or op_lt_str, opj_cmp _ _⟩
/-! ### and, or, not, if -/
def bAnd (f g : Rho → Res Bool) : Rho → Res Bool := fun ρ => (f ρ).bind fun c => if c = true then g ρ else .ok false
def bOr (f g : Rho → Res Bool) : Rho → Res Bool := fun ρ => (f ρ).bind fun c => if c = true then .ok true else g ρ
def bNot (f : Rho → Res Bool) : Rho → Res Bool := fun ρ => (f ρ).bind fun c => .ok (!c)
structure JW (G : Gc) (B : Bx) (e : Expr) (f : Rho → Res Bool) : Prop where
  run : ∀ (X : Cx) (W : WX), CxOk G B X → L2N.Takes X W → PW X e (tT G W f)
theorem PW.imp {X : Cx} {e : Expr} {t u : TT} (h : PW X e t) (i : ∀ σ H Q, u σ H Q → t σ H Q) : PW X e u := ⟨fun w pins s σ H Q I q => h.run w pins s σ H Q I (i σ H Q q)⟩
theorem JW.jt {e : Expr} {f : Rho → Res Bool} (h : JW G B e f) : JT G B e f := ⟨fun X W ok tk => (h.run X W ok tk).pt⟩
theorem JW.and1 {a : Expr} {f : Rho → Res Bool} {pos : Pos} (h : JT G B a f) : JW G B (.BoolOp .And [a] pos) f := ⟨fun X W ok tk => pw_and1 (h.run X W ok tk)⟩
theorem JW.or1 {a : Expr} {f : Rho → Res Bool} {pos : Pos} (h : JT G B a f) : JW G B (.BoolOp .Or [a] pos) f := ⟨fun X W ok tk => pw_or1 (h.run X W ok tk)⟩
theorem JW.and {a b : Expr} {rest : List Expr} {f g : Rho → Res Bool} {pos : Pos} (h : JT G B a f) (h' : JW G B (.BoolOp .And (b :: rest) pos) g) : JW G B (.BoolOp .And (a :: b :: rest) pos) (bAnd f g) := ⟨fun X W ok tk => PW.imp (pw_and (h.run X W ok tk) (h'.run X W ok tk)) fun σ H Q ⟨S, ρ, hl, hs, he⟩ => by
  refine ⟨S, ρ, hl, hs, EndT.thenT hl he fun b H1 e1 l1 he => ?_⟩
  split
  · rename_i z; rw [if_pos z] at he; exact ⟨S, ρ, l1, hs, he⟩
  · rename_i z; rw [if_neg z] at he; exact he _ (Ext.refl _ _)⟩
theorem JW.or {a b : Expr} {rest : List Expr} {f g : Rho → Res Bool} {pos : Pos} (h : JT G B a f) (h' : JW G B (.BoolOp .Or (b :: rest) pos) g) : JW G B (.BoolOp .Or (a :: b :: rest) pos) (bOr f g) := ⟨fun X W ok tk => PW.imp (pw_or (h.run X W ok tk) (h'.run X W ok tk)) fun σ H Q ⟨S, ρ, hl, hs, he⟩ => by
  refine ⟨S, ρ, hl, hs, EndT.thenT hl he fun b H1 e1 l1 he => ?_⟩
  split
  · rename_i z; rw [if_pos z] at he; exact he _ (Ext.refl _ _)
  · rename_i z; rw [if_neg z] at he; exact ⟨S, ρ, l1, hs, he⟩⟩
theorem JT.not {a : Expr} {f : Rho → Res Bool} {pos : Pos} (h : JT G B a f) : JT G B (.UnaryOp .Not a pos) (bNot f) := ⟨fun X W ok tk => PT.imp (pt_not (h.run X W ok tk)) fun σ H Q ⟨S, ρ, hl, hs, he⟩ =>
  ⟨S, ρ, hl, hs, EndT.thenT hl he fun b H1 e1 l1 he => he _ (Ext.refl _ _)⟩⟩
/-- as values, bools -/
def eAnd (f g : Rho → Res PV) : Rho → Res PV := fun ρ => (f ρ).bind fun x => match x with | .bl true => g ρ | .bl false => .ok (.bl false) | _ => .bad
def eOr (f g : Rho → Res PV) : Rho → Res PV := fun ρ => (f ρ).bind fun x => match x with | .bl true => .ok (.bl true) | .bl false => g ρ | _ => .bad
def eNot (f : Rho → Res PV) : Rho → Res PV := fun ρ => (f ρ).bind fun x => match x with | .bl b => .ok (.bl (!b)) | _ => .bad
theorem JE.one {op : BoolOp} {a : Expr} {f : Rho → Res PV} {pos : Pos} (h : JE G B a f) : JE G B (.BoolOp op [a] pos) f := ⟨fun X W ok tk => pe_one (h.run X W ok tk)⟩
theorem JE.and {a b : Expr} {rest : List Expr} {f g : Rho → Res PV} {pos : Pos} (h : JE G B a f) (h' : JE G B (.BoolOp .And (b :: rest) pos) g) : JE G B (.BoolOp .And (a :: b :: rest) pos) (eAnd f g) := ⟨fun X W ok tk => PE.imp (pe_and (h.run X W ok tk) (h'.run X W ok tk)) fun σ H Q ⟨S, ρ, hl, hs, he⟩ => by
  refine ⟨S, ρ, hl, hs, EndE.then he fun p v H1 S1 e1 l1 g1 r1 he => ?_⟩
  split at he
  · cases r1; exact ⟨true, rfl, by rw [if_pos rfl]; exact ⟨S1, ρ, l1, hs.mono g1.sub, he⟩⟩
  · cases r1; exact ⟨false, rfl, by rw [if_neg Bool.false_ne_true]; exact he.here l1 (.bl _)⟩
  · exact he.elim⟩
theorem JE.or {a b : Expr} {rest : List Expr} {f g : Rho → Res PV} {pos : Pos} (h : JE G B a f) (h' : JE G B (.BoolOp .Or (b :: rest) pos) g) : JE G B (.BoolOp .Or (a :: b :: rest) pos) (eOr f g) := ⟨fun X W ok tk => PE.imp (pe_or (h.run X W ok tk) (h'.run X W ok tk)) fun σ H Q ⟨S, ρ, hl, hs, he⟩ => by
  refine ⟨S, ρ, hl, hs, EndE.then he fun p v H1 S1 e1 l1 g1 r1 he => ?_⟩
  split at he
  · cases r1; exact ⟨true, rfl, by rw [if_pos rfl]; exact he.here l1 (.bl _)⟩
  · cases r1; exact ⟨false, rfl, by rw [if_neg Bool.false_ne_true]; exact ⟨S1, ρ, l1, hs.mono g1.sub, he⟩⟩
  · exact he.elim⟩
theorem JE.not {a : Expr} {f : Rho → Res PV} {pos : Pos} (h : JE G B a f) : JE G B (.UnaryOp .Not a pos) (eNot f) := ⟨fun X W ok tk => PE.imp (pe_not (h.run X W ok tk)) fun σ H Q ⟨S, ρ, hl, hs, he⟩ => by
  refine ⟨S, ρ, hl, hs, EndE.then he fun p v H1 S1 e1 l1 g1 r1 he => ?_⟩
  split at he
  · cases r1; exact ⟨_, rfl, he.here l1 (.bl _)⟩
  · exact he.elim⟩
def eIf (c : Rho → Res Bool) (f g : Rho → Res PV) : Rho → Res PV := fun ρ => (c ρ).bind fun b => if b = true then f ρ else g ρ
theorem JE.ifx {c a b : Expr} {fc : Rho → Res Bool} {f g : Rho → Res PV} {pos : Pos} (hc : JT G B c fc) (ha : JE G B a f) (hb : JE G B b g) : JE G B (.IfExp c a b pos) (eIf fc f g) := ⟨fun X W ok tk => PE.imp (pe_ifExp (hc.run X W ok tk) (ha.run X W ok tk) (hb.run X W ok tk)) fun σ H Q ⟨S, ρ, hl, hs, he⟩ => by
  refine ⟨S, ρ, hl, hs, EndE.thenT hl he fun b H1 e1 l1 he => ?_⟩
  split
  · rename_i z; rw [if_pos z] at he; exact ⟨S, ρ, l1, hs, he⟩
  · rename_i z; rw [if_neg z] at he; exact ⟨S, ρ, l1, hs, he⟩⟩
def eNeg (f : Rho → Res PV) : Rho → Res PV := fun ρ => (f ρ).bind fun x => match x with | .int i => .ok (.int (-i)) | _ => .bad
theorem JE.neg {a : Expr} {f : Rho → Res PV} {pos : Pos} (h : JE G B a f) : JE G B (.UnaryOp .USub a pos) (eNeg f) := ⟨fun X W ok tk => PE.imp (pe_un un_neg (h.run X W ok tk)) fun σ H Q ⟨S, ρ, hl, hs, he⟩ => by
  refine ⟨S, ρ, hl, hs, EndE.then he fun p v H1 S1 e1 l1 g1 r1 he => ?_⟩
  split at he
  · cases r1; exact ⟨_, rfl, he.here l1 (.int _)⟩
  · exact he.elim⟩
/-! ### arguments, displays -/
def aNil : Rho → Res (List PV) := fun _ => .ok []
def aCons (f : Rho → Res PV) (g : Rho → Res (List PV)) : Rho → Res (List PV) := fun ρ => (f ρ).bind fun x => (g ρ).bind fun xs => .ok (x :: xs)
theorem JA.nil : JA G B [] aNil := ⟨fun X W ok tk => PA.imp pa_nil fun σ H Q ⟨S, ρ, hl, hs, he⟩ => he _ _ S (Ext.refl _ _) hl (Grow.refl _ _) .nil, fun _ _ => rfl, fun ρ qs e => by unfold aNil at e; cases e; rfl⟩
theorem EndA.then {G : Gc} {W : WX} {S H : Hp} {σ : L2.St} {Q : List V → Hp → Prop} {R : VK} {r : Res PV} {g : PV → Res (List PV)} (he : EndA G W S H σ Q (r.bind g))
    (k : ∀ p v H1 S1, Ext G.T H H1 → Le G.T S1 H1 → Grow H S S1 → Rp S1 v p → EndA G W S1 H1 σ Q (g p) → R v H1) : EndE G W S H σ R r := by
  cases r with
  | ok p => exact fun v H' S' e1 l1 g1 r1 => k p v H' S' e1 l1 g1 r1 (by
      cases e : g p with
      | ok q => rw [Res.bind, e] at he; exact fun v2 H2 S2 e2 l2 g2 r2 => he v2 H2 S2 (e1.trans e2) l2 (g1.trans e1 g2) r2
      | exc c => rw [Res.bind, e] at he; exact fun C H2 hC e2 => he C H2 hC (e1.trans e2)
      | bad => rw [Res.bind, e] at he; exact he)
  | exc c => exact he
  | bad => exact he
theorem EndA.thenA {G : Gc} {W : WX} {S H : Hp} {σ : L2.St} {Q R : List V → Hp → Prop} {r : Res (List PV)} {g : List PV → Res (List PV)} (he : EndA G W S H σ Q (r.bind g))
    (k : ∀ p v H1 S1, Ext G.T H H1 → Le G.T S1 H1 → Grow H S S1 → RpL S1 v p → EndA G W S1 H1 σ Q (g p) → R v H1) : EndA G W S H σ R r := by
  cases r with
  | ok p => exact fun v H' S' e1 l1 g1 r1 => k p v H' S' e1 l1 g1 r1 (by
      cases e : g p with
      | ok q => rw [Res.bind, e] at he; exact fun v2 H2 S2 e2 l2 g2 r2 => he v2 H2 S2 (e1.trans e2) l2 (g1.trans e1 g2) r2
      | exc c => rw [Res.bind, e] at he; exact fun C H2 hC e2 => he C H2 hC (e1.trans e2)
      | bad => rw [Res.bind, e] at he; exact he)
  | exc c => exact he
  | bad => exact he
theorem JA.cons {e : Expr} {es : List Expr} {f : Rho → Res PV} {g : Rho → Res (List PV)} (h : JE G B e f) (h' : JA G B es g) (hs : NoStar e := by exact fun _ _ => rfl) : JA G B (e :: es) (aCons f g) :=
  ⟨fun X W ok tk => PA.imp (pa_cons (h.run X W ok tk) (h'.run X W ok tk) (hs _ _)) fun σ H Q ⟨S, ρ, hl, hr, he⟩ => by
    refine ⟨S, ρ, hl, hr, EndA.then he fun p v H1 S1 e1 l1 g1 r1 he => ?_⟩
    refine ⟨S1, ρ, l1, hr.mono g1.sub, EndA.thenA he fun q w H2 S2 e2 l2 g2 r2 he => ?_⟩
    exact he _ _ S2 (Ext.refl _ _) l2 (Grow.refl _ _) (.cons (r1.mono g2.sub) r2),
   fun env pos => by rw [hs]; have z := h'.ns env pos; simp only [backTo, List.map_cons, List.any_cons, Bool.false_or] at z ⊢; exact z,
   fun ρ qs e => by
    unfold aCons at e
    cases e1 : f ρ with
    | ok p =>
      cases e2 : g ρ with
      | ok q => rw [e1, e2] at e; cases e; rw [List.length_cons, List.length_cons, h'.len ρ q e2]
      | exc c => rw [e1, e2] at e; cases e
      | bad => rw [e1, e2] at e; cases e
    | exc c => rw [e1] at e; cases e
    | bad => rw [e1] at e; cases e⟩
end Pv
end
section
set_option Elab.async false
set_option linter.all false
set_option maxRecDepth 100000
set_option maxHeartbeats 2000000
namespace Pv
open PySem PySem.Spec PyProof.Rows L2
variable {G : Gc} {B : Bx}
/-! ### displays: the new object is told apart (JF), or among the rest (JE) -/
/-- a new list, dict: it stands in H' at a, new; S' doesn't have it -/
def EndF (G : Gc) (W : WX) (S H : Hp) (σ : L2.St) (Q : VK) : Res PV → Prop
  | .ok (.lst ps) => ∀ a vs H' S', Ext G.T H H' → Le G.T S' H' → Grow H S S' → S' a = none → H a = none → H' a = some (.lst vs) → RpL S' vs ps → vs.length ≤ sizeLine → Q (.ref a) H'
  | .ok (.dK ks ps) => ∀ a kvs H' S', Ext G.T H H' → Le G.T S' H' → Grow H S S' → S' a = none → H a = none → H' a = some (.dK kvs) → kvs.map (·.1) = ks → RpL S' (kvs.map (·.2)) ps → Q (.ref a) H'
  | .ok (.dT ks ps) => ∀ a kvs H' S', Ext G.T H H' → Le G.T S' H' → Grow H S S' → S' a = none → H a = none → H' a = some (.dT kvs) → kvs.map (·.1) = ks → RpL S' (kvs.map (·.2)) ps → Q (.ref a) H'
  | .ok _ => False
  | .exc c => ∀ C H', G.cls c = some C → Ext G.T H H' → W (.ref C) none σ H'
  | .bad => False
def tF (G : Gc) (W : WX) (f : Rho → Res PV) : TE := fun σ H Q => ∃ S ρ, Le G.T S H ∧ RS S σ ρ ∧ EndF G W S H σ Q (f ρ)
structure JF (G : Gc) (B : Bx) (e : Expr) (f : Rho → Res PV) : Prop where
  run : ∀ (X : Cx) (W : WX), CxOk G B X → L2N.Takes X W → PE X e (tF G W f)
/-- what is handed over as new is a list or a dict -/
def fresh : Res PV → Prop
  | .ok (.lst _) => True
  | .ok (.dK _ _) => True
  | .ok (.dT _ _) => True
  | .ok _ => False
  | _ => True
theorem Le.put {Tb : List (Addr × Str)} {S H : Hp} (h : Le Tb S H) {a : Addr} {o : HO} (e : H a = some o) (n : ∀ ps, o ≠ .tbl ps) (z : SzOk o) : Le Tb (L2.upd S a o) H := by
  refine ⟨fun b u q => ?_, h.tabs, fun b u q => ?_⟩
  · by_cases hb : b = a
    · subst hb; rw [upd_same] at q; cases q; exact .of e n
    · rw [upd_ne hb] at q; exact h b u q
  · by_cases hb : b = a
    · subst hb; rw [upd_same] at q; cases q; exact z
    · rw [upd_ne hb] at q; exact h.sz b u q
theorem Grow.put {H S S' : Hp} (g : Grow H S S') {a : Addr} {o : HO} (e : S' a = none) (n : H a = none) : Grow H S (L2.upd S' a o) := ⟨g.sub.trans (Sub.upd e), fun b u q => by
  by_cases hb : b = a
  · subst hb; exact .inr n
  · rw [upd_ne hb] at q; exact g.new b u q⟩
theorem EndE.toF {W : WX} {S H : Hp} {σ : L2.St} {Q : VK} {r : Res PV} (f : fresh r) (h : EndE G W S H σ Q r) : EndF G W S H σ Q r := by
  unfold EndF
  split
  · intro a vs H' S' e l g n1 n2 ea r z
    exact h _ H' (upd S' a (.lst vs)) e (l.put ea (fun _ z => by cases z) z) (g.put n1 n2) (.lst upd_same (r.mono (Sub.upd n1)))
  · intro a kvs H' S' e l g n1 n2 ea ek r
    subst ek
    exact h _ H' (upd S' a (.dK kvs)) e (l.put ea (fun _ z => by cases z) trivial) (g.put n1 n2) (.dK upd_same (r.mono (Sub.upd n1)))
  · intro a kvs H' S' e l g n1 n2 ea ek r
    subst ek
    exact h _ H' (upd S' a (.dT kvs)) e (l.put ea (fun _ z => by cases z) trivial) (g.put n1 n2) (.dT upd_same (r.mono (Sub.upd n1)))
  · rename_i h1 h2 h3
    unfold fresh at f
    split at f <;> simp_all
  · exact h
  · exact h
theorem JF.je {e : Expr} {f : Rho → Res PV} (h : JF G B e f) (hf : ∀ ρ, fresh (f ρ)) : JE G B e f := ⟨fun X W ok tk => PE.imp (h.run X W ok tk) fun σ H Q ⟨S, ρ, hl, hs, he⟩ => ⟨S, ρ, hl, hs, EndE.toF (hf ρ) he⟩⟩
/-- a part, then a new thing -/
theorem EndF.next {G : Gc} {W : WX} {S H S1 H1 : Hp} {σ : L2.St} {Q : VK} (e : Ext G.T H H1) (g : Grow H S S1) {r : Res PV} (h : EndF G W S H σ Q r) : EndF G W S1 H1 σ Q r := by
  unfold EndF at h ⊢
  split at h
  · exact fun a vs H' S' e' l g' n1 n2 => h a vs H' S' (e.trans e') l (g.trans e g') n1 (e.no a n2)
  · exact fun a vs H' S' e' l g' n1 n2 => h a vs H' S' (e.trans e') l (g.trans e g') n1 (e.no a n2)
  · exact fun a vs H' S' e' l g' n1 n2 => h a vs H' S' (e.trans e') l (g.trans e g') n1 (e.no a n2)
  · exact h.elim
  · exact fun C H' hC e' => h C H' hC (e.trans e')
  · exact h.elim
theorem EndF.then {G : Gc} {W : WX} {S H : Hp} {σ : L2.St} {Q R : VK} {r : Res PV} {g : PV → Res PV} (he : EndF G W S H σ Q (r.bind g))
    (k : ∀ p v H1 S1, Ext G.T H H1 → Le G.T S1 H1 → Grow H S S1 → Rp S1 v p → EndF G W S1 H1 σ Q (g p) → R v H1) : EndE G W S H σ R r := by
  cases r with
  | ok p => exact fun v H' S' e1 l1 g1 r1 => k p v H' S' e1 l1 g1 r1 (EndF.next e1 g1 he)
  | exc c => exact he
  | bad => exact he
theorem EndF.thenA {G : Gc} {W : WX} {S H : Hp} {σ : L2.St} {Q : VK} {R : List V → Hp → Prop} {r : Res (List PV)} {g : List PV → Res PV} (he : EndF G W S H σ Q (r.bind g))
    (k : ∀ p v H1 S1, Ext G.T H H1 → Le G.T S1 H1 → Grow H S S1 → RpL S1 v p → EndF G W S1 H1 σ Q (g p) → R v H1) : EndA G W S H σ R r := by
  cases r with
  | ok p => exact fun v H' S' e1 l1 g1 r1 => k p v H' S' e1 l1 g1 r1 (EndF.next e1 g1 he)
  | exc c => exact he
  | bad => exact he
theorem EndF.lst {W : WX} {S H : Hp} {σ : L2.St} {Q : VK} {vs : List V} {ps : List PV} (h : EndF G W S H σ Q (.ok (.lst ps))) (hl : Le G.T S H) (r : RpL S vs ps) (z : vs.length ≤ sizeLine) {a : Addr} (n : H a = none) : Q (.ref a) (L2.upd H a (.lst vs)) :=
  h a vs _ S (Ext.new n) (hl.ext (Ext.new (T := G.T) n)) (Grow.refl _ _) (hl.emp n) n upd_same r z
theorem EndF.dK {W : WX} {S H : Hp} {σ : L2.St} {Q : VK} {kvs : List (Key × V)} {ps : List PV} (h : EndF G W S H σ Q (.ok (.dK (kvs.map (·.1)) ps))) (hl : Le G.T S H) (r : RpL S (kvs.map (·.2)) ps) {a : Addr} (n : H a = none) : Q (.ref a) (L2.upd H a (.dK kvs)) :=
  h a kvs _ S (Ext.new n) (hl.ext (Ext.new (T := G.T) n)) (Grow.refl _ _) (hl.emp n) n upd_same rfl r
theorem EndF.dT {W : WX} {S H : Hp} {σ : L2.St} {Q : VK} {kvs : List (List Key × V)} {ps : List PV} (h : EndF G W S H σ Q (.ok (.dT (kvs.map (·.1)) ps))) (hl : Le G.T S H) (r : RpL S (kvs.map (·.2)) ps) {a : Addr} (n : H a = none) : Q (.ref a) (L2.upd H a (.dT kvs)) :=
  h a kvs _ S (Ext.new n) (hl.ext (Ext.new (T := G.T) n)) (Grow.refl _ _) (hl.emp n) n upd_same rfl r
def mkLst (xs : List PV) : Res PV := if xs.length ≤ 16777216 then .ok (.lst xs) else .bad
def mkTup (xs : List PV) : Res PV := if xs.length ≤ 16777216 then .ok (.tup xs) else .bad
def eLst (f : Rho → Res (List PV)) : Rho → Res PV := fun ρ => (f ρ).bind mkLst
def eTup (f : Rho → Res (List PV)) : Rho → Res PV := fun ρ => (f ρ).bind mkTup
theorem fresh_bindA {r : Res (List PV)} {g : List PV → Res PV} (h : ∀ x, fresh (g x)) : fresh (r.bind g) := by cases r <;> first | exact h _ | trivial
theorem fresh_bind {r : Res PV} {g : PV → Res PV} (h : ∀ x, fresh (g x)) : fresh (r.bind g) := by cases r <;> first | exact h _ | trivial
theorem fresh_mkLst (xs : List PV) : fresh (mkLst xs) := by unfold mkLst; split <;> trivial
theorem JF.lst {es : List Expr} {f : Rho → Res (List PV)} {pos : Pos} (h : JA G B es f) : JF G B (.List es pos) (eLst f) := ⟨fun X W ok tk => PE.imp (pe_lst (h.run X W ok tk)) fun σ H Q ⟨S, ρ, hl, hs, he⟩ => by
  refine ⟨S, ρ, hl, hs, EndF.thenA he fun p v H1 S1 e1 l1 g1 r1 he => ?_⟩
  unfold mkLst at he
  split at he
  · rename_i z; exact ⟨by rw [szl, r1.length]; exact z, fun a na => he.lst l1 r1 (by rw [szl, r1.length]; exact z) na⟩
  · exact he.elim⟩
theorem JE.lst {es : List Expr} {f : Rho → Res (List PV)} {pos : Pos} (h : JA G B es f) : JE G B (.List es pos) (eLst f) := (JF.lst h).je fun ρ => fresh_bindA fresh_mkLst
theorem JE.tup {es : List Expr} {f : Rho → Res (List PV)} {k : Nat} {pos : Pos} (h : JA G B es f) : JE G B (.Tuple es k pos) (eTup f) := ⟨fun X W ok tk => PE.imp (pe_tup (h.run X W ok tk)) fun σ H Q ⟨S, ρ, hl, hs, he⟩ => by
  refine ⟨S, ρ, hl, hs, EndE.thenA he fun p v H1 S1 e1 l1 g1 r1 he => ?_⟩
  unfold mkTup at he
  split at he
  · rename_i z; exact ⟨by rw [szl, r1.length]; exact z, fun a na => he.tup l1 r1 (by rw [szl, r1.length]; exact z) na⟩
  · exact he.elim⟩
theorem JF.dK0 {pos : Pos} : JF G B (.Dict [] [] pos) (eC (.dK [] [])) := ⟨fun X W ok tk => PE.imp pe_dnewK fun σ H Q ⟨S, ρ, hl, hs, he⟩ a na => EndF.dK (kvs := []) he hl .nil na⟩
theorem JF.dT0 {pos : Pos} : JF G B (.Dict [] [] pos) (eC (.dT [] [])) := ⟨fun X W ok tk => PE.imp pe_dnewT fun σ H Q ⟨S, ρ, hl, hs, he⟩ a na => EndF.dT (kvs := []) he hl .nil na⟩
/-! ### subscripts -/
def ixPV (ps : List PV) (i : Int) : Res PV := match atI ps i with | some p => .ok p | none => .bad
theorem atI_rp {S : Hp} {vs : List V} {ps : List PV} (r : RpL S vs ps) {i : Int} {p : PV} (h : atI ps i = some p) : ∃ v, atI vs i = some v ∧ Rp S v p := by
  unfold atI at h ⊢
  rw [r.length]
  cases e : ixN ps.length i with
  | none => rw [e] at h; cases h
  | some j => rw [e] at h; exact r.get h
def keyOf : PV → Option Key
  | .int i => some (.inl i)
  | .str x => some (.inr x)
  | _ => none
def keysOf : List PV → Option (List Key)
  | [] => some []
  | x :: xs => match keyOf x, keysOf xs with | some k, some ks => some (k :: ks) | _, _ => none
def dLook {κ : Type} [DecidableEq κ] : List κ → List PV → κ → Option PV
  | k' :: ks, v :: vs, k => if k' = k then some v else dLook ks vs k
  | _, _, _ => none
theorem keyOf_rp {S : Hp} {v : V} {p : PV} {k : Key} (h : keyOf p = some k) (r : Rp S v p) : v = kV k := by
  unfold keyOf at h
  split at h <;> cases h <;> cases r <;> rfl
theorem keysOf_rp {S : Hp} : ∀ {vs : List V} {ps : List PV} {ks : List Key}, keysOf ps = some ks → RpL S vs ps → vs = ks.map kV
  | _, [], _, h, .nil => by cases h; rfl
  | _, x :: xs, ks, h, .cons r t => by
    unfold keysOf at h
    split at h
    · rename_i k ks' h1 h2
      cases h
      rw [List.map_cons, keyOf_rp h1 r, keysOf_rp h2 t]
    · cases h
theorem dLook_rp {κ : Type} [DecidableEq κ] {S : Hp} {k : κ} : ∀ {kvs : List (κ × V)} {ps : List PV}, RpL S (kvs.map (·.2)) ps → (∀ p, dLook (kvs.map (·.1)) ps k = some p → ∃ v, valV kvs k = some v ∧ Rp S v p) ∧ (dLook (kvs.map (·.1)) ps k = none → valV kvs k = none)
  | [], _, .nil => ⟨fun p h => by simp [dLook] at h, fun _ => rfl⟩
  | (k', w) :: r, p :: ps, .cons q t => by
    simp only [List.map_cons, dLook]
    by_cases e : k' = k
    · rw [if_pos e]
      exact ⟨fun p' h => by cases h; exact ⟨w, valV_pos (p := (k', w)) e, q⟩, fun h => by cases h⟩
    · rw [if_neg e, valV_neg (p := (k', w)) e]
      exact dLook_rp t
theorem dLook_isSome {κ : Type} [DecidableEq κ] {S : Hp} {k : κ} {kvs : List (κ × V)} {ps : List PV} (r : RpL S (kvs.map (·.2)) ps) : (valV kvs k).isSome = (dLook (kvs.map (·.1)) ps k).isSome := by
  have d := dLook_rp (k := k) r
  cases z : dLook (kvs.map (·.1)) ps k with
  | none => rw [d.2 z] <;> rfl
  | some p => obtain ⟨v', e1, _⟩ := d.1 p z; rw [e1]; rfl
def opIx : PV → PV → Res PV
  | .tup xs, .int i => ixPV xs i
  | .lst xs, .int i => ixPV xs i
  | .scr ns, .int i => match atI ns i with | some n => .ok (.int n) | none => .bad
  | .str x, .int i => if x.length ≤ 16777216 then (match atI x.cps.toList i with | some c => .ok (.str ⟨#[c]⟩) | none => .bad) else .bad
  | .dK ks vs, k => match keyOf k with | some k => (match dLook ks vs k with | some p => .ok p | none => .bad) | none => .bad
  | .dT ks vs, .tup k => match keysOf k with | some k => (match dLook ks vs k with | some p => .ok p | none => .bad) | none => .bad
  | _, _ => .bad
theorem atI_map {α β : Type} (f : α → β) (xs : List α) (i : Int) : atI (xs.map f) i = (atI xs i).map f := by
  unfold atI
  rw [List.length_map]
  cases ixN xs.length i <;> simp
theorem strOk_at {x : Str} (h : PyData.strOk x = true) {i : Int} {c : Nat} (e : atI x.cps.toList i = some c) : PyData.strOk ⟨#[c]⟩ = true := by
  unfold atI at e
  cases q : ixN x.cps.toList.length i with
  | none => rw [q] at e; cases e
  | some j =>
    rw [q] at e
    have e : x.cps.toList[j]? = some c := e
    have hm : c ∈ x.cps.toList := List.mem_of_getElem? e
    unfold PyData.strOk at h ⊢
    have := Array.all_eq_true'.mp h c (by simpa using hm)
    simpa using this
/-- d[y] by the dict's rule -/
def rDG : R2 := fun x y H Q => ∃ a v, x = .ref a ∧ DGet H a y (some v) ∧ Q v H
def isDct : PV → Bool
  | .dK _ _ => true
  | .dT _ _ => true
  | _ => false
theorem opj_dget (W : WX) (S H : Hp) (σ : L2.St) (Q : VK) (v w : V) (p q : PV) (hl : Le G.T S H) (r1 : Rp S v p) (r2 : Rp S w q) (hd : isDct p = true) (he : EndE G W S H σ Q (opIx p q)) : rDG v w H Q := by
  unfold opIx at he
  split at he
  · cases hd
  · cases hd
  · cases hd
  · cases hd
  · split at he
    · rename_i k hk
      split at he
      · rename_i p' hp
        cases r1 with
        | dK ea qa =>
          obtain ⟨v', e1, rv⟩ := (dLook_rp qa).1 _ hp
          exact ⟨_, v', rfl, .inl ⟨_, _, hl _ _ ea, keyOf_rp hk r2, e1.symm⟩, he.here hl rv⟩
      · exact he.elim
    · exact he.elim
  · split at he
    · rename_i k hk
      split at he
      · rename_i p' hp
        cases r1 with
        | dT ea qa =>
          cases r2 with
          | tup eb qb =>
            obtain ⟨v', e1, rv⟩ := (dLook_rp qa).1 _ hp
            exact ⟨_, v', rfl, .inr ⟨_, _, _, hl _ _ ea, rfl, by rw [← keysOf_rp hk qb]; exact hl _ _ eb, e1.symm⟩, he.here hl rv⟩
      · exact he.elim
    · exact he.elim
  · exact he.elim
theorem opj_ix (K : PySem.W.Frag) (W : WX) (S H : Hp) (σ : L2.St) (Q : VK) (v w : V) (p q : PV) (hl : Le G.T S H) (r1 : Rp S v p) (r2 : Rp S w q) (hd : isDct p = false) (he : EndE G W S H σ Q (opIx p q)) : rIx K v w H Q := by
  unfold opIx at he
  split at he
  · rename_i xs i
    unfold ixPV at he
    split at he
    · rename_i p' hp
      cases r2
      cases r1 with | tup ea qa =>
      obtain ⟨v', e1, rv⟩ := atI_rp qa hp
      exact .inr (.inl ⟨_, _, _, v', rfl, rfl, .inl (.inl (hl _ _ ea)), e1, he.here hl rv⟩)
    · exact he.elim
  · rename_i xs i
    unfold ixPV at he
    split at he
    · rename_i p' hp
      cases r2
      cases r1 with | lst ea qa =>
      obtain ⟨v', e1, rv⟩ := atI_rp qa hp
      exact .inl ⟨_, _, _, v', rfl, rfl, .inl (.inl (hl _ _ ea)), e1, he.here hl rv⟩
    · exact he.elim
  · rename_i ns i
    split at he
    · rename_i n hn
      cases r2
      cases r1 with | scr ea =>
      exact .inl ⟨_, _, _, .int n, rfl, rfl, .inl (.inr ⟨_, hl _ _ ea⟩), by rw [atI_map, hn]; rfl, he.here hl (.int n)⟩
    · exact he.elim
  · rename_i x i
    split at he
    · rename_i hz
      split at he
      · rename_i c hc
        cases r2
        cases r1 with | str _ hx =>
        exact .inr (.inr ⟨_, _, c, rfl, rfl, by rw [szl]; exact hz, hc, he.here hl (.str _ (strOk_at hx hc))⟩)
      · exact he.elim
    · exact he.elim
  · cases hd
  · cases hd
  · exact he.elim
theorem PE.or {X : Cx} {e : Expr} {t u : TE} (h : PE X e t) (h' : PE X e u) : PE X e (fun σ H Q => t σ H Q ∨ u σ H Q) := ⟨fun pins s σ H Q I q => q.elim (h.run pins s σ H Q I) (h'.run pins s σ H Q I)⟩
theorem EndE.thenQ {G : Gc} {W : WX} {S H : Hp} {σ : L2.St} {Q R : VK} {r : Res PV} {g : PV → Res PV} (he : EndE G W S H σ Q (r.bind g))
    (k : ∀ p v H1 S1, r = .ok p → Ext G.T H H1 → Le G.T S1 H1 → Grow H S S1 → Rp S1 v p → EndE G W S1 H1 σ Q (g p) → R v H1) : EndE G W S H σ R r := by
  cases r with
  | ok p => exact fun v H' S' e1 l1 g1 r1 => k p v H' S' rfl e1 l1 g1 r1 (EndE.next e1 g1 he)
  | exc c => exact he
  | bad => exact he
def okDct : Res PV → Bool
  | .ok p => isDct p
  | _ => false
theorem JE.ix {a b : Expr} {fa fb : Rho → Res PV} {pos : Pos} (ha : JE G B a fa) (hb : JE G B b fb) (hs : PlainIx b := by exact fun _ _ => rfl) : JE G B (.Subscript a b pos) (eBin opIx fa fb) := ⟨fun X W ok tk => by
  refine PE.imp (PE.or (pe_ix ix_seq (ha.run X W ok tk) (hb.run X W ok tk) hs) (pe_dget (by have := ok.units; omega) (ha.run X W ok tk) (hb.run X W ok tk) hs)) fun σ H Q ⟨S, ρ, hl, hs, he⟩ => ?_
  cases hd : okDct (fa ρ) with
  | true =>
    refine .inr ⟨S, ρ, hl, hs, EndE.thenQ he fun p v H1 S1 ep e1 l1 g1 r1 he => ?_⟩
    refine ⟨S1, ρ, l1, hs.mono g1.sub, EndE.then he fun q w H2 S2 e2 l2 g2 r2 he => ?_⟩
    exact opj_dget W S2 H2 σ Q v w p q l2 (r1.mono g2.sub) r2 (by rw [ep] at hd; exact hd) he
  | false =>
    refine .inl ⟨S, ρ, hl, hs, EndE.thenQ he fun p v H1 S1 ep e1 l1 g1 r1 he => ?_⟩
    refine ⟨S1, ρ, l1, hs.mono g1.sub, EndE.then he fun q w H2 S2 e2 l2 g2 r2 he => ?_⟩
    exact opj_ix X.K W S2 H2 σ Q v w p q l2 (r1.mono g2.sub) r2 (by rw [ep] at hd; exact hd) he⟩
/-! ### in, not in -/
def opIn (neg : Bool) : PV → PV → Res PV
  | p, .lst xs => if (flatOk p && flatOk (.lst xs)) = true then .ok (.bl (xor neg ((toDs xs).any fun z => PyData.eqv z (toD p)))) else .bad
  | p, .tup xs => if (flatOk p && flatOk (.tup xs)) = true then .ok (.bl (xor neg ((toDs xs).any fun z => PyData.eqv z (toD p)))) else .bad
  | .str x, .str y => if x.cps.size = 1 then .ok (.bl (xor neg (decide (x.cps.getD 0 0 ∈ y.cps.toList)))) else .bad
  | k, .dK ks vs => match keyOf k with | some k => .ok (.bl (xor neg (dLook ks vs k).isSome)) | none => .bad
  | .tup k, .dT ks vs => match keysOf k with | some k => .ok (.bl (xor neg (dLook ks vs k).isSome)) | none => .bad
  | _, _ => .bad
def rInT (K : PySem.W.Frag) : R2 := fun x y H Q => ∃ d ds, Dp K H x d ∧ Dp K H y (.tuple ds) ∧ SeqAt.shaped d = true ∧ SeqAt.shaped (.tuple ds) = true ∧ Q (.bl (ds.any fun z => PyData.eqv z d)) H
def rNotInT (K : PySem.W.Frag) : R2 := fun x y H Q => ∃ d ds, Dp K H x d ∧ Dp K H y (.tuple ds) ∧ SeqAt.shaped d = true ∧ SeqAt.shaped (.tuple ds) = true ∧ Q (.bl (!ds.any fun z => PyData.eqv z d)) H
theorem op_inT {X : Cx} (hu : X.A.units + 65 < cLine) : OpR X (compareOp .In) (rInT X.K) := by
  intro pins s σ H x y v u Q I rx ry h
  obtain ⟨d, ds, hd, he, sd, se, q⟩ := h
  obtain ⟨as, r1⟩ := Dp.reads I d x v hd rx
  obtain ⟨bs, r2⟩ := Dp.reads I (.tuple ds) y u he ry
  exact SeqAt.in_tuple_reads r2 r1 (SeqAt.canLay_of_shaped se) (SeqAt.canLay_of_shaped sd) (room_in_shaped sd hu) ⟨.bl _, H, I, rfl, q⟩
theorem op_notInT {X : Cx} (hu : X.A.units + 65 < cLine) : OpR X (compareOp .NotIn) (rNotInT X.K) := by
  intro pins s σ H x y v u Q I rx ry h
  obtain ⟨d, ds, hd, he, sd, se, q⟩ := h
  obtain ⟨as, r1⟩ := Dp.reads I d x v hd rx
  obtain ⟨bs, r2⟩ := Dp.reads I (.tuple ds) y u he ry
  exact SeqAt.notIn_tuple_reads r2 r1 (SeqAt.canLay_of_shaped se) (SeqAt.canLay_of_shaped sd) (room_in_shaped sd hu) ⟨.bl _, H, I, rfl, q⟩
def isStr : PV → Bool
  | .str _ => true
  | _ => false
theorem str1 {x : Str} (h : x.cps.size = 1) : x = ⟨#[x.cps.getD 0 0]⟩ := by
  obtain ⟨⟨l⟩⟩ := x
  match l, h with
  | [c], _ => rfl
theorem opj_in (K : PySem.W.Frag) (W : WX) (S H : Hp) (σ : L2.St) (Q : VK) (v w : V) (p q : PV) (hl : Le G.T S H) (r1 : Rp S v p) (r2 : Rp S w q) (hd : isDct q = false) (he : EndE G W S H σ Q (opIn false p q)) :
    (rInD K v w H Q ∨ rInT K v w H Q ∨ (∃ (c : Nat) (z : Str), v = .str ⟨#[c]⟩ ∧ w = .str z ∧ Q (.bl (decide (c ∈ z.cps.toList))) H)) := by
  unfold opIn at he
  split at he
  · split at he
    · rename_i xs z
      simp only [Bool.and_eq_true] at z
      rw [Bool.false_xor] at he
      exact .inl ⟨_, _, Rp.dp hl _ v (flatOk_hasD z.1) r1, Rp.dp hl _ w (flatOk_hasD z.2) r2, r1.shaped z.1, r2.shaped z.2, he.here hl (.bl _)⟩
    · exact he.elim
  · split at he
    · rename_i xs z
      simp only [Bool.and_eq_true] at z
      rw [Bool.false_xor] at he
      exact .inr (.inl ⟨_, _, Rp.dp hl _ v (flatOk_hasD z.1) r1, Rp.dp hl _ w (flatOk_hasD z.2) r2, r1.shaped z.1, r2.shaped z.2, he.here hl (.bl _)⟩)
    · exact he.elim
  · split at he
    · rename_i x y z
      rw [Bool.false_xor] at he
      cases r1; cases r2
      exact .inr (.inr ⟨_, _, congrArg V.str (str1 z), rfl, he.here hl (.bl _)⟩)
    · exact he.elim
  · cases hd
  · cases hd
  · exact he.elim
theorem opj_notin (K : PySem.W.Frag) (W : WX) (S H : Hp) (σ : L2.St) (Q : VK) (v w : V) (p q : PV) (hl : Le G.T S H) (r1 : Rp S v p) (r2 : Rp S w q) (hd : isDct q = false) (he : EndE G W S H σ Q (opIn true p q)) :
    (rNotInD K v w H Q ∨ rNotInT K v w H Q ∨ (∃ (c : Nat) (z : Str), v = .str ⟨#[c]⟩ ∧ w = .str z ∧ Q (.bl (!decide (c ∈ z.cps.toList))) H)) := by
  unfold opIn at he
  split at he
  · split at he
    · rename_i xs z
      simp only [Bool.and_eq_true] at z
      rw [Bool.true_xor] at he
      exact .inl ⟨_, _, Rp.dp hl _ v (flatOk_hasD z.1) r1, Rp.dp hl _ w (flatOk_hasD z.2) r2, r1.shaped z.1, r2.shaped z.2, he.here hl (.bl _)⟩
    · exact he.elim
  · split at he
    · rename_i xs z
      simp only [Bool.and_eq_true] at z
      rw [Bool.true_xor] at he
      exact .inr (.inl ⟨_, _, Rp.dp hl _ v (flatOk_hasD z.1) r1, Rp.dp hl _ w (flatOk_hasD z.2) r2, r1.shaped z.1, r2.shaped z.2, he.here hl (.bl _)⟩)
    · exact he.elim
  · split at he
    · rename_i x y z
      rw [Bool.true_xor] at he
      cases r1; cases r2
      exact .inr (.inr ⟨_, _, congrArg V.str (str1 z), rfl, he.here hl (.bl _)⟩)
    · exact he.elim
  · cases hd
  · cases hd
  · exact he.elim
theorem opj_din (neg : Bool) (W : WX) (S H : Hp) (σ : L2.St) (Q : VK) (v w : V) (p q : PV) (hl : Le G.T S H) (r1 : Rp S v p) (r2 : Rp S w q) (hd : isDct q = true) (he : EndE G W S H σ Q (opIn neg p q)) :
    ∃ a o, w = .ref a ∧ DGet H a v o ∧ Q (.bl (xor neg o.isSome)) H := by
  unfold opIn at he
  split at he
  · cases hd
  · cases hd
  · cases hd
  · split at he
    · rename_i k hk
      cases r2 with
      | dK ea qa =>
        refine ⟨_, _, rfl, .inl ⟨_, _, hl _ _ ea, keyOf_rp hk r1, rfl⟩, ?_⟩
        rw [dLook_isSome qa]
        exact he.here hl (.bl _)
    · exact he.elim
  · split at he
    · rename_i k hk
      cases r2 with
      | dT ea qa =>
        cases r1 with
        | tup eb qb =>
          refine ⟨_, _, rfl, .inr ⟨_, _, _, hl _ _ ea, rfl, by rw [← keysOf_rp hk qb]; exact hl _ _ eb, rfl⟩, ?_⟩
          rw [dLook_isSome qa]
          exact he.here hl (.bl _)
    · exact he.elim
  · exact he.elim
theorem JC.in {a b : Expr} {fa fb : Rho → Res PV} (ha : JE G B a fa) (hb : JE G B b fb) : JC G B .In a b (eBin (opIn false) fa fb) := ⟨fun X W ok tk => by
  refine PC.imp (PC.or (pc_op ((op_inD ok.units).or ((op_inT ok.units).or op_in_sign)) (ha.run X W ok tk) (hb.run X W ok tk)) (pc_din (by have := ok.units; omega) (ha.run X W ok tk) (hb.run X W ok tk))) fun σ H Q ⟨S, ρ, hl, hs, he⟩ => ?_
  cases hd : okDct (fb ρ) with
  | true =>
    refine .inr ⟨S, ρ, hl, hs, EndE.then he fun p v H1 S1 e1 l1 g1 r1 he => ?_⟩
    refine ⟨S1, ρ, l1, hs.mono g1.sub, EndE.thenQ he fun q w H2 S2 eq e2 l2 g2 r2 he => ?_⟩
    obtain ⟨a, o, h1, h2, h3⟩ := opj_din false W S2 H2 σ Q v w p q l2 (r1.mono g2.sub) r2 (by rw [eq] at hd; exact hd) he
    exact ⟨a, o, h1, h2, by rw [Bool.false_xor] at h3; exact h3⟩
  | false =>
    refine .inl ⟨S, ρ, hl, hs, EndE.then he fun p v H1 S1 e1 l1 g1 r1 he => ?_⟩
    refine ⟨S1, ρ, l1, hs.mono g1.sub, EndE.thenQ he fun q w H2 S2 eq e2 l2 g2 r2 he => ?_⟩
    exact opj_in X.K W S2 H2 σ Q v w p q l2 (r1.mono g2.sub) r2 (by rw [eq] at hd; exact hd) he⟩
theorem JC.notin {a b : Expr} {fa fb : Rho → Res PV} (ha : JE G B a fa) (hb : JE G B b fb) : JC G B .NotIn a b (eBin (opIn true) fa fb) := ⟨fun X W ok tk => by
  refine PC.imp (PC.or (pc_op ((op_notInD ok.units).or ((op_notInT ok.units).or op_notIn_sign)) (ha.run X W ok tk) (hb.run X W ok tk)) (pc_dnotin (by have := ok.units; omega) (ha.run X W ok tk) (hb.run X W ok tk))) fun σ H Q ⟨S, ρ, hl, hs, he⟩ => ?_
  cases hd : okDct (fb ρ) with
  | true =>
    refine .inr ⟨S, ρ, hl, hs, EndE.then he fun p v H1 S1 e1 l1 g1 r1 he => ?_⟩
    refine ⟨S1, ρ, l1, hs.mono g1.sub, EndE.thenQ he fun q w H2 S2 eq e2 l2 g2 r2 he => ?_⟩
    obtain ⟨a, o, h1, h2, h3⟩ := opj_din true W S2 H2 σ Q v w p q l2 (r1.mono g2.sub) r2 (by rw [eq] at hd; exact hd) he
    exact ⟨a, o, h1, h2, by rw [Bool.true_xor] at h3; exact h3⟩
  | false =>
    refine .inl ⟨S, ρ, hl, hs, EndE.then he fun p v H1 S1 e1 l1 g1 r1 he => ?_⟩
    refine ⟨S1, ρ, l1, hs.mono g1.sub, EndE.thenQ he fun q w H2 S2 eq e2 l2 g2 r2 he => ?_⟩
    exact opj_notin X.K W S2 H2 σ Q v w p q l2 (r1.mono g2.sub) r2 (by rw [eq] at hd; exact hd) he⟩
/-! ### slices -/
def cut (xs : List PV) (lo hi : Option Int) : List PV := (xs.drop (HT.sIx xs.length 0 lo)).take (HT.sIx xs.length xs.length hi - HT.sIx xs.length 0 lo)
theorem cutV_len (xs : List V) (lo hi : Option Int) : (cutV xs lo hi).length ≤ xs.length := by
  unfold cutV
  rw [List.length_take, List.length_drop]; omega
theorem cut_rp {S : Hp} {vs : List V} {ps : List PV} (r : RpL S vs ps) (lo hi : Option Int) : RpL S (cutV vs lo hi) (cut ps lo hi) := by
  unfold cutV cut
  rw [r.length]
  exact (r.drop _).take _
def slPV (lo hi : Option Int) : PV → Res PV
  | .tup xs => .ok (.tup (cut xs lo hi))
  | .lst xs => .ok (.lst (cut xs lo hi))
  | .str x => if x.length ≤ 16777216 then .ok (.str (cutS x lo hi)) else .bad
  | _ => .bad
def sPart (f : Rho → Res PV) : Rho → Res (Option Int) := fun ρ => match f ρ with | .ok (.int i) => .ok (some i) | .exc c => .exc c | _ => .bad
def sNone : Rho → Res (Option Int) := fun _ => .ok none
def EndO (G : Gc) (W : WX) (S H : Hp) (σ : L2.St) (Q : Option Int → Hp → Prop) : Res (Option Int) → Prop
  | .ok p => ∀ H' S', Ext G.T H H' → Le G.T S' H' → Grow H S S' → Q p H'
  | .exc c => ∀ C H', G.cls c = some C → Ext G.T H H' → W (.ref C) none σ H'
  | .bad => False
def tO (G : Gc) (W : WX) (f : Rho → Res (Option Int)) : TO := fun σ H Q => ∃ S ρ, Le G.T S H ∧ RS S σ ρ ∧ EndO G W S H σ Q (f ρ)
structure JO (G : Gc) (B : Bx) (e : Option Expr) (f : Rho → Res (Option Int)) : Prop where
  run : ∀ (X : Cx) (W : WX), CxOk G B X → L2N.Takes X W → PO X e (tO G W f)
theorem PO.imp {X : Cx} {e : Option Expr} {t u : TO} (h : PO X e t) (i : ∀ σ H Q, u σ H Q → t σ H Q) : PO X e u := ⟨fun pins s σ H Q I q => h.run pins s σ H Q I (i σ H Q q)⟩
theorem JO.none : JO G B none sNone := ⟨fun X W ok tk => PO.imp po_none fun σ H Q ⟨S, ρ, hl, hs, he⟩ => he H S (Ext.refl _ _) hl (Grow.refl _ _)⟩
theorem JO.some {e : Expr} {f : Rho → Res PV} (h : JE G B e f) : JO G B (some e) (sPart f) := ⟨fun X W ok tk => PO.imp (po_some (h.run X W ok tk)) fun σ H Q ⟨S, ρ, hl, hs, he⟩ => by
  refine ⟨S, ρ, hl, hs, ?_⟩
  unfold sPart at he
  cases e : f ρ with
  | ok p =>
    rw [e] at he
    cases p <;> first | exact he.elim | skip
    intro v H' S' e1 l1 g1 r1
    cases r1
    exact ⟨_, rfl, he H' S' e1 l1 g1⟩
  | exc c => rw [e] at he; exact he
  | bad => rw [e] at he; exact he.elim⟩
def eSl (f : Rho → Res PV) (l h : Rho → Res (Option Int)) : Rho → Res PV := fun ρ => (f ρ).bind fun x => (l ρ).bind fun lo => (h ρ).bind fun hi => slPV lo hi x
theorem EndE.thenO {G : Gc} {W : WX} {S H : Hp} {σ : L2.St} {Q : VK} {R : Option Int → Hp → Prop} {r : Res (Option Int)} {g : Option Int → Res PV} (he : EndE G W S H σ Q (r.bind g))
    (k : ∀ p H1 S1, Ext G.T H H1 → Le G.T S1 H1 → Grow H S S1 → EndE G W S1 H1 σ Q (g p) → R p H1) : EndO G W S H σ R r := by
  cases r with
  | ok p => exact fun H' S' e1 l1 g1 => k p H' S' e1 l1 g1 (EndE.next e1 g1 he)
  | exc c => exact he
  | bad => exact he
theorem strOk_cut {x : Str} (h : PyData.strOk x = true) (lo hi : Option Int) : PyData.strOk (cutS x lo hi) = true := by
  unfold PyData.strOk at h ⊢
  refine Array.all_eq_true'.mpr fun c hc => Array.all_eq_true'.mp h c ?_
  unfold cutS at hc
  simp only [List.mem_toArray] at hc
  exact Array.mem_toList_iff.mp (List.mem_of_mem_drop (List.mem_of_mem_take hc))
theorem cut_whole {xs : List PV} {lo hi : Option Int} (h : HT.sIx xs.length 0 lo = 0 ∧ HT.sIx xs.length xs.length hi = xs.length) : cut xs lo hi = xs := by
  unfold cut
  rw [h.1, h.2]
  simp
theorem JE.sl {a : Expr} {lo hi : Option Expr} {f : Rho → Res PV} {l h : Rho → Res (Option Int)} {p2 pos : Pos} (ha : JE G B a f) (h1 : JO G B lo l) (h2 : JO G B hi h) : JE G B (.Subscript a (.Slice lo hi none p2) pos) (eSl f l h) := ⟨fun X W ok tk => by
  refine PE.imp (pe_slice (sl_list.or (sl_tupA.or sl_str)) (ha.run X W ok tk) (h1.run X W ok tk) (h2.run X W ok tk)) fun σ H Q ⟨S, ρ, hl, hs, he⟩ => ?_
  refine ⟨S, ρ, hl, hs, EndE.then he fun p v H1 S1 e1 l1 g1 r1 he => ?_⟩
  refine ⟨S1, ρ, l1, hs.mono g1.sub, EndE.thenO he fun o1 H2 S2 e2 l2 g2 he => ?_⟩
  refine ⟨S2, ρ, l2, (hs.mono g1.sub).mono g2.sub, EndE.thenO he fun o2 H3 S3 e3 l3 g3 he => ?_⟩
  have r := r1.mono (g2.sub.trans g3.sub)
  unfold slPV at he
  split at he
  · cases r with | tup ea qa =>
    refine .inr (.inl ⟨_, _, rfl, .inl (.inl (l3 _ _ ea)), fun z => he.here l3 ?_, fun _ a na => he.tup l3 (cut_rp qa _ _) (Nat.le_trans (cutV_len _ _ _) (l3.sz _ _ ea)) na⟩)
    rw [qa.length] at z
    rw [cut_whole z]
    exact .tup ea qa
  · cases r with | lst ea qa => exact .inl ⟨_, _, rfl, .inl (.inl (l3 _ _ ea)), fun a na => he.lst l3 (cut_rp qa _ _) (Nat.le_trans (cutV_len _ _ _) (l3.sz _ _ ea)) na⟩
  · split at he
    · rename_i z
      cases r with | str _ hx => exact .inr (.inr ⟨_, rfl, by rw [szl]; exact z, he.here l3 (.str _ (strOk_cut hx _ _))⟩)
    · exact he.elim
  · exact he.elim⟩
def revPV : PV → Res PV
  | .lst xs => .ok (.lst xs.reverse)
  | _ => .bad
def eRev (f : Rho → Res PV) : Rho → Res PV := fun ρ => (f ρ).bind revPV
theorem JE.revL {a : Expr} {f : Rho → Res PV} {k : Nat} {p1 p2 p3 pos : Pos} (ha : JE G B a f) : JE G B (.Subscript a (.Slice none none (some (.UnaryOp .USub (.Constant (.int 1) k p1) p2)) p3) pos) (eRev f) := ⟨fun X W ok tk => PE.imp (pe_revL (ha.run X W ok tk)) fun σ H Q ⟨S, ρ, hl, hs, he⟩ => by
  refine ⟨S, ρ, hl, hs, EndE.then he fun p v H1 S1 e1 l1 g1 r1 he => ?_⟩
  unfold revPV at he
  split at he
  · cases r1 with | lst ea qa => exact ⟨_, _, rfl, .inl (.inl (l1 _ _ ea)), fun a na => he.lst l1 qa.reverse (by rw [List.length_reverse]; exact l1.sz _ _ ea) na⟩
  · exact he.elim⟩
end Pv
end
section
set_option Elab.async false
set_option linter.all false
set_option maxRecDepth 100000
set_option maxHeartbeats 2000000
namespace Pv
open PySem PySem.Spec PyProof.Rows L2
variable {G : Gc} {B : Bx}
/-! ### built-ins by their names -/
def Gb (B : Bx) (x : Str) : Prop := B.sc.names.lookup x = some .globalImplicit
def CallJ (G : Gc) (r : List V → Hp → VK → Prop) (m : List PV → Res PV) : Prop := ∀ (W : WX) (S H : Hp) (σ : L2.St) (Q : VK) (vs : List V) (ps : List PV), Le G.T S H → RpL S vs ps → EndE G W S H σ Q (m ps) → r vs H Q
def eCall (m : List PV → Res PV) (fa : Rho → Res (List PV)) : Rho → Res PV := fun ρ => (fa ρ).bind m
theorem CallR.or {X : Cx} {f : Value} {r r' : List V → Hp → VK → Prop} (h : CallR X f r) (h' : CallR X f r') : CallR X f (fun xs H Q => r xs H Q ∨ r' xs H Q) := fun pins s σ H xs us Q I rr q => q.elim (h pins s σ H xs us Q I rr) (h' pins s σ H xs us Q I rr)
theorem tE.call {W : WX} {fa : Rho → Res (List PV)} {m : List PV → Res PV} {r : List V → Hp → VK → Prop} (c : CallJ G r m) {σ : L2.St} {H : Hp} {Q : VK} (h : tE G W (eCall m fa) σ H Q) : tCB r (tA G W fa) σ H Q := by
  obtain ⟨S, ρ, hl, hs, he⟩ := h
  exact ⟨S, ρ, hl, hs, EndE.thenA he fun p v H1 S1 e1 l1 g1 r1 he => c W S1 H1 σ Q v p l1 r1 he⟩
theorem JE.blt {x : Str} {id : String} {e : Expr} {es : List Expr} {m : List PV → Res PV} {fa : Rho → Res (List PV)} {p pos : Pos} (hc : ∀ X, CxOk G B X → ∃ r, CallR X (.builtin id) r ∧ CallJ G r m) (hg : Gb B x) (hm : G.mg x = none) (hv : bootBuiltins x = some (.builtin id)) (ha : JA G B (e :: es) fa)
    (hn : x ≠ "__name__" := by decide) (hdb : (x == ("__debug__" : Str)) = false := by decide) (hs : NoStar e := by exact fun _ _ => rfl) (hns : ∀ env pos, (backTo pos (starEach es env)).any (·.1) = false := by exact fun _ _ => rfl) : JE G B (.Call (.Name x p) (e :: es) [] pos) (eCall m fa) := ⟨fun X W ok tk => by
  obtain ⟨r, h1, h2⟩ := hc X ok
  exact PE.imp (pe_callB h1 (show X.env.scope.names.lookup x = _ by rw [ok.sc]; exact hg) (by rw [ok.mg]; exact hm) hv (ha.run X W ok tk) hn hdb (hs _ _) (hns _ _)) fun σ H Q h => tE.call h2 h⟩
theorem JE.bty {x : Str} {T : String} {e : Expr} {es : List Expr} {m : List PV → Res PV} {fa : Rho → Res (List PV)} {p pos : Pos} (hc : ∀ X, CxOk G B X → ∃ r, CallR X (.type T) r ∧ CallJ G r m) (hg : Gb B x) (hm : G.mg x = none) (hv : bootBuiltins x = some (.type T)) (ha : JA G B (e :: es) fa)
    (hn : x ≠ "__name__" := by decide) (hdb : (x == ("__debug__" : Str)) = false := by decide) (hs : NoStar e := by exact fun _ _ => rfl) (hns : ∀ env pos, (backTo pos (starEach es env)).any (·.1) = false := by exact fun _ _ => rfl) : JE G B (.Call (.Name x p) (e :: es) [] pos) (eCall m fa) := ⟨fun X W ok tk => by
  obtain ⟨r, h1, h2⟩ := hc X ok
  exact PE.imp (pe_callTy h1 (show X.env.scope.names.lookup x = _ by rw [ok.sc]; exact hg) (by rw [ok.mg]; exact hm) hv (ha.run X W ok tk) hn hdb (hs _ _) (hns _ _)) fun σ H Q h => tE.call h2 h⟩
/-! len -/
def bLen : List PV → Res PV
  | [.tup xs] => .ok (.int xs.length)
  | [.lst xs] => .ok (.int xs.length)
  | [.scr ns] => .ok (.int ns.length)
  | [.str x] => if x.length ≤ 16777216 then .ok (.int x.length) else .bad
  | [.dK ks vs] => .ok (.int vs.length)
  | _ => .bad
theorem call_lenR {X : Cx} : CallR X (.builtin "len") (fun xs H Q => ∃ a kvs, xs = [V.ref a] ∧ Rd H a (.dK kvs) ∧ Q (.int kvs.length) H) := by
  intro pins s σ H xs us Q I r h
  obtain ⟨a, kvs, rfl, ha, q⟩ := h
  obtain ⟨u, rfl, ru⟩ := vals1 r
  cases ru
  exact d_len I ha fun t s' I' => ⟨.int kvs.length, H, I', ⟨t, rfl⟩, q⟩
theorem RpL.one {S : Hp} {vs : List V} {p : PV} (r : RpL S vs [p]) : ∃ v, vs = [v] ∧ Rp S v p := by
  cases r with | cons a b => cases b; exact ⟨_, rfl, a⟩
theorem RpL.two {S : Hp} {vs : List V} {p q : PV} (r : RpL S vs [p, q]) : ∃ v w, vs = [v, w] ∧ Rp S v p ∧ Rp S w q := by
  cases r with | cons a b => cases b with | cons c d => cases d; exact ⟨_, _, rfl, a, c⟩
theorem cj_len (K : PySem.W.Frag) : CallJ G (fun xs H Q => (∃ x n, xs = [x] ∧ LenV K x H n ∧ Q (.int n) H) ∨ (∃ a kvs, xs = [V.ref a] ∧ Rd H a (.dK kvs) ∧ Q (.int kvs.length) H)) bLen := by
  intro W S H σ Q vs ps hl r he
  unfold bLen at he
  split at he
  · obtain ⟨v, rfl, rv⟩ := r.one
    cases rv with | tup ea qa => exact .inl ⟨_, _, rfl, .inr ⟨_, .inl (.inl (hl _ _ ea)), rfl⟩, by rw [qa.length]; exact he.here hl (.int _)⟩
  · obtain ⟨v, rfl, rv⟩ := r.one
    cases rv with | lst ea qa => exact .inl ⟨_, _, rfl, .inl ⟨_, .inl (.inl (hl _ _ ea)), rfl⟩, by rw [qa.length]; exact he.here hl (.int _)⟩
  · obtain ⟨v, rfl, rv⟩ := r.one
    cases rv with | scr ea => exact .inl ⟨_, _, rfl, .inl ⟨_, .inl (.inr ⟨_, hl _ _ ea⟩), rfl⟩, by rw [List.length_map]; exact he.here hl (.int _)⟩
  · obtain ⟨v, rfl, rv⟩ := r.one
    split at he
    · rename_i z; cases rv; exact .inl ⟨_, _, rfl, ⟨by rw [szl]; exact z, rfl⟩, he.here hl (.int _)⟩
    · exact he.elim
  · obtain ⟨v, rfl, rv⟩ := r.one
    cases rv with | dK ea qa =>
    refine .inr ⟨_, _, rfl, hl _ _ ea, ?_⟩
    have e := qa.length
    rw [List.length_map] at e
    rw [e]
    exact he.here hl (.int _)
  · exact he.elim
theorem JE.len {a : Expr} {f : Rho → Res PV} {p pos : Pos} (hg : Gb B "len") (hm : G.mg "len" = none) (ha : JE G B a f) (hs : NoStar a := by exact fun _ _ => rfl) : JE G B (.Call (.Name "len" p) [a] [] pos) (eCall bLen (aCons f aNil)) :=
  JE.blt (fun X ok => ⟨_, CallR.or call_len call_lenR, cj_len X.K⟩) hg hm PySem.boot_len (JA.cons ha JA.nil hs) (hs := hs)
/-! all, any, sum -/
def boolsOf : List PV → Option (List Bool)
  | [] => some []
  | .bl b :: xs => (boolsOf xs).map (b :: ·)
  | _ => none
def intsOf : List PV → Option (List Int)
  | [] => some []
  | .int b :: xs => (intsOf xs).map (b :: ·)
  | _ => none
theorem boolsOf_rp {S : Hp} : ∀ {ps : List PV} {bs : List Bool} {vs : List V}, boolsOf ps = some bs → RpL S vs ps → vs = bs.map V.bl
  | [], _, _, h, .nil => by cases h; rfl
  | p :: ps, bs, _, h, .cons r t => by
    unfold boolsOf at h
    split at h
    · rename_i e; cases e
    · rename_i e
      cases e
      simp only [Option.map_eq_some_iff] at h
      obtain ⟨cs, h1, rfl⟩ := h
      cases r
      rw [boolsOf_rp h1 t]; rfl
    · cases h
theorem intsOf_rp {S : Hp} : ∀ {ps : List PV} {bs : List Int} {vs : List V}, intsOf ps = some bs → RpL S vs ps → vs = bs.map V.int
  | [], _, _, h, .nil => by cases h; rfl
  | p :: ps, bs, _, h, .cons r t => by
    unfold intsOf at h
    split at h
    · rename_i e; cases e
    · rename_i e
      cases e
      simp only [Option.map_eq_some_iff] at h
      obtain ⟨cs, h1, rfl⟩ := h
      cases r
      rw [intsOf_rp h1 t]; rfl
    · cases h
def bAll : List PV → Res PV
  | [.lst xs] => match boolsOf xs with | some bs => .ok (.bl (bs.all id)) | none => .bad
  | _ => .bad
def bAny : List PV → Res PV
  | [.lst xs] => match boolsOf xs with | some bs => .ok (.bl (bs.any id)) | none => .bad
  | _ => .bad
def bSum : List PV → Res PV
  | [.lst xs] => match intsOf xs with | some bs => .ok (.int bs.sum) | none => .bad
  | [.tup xs] => match intsOf xs with | some bs => .ok (.int bs.sum) | none => .bad
  | _ => .bad
theorem JE.all [hcm : Cool B] {a : Expr} {f : Rho → Res PV} {p pos : Pos} (hg : Gb B "all") (hm : G.mg "all" = none) (ha : JE G B a f) (hs : NoStar a := by exact fun _ _ => rfl) : JE G B (.Call (.Name "all" p) [a] [] pos) (eCall bAll (aCons f aNil)) :=
  JE.blt (fun X ok => ⟨_, cr_all (ok.calm hcm.out), by
    intro W S H σ Q vs ps hl r he
    unfold bAll at he
    split at he
    · split at he
      · rename_i bs hb
        obtain ⟨v, rfl, rv⟩ := r.one
        cases rv with | lst ea qa => rw [boolsOf_rp hb qa] at ea; exact ⟨_, _, rfl, .inl (.inl (hl _ _ ea)), he.here hl (.bl _)⟩
      · exact he.elim
    · exact he.elim⟩) hg hm (by decide +kernel) (JA.cons ha JA.nil hs) (hs := hs)
theorem JE.any [hcm : Cool B] {a : Expr} {f : Rho → Res PV} {p pos : Pos} (hg : Gb B "any") (hm : G.mg "any" = none) (ha : JE G B a f) (hs : NoStar a := by exact fun _ _ => rfl) : JE G B (.Call (.Name "any" p) [a] [] pos) (eCall bAny (aCons f aNil)) :=
  JE.blt (fun X ok => ⟨_, cr_any (ok.calm hcm.out), by
    intro W S H σ Q vs ps hl r he
    unfold bAny at he
    split at he
    · split at he
      · rename_i bs hb
        obtain ⟨v, rfl, rv⟩ := r.one
        cases rv with | lst ea qa => rw [boolsOf_rp hb qa] at ea; exact ⟨_, _, rfl, .inl (.inl (hl _ _ ea)), he.here hl (.bl _)⟩
      · exact he.elim
    · exact he.elim⟩) hg hm (by decide +kernel) (JA.cons ha JA.nil hs) (hs := hs)
theorem cr_sumT {X : Cx} (hc : X.calm = true) : CallR X (.builtin "sum") (fun vs H Q => ∃ (a : Addr) (ns : List Int), vs = [V.ref a] ∧ SqT X.K H a (ns.map V.int) ∧ Q (.int ns.sum) H) := by
  intro pins s σ H vs us Q I r h
  obtain ⟨a, ns, rfl, hs, q⟩ := h
  obtain ⟨its, rv, hl, _⟩ := I.tuple hs
  rw [Vals.ref1 r]
  obtain ⟨xs, e⟩ := rv.ints.allInts.items
  have hn : numsOf (intItems xs).toList = ns := by rw [← e]; exact rv.ints.numsOf
  rw [nums_intItems] at hn
  have hl : s.heap.IsTuple a its.toArray := hl
  rw [e] at hl
  refine PySem.W.ktm_sumG (I.ok.hd hc) hl fun h' tk t' hk => ?_
  rw [preSum_eq, List.take_of_length_le (by simp), hn]
  exact ⟨.int _, H, I.kept hk, ⟨_, rfl⟩, q⟩
theorem JE.sum [hcm : Cool B] {a : Expr} {f : Rho → Res PV} {p pos : Pos} (hg : Gb B "sum") (hm : G.mg "sum" = none) (ha : JE G B a f) (hs : NoStar a := by exact fun _ _ => rfl) : JE G B (.Call (.Name "sum" p) [a] [] pos) (eCall bSum (aCons f aNil)) :=
  JE.blt (fun X ok => ⟨_, CallR.or (cr_sum (ok.calm hcm.out)) (cr_sumT (ok.calm hcm.out)), by
    intro W S H σ Q vs ps hl r he
    unfold bSum at he
    split at he
    · split at he
      · rename_i bs hb
        obtain ⟨v, rfl, rv⟩ := r.one
        cases rv with | lst ea qa => rw [intsOf_rp hb qa] at ea; exact .inl ⟨_, _, rfl, .inl (.inl (hl _ _ ea)), he.here hl (.int _)⟩
      · exact he.elim
    · split at he
      · rename_i bs hb
        obtain ⟨v, rfl, rv⟩ := r.one
        cases rv with | tup ea qa => rw [intsOf_rp hb qa] at ea; exact .inr ⟨_, _, rfl, .inl (.inl (hl _ _ ea)), he.here hl (.int _)⟩
      · exact he.elim
    · exact he.elim⟩) hg hm (by decide +kernel) (JA.cons ha JA.nil hs) (hs := hs)
/-! list, tuple -/
def bList : List PV → Res PV
  | [.lst xs] => .ok (.lst xs)
  | [.tup xs] => .ok (.lst xs)
  | _ => .bad
def bTuple : List PV → Res PV
  | [.lst xs] => .ok (.tup xs)
  | [.tup xs] => .ok (.tup xs)
  | _ => .bad
theorem JE.list {a : Expr} {f : Rho → Res PV} {p pos : Pos} (hg : Gb B "list") (hm : G.mg "list" = none) (ha : JE G B a f) (hs : NoStar a := by exact fun _ _ => rfl) : JE G B (.Call (.Name "list" p) [a] [] pos) (eCall bList (aCons f aNil)) :=
  JE.bty (fun X ok => ⟨_, call_list_of, by
    intro W S H σ Q vs ps hl r he
    unfold bList at he
    split at he
    · obtain ⟨v, rfl, rv⟩ := r.one
      cases rv with | lst ea qa => exact ⟨_, _, rfl, .inl (.inl (.inl (hl _ _ ea))), fun a na => he.lst hl qa (hl.sz _ _ ea) na⟩
    · obtain ⟨v, rfl, rv⟩ := r.one
      cases rv with | tup ea qa => exact ⟨_, _, rfl, .inr (.inl (.inl (hl _ _ ea))), fun a na => he.lst hl qa (hl.sz _ _ ea) na⟩
    · exact he.elim⟩) hg hm (by decide +kernel) (JA.cons ha JA.nil hs) (hs := hs)
theorem JE.tuple {a : Expr} {f : Rho → Res PV} {p pos : Pos} (hg : Gb B "tuple") (hm : G.mg "tuple" = none) (ha : JE G B a f) (hs : NoStar a := by exact fun _ _ => rfl) : JE G B (.Call (.Name "tuple" p) [a] [] pos) (eCall bTuple (aCons f aNil)) :=
  JE.bty (fun X ok => ⟨_, call_tuple_of, by
    intro W S H σ Q vs ps hl r he
    unfold bTuple at he
    split at he
    · obtain ⟨v, rfl, rv⟩ := r.one
      cases rv with | lst ea qa => exact ⟨_, _, rfl, .inl ⟨.inl (.inl (hl _ _ ea)), fun a na => he.tup hl qa (hl.sz _ _ ea) na⟩⟩
    · obtain ⟨v, rfl, rv⟩ := r.one
      cases rv with | tup ea qa => exact ⟨_, _, rfl, .inr ⟨.inl (.inl (hl _ _ ea)), he.here hl (.tup ea qa)⟩⟩
    · exact he.elim⟩) hg hm (by decide +kernel) (JA.cons ha JA.nil hs) (hs := hs)
def bMax2 : List PV → Res PV
  | [.int i, .int j] => .ok (.int (if j > i then j else i))
  | _ => .bad
def bMin2 : List PV → Res PV
  | [.int i, .int j] => .ok (.int (if j < i then j else i))
  | _ => .bad
theorem JE.max2 [hcm : Cool B] {a b : Expr} {f g : Rho → Res PV} {p pos : Pos} (hg : Gb B "max") (hm : G.mg "max" = none) (ha : JE G B a f) (hb : JE G B b g) (hs : NoStar a := by exact fun _ _ => rfl) (hs' : NoStar b := by exact fun _ _ => rfl) : JE G B (.Call (.Name "max" p) [a, b] [] pos) (eCall bMax2 (aCons f (aCons g aNil))) :=
  JE.blt (fun X ok => ⟨_, call_max2 (ok.calm hcm.out), by
    intro W S H σ Q vs ps hl r he
    unfold bMax2 at he
    split at he
    · obtain ⟨v, w, rfl, r1, r2⟩ := r.two
      cases r1; cases r2
      exact ⟨_, _, rfl, he.here hl (.int _)⟩
    · exact he.elim⟩) hg hm (by decide +kernel) (JA.cons ha (JA.cons hb JA.nil hs') hs) (hs := hs) (hns := (JA.cons hb JA.nil hs').ns)
theorem JE.min2 [hcm : Cool B] {a b : Expr} {f g : Rho → Res PV} {p pos : Pos} (hg : Gb B "min") (hm : G.mg "min" = none) (ha : JE G B a f) (hb : JE G B b g) (hs : NoStar a := by exact fun _ _ => rfl) (hs' : NoStar b := by exact fun _ _ => rfl) : JE G B (.Call (.Name "min" p) [a, b] [] pos) (eCall bMin2 (aCons f (aCons g aNil))) :=
  JE.blt (fun X ok => ⟨_, call_min2 (ok.calm hcm.out), by
    intro W S H σ Q vs ps hl r he
    unfold bMin2 at he
    split at he
    · obtain ⟨v, w, rfl, r1, r2⟩ := r.two
      cases r1; cases r2
      exact ⟨_, _, rfl, he.here hl (.int _)⟩
    · exact he.elim⟩) hg hm (by decide +kernel) (JA.cons ha (JA.cons hb JA.nil hs') hs) (hs := hs) (hns := (JA.cons hb JA.nil hs').ns)
end Pv
end
section
set_option Elab.async false
set_option linter.all false
set_option maxRecDepth 100000
set_option maxHeartbeats 2000000
namespace Pv
open PySem PySem.Spec PyProof.Rows L2
variable {G : Gc} {B : Bx}
/-! ### a def's promise: it gives m of its arguments -/
def EndC (G : Gc) (S H : Hp) (Q : VK) (E : XK) : Res PV → Prop
  | .ok p => ∀ v H' S', Ext G.T H H' → Le G.T S' H' → Grow H S S' → Rp S' v p → Q v H'
  | .exc c => ∀ C H', G.cls c = some C → Ext G.T H H' → E (.ref C) none H'
  | .bad => False
def spP (G : Gc) (n : Nat) (m : List PV → Res PV) : Sp := fun vs H Q E => vs.length = n ∧ ∃ S ps, Le G.T S H ∧ RpL S vs ps ∧ EndC G S H Q E (m ps)
/-- the def called x, of n parameters, by at most level k -/
structure FnP (G : Gc) (k : Nat) (x : Str) (n : Nat) (m : List PV → Res PV) : Prop where
  ex : ∃ (f : Addr) (fd : FuncData) (ps : List Str), ps.length = n ∧ FnOk G.P G.w G.K G.mg G.base (L2N.CX G.P G.w) k f fd ps (spP G n m) ∧ G.mg x = some (.ref f) ∧ PySem.W.keepIn G.K (.ref f) = true ∧ Binds G.K fd ps []
theorem FnP.mono {j k : Nat} {x : Str} {n : Nat} {m : List PV → Res PV} (F : FnP G j x n m) (h : j ≤ k) : FnP G k x n m := by
  obtain ⟨f, fd, ps, h1, h2, h3⟩ := F.ex
  exact ⟨f, fd, ps, h1, h2.mono h, h3⟩
theorem JE.call [hcm : Cool B] {x : Str} {k : Nat} {n : Nat} {m : List PV → Res PV} {e : Expr} {es : List Expr} {fa : Rho → Res (List PV)} {p pos : Pos} (F : FnP G k x n m) (hk : k ≤ B.k) (hn : (e :: es).length = n) (hg : Gb B x) (ha : JA G B (e :: es) fa)
    (hdb : (x == ("__debug__" : Str)) = false := by decide) (hs : NoStar e := by exact fun _ _ => rfl) (hns : ∀ env pos, (backTo pos (starEach es env)).any (·.1) = false := by exact fun _ _ => rfl) : JE G B (.Call (.Name x p) (e :: es) [] pos) (eCall m fa) := ⟨fun X W ok tk => by
  obtain ⟨f, fd, ps, h1, h2, h3, h4, h5⟩ := F.ex
  have F' : FnOk X.prog X.w X.K X.mg X.base (L2N.CX X.prog X.w) k f fd ps (spP G n m) := by rw [ok.prog, ok.w, ok.K, ok.mg, ok.base]; exact h2
  refine PE.imp (pe_callS (E := WE W) F' ((ok.room hcm.out).mono hk) (show X.env.scope.names.lookup x = _ by rw [ok.sc]; exact hg) (by rw [ok.mg]; exact h3) (by rw [ok.K]; exact h4) (by rw [ok.K]; exact h5) (fun σ => L2N.passAt tk σ) (ha.run X W ok tk) hdb (hs _ _) (hns _ _)) fun σ H Q ⟨S, ρ, hl, hr, he⟩ => ?_
  refine ⟨S, ρ, hl, hr, ?_⟩
  cases e : fa ρ with
  | ok qs =>
    unfold eCall at he
    rw [e] at he
    intro v H1 S1 e1 l1 g1 r1
    have he : EndE G W S1 H1 σ Q (m qs) := EndE.next e1 g1 he
    refine ⟨?_, S1, qs, l1, r1, ?_⟩
    · rw [r1.length, ha.len ρ qs e, hn]
    · cases q : m qs with
      | ok p => rw [q] at he; exact he
      | exc c => rw [q] at he; exact he
      | bad => rw [q] at he; exact he
  | exc c => unfold eCall at he; rw [e] at he; exact he
  | bad => unfold eCall at he; rw [e] at he; exact he⟩
/-! ### isinstance -/
def tyN : PV → String
  | .non => "NoneType"
  | .bl _ => "bool"
  | .int _ => "int"
  | .str _ => "str"
  | .tup _ => "tuple"
  | .lst _ => "list"
  | .dK _ _ => "dict"
  | .dT _ _ => "dict"
  | .scr _ => "list"
  | .fn _ => "NoneType"
/-- int takes bools, too -/
def isiS (T t : String) : Bool := t == T || (T == "int" && t == "bool")
def isiPV (T : String) (p : PV) : Bool := isiS T (tyN p)
def tyNs : List String := ["NoneType", "bool", "int", "str", "tuple", "list", "dict"]
theorem kit_all : (tyNs.all fun t => (["int", "bool", "str", "tuple", "list"] : List String).all fun T => decide (kitB t T = some (isiS T t))) = true := by decide +kernel
def isDT : PV → Bool
  | .dT _ _ => true
  | .fn _ => true
  | _ => false
def eIsi (T : String) (f : Rho → Res PV) : Rho → Res PV := fun ρ => (f ρ).bind fun p => if isDT p = true then .bad else .ok (.bl (isiPV T p))
theorem tyN_mem (p : PV) : tyN p ∈ tyNs := by cases p <;> simp [tyN, tyNs]
theorem kitB_of (T : String) (hT : T ∈ (["int", "bool", "str", "tuple", "list"] : List String)) (p : PV) : kitB (tyN p) T = some (isiPV T p) :=
  of_decide_eq_true (List.all_eq_true.mp (List.all_eq_true.mp kit_all _ (tyN_mem p)) T hT)
theorem Rp.tyx {K : PySem.W.Frag} {S H : Hp} {v : V} {p : PV} (hl : Le G.T S H) (h : isDT p = false) (r : Rp S v p) : TyX K H v (.type (tyN p)) := by
  cases r with
  | non => exact .base .non
  | bl b => exact .base (.bl b)
  | int i => exact .base (.int i)
  | str x _ => exact .base (.str x)
  | tup e _ => exact .base (.tup (hl _ _ e))
  | lst e _ => exact .base (.lst (hl _ _ e))
  | dK e _ =>
    rcases (show Rd H _ _ from hl _ _ e) with z | ⟨o, z⟩
    · exact .base (.dK z)
    · exact .fDict z
  | dT e _ => cases h
  | scr e => exact .base (.frz (hl _ _ e))
  | fn a => cases h
theorem JE.isi {a : Expr} {f : Rho → Res PV} {T : String} {x : Str} {p p2 pos : Pos} (hT : T ∈ (["int", "bool", "str", "tuple", "list"] : List String)) (hg : Gb B "isinstance") (hm : G.mg "isinstance" = none) (hg2 : Gb B x) (hm2 : G.mg x = none) (hv2 : bootBuiltins x = some (.type T)) (ha : JE G B a f)
    (hn : x ≠ "__name__" := by decide) (hd : (x == ("__debug__" : Str)) = false := by decide) (hs : NoStar a := by exact fun _ _ => rfl) : JE G B (.Call (.Name "isinstance" p) [a, .Name x p2] [] pos) (eIsi T f) := ⟨fun X W ok tk => by
  have pb : PE X (.Name x p2) (tC (.ty T)) := pe_bltn (show X.env.scope.names.lookup x = _ by rw [ok.sc]; exact hg2) (by rw [ok.mg]; exact hm2) hv2 rfl hn hd
  refine PE.imp (pe_callB call_isi (show X.env.scope.names.lookup ("isinstance" : Str) = _ by rw [ok.sc]; exact hg) (by rw [ok.mg]; exact hm) (by decide +kernel) (pa_cons (ha.run X W ok tk) (pa_cons pb pa_nil) (hs _ _)) (by decide) (by decide) (hs _ _) rfl) fun σ H Q ⟨S, ρ, hl, hr, he⟩ => ?_
  refine ⟨S, ρ, hl, hr, EndE.then he fun q v H1 S1 e1 l1 g1 r1 he => ?_⟩
  split at he
  · exact he.elim
  · rename_i z
    exact ⟨v, .ty T, _, _, _, rfl, .ty T, r1.tyx l1 (by simpa using z), kit_ty (kitB_of T hT q), he.here l1 (.bl _)⟩⟩
end Pv
end
section
set_option Elab.async false
set_option linter.all false
set_option maxRecDepth 100000
set_option maxHeartbeats 2000000
namespace Pv
open PySem PySem.Spec PyProof.Rows L2
variable {G : Gc} {B : Bx}
/-! ### what is walked -/
/-- J hands out ps, one by one, as long as S stands -/
structure WkJ (G : Gc) (J : It) (S : Hp) (ps : List PV) : Prop where
  go : ∀ i p S' H', ps[i]? = some p → Sub S S' → Le G.T S' H' → J.go i H'
  yld : ∀ i p S' H' x H'', ps[i]? = some p → Sub S S' → Le G.T S' H' → J.yld i H' x H'' → ∃ S'', Ext G.T H' H'' ∧ Le G.T S'' H'' ∧ Grow H' S' S'' ∧ Rp S'' x p
  stop : ∀ S' H', Sub S S' → Le G.T S' H' → J.stop ps.length H'
  len : ps.length ≤ sizeLine
def EndI (G : Gc) (W : WX) (S H : Hp) (σ : L2.St) (R : It → Hp → Prop) : Res (List PV) → Prop
  | .ok ps => ∀ J H' S', Ext G.T H H' → Le G.T S' H' → Grow H S S' → WkJ G J S' ps → R J H'
  | .exc c => ∀ C H', G.cls c = some C → Ext G.T H H' → W (.ref C) none σ H'
  | .bad => False
def tI (G : Gc) (W : WX) (f : Rho → Res (List PV)) : TI := fun σ H R => ∃ S ρ, Le G.T S H ∧ RS S σ ρ ∧ EndI G W S H σ R (f ρ)
structure JI (G : Gc) (B : Bx) (tg iter : Expr) (f : Rho → Res (List PV)) : Prop where
  run : ∀ (X : Cx) (W : WX), CxOk G B X → L2N.Takes X W → PI X tg iter (tI G W f)
theorem PI.imp {X : Cx} {tg e : Expr} {t u : TI} (h : PI X tg e t) (i : ∀ σ H Q, u σ H Q → t σ H Q) : PI X tg e u := ⟨fun pins s σ H Q I q => h.run pins s σ H Q I (i σ H Q q)⟩
theorem PI.or {X : Cx} {tg e : Expr} {t u : TI} (h : PI X tg e t) (h' : PI X tg e u) : PI X tg e (fun σ H Q => t σ H Q ∨ u σ H Q) := ⟨fun pins s σ H Q I q => q.elim (h.run pins s σ H Q I) (h'.run pins s σ H Q I)⟩
theorem EndI.then {G : Gc} {W : WX} {S H : Hp} {σ : L2.St} {Q : It → Hp → Prop} {R : VK} {r : Res PV} {g : PV → Res (List PV)} (he : EndI G W S H σ Q (r.bind g))
    (k : ∀ p v H1 S1, r = .ok p → Ext G.T H H1 → Le G.T S1 H1 → Grow H S S1 → Rp S1 v p → EndI G W S1 H1 σ Q (g p) → R v H1) : EndE G W S H σ R r := by
  cases r with
  | ok p => exact fun v H' S' e1 l1 g1 r1 => k p v H' S' rfl e1 l1 g1 r1 (by
      cases e : g p with
      | ok q => rw [Res.bind, e] at he; exact fun J H2 S2 e2 l2 g2 w => he J H2 S2 (e1.trans e2) l2 (g1.trans e1 g2) w
      | exc c => rw [Res.bind, e] at he; exact fun C H2 hC e2 => he C H2 hC (e1.trans e2)
      | bad => rw [Res.bind, e] at he; exact he)
  | exc c => exact he
  | bad => exact he
theorem EndI.thenA {G : Gc} {W : WX} {S H : Hp} {σ : L2.St} {Q : It → Hp → Prop} {R : List V → Hp → Prop} {r : Res (List PV)} {g : List PV → Res (List PV)} (he : EndI G W S H σ Q (r.bind g))
    (k : ∀ p v H1 S1, r = .ok p → Ext G.T H H1 → Le G.T S1 H1 → Grow H S S1 → RpL S1 v p → EndI G W S1 H1 σ Q (g p) → R v H1) : EndA G W S H σ R r := by
  cases r with
  | ok p => exact fun v H' S' e1 l1 g1 r1 => k p v H' S' rfl e1 l1 g1 r1 (by
      cases e : g p with
      | ok q => rw [Res.bind, e] at he; exact fun J H2 S2 e2 l2 g2 w => he J H2 S2 (e1.trans e2) l2 (g1.trans e1 g2) w
      | exc c => rw [Res.bind, e] at he; exact fun C H2 hC e2 => he C H2 hC (e1.trans e2)
      | bad => rw [Res.bind, e] at he; exact he)
  | exc c => exact he
  | bad => exact he
theorem EndI.here {W : WX} {S H : Hp} {σ : L2.St} {R : It → Hp → Prop} {ps : List PV} {J : It} (h : EndI G W S H σ R (.ok ps)) (hl : Le G.T S H) (w : WkJ G J S ps) : R J H := h J H S (Ext.refl _ _) hl (Grow.refl _ _) w
theorem getLt {α : Type} {l : List α} {i : Nat} {x : α} (h : l[i]? = some x) : i < l.length := (List.getElem?_eq_some_iff.mp h).1
/-- lists, tuples, texts -/
def strs1 (x : Str) : List PV := x.cps.toList.map fun c => .str ⟨#[c]⟩
def iSeq : PV → Res (List PV)
  | .lst xs => .ok xs
  | .tup xs => .ok xs
  | .str x => if x.length ≤ 16777216 then .ok (strs1 x) else .bad
  | _ => .bad
theorem wk_lst {K : PySem.W.Frag} {S H : Hp} {a : Addr} {vs : List V} {ps : List PV} (hl : Le G.T S H) (e : S a = some (.lst vs)) (r : RpL S vs ps) : WkJ G (Itl K a) S ps where
  go := fun i p S' H' hp hs hl' => let ⟨v, hv, _⟩ := r.get hp; ⟨vs, v, .inl (.inl (hl' _ _ (hs _ _ e))), hv⟩
  yld := fun i p S' H' x H'' hp hs hl' hy => by
    obtain ⟨rfl, hy⟩ := hy
    obtain ⟨v, hv, rv⟩ := r.get hp
    have q := hy vs (.inl (.inl (hl' _ _ (hs _ _ e))))
    rw [hv] at q; cases q
    exact ⟨S', Ext.refl _ _, hl', Grow.refl _ _, rv.mono hs⟩
  stop := fun S' H' hs hl' => ⟨vs, .inl (.inl (hl' _ _ (hs _ _ e))), by rw [r.length]; exact Nat.le_refl _⟩
  len := by rw [← r.length]; exact hl.sz _ _ e
theorem wk_tup {K : PySem.W.Frag} {S H : Hp} {a : Addr} {vs : List V} {ps : List PV} (hl : Le G.T S H) (e : S a = some (.tup vs)) (r : RpL S vs ps) : WkJ G (Itt K a) S ps where
  go := fun i p S' H' hp hs hl' => let ⟨v, hv, _⟩ := r.get hp; ⟨vs, v, .inl (.inl (hl' _ _ (hs _ _ e))), hv⟩
  yld := fun i p S' H' x H'' hp hs hl' hy => by
    obtain ⟨rfl, hy⟩ := hy
    obtain ⟨v, hv, rv⟩ := r.get hp
    have q := hy vs (.inl (.inl (hl' _ _ (hs _ _ e))))
    rw [hv] at q; cases q
    exact ⟨S', Ext.refl _ _, hl', Grow.refl _ _, rv.mono hs⟩
  stop := fun S' H' hs hl' => ⟨vs, .inl (.inl (hl' _ _ (hs _ _ e))), by rw [r.length]; exact Nat.le_refl _⟩
  len := by rw [← r.length]; exact hl.sz _ _ e
theorem strOk_get {x : Str} (h : PyData.strOk x = true) {i : Nat} {c : Nat} (e : x.cps.toList[i]? = some c) : PyData.strOk ⟨#[c]⟩ = true := by
  have hm : c ∈ x.cps.toList := List.mem_of_getElem? e
  unfold PyData.strOk at h ⊢
  have := Array.all_eq_true'.mp h c (by simpa using hm)
  simpa using this
theorem wk_str {S : Hp} {x : Str} (h : PyData.strOk x = true) (hz : x.length ≤ 16777216) : WkJ G (Its x) S (strs1 x) where
  go := fun i p S' H' hp hs hl' => by
    have := getLt hp
    unfold strs1 at this
    show i < x.cps.size
    simpa using this
  yld := fun i p S' H' v H'' hp hs hl' hy => by
    obtain ⟨rfl, c, hc, rfl⟩ := hy
    unfold strs1 at hp
    rw [List.getElem?_map] at hp
    have hc' : x.cps.toList[i]? = some c := by simpa using hc
    rw [hc'] at hp
    cases hp
    exact ⟨S', Ext.refl _ _, hl', Grow.refl _ _, .str _ (strOk_get h hc')⟩
  stop := fun S' H' hs hl' => by show x.cps.size ≤ _; unfold strs1; simp
  len := by rw [szl]; unfold strs1; rw [List.length_map, Array.length_toList]; exact hz
def fSeq (f : Rho → Res PV) : Rho → Res (List PV) := fun ρ => (f ρ).bind iSeq
theorem JI.seq {tg e : Expr} {f : Rho → Res PV} (h : JE G B e f) : JI G B tg e (fSeq f) := ⟨fun X W ok tk => by
  refine PI.imp (PI.or (pi_list (h.run X W ok tk)) (PI.or (pi_tup (h.run X W ok tk)) (pi_str (h.run X W ok tk)))) fun σ H R ⟨S, ρ, hl, hs, he⟩ => ?_
  unfold fSeq at he
  cases hk : f ρ with
  | exc c => rw [hk] at he; exact .inl ⟨S, ρ, hl, hs, by rw [hk]; exact he⟩
  | bad => rw [hk] at he; exact he.elim
  | ok q =>
    cases q with
    | lst xs =>
      refine .inl ⟨S, ρ, hl, hs, EndI.then he fun p v H1 S1 ep e1 l1 g1 r1 he => ?_⟩
      rw [hk] at ep; cases ep
      cases r1 with | lst ea qa => exact ⟨_, rfl, ⟨_, .inl (.inl (l1 _ _ ea))⟩, he.here l1 (wk_lst l1 ea qa)⟩
    | tup xs =>
      refine .inr (.inl ⟨S, ρ, hl, hs, EndI.then he fun p v H1 S1 ep e1 l1 g1 r1 he => ?_⟩)
      rw [hk] at ep; cases ep
      cases r1 with | tup ea qa => exact ⟨_, rfl, ⟨_, .inl (.inl (l1 _ _ ea))⟩, he.here l1 (wk_tup l1 ea qa)⟩
    | str x =>
      refine .inr (.inr ⟨S, ρ, hl, hs, EndI.then he fun p v H1 S1 ep e1 l1 g1 r1 he => ?_⟩)
      rw [hk] at ep; cases ep
      unfold iSeq at he
      dsimp only at he
      split at he
      · rename_i z
        cases r1 with | str _ hx => exact ⟨_, rfl, he.here l1 (wk_str hx z)⟩
      · exact he.elim
    | _ => rw [hk] at he; exact he.elim⟩
def rangeP (n : Nat) : List PV := (List.range n).map fun i => .int (i : Nat)
def iRange : List PV → Res (List PV)
  | [.int j] => if j.toNat ≤ 16777216 ∧ (-j).toNat ≤ 4611686018427387904 then .ok (rangeP j.toNat) else .bad
  | _ => .bad
theorem wk_range {S : Hp} {n : Nat} (hz : n ≤ 16777216) : WkJ G (Itr 0 n) S (rangeP n) where
  go := fun i p S' H' hp hs hl' => by
    have := getLt hp
    unfold rangeP at this
    show i < n
    simpa using this
  yld := fun i p S' H' v H'' hp hs hl' hy => by
    obtain ⟨rfl, rfl⟩ := hy
    have hi := getLt hp
    unfold rangeP at hp hi
    simp only [List.length_map, List.length_range] at hi
    rw [List.getElem?_map, List.getElem?_range hi] at hp
    cases hp
    rw [Int.zero_add]
    exact ⟨S', Ext.refl _ _, hl', Grow.refl _ _, .int _⟩
  stop := fun S' H' hs hl' => by show n ≤ _; unfold rangeP; simp
  len := by rw [szl]; unfold rangeP; simpa using hz
def fRange (f : Rho → Res PV) : Rho → Res (List PV) := fun ρ => (aCons f aNil ρ).bind iRange
theorem JI.range {tg a : Expr} {f : Rho → Res PV} {p pos : Pos} (hg : Gb B "range") (hm : G.mg "range" = none) (h : JE G B a f) (hs : NoStar a := by exact fun _ _ => rfl) : JI G B tg (.Call (.Name "range" p) [a] [] pos) (fRange f) := ⟨fun X W ok tk => by
  refine PI.imp (pi_range1 (show X.env.scope.names.lookup ("range" : Str) = _ by rw [ok.sc]; exact hg) (by rw [ok.mg]; exact hm) ((JA.cons h JA.nil hs).run X W ok tk) (hs _ _)) fun σ H R ⟨S, ρ, hl, hr, he⟩ => ?_
  refine ⟨S, ρ, hl, hr, EndI.thenA he fun ps v H1 S1 ep e1 l1 g1 r1 he => ?_⟩
  unfold iRange at he
  split at he
  · split at he
    · rename_i j z
      obtain ⟨v, rfl, rv⟩ := r1.one
      cases rv
      exact ⟨j, rfl, by omega, by omega, he.here l1 (wk_range (by omega))⟩
    · exact he.elim
  · exact he.elim⟩
/-! ### targets -/
inductive Pat where
  | nm (i : Nat) | tp (is : List Nat)
def Pat.slots : Pat → List Nat
  | .nm i => [i]
  | .tp is => is
def setS {α : Type} (σ : List (Option α)) : List Nat → List α → List (Option α)
  | i :: is, v :: vs => setS (σ.set i (some v)) is vs
  | _, _ => σ
def gNames : List Nat → TGs
  | [] => gNil
  | i :: is => gCons (gName i) (gNames is)
def gPat (K : PySem.W.Frag) : Pat → TG
  | .nm i => gName i
  | .tp is => fun v σ H Q => gTup K is.length (gNames is) v σ H Q ∨ gLst K is.length (gNames is) v σ H Q
theorem PG.or {X : Cx} {tg : Expr} {t u : TG} (h : PG X tg t) (h' : PG X tg u) : PG X tg (fun v σ H Q => t v σ H Q ∨ u v σ H Q) := ⟨fun pins s σ H v w Q I r q => q.elim (h.run pins s σ H v w Q I r) (h'.run pins s σ H v w Q I r)⟩
structure JG (G : Gc) (B : Bx) (tg : Expr) (p : Pat) : Prop where
  run : ∀ (X : Cx), CxOk G B X → PG X tg (gPat X.K p)
structure JGs (G : Gc) (B : Bx) (es : List Expr) (is : List Nat) : Prop where
  run : ∀ (X : Cx), CxOk G B X → PGs X es (gNames is)
  len : ∀ env, (assignEach es env).length = is.length
  ns : ∀ env, (assignEach es env).findIdx? (·.1) = none
  ea : ∀ env, (assignEach es env).all (fun x => !x.1) = true
theorem JG.name {x : Str} {i : Nat} {pos : Pos} (hN : B.N[i]? = some x) (hx : Loc B.sc x) (hf : B.fn x = true ∨ B.sc.names.lookup x = some .local) : JG G B (.Name x pos) (.nm i) := ⟨fun X ok =>
  pg_name (by rw [ok.N]; exact ok.nd) (by rw [ok.N]; exact hN) (by rw [ok.sc]; exact hx) (hf.elim (fun z => .inl (ok.fn x z)) (fun z => .inr (by rw [ok.sc]; exact z)))⟩
theorem JGs.nil : JGs G B [] [] := ⟨fun X ok => pgs_nil, fun _ => rfl, fun _ => rfl, fun _ => rfl⟩
theorem JGs.cons {x : Str} {i : Nat} {pos : Pos} {es : List Expr} {is : List Nat} (h : JG G B (.Name x pos) (.nm i)) (t : JGs G B es is) : JGs G B (.Name x pos :: es) (i :: is) := ⟨fun X ok => pgs_cons (h.run X ok) (t.run X ok) rfl, fun env => by
    show (assignEach es env).length + 1 = _; rw [t.len]; rfl, fun env => by
    have z := t.ea env
    rw [List.findIdx?_eq_none_iff]
    intro y hy
    rcases List.mem_cons.mp (show y ∈ (false, assign (.Name x pos) env) :: assignEach es env from hy) with e | e
    · rw [e]
    · have := List.all_eq_true.mp z y e
      simpa using this, fun env => by
    show (!false && (assignEach es env).all _) = true
    rw [t.ea]; rfl⟩
theorem JG.tup [hcm : Cool B] {es : List Expr} {is : List Nat} {k : Nat} {pos : Pos} (t : JGs G B es is) : JG G B (.Tuple es k pos) (.tp is) := ⟨fun X ok => PG.or (pg_tup (by rw [(ok.calm hcm.out)]) (t.run X ok) (t.len _) (t.ns _)) (pg_lst (by rw [(ok.calm hcm.out)]) (t.run X ok) (t.len _) (t.ns _))⟩
theorem gNames_set {H : Hp} : ∀ {is : List Nat} {vs : List V} {σ : L2.St} {Q : L2.St → Hp → Prop}, vs.length = is.length → Q (setS σ is vs) H → gNames is vs σ H Q
  | [], [], _, _, _, q => ⟨rfl, q⟩
  | i :: is, v :: vs, σ, Q, hl, q => ⟨v, vs, rfl, gNames_set (by simpa using hl) q⟩
/-- what a target makes of the slots -/
def patR (ρ : Rho) : Pat → PV → Option Rho
  | .nm i, p => some (ρ.set i (some p))
  | .tp is, .tup ps => if ps.length = is.length then some (setS ρ is ps) else none
  | .tp is, .lst ps => if ps.length = is.length then some (setS ρ is ps) else none
  | _, _ => none
theorem RS.set {S : Hp} {σ : L2.St} {ρ : Rho} (h : RS S σ ρ) {i : Nat} {v : V} {p : PV} (r : Rp S v p) : RS S (σ.set i (some v)) (ρ.set i (some p)) := ⟨by simpa using h.len, fun j q e => by
  by_cases hj : j = i
  · subst hj
    have hlt : j < ρ.length := by
      have := getLt e
      simpa using this
    rw [List.getElem?_set_self hlt] at e
    cases e
    exact ⟨v, List.getElem?_set_self (by rw [h.len]; exact hlt), r⟩
  · rw [List.getElem?_set_ne (Ne.symm hj)] at e
    obtain ⟨w, e1, r1⟩ := h.slot j q e
    exact ⟨w, by rw [List.getElem?_set_ne (Ne.symm hj)]; exact e1, r1⟩⟩
theorem RS.setS {S : Hp} : ∀ {is : List Nat} {σ : L2.St} {ρ : Rho} {vs : List V} {ps : List PV}, RS S σ ρ → RpL S vs ps → RS S (Pv.setS σ is vs) (Pv.setS ρ is ps)
  | [], _, _, _, _, h, _ => by unfold Pv.setS; exact h
  | i :: is, _, _, _, _, h, .nil => by unfold Pv.setS; exact h
  | i :: is, _, _, _, _, h, .cons r t => by unfold Pv.setS; exact RS.setS (h.set r) t
/-- the target's store -/
theorem gPat_ok {K : PySem.W.Frag} {S H : Hp} {σ : L2.St} {ρ ρ' : Rho} {pt : Pat} {v : V} {p : PV} {Q : L2.St → Hp → Prop} (hl : Le G.T S H) (hs : RS S σ ρ) (r : Rp S v p) (h : patR ρ pt p = some ρ')
    (k : ∀ σ', RS S σ' ρ' → (∃ vs, σ' = Pv.setS σ pt.slots vs) → Q σ' H) : gPat K pt v σ H Q := by
  unfold patR at h
  split at h
  · cases h
    exact k _ (hs.set r) ⟨[v], rfl⟩
  · split at h
    · rename_i is ps z
      cases h
      cases r with | tup ea qa =>
      exact .inl ⟨_, _, rfl, .inl (.inl (hl _ _ ea)), by rw [qa.length]; exact z, gNames_set (by rw [qa.length]; exact z) (k _ (hs.setS qa) ⟨_, rfl⟩)⟩
    · cases h
  · split at h
    · rename_i is ps z
      cases h
      cases r with | lst ea qa =>
      exact .inr ⟨_, _, rfl, .inl (.inl (hl _ _ ea)), by rw [qa.length]; exact z, gNames_set (by rw [qa.length]; exact z) (k _ (hs.setS qa) ⟨_, rfl⟩)⟩
    · cases h
  · cases h
/-! ### comprehensions -/
def wipeR (ρ : Rho) : List Nat → Rho
  | [] => ρ
  | v :: vs => (wipeR ρ vs).set v none
theorem RS.none {S : Hp} {σ : L2.St} {ρ : Rho} (h : RS S σ ρ) (i : Nat) : RS S (σ.set i none) (ρ.set i none) := ⟨by simpa using h.len, fun j q e => by
  by_cases hj : j = i
  · subst hj
    by_cases hlt : j < ρ.length
    · rw [List.getElem?_set_self hlt] at e; cases e
    · rw [List.getElem?_eq_none (by simpa using hlt)] at e; cases e
  · rw [List.getElem?_set_ne (Ne.symm hj)] at e
    obtain ⟨w, e1, r1⟩ := h.slot j q e
    exact ⟨w, by rw [List.getElem?_set_ne (Ne.symm hj)]; exact e1, r1⟩⟩
theorem RS.wipe {S : Hp} {σ : L2.St} {ρ : Rho} (h : RS S σ ρ) : ∀ vs : List Nat, RS S (L2.wipe σ vs) (wipeR ρ vs)
  | [] => h
  | v :: vs => (RS.wipe h vs).none v
theorem wipe_get (σ : L2.St) (i : Nat) : ∀ vs : List Nat, i ∈ vs → (L2.wipe σ vs)[i]? = if i < σ.length then some none else none
  | [], h => by cases h
  | v :: vs, h => by
    unfold L2.wipe
    by_cases e : v = i
    · subst e
      by_cases hl : v < σ.length
      · rw [if_pos hl, List.getElem?_set_self (by rw [wipe_length]; exact hl)]
      · rw [if_neg hl, List.getElem?_eq_none (by rw [List.length_set, wipe_length]; omega)]
    · rw [List.getElem?_set_ne e]
      exact wipe_get σ i vs (by rcases List.mem_cons.mp h with z | z; exact absurd z.symm e; exact z)
theorem wipe_set (σ : L2.St) {i : Nat} {x : Option V} {vs : List Nat} (h : i ∈ vs) : L2.wipe (σ.set i x) vs = L2.wipe σ vs := by
  apply List.ext_getElem?
  intro j
  by_cases hj : j ∈ vs
  · rw [wipe_get _ j vs hj, wipe_get _ j vs hj, List.length_set]
  · rw [wipe_out hj, wipe_out hj, List.getElem?_set_ne (fun e => hj (by rw [← e]; exact h))]
theorem wipe_setS : ∀ {is : List Nat} (σ : L2.St) (ws : List V) {vs : List Nat}, (∀ i ∈ is, i ∈ vs) → L2.wipe (Pv.setS σ is ws) vs = L2.wipe σ vs
  | [], σ, ws, vs, _ => by unfold Pv.setS; rfl
  | i :: is, σ, [], vs, _ => by unfold Pv.setS; rfl
  | i :: is, σ, w :: ws, vs, h => by
    unfold Pv.setS
    rw [wipe_setS _ ws fun j hj => h j (List.mem_cons_of_mem _ hj), wipe_set σ (h i List.mem_cons_self)]
theorem wipe_wipe (σ : L2.St) (vs : List Nat) : L2.wipe (L2.wipe σ vs) vs = L2.wipe σ vs := by
  apply List.ext_getElem?
  intro j
  by_cases hj : j ∈ vs
  · rw [wipe_get _ j vs hj, wipe_get _ j vs hj, wipe_length]
  · rw [wipe_out hj]
/-- within a comprehension nothing may be raised -/
def noX {α : Type} : Res α → Res α
  | .exc _ => .bad
  | r => r
def lcRun (pt : Pat) (tt : Rho → Res Bool) (te : Rho → Res PV) (ρ : Rho) : List PV → Res (List PV)
  | [] => .ok []
  | p :: ps => match patR ρ pt p with
    | some ρ' => (noX (tt ρ')).bind fun b => if b = true then (noX (te ρ')).bind fun y => (lcRun pt tt te ρ ps).bind fun ys => .ok (y :: ys) else lcRun pt tt te ρ ps
    | none => .bad
def eLc (f : Rho → Res (List PV)) (own : List Nat) (pt : Pat) (tt : Rho → Res Bool) (te : Rho → Res PV) : Rho → Res PV := fun ρ => (f ρ).bind fun ps => (lcRun pt tt te (wipeR ρ own) ps).bind fun ys => .ok (.lst ys)
theorem lcRun_noexc (pt : Pat) (tt : Rho → Res Bool) (te : Rho → Res PV) (ρ : Rho) : ∀ ps c, lcRun pt tt te ρ ps ≠ .exc c
  | [], c, h => by cases h
  | p :: ps, c, h => by
    unfold lcRun at h
    split at h
    · rename_i ρ' _
      cases e : tt ρ' with
      | ok b =>
        rw [e] at h
        simp only [noX, Res.bind] at h
        split at h
        · cases e2 : te ρ' with
          | ok y =>
            rw [e2] at h
            simp only at h
            cases e3 : lcRun pt tt te ρ ps with
            | ok ys => rw [e3] at h; cases h
            | exc c' => exact lcRun_noexc pt tt te ρ ps c' e3
            | bad => rw [e3] at h; cases h
          | exc c' => rw [e2] at h; cases h
          | bad => rw [e2] at h; cases h
        · exact lcRun_noexc pt tt te ρ ps c h
      | exc c' => rw [e] at h; cases h
      | bad => rw [e] at h; cases h
    · cases h
/-- all but D stays, D is no table and no code -/
theorem Tabs.alter {T : List (Addr × Str)} {H : Hp} {D : Addr} {o o0 : HO} (t : LamX.Tabs T H) (e : H D = some o0) (n1 : ∀ ps, o0 ≠ .tbl ps) (n2 : ∀ φ, o0 ≠ .ext φ) : LamX.Tabs T (L2.upd H D o) := fun p hp => by
  obtain ⟨ps, h1, h2, h3⟩ := t p hp
  refine ⟨ps, ?_, h2, fun pos cv hc => ?_⟩
  · rw [upd_ne (ne_of h1 e (fun z => n1 _ z.symm))]; exact h1
  · obtain ⟨c, e1, e2⟩ := h3 pos cv hc
    refine ⟨c, e1, ?_⟩
    rw [upd_ne (ne_of e2 e (by intro z; unfold LamX.CodeO at z; exact n2 _ z.symm))]; exact e2
theorem Tabs.other {T : List (Addr × Str)} {H : Hp} {D : Addr} {o : HO} {vs : List V} (t : LamX.Tabs T H) (e : H D = some (.lst vs)) : LamX.Tabs T (L2.upd H D o) := Tabs.alter t e (fun _ z => by cases z) (fun _ z => by cases z)
theorem Le.other {T : List (Addr × Str)} {S H : Hp} {D : Addr} {vs ws : List V} (h : Le T S H) (n : S D = none) (e : H D = some (.lst vs)) : Le T S (L2.upd H D (.lst ws)) :=
  ⟨fun a o q => (h a o q).map fun u z _ => by rw [upd_ne (ne_of_none q n)]; exact z, Tabs.other h.tabs e, h.sz⟩
theorem Ext.other {T : List (Addr × Str)} {H H1 : Hp} {D : Addr} {vs ws : List V} (x : Ext T H H1) (n : H D = none) (e : H1 D = some (.lst vs)) : Ext T H (L2.upd H1 D (.lst ws)) :=
  ⟨fun a o q z => by rw [upd_ne (ne_of_none q n)]; exact x.st a o q z, fun a q => by
    by_cases ha : a = D
    · rw [ha]; exact n
    · rw [upd_ne ha] at q; exact x.no a q, fun t => Tabs.other (x.tb t) e⟩
/-- the block of a comprehension -/
def Bx.blk (B : Bx) (scope : Scope) : Bx := ⟨B.N, relS scope B.sc, fun x => scope.names.lookup x == some .cell, B.k, B.co, B.hot, none⟩
instance {scope : Scope} [c : Cool B] : Cool (B.blk scope) := ⟨c.out⟩
theorem CxOk.blk {X : Cx} {scope : Scope} (ok : CxOk G B X) (s : Shared) (H : Hp) (C : Addr) (cl : List (Str × Addr)) (fp : List Addr) : CxOk G (B.blk scope) (X.blk s H scope (compEnvC scope cl C X.env) fp) :=
  ⟨ok.prog, ok.w, ok.K, ok.mg, ok.base, ok.N, ok.nd, by show relS scope X.env.scope = _; rw [ok.sc]; rfl, fun x h => h, ok.cool, ok.roomH, ok.co, fun _ _ z => nomatch z⟩
theorem takesF {X : Cx} : L2N.Takes X (fun _ _ _ _ => False) := fun _ _ x => by
  obtain ⟨_, _, _, _, _, _, _, _, _, _, _, _, _, _, _, _, z⟩ := x
  exact z.elim
abbrev W0 : WX := fun _ _ _ _ => False
def bYes : Rho → Res Bool := fun _ => .ok true
structure JTs (G : Gc) (B : Bx) (ifs : List Expr) (f : Rho → Res Bool) : Prop where
  run : ∀ (X : Cx) (W : WX), CxOk G B X → L2N.Takes X W → PTs X ifs (tT G W f)
theorem JTs.nil : JTs G B [] bYes := ⟨fun X W ok tk => ⟨fun pins s σ H Q I ⟨S, ρ, hl, hs, he⟩ => pts_nil.run pins s σ H Q I (he H (Ext.refl _ _))⟩⟩
theorem JTs.one {c : Expr} {f : Rho → Res Bool} (h : JT G B c f) : JTs G B [c] f := ⟨fun X W ok tk => pts_one (h.run X W ok tk)⟩
theorem tLc_of {K : PySem.W.Frag} {W : WX} {f : Rho → Res (List PV)} {own : List Nat} {pt : Pat} {tt : Rho → Res Bool} {te : Rho → Res PV} (hp : ∀ i ∈ pt.slots, i ∈ own) {σ : L2.St} {H : Hp} {Q : VK} (h : tF G W (eLc f own pt tt te) σ H Q) :
    tLc (tI G W f) (gPat K pt) (tT G W0 tt) (tE G W0 te) own σ H Q := by
  obtain ⟨S, ρ, hl, hs, he⟩ := h
  refine ⟨S, ρ, hl, hs, ?_⟩
  unfold eLc at he
  cases ef : f ρ with
  | exc c => rw [ef] at he; exact he
  | bad => rw [ef] at he; exact he
  | ok ps =>
    rw [ef] at he
    have he : EndF G W S H σ Q ((lcRun pt tt te (wipeR ρ own) ps).bind fun ys => .ok (.lst ys)) := he
    cases er : lcRun pt tt te (wipeR ρ own) ps with
    | exc c => exact absurd er (lcRun_noexc _ _ _ _ _ _)
    | bad => rw [er] at he; exact he.elim
    | ok ys =>
      rw [er] at he
      have he : EndF G W S H σ Q (.ok (.lst ys)) := he
      intro J H1 S1 e1 l1 g1 wk D nD
      have hwS : RS S1 (L2.wipe σ own) (wipeR ρ own) := (hs.mono g1.sub).wipe own
      refine ⟨fun i m Hc => m = ps.length - i ∧ i ≤ ps.length ∧ ∃ Sc vs acc rest, Ext G.T H1 Hc ∧ Le G.T Sc Hc ∧ Grow H1 S1 Sc ∧ Sc D = none ∧ Hc D = some (.lst vs) ∧ RpL Sc vs acc ∧ acc.length ≤ i ∧ lcRun pt tt te (wipeR ρ own) (ps.drop i) = .ok rest ∧ acc ++ rest = ys, ⟨ps.length, by simp, Nat.zero_le _, S1, [], [], ys, Ext.new nD, l1.ext (Ext.new (T := G.T) nD), Grow.refl _ _, l1.emp nD, upd_same, .nil, Nat.le_refl _, by simpa using er, rfl⟩, ?_⟩
      rintro i m Hc ⟨rfl, hi, Sc, vs, acc, rest, ex, lc, gc, nS, eD, ra, la, hr, hy⟩
      by_cases hlt : i < ps.length
      · have hp0 : ps[i]? = some ps[i] := by simp [hlt]
        rw [List.drop_eq_getElem_cons hlt] at hr
        unfold lcRun at hr
        cases epat : patR (wipeR ρ own) pt ps[i] with
        | none => rw [epat] at hr; cases hr
        | some ρ1 =>
          rw [epat] at hr
          dsimp only at hr
          refine .inr ⟨wk.go i _ Sc Hc hp0 gc.sub lc, fun H' => (fun i m Hc => m = ps.length - i ∧ i ≤ ps.length ∧ ∃ Sc vs acc rest, Ext G.T H1 Hc ∧ Le G.T Sc Hc ∧ Grow H1 S1 Sc ∧ Sc D = none ∧ Hc D = some (.lst vs) ∧ RpL Sc vs acc ∧ acc.length ≤ i ∧ lcRun pt tt te (wipeR ρ own) (ps.drop i) = .ok rest ∧ acc ++ rest = ys) (i + 1) (ps.length - (i + 1)) H', fun H' p' => ⟨_, by omega, p'⟩, fun x H' hyl => ?_⟩
          obtain ⟨S2, e2, l2, g2, r2⟩ := wk.yld i _ Sc Hc x H' hp0 gc.sub lc hyl
          have nS2 : S2 D = none := by
            cases q : S2 D with
            | none => rfl
            | some o =>
              rcases g2.new D o q with z | z
              · rw [nS] at z; cases z
              · rw [eD] at z; cases z
          have eD2 : H' D = some (.lst vs) := e2.st D _ eD fun _ z => by cases z
          refine gPat_ok l2 (hwS.mono (gc.sub.trans g2.sub)) r2 epat fun σ2 hs2 ⟨ws, hσ2⟩ => ⟨?_, ?_⟩
          · rw [hσ2, wipe_setS _ _ hp, wipe_wipe]
          · cases et : tt ρ1 with
            | exc c => rw [et] at hr; cases hr
            | bad => rw [et] at hr; cases hr
            | ok b =>
              rw [et] at hr
              refine ⟨S2, ρ1, l2, hs2, ?_⟩
              rw [et]
              intro H3 e3
              have hr : (if b = true then (noX (te ρ1)).bind fun y => (lcRun pt tt te (wipeR ρ own) (ps.drop (i + 1))).bind fun ys => .ok (y :: ys) else lcRun pt tt te (wipeR ρ own) (ps.drop (i + 1))) = .ok rest := hr
              have l3 := l2.ext e3
              have eD3 : H3 D = some (.lst vs) := e3.st D _ eD2 fun _ z => by cases z
              split
              · rename_i hb
                rw [if_pos hb] at hr
                cases ee : te ρ1 with
                | exc c => rw [ee] at hr; cases hr
                | bad => rw [ee] at hr; cases hr
                | ok y =>
                  rw [ee] at hr
                  refine ⟨S2, ρ1, l3, hs2, ?_⟩
                  rw [ee]
                  intro v H4 S4 e4 l4 g4 r4
                  have eD4 : H4 D = some (.lst vs) := e4.st D _ eD3 fun _ z => by cases z
                  have nS4 : S4 D = none := by
                    cases q : S4 D with
                    | none => rfl
                    | some o =>
                      rcases g4.new D o q with z | z
                      · rw [nS2] at z; cases z
                      · rw [eD3] at z; cases z
                  have hr : ((lcRun pt tt te (wipeR ρ own) (ps.drop (i + 1))).bind fun ys => .ok (y :: ys)) = .ok rest := hr
                  cases e5 : lcRun pt tt te (wipeR ρ own) (ps.drop (i + 1)) with
                  | exc c => rw [e5] at hr; cases hr
                  | bad => rw [e5] at hr; cases hr
                  | ok rest' =>
                    rw [e5] at hr
                    cases hr
                    have lenv : vs.length = acc.length := ra.length
                    have gSc4 : Grow H1 S1 S4 := (gc.trans ex (g2.trans e2 (Grow.trans (T := G.T) ⟨Sub.refl S2, fun _ _ z => .inl z⟩ e3 g4)))
                    refine ⟨vs, eD4, by have := wk.len; omega, rfl, hlt, S4, vs ++ [v], acc ++ [y], rest', ?_, l4.other nS4 eD4, gSc4, nS4, upd_same, (ra.mono (g2.sub.trans g4.sub)).append (.cons r4 .nil), by simp; omega, e5, by simpa using hy⟩
                    exact (ex.trans (e2.trans (e3.trans e4))).other nD eD4
              · rename_i hb
                rw [if_neg hb] at hr
                refine ⟨rfl, hlt, S2, vs, acc, rest, ex.trans (e2.trans e3), l3, gc.trans ex g2, nS2, eD3, ra.mono g2.sub, by omega, hr, hy⟩
      · have ei : i = ps.length := by omega
        subst ei
        refine .inl ⟨wk.stop Sc Hc gc.sub lc, ?_⟩
        rw [List.drop_length] at hr
        cases hr
        rw [List.append_nil] at hy
        subst hy
        exact he D vs Hc Sc (e1.trans ex) lc (g1.trans e1 gc) nS (e1.no D nD) eD ra (by rw [ra.length]; exact Nat.le_trans la wk.len)
theorem JF.lc [hcm : Cool B] {elt tg iter : Expr} {ifs : List Expr} {scope : Scope} {own : List (Str × Nat)} {pos : Pos} {f : Rho → Res (List PV)} {pt : Pat} {tt : Rho → Res Bool} {te : Rho → Res PV} (hi : JI G B tg iter f) (hb : blkC B.N B.sc scope own = true) (hp : ∀ i ∈ pt.slots, i ∈ own.map (·.2))
    (hg : JG G (B.blk scope) tg pt) (ht : JTs G (B.blk scope) ifs tt) (he : JE G (B.blk scope) elt te) (hs : ∀ env x, foldedSetIterable iter env x = pure x := by intro _ _; rfl) : JF G B (.ListComp elt [⟨tg, iter, ifs, 0⟩] scope pos) (eLc f (own.map (·.2)) pt tt te) := ⟨fun X W ok tk =>
  PE.imp (pe_lc (g := gPat X.K pt) (tt := tT G W0 tt) (te := tE G W0 te) (ok.calm hcm.out) (by rw [ok.N]; exact ok.nd) (hi.run X W ok tk) (by rw [ok.N, ok.sc]; exact blkOk_by hb) (fun s H C cl fp => hg.run _ (ok.blk s H C cl fp)) (fun s H C cl fp => ht.run _ W0 (ok.blk s H C cl fp) takesF) (fun s H C cl fp => he.run _ W0 (ok.blk s H C cl fp) takesF) (fun x => hs _ x)) fun σ H Q h => tLc_of hp h⟩
theorem fresh_lc {f : Rho → Res (List PV)} {own : List Nat} {pt : Pat} {tt : Rho → Res Bool} {te : Rho → Res PV} (ρ : Rho) : fresh (eLc f own pt tt te ρ) := fresh_bindA fun x => fresh_bindA fun y => trivial
theorem JE.lc [hcm : Cool B] {elt tg iter : Expr} {ifs : List Expr} {scope : Scope} {own : List (Str × Nat)} {pos : Pos} {f : Rho → Res (List PV)} {pt : Pat} {tt : Rho → Res Bool} {te : Rho → Res PV} (hi : JI G B tg iter f) (hb : blkC B.N B.sc scope own = true) (hp : ∀ i ∈ pt.slots, i ∈ own.map (·.2))
    (hg : JG G (B.blk scope) tg pt) (ht : JTs G (B.blk scope) ifs tt) (he : JE G (B.blk scope) elt te) (hs : ∀ env x, foldedSetIterable iter env x = pure x := by intro _ _; rfl) : JE G B (.ListComp elt [⟨tg, iter, ifs, 0⟩] scope pos) (eLc f (own.map (·.2)) pt tt te) := (JF.lc hi hb hp hg ht he hs).je fresh_lc
end Pv
end
section
set_option Elab.async false
set_option linter.all false
set_option maxRecDepth 100000
set_option maxHeartbeats 2000000
namespace Pv
open PySem PySem.Spec PyProof.Rows L2
variable {G : Gc} {B : Bx}
/-! ### slots that own a list or a dict -/
inductive SV where
  | v (p : PV) | l (xs : List PV) | d (ks : List Key) (vs : List PV) | t (ks : List (List Key)) (vs : List PV)
def SV.pv : SV → PV
  | .v p => p
  | .l xs => .lst xs
  | .d ks vs => .dK ks vs
  | .t ks vs => .dT ks vs
def SV.own : SV → Bool
  | .v _ => false
  | _ => true
abbrev Om := List (Option SV)
def shw (ω : Om) : Rho := ω.map fun o => o.map SV.pv
def hid (ω : Om) : Rho := ω.map fun o => match o with | some (.v p) => some p | _ => none
def frzAt (ω : Om) (i : Nat) : Om := match ω[i]? with | some (some sv) => ω.set i (some (.v sv.pv)) | _ => ω
def frz (ω : Om) : List Nat → Om
  | [] => ω
  | i :: is => frz (frzAt ω i) is
/-- the object at a is what the slot says -/
def Held (S H : Hp) (a : Addr) : SV → Prop
  | .v _ => False
  | .l xs => ∃ vs, H a = some (.lst vs) ∧ vs.length ≤ sizeLine ∧ RpL S vs xs
  | .d ks ps => ∃ kvs : List (Key × V), H a = some (.dK kvs) ∧ kvs.map (·.1) = ks ∧ RpL S (kvs.map (·.2)) ps
  | .t ks ps => ∃ kvs : List (List Key × V), H a = some (.dT kvs) ∧ kvs.map (·.1) = ks ∧ RpL S (kvs.map (·.2)) ps
structure StOk (G : Gc) (H0 S0 S H : Hp) (σ : L2.St) (ω : Om) : Prop where
  ext : Ext G.T H0 H
  grow : Grow H0 S0 S
  le : Le G.T S H
  len : σ.length = ω.length
  shd : ∀ (i : Nat) (p : PV), ω[i]? = some (some (.v p)) → ∃ v, σ[i]? = some (some v) ∧ Rp S v p
  own : ∀ (i : Nat) (sv : SV), ω[i]? = some (some sv) → sv.own = true → ∃ a, σ[i]? = some (some (.ref a)) ∧ S a = none ∧ H0 a = none ∧ Held S H a sv
  dis : ∀ (i j : Nat) (si sj : SV) (a : Addr), ω[i]? = some (some si) → si.own = true → ω[j]? = some (some sj) → sj.own = true → σ[i]? = some (some (.ref a)) → σ[j]? = some (some (.ref a)) → i = j
theorem Held.some {S H : Hp} {a : Addr} {sv : SV} (h : Held S H a sv) : ∃ o, H a = Option.some o ∧ (∀ ps, o ≠ .tbl ps) := by
  cases sv with
  | v p => exact h.elim
  | l xs => obtain ⟨vs, e, _⟩ := h; exact ⟨_, e, fun _ z => by cases z⟩
  | d ks ps => obtain ⟨vs, e, _⟩ := h; exact ⟨_, e, fun _ z => by cases z⟩
  | t ks ps => obtain ⟨vs, e, _⟩ := h; exact ⟨_, e, fun _ z => by cases z⟩
theorem Held.mono {S S' H H' : Hp} {a : Addr} {sv : SV} (h : Held S H a sv) (hs : Sub S S') (e : H' a = H a) : Held S' H' a sv := by
  cases sv with
  | v p => exact h
  | l xs => obtain ⟨vs, e1, z, r⟩ := h; exact ⟨vs, by rw [e]; exact e1, z, r.mono hs⟩
  | d ks ps => obtain ⟨vs, e1, z, r⟩ := h; exact ⟨vs, by rw [e]; exact e1, z, r.mono hs⟩
  | t ks ps => obtain ⟨vs, e1, z, r⟩ := h; exact ⟨vs, by rw [e]; exact e1, z, r.mono hs⟩
/-- behind an expression -/
theorem StOk.step {H0 S0 S H S' H' : Hp} {σ : L2.St} {ω : Om} (k : StOk G H0 S0 S H σ ω) (e : Ext G.T H H') (l : Le G.T S' H') (g : Grow H S S') : StOk G H0 S0 S' H' σ ω where
  ext := k.ext.trans e
  grow := k.grow.trans k.ext g
  le := l
  len := k.len
  shd := fun i p h => let ⟨v, a, b⟩ := k.shd i p h; ⟨v, a, b.mono g.sub⟩
  own := fun i sv h ho => by
    obtain ⟨a, h1, h2, h3, h4⟩ := k.own i sv h ho
    obtain ⟨o, eo, no⟩ := h4.some
    have eo' := e.st a o eo no
    refine ⟨a, h1, ?_, h3, h4.mono g.sub (by rw [eo, eo'])⟩
    cases q : S' a with
    | none => rfl
    | some u =>
      rcases g.new a u q with z | z
      · rw [h2] at z; cases z
      · rw [eo] at z; cases z
  dis := k.dis
theorem hid_get {ω : Om} {i : Nat} {p : PV} (h : (hid ω)[i]? = some (some p)) : ω[i]? = some (some (.v p)) := by
  unfold hid at h
  rw [List.getElem?_map] at h
  cases e : ω[i]? with
  | none => rw [e] at h; cases h
  | some o =>
    rw [e] at h
    cases o with
    | none => cases h
    | some sv =>
      cases sv with
      | v q => cases h; rfl
      | l _ => cases h
      | d _ _ => cases h
      | t _ _ => cases h
theorem StOk.hid {H0 S0 S H : Hp} {σ : L2.St} {ω : Om} (k : StOk G H0 S0 S H σ ω) : RS S σ (hid ω) := ⟨by unfold Pv.hid; rw [List.length_map]; exact k.len, fun i p h => k.shd i p (hid_get h)⟩
/-! what owns is shown -/
def OwnAt (σ : L2.St) (ω : Om) (a : Addr) : Prop := ∃ (i : Nat) (sv : SV), ω[i]? = some (some sv) ∧ sv.own = true ∧ σ[i]? = some (some (V.ref a))
open Classical in
noncomputable def plus (S H : Hp) (σ : L2.St) (ω : Om) : Hp := fun a => if OwnAt σ ω a then H a else S a
open Classical in
noncomputable def minus (S : Hp) (σ : L2.St) (ω : Om) : Hp := fun a => if OwnAt σ ω a then none else S a
theorem shw_get {ω : Om} {i : Nat} {p : PV} (h : (shw ω)[i]? = some (some p)) : ∃ sv, ω[i]? = some (some sv) ∧ sv.pv = p := by
  unfold shw at h
  rw [List.getElem?_map] at h
  cases e : ω[i]? with
  | none => rw [e] at h; cases h
  | some o =>
    rw [e] at h
    cases o with
    | none => cases h
    | some sv => cases h; exact ⟨sv, rfl, rfl⟩
section
variable {H0 S0 S H : Hp} {σ : L2.St} {ω : Om} (k : StOk G H0 S0 S H σ ω)
include k
theorem StOk.plus_sub : Sub S (plus S H σ ω) := fun a o e => by
  unfold plus
  split
  · rename_i z
    obtain ⟨i, sv, h1, h2, h3⟩ := z
    obtain ⟨b, q1, q2, _⟩ := k.own i sv h1 h2
    rw [h3] at q1; cases q1
    rw [q2] at e; cases e
  · exact e
theorem StOk.plus_le : Le G.T (plus S H σ ω) H := by
  refine ⟨fun a o e => ?_, k.le.tabs, fun a o e => ?_⟩
  · unfold plus at e
    split at e
    · rename_i z
      obtain ⟨i, sv, h1, h2, h3⟩ := z
      obtain ⟨b, q1, q2, _, q4⟩ := k.own i sv h1 h2
      rw [h3] at q1; cases q1
      obtain ⟨o', e', n'⟩ := q4.some
      rw [e] at e'; cases e'
      exact .of e n'
    · exact k.le a o e
  · unfold plus at e
    split at e
    · rename_i z
      obtain ⟨i, sv, h1, h2, h3⟩ := z
      obtain ⟨b, q1, q2, _, q4⟩ := k.own i sv h1 h2
      rw [h3] at q1; cases q1
      cases sv with
      | v p => cases h2
      | l xs => obtain ⟨vs, e', z, _⟩ := q4; rw [e] at e'; cases e'; exact z
      | d ks ps => obtain ⟨vs, e', z, _⟩ := q4; rw [e] at e'; cases e'; exact trivial
      | t ks ps => obtain ⟨vs, e', z, _⟩ := q4; rw [e] at e'; cases e'; exact trivial
    · exact k.le.sz a o e
theorem StOk.plus_at {i : Nat} {sv : SV} (h1 : ω[i]? = some (some sv)) (h2 : sv.own = true) {a : Addr} (h3 : σ[i]? = some (some (.ref a))) : plus S H σ ω a = H a := by
  unfold plus
  rw [if_pos ⟨i, sv, h1, h2, h3⟩]
theorem StOk.shw : RS (plus S H σ ω) σ (shw ω) := ⟨by unfold Pv.shw; rw [List.length_map]; exact k.len, fun i p h => by
  obtain ⟨sv, e, rfl⟩ := shw_get h
  cases sv with
  | v p => obtain ⟨v, e1, r⟩ := k.shd i p e; exact ⟨v, e1, r.mono k.plus_sub⟩
  | l xs =>
    obtain ⟨a, e1, _, _, vs, e2, _, r⟩ := k.own i _ e rfl
    exact ⟨_, e1, .lst (by rw [k.plus_at e rfl e1]; exact e2) (r.mono k.plus_sub)⟩
  | d ks ps =>
    obtain ⟨a, e1, _, _, kvs, e2, ek, r⟩ := k.own i _ e rfl
    subst ek
    exact ⟨_, e1, .dK (by rw [k.plus_at e rfl e1]; exact e2) (r.mono k.plus_sub)⟩
  | t ks ps =>
    obtain ⟨a, e1, _, _, kvs, e2, ek, r⟩ := k.own i _ e rfl
    subst ek
    exact ⟨_, e1, .dT (by rw [k.plus_at e rfl e1]; exact e2) (r.mono k.plus_sub)⟩⟩
theorem StOk.plus_grow0 : Grow H0 S0 (plus S H σ ω) := ⟨k.grow.sub.trans k.plus_sub, fun a o e => by
  unfold plus at e
  split at e
  · rename_i z
    obtain ⟨i, sv, h1, h2, h3⟩ := z
    obtain ⟨b, q1, _, q3, _⟩ := k.own i sv h1 h2
    rw [h3] at q1; cases q1
    exact .inr q3
  · exact k.grow.new a o e⟩
end
def anyL (ω : Om) : Bool := ω.any fun o => match o with | some (.l _) => true | _ => false
def anyD (ω : Om) : Bool := ω.any fun o => match o with | some (.d _ _) => true | some (.t _ _) => true | _ => false
def keepOk (p : PV) (ω : Om) : Bool := !(hasL p && anyL ω) && !(hasD p && anyD ω)
def keepOks (ps : List PV) (ω : Om) : Bool := !(hasLs ps && anyL ω) && !(hasDs ps && anyD ω)
theorem any_at {ω : Om} {f : Option SV → Bool} {i : Nat} {o : Option SV} (h : ω[i]? = some o) (e : ω.any f = false) : f o = false := by
  have hm : o ∈ ω := List.mem_of_getElem? h
  cases q : f o with
  | false => rfl
  | true => rw [List.any_eq_true.mpr ⟨o, hm, q⟩] at e; cases e
section
variable {H0 S0 S H S' H' : Hp} {σ : L2.St} {ω : Om} (k : StOk G H0 S0 S H σ ω) (e : Ext G.T H H') (l : Le G.T S' H') (g : Grow H (plus S H σ ω) S')
include k e l g
theorem StOk.minus_le : Le G.T (minus S' σ ω) H' := by
  refine ⟨fun a o q => ?_, l.tabs, fun a o q => ?_⟩
  · unfold minus at q; split at q
    · cases q
    · exact l a o q
  · unfold minus at q; split at q
    · cases q
    · exact l.sz a o q
theorem StOk.minus_grow : Grow H S (minus S' σ ω) := ⟨fun a o q => by
    have nz : ¬ OwnAt σ ω a := fun ⟨i, sv, h1, h2, h3⟩ => by
      obtain ⟨b, q1, q2, _⟩ := k.own i sv h1 h2
      rw [h3] at q1; cases q1
      rw [q2] at q; cases q
    unfold minus
    rw [if_neg nz]
    exact g.sub a o (k.plus_sub a o q), fun a o q => by
    unfold minus at q
    split at q
    · cases q
    · rename_i nz
      rcases g.new a o q with z | z
      · unfold plus at z; rw [if_neg nz] at z; exact .inl z
      · exact .inr z⟩
theorem StOk.minus_kd {L D : Bool} (hL : L = true → anyL ω = false) (hD : D = true → anyD ω = false) : ∀ a o, S' a = some o → Kd L D o → minus S' σ ω a = some o := fun a o q kd => by
  unfold minus
  split
  · rename_i z
    obtain ⟨i, sv, h1, h2, h3⟩ := z
    obtain ⟨b, q1, q2, _, q4⟩ := k.own i sv h1 h2
    rw [h3] at q1; cases q1
    obtain ⟨o', e', n'⟩ := q4.some
    have eS : S' a = some o' := g.sub a o' (by rw [k.plus_at h1 h2 h3]; exact e')
    rw [q] at eS; cases eS
    cases sv with
    | v p => cases h2
    | l xs =>
      obtain ⟨vs, e2, _⟩ := q4
      rw [e'] at e2; cases e2
      have := any_at h1 (hL kd)
      cases this
    | d ks ps =>
      obtain ⟨vs, e2, _⟩ := q4
      rw [e'] at e2; cases e2
      have := any_at h1 (hD kd)
      cases this
    | t ks ps =>
      obtain ⟨vs, e2, _⟩ := q4
      rw [e'] at e2; cases e2
      have := any_at h1 (hD kd)
      cases this
  · exact q
theorem StOk.minus_rp {v : V} {p : PV} (hk : keepOk p ω = true) (r : Rp S' v p) : Rp (minus S' σ ω) v p := by
  unfold keepOk at hk
  simp only [Bool.and_eq_true, Bool.not_eq_true', Bool.and_eq_false_iff] at hk
  refine Rp.kinds (L := !anyL ω) (D := !anyD ω) (k.minus_kd e l g (fun z => by simpa using z) (fun z => by simpa using z)) p v (fun z => ?_) (fun z => ?_) r
  · rcases hk.1 with q | q
    · rw [z] at q; cases q
    · rw [q]; rfl
  · rcases hk.2 with q | q
    · rw [z] at q; cases q
    · rw [q]; rfl
theorem StOk.minus_rps {vs : List V} {ps : List PV} (hk : keepOks ps ω = true) (r : RpL S' vs ps) : RpL (minus S' σ ω) vs ps := by
  unfold keepOks at hk
  simp only [Bool.and_eq_true, Bool.not_eq_true', Bool.and_eq_false_iff] at hk
  refine Rp.kindsL (L := !anyL ω) (D := !anyD ω) (k.minus_kd e l g (fun z => by simpa using z) (fun z => by simpa using z)) ps vs (fun z => ?_) (fun z => ?_) r
  · rcases hk.1 with q | q
    · rw [z] at q; cases q
    · rw [q]; rfl
  · rcases hk.2 with q | q
    · rw [z] at q; cases q
    · rw [q]; rfl
end
end Pv
end
section
set_option Elab.async false
set_option linter.all false
set_option maxRecDepth 100000
set_option maxHeartbeats 2000000
namespace Pv
open PySem PySem.Spec PyProof.Rows L2
variable {G : Gc} {B : Bx}
theorem set_get {α : Type} {l : List α} {i j : Nat} {x y : α} (h : (l.set i x)[j]? = some y) : (j = i ∧ y = x) ∨ (j ≠ i ∧ l[j]? = some y) := by
  by_cases e : j = i
  · subst e
    have hl : j < l.length := by have := getLt h; simpa using this
    rw [List.getElem?_set_self hl] at h
    exact .inl ⟨rfl, (Option.some.inj h).symm⟩
  · rw [List.getElem?_set_ne (Ne.symm e)] at h
    exact .inr ⟨e, h⟩
/-- a slot gets a value that is shared -/
theorem StOk.setV {H0 S0 S H : Hp} {σ : L2.St} {ω : Om} (k : StOk G H0 S0 S H σ ω) {v : V} {p : PV} (r : Rp S v p) (i : Nat) : StOk G H0 S0 S H (σ.set i (some v)) (ω.set i (some (.v p))) where
  ext := k.ext
  grow := k.grow
  le := k.le
  len := by rw [List.length_set, List.length_set]; exact k.len
  shd := fun j q h => by
    have hj : j < ω.length := by have := getLt h; simpa using this
    rcases set_get h with ⟨rfl, e⟩ | ⟨n, e⟩
    · cases e; exact ⟨v, List.getElem?_set_self (by rw [k.len]; exact hj), r⟩
    · rw [List.getElem?_set_ne (Ne.symm n)]; exact k.shd j q e
  own := fun j sv h ho => by
    rcases set_get h with ⟨rfl, e⟩ | ⟨n, e⟩
    · cases e; cases ho
    · rw [List.getElem?_set_ne (Ne.symm n)]; exact k.own j sv e ho
  dis := fun j l sj sl a h1 h2 h3 h4 h5 h6 => by
    rcases set_get h1 with ⟨rfl, e⟩ | ⟨n, e⟩
    · cases e; cases h2
    · rcases set_get h3 with ⟨rfl, e'⟩ | ⟨n', e'⟩
      · cases e'; cases h4
      · rw [List.getElem?_set_ne (Ne.symm n)] at h5
        rw [List.getElem?_set_ne (Ne.symm n')] at h6
        exact k.dis j l sj sl a e h2 e' h4 h5 h6
/-- a slot gets a new object of its own -/
theorem StOk.setO {H0 S0 S H : Hp} {σ : L2.St} {ω : Om} (k : StOk G H0 S0 S H σ ω) {a : Addr} {sv : SV} (hS : S a = none) (h0 : H0 a = none) (hh : Held S H a sv) (nw : ∀ (j : Nat) (sj : SV), ω[j]? = some (some sj) → sj.own = true → σ[j]? ≠ some (some (.ref a))) (i : Nat) : StOk G H0 S0 S H (σ.set i (some (.ref a))) (ω.set i (some sv)) where
  ext := k.ext
  grow := k.grow
  le := k.le
  len := by rw [List.length_set, List.length_set]; exact k.len
  shd := fun j q h => by
    rcases set_get h with ⟨rfl, e⟩ | ⟨n, e⟩
    · cases e; exact hh.elim
    · rw [List.getElem?_set_ne (Ne.symm n)]; exact k.shd j q e
  own := fun j sj h ho => by
    have hj : j < ω.length := by have := getLt h; simpa using this
    rcases set_get h with ⟨rfl, e⟩ | ⟨n, e⟩
    · cases e; exact ⟨a, List.getElem?_set_self (by rw [k.len]; exact hj), hS, h0, hh⟩
    · rw [List.getElem?_set_ne (Ne.symm n)]; exact k.own j sj e ho
  dis := fun j l sj sl b h1 h2 h3 h4 h5 h6 => by
    rcases set_get h1 with ⟨ej, e⟩ | ⟨n, e⟩
    · rcases set_get h3 with ⟨el, e'⟩ | ⟨n', e'⟩
      · rw [ej, el]
      · subst ej
        have hj : j < σ.length := by have := getLt h5; simpa using this
        rw [List.getElem?_set_self hj] at h5
        cases h5
        rw [List.getElem?_set_ne (Ne.symm n')] at h6
        exact absurd h6 (nw l sl e' h4)
    · rcases set_get h3 with ⟨el, e'⟩ | ⟨n', e'⟩
      · subst el
        have hj : l < σ.length := by have := getLt h6; simpa using this
        rw [List.getElem?_set_self hj] at h6
        cases h6
        rw [List.getElem?_set_ne (Ne.symm n)] at h5
        exact absurd h5 (nw j sj e h2)
      · rw [List.getElem?_set_ne (Ne.symm n)] at h5
        rw [List.getElem?_set_ne (Ne.symm n')] at h6
        exact k.dis j l sj sl b e h2 e' h4 h5 h6
theorem StOk.new {H0 S0 S H : Hp} {σ : L2.St} {ω : Om} (k : StOk G H0 S0 S H σ ω) {a : Addr} (n : H a = none) (j : Nat) (sj : SV) (h : ω[j]? = some (some sj)) (ho : sj.own = true) : σ[j]? ≠ some (some (.ref a)) := fun e => by
  obtain ⟨b, q1, _, _, q4⟩ := k.own j sj h ho
  rw [e] at q1; cases q1
  obtain ⟨o, eo, _⟩ := q4.some
  rw [n] at eo; cases eo
/-- an own object is shared from now on -/
theorem StOk.frzAt {H0 S0 S H : Hp} {σ : L2.St} {ω : Om} (k : StOk G H0 S0 S H σ ω) (i : Nat) : ∃ S', Sub S S' ∧ StOk G H0 S0 S' H σ (frzAt ω i) := by
  unfold Pv.frzAt
  split
  · rename_i sv hi
    cases ho : sv.own with
    | false =>
      cases sv with
      | v p =>
        have e : ω.set i (some (.v (SV.v p).pv)) = ω := by
          apply List.ext_getElem?
          intro j
          by_cases hj : j = i
          · subst hj; rw [List.getElem?_set_self (getLt hi), hi]; rfl
          · rw [List.getElem?_set_ne (Ne.symm hj)]
        rw [e]
        exact ⟨S, Sub.refl S, k⟩
      | l _ => cases ho
      | d _ _ => cases ho
      | t _ _ => cases ho
    | true =>
      obtain ⟨a, e1, e2, e3, e4⟩ := k.own i sv hi ho
      obtain ⟨o, eo, no⟩ := e4.some
      have sz : SzOk o := by
        cases sv with
        | v p => cases ho
        | l xs => obtain ⟨vs, e', z, _⟩ := e4; rw [eo] at e'; cases e'; exact z
        | d ks ps => obtain ⟨vs, e', z, _⟩ := e4; rw [eo] at e'; cases e'; exact trivial
        | t ks ps => obtain ⟨vs, e', z, _⟩ := e4; rw [eo] at e'; cases e'; exact trivial
      have sub : Sub S (upd S a o) := Sub.upd e2
      have rp : Rp (upd S a o) (.ref a) sv.pv := by
        cases sv with
        | v p => cases ho
        | l xs => obtain ⟨vs, e', z, r⟩ := e4; rw [eo] at e'; cases e'; exact .lst upd_same (r.mono sub)
        | d ks ps => obtain ⟨vs, e', z, r⟩ := e4; rw [eo] at e'; cases e'; subst z; exact .dK upd_same (r.mono sub)
        | t ks ps => obtain ⟨vs, e', z, r⟩ := e4; rw [eo] at e'; cases e'; subst z; exact .dT upd_same (r.mono sub)
      refine ⟨upd S a o, sub, ?_⟩
      refine ⟨k.ext, k.grow.put e2 e3, k.le.put eo no sz, by rw [List.length_set]; exact k.len, fun j q h => ?_, fun j sj h hj => ?_, fun j l sj sl b h1 h2 h3 h4 h5 h6 => ?_⟩
      · rcases set_get h with ⟨rfl, e⟩ | ⟨n, e⟩
        · cases e; exact ⟨_, e1, rp⟩
        · obtain ⟨v, q1, q2⟩ := k.shd j q e; exact ⟨v, q1, q2.mono sub⟩
      · rcases set_get h with ⟨rfl, e⟩ | ⟨n, e⟩
        · cases e; cases hj
        · obtain ⟨b, q1, q2, q3, q4⟩ := k.own j sj e hj
          have ne : b ≠ a := fun z => n (k.dis j i sj sv a e hj hi ho (by rw [← z]; exact q1) e1)
          exact ⟨b, q1, by rw [upd_ne ne]; exact q2, q3, q4.mono sub rfl⟩
      · rcases set_get h1 with ⟨rfl, e⟩ | ⟨n, e⟩
        · cases e; cases h2
        · rcases set_get h3 with ⟨rfl, e'⟩ | ⟨n', e'⟩
          · cases e'; cases h4
          · exact k.dis j l sj sl b e h2 e' h4 h5 h6
  · exact ⟨S, Sub.refl S, k⟩
theorem StOk.frz {H0 S0 H : Hp} {σ : L2.St} : ∀ (z : List Nat) {S : Hp} {ω : Om}, StOk G H0 S0 S H σ ω → ∃ S', Sub S S' ∧ StOk G H0 S0 S' H σ (frz ω z)
  | [], S, ω, k => ⟨S, Sub.refl S, k⟩
  | i :: is, S, ω, k => by
    obtain ⟨S1, h1, k1⟩ := k.frzAt i
    obtain ⟨S2, h2, k2⟩ := StOk.frz is k1
    exact ⟨S2, h1.trans h2, k2⟩
/-! ### an expression within a statement -/
def ev (z : List Nat) (vis : Bool) (f : Rho → Res PV) (ω : Om) : Res PV :=
  if vis = true then (f (shw (frz ω z))).bind fun p => if keepOk p (frz ω z) = true then .ok p else .bad else f (hid (frz ω z))
def EndV (G : Gc) (W : WX) (H0 S0 : Hp) (σ : L2.St) (ω : Om) (Q : VK) : Res PV → Prop
  | .ok p => ∀ v H' S', StOk G H0 S0 S' H' σ ω → Rp S' v p → Q v H'
  | .exc c => ∀ C H', G.cls c = some C → Ext G.T H0 H' → W (.ref C) none σ H'
  | .bad => False
theorem ev_run {W : WX} {z : List Nat} {vis : Bool} {f : Rho → Res PV} {H0 S0 S H : Hp} {σ : L2.St} {ω : Om} {Q : VK} (k : StOk G H0 S0 S H σ ω) (h : EndV G W H0 S0 σ (frz ω z) Q (ev z vis f ω)) : tE G W f σ H Q := by
  obtain ⟨S1, _, k1⟩ := k.frz z
  unfold ev at h
  cases vis with
  | false =>
    rw [if_neg Bool.false_ne_true] at h
    refine ⟨S1, hid (frz ω z), k1.le, k1.hid, ?_⟩
    cases e : f (hid (frz ω z)) with
    | ok p => rw [e] at h; exact fun v H' S' e1 l1 g1 r1 => h v H' S' (k1.step e1 l1 g1) r1
    | exc c => rw [e] at h; exact fun C H' hC e1 => h C H' hC (k1.ext.trans e1)
    | bad => rw [e] at h; exact h
  | true =>
    rw [if_pos rfl] at h
    refine ⟨_, shw (frz ω z), k1.plus_le, k1.shw, ?_⟩
    cases e : f (shw (frz ω z)) with
    | ok p =>
      rw [e] at h
      simp only [Res.bind] at h
      split at h
      · rename_i hk
        exact fun v H' S' e1 l1 g1 r1 => h v H' _ (k1.step e1 (k1.minus_le e1 l1 g1) (k1.minus_grow e1 l1 g1)) (k1.minus_rp e1 l1 g1 hk r1)
      · exact h.elim
    | exc c => rw [e] at h; exact fun C H' hC e1 => h C H' hC (k1.ext.trans e1)
    | bad => rw [e] at h; exact h
/-- a new list or dict -/
def evF (z : List Nat) (vis : Bool) (f : Rho → Res PV) (ω : Om) : Res SV :=
  match (if vis = true then f (shw (frz ω z)) else f (hid (frz ω z))) with
  | .ok (.lst ps) => if (vis = true → keepOks ps (frz ω z) = true) then .ok (.l ps) else .bad
  | .ok (.dK ks ps) => if (vis = true → keepOks ps (frz ω z) = true) then .ok (.d ks ps) else .bad
  | .ok (.dT ks ps) => if (vis = true → keepOks ps (frz ω z) = true) then .ok (.t ks ps) else .bad
  | .ok _ => .bad
  | .exc c => .exc c
  | .bad => .bad
def EndN (G : Gc) (W : WX) (H0 S0 : Hp) (σ : L2.St) (ω : Om) (Q : VK) : Res SV → Prop
  | .ok sv => ∀ a H' S', StOk G H0 S0 S' H' σ ω → S' a = none → H0 a = none → Held S' H' a sv → (∀ (j : Nat) (sj : SV), ω[j]? = some (some sj) → sj.own = true → σ[j]? ≠ some (some (.ref a))) → Q (.ref a) H'
  | .exc c => ∀ C H', G.cls c = some C → Ext G.T H0 H' → W (.ref C) none σ H'
  | .bad => False
theorem StOk.minus_none {S : Hp} {σ : L2.St} {ω : Om} {a : Addr} (h : S a = none) : minus S σ ω a = none := by
  unfold minus; split
  · rfl
  · exact h
theorem evF_run {W : WX} {z : List Nat} {vis : Bool} {f : Rho → Res PV} {H0 S0 S H : Hp} {σ : L2.St} {ω : Om} {Q : VK} (k : StOk G H0 S0 S H σ ω) (h : EndN G W H0 S0 σ (frz ω z) Q (evF z vis f ω)) : tF G W f σ H Q := by
  obtain ⟨S1, _, k1⟩ := k.frz z
  unfold evF at h
  cases vis with
  | false =>
    rw [if_neg Bool.false_ne_true] at h
    refine ⟨S1, hid (frz ω z), k1.le, k1.hid, ?_⟩
    cases e : f (hid (frz ω z)) with
    | ok p =>
      rw [e] at h
      cases p with
      | lst ps =>
        simp only [Bool.false_eq_true, false_implies, if_true] at h
        exact fun a vs H' S' e1 l1 g1 n1 n2 ea r1 z1 => h a H' S' (k1.step e1 l1 g1) n1 (k1.ext.no a n2) ⟨vs, ea, z1, r1⟩ (k1.new n2)
      | dK ks ps =>
        simp only [Bool.false_eq_true, false_implies, if_true] at h
        exact fun a vs H' S' e1 l1 g1 n1 n2 ea ek r1 => h a H' S' (k1.step e1 l1 g1) n1 (k1.ext.no a n2) ⟨vs, ea, ek, r1⟩ (k1.new n2)
      | dT ks ps =>
        simp only [Bool.false_eq_true, false_implies, if_true] at h
        exact fun a vs H' S' e1 l1 g1 n1 n2 ea ek r1 => h a H' S' (k1.step e1 l1 g1) n1 (k1.ext.no a n2) ⟨vs, ea, ek, r1⟩ (k1.new n2)
      | _ => exact h.elim
    | exc c => rw [e] at h; exact fun C H' hC e1 => h C H' hC (k1.ext.trans e1)
    | bad => rw [e] at h; exact h.elim
  | true =>
    rw [if_pos rfl] at h
    refine ⟨_, shw (frz ω z), k1.plus_le, k1.shw, ?_⟩
    cases e : f (shw (frz ω z)) with
    | ok p =>
      rw [e] at h
      cases p with
      | lst ps =>
        simp only [true_implies] at h
        split at h
        · rename_i hk
          exact fun a vs H' S' e1 l1 g1 n1 n2 ea r1 z1 => h a H' _ (k1.step e1 (k1.minus_le e1 l1 g1) (k1.minus_grow e1 l1 g1)) (StOk.minus_none n1) (k1.ext.no a n2) ⟨vs, ea, z1, k1.minus_rps e1 l1 g1 hk r1⟩ (k1.new n2)
        · exact h.elim
      | dK ks ps =>
        simp only [true_implies] at h
        split at h
        · rename_i hk
          exact fun a vs H' S' e1 l1 g1 n1 n2 ea ek r1 => h a H' _ (k1.step e1 (k1.minus_le e1 l1 g1) (k1.minus_grow e1 l1 g1)) (StOk.minus_none n1) (k1.ext.no a n2) ⟨vs, ea, ek, k1.minus_rps e1 l1 g1 hk r1⟩ (k1.new n2)
        · exact h.elim
      | dT ks ps =>
        simp only [true_implies] at h
        split at h
        · rename_i hk
          exact fun a vs H' S' e1 l1 g1 n1 n2 ea ek r1 => h a H' _ (k1.step e1 (k1.minus_le e1 l1 g1) (k1.minus_grow e1 l1 g1)) (StOk.minus_none n1) (k1.ext.no a n2) ⟨vs, ea, ek, k1.minus_rps e1 l1 g1 hk r1⟩ (k1.new n2)
        · exact h.elim
      | _ => exact h.elim
    | exc c => rw [e] at h; exact fun C H' hC e1 => h C H' hC (k1.ext.trans e1)
    | bad => rw [e] at h; exact h.elim
/-- a test -/
def evT (f : Rho → Res Bool) (ω : Om) : Res Bool := f (shw ω)
def EndU (G : Gc) (W : WX) (H0 S0 : Hp) (σ : L2.St) (ω : Om) (Q : Bool → Hp → Prop) : Res Bool → Prop
  | .ok b => ∀ H' S', StOk G H0 S0 S' H' σ ω → Q b H'
  | .exc c => ∀ C H', G.cls c = some C → Ext G.T H0 H' → W (.ref C) none σ H'
  | .bad => False
theorem evT_run {W : WX} {f : Rho → Res Bool} {H0 S0 S H : Hp} {σ : L2.St} {ω : Om} {Q : Bool → Hp → Prop} (k : StOk G H0 S0 S H σ ω) (h : EndU G W H0 S0 σ ω Q (evT f ω)) : tT G W f σ H Q := by
  unfold evT at h
  refine ⟨_, shw ω, k.plus_le, k.shw, ?_⟩
  cases e : f (shw ω) with
  | ok b => rw [e] at h; exact fun H' e1 => h H' S (k.step e1 (k.le.ext e1) ⟨Sub.refl S, fun _ _ z => .inl z⟩)
  | exc c => rw [e] at h; exact fun C H' hC e1 => h C H' hC (k.ext.trans e1)
  | bad => rw [e] at h; exact h
end Pv
end
section
set_option Elab.async false
set_option linter.all false
set_option maxRecDepth 100000
set_option maxHeartbeats 2000000
namespace Pv
open PySem PySem.Spec PyProof.Rows L2
variable {G : Gc} {B : Bx}
/-! ### statements -/
inductive SR where
  | nx (ω : Om) | rt (p : PV) | bk (ω : Om) | ct (ω : Om) | exc (c : Str) | bad
def SR.bind : SR → (Om → SR) → SR
  | .nx ω, f => f ω
  | r, _ => r
def SR.of {α : Type} : Res α → (α → SR) → SR
  | .ok a, f => f a
  | .exc c, _ => .exc c
  | .bad, _ => .bad
def EndS (G : Gc) (W : WX) (H0 S0 : Hp) (D : Ends) : SR → Prop
  | .nx ω => ∀ σ' H' S', StOk G H0 S0 S' H' σ' ω → D.nx σ' H'
  | .bk ω => ∀ σ' H' S', StOk G H0 S0 S' H' σ' ω → D.bk σ' H'
  | .ct ω => ∀ σ' H' S', StOk G H0 S0 S' H' σ' ω → D.ct σ' H'
  | .rt p => ∀ v H' S', Ext G.T H0 H' → Le G.T S' H' → Grow H0 S0 S' → Rp S' v p → D.rt v H'
  | .exc c => ∀ C σ' H', G.cls c = some C → Ext G.T H0 H' → W (.ref C) none σ' H'
  | .bad => False
def tS (G : Gc) (W : WX) (g : Om → SR) : TS := fun D σ H => ∃ H0 S0 S ω, StOk G H0 S0 S H σ ω ∧ EndS G W H0 S0 D (g ω)
/-- besides CxOk: the def's own frame stands -/
structure CxS (X : Cx) : Prop where
  pass : PassesOwn (model X.prog X.w) X.A X.env X.xe
structure JS (G : Gc) (B : Bx) (st : Stmt) (g : Om → SR) : Prop where
  run : ∀ (X : Cx) (W : WX), CxOk G B X → CxS X → L2N.Takes X W → PS X st (tS G W g)
structure JSs (G : Gc) (B : Bx) (st : List Stmt) (g : Om → SR) : Prop where
  run : ∀ (X : Cx) (W : WX), CxOk G B X → CxS X → L2N.Takes X W → PSs X st (tS G W g)
theorem PS.imp {X : Cx} {st : Stmt} {t u : TS} (h : PS X st t) (i : ∀ D σ H, u D σ H → t D σ H) : PS X st u := ⟨fun pins s σ H D I q => h.run pins s σ H D I (i D σ H q)⟩
theorem PSs.imp {X : Cx} {st : List Stmt} {t u : TS} (h : PSs X st t) (i : ∀ D σ H, u D σ H → t D σ H) : PSs X st u := ⟨fun pins s σ H D I q => h.run pins s σ H D I (i D σ H q)⟩
def sSkip : Om → SR := .nx
def sSeq (a b : Om → SR) : Om → SR := fun ω => (a ω).bind b
theorem JSs.nil : JSs G B [] sSkip := ⟨fun X W ok cs tk => PSs.imp pss_nil fun D σ H ⟨H0, S0, S, ω, k, he⟩ => he σ H S k⟩
theorem EndS.bind {W : WX} {H0 S0 : Hp} {D : Ends} {r : SR} {g : Om → SR} (he : EndS G W H0 S0 D (r.bind g)) : EndS G W H0 S0 { D with nx := tS G W g D } r := by
  cases r with
  | nx ω => exact fun σ' H' S' k => ⟨H0, S0, S', ω, k, he⟩
  | rt p => exact he
  | bk ω => exact he
  | ct ω => exact he
  | exc c => exact he
  | bad => exact he
theorem JSs.cons {st : Stmt} {sts : List Stmt} {a b : Om → SR} (h : JS G B st a) (t : JSs G B sts b) : JSs G B (st :: sts) (sSeq a b) := ⟨fun X W ok cs tk => PSs.imp (pss_cons (h.run X W ok cs tk) (t.run X W ok cs tk)) fun D σ H ⟨H0, S0, S, ω, k, he⟩ => ⟨H0, S0, S, ω, k, EndS.bind he⟩⟩
theorem JSs.one {st : Stmt} {a : Om → SR} (h : JS G B st a) : JSs G B [st] a := ⟨fun X W ok cs tk => pss_one (h.run X W ok cs tk)⟩
/-! return, expressions -/
def sRet (f : Rho → Res PV) : Om → SR := fun ω => SR.of (f (shw ω)) .rt
theorem JS.ret {e : Expr} {f : Rho → Res PV} {pos : Pos} (h : JE G B e f) : JS G B (.Return (some e) pos) (sRet f) := ⟨fun X W ok cs tk => PS.imp (ps_ret (h.run X W ok tk)) fun D σ H ⟨H0, S0, S, ω, k, he⟩ => by
  refine ⟨_, shw ω, k.plus_le, k.shw, ?_⟩
  unfold sRet at he
  cases e1 : f (shw ω) with
  | ok p => rw [e1] at he; exact fun v H' S' e l g r => he v H' S' (k.ext.trans e) l (k.plus_grow0.trans k.ext g) r
  | exc c => rw [e1] at he; exact fun C H' hC e => he C σ H' hC (k.ext.trans e)
  | bad => rw [e1] at he; exact he⟩
def sRetN : Om → SR := fun _ => .rt .non
theorem JS.retN {pos : Pos} : JS G B (.Return none pos) sRetN := ⟨fun X W ok cs tk => PS.imp ps_retN fun D σ H ⟨H0, S0, S, ω, k, he⟩ => he .non H S k.ext k.le k.grow .non⟩
def sExpr (f : Rho → Res PV) : Om → SR := fun ω => SR.of (f (shw ω)) fun _ => .nx ω
theorem JS.expr {e : Expr} {f : Rho → Res PV} {pos : Pos} (h : JE G B e f) (hs : ∀ env, swapsWith e none pos.line env = pure false := by exact fun _ => rfl) : JS G B (.Expr e pos) (sExpr f) := ⟨fun X W ok cs tk => PS.imp (ps_expr (h.run X W ok tk) (hs _)) fun D σ H ⟨H0, S0, S, ω, k, he⟩ => by
  refine ⟨_, shw ω, k.plus_le, k.shw, ?_⟩
  unfold sExpr at he
  cases e1 : f (shw ω) with
  | ok p => rw [e1] at he; exact fun v H' S' e l g r => he σ H' S (k.step e (k.le.ext e) ⟨Sub.refl S, fun _ _ z => .inl z⟩)
  | exc c => rw [e1] at he; exact fun C H' hC e => he C σ H' hC (k.ext.trans e)
  | bad => rw [e1] at he; exact he⟩
theorem JS.pass {pos : Pos} : JS G B (.Pass pos) sSkip := ⟨fun X W ok cs tk => PS.imp ps_pass fun D σ H ⟨H0, S0, S, ω, k, he⟩ => he σ H S k⟩
def sBrk : Om → SR := .bk
def sCnt : Om → SR := .ct
theorem JS.brk {pos : Pos} : JS G B (.Break pos) sBrk := ⟨fun X W ok cs tk => PS.imp ps_break fun D σ H ⟨H0, S0, S, ω, k, he⟩ => he σ H S k⟩
theorem JS.cnt {pos : Pos} : JS G B (.Continue pos) sCnt := ⟨fun X W ok cs tk => PS.imp ps_continue fun D σ H ⟨H0, S0, S, ω, k, he⟩ => he σ H S k⟩
def sIf (t : Rho → Res Bool) (a b : Om → SR) : Om → SR := fun ω => SR.of (evT t ω) fun c => if c = true then a ω else b ω
theorem JS.if {c : Expr} {a b : List Stmt} {t : Rho → Res Bool} {fa fb : Om → SR} {pos : Pos} (hc : JT G B c t) (ha : JSs G B a fa) (hb : JSs G B b fb) : JS G B (.If c a b pos) (sIf t fa fb) := ⟨fun X W ok cs tk => PS.imp (ps_if (hc.run X W ok tk) (ha.run X W ok cs tk) (hb.run X W ok cs tk)) fun D σ H ⟨H0, S0, S, ω, k, he⟩ => by
  refine evT_run (H0 := H0) (S0 := S0) k ?_
  unfold sIf at he
  cases e1 : evT t ω with
  | ok c =>
    rw [e1] at he
    intro H' S' k'
    have he : EndS G W H0 S0 D (if c = true then fa ω else fb ω) := he
    split
    · rename_i z; rw [if_pos z] at he; exact ⟨H0, S0, S', ω, k', he⟩
    · rename_i z; rw [if_neg z] at he; exact ⟨H0, S0, S', ω, k', he⟩
  | exc c => rw [e1] at he; exact fun C H' hC e => he C σ H' hC e
  | bad => rw [e1] at he; exact he⟩
/-! stores to names -/
def sAsg (z : List Nat) (vis : Bool) (f : Rho → Res PV) (i : Nat) : Om → SR := fun ω => SR.of (ev z vis f ω) fun p => .nx ((frz ω z).set i (some (.v p)))
theorem tS.asg {W : WX} {z : List Nat} {vis : Bool} {f : Rho → Res PV} {i : Nat} {D : Ends} {σ : L2.St} {H : Hp} (h : tS G W (sAsg z vis f i) D σ H) : tAsg (tE G W f) (gName i) D σ H := by
  obtain ⟨H0, S0, S, ω, k, he⟩ := h
  refine ev_run (z := z) (vis := vis) k ?_
  unfold sAsg at he
  cases e1 : ev z vis f ω with
  | ok p => rw [e1] at he; exact fun v H' S' k' r => he _ H' S' (k'.setV r i)
  | exc c => rw [e1] at he; exact fun C H' hC e => he C σ H' hC e
  | bad => rw [e1] at he; exact he
structure Stores (B : Bx) (x : Str) (i : Nat) : Prop where
  N : B.N[i]? = some x
  loc : Loc B.sc x
  fn : B.fn x = true ∨ B.sc.names.lookup x = some .local
theorem JS.asg {x : Str} {i : Nat} {e : Expr} {f : Rho → Res PV} {pos' pos : Pos} (z : List Nat) (vis : Bool) (hx : Stores B x i) (h : JE G B e f) (hs : ∀ env : Env, env.scope = B.sc → swapsWith e (some (.Name x pos')) pos.line env = pure false := by exact fun _ _ => rfl) : JS G B (.Assign [.Name x pos'] e pos) (sAsg z vis f i) := ⟨fun X W ok cs tk =>
  PS.imp (ps_set (by rw [ok.N]; exact ok.nd) (by rw [ok.N]; exact hx.N) (by rw [ok.sc]; exact hx.loc) (h.run X W ok tk) (hs _ ok.sc) (hx.fn.elim (fun z => .inl (ok.fn x z)) (fun z => .inr (by rw [ok.sc]; exact z)))) fun D σ H h => tS.asg h⟩
def sNew (z : List Nat) (vis : Bool) (f : Rho → Res PV) (i : Nat) : Om → SR := fun ω => SR.of (evF z vis f ω) fun sv => .nx ((frz ω z).set i (some sv))
theorem tS.new {W : WX} {z : List Nat} {vis : Bool} {f : Rho → Res PV} {i : Nat} {D : Ends} {σ : L2.St} {H : Hp} (h : tS G W (sNew z vis f i) D σ H) : tAsg (tF G W f) (gName i) D σ H := by
  obtain ⟨H0, S0, S, ω, k, he⟩ := h
  refine evF_run (z := z) (vis := vis) k ?_
  unfold sNew at he
  cases e1 : evF z vis f ω with
  | ok sv => rw [e1] at he; exact fun a H' S' k' n1 n2 hh nw => he _ H' S' (k'.setO n1 n2 hh nw i)
  | exc c => rw [e1] at he; exact fun C H' hC e => he C σ H' hC e
  | bad => rw [e1] at he; exact he
theorem JS.new {x : Str} {i : Nat} {e : Expr} {f : Rho → Res PV} {pos' pos : Pos} (z : List Nat) (vis : Bool) (hx : Stores B x i) (h : JF G B e f) (hs : ∀ env : Env, env.scope = B.sc → swapsWith e (some (.Name x pos')) pos.line env = pure false := by exact fun _ _ => rfl) : JS G B (.Assign [.Name x pos'] e pos) (sNew z vis f i) := ⟨fun X W ok cs tk =>
  PS.imp (ps_set (by rw [ok.N]; exact ok.nd) (by rw [ok.N]; exact hx.N) (by rw [ok.sc]; exact hx.loc) (h.run X W ok tk) (hs _ ok.sc) (hx.fn.elim (fun z => .inl (ok.fn x z)) (fun z => .inr (by rw [ok.sc]; exact z)))) fun D σ H h => tS.new h⟩
theorem sw_no {elt : Expr} {gs : List Comprehension} {scope : Scope} {pos py : Pos} {y : Str} {l : Nat} {env : Env} {sc : Scope} (he : env.scope = sc) (hy : sc.names.lookup y = some .cell) : swapsWith (.ListComp elt gs scope pos) (some (.Name y py)) l env = pure false := by
  have ky : env.kindOf y = some .cell := by show env.scope.names.lookup y = _; rw [he]; exact hy
  unfold swapsWith
  simp only [ky]
  have e : (some NameKind.cell == some NameKind.local) = false := rfl
  simp only [e, Bool.and_false, Bool.false_and]
/-- y = [..], y a local -/
theorem JS.lcL [hcm : Cool B] {y : Str} {i : Nat} {elt tg iter : Expr} {ifs : List Expr} {scope : Scope} {own : List (Str × Nat)} {pos py spos : Pos} {f : Rho → Res (List PV)} {pt : Pat} {tt : Rho → Res Bool} {te : Rho → Res PV} (hy : B.N[i]? = some y) (hyl : B.sc.names.lookup y = some .local) (hk : B.sc.kind = .function) (hl : (py.line == pos.line) = true)
    (ha : (scope.names.any fun (n, k) => n == y && (k == .local || k == .cell)) = false) (hi : JI G B tg iter f) (hb : blkC B.N B.sc scope own = true) (hp : ∀ i ∈ pt.slots, i ∈ own.map (·.2))
    (hg : JG G (B.blk scope) tg pt) (ht : JTs G (B.blk scope) ifs tt) (he : JE G (B.blk scope) elt te) (hs : ∀ env x, foldedSetIterable iter env x = pure x := by intro _ _; rfl) :
    ∀ (X : Cx) (W : WX), CxOk G B X → L2N.Takes X W → PS X (.Assign [.Name y py] (.ListComp elt [⟨tg, iter, ifs, 0⟩] scope pos) spos) (tAsg (tF G W (eLc f (own.map (·.2)) pt tt te)) (gName i)) := fun X W ok tk =>
  PS.imp (ps_setLc (g := gPat X.K pt) (tt := tT G W0 tt) (te := tE G W0 te) (ok.calm hcm.out) (by rw [ok.N]; exact ok.nd) (by rw [ok.N]; exact hy) (by rw [ok.sc]; exact hyl) (sw_true (by rw [ok.sc]; exact hk) (by rw [ok.sc]; exact hyl) hl ha) (hi.run X W ok tk) (by rw [ok.N, ok.sc]; exact blkOk_by hb) (fun s H C cl fp => hg.run _ (ok.blk s H C cl fp)) (fun s H C cl fp => ht.run _ W0 (ok.blk s H C cl fp) takesF) (fun s H C cl fp => he.run _ W0 (ok.blk s H C cl fp) takesF) (fun x => hs _ x))
    fun D σ H h => tLc_of hp h
theorem tE_tF {W : WX} {f : Rho → Res PV} (hf : ∀ ρ, fresh (f ρ)) {σ : L2.St} {H : Hp} {Q : VK} (h : tE G W f σ H Q) : tF G W f σ H Q := by
  obtain ⟨S, ρ, hl, hs, he⟩ := h
  exact ⟨S, ρ, hl, hs, EndE.toF (hf ρ) he⟩
/-! what owns is changed -/
theorem StOk.alter {H0 S0 S H : Hp} {σ : L2.St} {ω : Om} (k : StOk G H0 S0 S H σ ω) {i : Nat} {sv sv' : SV} {a : Addr} {o : HO} (hi : ω[i]? = some (some sv)) (ho : sv.own = true) (ho' : sv'.own = true) (hs : σ[i]? = some (some (.ref a))) (hh : Held S (L2.upd H a o) a sv') : StOk G H0 S0 S (L2.upd H a o) σ (ω.set i (some sv')) := by
  obtain ⟨b, e1, e2, e3, e4⟩ := k.own i sv hi ho
  rw [hs] at e1; cases e1
  obtain ⟨o0, eo, no⟩ := e4.some
  have nx : ∀ φ, o0 ≠ .ext φ := fun φ z => by
    cases sv with
    | v p => cases ho
    | l xs => obtain ⟨vs, e', _⟩ := e4; rw [eo] at e'; cases e'; cases z
    | d ks ps => obtain ⟨vs, e', _⟩ := e4; rw [eo] at e'; cases e'; cases z
    | t ks ps => obtain ⟨vs, e', _⟩ := e4; rw [eo] at e'; cases e'; cases z
  have tb : LamX.Tabs G.T H → LamX.Tabs G.T (L2.upd H a o) := fun t => Tabs.alter t eo no nx
  refine ⟨⟨fun b u q n => by rw [upd_ne (ne_of_none q e3)]; exact k.ext.st b u q n, fun b q => ?_, fun t => tb (k.ext.tb t)⟩, k.grow, ⟨fun b u q => (k.le b u q).map fun w z _ => by rw [upd_ne (ne_of_none q e2)]; exact z, tb k.le.tabs, k.le.sz⟩, by rw [List.length_set]; exact k.len, fun j q h => ?_, fun j sj h hj => ?_, fun j l sj sl b h1 h2 h3 h4 h5 h6 => ?_⟩
  · by_cases hb : b = a
    · rw [hb]; exact e3
    · rw [upd_ne hb] at q; exact k.ext.no b q
  · rcases set_get h with ⟨rfl, e⟩ | ⟨n, e⟩
    · cases e; cases ho'
    · exact k.shd j q e
  · rcases set_get h with ⟨rfl, e⟩ | ⟨n, e⟩
    · cases e; exact ⟨a, hs, e2, e3, hh⟩
    · obtain ⟨b, q1, q2, q3, q4⟩ := k.own j sj e hj
      have ne : b ≠ a := fun z => n (k.dis j i sj sv a e hj hi ho (by rw [← z]; exact q1) hs)
      exact ⟨b, q1, q2, q3, q4.mono (Sub.refl S) (by rw [upd_ne ne])⟩
  · rcases set_get h1 with ⟨rfl, e⟩ | ⟨n, e⟩
    · rcases set_get h3 with ⟨rfl, e'⟩ | ⟨n', e'⟩
      · rfl
      · exact k.dis j l sv sl b hi ho e' h4 h5 h6
    · rcases set_get h3 with ⟨rfl, e'⟩ | ⟨n', e'⟩
      · exact k.dis j l sj sv b e h2 hi ho h5 h6
      · exact k.dis j l sj sl b e h2 e' h4 h5 h6
def sApp (z : List Nat) (vis : Bool) (f : Rho → Res PV) (i : Nat) : Om → SR := fun ω => match (frz ω z)[i]? with
  | some (some (.l xs)) => SR.of (ev z vis f ω) fun p => if xs.length < 16777216 then .nx ((frz ω z).set i (some (.l (xs ++ [p])))) else .bad
  | _ => .bad
theorem tyV_lst {K : PySem.W.Frag} {H : Hp} {a : Addr} {vs : List V} (h : H a = some (.lst vs)) : tyV K "list" (.ref a) H := .inl ⟨rfl, _, .inl (.inl h)⟩
theorem JS.app {x : Str} {i : Nat} {e : Expr} {f : Rho → Res PV} {px apos cpos pos : Pos} (z : List Nat) (vis : Bool) (hN : B.N[i]? = some x) (hv : Vis B.sc x) (h : JE G B e f) (hline : (apos.endLine == cpos.line) = true := by rfl) (hd : (x == ("__debug__" : Str)) = false := by decide) (hcd : (x == ("__classdict__" : Str)) = false := by decide) (hs : NoStar e := by exact fun _ _ => rfl) :
    JS G B (.Expr (.Call (.Attribute (.Name x px) "append" apos) [e] [] cpos) pos) (sApp z vis f i) := ⟨fun X W ok cs tk => by
  refine PS.imp (ps_expr (pe_bm PySem.F.plainAttrs_list PySem.F.slot_list_append PySem.F.type_list_append mt_append (pe_var (i := i) (by rw [ok.N]; exact hN) (by rw [ok.sc]; exact hv) hd hcd) (pa_cons (h.run X W ok tk) pa_nil (hs _ _)) rfl (by rw [hs]; rfl) hline (hs _ _) rfl) rfl) fun D σ H ⟨H0, S0, S, ω, k, he⟩ => ?_
  unfold sApp at he
  split at he
  · rename_i xs hx
    obtain ⟨S1, _, k1⟩ := k.frz z
    obtain ⟨a, e1, e2, e3, vs, e4, e5, e6⟩ := k1.own i _ hx rfl
    refine ⟨.ref a, e1, tyV_lst e4, ?_⟩
    refine ev_run (z := z) (vis := vis) k ?_
    cases e7 : ev z vis f ω with
    | ok p =>
      rw [e7] at he
      intro v H' S' k' r
      have he : EndS G W H0 S0 D (if xs.length < 16777216 then .nx ((frz ω z).set i (some (.l (xs ++ [p])))) else .bad) := he
      split at he
      · rename_i hz
        obtain ⟨a', q1, q2, q3, vs', q4, q5, q6⟩ := k'.own i _ hx rfl
        rw [e1] at q1; cases q1
        have hl : vs'.length = xs.length := q6.length
        exact ⟨_, _, _, rfl, rfl, q4, by rw [szl, hl]; exact hz, he σ _ S' (k'.alter hx rfl rfl e1 ⟨_, upd_same, by rw [List.length_append, List.length_singleton, szl, hl]; omega, q6.append (.cons r .nil)⟩)⟩
      · exact he.elim
    | exc c => rw [e7] at he; exact fun C H' hC e => he C σ H' hC e
    | bad => rw [e7] at he; exact he
  · exact he.elim⟩
def sExt (z : List Nat) (f : Rho → Res PV) (i : Nat) : Om → SR := fun ω => match (frz ω z)[i]? with
  | some (some (.l xs)) => SR.of (ev z false f ω) fun p => match p with
    | .lst ys => if xs.length + ys.length ≤ 16777216 then .nx ((frz ω z).set i (some (.l (xs ++ ys)))) else .bad
    | _ => .bad
  | _ => .bad
theorem JS.extend {x : Str} {i : Nat} {e : Expr} {f : Rho → Res PV} {px apos cpos pos : Pos} (z : List Nat) (hN : B.N[i]? = some x) (hv : Vis B.sc x) (h : JE G B e f) (hline : (apos.endLine == cpos.line) = true := by rfl) (hd : (x == ("__debug__" : Str)) = false := by decide) (hcd : (x == ("__classdict__" : Str)) = false := by decide) (hs : NoStar e := by exact fun _ _ => rfl) :
    JS G B (.Expr (.Call (.Attribute (.Name x px) "extend" apos) [e] [] cpos) pos) (sExt z f i) := ⟨fun X W ok cs tk => by
  refine PS.imp (ps_expr (pe_bm PySem.F.plainAttrs_list PySem.F.slot_list_extend PySem.F.type_list_extend mt_extend (pe_var (i := i) (by rw [ok.N]; exact hN) (by rw [ok.sc]; exact hv) hd hcd) (pa_cons (h.run X W ok tk) pa_nil (hs _ _)) rfl (by rw [hs]; rfl) hline (hs _ _) rfl) rfl) fun D σ H ⟨H0, S0, S, ω, k, he⟩ => ?_
  unfold sExt at he
  split at he
  · rename_i xs hx
    obtain ⟨S1, _, k1⟩ := k.frz z
    obtain ⟨a, e1, e2, e3, vs, e4, e5, e6⟩ := k1.own i _ hx rfl
    refine ⟨.ref a, e1, tyV_lst e4, ?_⟩
    refine ev_run (z := z) (vis := false) k ?_
    cases e7 : ev z false f ω with
    | ok p =>
      rw [e7] at he
      intro v H' S' k' r
      simp only [SR.of] at he
      split at he
      · rename_i ys
        split at he
        · rename_i hz
          obtain ⟨a', q1, q2, q3, vs', q4, q5, q6⟩ := k'.own i _ hx rfl
          rw [e1] at q1; cases q1
          have hl : vs'.length = xs.length := q6.length
          cases r with
          | lst eb rb =>
            have hl2 := rb.length
            exact ⟨_, _, _, _, rfl, rfl, q4, k'.le _ _ eb, by rw [szl, hl, hl2]; exact hz, he σ _ S' (k'.alter hx rfl rfl e1 ⟨_, upd_same, by rw [List.length_append, szl, hl, hl2]; exact hz, q6.append rb⟩)⟩
        · exact he.elim
      · exact he.elim
    | exc c => rw [e7] at he; exact fun C H' hC e => he C σ H' hC e
    | bad => rw [e7] at he; exact he
  · exact he.elim⟩
end Pv
end
section
set_option Elab.async false
set_option linter.all false
set_option maxRecDepth 100000
set_option maxHeartbeats 2000000
namespace Pv
open PySem PySem.Spec PyProof.Rows L2
variable {G : Gc} {B : Bx}
/-! d[k] = e -/
def dSet {κ : Type} [DecidableEq κ] : List κ → List PV → κ → PV → List PV
  | k' :: ks, v :: vs, k, p => (if k' = k then p else v) :: dSet ks vs k p
  | _, vs, _, _ => vs
def dPut {κ : Type} [DecidableEq κ] (ks : List κ) (vs : List PV) (k : κ) (p : PV) : List κ × List PV := if ks.contains k = true then (ks, dSet ks vs k p) else (ks ++ [k], vs ++ [p])
theorem any_contains {κ : Type} [DecidableEq κ] (k : κ) : ∀ kvs : List (κ × V), (kvs.any fun kv => decide (kv.1 = k)) = (kvs.map (·.1)).contains k
  | [] => rfl
  | (k', v) :: r => by
    rw [List.any_cons, List.map_cons, List.contains_cons, any_contains k r]
    by_cases e : k' = k
    · subst e; simp
    · have e' : ¬ k = k' := fun z => e z.symm
      simp [e, e']
theorem dSet_rp {κ : Type} [DecidableEq κ] {S : Hp} {k : κ} {v : V} {p : PV} (r : Rp S v p) : ∀ {kvs : List (κ × V)} {ps : List PV}, RpL S (kvs.map (·.2)) ps → RpL S ((kvs.map fun kv => if kv.1 = k then (kv.1, v) else kv).map (·.2)) (dSet (kvs.map (·.1)) ps k p)
  | [], _, .nil => .nil
  | (k', w) :: t, q :: ps, .cons a b => by
    simp only [List.map_cons, dSet]
    by_cases e : k' = k
    · rw [if_pos e, if_pos e]; exact .cons r (dSet_rp r b)
    · rw [if_neg e, if_neg e]; exact .cons a (dSet_rp r b)
theorem dSet_keys {κ : Type} [DecidableEq κ] {k : κ} {v : V} : ∀ kvs : List (κ × V), (kvs.map fun kv => if kv.1 = k then (kv.1, v) else kv).map (·.1) = kvs.map (·.1)
  | [] => rfl
  | (k', w) :: t => by
    simp only [List.map_cons]
    rw [dSet_keys t]
    by_cases e : k' = k
    · rw [if_pos e]
    · rw [if_neg e]
theorem dPut_rp {κ : Type} [DecidableEq κ] {S : Hp} {k : κ} {v : V} {p : PV} (r : Rp S v p) {kvs : List (κ × V)} {ps : List PV} (h : RpL S (kvs.map (·.2)) ps) : (putK kvs k v).map (·.1) = (dPut (kvs.map (·.1)) ps k p).1 ∧ RpL S ((putK kvs k v).map (·.2)) (dPut (kvs.map (·.1)) ps k p).2 := by
  unfold putK dPut
  rw [any_contains]
  split
  · exact ⟨dSet_keys kvs, dSet_rp r h⟩
  · exact ⟨by simp, by simpa using h.append (.cons r .nil)⟩
theorem StOk.base {H0 S0 S H : Hp} {σ : L2.St} {ω : Om} (k : StOk G H0 S0 S H σ ω) : StOk G H0 S S H σ ω := ⟨k.ext, Grow.refl _ _, k.le, k.len, k.shd, k.own, k.dis⟩
theorem Grow.comp {H S S1 S2 : Hp} (a : Grow H S S1) (b : Grow H S1 S2) : Grow H S S2 := ⟨a.sub.trans b.sub, fun x o h => (b.new x o h).elim (fun q => a.new x o q) .inr⟩
theorem StOk.unbase {H0 S0 S1 S H : Hp} {σ : L2.St} {ω : Om} (g : Grow H0 S0 S1) (k : StOk G H0 S1 S H σ ω) : StOk G H0 S0 S H σ ω := ⟨k.ext, g.comp k.grow, k.le, k.len, k.shd, k.own, k.dis⟩
def sPut (z : List Nat) (vis vik : Bool) (fv fk : Rho → Res PV) (i : Nat) : Om → SR := fun ω => match (frz ω z)[i]? with
  | some (some (.d ks vs)) => SR.of (ev z vis fv ω) fun p => SR.of (ev [] vik fk (frz ω z)) fun q => match keyOf q with
    | some k => if vs.length < 16777216 then .nx ((frz ω z).set i (some (.d (dPut ks vs k p).1 (dPut ks vs k p).2))) else .bad
    | none => .bad
  | some (some (.t ks vs)) => SR.of (ev z vis fv ω) fun p => SR.of (ev [] vik fk (frz ω z)) fun q => match q with
    | .tup qs => (match keysOf qs with
      | some k => if vs.length < 16777216 then .nx ((frz ω z).set i (some (.t (dPut ks vs k p).1 (dPut ks vs k p).2))) else .bad
      | none => .bad)
    | _ => .bad
  | _ => .bad
theorem JS.put {x : Str} {i : Nat} {ek e : Expr} {fv fk : Rho → Res PV} {px pos' pos : Pos} (z : List Nat) (vis vik : Bool) (hN : B.N[i]? = some x) (hv : Vis B.sc x) (hk : JE G B ek fk) (h : JE G B e fv) (hs : ∀ env, swapsWith e (some (.Subscript (.Name x px) ek pos')) pos.line env = pure false := by exact fun _ => rfl) (hd : (x == ("__debug__" : Str)) = false := by decide) (hcd : (x == ("__classdict__" : Str)) = false := by decide) :
    JS G B (.Assign [.Subscript (.Name x px) ek pos'] e pos) (sPut z vis vik fv fk i) := ⟨fun X W ok cs tk => by
  refine PS.imp (ps_dput (by have := ok.units; omega) (pe_var (i := i) (by rw [ok.N]; exact hN) (by rw [ok.sc]; exact hv) hd hcd) (hk.run X W ok tk) (h.run X W ok tk) (hs _)) fun D σ H ⟨H0, S0, S, ω, k, he⟩ => ?_
  unfold sPut at he
  split at he
  · rename_i ks vs hx
    refine ev_run (z := z) (vis := vis) k ?_
    cases e1 : ev z vis fv ω with
    | exc c => rw [e1] at he; exact fun C H' hC e => he C σ H' hC e
    | bad => rw [e1] at he; exact he
    | ok p =>
      rw [e1] at he
      intro v H1 S1 k1 r1
      simp only [SR.of] at he
      obtain ⟨a, q1, q2, q3, kvs, q4, q5, q6⟩ := k1.own i _ hx rfl
      refine ⟨.ref a, q1, ev_run (z := []) (vis := vik) k1.base ?_⟩
      show EndV G W H0 S1 σ (frz ω z) _ (ev [] vik fk (frz ω z))
      cases e2 : ev [] vik fk (frz ω z) with
      | exc c => rw [e2] at he; exact fun C H' hC e => he C σ H' hC e
      | bad => rw [e2] at he; exact he
      | ok q =>
        rw [e2] at he
        intro w H2 S2 k2 r2
        simp only at he
        split at he
        · rename_i kk hkk
          split at he
          · rename_i hz
            obtain ⟨a', p1, p2, p3, kvs', p4, p5, p6⟩ := k2.own i _ hx rfl
            rw [q1] at p1; cases p1
            have hl : kvs'.length = vs.length := by have := p6.length; simpa using this
            have dp := dPut_rp (k := kk) (r1.mono k2.grow.sub) p6
            rw [p5] at dp
            refine ⟨a, _, rfl, .inl ⟨kvs', kk, p4, keyOf_rp hkk r2, by rw [szl, hl]; exact hz, rfl⟩, he σ _ S2 ((k2.unbase k1.grow).alter hx rfl rfl q1 ⟨_, upd_same, dp.1, dp.2⟩)⟩
          · exact he.elim
        · exact he.elim
  · rename_i ks vs hx
    refine ev_run (z := z) (vis := vis) k ?_
    cases e1 : ev z vis fv ω with
    | exc c => rw [e1] at he; exact fun C H' hC e => he C σ H' hC e
    | bad => rw [e1] at he; exact he
    | ok p =>
      rw [e1] at he
      intro v H1 S1 k1 r1
      simp only [SR.of] at he
      obtain ⟨a, q1, q2, q3, kvs, q4, q5, q6⟩ := k1.own i _ hx rfl
      refine ⟨.ref a, q1, ev_run (z := []) (vis := vik) k1.base ?_⟩
      show EndV G W H0 S1 σ (frz ω z) _ (ev [] vik fk (frz ω z))
      cases e2 : ev [] vik fk (frz ω z) with
      | exc c => rw [e2] at he; exact fun C H' hC e => he C σ H' hC e
      | bad => rw [e2] at he; exact he
      | ok q =>
        rw [e2] at he
        intro w H2 S2 k2 r2
        simp only at he
        split at he
        · rename_i qs
          split at he
          · rename_i kk hkk
            split at he
            · rename_i hz
              obtain ⟨a', p1, p2, p3, kvs', p4, p5, p6⟩ := k2.own i _ hx rfl
              rw [q1] at p1; cases p1
              have hl : kvs'.length = vs.length := by have := p6.length; simpa using this
              have dp := dPut_rp (k := kk) (r1.mono k2.grow.sub) p6
              rw [p5] at dp
              cases r2 with
              | tup eb rb =>
                refine ⟨a, _, rfl, .inr ⟨kvs', kk, _, p4, rfl, by rw [← keysOf_rp hkk rb]; exact k2.le _ _ eb, by rw [szl, hl]; exact hz, rfl⟩, he σ _ S2 ((k2.unbase k1.grow).alter hx rfl rfl q1 ⟨_, upd_same, dp.1, dp.2⟩)⟩
            · exact he.elim
          · exact he.elim
        · exact he.elim
  · exact he.elim⟩
/-! while -/
def sWhl (t : Rho → Res Bool) (b : Om → SR) : Nat → Om → SR
  | 0, _ => .bad
  | n + 1, ω => SR.of (evT t ω) fun c => if c = true then (match b ω with
    | .nx ω' => sWhl t b n ω'
    | .ct ω' => sWhl t b n ω'
    | .bk ω' => .nx ω'
    | r => r) else .nx ω
theorem JS.while {c : Expr} {body : List Stmt} {t : Rho → Res Bool} {b : Om → SR} {pos : Pos} (n : Nat) (hc : JT G B c t) (hb : JSs G B body b) : JS G B (.While c body [] pos) (sWhl t b n) := ⟨fun X W ok cs tk => by
  refine PS.imp (ps_while cs.pass (hc.run X W ok tk) (hb.run X W ok cs tk)) fun D σ H ⟨H0, S0, S, ω, k, he⟩ => ?_
  refine ⟨fun m σ H => ∃ S ω, StOk G H0 S0 S H σ ω ∧ EndS G W H0 S0 D (sWhl t b m ω), ⟨n, S, ω, k, he⟩, ?_⟩
  rintro m σ H ⟨S, ω, k, he⟩
  cases m with
  | zero => exact he.elim
  | succ m =>
    refine evT_run (H0 := H0) (S0 := S0) k ?_
    unfold sWhl at he
    cases e1 : evT t ω with
    | exc c => rw [e1] at he; exact fun C H' hC e => he C σ H' hC e
    | bad => rw [e1] at he; exact he
    | ok c =>
      rw [e1] at he
      intro H' S' k'
      simp only [SR.of] at he
      split
      · rename_i hc
        rw [if_pos hc] at he
        refine ⟨fun σ H => ∃ S ω, StOk G H0 S0 S H σ ω ∧ EndS G W H0 S0 D (sWhl t b m ω), fun σ' H' q => ⟨m, Nat.lt_succ_self m, q⟩, H0, S0, S', ω, k', ?_⟩
        cases e2 : b ω with
        | nx ω' => rw [e2] at he; exact fun σ2 H2 S2 k2 => ⟨S2, ω', k2, he⟩
        | ct ω' => rw [e2] at he; exact fun σ2 H2 S2 k2 => ⟨S2, ω', k2, he⟩
        | bk ω' => rw [e2] at he; exact he
        | rt p => rw [e2] at he; exact he
        | exc c => rw [e2] at he; exact he
        | bad => rw [e2] at he; exact he
      · rename_i hc
        rw [if_neg hc] at he
        exact he σ H' S' k'⟩
/-! for -/
def patO (ω : Om) : Pat → PV → Option Om
  | .nm i, p => some (ω.set i (some (.v p)))
  | .tp is, .tup ps => if ps.length = is.length then some (setS ω is (ps.map .v)) else none
  | .tp is, .lst ps => if ps.length = is.length then some (setS ω is (ps.map .v)) else none
  | _, _ => none
theorem StOk.setS {H0 S0 S H : Hp} : ∀ {is : List Nat} {σ : L2.St} {ω : Om} {vs : List V} {ps : List PV}, StOk G H0 S0 S H σ ω → RpL S vs ps → StOk G H0 S0 S H (Pv.setS σ is vs) (Pv.setS ω is (ps.map .v))
  | [], _, _, _, _, k, _ => by unfold Pv.setS; exact k
  | i :: is, _, _, _, _, k, .nil => by unfold Pv.setS; exact k
  | i :: is, _, _, _, _, k, .cons r t => by unfold Pv.setS; exact StOk.setS (k.setV r i) t
theorem gPatO_ok {K : PySem.W.Frag} {H0 S0 S H : Hp} {σ : L2.St} {ω ω' : Om} {pt : Pat} {v : V} {p : PV} {Q : L2.St → Hp → Prop} (k : StOk G H0 S0 S H σ ω) (r : Rp S v p) (h : patO ω pt p = some ω')
    (q : ∀ σ', StOk G H0 S0 S H σ' ω' → Q σ' H) : gPat K pt v σ H Q := by
  unfold patO at h
  split at h
  · cases h
    exact q _ (k.setV r _)
  · split at h
    · rename_i is ps z
      cases h
      cases r with | tup ea qa =>
      exact .inl ⟨_, _, rfl, .inl (.inl (k.le _ _ ea)), by rw [qa.length]; exact z, gNames_set (by rw [qa.length]; exact z) (q _ (k.setS qa))⟩
    · cases h
  · split at h
    · rename_i is ps z
      cases h
      cases r with | lst ea qa =>
      exact .inr ⟨_, _, rfl, .inl (.inl (k.le _ _ ea)), by rw [qa.length]; exact z, gNames_set (by rw [qa.length]; exact z) (q _ (k.setS qa))⟩
    · cases h
  · cases h
def sForL (pt : Pat) (b : Om → SR) : List PV → Om → SR
  | [], ω => .nx ω
  | p :: ps, ω => match patO ω pt p with
    | some ω' => (match b ω' with
      | .nx ω2 => sForL pt b ps ω2
      | .ct ω2 => sForL pt b ps ω2
      | .bk ω2 => .nx ω2
      | r => r)
    | none => .bad
def sFor (z : List Nat) (f : Rho → Res (List PV)) (pt : Pat) (b : Om → SR) : Om → SR := fun ω => SR.of (f (hid (frz ω z))) fun ps => sForL pt b ps (frz ω z)
theorem EndS.unbase {W : WX} {H0 S0 S1 : Hp} {D : Ends} (g : Grow H0 S0 S1) {r : SR} (h : EndS G W H0 S0 D r) : EndS G W H0 S1 D r := by
  cases r with
  | nx ω => exact fun σ H S k => h σ H S (k.unbase g)
  | bk ω => exact fun σ H S k => h σ H S (k.unbase g)
  | ct ω => exact fun σ H S k => h σ H S (k.unbase g)
  | rt p => exact fun v H' S' e l g' r => h v H' S' e l (g.comp g') r
  | exc c => exact h
  | bad => exact h
theorem JS.for [hcm : Cool B] {tg iter : Expr} {body : List Stmt} {f : Rho → Res (List PV)} {pt : Pat} {b : Om → SR} {pos : Pos} (z : List Nat) (hi : JI G B tg iter f) (hg : JG G B tg pt) (hb : JSs G B body b) (hs : ∀ env x, foldedSetIterable iter env x = pure x := by intro _ _; rfl) : JS G B (.For tg iter body [] pos) (sFor z f pt b) := ⟨fun X W ok cs tk => by
  refine PS.imp (ps_for cs.pass (ok.calm hcm.out) (hi.run X W ok tk) (hg.run X ok) (hb.run X W ok cs tk) (hs _)) fun D σ H ⟨H0, S0, S, ω, k, he⟩ => ?_
  obtain ⟨S1, _, k1⟩ := k.frz z
  refine ⟨S1, hid (frz ω z), k1.le, k1.hid, ?_⟩
  unfold sFor at he
  cases e1 : f (hid (frz ω z)) with
  | exc c => rw [e1] at he; exact fun C H' hC e => he C σ H' hC (k1.ext.trans e)
  | bad => rw [e1] at he; exact he
  | ok ps =>
    rw [e1] at he
    have he : EndS G W H0 S0 D (sForL pt b ps (frz ω z)) := he
    intro J H1 S2 e2 l2 g2 wk
    have k2 := k1.step e2 l2 g2
    refine ⟨fun i m σ H => m = ps.length - i ∧ i ≤ ps.length ∧ ∃ S ω, StOk G H0 S2 S H σ ω ∧ EndS G W H0 S0 D (sForL pt b (ps.drop i) ω), ⟨ps.length, by simp, Nat.zero_le _, S2, frz ω z, k2.base, he⟩, ?_⟩
    rintro i m σ H ⟨rfl, hi, S, ω, k, he⟩
    by_cases hlt : i < ps.length
    · have hp0 : ps[i]? = some ps[i] := by simp [hlt]
      rw [List.drop_eq_getElem_cons hlt] at he
      unfold sForL at he
      cases epat : patO ω pt ps[i] with
      | none => rw [epat] at he; exact he.elim
      | some ω1 =>
        rw [epat] at he
        dsimp only at he
        refine .inr ⟨wk.go i _ S H hp0 k.grow.sub k.le, fun σ H => (i + 1 ≤ ps.length ∧ ∃ S ω, StOk G H0 S2 S H σ ω ∧ EndS G W H0 S0 D (sForL pt b (ps.drop (i + 1)) ω)), fun σ' H' q => ⟨ps.length - (i + 1), by omega, rfl, q⟩, fun x H' hy => ?_⟩
        obtain ⟨S3, e3, l3, g3, r3⟩ := wk.yld i _ S H x H' hp0 k.grow.sub k.le hy
        refine gPatO_ok (k.step e3 l3 g3) r3 epat fun σ' k' => ⟨H0, S2, S3, ω1, k', ?_⟩
        cases e4 : b ω1 with
        | nx ω' => rw [e4] at he; exact fun σ2 H2 S2' k2' => ⟨hlt, S2', ω', k2', he⟩
        | ct ω' => rw [e4] at he; exact fun σ2 H2 S2' k2' => ⟨hlt, S2', ω', k2', he⟩
        | bk ω' => rw [e4] at he; exact EndS.unbase (r := .nx ω') k2.grow he
        | rt p => rw [e4] at he; exact EndS.unbase (r := .rt p) k2.grow he
        | exc c => rw [e4] at he; exact he
        | bad => rw [e4] at he; exact he
    · have ei : i = ps.length := by omega
      subst ei
      rw [List.drop_length] at he
      exact .inl ⟨wk.stop S H k.grow.sub k.le, he σ H S (k.unbase k2.grow)⟩⟩
end Pv
end
section
set_option Elab.async false
set_option linter.all false
set_option maxRecDepth 100000
set_option maxHeartbeats 2000000
namespace Pv
open PySem PySem.Spec PyProof.Rows L2
variable {G : Gc} {B : Bx}
/-! a, b = e -/
def sPat (z : List Nat) (vis : Bool) (f : Rho → Res PV) (pt : Pat) : Om → SR := fun ω => SR.of (ev z vis f ω) fun p => match patO (frz ω z) pt p with | some ω' => .nx ω' | none => .bad
theorem JS.pat {tg e : Expr} {f : Rho → Res PV} {pt : Pat} {pos : Pos} (z : List Nat) (vis : Bool) (hg : JG G B tg pt) (h : JE G B e f) (hs : ∀ env, swapsWithSole [tg] e pos.line env = pure false := by exact fun _ => rfl) (hw : ∀ env : Env, env.scope = B.sc → swappedStores [tg] e env = pure none := by exact fun _ _ => rfl) (h1 : ∀ env, (assignEach [tg] env).map (·.2) = [assign tg env] := by exact fun _ => rfl) : JS G B (.Assign [tg] e pos) (sPat z vis f pt) := ⟨fun X W ok cs tk => by
  refine PS.imp (ps_asg (h.run X W ok tk) (hg.run X ok) (hs _) (hw _ ok.sc) (h1 _)) fun D σ H ⟨H0, S0, S, ω, k, he⟩ => ?_
  refine ev_run (z := z) (vis := vis) k ?_
  unfold sPat at he
  cases e1 : ev z vis f ω with
  | exc c => rw [e1] at he; exact fun C H' hC e => he C σ H' hC e
  | bad => rw [e1] at he; exact he
  | ok p =>
    rw [e1] at he
    intro v H' S' k' r
    simp only [SR.of] at he
    split at he
    · rename_i ω' hp
      exact gPatO_ok k' r hp fun σ' k2 => he σ' H' S' k2
    · exact he.elim⟩
/-! a, b = e1, e2 with plain local names -/
def sPar (z : List Nat) (vis : Bool) (f g : Rho → Res PV) (i j : Nat) : Om → SR := fun ω => SR.of (ev z vis f ω) fun p => SR.of (ev [] vis g (frz ω z)) fun q => .nx (((frz ω z).set i (some (.v p))).set j (some (.v q)))
/-- .. the second a new list or dict -/
def sParN (z : List Nat) (vis : Bool) (f g : Rho → Res PV) (i j : Nat) : Om → SR := fun ω => SR.of (ev z vis f ω) fun p => SR.of (evF [] vis g (frz ω z)) fun q => .nx (((frz ω z).set i (some (.v p))).set j (some q))
structure ParOk (B : Bx) (x y : Str) (i j : Nat) : Prop where
  Nx : B.N[i]? = some x
  Ny : B.N[j]? = some y
  ne : i ≠ j
  lx : B.sc.names.lookup x = some .local
  ly : B.sc.names.lookup y = some .local
theorem JS.par [hcm : Cool B] {x y : Str} {i j : Nat} {a b : Expr} {f g : Rho → Res PV} {px py pt pt2 pos : Pos} {kt k2 : Nat} (z : List Nat) (vis : Bool) (hp : ParOk B x y i j) (ha : JE G B a f) (hb : JE G B b g)
    (hw : ∀ env : Env, env.scope = B.sc → swappedStores [.Tuple [.Name x px, .Name y py] kt pt] (.Tuple [a, b] k2 pt2) env = pure (some [x, y])) (hs1 : NoStar a := by exact fun _ _ => rfl) (hs2 : NoStar b := by exact fun _ _ => rfl) :
    JS G B (.Assign [.Tuple [.Name x px, .Name y py] kt pt] (.Tuple [a, b] k2 pt2) pos) (sPar z vis f g i j) := ⟨fun X W ok cs tk => by
  refine PS.imp (ps_par (ok.calm hcm.out) (by rw [ok.N]; exact ok.nd) (by rw [ok.N]; exact hp.Nx) (by rw [ok.N]; exact hp.Ny) hp.ne (by rw [ok.sc]; exact hp.lx) (by rw [ok.sc]; exact hp.ly) (pa_cons (ha.run X W ok tk) (pa_cons (hb.run X W ok tk) pa_nil (hs2 _ _)) (hs1 _ _)) (hw _ ok.sc) rfl) fun D σ H ⟨H0, S0, S, ω, k, he⟩ => ?_
  refine ev_run (z := z) (vis := vis) k ?_
  unfold sPar at he
  cases e1 : ev z vis f ω with
  | exc c => rw [e1] at he; exact fun C H' hC e => he C σ H' hC e
  | bad => rw [e1] at he; exact he
  | ok p =>
    rw [e1] at he
    intro v H1 S1 k1 r1
    simp only [SR.of] at he
    refine ev_run (z := []) (vis := vis) k1.base ?_
    show EndV G W H0 S1 σ (frz ω z) _ (ev [] vis g (frz ω z))
    cases e2 : ev [] vis g (frz ω z) with
    | exc c => rw [e2] at he; exact fun C H' hC e => he C σ H' hC e
    | bad => rw [e2] at he; exact he
    | ok q =>
      rw [e2] at he
      intro w H2 S2 k2 r2
      exact ⟨v, w, rfl, he _ H2 S2 (((k2.unbase k1.grow).setV (r1.mono k2.grow.sub) i).setV r2 j)⟩⟩
theorem JS.parN [hcm : Cool B] {x y : Str} {i j : Nat} {a b : Expr} {f g : Rho → Res PV} {px py pt pt2 pos : Pos} {kt k2 : Nat} (z : List Nat) (vis : Bool) (hp : ParOk B x y i j) (ha : JE G B a f) (hb : JF G B b g)
    (hw : ∀ env : Env, env.scope = B.sc → swappedStores [.Tuple [.Name x px, .Name y py] kt pt] (.Tuple [a, b] k2 pt2) env = pure (some [x, y])) (hs1 : NoStar a := by exact fun _ _ => rfl) (hs2 : NoStar b := by exact fun _ _ => rfl) :
    JS G B (.Assign [.Tuple [.Name x px, .Name y py] kt pt] (.Tuple [a, b] k2 pt2) pos) (sParN z vis f g i j) := ⟨fun X W ok cs tk => by
  refine PS.imp (ps_par (ok.calm hcm.out) (by rw [ok.N]; exact ok.nd) (by rw [ok.N]; exact hp.Nx) (by rw [ok.N]; exact hp.Ny) hp.ne (by rw [ok.sc]; exact hp.lx) (by rw [ok.sc]; exact hp.ly) (pa_cons (ha.run X W ok tk) (pa_cons (hb.run X W ok tk) pa_nil (hs2 _ _)) (hs1 _ _)) (hw _ ok.sc) rfl) fun D σ H ⟨H0, S0, S, ω, k, he⟩ => ?_
  refine ev_run (z := z) (vis := vis) k ?_
  unfold sParN at he
  cases e1 : ev z vis f ω with
  | exc c => rw [e1] at he; exact fun C H' hC e => he C σ H' hC e
  | bad => rw [e1] at he; exact he
  | ok p =>
    rw [e1] at he
    intro v H1 S1 k1 r1
    simp only [SR.of] at he
    refine evF_run (z := []) (vis := vis) k1.base ?_
    show EndN G W H0 S1 σ (frz ω z) _ (evF [] vis g (frz ω z))
    cases e2 : evF [] vis g (frz ω z) with
    | exc c => rw [e2] at he; exact fun C H' hC e => he C σ H' hC e
    | bad => rw [e2] at he; exact he
    | ok q =>
      rw [e2] at he
      intro a H2 S2 k2 n1 n2 hh nw
      refine ⟨v, .ref a, rfl, he _ H2 S2 (((k2.unbase k1.grow).setV (r1.mono k2.grow.sub) i).setO n1 n2 hh (fun l sl hl ho => ?_) j)⟩
      rcases set_get hl with ⟨rfl, e⟩ | ⟨n, e⟩
      · cases e; cases ho
      · rw [List.getElem?_set_ne (Ne.symm n)]; exact nw l sl e ho⟩
/-! raise X('..') -/
structure ExOk (G : Gc) (c : Str) : Prop where
  ex : ∃ C, G.cls c = some C ∧ G.mg c = some (.ref C) ∧ PySem.W.excIn G.K C [.type "ValueError", .type "Exception", .type "BaseException", .type "object"] "ValueError.__new__" = true ∧ PySem.W.keepIn G.K (.ref C) = true ∧
    PySem.W.subIn G.K (.ref C) (.type "BaseException") = some true ∧ PySem.W.typeIn G.K (.ref C) = some (.type "type")
def sRaise (c : Str) : Om → SR := fun _ => .exc c
theorem JS.raise [hcm : Cool B] {c m : Str} {j : Nat} {p p2 pos pos2 : Pos} (h : ExOk G c) (hg : Gb B c) (hdb : (c == ("__debug__" : Str)) = false := by decide) : JS G B (.Raise (some (.Call (.Name c p) [.Constant (.str m) j p2] [] pos)) none pos2) (sRaise c) := ⟨fun X W ok cs tk => by
  obtain ⟨C, h1, h2, h3, h4, h5, h6⟩ := h.ex
  refine PS.imp (L2N.ps_raise (ok.calm hcm.out) tk (L2N.pmk_own (C := C) PySem.F.excBase_ValueError (by rw [ok.K]; exact h3) (by rw [ok.mg]; exact h2) (by rw [ok.K]; exact h4) (raises_own (by rw [ok.K]; exact h5) (by rw [ok.K]; exact h6)) (show X.env.scope.names.lookup c = _ by rw [ok.sc]; exact hg) hdb)) fun D σ H ⟨H0, S0, S, ω, k, he⟩ => ?_
  exact he C σ H h1 k.ext⟩
/-! ### a def by its body -/
def endR : SR → Res PV
  | .nx _ => .ok .non
  | .rt p => .ok p
  | .exc c => .exc c
  | _ => .bad
/-- what a def makes of its arguments: N names in all -/
def mFn (n : Nat) (g : Om → SR) : List PV → Res PV := fun ps => endR (g (ps.map (fun p => some (.v p)) ++ List.replicate (n - ps.length) none))
theorem RpL.getV {S : Hp} {vs : List V} {ps : List PV} (r : RpL S vs ps) (n : Nat) {i : Nat} {sv : SV} (h : (ps.map (fun p => some (SV.v p)) ++ List.replicate n none)[i]? = some (some sv)) : ∃ p v, sv = .v p ∧ (vs.map some ++ List.replicate n none)[i]? = some (some v) ∧ Rp S v p := by
  by_cases hi : i < ps.length
  · rw [List.getElem?_append_left (by simpa using hi), List.getElem?_map] at h
    cases e : ps[i]? with
    | none => rw [e] at h; cases h
    | some p =>
      rw [e] at h
      cases h
      obtain ⟨v, e1, rv⟩ := r.get e
      exact ⟨p, v, rfl, by rw [List.getElem?_append_left (by rw [List.length_map, r.length]; exact hi), List.getElem?_map, e1]; rfl, rv⟩
  · rw [List.getElem?_append_right (by simp; omega), List.getElem?_replicate] at h
    split at h <;> cases h
theorem StOk.start {S H : Hp} {vs : List V} {ps : List PV} (hl : Le G.T S H) (r : RpL S vs ps) (n : Nat) : StOk G H S S H (vs.map some ++ List.replicate n none) (ps.map (fun p => some (.v p)) ++ List.replicate n none) where
  ext := Ext.refl _ _
  grow := Grow.refl _ _
  le := hl
  len := by simp [r.length]
  shd := fun i p h => by
    obtain ⟨q, v, e, h1, h2⟩ := r.getV n h
    cases e
    exact ⟨v, h1, h2⟩
  own := fun i sv h ho => by
    obtain ⟨q, v, e, h1, h2⟩ := r.getV n h
    subst e
    cases ho
  dis := fun i j si sj a h1 h2 _ _ _ _ => by
    obtain ⟨q, v, e, _, _⟩ := r.getV n h1
    subst e
    cases h2
theorem Fun.okN {P : Program} {w : World} {K : PySem.W.Frag} {mg : Str → Option Value} {base : Heap} {x qual : Str} {st : Stmt} {f : Addr} {fd : FuncData} {N ps : List Str} {k : Nat} {sp : Sp} (F : L2.Fun K x qual st f fd) (S : FnScope N ps (defScope st)) (len : ∀ vs H Q E, sp vs H Q E → vs.length = ps.length)
    (hbody : ∀ (cdv : Value) (A : Around) (outer : List Env) (s : Shared) (H : Hp) (vs : List V) (Q : VK) (E : XK), Room k (A.deeper (envOfC qual (defScope st) s.heap.objs.size f cdv)) → sp vs H Q E →
      ∃ t, PSs (cxOf (L2N.CX P w) P w K mg base N qual (defScope st) f cdv A outer s H E) (defBody st) t ∧ t { nx := fun _ H' => Q .non H', rt := Q } (L2.start N vs) H) : FnOk P w K mg base (L2N.CX P w) (k + 1) f fd ps sp := by
  obtain ⟨oc, od, kV, doc, pm, an, cdv, ct, osl, rfl, lk, hcd⟩ := F.ex
  exact fn_of lk hcd S len fun A outer s H vs Q E hr hsp => hbody cdv A outer s H vs Q E hr hsp
theorem FnP.ofBody {x : Str} {st : Stmt} {f : Addr} {fd : FuncData} {N ps : List Str} {k : Nat} {g : Om → SR} (F : L2.Fun G.K x x st f fd) (hm : G.mg x = some (.ref f)) (hkp : PySem.W.keepIn G.K (.ref f) = true) (hb : Binds G.K fd ps []) (S : FnScope N ps (defScope st))
    (h : JSs G ⟨N, defScope st, fun _ => true, k, none, false, none⟩ (defBody st) g) : FnP G (k + 1) x ps.length (mFn N.length g) := by
  refine ⟨f, fd, ps, rfl, ?_, hm, hkp, hb⟩
  refine Pv.Fun.okN F S (fun vs H Q E hsp => hsp.1) fun cdv A outer s H vs Q E hr hsp => ⟨_, h.run _ (fun cls d _ H' => E cls d H') ?_ ?_ ?_, ?_⟩
  · exact ⟨rfl, rfl, rfl, rfl, rfl, rfl, S.nd, rfl, fun _ _ => rfl, fun _ => ⟨rfl, hr.hd⟩, L2H.roomH_of hr, fun _ _ z => (nomatch z), fun _ _ z => (nomatch z)⟩
  · exact ⟨passes_of rfl⟩
  · exact L2N.takes_of rfl rfl rfl rfl
  · obtain ⟨hlen, S1, qs, hl, rq, he⟩ := hsp
    have el : N.length - vs.length = N.length - qs.length := by rw [rq.length]
    unfold L2.start
    rw [el]
    refine ⟨H, S1, S1, _, StOk.start hl rq _, ?_⟩
    unfold mFn at he
    cases e : g (qs.map (fun p => some (.v p)) ++ List.replicate (N.length - qs.length) none) with
    | nx ω => rw [e] at he; exact fun σ' H' S' k' => he .non H' S' k'.ext k'.le k'.grow .non
    | rt p => rw [e] at he; exact he
    | exc c => rw [e] at he; exact fun C σ' H' hC ex => he C H' hC ex
    | bk ω => rw [e] at he; exact he.elim
    | ct ω => rw [e] at he; exact he.elim
    | bad => rw [e] at he; exact he.elim
end Pv
end
section
set_option Elab.async false
set_option linter.all false
set_option maxRecDepth 100000
set_option maxHeartbeats 2000000
namespace Pv
open PySem PySem.Spec PyProof.Rows L2
variable {G : Gc} {B : Bx}
/-! ### a list or a tuple as a source -/
def SqB (K : PySem.W.Frag) (H : Hp) (b : Bool) (a : Addr) (xs : List V) : Prop := if b = true then SqL K H a xs else SqT K H a xs
def HasB (b : Bool) (h : Heap) (a : Addr) (its : Array Value) : Prop := if b = true then h.IsList a its else h.IsTuple a its
def IterAt (b : Bool) (h : Heap) (it a : Addr) (i : Nat) : Prop := if b = true then h.IsListIter it a i else h.IsTupleIter it a i
def itObj (b : Bool) (a : Addr) : Obj := if b = true then { cls := .type "list_iterator", data := .fields #[.ref a, .int 0 0] } else { cls := .type "tuple_iterator", data := .fields #[.ref a, .int 0 0] }
theorem begB (b : Bool) (a : Addr) (its : Array Value) : Begins (.ref a) (itObj b a) (fun h => HasB b h a its) := by
  cases b with
  | true => exact begins_list a its
  | false => exact begins_tuple a its
theorem drawB {prog : Program} {w : World} {A : Around} (hh : A.handled = none) (b : Bool) (it a : Addr) (hne : a ≠ it) (its : Array Value) : Draws prog w A it [it, a] its.size (fun i v => its[i]? = some v) (fun i h => IterAt b h it a i ∧ HasB b h a its) := by
  cases b with
  | true => exact Draws.list hh it a hne its
  | false => exact Draws.tuple hh it a hne its
theorem iterAt0 {b : Bool} {h : Heap} {it a : Addr} (e : h.get? it = some (itObj b a)) : IterAt b h it a 0 := by
  cases b with
  | true => exact ⟨_, e, rfl, rfl⟩
  | false => exact ⟨_, e, rfl, rfl⟩
theorem iterAt_obj {b : Bool} {h : Heap} {it a : Addr} {i : Nat} (x : IterAt b h it a i) : ∃ o, h.get? it = some o ∧ ∀ v, o.data ≠ .cell v := by
  cases b with
  | true => obtain ⟨o, e, _, d⟩ := x; exact ⟨o, e, fun v z => by rw [d] at z; cases z⟩
  | false => obtain ⟨o, e, _, d⟩ := x; exact ⟨o, e, fun v z => by rw [d] at z; cases z⟩
theorem iterAt_at {b : Bool} {h h' : Heap} {it a : Addr} {i : Nat} (x : IterAt b h it a i) (k : ∀ o, h.get? it = some o → h'.get? it = some o) : IterAt b h' it a i := by
  cases b with
  | true => obtain ⟨o, e, d⟩ := x; exact ⟨o, k o e, d⟩
  | false => obtain ⟨o, e, d⟩ := x; exact ⟨o, k o e, d⟩
section
variable {X : Cx} {pins : List (Addr × Obj)} {σ : L2.St} {H : Hp} {s : Shared}
theorem Inv.srcB (I : Inv X pins σ H s) {b : Bool} {a : Addr} {xs : List V} (h : SqB X.K H b a xs) : ∃ its : List Value, Vals xs its ∧ HasB b s.heap a its.toArray ∧ xs.length ≤ sizeLine ∧ a < s.heap.objs.size := by
  cases b with
  | true => obtain ⟨its, r, p, z⟩ := I.list h; exact ⟨its, r, p.isList, z, p.lt⟩
  | false => obtain ⟨its, r, p, z⟩ := I.tuple h; exact ⟨its, r, p, z, let ⟨_, e, _⟩ := p; Heap.lt_size e⟩
theorem Inv.srcB_inj (I : Inv X pins σ H s) {b : Bool} {a : Addr} {xs ys : List V} (h : SqB X.K H b a xs) (h' : SqB X.K H b a ys) : xs = ys := by
  cases b with
  | true => exact I.list_inj h h'
  | false => exact I.tuple_inj h h'
end
/-! ### enumerate -/
set_option maxHeartbeats 1000000 in
theorem meets_enum1 {v : Value} {o : Obj} {H : Heap → Prop} (B : Begins v o H) :
    Meets (Builtin.«enumerate.__new__» ⟨[.type "enumerate", v], []⟩) (fun _ R s => H s.heap ∧
      R (.ok (.ret (.ref (s.heap.push o).objs.size))) { s with heap := (s.heap.push o).push { cls := .type "enumerate", data := .fields #[.none, .bool false, .ref s.heap.objs.size, rawInt 0, .none, .none] } }) :=
  .of_wp fun prog w A R s h => by
    obtain ⟨hp, g, d, tk, os⟩ := s; obtain ⟨h1, h⟩ := h
    have hsub := sub_enumerate
    have q1 : ∀ {A' : Around} {E : Value → Shared → Prop} {Q : Value → Shared → Prop}, Q (.ref hp.objs.size) ⟨hp.push o, g, d, tk, os⟩ → wpAny (model prog w) A' (pyIter v) Q E ⟨hp, g, d, tk, os⟩ :=
      fun q => B.iter prog w _ _ ⟨hp, g, d, tk, os⟩ _ h1 q
    wp_walk using q1
    refine wpAny_stack_any fun st => wpAny_pure ?_
    split
    · rename_i c _ _ _ _ _
      cases (c == Value.type "enumerate")
      · wp_walk using q1
        exact ⟨_, rfl, h⟩
      · wp_walk using q1
        exact ⟨_, rfl, h⟩
    · wp_walk using q1
      exact ⟨_, rfl, h⟩
theorem enum_begins1 {prog : Program} {w : World} {A : Around} {E : Value → Shared → Prop} {s : Shared} {v : Value} {o : Obj} {H : Heap → Prop} {Q : Value → Shared → Prop} (B : Begins v o H) (h1 : H s.heap)
    (h : ∀ h', IsEnum h' (s.heap.objs.size + 1) s.heap.objs.size 0 .none → h'.get? s.heap.objs.size = some o → h'.objs.size = s.heap.objs.size + 2 →
      (∀ b o, s.heap.get? b = some o → h'.get? b = some o) → Q (.ref (s.heap.objs.size + 1)) { s with heap := h' }) :
    wpAny (model prog w) A (call (.type "enumerate") [v]) Q E s := by
  refine callType_new F.called_enumerate (by decide) (F.typeCall_enumerate_1 _) (F.newCall_enumerate_1 _) (fun obj => F.args_object_init_2 obj _) F.entry_enumerate_new
    (meets_enum1 B) ⟨h1, ?_⟩
  have hz : (s.heap.push o).objs.size = s.heap.objs.size + 1 := Heap.size_push ..
  show _ ∧ _
  rw [hz]
  have he : IsEnum ((s.heap.push o).push { cls := .type "enumerate", data := .fields #[.none, .bool false, .ref s.heap.objs.size, rawInt 0, .none, .none] }) (s.heap.objs.size + 1) s.heap.objs.size 0 .none := by
    have := Heap.get?_push_size (s.heap.push o) (o := { cls := .type "enumerate", data := .fields #[.none, .bool false, .ref s.heap.objs.size, rawInt 0, .none, .none] }) rfl
    rw [hz] at this; exact this
  refine ⟨⟨_, he, rfl⟩, h _ he (Heap.get?_push_of_some _ (Heap.get?_push_size _ B.free)) (by rw [Heap.size_push, hz]) fun b o x => Heap.get?_push_of_some _ (Heap.get?_push_of_some _ x)⟩
def IteB (K : PySem.W.Frag) (b : Bool) (a : Addr) : It :=
  ⟨fun i H => ∃ (xs : List V) (x : V), SqB K H b a xs ∧ xs[i]? = some x, fun i H v H' => ∃ T x, v = .ref T ∧ H T = none ∧ H' = upd H T (.tup [.int (i : Nat), x]) ∧ ∀ xs, SqB K H b a xs → xs[i]? = some x, fun i H => ∃ xs : List V, SqB K H b a xs ∧ xs.length = i⟩
theorem turn_enumB {P : Program} {w : World} {K : PySem.W.Frag} {elts : List Expr} {kk : Nat} {tpos : Pos} (b : Bool) (a e it : Addr) (hei : e ≠ it) (hea : e ≠ a) (hai : a ≠ it) :
    Turn P w K (.Tuple elts kk tpos) (IteB K b a) [e, it] e (fun i h => (∃ old, IsEnum h e it ((i : Nat) : Int) old) ∧ IterAt b h it a i) where
  mem := by simp
  obj := fun i h st c hc => by
    obtain ⟨⟨old, he⟩, hi⟩ := st
    have e' : c = e ∨ c = it := by simpa using hc
    rcases e' with q | q
    · rw [q]; exact ⟨_, he, fun v q => nomatch q⟩
    · rw [q]; exact iterAt_obj hi
  keep := fun i h h' st k => by
    obtain ⟨⟨old, he⟩, hi⟩ := st
    exact ⟨⟨old, k e (by simp) _ he⟩, iterAt_at hi fun o q => k it (by simp) o q⟩
  item := by
    intro X hP hw hK hc i pins s σ H E I hf st hg
    subst hP hw hK
    obtain ⟨⟨old, he⟩, hi⟩ := st
    obtain ⟨xs, x, hq, hx⟩ := hg
    obtain ⟨its, rv, hb, _, _⟩ := Inv.srcB I hq
    obtain ⟨u, hu, ru⟩ := rv.get hx
    have g := GoesN.enumFrom (prog := X.prog) (w := X.w) (A := X.A) (elts := elts) (x1 := kk) (pos := tpos) 0 (drawB (A := X.A.in1) (I.ok.hd hc) b it a hai its.toArray) e hei (by simp; exact ⟨hei, hea⟩) (by simp)
    have hlt : i < its.toArray.size := by
      have := getLt hu
      simpa using this
    refine g.goes i s _ E hlt ⟨⟨old, by rw [Int.zero_add]; exact he⟩, hi, hb⟩ fun v h' tk hY hSt hk _ => ?_
    obtain ⟨T, t, x', rfl, hT, hx', htup⟩ := hY
    obtain ⟨⟨old', he'⟩, hi', _⟩ := hSt
    have ex : x' = u := by
      have q : its[i]? = some x' := by simpa using hx'
      rw [hu] at q; exact (Option.some.inj q).symm
    subst ex
    have new : ObjOk X.prog X.w (upd H T (.tup [.int (i : Nat), x])) h' T (.tup [.int (i : Nat), x]) :=
      ⟨by show 2 ≤ sizeLine; decide, [.int (0 + (i : Int)) t, x'], .cons ⟨t, by rw [Int.zero_add]⟩ (.cons ru .nil), htup⟩
    have I1 : Inv X pins σ (upd H T (.tup [.int (i : Nat), x])) { s with heap := h', toks := tk } := I.turnedNew (t' := tk) (ch := [e, it]) hk hf hT new
    refine ⟨.ref T, _, I1, rfl, ⟨T, x, rfl, I.hok.fresh hT, rfl, fun l hl => by rw [Inv.srcB_inj I hl hq]; exact hx⟩, ⟨⟨old', ?_⟩, hi'⟩, fun c hcm => ?_⟩
    · rw [Int.zero_add] at he'; exact he'
    · have hlt : c < s.heap.objs.size := by
        have e' : c = e ∨ c = it := by simpa using hcm
        rcases e' with q | q
        · rw [q]; exact Heap.lt_size he
        · rw [q]; obtain ⟨_, e1, _⟩ := iterAt_obj hi; exact Heap.lt_size e1
      rw [upd_ne (Nat.ne_of_lt (Nat.lt_of_lt_of_le hlt hT))]
      exact (hf c hcm).1
  done := by
    intro X hP hw hK hc i pins s σ H E I hf st hg
    subst hP hw hK
    obtain ⟨⟨old, he⟩, hi⟩ := st
    obtain ⟨xs, hq, hend⟩ := hg
    obtain ⟨its, rv, hb, _, _⟩ := Inv.srcB I hq
    have l1 := rv.length
    have g := GoesN.enumFrom (prog := X.prog) (w := X.w) (A := X.A) (elts := elts) (x1 := kk) (pos := tpos) 0 (drawB (A := X.A.in1) (I.ok.hd hc) b it a hai its.toArray) e hei (by simp; exact ⟨hei, hea⟩) (by simp)
    have en : its.toArray.size = i := by rw [List.size_toArray, ← l1, hend]
    refine g.stops s _ E ?_ fun h' tk hk _ => I.turnedL (t' := tk) (ch := [e, it]) hk hf
    rw [en]
    exact ⟨⟨old, by rw [Int.zero_add]; exact he⟩, hi, hb⟩
  self := fun A i s Q E st h => by
    obtain ⟨⟨old, he⟩, _⟩ := st
    exact wpAny_pyIter_enum he h
theorem pi_enumB {X : Cx} {e : Expr} {ta : TA} {p pos tpos : Pos} {elts : List Expr} {kk : Nat} (hg : Gl X "enumerate") (hm : X.mg "enumerate" = none) (ha : PA X [e] ta) (hs : starEach [e] X.env = [(false, eval e X.env)]) :
    PI X (.Tuple elts kk tpos) (.Call (.Name "enumerate" p) [e] [] pos) (fun σ H R => ta σ H fun vs H1 => ∃ b a xs, vs = [.ref a] ∧ SqB X.K H1 b a xs ∧ R (IteB X.K b a) H1) := by
  refine ⟨fun pins s σ H R I h => ?_⟩
  refine Call_ (ld_blt I hg hm boot_enumerate (PyProof.Rows.callWith_type1 (thn (ha.run pos pins s σ H _ I h) fun us s1 ⟨vs, H1, I1, r1, q1⟩ => ?_) hs rfl))
  obtain ⟨b, a, xs, rfl, hq, q⟩ := q1
  obtain ⟨u, rfl, ru⟩ := vals1 r1
  cases ru
  obtain ⟨its, rv, hb, _, hlt⟩ := Inv.srcB I1 hq
  refine enum_begins1 (begB b a its.toArray) hb fun h' he hi hsz hk => wpAny_pyIter_enum he ?_
  have I2 : Inv X pins σ H1 { s1 with heap := h' } := I1.kept (t' := s1.toks) hk
  refine ⟨s1.heap.objs.size + 1, [s1.heap.objs.size + 1, s1.heap.objs.size], _, _, H1, rfl, I2, turn_enumB b a (s1.heap.objs.size + 1) s1.heap.objs.size (Nat.succ_ne_self _) (Nat.ne_of_gt (Nat.lt_succ_of_lt hlt)) (Nat.ne_of_lt hlt), ⟨⟨_, he⟩, iterAt0 hi⟩, fun c hc => ?_, q⟩
  have e' : c = s1.heap.objs.size + 1 ∨ c = s1.heap.objs.size := by simpa using hc
  have hle : s1.heap.objs.size ≤ c := by
    rcases e' with z | z
    · rw [z]; exact Nat.le_succ _
    · rw [z]; exact Nat.le_refl _
  exact I1.fpOk hle (I1.hok.fresh hle)
def enumP (n : Nat) : List PV → List PV
  | [] => []
  | p :: ps => .tup [.int (n : Nat), p] :: enumP (n + 1) ps
theorem enumP_get : ∀ (ps : List PV) (n i : Nat), (enumP n ps)[i]? = (ps[i]?).map fun p => .tup [.int ((n + i : Nat) : Int), p]
  | [], n, i => by simp [enumP]
  | p :: ps, n, 0 => by simp [enumP]
  | p :: ps, n, i + 1 => by
    simp only [enumP, List.getElem?_cons_succ]
    rw [enumP_get ps (n + 1) i]
    have e : n + 1 + i = n + (i + 1) := by omega
    rw [e]
theorem enumP_len : ∀ (ps : List PV) (n : Nat), (enumP n ps).length = ps.length
  | [], n => rfl
  | p :: ps, n => by simp [enumP, enumP_len ps]
theorem sqB_lst {K : PySem.W.Frag} {S H : Hp} {a : Addr} {vs : List V} (hl : Le G.T S H) (e : S a = some (.lst vs)) : SqB K H true a vs := .inl (.inl (hl _ _ e))
theorem sqB_tup {K : PySem.W.Frag} {S H : Hp} {a : Addr} {vs : List V} (hl : Le G.T S H) (e : S a = some (.tup vs)) : SqB K H false a vs := .inl (.inl (hl _ _ e))
/-- a list or a tuple -/
def seqPV : PV → Option (List PV)
  | .lst xs => some xs
  | .tup xs => some xs
  | _ => none
theorem Rp.seq {K : PySem.W.Frag} {S H : Hp} {v : V} {p : PV} {ps : List PV} (hl : Le G.T S H) (h : seqPV p = some ps) (r : Rp S v p) : ∃ b a vs, v = .ref a ∧ RpL S vs ps ∧ vs.length ≤ sizeLine ∧ ∀ S' H', Sub S S' → Le G.T S' H' → SqB K H' b a vs := by
  unfold seqPV at h
  split at h
  · cases h
    cases r with | lst ea qa => exact ⟨true, _, _, rfl, qa, hl.sz _ _ ea, fun S' H' hs hl' => sqB_lst hl' (hs _ _ ea)⟩
  · cases h
    cases r with | tup ea qa => exact ⟨false, _, _, rfl, qa, hl.sz _ _ ea, fun S' H' hs hl' => sqB_tup hl' (hs _ _ ea)⟩
  · cases h
theorem wk_enum {K : PySem.W.Frag} {S : Hp} {b : Bool} {a : Addr} {vs : List V} {ps : List PV} (r : RpL S vs ps) (z : vs.length ≤ sizeLine) (h : ∀ S' H', Sub S S' → Le G.T S' H' → SqB K H' b a vs) : WkJ G (IteB K b a) S (enumP 0 ps) where
  go := fun i p S' H' hp hs hl' => by
    rw [enumP_get] at hp
    cases e : ps[i]? with
    | none => rw [e] at hp; cases hp
    | some q => obtain ⟨v, hv, _⟩ := r.get e; exact ⟨vs, v, h S' H' hs hl', hv⟩
  yld := fun i p S' H' x H'' hp hs hl' hy => by
    obtain ⟨T, y, rfl, nT, rfl, hy⟩ := hy
    rw [enumP_get] at hp
    cases e : ps[i]? with
    | none => rw [e] at hp; cases hp
    | some q =>
      rw [e] at hp
      cases hp
      obtain ⟨v, hv, rv⟩ := r.get e
      have q := hy vs (h S' H' hs hl')
      rw [hv] at q
      have ey := Option.some.inj q
      rw [ey] at rv
      have sub := Sub.upd (o := .tup [.int ((i : Nat) : Int), y]) (hl'.emp nT)
      refine ⟨upd S' T (.tup [.int ((i : Nat) : Int), y]), Ext.new nT, hl'.upd nT (fun _ z => by cases z) (by show 2 ≤ sizeLine; decide), Grow.upd hl' nT, ?_⟩
      rw [Nat.zero_add]
      exact .tup upd_same (.cons (.int _) (.cons ((rv.mono hs).mono sub) .nil))
  stop := fun S' H' hs hl' => ⟨vs, h S' H' hs hl', by rw [enumP_len, r.length]⟩
  len := by rw [enumP_len, ← r.length]; exact z
def iEnumP : List PV → Res (List PV)
  | [p] => match seqPV p with | some ps => .ok (enumP 0 ps) | none => .bad
  | _ => .bad
def fEnum (f : Rho → Res PV) : Rho → Res (List PV) := fun ρ => (aCons f aNil ρ).bind iEnumP
theorem JI.enum {elts : List Expr} {kk : Nat} {tpos : Pos} {a : Expr} {f : Rho → Res PV} {p pos : Pos} (hg : Gb B "enumerate") (hm : G.mg "enumerate" = none) (h : JE G B a f) (hs : NoStar a := by exact fun _ _ => rfl) : JI G B (.Tuple elts kk tpos) (.Call (.Name "enumerate" p) [a] [] pos) (fEnum f) := ⟨fun X W ok tk => by
  refine PI.imp (pi_enumB (show X.env.scope.names.lookup ("enumerate" : Str) = _ by rw [ok.sc]; exact hg) (by rw [ok.mg]; exact hm) ((JA.cons h JA.nil hs).run X W ok tk) (hs _ _)) fun σ H R ⟨S, ρ, hl, hr, he⟩ => ?_
  refine ⟨S, ρ, hl, hr, EndI.thenA he fun ps v H1 S1 ep e1 l1 g1 r1 he => ?_⟩
  unfold iEnumP at he
  split at he
  · split at he
    · rename_i qs hq
      obtain ⟨v, rfl, rv⟩ := r1.one
      obtain ⟨b, a, vs, rfl, ra, z, hsq⟩ := rv.seq (K := X.K) l1 hq
      exact ⟨b, a, vs, rfl, hsq S1 H1 (Sub.refl _) l1, he.here l1 (wk_enum ra z hsq)⟩
    · exact he.elim
  · exact he.elim⟩
end Pv
end
section
set_option Elab.async false
set_option linter.all false
set_option maxRecDepth 100000
set_option maxHeartbeats 2000000
namespace Pv
open PySem PySem.Spec PyProof.Rows L2
variable {G : Gc} {B : Bx}
/-! ### zip of two -/
def ItzB (K : PySem.W.Frag) (b c : Bool) (a d : Addr) : It :=
  ⟨fun i H => ∃ (xs ys : List V) (x y : V), SqB K H b a xs ∧ SqB K H c d ys ∧ xs[i]? = some x ∧ ys[i]? = some y,
    fun i H v H' => ∃ T x y, v = .ref T ∧ H T = none ∧ H' = upd H T (.tup [x, y]) ∧ (∀ xs, SqB K H b a xs → xs[i]? = some x) ∧ ∀ ys, SqB K H c d ys → ys[i]? = some y,
    fun i H => ∃ xs ys : List V, SqB K H b a xs ∧ SqB K H c d ys ∧ min xs.length ys.length = i⟩
theorem turn_zipB {P : Program} {w : World} {K : PySem.W.Frag} {elts : List Expr} {kk : Nat} {tpos : Pos} (b c : Bool) {a d z TI TO i1 i2 : Addr} (D : ZipSep2 z TI TO i1 i2 [i1, a] [i2, d]) (h1 : a ≠ i1) (h2 : d ≠ i2) :
    Turn P w K (.Tuple elts kk tpos) (ItzB K b c a d) [z, TI, TO, i1, i2] z (fun i h => IsZip h z TI TO .none ∧ IsTupOf2 h TI (.ref i1) (.ref i2) ∧ (∃ x y, IsTupOf2 h TO x y) ∧ IterAt b h i1 a i ∧ IterAt c h i2 d i) where
  mem := by simp
  obj := fun i h st e he => by
    obtain ⟨hz, hTI, ⟨x, y, hTO⟩, q1, q2⟩ := st
    have e' : e = z ∨ e = TI ∨ e = TO ∨ e = i1 ∨ e = i2 := by simpa using he
    rcases e' with q | q | q | q | q
    · rw [q]; exact ⟨_, hz, fun v q => nomatch q⟩
    · rw [q]; exact ⟨_, hTI, fun v q => nomatch q⟩
    · rw [q]; exact ⟨_, hTO, fun v q => nomatch q⟩
    · rw [q]; exact iterAt_obj q1
    · rw [q]; exact iterAt_obj q2
  keep := fun i h h' st k => by
    obtain ⟨hz, hTI, ⟨x, y, hTO⟩, q1, q2⟩ := st
    exact ⟨k z (by simp) _ hz, k TI (by simp) _ hTI, ⟨x, y, k TO (by simp) _ hTO⟩, iterAt_at q1 fun o q => k i1 (by simp) o q, iterAt_at q2 fun o q => k i2 (by simp) o q⟩
  item := by
    intro X hP hw hK hc i pins s σ H E I hf st hg
    subst hP hw hK
    obtain ⟨hz, hTI, ⟨x0, y0, hTO⟩, q1, q2⟩ := st
    obtain ⟨xs, ys, x, y, hqx, hqy, hx, hy⟩ := hg
    obtain ⟨its, rv, p1, _, _⟩ := Inv.srcB I hqx
    obtain ⟨its2, rv2, p2, _, _⟩ := Inv.srcB I hqy
    obtain ⟨u, hu, ru⟩ := rv.get hx
    obtain ⟨u2, hu2, ru2⟩ := rv2.get hy
    have g := GoesN.zip2 (prog := X.prog) (w := X.w) (A := X.A) (elts := elts) (x1 := kk) (pos := tpos) D (drawB (A := X.A.in1) (I.ok.hd hc) b i1 a h1 its.toArray) (drawB (A := X.A.in1) (I.ok.hd hc) c i2 d h2 its2.toArray)
    have hlt : i < min its.toArray.size its2.toArray.size := by
      have := getLt hu; have := getLt hu2
      simp; omega
    refine g.goes i s _ E hlt ⟨hz, hTI, ⟨_, _, hTO⟩, ⟨q1, p1⟩, ⟨q2, p2⟩⟩ fun v h' tk hY hSt hk _ => ?_
    obtain ⟨T, x', y', rfl, hT, hx', hy', htup⟩ := hY
    obtain ⟨z', TI', TO', ⟨q1', _⟩, ⟨q2', _⟩⟩ := hSt
    have ex : x' = u := by
      have q : its[i]? = some x' := by simpa using hx'
      rw [hu] at q; exact (Option.some.inj q).symm
    have ey : y' = u2 := by
      have q : its2[i]? = some y' := by simpa using hy'
      rw [hu2] at q; exact (Option.some.inj q).symm
    subst ex ey
    have new : ObjOk X.prog X.w (upd H T (.tup [x, y])) h' T (.tup [x, y]) :=
      ⟨by show 2 ≤ sizeLine; decide, [x', y'], .cons ru (.cons ru2 .nil), htup⟩
    have I1 : Inv X pins σ (upd H T (.tup [x, y])) { s with heap := h', toks := tk } := I.turnedNew (t' := tk) (ch := [z, TI, TO, i1, i2]) (fun e o he q => hk e o (fun m => he (by
        have m' : e = z ∨ e = TO ∨ e = i1 ∨ e = i2 := by simpa using m
        rcases m' with r | r | r | r <;> simp [r])) q) hf hT new
    refine ⟨.ref T, _, I1, rfl, ⟨T, x, y, rfl, I.hok.fresh hT, rfl, fun l hl => by rw [Inv.srcB_inj I hl hqx]; exact hx, fun l hl => by rw [Inv.srcB_inj I hl hqy]; exact hy⟩, ⟨z', TI', TO', q1', q2'⟩, fun e he => ?_⟩
    have hlt : e < s.heap.objs.size := by
      have e' : e = z ∨ e = TI ∨ e = TO ∨ e = i1 ∨ e = i2 := by simpa using he
      rcases e' with q | q | q | q | q
      · rw [q]; exact Heap.lt_size hz
      · rw [q]; exact Heap.lt_size hTI
      · rw [q]; exact Heap.lt_size hTO
      · rw [q]; obtain ⟨_, e1, _⟩ := iterAt_obj q1; exact Heap.lt_size e1
      · rw [q]; obtain ⟨_, e1, _⟩ := iterAt_obj q2; exact Heap.lt_size e1
    rw [upd_ne (Nat.ne_of_lt (Nat.lt_of_lt_of_le hlt hT))]
    exact (hf e he).1
  done := by
    intro X hP hw hK hc i pins s σ H E I hf st hg
    subst hP hw hK
    obtain ⟨hz, hTI, ⟨x0, y0, hTO⟩, q1, q2⟩ := st
    obtain ⟨xs, ys, hqx, hqy, hend⟩ := hg
    obtain ⟨its, rv, p1, _, _⟩ := Inv.srcB I hqx
    obtain ⟨its2, rv2, p2, _, _⟩ := Inv.srcB I hqy
    have g := GoesN.zip2 (prog := X.prog) (w := X.w) (A := X.A) (elts := elts) (x1 := kk) (pos := tpos) D (drawB (A := X.A.in1) (I.ok.hd hc) b i1 a h1 its.toArray) (drawB (A := X.A.in1) (I.ok.hd hc) c i2 d h2 its2.toArray)
    have en : min its.toArray.size its2.toArray.size = i := by rw [List.size_toArray, List.size_toArray, ← rv.length, ← rv2.length]; exact hend
    refine g.stops s _ E ?_ fun h' tk hk _ => I.turnedL (t' := tk) (ch := [z, TI, TO, i1, i2]) (fun e o he q => hk e o (fun m => he (by
        have m' : e = z ∨ e = TO ∨ e = i1 ∨ e = i2 := by simpa using m
        rcases m' with r | r | r | r <;> simp [r])) q) hf
    rw [en]
    exact ⟨hz, hTI, ⟨_, _, hTO⟩, ⟨q1, p1⟩, ⟨q2, p2⟩⟩
  self := fun A i s Q E st h => wpAny_pyIter_zip st.1 h
theorem pi_zipB {X : Cx} {e e2 : Expr} {ta : TA} {p pos tpos : Pos} {elts : List Expr} {kk : Nat} (hg : Gl X "zip") (hm : X.mg "zip" = none) (ha : PA X [e, e2] ta) (hs : starEach [e, e2] X.env = (false, eval e X.env) :: starEach [e2] X.env) (hpl : (backTo pos (starEach [e2] X.env)).any (·.1) = false) :
    PI X (.Tuple elts kk tpos) (.Call (.Name "zip" p) [e, e2] [] pos) (fun σ H R => ta σ H fun vs H1 => ∃ b c a d xs ys, vs = [.ref a, .ref d] ∧ SqB X.K H1 b a xs ∧ SqB X.K H1 c d ys ∧ R (ItzB X.K b c a d) H1) := by
  refine ⟨fun pins s σ H R I h => ?_⟩
  refine Call_ (ld_blt I hg hm PyProof.Rows.boot_zip (PyProof.Rows.callWith_type1 (thn (ha.run pos pins s σ H _ I h) fun us s1 ⟨vs, H1, I1, r1, q1⟩ => ?_) hs hpl))
  obtain ⟨b, c, a, d, xs, ys, rfl, hqx, hqy, q⟩ := q1
  obtain ⟨u, u2, rfl, ru, ru2⟩ := vals2 r1
  cases ru
  cases ru2
  obtain ⟨its, rv, hb, _, hlt⟩ := Inv.srcB I1 hqx
  obtain ⟨its2, rv2, hb2, _, hlt2⟩ := Inv.srcB I1 hqy
  refine zip_begins2 (begB b a its.toArray) (begB c d its2.toArray) hb hb2 fun h' hz hTI hTO h1 h2 hsz hk => wpAny_pyIter_zip hz ?_
  have I2 : Inv X pins σ H1 { s1 with heap := h' } := I1.kept (t' := s1.toks) hk
  refine ⟨s1.heap.objs.size + 4, [s1.heap.objs.size + 4, s1.heap.objs.size + 2, s1.heap.objs.size + 3, s1.heap.objs.size, s1.heap.objs.size + 1], _, _, H1, rfl, I2, turn_zipB b c (zip_sep2 (fp1 := [a]) (fp2 := [d]) (by intro m hm; simp at hm; rw [hm]; exact hlt) (by intro m hm; simp at hm; rw [hm]; exact hlt2)) (Nat.ne_of_lt hlt) (Nat.ne_of_lt (Nat.lt_succ_of_lt hlt2)), ⟨hz, hTI, ⟨_, _, hTO⟩, iterAt0 h1, iterAt0 h2⟩, fun m hm => ?_, q⟩
  have hle : s1.heap.objs.size ≤ m := by
    have e' : m = s1.heap.objs.size + 4 ∨ m = s1.heap.objs.size + 2 ∨ m = s1.heap.objs.size + 3 ∨ m = s1.heap.objs.size ∨ m = s1.heap.objs.size + 1 := by simpa using hm
    rcases e' with z | z | z | z | z
    · rw [z]; exact Nat.le_add_right _ _
    · rw [z]; exact Nat.le_add_right _ _
    · rw [z]; exact Nat.le_add_right _ _
    · rw [z]; exact Nat.le_refl _
    · rw [z]; exact Nat.le_add_right _ _
  exact I1.fpOk hle (I1.hok.fresh hle)
def zipP : List PV → List PV → List PV
  | p :: ps, q :: qs => .tup [p, q] :: zipP ps qs
  | _, _ => []
theorem zipP_get : ∀ (ps qs : List PV) (i : Nat) (r : PV), (zipP ps qs)[i]? = some r → ∃ p q, ps[i]? = some p ∧ qs[i]? = some q ∧ r = .tup [p, q]
  | [], _, i, r, h => by simp [zipP] at h
  | p :: ps, [], i, r, h => by simp [zipP] at h
  | p :: ps, q :: qs, 0, r, h => by simp [zipP] at h; exact ⟨p, q, rfl, rfl, h.symm⟩
  | p :: ps, q :: qs, i + 1, r, h => by
    simp only [zipP, List.getElem?_cons_succ] at h
    simpa using zipP_get ps qs i r h
theorem zipP_len : ∀ (ps qs : List PV), (zipP ps qs).length = min ps.length qs.length
  | [], qs => by simp [zipP]
  | p :: ps, [] => by simp [zipP]
  | p :: ps, q :: qs => by simp only [zipP, List.length_cons, zipP_len ps qs]; omega
theorem wk_zip {K : PySem.W.Frag} {S : Hp} {b c : Bool} {a d : Addr} {vs ws : List V} {ps qs : List PV} (r : RpL S vs ps) (r' : RpL S ws qs) (z : vs.length ≤ sizeLine) (h : ∀ S' H', Sub S S' → Le G.T S' H' → SqB K H' b a vs) (h' : ∀ S' H', Sub S S' → Le G.T S' H' → SqB K H' c d ws) : WkJ G (ItzB K b c a d) S (zipP ps qs) where
  go := fun i p S' H' hp hs hl' => by
    obtain ⟨p1, q1, e1, e2, _⟩ := zipP_get ps qs i p hp
    obtain ⟨v, hv, _⟩ := r.get e1
    obtain ⟨w, hw, _⟩ := r'.get e2
    exact ⟨vs, ws, v, w, h S' H' hs hl', h' S' H' hs hl', hv, hw⟩
  yld := fun i p S' H' x H'' hp hs hl' hy => by
    obtain ⟨T, y, y2, rfl, nT, rfl, hy, hy2⟩ := hy
    obtain ⟨p1, q1, e1, e2, rfl⟩ := zipP_get ps qs i p hp
    obtain ⟨v, hv, rv⟩ := r.get e1
    obtain ⟨w, hw, rw'⟩ := r'.get e2
    have q := hy vs (h S' H' hs hl')
    rw [hv] at q
    have ey := Option.some.inj q
    have q' := hy2 ws (h' S' H' hs hl')
    rw [hw] at q'
    have ey2 := Option.some.inj q'
    rw [ey] at rv
    rw [ey2] at rw'
    have sub := Sub.upd (o := .tup [y, y2]) (hl'.emp nT)
    exact ⟨upd S' T (.tup [y, y2]), Ext.new nT, hl'.upd nT (fun _ z => by cases z) (by show 2 ≤ sizeLine; decide), Grow.upd hl' nT, .tup upd_same (.cons ((rv.mono hs).mono sub) (.cons ((rw'.mono hs).mono sub) .nil))⟩
  stop := fun S' H' hs hl' => ⟨vs, ws, h S' H' hs hl', h' S' H' hs hl', by rw [zipP_len, r.length, r'.length]⟩
  len := by rw [zipP_len, ← r.length]; exact Nat.le_trans (Nat.min_le_left _ _) z
def iZipP : List PV → Res (List PV)
  | [p, q] => match seqPV p, seqPV q with | some ps, some qs => .ok (zipP ps qs) | _, _ => .bad
  | _ => .bad
def fZip (f g : Rho → Res PV) : Rho → Res (List PV) := fun ρ => (aCons f (aCons g aNil) ρ).bind iZipP
theorem JI.zip {elts : List Expr} {kk : Nat} {tpos : Pos} {a b : Expr} {f g : Rho → Res PV} {p pos : Pos} (hg : Gb B "zip") (hm : G.mg "zip" = none) (ha : JE G B a f) (hb : JE G B b g) (hs : NoStar a := by exact fun _ _ => rfl) (hs' : NoStar b := by exact fun _ _ => rfl) : JI G B (.Tuple elts kk tpos) (.Call (.Name "zip" p) [a, b] [] pos) (fZip f g) := ⟨fun X W ok tk => by
  refine PI.imp (pi_zipB (show X.env.scope.names.lookup ("zip" : Str) = _ by rw [ok.sc]; exact hg) (by rw [ok.mg]; exact hm) ((JA.cons ha (JA.cons hb JA.nil hs') hs).run X W ok tk) (hs _ _) ((JA.cons hb JA.nil hs').ns _ _)) fun σ H R ⟨S, ρ, hl, hr, he⟩ => ?_
  refine ⟨S, ρ, hl, hr, EndI.thenA he fun ps v H1 S1 ep e1 l1 g1 r1 he => ?_⟩
  unfold iZipP at he
  split at he
  · split at he
    · rename_i qs1 qs2 hq1 hq2
      obtain ⟨v, w, rfl, rv, rw'⟩ := r1.two
      obtain ⟨b, a, vs, rfl, ra, z, hsq⟩ := rv.seq (K := X.K) l1 hq1
      obtain ⟨c, d, ws, rfl, rd, z', hsq'⟩ := rw'.seq (K := X.K) l1 hq2
      exact ⟨b, c, a, d, vs, ws, rfl, hsq S1 H1 (Sub.refl _) l1, hsq' S1 H1 (Sub.refl _) l1, he.here l1 (wk_zip ra rd z hsq hsq')⟩
    · exact he.elim
  · exact he.elim⟩
end Pv
end
section
set_option Elab.async false
set_option linter.all false
set_option maxRecDepth 100000
set_option maxHeartbeats 2000000
namespace Pv
open PySem PySem.Spec PyProof.Rows L2
section
variable {prog : Program} {w : World} {A : Around} {E : Value → Shared → Prop} {s : Shared} {z TI TO i1 i2 T : Addr} {fp1 fp2 : List Addr} {n1 n2 i : Nat} {P1 P2 : Nat → Value → Prop} {St1 St2 : Nat → Heap → Prop} {f : Bool} {oT : Obj}
/-- next of a zip whose tuple is held: a new tuple -/
theorem zipD_held_item {Q : Value → Shared → Prop} (S : ZipSep2 z TI TO i1 i2 fp1 fp2) (D1 : Draws prog w A i1 fp1 n1 P1 St1) (D2 : Draws prog w A i2 fp2 n2 P2 St2)
    (hz : IsZipHeld s.heap z TI TO T f) (hT : s.heap.get? T = some oT) (hTI : IsTupOf2 s.heap TI (.ref i1) (.ref i2)) (st1 : St1 i s.heap) (st2 : St2 i s.heap) (hlt1 : i < n1) (hlt2 : i < n2)
    (hQ : ∀ x1 x2 h' tk, P1 i x1 → P2 i x2 → IsZipHeld h' z TI TO T true → St1 (i + 1) h' → St2 (i + 1) h' → IsTupOf2 h' s.heap.objs.size x1 x2 →
      (∀ c o, c ≠ z → c ≠ i1 → c ≠ i2 → s.heap.get? c = some o → h'.get? c = some o) → Q (.ref s.heap.objs.size) { s with heap := h', toks := tk }) :
    wpAny (model prog w) A (Builtin.«zip.__next__» ⟨[.ref z], []⟩) (fun fin s' => ∃ v, fin = .done (.ret v) ∧ Q v s') E s := by
  obtain ⟨hp, g, d, tk0, os⟩ := s
  show wpAny _ _ (field (.ref z) 2 >>= _) _ _ _
  refine wpAny_bind (wpAny_field hz rfl (x := .bool false) rfl ?_)
  show wpAny _ _ (field (.ref z) 3 >>= _) _ _ _
  refine wpAny_bind (wpAny_field hz rfl (x := .ref TI) rfl ?_)
  refine wpAny_bind (wpAny_seqItems hTI rfl ?_)
  show wpAny _ _ (Builtin.SmallTypes.ownedTupleIsFree (.ref z) >>= _) _ _ _
  refine wpAny_bind (wpAny_tupleHeld_zip hz hT fun h₁ hz₁ hs₁ => ?_)
  replace hs₁ : Heap.SameBut z hp h₁ := hs₁
  simp only [Bool.false_eq_true, if_false]
  refine wpAny_bind ?_
  rw [← Array.forIn_toList]
  simp only [List.forIn_cons, List.forIn_nil]
  refine wpAny_bind (wpAny_bind (wpAny_holding ?_))
  show wpAny _ _ (Builtin.SmallTypes.nextOf (.ref i1) >>= _) _ _ _
  refine wpAny_bind (D1.item i ⟨h₁, g, d, tk0, os⟩ _ _ hlt1 (D1.over st1 hs₁ S.zf1) fun x1 p1 tk1 hx1 sn1 hp1 => wpAny_pure ?_)
  replace hp1 : Heap.SameBut i1 h₁ p1 := hp1
  refine wpAny_pure ?_
  refine wpAny_bind (wpAny_bind (wpAny_holding ?_))
  show wpAny _ _ (Builtin.SmallTypes.nextOf (.ref i2) >>= _) _ _ _
  refine wpAny_bind (D2.item i ⟨p1, g, d, tk1, os⟩ _ _ hlt2 (D2.over (D2.over st2 hs₁ S.zf2) hp1 S.sep1_2) fun x2 p2 tk2 hx2 sn2 hp2 => wpAny_pure ?_)
  replace hp2 : Heap.SameBut i2 p1 p2 := hp2
  refine wpAny_pure (wpAny_pure ?_)
  show wpAny _ _ (newTuple [x1, x2] >>= _) _ _ _
  refine wpAny_bind (wpAny_newTuple ?_)
  have hsz : p2.objs.size = hp.objs.size := by rw [hp2.1, hp1.1, hs₁.1]
  have hz₃ : IsZipHeld p2 z TI TO T true := hp2.extBut _ _ S.zi2 (hp1.extBut _ _ S.zi1 hz₁)
  have hk : ∀ c o, c ≠ z → c ≠ i1 → c ≠ i2 → hp.get? c = some o → p2.get? c = some o := fun c o c1 c2 c3 e => hp2.extBut _ _ c3 (hp1.extBut _ _ c2 (hs₁.extBut _ _ c1 e))
  have hj1 : St1 (i + 1) p2 := D1.over sn1 hp2 S.sep2_1
  refine wpAny_pure ⟨_, rfl, ?_⟩
  show Q (.ref p2.objs.size) ⟨p2.push { cls := .type "tuple", data := .seq #[x1, x2] }, g, d, tk2, os⟩
  have hpr : IsTupOf2 (p2.push { cls := .type "tuple", data := .seq #[x1, x2] }) p2.objs.size x1 x2 := Heap.get?_push_size _ rfl
  rw [hsz] at hpr ⊢
  exact hQ x1 x2 _ tk2 hx1 hx2 (Heap.get?_push_of_some _ hz₃) (D1.frame _ _ _ hj1 fun b hb o e => Heap.get?_push_of_some _ e) (D2.frame _ _ _ sn2 fun b hb o e => Heap.get?_push_of_some _ e) hpr fun c o c1 c2 c3 e => Heap.get?_push_of_some _ (hk c o c1 c2 c3 e)
theorem zipD_held_end {Q : Fin → Shared → Prop} (S : ZipSep2 z TI TO i1 i2 fp1 fp2) (D1 : Draws prog w A i1 fp1 n1 P1 St1) (D2 : Draws prog w A i2 fp2 n2 P2 St2)
    (hz : IsZipHeld s.heap z TI TO T f) (hT : s.heap.get? T = some oT) (hTI : IsTupOf2 s.heap TI (.ref i1) (.ref i2)) (st1 : St1 i s.heap) (st2 : St2 i s.heap) (hle1 : i ≤ n1) (hle2 : i ≤ n2) (hend : i = n1 ∨ i = n2)
    (hE : ∀ h' tk e, (∀ c o, c ≠ z → c ≠ i1 → c ≠ i2 → s.heap.get? c = some o → h'.get? c = some o) → (∃ o, h'.get? e = some o ∧ o.cls = .type "StopIteration") → E (.ref e) { s with heap := h', toks := tk }) :
    wpAny (model prog w) A (Builtin.«zip.__next__» ⟨[.ref z], []⟩) Q E s := by
  obtain ⟨hp, g, d, tk0, os⟩ := s
  show wpAny _ _ (field (.ref z) 2 >>= _) _ _ _
  refine wpAny_bind (wpAny_field hz rfl (x := .bool false) rfl ?_)
  show wpAny _ _ (field (.ref z) 3 >>= _) _ _ _
  refine wpAny_bind (wpAny_field hz rfl (x := .ref TI) rfl ?_)
  refine wpAny_bind (wpAny_seqItems hTI rfl ?_)
  show wpAny _ _ (Builtin.SmallTypes.ownedTupleIsFree (.ref z) >>= _) _ _ _
  refine wpAny_bind (wpAny_tupleHeld_zip hz hT fun h₁ hz₁ hs₁ => ?_)
  replace hs₁ : Heap.SameBut z hp h₁ := hs₁
  simp only [Bool.false_eq_true, if_false]
  refine wpAny_bind ?_
  rw [← Array.forIn_toList]
  simp only [List.forIn_cons, List.forIn_nil]
  refine wpAny_bind (wpAny_bind (wpAny_holding ?_))
  show wpAny _ _ (Builtin.SmallTypes.nextOf (.ref i1) >>= _) _ _ _
  by_cases h1 : i = n1
  · subst h1
    refine wpAny_bind (D1.done ⟨h₁, g, d, tk0, os⟩ _ _ (D1.over st1 hs₁ S.zf1) fun h₂ e hs₂ he => ?_)
    exact hE h₂ tk0 e (fun c o c1 c2 _ x => hs₂ _ _ c2 (hs₁.extBut _ _ c1 x)) he
  · have h2 : i = n2 := hend.resolve_left h1
    subst h2
    refine wpAny_bind (D1.item i ⟨h₁, g, d, tk0, os⟩ _ _ (by omega) (D1.over st1 hs₁ S.zf1) fun x1 p1 tk1 hx1 sn1 hp1 => wpAny_pure ?_)
    replace hp1 : Heap.SameBut i1 h₁ p1 := hp1
    refine wpAny_pure ?_
    refine wpAny_bind (wpAny_bind (wpAny_holding ?_))
    show wpAny _ _ (Builtin.SmallTypes.nextOf (.ref i2) >>= _) _ _ _
    refine wpAny_bind (D2.done ⟨p1, g, d, tk1, os⟩ _ _ (D2.over (D2.over st2 hs₁ S.zf2) hp1 S.sep1_2) fun h₃ e hs₃ he => ?_)
    exact hE h₃ tk1 e (fun c o c1 c2 c3 x => hs₃ _ _ c3 (hp1.extBut _ _ c2 (hs₁.extBut _ _ c1 x))) he
end
section
variable {prog : Program} {w : World} {A : Around} {E : Value → Shared → Prop} {s : Shared} {z TI TO i1 i2 T : Addr} {fp1 fp2 : List Addr} {n1 n2 i : Nat} {P1 P2 : Nat → Value → Prop} {St1 St2 : Nat → Heap → Prop} {f : Bool} {oT : Obj}
theorem pyNext_zipD_held {Q : Option Value → Shared → Prop} (S : ZipSep2 z TI TO i1 i2 fp1 fp2) (D1 : Draws prog w A.in1 i1 fp1 n1 P1 St1) (D2 : Draws prog w A.in1 i2 fp2 n2 P2 St2)
    (hz : IsZipHeld s.heap z TI TO T f) (hT : s.heap.get? T = some oT) (hTI : IsTupOf2 s.heap TI (.ref i1) (.ref i2)) (st1 : St1 i s.heap) (st2 : St2 i s.heap) (hlt1 : i < n1) (hlt2 : i < n2)
    (hQ : ∀ x1 x2 h' tk, P1 i x1 → P2 i x2 → IsZipHeld h' z TI TO T true → St1 (i + 1) h' → St2 (i + 1) h' → IsTupOf2 h' s.heap.objs.size x1 x2 →
      (∀ c o, c ≠ z → c ≠ i1 → c ≠ i2 → s.heap.get? c = some o → h'.get? c = some o) → Q (some (.ref s.heap.objs.size)) { s with heap := h', toks := tk }) :
    wpAny (model prog w) A (pyNext (.ref z)) Q E s := by
  have hTy : s.TypeIs (.ref z) "zip" := ⟨_, hz, rfl⟩
  unfold pyNext
  exact wpAny_bind (wpAny_attempt (wpAny_callSpecial?_slot (name := Str.ofString "__next__") hTy F.slot_zip_next
    (wpAny_call_entry F.slot_zip_next hTy F.entry_zip_next
      (zipD_held_item S D1 D2 hz hT hTI st1 st2 hlt1 hlt2 fun x1 x2 h' tk a1 a2 a3 a4 a5 a6 a7 => wpAny_pure (hQ x1 x2 h' tk a1 a2 a3 a4 a5 a6 a7)) (F.args_zip_next_1 _))))
theorem pyNext_zipD_held_end {Q : Option Value → Shared → Prop} (S : ZipSep2 z TI TO i1 i2 fp1 fp2) (D1 : Draws prog w A.in1 i1 fp1 n1 P1 St1) (D2 : Draws prog w A.in1 i2 fp2 n2 P2 St2)
    (hz : IsZipHeld s.heap z TI TO T f) (hT : s.heap.get? T = some oT) (hTI : IsTupOf2 s.heap TI (.ref i1) (.ref i2)) (st1 : St1 i s.heap) (st2 : St2 i s.heap) (hle1 : i ≤ n1) (hle2 : i ≤ n2) (hend : i = n1 ∨ i = n2)
    (hQ : ∀ h' tk, (∀ c o, c ≠ z → c ≠ i1 → c ≠ i2 → s.heap.get? c = some o → h'.get? c = some o) → Q none { s with heap := h', toks := tk }) : wpAny (model prog w) A (pyNext (.ref z)) Q E s := by
  have hTy : s.TypeIs (.ref z) "zip" := ⟨_, hz, rfl⟩
  unfold pyNext
  refine wpAny_bind (wpAny_attempt (wpAny_callSpecial?_slot (name := Str.ofString "__next__") hTy F.slot_zip_next
    (wpAny_call_entry F.slot_zip_next hTy F.entry_zip_next (zipD_held_end S D1 D2 hz hT hTI st1 st2 hle1 hle2 hend fun h' tk e hk he => ?_) (F.args_zip_next_1 _))))
  obtain ⟨o, ho, hc⟩ := he
  refine wpAny_bind (wpAny_isInstance (T := "StopIteration") (b := true) ⟨o, ho, hc⟩ isSubtype_stop ?_)
  exact wpAny_pure (hQ _ _ hk)
end
end Pv
end
section
set_option Elab.async false
set_option linter.all false
set_option maxRecDepth 100000
set_option maxHeartbeats 2000000
namespace Pv
open PySem PySem.Spec PyProof.Rows L2
variable {G : Gc} {B : Bx}
/-! ### dict(zip(a, b)) -/
theorem hasB_at {b : Bool} {h h' : Heap} {a : Addr} {its : Array Value} (x : HasB b h a its) (k : ∀ o, h.get? a = some o → h'.get? a = some o) : HasB b h' a its := by
  cases b with
  | true => exact Heap.IsList.at (show h.IsList a its from x) k
  | false => obtain ⟨o, e, r⟩ := (show h.IsTuple a its from x); exact ⟨o, k o e, r⟩
theorem hasB_obj {b : Bool} {h : Heap} {a : Addr} {its : Array Value} (x : HasB b h a its) : ∃ o, h.get? a = some o := by
  cases b with
  | true => obtain ⟨o, e, _⟩ := (show h.IsList a its from x); exact ⟨o, e⟩
  | false => obtain ⟨o, e, _⟩ := (show h.IsTuple a its from x); exact ⟨o, e⟩
theorem pairArg_zipB {prog : Program} {w : World} (b c : Bool) {a d z TI TO i1 i2 : Addr} (D : ZipSep2 z TI TO i1 i2 [i1, a] [i2, d]) (h1 : a ≠ i1) (h2 : d ≠ i2) (xs ys : Array Value) :
    PairArg prog w "zip" z [z, TI, TO, i1, i2, a, d] [z, TO, i1, i2] (min xs.size ys.size) (fun i k v => xs[i]? = some k ∧ ys[i]? = some v)
      (fun h => IsZip h z TI TO .none ∧ IsTupOf2 h TI (.ref i1) (.ref i2) ∧ (∃ x y, IsTupOf2 h TO x y) ∧ (IterAt b h i1 a 0 ∧ HasB b h a xs) ∧ (IterAt c h i2 d 0 ∧ HasB c h d ys)) where
  type := fun s ok => ⟨_, ok.1, rfl⟩
  notDict := by decide
  keep := fun h h' ok hk => by
    obtain ⟨hz, hTI, ⟨x, y, hTO⟩, ⟨q1, p1⟩, ⟨q2, p2⟩⟩ := ok
    exact ⟨hk _ _ hz, hk _ _ hTI, ⟨x, y, hk _ _ hTO⟩, ⟨iterAt_at q1 fun o e => hk _ o e, hasB_at p1 fun o e => hk _ o e⟩, ⟨iterAt_at q2 fun o e => hk _ o e, hasB_at p2 fun o e => hk _ o e⟩⟩
  there := fun h ok e he => by
    obtain ⟨hz, hTI, ⟨x, y, hTO⟩, ⟨q1, p1⟩, ⟨q2, p2⟩⟩ := ok
    obtain ⟨o1, e1, _⟩ := iterAt_obj q1
    obtain ⟨o2, e2, _⟩ := iterAt_obj q2
    obtain ⟨o3, e3⟩ := hasB_obj p1
    obtain ⟨o4, e4⟩ := hasB_obj p2
    simp only [List.mem_cons, List.not_mem_nil, or_false] at he
    rcases he with q | q | q | q | q | q | q <;> subst q
    all_goals first | exact ⟨_, hz⟩ | exact ⟨_, hTI⟩ | exact ⟨_, hTO⟩ | exact ⟨_, e1⟩ | exact ⟨_, e2⟩ | exact ⟨_, e3⟩ | exact ⟨_, e4⟩
  sub := fun b hb => by simp at hb ⊢; rcases hb with q | q | q | q <;> simp [q]
  noKeys := fun A s Q E hA ok h => getAttrOr_miss_zip ok.1 rfl rfl rfl zip_no_keys (by decide +kernel) hA h
  iter := fun A s dd Q E hA ok hd hdf h => by
    obtain ⟨hz, hTI, ⟨x0, y0, hTO⟩, ⟨q1, p1⟩, ⟨q2, p2⟩⟩ := ok
    simp only [List.mem_cons, List.not_mem_nil, or_false, not_or] at hdf
    obtain ⟨dz, dTI, dTO, di1, di2, dl1, dl2⟩ := hdf
    have D1 := drawB (prog := prog) (w := w) (A := A.in1) hA b i1 a h1 xs
    have D2 := drawB (prog := prog) (w := w) (A := A.in1) hA c i2 d h2 ys
    refine wpAny_pyIter_zip hz (h z [z, TO, i1, i2] (fun i h => IsTupOf2 h TI (.ref i1) (.ref i2) ∧ (IterAt b h i1 a i ∧ HasB b h a xs) ∧ (IterAt c h i2 d i ∧ HasB c h d ys) ∧
      ((IsZip h z TI TO .none ∧ ∃ x y, IsTupOf2 h TO x y) ∨ ∃ T f oT, IsZipHeld h z TI TO T f ∧ h.get? T = some oT ∧ T ≠ z ∧ T ≠ i1 ∧ T ≠ i2 ∧ T ≠ dd)) s.heap s.toks ?_
      ⟨hTI, ⟨q1, p1⟩, ⟨q2, p2⟩, .inl ⟨hz, x0, y0, hTO⟩⟩ (fun _ _ e => e) fun b hb => .inl hb)
    exact {
      off := fun hm => by
        simp only [List.mem_cons, List.not_mem_nil, or_false] at hm
        rcases hm with e | e | e | e
        · exact dz e
        · exact dTO e
        · exact di1 e
        · exact di2 e
      frame := fun i h₁ h₂ st hk => by
        obtain ⟨hTI, ⟨q1, p1⟩, ⟨q2, p2⟩, hz⟩ := st
        refine ⟨hk _ _ (Ne.symm dTI) hTI, ⟨iterAt_at q1 fun o e => hk _ o (Ne.symm di1) e, hasB_at p1 fun o e => hk _ o (Ne.symm dl1) e⟩, ⟨iterAt_at q2 fun o e => hk _ o (Ne.symm di2) e, hasB_at p2 fun o e => hk _ o (Ne.symm dl2) e⟩, ?_⟩
        rcases hz with ⟨hz, x, y, hTO⟩ | ⟨T, f, oT, hz, hT, r1, r2, r3, r4⟩
        · exact .inl ⟨hk _ _ (Ne.symm dz) hz, x, y, hk _ _ (Ne.symm dTO) hTO⟩
        · exact .inr ⟨T, f, oT, hk _ _ (Ne.symm dz) hz, hk _ _ r4 hT, r1, r2, r3, r4⟩
      item := fun i s₁ Q₁ E₁ hi st hds hQ => by
        obtain ⟨hTI, ⟨q1, p1⟩, ⟨q2, p2⟩, hz⟩ := st
        have hix : i < xs.size := Nat.lt_of_lt_of_le hi (Nat.min_le_left ..)
        have hiy : i < ys.size := Nat.lt_of_lt_of_le hi (Nat.min_le_right ..)
        have lt : ∀ {c o}, s₁.heap.get? c = some o → s₁.heap.objs.size ≠ c := fun e => Nat.ne_of_gt (Heap.lt_size e)
        have n1 : s₁.heap.objs.size ≠ i1 := let ⟨_, e, _⟩ := iterAt_obj q1; lt e
        have n2 : s₁.heap.objs.size ≠ i2 := let ⟨_, e, _⟩ := iterAt_obj q2; lt e
        rcases hz with ⟨hz, x, y, hTO⟩ | ⟨T, f, oT, hz, hT, r1, r2, r3, r4⟩
        · refine wpAny_pyNext_zipD2_item (A := A) D D1 D2 hz hTI hTO ⟨q1, p1⟩ ⟨q2, p2⟩ hix hiy fun x1 x2 h' tk a1 a2 a3 a4 a5 a6 a7 a8 hk => ?_
          refine hQ s₁.heap.objs.size _ _ h' tk ⟨a1, a2⟩ (.inl ⟨_, a7, rfl, _, rfl⟩) ⟨hk _ _ D.TIz D.TITO D.TIi1 D.TIi2 hTI, a5, a6, .inr ⟨s₁.heap.objs.size, false, _, a3, a7, lt hz, n1, n2, Nat.ne_of_gt hds⟩⟩
            fun c o hc e => hk c o (fun x => hc (by simp [x])) (fun x => hc (by simp [x])) (fun x => hc (by simp [x])) (fun x => hc (by simp [x])) e
        · refine pyNext_zipD_held (A := A) D D1 D2 hz hT hTI ⟨q1, p1⟩ ⟨q2, p2⟩ hix hiy fun x1 x2 h' tk a1 a2 a3 a5 a6 a7 hk => ?_
          refine hQ s₁.heap.objs.size _ _ h' tk ⟨a1, a2⟩ (.inl ⟨_, a7, rfl, _, rfl⟩) ⟨hk _ _ D.TIz D.TIi1 D.TIi2 hTI, a5, a6, .inr ⟨T, true, oT, a3, hk _ _ r1 r2 r3 hT, r1, r2, r3, r4⟩⟩
            fun c o hc e => hk c o (fun x => hc (by simp [x])) (fun x => hc (by simp [x])) (fun x => hc (by simp [x])) e
      done := fun s₁ Q₁ E₁ st hQ => by
        obtain ⟨hTI, ⟨q1, p1⟩, ⟨q2, p2⟩, hz⟩ := st
        have hend : min xs.size ys.size = xs.size ∨ min xs.size ys.size = ys.size := by omega
        rcases hz with ⟨hz, x, y, hTO⟩ | ⟨T, f, oT, hz, hT, r1, r2, r3, r4⟩
        · exact wpAny_pyNext_zipD2_end (A := A) D D1 D2 hz hTI hTO ⟨q1, p1⟩ ⟨q2, p2⟩ (Nat.min_le_left ..) (Nat.min_le_right ..) hend fun h' tk hk => hQ h' tk fun c o hc e => hk c o (fun x => hc (by simp [x])) (fun x => hc (by simp [x])) (fun x => hc (by simp [x])) (fun x => hc (by simp [x])) e
        · exact pyNext_zipD_held_end (A := A) D D1 D2 hz hT hTI ⟨q1, p1⟩ ⟨q2, p2⟩ (Nat.min_le_left ..) (Nat.min_le_right ..) hend fun h' tk hk => hQ h' tk fun c o hc e => hk c o (fun x => hc (by simp [x])) (fun x => hc (by simp [x])) (fun x => hc (by simp [x])) e }
/-- the values of a row of keys and a row of values, as pairs -/
theorem kv_zip : ∀ (ks : List Key) {ys : List V} {us : List Value}, Vals ys us → KV (ks.zip ys) (ks.zip us)
  | [], _, _, _ => by simp only [List.zip_nil_left]; exact .nil
  | _ :: _, _, _, .nil => .nil
  | k :: ks, _, _, .cons h t => .cons ⟨rfl, h⟩ (kv_zip ks t)
theorem pe_dict_zipB {X : Cx} {e e2 : Expr} {ta : TA} {p p2 pos pos2 : Pos} (hcalm : X.calm = true) (hgd : Gl X "dict") (hmd : X.mg "dict" = none) (hg : Gl X "zip") (hm : X.mg "zip" = none) (ha : PA X [e, e2] ta) (hs : starEach [e, e2] X.env = (false, eval e X.env) :: starEach [e2] X.env) (hpl : (backTo pos (starEach [e2] X.env)).any (·.1) = false) :
    PE X (.Call (.Name "dict" p2) [.Call (.Name "zip" p) [e, e2] [] pos] [] pos2) (fun σ H Q => ta σ H fun vs H1 => ∃ (b c : Bool) (a d : Addr) (ks : List Key) (ys : List V), vs = [.ref a, .ref d] ∧ SqB X.K H1 b a (ks.map kV) ∧ SqB X.K H1 c d ys ∧ ∀ q, H1 q = none → Q (.ref q) (upd H1 q (.dK (mergeK [] (ks.zip ys))))) := by
  refine ⟨fun pins s σ H Q I h => ?_⟩
  refine Call_ (ld_blt I hgd hmd (show bootBuiltins "dict" = some (.type "dict") by decide +kernel) (PyProof.Rows.callWith_type1 ?_ rfl rfl))
  refine Calls.spliced_cons (Call_ (ld_blt I hg hm PyProof.Rows.boot_zip (PyProof.Rows.callWith_type1 (thn (ha.run pos pins s σ H _ I h) fun us s1 ⟨vs, H1, I1, r1, q1⟩ => ?_) hs hpl)))
  obtain ⟨b, c, a, d, ks, ys, rfl, hqx, hqy, q⟩ := q1
  obtain ⟨u, u2, rfl, ru, ru2⟩ := vals2 r1
  cases ru
  cases ru2
  obtain ⟨its, rv, hb, z1, hlt⟩ := Inv.srcB I1 hqx
  obtain ⟨its2, rv2, hb2, z2, hlt2⟩ := Inv.srcB I1 hqy
  refine zip_begins2 (begB b a its.toArray) (begB c d its2.toArray) hb hb2 fun h' hz hTI hTO h1 h2 hsz hk => Calls.spliced_nil ?_
  have I2 : Inv X pins σ H1 { s1 with heap := h' } := I1.kept (t' := s1.toks) hk
  have P := pairArg_zipB (prog := X.prog) (w := X.w) b c (zip_sep2 (fp1 := [a]) (fp2 := [d]) (N := s1.heap.objs.size) (by intro m hm; simp at hm; rw [hm]; exact hlt) (by intro m hm; simp at hm; rw [hm]; exact hlt2)) (Nat.ne_of_lt hlt) (Nat.ne_of_lt (Nat.lt_succ_of_lt hlt2)) its.toArray its2.toArray
  have hl1 := rv.length
  have hl2 := rv2.length
  rw [List.length_map] at hl1
  refine PySem.call_dict_pairs (knd := mixKind X.prog X.w) (kvs := ks.zip its2) P (I2.ok.hd hcalm) ⟨hz, hTI, ⟨_, _, hTO⟩, ⟨iterAt0 h1, hasB_at hb fun o e => hk _ o e⟩, ⟨iterAt0 h2, hasB_at hb2 fun o e => hk _ o e⟩⟩ ⟨?_, ?_⟩ ?_ fun h'' tk hd' k => ?_
  · rw [List.length_zip, List.size_toArray, List.size_toArray, hl1]
  · intro i key v ⟨e1, e2⟩
    have e1 : its[i]? = some key := by simpa using e1
    have e2 : its2[i]? = some v := by simpa using e2
    have hi : i < ks.length := by rw [hl1]; exact getLt e1
    obtain ⟨u, hu, ru⟩ := rv.get (i := i) (x := kV ks[i]) (by rw [List.getElem?_map, List.getElem?_eq_getElem hi]; rfl)
    rw [e1] at hu
    cases hu
    refine ⟨ks[i], ?_, kV_is ru⟩
    rw [List.getElem?_zip_eq_some]
    exact ⟨List.getElem?_eq_getElem hi, e2⟩
  · rw [List.length_map] at z1
    rw [List.size_toArray, ← hl1]
    exact Nat.le_trans (Nat.min_le_left _ _) z1
  · have hm : ((h' : Heap).objs.size == sysModules) = false := beq_eq_false_iff_ne.mpr (Nat.ne_of_gt I2.big)
    have hlen : (mergeK [] (ks.zip ys)).length ≤ sizeLine := by
      refine Nat.le_trans (length_mergeK _ []) ?_
      rw [List.length_nil, Nat.zero_add, List.length_zip]
      rw [List.length_map] at z1
      exact Nat.le_trans (Nat.min_le_left _ _) z1
    have hold : ∀ b o, s1.heap.get? b = some o → h''.get? b = some o := fun b o e => k b o (fun hm => by
      have hb : b < s1.heap.objs.size := Heap.lt_size e
      have e' : b = s1.heap.objs.size + 4 ∨ b = s1.heap.objs.size + 3 ∨ b = s1.heap.objs.size ∨ b = s1.heap.objs.size + 1 := by simpa using hm
      rcases e' with q | q | q | q <;> rw [q] at hb
      · exact absurd hb (Nat.not_lt.mpr (Nat.le_add_right _ _))
      · exact absurd hb (Nat.not_lt.mpr (Nat.le_add_right _ _))
      · exact absurd hb (Nat.lt_irrefl _)
      · exact absurd hb (Nat.not_lt.mpr (Nat.le_add_right _ _))) (hk b o e)
    have hf : s1.heap.objs.size ≤ h'.objs.size := by rw [hsz]; exact Nat.le_add_right _ _
    exact ⟨.ref h'.objs.size, upd H1 h'.objs.size (.dK (mergeK [] (ks.zip ys))), I1.laid (t' := tk) hold hf (show ObjOk X.prog X.w _ _ _ (.dK (mergeK [] (ks.zip ys))) from ⟨hlen, hm, merged [] (ks.zip its2), KV.merge (kv_zip ks rv2) .nil, hd'⟩), rfl, q _ (I1.hok.fresh hf)⟩
end Pv
end
section
set_option Elab.async false
set_option linter.all false
set_option maxRecDepth 100000
set_option maxHeartbeats 2000000
namespace Pv
open PySem PySem.Spec PyProof.Rows L2
variable {G : Gc} {B : Bx}
def dMerge (ks : List Key) (vs : List PV) : List Key → List PV → List Key × List PV
  | k :: ks', p :: ps' => dMerge (dPut ks vs k p).1 (dPut ks vs k p).2 ks' ps'
  | _, _ => (ks, vs)
theorem dMerge_rp {S : Hp} : ∀ {ks : List Key} {ys : List V} {qs : List PV} {kvs : List (Key × V)} {ps : List PV}, RpL S ys qs → RpL S (kvs.map (·.2)) ps →
    (mergeK kvs (ks.zip ys)).map (·.1) = (dMerge (kvs.map (·.1)) ps ks qs).1 ∧ RpL S ((mergeK kvs (ks.zip ys)).map (·.2)) (dMerge (kvs.map (·.1)) ps ks qs).2
  | [], _, _, kvs, ps, _, h => by simp only [List.zip_nil_left, dMerge]; exact ⟨rfl, h⟩
  | k :: ks, _, _, kvs, ps, .nil, h => ⟨rfl, h⟩
  | k :: ks, _, _, kvs, ps, .cons (v := v) (p := p) r t, h => by
    have d := dPut_rp (k := k) r h
    have ih := dMerge_rp (ks := ks) t d.2
    rw [d.1] at ih
    exact ih
def keyVals (d : List Key × List PV) : Res PV := .ok (.dK d.1 d.2)
def bDictZip : List PV → Res PV
  | [p, q] => match seqPV p, seqPV q with
    | some ks, some vs => (match keysOf ks with | some ks => keyVals (dMerge [] [] ks vs) | none => .bad)
    | _, _ => .bad
  | _ => .bad
theorem EndF.dM {W : WX} {S H : Hp} {σ : L2.St} {Q : VK} {kvs : List (Key × V)} {d : List Key × List PV} (h : EndF G W S H σ Q (keyVals d)) (hl : Le G.T S H) (e : kvs.map (·.1) = d.1) (r : RpL S (kvs.map (·.2)) d.2) {a : Addr} (n : H a = none) : Q (.ref a) (L2.upd H a (.dK kvs)) :=
  EndF.dK (by rw [e]; exact h) hl r n
theorem JF.dictZip [hcm : Cool B] {a b : Expr} {f g : Rho → Res PV} {p p2 pos pos2 : Pos} (hgd : Gb B "dict") (hmd : G.mg "dict" = none) (hg : Gb B "zip") (hm : G.mg "zip" = none) (ha : JE G B a f) (hb : JE G B b g) (hs : NoStar a := by exact fun _ _ => rfl) (hs' : NoStar b := by exact fun _ _ => rfl) :
    JF G B (.Call (.Name "dict" p2) [.Call (.Name "zip" p) [a, b] [] pos] [] pos2) (eCall bDictZip (aCons f (aCons g aNil))) := ⟨fun X W ok tk => by
  refine PE.imp (pe_dict_zipB (ok.calm hcm.out) (show X.env.scope.names.lookup ("dict" : Str) = _ by rw [ok.sc]; exact hgd) (by rw [ok.mg]; exact hmd) (show X.env.scope.names.lookup ("zip" : Str) = _ by rw [ok.sc]; exact hg) (by rw [ok.mg]; exact hm) ((JA.cons ha (JA.cons hb JA.nil hs') hs).run X W ok tk) (hs _ _) ((JA.cons hb JA.nil hs').ns _ _)) fun σ H Q ⟨S, ρ, hl, hr, he⟩ => ?_
  refine ⟨S, ρ, hl, hr, EndF.thenA he fun ps v H1 S1 e1 l1 g1 r1 he => ?_⟩
  unfold bDictZip at he
  split at he
  · split at he
    · rename_i ks vs h1 h2
      split at he
      · rename_i ks' hk
        obtain ⟨v, w, rfl, rv, rw'⟩ := r1.two
        obtain ⟨b, a, vs1, rfl, ra, z, hsq⟩ := rv.seq (K := X.K) l1 h1
        obtain ⟨c, d, vs2, rfl, rd, z', hsq'⟩ := rw'.seq (K := X.K) l1 h2
        have ek := keysOf_rp hk ra
        subst ek
        have dm := dMerge_rp (ks := ks') (kvs := []) rd .nil
        exact ⟨b, c, a, d, ks', vs2, rfl, hsq S1 H1 (Sub.refl _) l1, hsq' S1 H1 (Sub.refl _) l1, fun q nq => EndF.dM he l1 dm.1 dm.2 nq⟩
      · exact he.elim
    · exact he.elim
  · exact he.elim⟩
theorem fresh_kv (d : List Key × List PV) : fresh (keyVals d) := trivial
theorem fresh_dictZip (xs : List PV) : fresh (bDictZip xs) := by
  unfold bDictZip
  split
  · split
    · split
      · trivial
      · trivial
    · trivial
  · trivial
theorem JE.dictZip [hcm : Cool B] {a b : Expr} {f g : Rho → Res PV} {p p2 pos pos2 : Pos} (hgd : Gb B "dict") (hmd : G.mg "dict" = none) (hg : Gb B "zip") (hm : G.mg "zip" = none) (ha : JE G B a f) (hb : JE G B b g) (hs : NoStar a := by exact fun _ _ => rfl) (hs' : NoStar b := by exact fun _ _ => rfl) :
    JE G B (.Call (.Name "dict" p2) [.Call (.Name "zip" p) [a, b] [] pos] [] pos2) (eCall bDictZip (aCons f (aCons g aNil))) := (JF.dictZip hgd hmd hg hm ha hb hs hs').je fun ρ => fresh_bindA fresh_dictZip
/-! ### dict(d), dict([(k, v), ..]) -/
def CallF (G : Gc) (r : List V → Hp → VK → Prop) (m : List PV → Res PV) : Prop := ∀ (W : WX) (S H : Hp) (σ : L2.St) (Q : VK) (vs : List V) (ps : List PV), Le G.T S H → RpL S vs ps → EndF G W S H σ Q (m ps) → r vs H Q
theorem tF.call {W : WX} {fa : Rho → Res (List PV)} {m : List PV → Res PV} {r : List V → Hp → VK → Prop} (c : CallF G r m) {σ : L2.St} {H : Hp} {Q : VK} (h : tF G W (eCall m fa) σ H Q) : tCB r (tA G W fa) σ H Q := by
  obtain ⟨S, ρ, hl, hs, he⟩ := h
  exact ⟨S, ρ, hl, hs, EndF.thenA he fun p v H1 S1 e1 l1 g1 r1 he => c W S1 H1 σ Q v p l1 r1 he⟩
theorem JF.bty {x : Str} {T : String} {e : Expr} {es : List Expr} {m : List PV → Res PV} {fa : Rho → Res (List PV)} {p pos : Pos} (hc : ∀ X, CxOk G B X → ∃ r, CallR X (.type T) r ∧ CallF G r m) (hg : Gb B x) (hm : G.mg x = none) (hv : bootBuiltins x = some (.type T)) (ha : JA G B (e :: es) fa)
    (hn : x ≠ "__name__" := by decide) (hdb : (x == ("__debug__" : Str)) = false := by decide) (hs : NoStar e := by exact fun _ _ => rfl) (hns : ∀ env pos, (backTo pos (starEach es env)).any (·.1) = false := by exact fun _ _ => rfl) : JF G B (.Call (.Name x p) (e :: es) [] pos) (eCall m fa) := ⟨fun X W ok tk => by
  obtain ⟨r, h1, h2⟩ := hc X ok
  exact PE.imp (pe_callTy h1 (show X.env.scope.names.lookup x = _ by rw [ok.sc]; exact hg) (by rw [ok.mg]; exact hm) hv (ha.run X W ok tk) hn hdb (hs _ _) (hns _ _)) fun σ H Q h => tF.call h2 h⟩
def pairsOf : List PV → Option (List Key × List PV)
  | [] => some ([], [])
  | .tup [k, v] :: xs => match keyOf k, pairsOf xs with | some k, some d => some (k :: d.1, v :: d.2) | _, _ => none
  | _ :: _ => none
def bDict : List PV → Res PV
  | [.dK ks vs] => keyVals (ks, vs)
  | [.lst xs] => match pairsOf xs with | some d => keyVals (dMerge [] [] d.1 d.2) | none => .bad
  | _ => .bad
theorem pairsOf_rp {K : PySem.W.Frag} {S H : Hp} (hl : Le G.T S H) : ∀ {xs : List PV} {d : List Key × List PV} {vs : List V}, pairsOf xs = some d → RpL S vs xs → ∃ (as : List Addr) (ys : List V), vs = as.map V.ref ∧ d.1.length = ys.length ∧ Paired (fun p kv => SqT K H p [kV kv.1, kv.2]) as (d.1.zip ys) ∧ RpL S ys d.2
  | [], d, _, h, .nil => by cases h; exact ⟨[], [], rfl, rfl, .nil, .nil⟩
  | p :: xs, d, _, h, .cons r t => by
    unfold pairsOf at h
    split at h
    · rename_i e; cases e
    · rename_i k v xs' e
      cases e
      split at h
      · rename_i k' d' h1 h2
        cases h
        obtain ⟨as, ys, e1, e2, e3, e4⟩ := pairsOf_rp hl h2 t
        cases r with | tup ea qa =>
        obtain ⟨y, y2, rfl, r1, r2⟩ := qa.two
        have ek := keyOf_rp h1 r1
        subst ek
        exact ⟨_ :: as, y2 :: ys, by rw [e1]; rfl, by simp [e2], .cons (.inl (.inl (hl _ _ ea))) e3, .cons r2 e4⟩
      · cases h
    · cases h
theorem JF.dict [hcm : Cool B] {a : Expr} {f : Rho → Res PV} {p pos : Pos} (hg : Gb B "dict") (hm : G.mg "dict" = none) (ha : JE G B a f) (hs : NoStar a := by exact fun _ _ => rfl) : JF G B (.Call (.Name "dict" p) [a] [] pos) (eCall bDict (aCons f aNil)) :=
  JF.bty (fun X ok => ⟨_, CallR.or call_dictD (call_dictP (ok.calm hcm.out)), by
    intro W S H σ Q vs ps hl r he
    unfold bDict at he
    split at he
    · obtain ⟨v, rfl, rv⟩ := r.one
      cases rv with | dK ea qa => exact .inl ⟨_, _, rfl, hl _ _ ea, fun a na => EndF.dM he hl rfl qa na⟩
    · split at he
      · rename_i d hd
        obtain ⟨v, rfl, rv⟩ := r.one
        cases rv with | lst ea qa =>
        obtain ⟨as, ys, e1, e2, e3, e4⟩ := pairsOf_rp (K := X.K) hl hd qa
        subst e1
        have dm := dMerge_rp (ks := d.1) (kvs := []) e4 .nil
        exact .inr ⟨_, as, _, rfl, .inl (.inl (hl _ _ ea)), e3, fun a na => EndF.dM he hl dm.1 dm.2 na⟩
      · exact he.elim
    · exact he.elim⟩) hg hm (by decide +kernel) (JA.cons ha JA.nil hs) (hs := hs)
theorem fresh_dict (xs : List PV) : fresh (bDict xs) := by
  unfold bDict
  split
  · trivial
  · split
    · trivial
    · trivial
  · trivial
theorem JE.dict [hcm : Cool B] {a : Expr} {f : Rho → Res PV} {p pos : Pos} (hg : Gb B "dict") (hm : G.mg "dict" = none) (ha : JE G B a f) (hs : NoStar a := by exact fun _ _ => rfl) : JE G B (.Call (.Name "dict" p) [a] [] pos) (eCall bDict (aCons f aNil)) :=
  (JF.dict hg hm ha hs).je fun ρ => fresh_bindA fresh_dict
/-! ### d.get(k, x) -/
def getPV : PV → PV → PV → Res PV
  | .dK ks vs, k, x => match keyOf k with | some k => .ok ((dLook ks vs k).getD x) | none => .bad
  | .dT ks vs, .tup k, x => match keysOf k with | some k => .ok ((dLook ks vs k).getD x) | none => .bad
  | _, _, _ => .bad
def eGet (f g h : Rho → Res PV) : Rho → Res PV := fun ρ => (f ρ).bind fun d => if isDct d = true then (g ρ).bind fun k => (h ρ).bind fun x => getPV d k x else .bad
theorem JE.dget {o e e2 : Expr} {f g h : Rho → Res PV} {apos cpos : Pos} (ho : JE G B o f) (hg : JE G B e g) (hh : JE G B e2 h) (hb : ∀ env, attributeBase o "get" env (eval o env) = eval o env := by exact fun _ => rfl) (hline : (apos.endLine == cpos.line) = true := by rfl) (hs : NoStar e := by exact fun _ _ => rfl) (hs' : NoStar e2 := by exact fun _ _ => rfl) :
    JE G B (.Call (.Attribute o "get" apos) [e, e2] [] cpos) (eGet f g h) := ⟨fun X W ok tk => by
  have ht : starEach [e, e2] X.env = [(false, eval e X.env), (false, eval e2 X.env)] := by rw [hs, hs']; rfl
  refine PE.imp (pe_dget2 (by have := ok.units; omega) (ho.run X W ok tk) (hg.run X W ok tk) (hh.run X W ok tk) ⟨hb _, by rw [ht]; rfl, hline, by rw [ht]; rfl⟩) fun σ H Q ⟨S, ρ, hl, hr, he⟩ => ?_
  refine ⟨S, ρ, hl, hr, EndE.then he fun p v H1 S1 e1 l1 g1 r1 he => ?_⟩
  split at he
  · rename_i hd
    have hv : ∃ a, v = .ref a ∧ IsD H1 a := by
      cases r1 <;> first | (cases hd; done) | skip
      · rename_i ea qa; exact ⟨_, rfl, .inl ⟨_, l1 _ _ ea⟩⟩
      · rename_i ea qa; exact ⟨_, rfl, .inr ⟨_, l1 _ _ ea⟩⟩
    obtain ⟨a, rfl, hd'⟩ := hv
    refine ⟨a, rfl, hd', S1, ρ, l1, hr.mono g1.sub, EndE.then he fun q w H2 S2 e2 l2 g2 r2 he => ?_⟩
    refine ⟨S2, ρ, l2, (hr.mono g1.sub).mono g2.sub, EndE.then he fun q' w' H3 S3 e3 l3 g3 r3 he => ?_⟩
    have ra := r1.mono (g2.sub.trans g3.sub)
    have rk := r2.mono g3.sub
    unfold getPV at he
    split at he
    · split at he
      · rename_i k hk
        cases ra with | dK ea qa =>
        have hd3 : Rd H3 a (.dK _) := l3 _ _ ea
        refine ⟨_, .inl ⟨_, _, hd3, keyOf_rp hk rk, rfl⟩, ?_⟩
        have dl := dLook_rp (k := k) qa
        cases z : dLook _ _ k with
        | none => rw [dl.2 z]; rw [z] at he; exact he.here l3 r3
        | some p => obtain ⟨v', e1, rv⟩ := dl.1 p z; rw [e1]; rw [z] at he; exact he.here l3 rv
      · exact he.elim
    · split at he
      · rename_i k hk
        cases ra with | dT ea qa =>
        cases rk with | tup eb qb =>
        have hd3 : Rd H3 a (.dT _) := l3 _ _ ea
        refine ⟨_, .inr ⟨_, _, _, hd3, rfl, by rw [← keysOf_rp hk qb]; exact l3 _ _ eb, rfl⟩, ?_⟩
        have dl := dLook_rp (k := k) qa
        cases z : dLook _ _ k with
        | none => rw [dl.2 z]; rw [z] at he; exact he.here l3 r3
        | some p => obtain ⟨v', e1, rv⟩ := dl.1 p z; rw [e1]; rw [z] at he; exact he.here l3 rv
      · exact he.elim
    · exact he.elim
  · exact he.elim⟩
end Pv
end
section
set_option Elab.async false
set_option linter.all false
set_option maxRecDepth 100000
set_option maxHeartbeats 3200000
namespace Pv
open PySem PySem.Spec PyProof.Rows L2
section
variable {P : Program} {w : World} {A : Around} {E : Value → Shared → Prop} {s : Shared}
/-! ### set(xs), whatever is added -/
theorem set_loop {I : Addr} {fp wr : List Addr} {G : Array GenState → Array GenState → Prop} {n : Nat} {Pv : Nat → Value → Prop} {St : Nat → Shared → Prop} {R : Result → Shared → Prop}
    (W : WalksS P w A.in1 I fp wr G n Pv St) (S : Addr) (hSf : S ∉ fp) (h0 : Heap) (hS0 : h0.get? S = none) (hw0 : ∀ b ∈ wr, h0.get? b = none) (Tab : Nat → Heap → Prop)
    (keep : ∀ i h h', Tab i h → (∀ o, h.get? S = some o → h'.get? S = some o) → (∀ b o, h0.get? b = some o → h'.get? b = some o) → Tab i h')
    (step : ∀ (i : Nat) (v : Value) (s' : Shared) (Q : Bool → Shared → Prop) (E : Value → Shared → Prop), i < n → Pv i v → Tab i s'.heap → (∀ b o, h0.get? b = some o → s'.heap.get? b = some o) →
      (∀ b h' tk, s'.toks ≤ tk → Heap.SameBut S s'.heap h' → Tab (i + 1) h' → Q b { s' with heap := h', toks := tk }) → wpAny (model P w) A.in1 (setAdd S v) Q E s') :
    ∀ (k i : Nat) (s : Shared), n - i = k → i ≤ n → St i s → (∀ b o, h0.get? b = some o → s.heap.get? b = some o) → Tab i s.heap →
      (∀ s', Moved (S :: wr) G s s' → Tab n s'.heap → (∀ b o, h0.get? b = some o → s'.heap.get? b = some o) → R (.ok (.ret .none)) s') →
      codeAny (model P w) A (.builtin "set.update.loop" ⟨[.ref S, .ref I], []⟩) R s := by
  have hSw : S ∉ wr := fun h => hSf (W.sub _ h)
  have hsub : ∀ b ∈ wr, b ∈ S :: wr := fun b hb => List.mem_cons_of_mem _ hb
  have keepM : ∀ {s s' : Shared}, Moved wr G s s' → (∀ b o, h0.get? b = some o → s.heap.get? b = some o) → ∀ b o, h0.get? b = some o → s'.heap.get? b = some o := fun hm hkp b o e =>
    hm.heap b o (fun hb => by rw [hw0 b hb] at e; cases e) (hkp b o e)
  intro k
  induction k with
  | zero =>
    intro i s hk' hi hst hkp tb hR
    have hin : i = n := by omega
    subst hin
    refine codeAny_builtin PyProof.Rows.F.entry_set_update_loop ?_
    rw [Around.under_plainId PyProof.Rows.F.plain_set_update_loop _]
    show wpAny _ A.in1 (pyNext (.ref I) >>= _) _ _ s
    refine wpAny_bind (W.done s _ _ hst fun s' hm => ?_)
    show wpAny _ A.in1 (ret Value.none) _ _ s'
    have hkp' := keepM hm hkp
    exact wpAny_pure (hR s' (hm.mono hsub) (keep _ _ _ tb (fun o e => hm.heap S o hSw e) hkp') hkp')
  | succ k ih =>
    intro i s hk' hi hst hkp tb hR
    have hlt : i < n := by omega
    refine codeAny_builtin PyProof.Rows.F.entry_set_update_loop ?_
    rw [Around.under_plainId PyProof.Rows.F.plain_set_update_loop _]
    show wpAny _ A.in1 (pyNext (.ref I) >>= _) _ _ s
    refine wpAny_bind (W.item i s _ _ hlt hst fun v s' hP hst' hm => ?_)
    have hkp' := keepM hm hkp
    show wpAny _ A.in1 (holding [v] (setAdd S v) >>= _) _ _ s'
    refine wpAny_bind (wpAny_holding ?_)
    refine step i v s' _ _ hlt hP (keep _ _ _ tb (fun o e => hm.heap S o hSw e) hkp') hkp' fun b h' tk htk hsb tb' => ?_
    have hkp2 : ∀ b o, h0.get? b = some o → h'.get? b = some o := fun b o e => (hsb.2 b (fun z => by rw [z, hS0] at e; cases e)).trans (hkp' b o e)
    refine wpAny_pure ⟨plainId_quiet PyProof.Rows.F.plain_set_update_loop _, ih (i + 1) _ (by omega) hlt (W.frame _ s' _ _ hst' htk fun b hb o e => ?_) hkp2 tb' fun s'' hm'' tb'' hkp'' => ?_⟩
    · rw [hsb.2 b (fun h : b = S => hSf (by rw [← h]; exact hb))]; exact e
    · refine hR s'' (Moved.trans W.gtrans ((hm.mono hsub).then_heap htk fun b o hb e => ?_) hm'') tb'' hkp''
      rw [hsb.2 b (fun h : b = S => hb (by rw [h]; exact List.mem_cons_self))]; exact e
theorem call_set_list {l : Addr} {items : Array Value} {Q : Value → Shared → Prop} (hh : A.handled = none) (hl : s.heap.IsList l items) (Tab : Nat → Heap → Prop)
    (fresh : ∀ h : Heap, h.get? s.heap.objs.size = some { cls := .type "set", dict := none, data := .set #[] 0 (.fresh 0 0 (!w.params.followText "set-order")) } → Tab 0 h)
    (keep : ∀ i h h', Tab i h → (∀ o, h.get? s.heap.objs.size = some o → h'.get? s.heap.objs.size = some o) → (∀ b o, s.heap.get? b = some o → h'.get? b = some o) → Tab i h')
    (step : ∀ (A' : Around) (i : Nat) (v : Value) (s' : Shared) (Q : Bool → Shared → Prop) (E : Value → Shared → Prop), A'.handled = none → A'.units ≤ A.units + 3 → i < items.size → items[i]? = some v → Tab i s'.heap → (∀ b o, s.heap.get? b = some o → s'.heap.get? b = some o) →
      (∀ b h' tk, s'.toks ≤ tk → Heap.SameBut s.heap.objs.size s'.heap h' → Tab (i + 1) h' → Q b { s' with heap := h', toks := tk }) → wpAny (model P w) A' (setAdd s.heap.objs.size v) Q E s')
    (h : ∀ (h' : Heap) (tk : Nat), Tab items.size h' → (∀ b o, s.heap.get? b = some o → h'.get? b = some o) → Q (.ref s.heap.objs.size) { s with heap := h', toks := tk }) :
    wpAny (model P w) A (call (.type "set") [.ref l]) Q E s := by
  obtain ⟨c, tl, hmro⟩ := PySem.F.called_set.mro
  have hmade := PySem.F.called_set.made
  have hsub := PySem.F.called_set.sub
  refine wpAny_call (codeAny_of_tree ?_)
  show wpAny _ _ (callAny (.type "set") _) _ _ _
  refine wpAny_pure ⟨Code.quiet_builtin _ (by decide +kernel), codeAny_builtin PySem.F.entry_type_call ?_⟩
  rw [Around.under_plain (weight_type_call_type "set" [.ref l] []) rfl]
  have h1 := PySem.F.called_set.notType
  have h2 := PySem.F.called_set.canCreate
  have hct := PySem.F.typeCall_set_1 (.ref l)
  repeat (any_goals (first | assumption | wp_step))
  refine codeAny_mono (code_set_led1 (.ref l) (E := E) (Q₁ := fun obj s₁ => obj = .ref s.heap.objs.size ∧ s₁ = { s with heap := s.heap.push { cls := .type "set", dict := none, data := .set #[] 0 (.fresh 0 0 (!w.params.followText "set-order")) } }) ⟨rfl, rfl⟩) fun r s₁ hr => ?_
  cases r with
  | error e => exact hr
  | ok fl =>
    cases fl with
    | ret obj =>
      obtain ⟨rfl, rfl⟩ := hr
      have hS : (s.heap.push { cls := .type "set", dict := none, data := .set #[] 0 (.fresh 0 0 (!w.params.followText "set-order")) }).get? s.heap.objs.size = some { cls := .type "set", dict := none, data := .set #[] 0 (.fresh 0 0 (!w.params.followText "set-order")) } := Heap.get?_push_size _ rfl
      have hT : Shared.TypeIs { s with heap := s.heap.push { cls := .type "set", dict := none, data := .set #[] 0 (.fresh 0 0 (!w.params.followText "set-order")) } } (.ref s.heap.objs.size) "set" := ⟨_, hS, rfl⟩
      have hli := PySem.F.called_set.init.lookup
      have hbi := PySem.F.called_set.init.bind (.ref s.heap.objs.size)
      repeat (any_goals (first | assumption | wp_step))
      refine codeAny_mono (codeAny_call_builtin (R := wants (fun r s₂ => r = .none ∧ ∃ h' tk, s₂ = { s with heap := h', toks := tk } ∧ Tab items.size h' ∧
          (∀ b o, s.heap.get? b = some o → h'.get? b = some o)) E) PySem.F.called_set.init.plain PySem.F.entry_set_init (check_set_init_1 hT ?_)) fun r₂ s₂ hr₂ => ?_
      · obtain ⟨ol, hol, hcl, nl, hdl⟩ := hl
        obtain ⟨ocls, odict, odata, oslots⟩ := ol
        simp only at hcl hdl
        subst hcl; subst hdl
        have hol' : (s.heap.push { cls := .type "set", dict := none, data := .set #[] 0 (.fresh 0 0 (!w.params.followText "set-order")) }).get? l = some { cls := .type "list", dict := odict, data := .seq items nl, slots := oslots } := Heap.get?_push_of_some _ hol
        have hsls := PySem.F.sub_list_set
        have hslf := PySem.F.sub_list_frozenset
        have hne : (Value.type "list" == Value.type "dict") = false := by decide
        have hl1 : (s.heap.push { cls := .type "set", dict := none, data := .set #[] 0 (.fresh 0 0 (!w.params.followText "set-order")) }).IsList l items := ⟨_, hol', rfl, nl, rfl⟩
        unfold Builtin.«set.__init__» noKeywords Builtin.Frozenset.updateFrom
        generalize hPI : pyIter = PI
        wp_walk
        subst hPI
        refine wpAny_pyIter_list hl1 ?_
        refine wpAny_bind (wpAny_runValue ?_)
        have hlS : l < s.heap.objs.size := Heap.lt_size hol
        have hh3 : A.in1.in1.in1.handled = none := by simp [hh]
        have hneI : l ≠ (s.heap.push { cls := .type "set", dict := none, data := .set #[] 0 (.fresh 0 0 (!w.params.followText "set-order")) }).objs.size := by
          rw [Heap.size_push]; exact Nat.ne_of_lt (Nat.lt_succ_of_lt hlS)
        have hSf : s.heap.objs.size ∉ [(s.heap.push { cls := .type "set", dict := none, data := .set #[] 0 (.fresh 0 0 (!w.params.followText "set-order")) }).objs.size, l] := by
          rw [Heap.size_push]; simp only [List.mem_cons, List.mem_singleton, List.not_mem_nil, or_false, not_or]
          exact ⟨Nat.ne_of_lt (Nat.lt_succ_self _), Nat.ne_of_gt hlS⟩
        have none_of : ∀ b, s.heap.objs.size ≤ b → s.heap.get? b = none := fun b hb => by
          cases q : s.heap.get? b with
          | none => rfl
          | some o => exact absurd (Nat.lt_of_lt_of_le (Heap.lt_size q) hb) (Nat.lt_irrefl _)
        refine set_loop ((Walks.list hh3 _ l hneI items).toS) s.heap.objs.size hSf s.heap (none_of _ (Nat.le_refl _)) (fun b hb => none_of b (by
            rw [List.mem_singleton.mp hb, Heap.size_push]
            exact Nat.le_succ _)) Tab keep (fun i v s' Q E hi hv tb hk hQ => step _ i v s' Q E hh3 (Nat.le_refl _) hi hv tb hk hQ) (items.size - 0) 0 _ (by omega) (Nat.zero_le _)
          ⟨⟨_, Heap.get?_push_size _ rfl, rfl, rfl⟩, (hl1.push _)⟩ (fun b o e => Heap.get?_push_of_some _ (Heap.get?_push_of_some _ e)) (fresh _ (Heap.get?_push_of_some _ hS)) ?hR
        case hR =>
          intro s' hm tb' hkp
          obtain ⟨h', g2, d', tk', os'⟩ := s'
          have eg : g2 = s.gens := hm.gens
          have ed : d' = s.drawn := hm.drawn
          have eo : os' = s.os := hm.os
          subst eg; subst ed; subst eo
          show wpAny _ _ _ _ _ _
          refine wpAny_pure ?_
          show wpAny _ _ (ret Value.none) _ _ _
          exact wpAny_pure ⟨rfl, h', tk', rfl, tb', hkp⟩
      · cases r₂ with
        | error e => exact hr₂
        | ok fl₂ =>
          cases fl₂ with
          | ret r =>
            obtain ⟨rfl, h', tk, rfl, tb', hk'⟩ := hr₂
            repeat (any_goals (first | assumption | wp_step))
            exact h _ _ tb' hk'
          | _ => exact hr₂.elim
    | _ => exact hr.elim
theorem call_set_tuple {l : Addr} {items : Array Value} {Q : Value → Shared → Prop} (hh : A.handled = none) (hl : s.heap.IsTuple l items) (Tab : Nat → Heap → Prop)
    (fresh : ∀ h : Heap, h.get? s.heap.objs.size = some { cls := .type "set", dict := none, data := .set #[] 0 (.fresh 0 0 (!w.params.followText "set-order")) } → Tab 0 h)
    (keep : ∀ i h h', Tab i h → (∀ o, h.get? s.heap.objs.size = some o → h'.get? s.heap.objs.size = some o) → (∀ b o, s.heap.get? b = some o → h'.get? b = some o) → Tab i h')
    (step : ∀ (A' : Around) (i : Nat) (v : Value) (s' : Shared) (Q : Bool → Shared → Prop) (E : Value → Shared → Prop), A'.handled = none → A'.units ≤ A.units + 3 → i < items.size → items[i]? = some v → Tab i s'.heap → (∀ b o, s.heap.get? b = some o → s'.heap.get? b = some o) →
      (∀ b h' tk, s'.toks ≤ tk → Heap.SameBut s.heap.objs.size s'.heap h' → Tab (i + 1) h' → Q b { s' with heap := h', toks := tk }) → wpAny (model P w) A' (setAdd s.heap.objs.size v) Q E s')
    (h : ∀ (h' : Heap) (tk : Nat), Tab items.size h' → (∀ b o, s.heap.get? b = some o → h'.get? b = some o) → Q (.ref s.heap.objs.size) { s with heap := h', toks := tk }) :
    wpAny (model P w) A (call (.type "set") [.ref l]) Q E s := by
  obtain ⟨c, tl, hmro⟩ := PySem.F.called_set.mro
  have hmade := PySem.F.called_set.made
  have hsub := PySem.F.called_set.sub
  refine wpAny_call (codeAny_of_tree ?_)
  show wpAny _ _ (callAny (.type "set") _) _ _ _
  refine wpAny_pure ⟨Code.quiet_builtin _ (by decide +kernel), codeAny_builtin PySem.F.entry_type_call ?_⟩
  rw [Around.under_plain (weight_type_call_type "set" [.ref l] []) rfl]
  have h1 := PySem.F.called_set.notType
  have h2 := PySem.F.called_set.canCreate
  have hct := PySem.F.typeCall_set_1 (.ref l)
  repeat (any_goals (first | assumption | wp_step))
  refine codeAny_mono (code_set_led1 (.ref l) (E := E) (Q₁ := fun obj s₁ => obj = .ref s.heap.objs.size ∧ s₁ = { s with heap := s.heap.push { cls := .type "set", dict := none, data := .set #[] 0 (.fresh 0 0 (!w.params.followText "set-order")) } }) ⟨rfl, rfl⟩) fun r s₁ hr => ?_
  cases r with
  | error e => exact hr
  | ok fl =>
    cases fl with
    | ret obj =>
      obtain ⟨rfl, rfl⟩ := hr
      have hS : (s.heap.push { cls := .type "set", dict := none, data := .set #[] 0 (.fresh 0 0 (!w.params.followText "set-order")) }).get? s.heap.objs.size = some { cls := .type "set", dict := none, data := .set #[] 0 (.fresh 0 0 (!w.params.followText "set-order")) } := Heap.get?_push_size _ rfl
      have hT : Shared.TypeIs { s with heap := s.heap.push { cls := .type "set", dict := none, data := .set #[] 0 (.fresh 0 0 (!w.params.followText "set-order")) } } (.ref s.heap.objs.size) "set" := ⟨_, hS, rfl⟩
      have hli := PySem.F.called_set.init.lookup
      have hbi := PySem.F.called_set.init.bind (.ref s.heap.objs.size)
      repeat (any_goals (first | assumption | wp_step))
      refine codeAny_mono (codeAny_call_builtin (R := wants (fun r s₂ => r = .none ∧ ∃ h' tk, s₂ = { s with heap := h', toks := tk } ∧ Tab items.size h' ∧
          (∀ b o, s.heap.get? b = some o → h'.get? b = some o)) E) PySem.F.called_set.init.plain PySem.F.entry_set_init (check_set_init_1 hT ?_)) fun r₂ s₂ hr₂ => ?_
      · obtain ⟨ol, hol, hcl, nl, hdl⟩ := hl
        obtain ⟨ocls, odict, odata, oslots⟩ := ol
        simp only at hcl hdl
        subst hcl; subst hdl
        have hol' : (s.heap.push { cls := .type "set", dict := none, data := .set #[] 0 (.fresh 0 0 (!w.params.followText "set-order")) }).get? l = some { cls := .type "tuple", dict := odict, data := .seq items nl, slots := oslots } := Heap.get?_push_of_some _ hol
        have hsls := PySem.F.sub_tuple_set
        have hslf := PySem.F.sub_tuple_frozenset
        have hne : (Value.type "tuple" == Value.type "dict") = false := by decide
        have hl1 : (s.heap.push { cls := .type "set", dict := none, data := .set #[] 0 (.fresh 0 0 (!w.params.followText "set-order")) }).IsTuple l items := ⟨_, hol', rfl, nl, rfl⟩
        unfold Builtin.«set.__init__» noKeywords Builtin.Frozenset.updateFrom
        generalize hPI : pyIter = PI
        wp_walk
        subst hPI
        refine wpAny_pyIter_tuple hl1 ?_
        refine wpAny_bind (wpAny_runValue ?_)
        have hlS : l < s.heap.objs.size := Heap.lt_size hol
        have hh3 : A.in1.in1.in1.handled = none := by simp [hh]
        have hneI : l ≠ (s.heap.push { cls := .type "set", dict := none, data := .set #[] 0 (.fresh 0 0 (!w.params.followText "set-order")) }).objs.size := by
          rw [Heap.size_push]; exact Nat.ne_of_lt (Nat.lt_succ_of_lt hlS)
        have hSf : s.heap.objs.size ∉ [(s.heap.push { cls := .type "set", dict := none, data := .set #[] 0 (.fresh 0 0 (!w.params.followText "set-order")) }).objs.size, l] := by
          rw [Heap.size_push]; simp only [List.mem_cons, List.mem_singleton, List.not_mem_nil, or_false, not_or]
          exact ⟨Nat.ne_of_lt (Nat.lt_succ_self _), Nat.ne_of_gt hlS⟩
        have none_of : ∀ b, s.heap.objs.size ≤ b → s.heap.get? b = none := fun b hb => by
          cases q : s.heap.get? b with
          | none => rfl
          | some o => exact absurd (Nat.lt_of_lt_of_le (Heap.lt_size q) hb) (Nat.lt_irrefl _)
        refine set_loop ((Walks.tuple hh3 _ l hneI items).toS) s.heap.objs.size hSf s.heap (none_of _ (Nat.le_refl _)) (fun b hb => none_of b (by
            rw [List.mem_singleton.mp hb, Heap.size_push]
            exact Nat.le_succ _)) Tab keep (fun i v s' Q E hi hv tb hk hQ => step _ i v s' Q E hh3 (Nat.le_refl _) hi hv tb hk hQ) (items.size - 0) 0 _ (by omega) (Nat.zero_le _)
          ⟨⟨_, Heap.get?_push_size _ rfl, rfl, rfl⟩, (hl1.push _)⟩ (fun b o e => Heap.get?_push_of_some _ (Heap.get?_push_of_some _ e)) (fresh _ (Heap.get?_push_of_some _ hS)) ?hR
        case hR =>
          intro s' hm tb' hkp
          obtain ⟨h', g2, d', tk', os'⟩ := s'
          have eg : g2 = s.gens := hm.gens
          have ed : d' = s.drawn := hm.drawn
          have eo : os' = s.os := hm.os
          subst eg; subst ed; subst eo
          show wpAny _ _ _ _ _ _
          refine wpAny_pure ?_
          show wpAny _ _ (ret Value.none) _ _ _
          exact wpAny_pure ⟨rfl, h', tk', rfl, tb', hkp⟩
      · cases r₂ with
        | error e => exact hr₂
        | ok fl₂ =>
          cases fl₂ with
          | ret r =>
            obtain ⟨rfl, h', tk, rfl, tb', hk'⟩ := hr₂
            repeat (any_goals (first | assumption | wp_step))
            exact h _ _ tb' hk'
          | _ => exact hr₂.elim
    | _ => exact hr.elim
end
end Pv
end
section
set_option Elab.async false
set_option linter.all false
set_option maxRecDepth 100000
set_option maxHeartbeats 3200000
namespace Pv.TK
open PySem PySem.Spec PyProof.Rows
open L2
abbrev thash (P : Program) (w : World) (k : List Key) : Int := tupleKeyHash (mixKind P w) k
abbrev IsT (P : Program) (w : World) (h : Heap) (k : List Key) (a : Addr) : Prop := IsTupleKey (mixKind P w) h k a
section
variable {P : Program} {w : World} {A : Around} {E : Value → Shared → Prop} {s : Shared}
def KV1 (v : Value) : Prop := (∃ i t, v = Value.int i t) ∨ ∃ x t, v = Value.str x t
theorem items_key {k : List Key} {vs : List Value} (h : ItemsAre (mixKind P w) k vs) : ∀ v ∈ vs, KV1 v := by
  induction h with
  | nil => intro v hv; cases hv
  | @cons k0 v' ks vs h1 _ ih =>
    intro v hv
    rcases List.mem_cons.mp hv with e | hv
    · subst e
      have h1 : keyIs k0 v = true := h1
      unfold keyIs at h1
      cases k0 with
      | inl i => obtain ⟨t, e2⟩ := Value.isInt_shape h1; exact .inl ⟨_, t, e2⟩
      | inr x => exact .inr (by cases v <;> first | (exact ⟨_, _, rfl⟩) | (cases h1; done))
    · exact ih v hv
theorem ofAClass_key (n : Nat) {v : Value} (h : KV1 v) : ofAClassStatement n v = pure false := by
  rcases h with ⟨i, t, rfl⟩ | ⟨x, t, rfl⟩ <;> cases n <;> rfl
theorem hashBy_key (n : Nat) {v : Value} (h : KV1 v) : ∃ b, hashByValue n v = pure b := by
  rcases h with ⟨i, t, rfl⟩ | ⟨x, t, rfl⟩
  · exact ⟨true, by cases n <;> rfl⟩
  · exact ⟨false, by cases n <;> rfl⟩
theorem ofAClass_tup {k : List Key} {b : Addr} {Q : Bool → Shared → Prop} (hk : IsT P w s.heap k b) (h : Q false s) : wpAny (model P w) A (ofAClassStatement 8 (.ref b)) Q E s := by
  have hT := hk.typeIs
  obtain ⟨o, items, n, ho, _, hd, hi⟩ := hk
  unfold ofAClassStatement
  refine wpAny_bind (wpAny_typeOf hT ?_)
  dsimp only
  have e : (("tuple" : String) == "tuple") = true := by decide
  simp only [e, if_true, Bool.not_true, Bool.false_eq_true, if_false]
  try refine wpAny_bind (wpAny_pure ?_)
  try simp only [Bool.not_true, Bool.false_eq_true, if_false]
  show wpAny _ _ (seqItems? (.ref b) >>= _) _ _ s
  refine wpAny_bind (wpAny_seqItems ho hd ?_)
  dsimp only
  refine wpAny_bind ?_
  show wpAny _ _ (forIn items _ _) _ _ s
  rw [← Array.forIn_toList]
  refine wpAny_forIn_list _ (fun rest r s' => r.1 = none ∧ s' = s ∧ ∀ v ∈ rest, KV1 v) _ ?_ ?_ _ _ ⟨rfl, rfl, items_key hi⟩
  · rintro v rest r s' ⟨hr, rfl, hall⟩
    rw [ofAClass_key _ (hall v List.mem_cons_self)]
    refine wpAny_bind (wpAny_pure ?_)
    simp only [Bool.false_eq_true, if_false]
    exact wpAny_pure ⟨rfl, rfl, fun u hu' => hall u (List.mem_cons_of_mem _ hu')⟩
  · rintro ⟨r1, r2⟩ s' ⟨hr, rfl, _⟩
    simp only at hr
    subst hr
    exact wpAny_pure h
theorem hashBy_tup {k : List Key} {b : Addr} {Q : Bool → Shared → Prop} (hk : IsT P w s.heap k b) (h : ∀ c, Q c s) : wpAny (model P w) A (hashByValue 8 (.ref b)) Q E s := by
  have hT := hk.typeIs
  obtain ⟨o, items, n, ho, _, hd, hi⟩ := hk
  unfold hashByValue
  refine wpAny_bind (wpAny_specialOf hT F.slot_tuple_hash.lookup ?_)
  show wpAny _ _ (seqItems? (.ref b) >>= _) _ _ s
  refine wpAny_bind (wpAny_seqItems ho hd ?_)
  refine wpAny_bind ?_
  show wpAny _ _ (forIn items _ _) _ _ s
  rw [← Array.forIn_toList]
  refine wpAny_forIn_list _ (fun rest r s' => r.1 = none ∧ s' = s ∧ ∀ v ∈ rest, KV1 v) _ ?_ ?_ _ _ ⟨rfl, rfl, items_key hi⟩
  · rintro v rest r s' ⟨hr, rfl, hall⟩
    obtain ⟨c, hc⟩ := hashBy_key 7 (hall v List.mem_cons_self)
    rw [hc]
    refine wpAny_bind (wpAny_pure ?_)
    cases c with
    | true =>
      simp only [Bool.not_true, Bool.false_eq_true, if_false]
      exact wpAny_pure ⟨rfl, rfl, fun u hu' => hall u (List.mem_cons_of_mem _ hu')⟩
    | false =>
      simp only [Bool.not_false, if_true]
      exact wpAny_pure (wpAny_pure (h _))
  · rintro ⟨r1, r2⟩ s' ⟨hr, rfl, _⟩
    simp only at hr
    subst hr
    exact wpAny_pure (h _)
/-- a search among tuples shows nothing -/
theorem seen_tup {k : List Key} {b : Addr} {Q : Bool → Shared → Prop} (hk : IsT P w s.heap k b) {ys : List Value} (hy : ∀ y ∈ ys, ∃ k' c, y = Value.ref c ∧ IsT P w s.heap k' c) (h : Q false s) :
    wpAny (model P w) A (searchCouldBeSeen (.ref b) ys) Q E s := by
  unfold searchCouldBeSeen
  refine wpAny_bind ?_
  refine wpAny_forIn_list _ (fun rest r s' => r.1 = none ∧ s' = s ∧ ∀ y ∈ rest, ∃ k' c, y = Value.ref c ∧ IsT P w s.heap k' c) _ ?_ ?_ _ _ ⟨rfl, rfl, hy⟩
  · rintro v rest r s' ⟨hr, rfl, hall⟩
    obtain ⟨k', c, rfl, hc⟩ := hall v List.mem_cons_self
    have rest' : ∀ y ∈ rest, ∃ k' c, y = Value.ref c ∧ IsT P w s'.heap k' c := fun u hu' => hall u (List.mem_cons_of_mem _ hu')
    dsimp only
    by_cases hv : (b == c || (carriedByValue (.ref b) && carriedByValue (.ref c))) = true
    · refine wp_if_pos hv ?_
      exact wpAny_pure ⟨rfl, rfl, rest'⟩
    · refine wp_if_neg hv ?_
      refine wpAny_bind (wpAny_eqIsQuiet_tuple hk ?_)
      simp only [Bool.not_true, Bool.false_eq_true, if_false]
      refine wpAny_bind (wpAny_eqIsQuiet_tuple hc ?_)
      simp only [Bool.not_true, Bool.false_eq_true, if_false]
      refine wpAny_bind (ofAClass_tup hk ?_)
      simp only [Bool.false_eq_true, if_false]
      refine wpAny_bind (ofAClass_tup hc ?_)
      simp only [Bool.false_eq_true, if_false]
      exact wpAny_pure ⟨rfl, rfl, rest'⟩
  · rintro ⟨r1, r2⟩ s' ⟨hr, rfl, _⟩
    simp only at hr
    subst hr
    exact wpAny_pure h

/-! ### the set of tuples -/
def rowsOf (P : Program) (w : World) (L : List (Addr × List Key)) : List (Int × Value) := L.map fun p => (thash P w p.2, Value.ref p.1)
structure SetTR (P : Program) (w : World) (h : Heap) (a : Addr) (L : List (Addr × List Key)) (es : Array (Int × Value)) (ep : Nat) (t : SetTable) : Prop where
  ob : ∃ o, h.get? a = some o ∧ o.ExactSet ∧ o.data = .set es ep t
  rows : es.toList = rowsOf P w L
  tab : TabOk t (L.map fun p => thash P w p.2)
  nd : (L.map (·.2)).Nodup
  tup : ∀ p ∈ L, IsT P w h p.2 p.1
  led : w.params.followText "set-order" = true ∨ t.led = true
  room : L.length * 5 < t.mask * 3
  few : L.length < 5
variable {a : Addr} {L : List (Addr × List Key)} {es : Array (Int × Value)} {ep : Nat} {t : SetTable}
theorem SetTR.size (R : SetTR P w s.heap a L es ep t) : es.size = L.length := by
  have h := congrArg List.length R.rows
  unfold rowsOf at h
  rw [Array.length_toList, List.length_map] at h
  exact h
theorem SetTR.fits (R : SetTR P w s.heap a L es ep t) : t.fits es.size = true := by
  have h1 := R.tab.sz
  rw [List.length_map] at h1
  have h2 := R.size
  have h3 := R.room
  unfold SetTable.fits SetTable.fill
  rw [R.tab.dm, Bool.and_eq_true, beq_iff_eq, decide_eq_true_eq]
  show t.place.size = es.size ∧ t.place.size + 0 ≤ t.mask
  omega
theorem SetTR.entry (R : SetTR P w s.heap a L es ep t) {i : Nat} {p : Addr × List Key} (h : L[i]? = some p) : es[i]? = some (thash P w p.2, Value.ref p.1) := by
  rw [← Array.getElem?_toList, R.rows]
  unfold rowsOf
  rw [List.getElem?_map, h] <;> rfl
theorem SetTR.gw (R : SetTR P w s.heap a L es ep t) : ¬ t.gaveWay = true := by
  unfold SetTable.gaveWay
  rw [mask_odd R.tab.mok]
  decide
theorem search_from (R : SetTR P w s.heap a L es ep t) {x : Addr} {k : List Key} (hx : IsT P w s.heap k x) (hu : A.units < cLine) {K : Nat} (hKf : K < 10 * SetTable.turns t.mask)
    (hK : way t.mask (thash P w k) K ∉ t.place.toList) (hKb : ∀ c, c < K → way t.mask (thash P w k) c ∈ t.place.toList) {Q : SetFound → Shared → Prop}
    (hin : k ∈ L.map (·.2) → Q (.there none) s) (hout : k ∉ L.map (·.2) → Q (.free (way t.mask (thash P w k) K) false) s) :
    ∀ (f c : Nat) (stand : Option SetTable.Probe), stand.getD (t.probeStart (thash P w k)) = nth t.mask (runAt t.mask (SetTable.bits (thash P w k) % (t.mask + 1)) (SetTable.bits (thash P w k))) c → c ≤ K → K - c < f →
      (∀ (i : Nat) p, L[i]? = some p → p.2 = k → ∃ c', c ≤ c' ∧ c' < K ∧ t.place.toList[i]? = some (way t.mask (thash P w k) c')) →
      wpAny (model P w) A (setSearchFrom a (.ref x) (thash P w k) true f stand) Q E s
  | 0, c, stand, _, _, hf, _ => absurd hf (Nat.not_lt_zero _)
  | f + 1, c, stand, hst, hc, hf, hre => by
    obtain ⟨o, ho, hex, hd⟩ := R.ob
    rw [setSearchFrom_succ]
    refine wpAny_bind (wpAny_setState_of ho hd R.fits ?_)
    dsimp only
    refine wp_if_neg R.gw ?_
    try refine wpAny_bind (wpAny_pure ?_)
    have hnd : (nth t.mask (runAt t.mask (SetTable.bits (thash P w k) % (t.mask + 1)) (SetTable.bits (thash P w k))) c).dummy = none := by
      have key : ∀ (n : Nat) (p : SetTable.Probe), p.dummy = none → (nth t.mask p n).dummy = none := by
        intro n
        induction n with
        | zero => intro p h; exact h
        | succ n ih =>
          intro p h
          refine ih (adv t.mask p) ?_
          unfold adv
          split <;> exact h
      exact key c _ rfl
    have sh : ∀ q, nth t.mask (nth t.mask (runAt t.mask (SetTable.bits (thash P w k) % (t.mask + 1)) (SetTable.bits (thash P w k))) c) q = nth t.mask (runAt t.mask (SetTable.bits (thash P w k) % (t.mask + 1)) (SetTable.bits (thash P w k))) (c + q) := fun q => (nth_add t.mask c _ q).symm
    have e1 : ∀ q, (nth t.mask (nth t.mask (runAt t.mask (SetTable.bits (thash P w k) % (t.mask + 1)) (SetTable.bits (thash P w k))) c) q).j = way t.mask (thash P w k) (c + q) := fun q => congrArg SetTable.Probe.j (sh q)
    have spec := go_spec t R.tab.ris R.tab.dm (fun i => (es[i]?.map (·.1)).getD 0) (thash P w k) (10 * SetTable.turns t.mask) (K - c) _ hnd (by omega)
      (fun q hq => by rw [e1]; exact hKb (c + q) (by omega)) (by rw [e1, show c + (K - c) = K by omega]; exact hK)
    have hashAt : ∀ (i : Nat) p, L[i]? = some p → (fun i => (es[i]?.map (·.1)).getD 0) i = thash P w p.2 := fun i p hp => by
      show (es[i]?.map (·.1)).getD 0 = _
      rw [R.entry hp] <;> rfl
    rcases spec with ⟨q, i, hq, hi, hh, hno, hpr⟩ | ⟨hno, hpr⟩
    · -- a candidate
      have hpr' : t.probe (fun i => (es[i]?.map (·.1)).getD 0) (thash P w k) (stand.getD (t.probeStart (thash P w k))) = some (.candidate (way t.mask (thash P w k) (c + q)) i (nth t.mask (runAt t.mask (SetTable.bits (thash P w k) % (t.mask + 1)) (SetTable.bits (thash P w k))) (c + (q + 1)))) := by
        rw [hst, ← e1, ← sh]
        exact hpr
      rw [hpr']
      dsimp only
      rw [e1] at hi
      -- the entry
      have hil : i < L.length := by
        have h1 : i < t.place.toList.length := (List.getElem?_eq_some_iff.mp hi).1
        have h2 := R.tab.sz
        rw [List.length_map] at h2
        rw [Array.length_toList] at h1
        omega
      have hp : L[i]? = some L[i] := List.getElem?_eq_getElem hil
      generalize hpe : L[i] = p at hp
      have hmem : p ∈ L := List.mem_of_getElem? hp
      have hpt := R.tup p hmem
      have rest : wpAny (model P w) A (searchRest a (.ref x) (thash P w k) true f es t (way t.mask (thash P w k) (c + q)) i (nth t.mask (runAt t.mask (SetTable.bits (thash P w k) % (t.mask + 1)) (SetTable.bits (thash P w k))) (c + (q + 1)))) Q E s := by
        unfold searchRest
        rw [R.entry hp]
        dsimp only
        refine wpAny_bind (wpAny_holding (wpAny_eqBool_tuple hu hpt hx ?_))
        refine wpAny_bind (wpAny_setState_of ho hd R.fits ?_)
        dsimp only
        by_cases hkk : p.2 = k
        · refine wp_if_pos (by simp [hkk]) ?_
          refine wpAny_pure (hin ?_)
          exact List.mem_map.mpr ⟨p, hmem, hkk⟩
        · refine wp_if_neg (by simp [hkk]) ?_
          try refine wpAny_bind (wpAny_pure ?_)
          rw [sameMem]
          dsimp only
          have hsl : t.slot (way t.mask (thash P w k) (c + q)) = .live i := slot_live R.tab.ris hi
          simp only [if_true, hsl, R.entry hp]
          refine wpAny_bind (wpAny_isSame_ref_self (wpAny_bind (wpAny_pure ?_)))
          simp only [if_true]
          refine wp_if_neg (by simp [hkk]) ?_
          refine search_from R hx hu hKf hK hKb hin hout f (c + (q + 1)) _ rfl (by omega) (by omega) fun i0 p0 h0 hk0 => ?_
          obtain ⟨c', a1, a2, a3⟩ := hre i0 p0 h0 hk0
          refine ⟨c', ?_, a2, a3⟩
          -- it isn't passed
          rcases Nat.lt_or_ge c' (c + q) with z | z
          · exfalso
            refine hno (c' - c) i0 (by omega) (by rw [e1, show c + (c' - c) = c' by omega]; exact a3) ?_
            exact (hashAt i0 p0 h0).trans (congrArg (thash P w) hk0)
          · rcases Nat.lt_or_ge (c + q) c' with y | y
            · omega
            · exfalso
              have ec : c' = c + q := Nat.le_antisymm y z
              rw [ec] at a3
              have s0 := slot_live R.tab.ris a3
              rw [hsl] at s0
              injection s0 with s0
              rw [← s0, hp] at h0
              exact hkk ((congrArg Prod.snd (Option.some.inj h0)).trans hk0)
      by_cases hl : t.led = true
      · refine wp_if_neg (by simp [hl]) ?_
        try refine wpAny_bind (wpAny_pure ?_)
        exact rest
      · refine wp_if_pos (by simp [hl]) ?_
        refine wpAny_bind (seen_tup hx (fun y hy => ?_) ?_)
        · obtain ⟨e, he, ee⟩ := List.mem_map.mp hy
          have he1 : e ∈ es ∧ e.1 = thash P w k := by simpa using he
          have he2 : e ∈ es.toList := by simpa using he1.1
          rw [R.rows] at he2
          obtain ⟨p2, hp2, e2⟩ := List.mem_map.mp he2
          refine ⟨p2.2, p2.1, ?_, R.tup p2 hp2⟩
          rw [← ee, ← e2]
        · refine wp_if_neg (by decide) ?_
          try refine wpAny_bind (wpAny_pure ?_)
          exact rest
    · -- the empty slot
      have hpr' : t.probe (fun i => (es[i]?.map (·.1)).getD 0) (thash P w k) (stand.getD (t.probeStart (thash P w k))) = some (.empty (way t.mask (thash P w k) K) none) := by
        have e2 : way t.mask (thash P w k) K = (nth t.mask (nth t.mask (runAt t.mask (SetTable.bits (thash P w k) % (t.mask + 1)) (SetTable.bits (thash P w k))) c) (K - c)).j := by
          rw [e1, show c + (K - c) = K by omega]
        rw [hst, e2]
        exact hpr
      rw [hpr']
      dsimp only
      refine wpAny_pure (hout fun hm => ?_)
      obtain ⟨p0, h0, hk0⟩ := List.mem_map.mp hm
      obtain ⟨i0, hi0, e0⟩ := List.getElem_of_mem h0
      have h00 : L[i0]? = some p0 := by rw [List.getElem?_eq_getElem hi0, e0]
      obtain ⟨c', a1, a2, a3⟩ := hre i0 p0 h00 hk0
      refine hno (c' - c) i0 (by omega) (by rw [e1, show c + (c' - c) = c' by omega]; exact a3) ?_
      exact (hashAt i0 p0 h00).trans (congrArg (thash P w) hk0)

/-- the search as adding asks for it -/
theorem search_at (R : SetTR P w s.heap a L es ep t) {x : Addr} {k : List Key} (hx : IsT P w s.heap k x) (hu : A.units < cLine) {Q : SetFound → Shared → Prop}
    (hin : k ∈ L.map (·.2) → Q (.there none) s)
    (hout : ∀ K, k ∉ L.map (·.2) → way t.mask (thash P w k) K ∉ t.place.toList → (∀ c, c < K → way t.mask (thash P w k) c ∈ t.place.toList) → Q (.free (way t.mask (thash P w k) K) false) s) :
    wpAny (model P w) A (setSearch a (.ref x) (thash P w k) true) Q E s := by
  have hroom := R.room
  obtain ⟨K, hKf, hK, hKb⟩ := R.tab.first (by rw [List.length_map]; omega) (thash P w k)
  have hbig : K < 100000 := by
    have : 10 * SetTable.turns t.mask ≤ 1420 := by
      unfold SetTable.turns
      rcases R.tab.mok with e | e | e <;> omega
    omega
  unfold setSearch
  refine search_from R hx hu hKf hK hKb hin (fun hn => hout K hn hK hKb) 100000 0 none rfl (Nat.zero_le _) (by omega) fun i p hp hk => ?_
  have hi : (L.map fun p => thash P w p.2)[i]? = some (thash P w k) := by rw [List.getElem?_map, hp, ← hk] <;> rfl
  have hil : i < t.place.toList.length := by
    have h1 : i < L.length := (List.getElem?_eq_some_iff.mp hp).1
    have h2 := R.tab.sz
    rw [List.length_map] at h2
    rw [Array.length_toList]
    omega
  have hj := List.getElem?_eq_getElem hil
  obtain ⟨c, hc, e⟩ := R.tab.before hK hi hj
  exact ⟨c, Nat.zero_le _, hc, by rw [hj, e]⟩
/-- a tuple isn't the set -/
theorem isT_same {h h' : Heap} {k : List Key} {a b : Addr} {o : Obj} {es : Array (Int × Value)} {ep : Nat} {t : SetTable} (hb : IsT P w h k b) (ho : h.get? a = some o) (hd : o.data = .set es ep t) (hs : Heap.SameBut a h h') : IsT P w h' k b := by
  obtain ⟨o', items, n, ho', hc, hd', hi⟩ := hb
  have hne : b ≠ a := by
    rintro rfl
    obtain rfl : o' = o := Option.some.inj (ho'.symm.trans ho)
    rw [hd] at hd'
    exact nomatch hd'
  exact ⟨o', items, n, (hs.2 b hne).trans ho', hc, hd', hi⟩
theorem rows_put (L : List (Addr × List Key)) (p : Nat) (x : Addr) (k : List Key) : rowsOf P w (L.take p ++ (x, k) :: L.drop p) = (rowsOf P w L).take p ++ (thash P w k, Value.ref x) :: (rowsOf P w L).drop p := by
  unfold rowsOf
  rw [List.map_append, List.map_cons, List.map_take, List.map_drop]
theorem add_at (R : SetTR P w s.heap a L es ep t) {x : Addr} {k : List Key} (hx : IsT P w s.heap k x) (hu : A.units < cLine) (hfew : L.length + 1 < 5) {Q : Bool → Shared → Prop}
    (hQ : ∀ b h' L' es' ep' t', Heap.SameBut a s.heap h' → SetTR P w h' a L' es' ep' t' → (k ∈ L.map (·.2) → L' = L) → (k ∉ L.map (·.2) → L'.Perm ((x, k) :: L)) → Q b { s with heap := h' }) :
    wpAny (model P w) A (setAddHashed a (.ref x) (thash P w k)) Q E s := by
  obtain ⟨o, ho, hex, hd⟩ := R.ob
  have hsl := R.size
  have hroom := R.room
  unfold setAddHashed
  refine wpAny_holding ?_
  rw [show (100000 : Nat) = 99999 + 1 from rfl, setAddHashedIn_succ]
  refine wpAny_bind (wpAny_setState_of ho hd R.fits ?_)
  dsimp only
  refine wp_if_neg (by simp [byScan, Value.scannable]) ?_
  try refine wpAny_bind (wpAny_pure ?_)
  refine wpAny_bind (search_at R hx hu (fun hm => ?_) fun K hm hK hb => ?_)
  · dsimp only
    exact wpAny_pure (hQ false s.heap L es ep t (Heap.SameBut.refl a s.heap) R (fun _ => rfl) fun z => absurd hm z)
  · dsimp only
    refine wpAny_bind (wpAny_setState_of ho hd R.fits ?_)
    dsimp only
    obtain ⟨q1, q2, q3, q4, q5, q6, q7, q8, q9⟩ := R.tab.put hK hb
    generalize hpt : t.put (way t.mask (thash P w k) K) = pt at q1 q3 q4 q5 q6 q7 q8 q9 ⊢
    obtain ⟨t1, p⟩ := pt
    dsimp only at q1 q3 q4 q5 q6 q7 q8 q9 ⊢
    subst q1
    have hbv : ∀ (kk : Bool → Sem Bool), (∀ c, wpAny (model P w) A (kk c) Q E s) → wpAny (model P w) A (if t1.plain = true then (do let c ← hashByValue 8 (.ref x); kk c) else (do let c ← pure true; kk c)) Q E s := fun kk hR => by
      by_cases hp1 : t1.plain = true
      · exact wp_if_pos hp1 (wpAny_bind (hashBy_tup hx hR))
      · exact wp_if_neg hp1 (wpAny_bind (wpAny_pure (hR _)))
    refine hbv _ fun c => ?_
    generalize ht2 : (if c = true then t1 else { t1 with plain := false }) = t2
    have f1 : t2.place = t1.place := by rw [← ht2]; cases c <;> rfl
    have f2 : t2.mask = t1.mask := by rw [← ht2]; cases c <;> rfl
    have f3 : t2.dummies = t1.dummies := by rw [← ht2]; cases c <;> rfl
    have f4 : t2.led = t1.led := by rw [← ht2]; cases c <;> rfl
    have q3 := (show ∀ hs, TabOk t1 hs → TabOk t2 hs by
      intro hs q3
      rw [← ht2]
      cases c with
      | true => exact q3
      | false => exact ⟨q3.ris, q3.dm, q3.sz, q3.mok, q3.bd, q3.reach⟩) _ q3
    have q4 : t2.mask = t.mask := f2.trans q4
    have q5 : t2.led = t.led := f4.trans q5
    have q9 : t2.fill = _ := (show t2.fill = t1.fill by rw [← ht2]; cases c <;> rfl).trans q9
    clear f1 f2 f3 f4 hbv ht2 hpt q6 q7 q8
    have hin : (SetTable.insertAt es (SetTable.below t.place (way t.mask (thash P w k) K)) (thash P w k, Value.ref x)).toList = rowsOf P w (L.take (SetTable.below t.place (way t.mask (thash P w k) K)) ++ (x, k) :: L.drop (SetTable.below t.place (way t.mask (thash P w k) K))) := by
      rw [SetTable.toList_insertAt, rows_put, R.rows]
    generalize hpp : SetTable.below t.place (way t.mask (thash P w k) K) = p at q2 q3 hin ⊢
    have pm := put_perm L p (x, k)
    have hlen : (L.take p ++ (x, k) :: L.drop p).length = L.length + 1 := pm.length_eq
    have hhs : (L.take p ++ (x, k) :: L.drop p).map (fun p => thash P w p.2) = (L.map fun p => thash P w p.2).take p ++ thash P w k :: (L.map fun p => thash P w p.2).drop p := by
      rw [List.map_append, List.map_cons, List.map_take, List.map_drop]
    rw [← hhs] at q3
    have nd1 : ((L.take p ++ (x, k) :: L.drop p).map (·.2)).Nodup := by
      refine (pm.map (·.2)).nodup_iff.mpr ?_
      rw [List.map_cons]
      exact List.nodup_cons.mpr ⟨hm, R.nd⟩
    have hes : (SetTable.insertAt es p (thash P w k, Value.ref x)).size = L.length + 1 := by
      have h := congrArg List.length hin
      unfold rowsOf at h
      rw [Array.length_toList, List.length_map, hlen] at h
      exact h
    generalize SetTable.insertAt es p (thash P w k, Value.ref x) = es1 at hin hes ⊢
    generalize L.take p ++ (x, k) :: L.drop p = L1 at pm hlen q3 nd1 hin
    refine wpAny_bind (wpAny_storeSet_of ho hd ?_ (by rw [hes, sizeLine_eq]; omega))
    have sb : Heap.SameBut a s.heap (s.heap.update a (Obj.putSet es1 t2)) := Heap.SameBut.update ..
    have ho1 := store_at (es' := es1) (t' := t2) ho hd
    generalize s.heap.update a (Obj.putSet es1 t2) = h1 at sb ho1 ⊢
    have tup1 : ∀ p ∈ L1, IsT P w h1 p.2 p.1 := fun p hp => by
      rcases List.mem_cons.mp (pm.mem_iff.mp hp) with e | hp
      · rw [e]; exact isT_same hx ho hd sb
      · exact isT_same (R.tup p hp) ho hd sb
    have ld1 : w.params.followText "set-order" = true ∨ t2.led = true := by rw [q5]; exact R.led
    by_cases hf : t2.tooFull = true
    · exfalso
      have hfull : (L.length + 1) * 5 ≥ t2.mask * 3 := by
        have h := hf
        unfold SetTable.tooFull at h
        rw [decide_eq_true_eq, q9, List.length_map] at h
        exact h
      have h7 : 7 ≤ t.mask := by rcases R.tab.mok with e | e | e <;> omega
      rw [q4] at hfull
      omega
    · first
        | refine wp_if_neg (by simp [hf]) ?_
        | (refine wpAny_bind ?_; refine wp_if_neg (by simp [hf]) ?_; refine wpAny_pure ?_)
      refine wpAny_pure (hQ true h1 L1 es1 (ep + 1) t2 sb ⟨⟨_, ho1, ⟨hex.1, hex.2.1, hex.2.2⟩, rfl⟩, hin, q3, nd1, tup1, ld1, ?_, by rw [hlen]; exact hfew⟩ (fun z => absurd z hm) fun _ => pm)
      have h := hf
      unfold SetTable.tooFull at h
      rw [decide_eq_true_eq, q9, List.length_map] at h
      rw [hlen]
      omega
structure Got (ks : List (Addr × List Key)) (i : Nat) (L : List (Addr × List Key)) : Prop where
  sub : ∀ p ∈ L, p ∈ ks.take i
  all : ∀ p ∈ ks.take i, p.2 ∈ L.map (·.2)
  len : L.length ≤ i
theorem Got.zero (ks : List (Addr × List Key)) : Got ks 0 [] := ⟨fun p h => (by cases h), fun p h => (by simp at h), Nat.le_refl _⟩
theorem take_next {α : Type} {l : List α} {i : Nat} {x : α} (h : l[i]? = some x) : l.take (i + 1) = l.take i ++ [x] := by
  rw [List.take_succ, h] <;> rfl
theorem Got.same {ks L : List (Addr × List Key)} {i : Nat} {x : Addr × List Key} (g : Got ks i L) (h : ks[i]? = some x) (hm : x.2 ∈ L.map (·.2)) : Got ks (i + 1) L := by
  refine ⟨fun p hp => ?_, fun p hp => ?_, Nat.le_succ_of_le g.len⟩
  · rw [take_next h]
    exact List.mem_append_left _ (g.sub p hp)
  · rw [take_next h] at hp
    rcases List.mem_append.mp hp with z | z
    · exact g.all p z
    · rw [List.mem_singleton.mp z]; exact hm
theorem Got.more {ks L L' : List (Addr × List Key)} {i : Nat} {x : Addr × List Key} (g : Got ks i L) (h : ks[i]? = some x) (pm : L'.Perm (x :: L)) : Got ks (i + 1) L' := by
  refine ⟨fun p hp => ?_, fun p hp => ?_, ?_⟩
  · rw [take_next h]
    rcases List.mem_cons.mp (pm.mem_iff.mp hp) with e | z
    · rw [e]; exact List.mem_append_right _ (List.mem_singleton.mpr rfl)
    · exact List.mem_append_left _ (g.sub p z)
  · rw [(pm.map (·.2)).mem_iff, List.map_cons]
    rw [take_next h] at hp
    rcases List.mem_append.mp hp with z | z
    · exact List.mem_cons_of_mem _ (g.all p z)
    · rw [List.mem_singleton.mp z]; exact List.mem_cons_self
  · rw [pm.length_eq, List.length_cons]
    exact Nat.succ_le_succ g.len
theorem isT_keep {h h' : Heap} {k : List Key} {b : Addr} (x : IsT P w h k b) (hk : ∀ c o, h.get? c = some o → h'.get? c = some o) : IsT P w h' k b := by
  obtain ⟨o, items, n, ho, r⟩ := x
  exact ⟨o, items, n, hk b o ho, r⟩
theorem SetTR.keep {h h' : Heap} {a : Addr} {L : List (Addr × List Key)} {es : Array (Int × Value)} {ep : Nat} {t : SetTable} (R : SetTR P w h a L es ep t) (ha : ∀ o, h.get? a = some o → h'.get? a = some o) (ht : ∀ p ∈ L, IsT P w h' p.2 p.1) : SetTR P w h' a L es ep t := by
  obtain ⟨o, ho, r⟩ := R.ob
  exact ⟨⟨o, ha o ho, r⟩, R.rows, R.tab, R.nd, ht, R.led, R.room, R.few⟩
/-- a new set -/
theorem setTR_fresh {h : Heap} {a : Addr} (ho : h.get? a = some { cls := .type "set", dict := none, data := .set #[] 0 (.fresh 0 0 (!w.params.followText "set-order")) }) : SetTR P w h a [] #[] 0 (.fresh 0 0 (!w.params.followText "set-order")) where
  ob := ⟨_, ho, ⟨rfl, rfl, rfl⟩, rfl⟩
  rows := rfl
  tab := ⟨List.Pairwise.nil, rfl, rfl, .inl rfl, fun x hx => (by cases hx), fun i h j hi => (by simp at hi)⟩
  nd := List.nodup_nil
  tup := fun p hp => (by cases hp)
  led := by
    show _ ∨ (!w.params.followText "set-order") = true
    cases w.params.followText "set-order"
    · exact .inr rfl
    · exact .inl rfl
  room := by
    show 0 * 5 < 7 * 3
    decide
  few := by
    show 0 < 5
    decide
end
end Pv.TK
end
section
set_option Elab.async false
set_option linter.all false
set_option maxRecDepth 100000
set_option maxHeartbeats 2000000
namespace Pv
open PySem PySem.Spec PyProof.Rows L2
variable {G : Gc} {B : Bx}
/-! ### the different ones of a row, the first met first -/
def hasK {κ : Type} [DecidableEq κ] (ks : List κ) (k : κ) : Bool := ks.contains k
theorem hasK_iff {κ : Type} [DecidableEq κ] {ks : List κ} {k : κ} : hasK ks k = true ↔ k ∈ ks := by unfold hasK; simp
def ddStep {κ : Type} [DecidableEq κ] (seen : List κ) (k : κ) : List κ := if seen.contains k = true then seen else seen ++ [k]
def dd {κ : Type} [DecidableEq κ] (ks : List κ) : List κ := ks.foldl ddStep []
section
variable {κ : Type} [DecidableEq κ]
theorem dd_snoc (ks : List κ) (k : κ) : dd (ks ++ [k]) = ddStep (dd ks) k := by unfold dd; rw [List.foldl_append]; rfl
theorem foldl_dd_mem (x : κ) : ∀ (ks seen : List κ), x ∈ ks.foldl ddStep seen ↔ x ∈ seen ∨ x ∈ ks
  | [], seen => by simp
  | k :: ks, seen => by
    rw [List.foldl_cons, foldl_dd_mem x ks]
    unfold ddStep
    split
    · rename_i h
      have h : k ∈ seen := by simpa using h
      simp only [List.mem_cons]
      constructor
      · rintro (a | a)
        · exact .inl a
        · exact .inr (.inr a)
      · rintro (a | a | a)
        · exact .inl a
        · subst a; exact .inl h
        · exact .inr a
    · simp only [List.mem_append, List.mem_cons, List.mem_singleton, List.not_mem_nil, or_false]
      constructor
      · rintro ((a | a) | a)
        · exact .inl a
        · exact .inr (.inl a)
        · exact .inr (.inr a)
      · rintro (a | a | a)
        · exact .inl (.inl a)
        · exact .inl (.inr a)
        · exact .inr a
theorem dd_mem (x : κ) (ks : List κ) : x ∈ dd ks ↔ x ∈ ks := by unfold dd; rw [foldl_dd_mem]; simp
theorem foldl_dd_nodup : ∀ (ks seen : List κ), seen.Nodup → (ks.foldl ddStep seen).Nodup
  | [], seen, h => h
  | k :: ks, seen, h => by
    rw [List.foldl_cons]
    refine foldl_dd_nodup ks _ ?_
    unfold ddStep
    split
    · exact h
    · rename_i hc
      have hc : ¬ k ∈ seen := by simpa using hc
      rw [List.nodup_append]
      refine ⟨h, by simp, fun a ha b hb => ?_⟩
      rw [List.mem_singleton] at hb
      subst hb
      exact fun e => hc (e ▸ ha)
theorem dd_nodup (ks : List κ) : (dd ks).Nodup := foldl_dd_nodup ks [] List.nodup_nil
theorem foldl_dd_id : ∀ (ks seen : List κ), (seen ++ ks).Nodup → ks.foldl ddStep seen = seen ++ ks
  | [], seen, h => by simp
  | k :: ks, seen, h => by
    have e : seen ++ k :: ks = (seen ++ [k]) ++ ks := by simp
    rw [e] at h
    have hn : ¬ k ∈ seen := fun hm => by
      have h1 := (List.nodup_append.mp h).1
      exact (List.nodup_append.mp h1).2.2 k hm k (by simp) rfl
    rw [List.foldl_cons, show ddStep seen k = seen ++ [k] by unfold ddStep; rw [if_neg (by simpa using hn)], foldl_dd_id ks _ h, e]
theorem dd_id {ks : List κ} (h : ks.Nodup) : dd ks = ks := by unfold dd; rw [foldl_dd_id ks [] (by simpa using h)]; simp
end
theorem hasK_step {κ : Type} [DecidableEq κ] (l : List κ) (k k' : κ) : hasK (ddStep l k) k' = (hasK l k' || decide (k' = k)) := by
  unfold ddStep hasK
  split
  · rename_i hm
    by_cases e : k' = k
    · subst e; rw [hm]; rfl
    · simp [e]
  · simp
theorem len_step {κ : Type} [DecidableEq κ] (l : List κ) (k : κ) : (ddStep l k).length = if hasK l k = true then l.length else l.length + 1 := by
  unfold ddStep hasK
  split <;> simp
/-! ### len(set(x)) -/
def CntV (K : PySem.W.Frag) (H : Hp) (vs : List V) (n : Nat) : Prop :=
  (∃ ks : List Key, vs = ks.map kV ∧ ks.length < 1000 ∧ n = (dd ks).length) ∨
  (∃ ps : List (Addr × List Key), vs = ps.map (fun p => V.ref p.1) ∧ (∀ p ∈ ps, SqT K H p.1 (p.2.map kV)) ∧ ps.length < 5 ∧ n = (dd (ps.map (·.2))).length)
theorem scan_key {P : Program} {w : World} {k : Key} {u : Value} (h : (mixKind P w).is k u = true) : u.scannable = true := by
  have h : keyIs k u = true := h
  unfold keyIs at h
  cases k <;> cases u <;> first | rfl | (cases h; done)
theorem dd_le {κ : Type} [DecidableEq κ] : ∀ (ks seen : List κ), (ks.foldl ddStep seen).length ≤ seen.length + ks.length
  | [], seen => by simp
  | k :: ks, seen => by
    rw [List.foldl_cons]
    refine Nat.le_trans (dd_le ks _) ?_
    unfold ddStep
    split <;> simp <;> omega
theorem take_snoc {α : Type} {l : List α} {i : Nat} {x : α} (h : l[i]? = some x) : l.take (i + 1) = l.take i ++ [x] := by
  rw [List.take_succ, h] <;> rfl
theorem setOf_congr {prog : Program} {w : World} {κ : Type} [DecidableEq κ] {knd : KeyKind prog w κ} {h : Heap} {a : Addr} {S S' : κ → Bool} {n n' : Nat} (x : h.SetOf knd a S n) (e : S = S') (e' : n = n') : h.SetOf knd a S' n' := by subst e; subst e'; exact x
section
variable {X : Cx} {pins : List (Addr × Obj)} {σ : L2.St} {H : Hp} {s : Shared}
theorem Inv.isT {b : Addr} {k : List Key} (I : L2.Inv X pins σ H s) (h : SqT X.K H b (k.map kV)) : TK.IsT X.prog X.w s.heap k b := by
  obtain ⟨its, r, ⟨o, h1, h2, n, h3⟩, z⟩ := I.tuple h
  exact ⟨o, its.toArray, n, h1, h2, h3, by simpa using items_are r⟩
def SetN (h : Heap) (a : Addr) (n : Nat) : Prop := ∃ o es ep t, h.get? a = some o ∧ o.ExactSet ∧ o.data = .set es ep t ∧ t.fits es.size = true ∧ es.size = n
theorem set_keys {b : Bool} {l : Addr} {ks : List Key} {Q : Value → Shared → Prop} {E : Value → Shared → Prop} (hc : X.calm = true) (I : L2.Inv X pins σ H s) (hq : SqB X.K H b l (ks.map kV)) (hz : ks.length < 1000)
    (h : ∀ (h' : Heap) (tk : Nat), h'.SetOf (mixKind X.prog X.w) s.heap.objs.size (fun k => hasK (dd ks) k) (dd ks).length → (∀ b o, s.heap.get? b = some o → h'.get? b = some o) → Q (.ref s.heap.objs.size) { s with heap := h', toks := tk }) :
    wpAny (model X.prog X.w) X.A (call (.type "set") [.ref l]) Q E s := by
  obtain ⟨its, rv, hb, z, hlt⟩ := Inv.srcB I hq
  have hl := rv.length
  rw [List.length_map] at hl
  have at' : ∀ (i : Nat) (v : Value), its.toArray[i]? = some v → ∃ k, ks[i]? = some k ∧ (mixKind X.prog X.w).is k v = true := fun i v hv => by
    have hv : its[i]? = some v := by simpa using hv
    have hi : i < ks.length := by rw [hl]; exact getLt hv
    obtain ⟨u, hu, ru⟩ := rv.get (i := i) (x := kV ks[i]) (by rw [List.getElem?_map, List.getElem?_eq_getElem hi]; rfl)
    rw [hv] at hu
    cases hu
    exact ⟨ks[i], List.getElem?_eq_getElem hi, kV_is ru⟩
  have fresh : ∀ h : Heap, h.get? s.heap.objs.size = some { cls := .type "set", dict := none, data := .set #[] 0 (.fresh 0 0 (!X.w.params.followText "set-order")) } → h.SetOf (mixKind X.prog X.w) s.heap.objs.size (fun k => hasK (dd (ks.take 0)) k) (dd (ks.take 0)).length := fun h e =>
    ⟨_, #[], 0, _, e, ⟨rfl, rfl, rfl⟩, rfl, fun e he => by simp at he, fun k => by simp [dd, hasK], by decide, by rfl, rfl⟩
  have keep : ∀ (i : Nat) (h h' : Heap), h.SetOf (mixKind X.prog X.w) s.heap.objs.size (fun k => hasK (dd (ks.take i)) k) (dd (ks.take i)).length → (∀ o, h.get? s.heap.objs.size = some o → h'.get? s.heap.objs.size = some o) → (∀ b o, s.heap.get? b = some o → h'.get? b = some o) → h'.SetOf (mixKind X.prog X.w) s.heap.objs.size (fun k => hasK (dd (ks.take i)) k) (dd (ks.take i)).length := fun i h h' ⟨o, es, ep, t, ho, r⟩ k _ => ⟨o, es, ep, t, k o ho, r⟩
  have step : ∀ (A' : Around) (i : Nat) (v : Value) (s' : Shared) (Q : Bool → Shared → Prop) (E : Value → Shared → Prop), A'.handled = none → A'.units ≤ X.A.units + 3 → i < its.toArray.size → its.toArray[i]? = some v → s'.heap.SetOf (mixKind X.prog X.w) s.heap.objs.size (fun k => hasK (dd (ks.take i)) k) (dd (ks.take i)).length → (∀ b o, s.heap.get? b = some o → s'.heap.get? b = some o) →
      (∀ b h' tk, s'.toks ≤ tk → Heap.SameBut s.heap.objs.size s'.heap h' → h'.SetOf (mixKind X.prog X.w) s.heap.objs.size (fun k => hasK (dd (ks.take (i + 1))) k) (dd (ks.take (i + 1))).length → Q b { s' with heap := h', toks := tk }) → wpAny (model X.prog X.w) A' (setAdd s.heap.objs.size v) Q E s' := by
    intro A' i v s' Q E _ _ hi hv tb _ hQ
    obtain ⟨k, hk, his⟩ := at' i v hv
    unfold setAdd
    refine wpAny_holding (wpAny_bind ((mixKind X.prog X.w).pyHash his ?_))
    refine wpAny_setAddHashed_of (s := { s' with toks := s'.toks + 1 }) his (scan_key his) tb ?_ fun h' hsb hS2 => hQ _ h' _ (Nat.le_succ _) hsb ?_
    · have := dd_le (ks.take i) ([] : List Key)
      rw [List.length_take] at this
      have e : (dd (ks.take i)).length ≤ min i ks.length := by unfold dd; simpa using this
      unfold scanBound
      omega
    · rw [take_snoc hk, dd_snoc]
      refine setOf_congr hS2 (funext fun k' => (hasK_step _ _ _).symm) (len_step _ _).symm
  have fin : ∀ (h' : Heap) (tk : Nat), h'.SetOf (mixKind X.prog X.w) s.heap.objs.size (fun k => hasK (dd (ks.take its.toArray.size)) k) (dd (ks.take its.toArray.size)).length → (∀ b o, s.heap.get? b = some o → h'.get? b = some o) → Q (.ref s.heap.objs.size) { s with heap := h', toks := tk } := fun h' tk tb hk => by
    have e : ks.take its.toArray.size = ks := by rw [List.size_toArray, ← hl, List.take_length]
    rw [e] at tb
    exact h h' tk tb hk
  cases b with
  | true => exact call_set_list (I.ok.hd hc) hb (fun i h => h.SetOf (mixKind X.prog X.w) s.heap.objs.size (fun k => hasK (dd (ks.take i)) k) (dd (ks.take i)).length) fresh keep step fin
  | false => exact call_set_tuple (I.ok.hd hc) hb (fun i h => h.SetOf (mixKind X.prog X.w) s.heap.objs.size (fun k => hasK (dd (ks.take i)) k) (dd (ks.take i)).length) fresh keep step fin
theorem set_tups {b : Bool} {l : Addr} {ps : List (Addr × List Key)} {Q : Value → Shared → Prop} {E : Value → Shared → Prop} (hc : X.calm = true) (hu : X.A.units + 64 < cLine) (I : L2.Inv X pins σ H s) (hq : SqB X.K H b l (ps.map fun p => V.ref p.1)) (hp : ∀ p ∈ ps, SqT X.K H p.1 (p.2.map kV)) (hz : ps.length < 5)
    (h : ∀ (h' : Heap) (tk : Nat), SetN h' s.heap.objs.size (dd (ps.map (·.2))).length → (∀ b o, s.heap.get? b = some o → h'.get? b = some o) → Q (.ref s.heap.objs.size) { s with heap := h', toks := tk }) :
    wpAny (model X.prog X.w) X.A (call (.type "set") [.ref l]) Q E s := by
  obtain ⟨its, rv, hb, z, hlt⟩ := Inv.srcB I hq
  have hl := rv.length
  rw [List.length_map] at hl
  have hk0 : ∀ p ∈ ps, TK.IsT X.prog X.w s.heap p.2 p.1 := fun p m => Inv.isT I (hp p m)
  have at' : ∀ (i : Nat) (v : Value), its.toArray[i]? = some v → ∃ p, ps[i]? = some p ∧ v = .ref p.1 := fun i v hv => by
    have hv : its[i]? = some v := by simpa using hv
    have hi : i < ps.length := by rw [hl]; exact getLt hv
    obtain ⟨u, hu, ru⟩ := rv.get (i := i) (x := V.ref ps[i].1) (by rw [List.getElem?_map, List.getElem?_eq_getElem hi]; rfl)
    rw [hv] at hu
    cases hu
    cases ru
    exact ⟨ps[i], List.getElem?_eq_getElem hi, rfl⟩
  have keep : ∀ (i : Nat) (h h' : Heap), (∃ L es ep t, TK.SetTR X.prog X.w h s.heap.objs.size L es ep t ∧ TK.Got ps i L) → (∀ o, h.get? s.heap.objs.size = some o → h'.get? s.heap.objs.size = some o) → (∀ b o, s.heap.get? b = some o → h'.get? b = some o) → ∃ L es ep t, TK.SetTR X.prog X.w h' s.heap.objs.size L es ep t ∧ TK.Got ps i L := fun i h h' ⟨L, es, ep, t, R, g⟩ k1 k2 =>
    ⟨L, es, ep, t, R.keep k1 fun p m => TK.isT_keep (hk0 p (List.mem_of_mem_take (g.sub p m))) k2, g⟩
  have step : ∀ (A' : Around) (i : Nat) (v : Value) (s' : Shared) (Q : Bool → Shared → Prop) (E : Value → Shared → Prop), A'.handled = none → A'.units ≤ X.A.units + 3 → i < its.toArray.size → its.toArray[i]? = some v → (∃ L es ep t, TK.SetTR X.prog X.w s'.heap s.heap.objs.size L es ep t ∧ TK.Got ps i L) → (∀ b o, s.heap.get? b = some o → s'.heap.get? b = some o) →
      (∀ b h' tk, s'.toks ≤ tk → Heap.SameBut s.heap.objs.size s'.heap h' → (∃ L es ep t, TK.SetTR X.prog X.w h' s.heap.objs.size L es ep t ∧ TK.Got ps (i + 1) L) → Q b { s' with heap := h', toks := tk }) → wpAny (model X.prog X.w) A' (setAdd s.heap.objs.size v) Q E s' := by
    intro A' i v s' Q E _ hA hi hv ⟨L, es, ep, t, R, g⟩ hk hQ
    obtain ⟨p, hpi, rfl⟩ := at' i v hv
    have hx : TK.IsT X.prog X.w s'.heap p.2 p.1 := TK.isT_keep (hk0 p (List.mem_of_getElem? hpi)) hk
    have hu' : A'.units < cLine := by omega
    have hips : i < ps.length := by rw [List.size_toArray, ← hl] at hi; exact hi
    unfold setAdd
    refine wpAny_holding (wpAny_bind (wpAny_pyHash_tuple hu' hx ?_))
    refine TK.add_at (s := { s' with toks := s'.toks + (p.2.length + 1) }) R hx hu' (by have := g.len; omega) fun c h' L' es' ep' t' hsb R2 c1 c2 => ?_
    refine hQ c h' _ (Nat.le_add_right _ _) hsb ⟨L', es', ep', t', R2, ?_⟩
    rcases Classical.em (p.2 ∈ L.map (·.2)) with e | e
    · rw [c1 e]; exact g.same hpi e
    · exact g.more hpi (c2 e)
  have fin : ∀ (h' : Heap) (tk : Nat), (∃ L es ep t, TK.SetTR X.prog X.w h' s.heap.objs.size L es ep t ∧ TK.Got ps its.toArray.size L) → (∀ b o, s.heap.get? b = some o → h'.get? b = some o) → Q (.ref s.heap.objs.size) { s with heap := h', toks := tk } := fun h' tk ⟨L, es, ep, t, R, g⟩ hk => by
    refine h h' tk ?_ hk
    obtain ⟨o, ho, hex, hd⟩ := R.ob
    have hsz := TK.SetTR.size (s := { s with heap := h' }) R
    have hfit := TK.SetTR.fits (s := { s with heap := h' }) R
    refine ⟨o, es, ep, t, ho, hex, hd, hfit, ?_⟩
    rw [hsz]
    have ek : ps.take its.toArray.size = ps := by rw [List.size_toArray, ← hl, List.take_length]
    have pm : (L.map (·.2)).Perm (dd (ps.map (·.2))) := by
      refine (List.perm_ext_iff_of_nodup R.nd (dd_nodup _)).mpr fun k => ?_
      rw [dd_mem]
      constructor
      · intro m
        obtain ⟨q, hq, rfl⟩ := List.mem_map.mp m
        have := g.sub q hq
        rw [ek] at this
        exact List.mem_map.mpr ⟨q, this, rfl⟩
      · intro m
        obtain ⟨q, hq, rfl⟩ := List.mem_map.mp m
        exact g.all q (by rw [ek]; exact hq)
    rw [← pm.length_eq, List.length_map]
  cases b with
  | true => exact call_set_list (I.ok.hd hc) hb (fun i h => ∃ L es ep t, TK.SetTR X.prog X.w h s.heap.objs.size L es ep t ∧ TK.Got ps i L) (fun h e => ⟨[], #[], 0, _, TK.setTR_fresh e, TK.Got.zero ps⟩) keep step fin
  | false => exact call_set_tuple (I.ok.hd hc) hb (fun i h => ∃ L es ep t, TK.SetTR X.prog X.w h s.heap.objs.size L es ep t ∧ TK.Got ps i L) (fun h e => ⟨[], #[], 0, _, TK.setTR_fresh e, TK.Got.zero ps⟩) keep step fin
end
end Pv
end
section
set_option Elab.async false
set_option linter.all false
set_option maxRecDepth 100000
set_option maxHeartbeats 2000000
namespace Pv
open PySem PySem.Spec PyProof.Rows L2
variable {G : Gc} {B : Bx}
/-! ### texts in their order -/
def sLt (x y : Str) : Bool := ltCps x.cps.toList y.cps.toList
theorem ltCps_irrefl : ∀ a : List Nat, ltCps a a = false
  | [] => rfl
  | a :: r => by simp [ltCps, ltCps_irrefl r]
theorem ltCps_tri : ∀ a b : List Nat, ltCps a b = false → ltCps b a = false → a = b
  | [], [], _, _ => rfl
  | [], _ :: _, h, _ => by simp [ltCps] at h
  | _ :: _, [], _, h => by simp [ltCps] at h
  | a :: r, b :: t, h1, h2 => by
    simp only [ltCps, Bool.or_eq_false_iff, Bool.and_eq_false_iff, decide_eq_false_iff_not, beq_eq_false_iff_ne] at h1 h2
    have e : a = b := by omega
    subst e
    rw [ltCps_tri r t (h1.2.resolve_left fun z => z rfl) (h2.2.resolve_left fun z => z rfl)]
theorem ltCps_trans : ∀ a b c : List Nat, ltCps a b = true → ltCps b c = true → ltCps a c = true
  | [], [], _, h, _ => by simp [ltCps] at h
  | [], _ :: _, [], _, h => by simp [ltCps] at h
  | [], _ :: _, _ :: _, _, _ => by simp [ltCps]
  | _ :: _, [], _, h, _ => by simp [ltCps] at h
  | _ :: _, _ :: _, [], _, h => by simp [ltCps] at h
  | a :: r, b :: t, c :: u, h1, h2 => by
    simp only [ltCps, Bool.or_eq_true, Bool.and_eq_true, decide_eq_true_eq, beq_iff_eq] at h1 h2 ⊢
    rcases h1 with h1 | ⟨h1, h1'⟩
    · rcases h2 with h2 | ⟨h2, h2'⟩
      · exact .inl (by omega)
      · exact .inl (by omega)
    · rcases h2 with h2 | ⟨h2, h2'⟩
      · exact .inl (by omega)
      · exact .inr ⟨by omega, ltCps_trans r t u h1' h2'⟩
theorem sLt_tri {x y : Str} (h1 : sLt x y = false) (h2 : sLt y x = false) : x = y := by
  have e := ltCps_tri _ _ h1 h2
  cases x with | mk a => cases y with | mk b =>
  have e : a.toList = b.toList := e
  rw [Array.toList_inj.mp e]
theorem sLt_trans {x y z : Str} (h1 : sLt x y = true) (h2 : sLt y z = true) : sLt x z = true := ltCps_trans _ _ _ h1 h2
theorem sLt_irrefl (x : Str) : sLt x x = false := ltCps_irrefl _
theorem sLt_asymm {x y : Str} (h : sLt x y = true) : sLt y x = false := by
  cases e : sLt y x with
  | false => rfl
  | true => have := sLt_trans h e; rw [sLt_irrefl] at this; cases this
/-- the order: not y < x -/
def sLe (x y : Str) : Prop := sLt y x = false
theorem sLe_trans {x y z : Str} (h1 : sLe x y) (h2 : sLe y z) : sLe x z := by
  unfold sLe at *
  cases e : sLt z x with
  | false => rfl
  | true =>
    cases e2 : sLt x y with
    | true => have := sLt_trans e e2; rw [this] at h2; cases h2
    | false => have := sLt_tri e2 h1; subst this; rw [e] at h2; cases h2
def insS (x : Str) : List Str → List Str
  | [] => [x]
  | y :: r => if sLt y x = true then y :: insS x r else x :: y :: r
def sortS : List Str → List Str
  | [] => []
  | x :: r => insS x (sortS r)
theorem insS_perm (x : Str) : ∀ l, (insS x l).Perm (x :: l)
  | [] => List.Perm.refl _
  | y :: r => by
    unfold insS
    split
    · exact ((insS_perm x r).cons y).trans (List.Perm.swap x y r)
    · exact List.Perm.refl _
theorem sortS_perm : ∀ l, (sortS l).Perm l
  | [] => List.Perm.refl _
  | x :: r => (insS_perm x _).trans ((sortS_perm r).cons x)
theorem insS_sorted (x : Str) : ∀ l, l.Pairwise sLe → (insS x l).Pairwise sLe
  | [], _ => by simp [insS]
  | y :: r, h => by
    obtain ⟨h1, h2⟩ := List.pairwise_cons.mp h
    unfold insS
    split
    · rename_i hl
      refine List.pairwise_cons.mpr ⟨fun z hz => ?_, insS_sorted x r h2⟩
      rcases List.mem_cons.mp ((insS_perm x r).mem_iff.mp hz) with e | e
      · subst e; exact sLt_asymm hl
      · exact h1 z e
    · rename_i hl
      have hxy : sLe x y := by unfold sLe; simpa using hl
      refine List.pairwise_cons.mpr ⟨fun z hz => ?_, h⟩
      rcases List.mem_cons.mp hz with e | e
      · subst e; exact hxy
      · exact sLe_trans hxy (h1 z e)
theorem sortS_sorted : ∀ l, (sortS l).Pairwise sLe
  | [] => List.Pairwise.nil
  | x :: r => insS_sorted x _ (sortS_sorted r)
theorem rising_pw : ∀ (r : List Str) (p : Str), risingS p r = true → (p :: r).Pairwise sLe
  | [], p, _ => by simp
  | x :: r, p, h => by
    have h : (!ltCps x.cps.toList p.cps.toList && risingS x r) = true := h
    rw [Bool.and_eq_true] at h
    have ih := rising_pw r x h.2
    have hp : sLe p x := by unfold sLe sLt; simpa using h.1
    refine List.pairwise_cons.mpr ⟨fun z hz => ?_, ih⟩
    rcases List.mem_cons.mp hz with e | e
    · subst e; exact hp
    · exact sLe_trans hp ((List.pairwise_cons.mp ih).1 z e)
theorem sortedS_pw : ∀ l : List Str, sortedS l = true → l.Pairwise sLe
  | [], _ => List.Pairwise.nil
  | x :: r, h => rising_pw r x h
theorem sort_uniq {a b : List Str} (p : a.Perm b) (ha : a.Pairwise sLe) (hb : b.Pairwise sLe) : a = b :=
  List.Perm.eq_of_pairwise (fun x y _ _ h1 h2 => sLt_tri h2 h1) ha hb p
theorem sort_is {a l : List Str} (p : a.Perm l) (h : sortedS a = true) : a = sortS l := sort_uniq (p.trans (sortS_perm l).symm) (sortedS_pw a h) (sortS_sorted l)
/-! ### sorted(xs) -/
def strsOf : List PV → Option (List Str)
  | [] => some []
  | .str x :: xs => (strsOf xs).map (x :: ·)
  | _ => none
theorem strsOf_rp {S : Hp} : ∀ {ps : List PV} {xs : List Str} {vs : List V}, strsOf ps = some xs → RpL S vs ps → vs = xs.map V.str ∧ ∀ x ∈ xs, PyData.strOk x = true
  | [], _, _, h, .nil => by cases h; exact ⟨rfl, fun x m => by cases m⟩
  | p :: ps, xs, _, h, .cons r t => by
    unfold strsOf at h
    split at h
    · rename_i e; cases e
    · rename_i e
      cases e
      simp only [Option.map_eq_some_iff] at h
      obtain ⟨cs, h1, rfl⟩ := h
      cases r with | str _ hx =>
      obtain ⟨e1, e2⟩ := strsOf_rp h1 t
      refine ⟨by rw [e1]; rfl, fun y m => ?_⟩
      rcases List.mem_cons.mp m with e | e
      · subst e; exact hx
      · exact e2 y e
    · cases h
theorem rpl_strs {S : Hp} : ∀ {xs : List Str}, (∀ x ∈ xs, PyData.strOk x = true) → RpL S (xs.map V.str) (xs.map PV.str)
  | [], _ => .nil
  | x :: xs, h => .cons (.str x (h x List.mem_cons_self)) (rpl_strs fun y m => h y (List.mem_cons_of_mem _ m))
def bSorted : List PV → Res PV
  | [.lst xs] => match strsOf xs with | some ss => if ss.length < 64 then .ok (.lst ((sortS ss).map PV.str)) else .bad | none => .bad
  | _ => .bad
theorem JE.sorted {a : Expr} {f : Rho → Res PV} {p pos : Pos} (hg : Gb B "sorted") (hm : G.mg "sorted" = none) (ha : JE G B a f) (hs : NoStar a := by exact fun _ _ => rfl) : JE G B (.Call (.Name "sorted" p) [a] [] pos) (eCall bSorted (aCons f aNil)) :=
  JE.blt (fun X ok => ⟨_, cr_sortedS, by
    intro W S H σ Q vs ps hl r he
    unfold bSorted at he
    split at he
    · split at he
      · rename_i ss hss
        split at he
        · rename_i h64
          obtain ⟨v, rfl, rv⟩ := r.one
          cases rv with | lst ea qa =>
          obtain ⟨e1, e2⟩ := strsOf_rp hss qa
          subst e1
          refine ⟨_, ss, rfl, .inl (.inl (hl _ _ ea)), h64, fun ys p hp hso np => ?_⟩
          have e := sort_is hp hso
          subst e
          refine he.lst hl (rpl_strs fun x m => e2 x (hp.mem_iff.mp m)) ?_ np
          rw [List.length_map, hp.length_eq, szl]
          omega
        · exact he.elim
      · exact he.elim
    · exact he.elim⟩) hg hm (by decide +kernel) (JA.cons ha JA.nil hs) (hs := hs)
end Pv
end
section
set_option Elab.async false
set_option linter.all false
set_option maxRecDepth 100000
set_option maxHeartbeats 2000000
namespace Pv
open PySem PySem.Spec PyProof.Rows L2 PySem.Froz
variable {G : Gc} {B : Bx}
/-! ### len(set(x)) -/
theorem pe_lenSetB {X : Cx} {a : Expr} {ta : TE} {p p2 q pos : Pos} (hc : X.calm = true) (hu : X.A.units + 64 < cLine) (hg : Gl X "len") (hm : X.mg "len" = none) (hg2 : Gl X "set") (hm2 : X.mg "set" = none) (ha : PE X a ta)
    (na : starEach [a] X.env = (false, eval a X.env) :: starEach [] X.env) : PE X (.Call (.Name "len" p) [.Call (.Name "set" p2) [a] [] q] [] pos) (fun σ H Q => ta σ H fun x H1 => ∃ b l vs n, x = .ref l ∧ SqB X.K H1 b l vs ∧ CntV X.K H1 vs n ∧ n < 2 ^ 60 ∧ Q (.int (n : Nat)) H1) := by
  refine ⟨fun pins s σ H Q I h => ?_⟩
  refine Call_ (ld_blt I hg hm boot_len ?_)
  refine PyProof.Rows.callWith_builtin1 (PyProof.Rows.args_cons ?_ rfl) rfl rfl
  refine Call_ (ld_blt I hg2 hm2 boot_set ?_)
  refine PyProof.Rows.callWith_type1 (PyProof.Rows.args_cons (thn (ha.run pins s σ H _ I h) fun v s1 ⟨x, H1, I1, r1, q1⟩ => PyProof.Rows.args_nil ?_) na) na rfl
  obtain ⟨b, l, vs, n, rfl, hq, hn, hz, q1⟩ := q1
  cases r1
  have fin : ∀ (h' : Heap) (tk : Nat), SetN h' s1.heap.objs.size n → (∀ b o, s1.heap.get? b = some o → h'.get? b = some o) →
      wpAny (model X.prog X.w) X.A (spliced (backTo pos (starEach [] X.env))) (fun vs s₂ => wpAny (model X.prog X.w) X.A (call (.builtin "len") (Value.ref s1.heap.objs.size :: vs)) (EP X pins σ Q) X.xe s₂) X.xe { s1 with heap := h', toks := tk } := fun h' tk ⟨o, es, ep, t, ho, hex, hd, hf, hn⟩ hk => by
    refine PyProof.Rows.args_nil ?_
    have I2 : L2.Inv X pins σ H1 { s1 with heap := h', toks := tk } := I1.kept hk
    refine call_len_set ho hex hd hf (by rw [hn]; omega) ⟨.int (n : Nat), H1, I2.tok _, ⟨_, by rw [hn]⟩, q1⟩
  rcases hn with ⟨ks, rfl, z, rfl⟩ | ⟨ps, rfl, hp, z, rfl⟩
  · exact set_keys hc I1 hq z fun h' tk ⟨o, es, ep, t, ho, hex, hd, _, _, _, hf, hn⟩ hk => fin h' tk ⟨o, es, ep, t, ho, hex, hd, hf, hn⟩ hk
  · exact set_tups hc hu I1 hq hp z fun h' tk hS hk => fin h' tk hS hk
def krowsOf : List PV → Option (List (List Key))
  | [] => some []
  | .tup k :: xs => match keysOf k, krowsOf xs with | some k, some d => some (k :: d) | _, _ => none
  | _ :: _ => none
theorem krowsOf_rp {K : PySem.W.Frag} {S H : Hp} (hl : Le G.T S H) : ∀ {xs : List PV} {d : List (List Key)} {vs : List V}, krowsOf xs = some d → RpL S vs xs → ∃ ps : List (Addr × List Key), vs = ps.map (fun p => V.ref p.1) ∧ ps.map (·.2) = d ∧ ∀ p ∈ ps, SqT K H p.1 (p.2.map kV)
  | [], d, _, h, .nil => by cases h; exact ⟨[], rfl, rfl, fun p m => by cases m⟩
  | p :: xs, d, _, h, .cons r t => by
    unfold krowsOf at h
    split at h
    · rename_i e; cases e
    · rename_i k xs' e
      cases e
      split at h
      · rename_i k' d' h1 h2
        cases h
        obtain ⟨ps, e1, e2, e3⟩ := krowsOf_rp hl h2 t
        cases r with | tup ea qa =>
        have ek := keysOf_rp h1 qa
        subst ek
        refine ⟨(_, k') :: ps, by rw [e1]; rfl, by rw [List.map_cons, e2], fun p m => ?_⟩
        rcases List.mem_cons.mp m with e | e
        · subst e; exact .inl (.inl (hl _ _ ea))
        · exact e3 p e
      · cases h
    · cases h
def lenSetPV (p : PV) : Res PV := match seqPV p with
  | some xs => (match keysOf xs with
    | some ks => if ks.length < 1000 then .ok (.int ((dd ks).length : Nat)) else .bad
    | none => (match krowsOf xs with
      | some kss => if kss.length < 5 then .ok (.int ((dd kss).length : Nat)) else .bad
      | none => .bad))
  | none => .bad
def eLenSet (f : Rho → Res PV) : Rho → Res PV := fun ρ => (f ρ).bind lenSetPV
theorem JE.lenSet [hcm : Cool B] {a : Expr} {f : Rho → Res PV} {p p2 q pos : Pos} (hg : Gb B "len") (hm : G.mg "len" = none) (hg2 : Gb B "set") (hm2 : G.mg "set" = none) (ha : JE G B a f) (hs : NoStar a := by exact fun _ _ => rfl) :
    JE G B (.Call (.Name "len" p) [.Call (.Name "set" p2) [a] [] q] [] pos) (eLenSet f) := ⟨fun X W ok tk => by
  refine PE.imp (pe_lenSetB (ok.calm hcm.out) (by have := ok.units; omega) (show X.env.scope.names.lookup ("len" : Str) = _ by rw [ok.sc]; exact hg) (by rw [ok.mg]; exact hm) (show X.env.scope.names.lookup ("set" : Str) = _ by rw [ok.sc]; exact hg2) (by rw [ok.mg]; exact hm2) (ha.run X W ok tk) (hs _ _)) fun σ H Q ⟨S, ρ, hl, hr, he⟩ => ?_
  refine ⟨S, ρ, hl, hr, EndE.then he fun p v H1 S1 e1 l1 g1 r1 he => ?_⟩
  unfold lenSetPV at he
  split at he
  · rename_i xs hx
    obtain ⟨b, a, vs, rfl, ra, z, hsq⟩ := r1.seq (K := X.K) l1 hx
    split at he
    · rename_i ks hk
      split at he
      · rename_i hz
        have ek := keysOf_rp hk ra
        subst ek
        have hd := dd_le ks ([] : List Key)
        have hd : (dd ks).length ≤ ks.length := by unfold dd; simpa using hd
        exact ⟨b, a, _, _, rfl, hsq S1 H1 (Sub.refl _) l1, .inl ⟨ks, rfl, hz, rfl⟩, by omega, he.here l1 (.int _)⟩
      · exact he.elim
    · split at he
      · rename_i kss hk
        split at he
        · rename_i hz
          obtain ⟨ps, e1, e2, e3⟩ := krowsOf_rp (K := X.K) l1 hk ra
          subst e1
          subst e2
          rw [List.length_map] at hz
          have hd := dd_le (ps.map (·.2)) ([] : List (List Key))
          have hd : (dd (ps.map (·.2))).length ≤ ps.length := by unfold dd; simpa using hd
          exact ⟨b, a, _, _, rfl, hsq S1 H1 (Sub.refl _) l1, .inr ⟨ps, rfl, e3, hz, rfl⟩, by omega, he.here l1 (.int _)⟩
        · exact he.elim
      · exact he.elim
  · exact he.elim⟩
/-! ### sorted(set(x)), texts -/
def TxR (P : Program) (w : World) (h : Heap) (a : Addr) (l : List Str) : Prop := ∃ D, h.get? a = some (sObj "set" D) ∧ TxOk P w D l ∧ Ris D.2.2.place.toList ∧ (w.params.followText "set-order" = true ∨ D.2.2.led = true)
section
variable {P : Program} {w : World} {A : Around} {E : Value → Shared → Prop} {s : Shared}
theorem tailTx_good {ep : Nat} {es : Array (Int × Value)} {t : SetTable} {d : Bool} (r : Ris t.place.toList) : Ris (tailTx ep es t d).2.2.place.toList ∧ (tailTx ep es t d).2.2.led = t.led := by
  unfold tailTx
  split
  · exact ⟨relayAll_ris _ _ _, relayAll_led _ _ _⟩
  · exact ⟨r, rfl⟩
theorem addTx_good {h : Int} {v : Value} {D : SD} (r : Ris D.2.2.place.toList) : Ris (addTx h v D).2.2.place.toList ∧ (addTx h v D).2.2.led = D.2.2.led := by
  unfold addTx
  have h1 := layNew_ris D.2.2 D.1 h v r
  have h2 := layNew_led D.2.2 D.1 h v
  by_cases hp : (layNew D.2.2 D.1 h v).2.1.plain = true
  · rw [if_pos hp]
    have g := tailTx_good (ep := D.2.1) (es := (layNew D.2.2 D.1 h v).1) (t := { (layNew D.2.2 D.1 h v).2.1 with plain := false }) (d := (layNew D.2.2 D.1 h v).2.2.1) h1
    exact ⟨g.1, g.2.trans h2⟩
  · rw [if_neg hp]
    have g := tailTx_good (ep := D.2.1) (es := (layNew D.2.2 D.1 h v).1) (t := (layNew D.2.2 D.1 h v).2.1) (d := (layNew D.2.2 D.1 h v).2.2.1) h1
    exact ⟨g.1, g.2.trans h2⟩
theorem have_x {a : Addr} {D : SD} {l : List Str} {k : Str} {u : Tok} {Q : Bool → Shared → Prop} (ho : s.heap.get? a = some (sObj "set" D)) (F : TxOk P w D l) (hk : k ∈ l) (hb : l.length < scanBound) (h : Q false s) : wpAny (model P w) A (setAddHashed a (.str k u) (hashStr w k)) Q E s := by
  obtain ⟨es, ep, t⟩ := D
  have hd : (sObj "set" (es, ep, t)).data = .set es ep t := rfl
  have hf : t.fits es.size = true := F.fit
  have hel : ElemsOf (PySem.strKind P w) es.toList := F.el
  have hsz : es.size = l.length := F.sz
  have hb0 : es.size < scanBound := by omega
  have hkey : (PySem.strKind P w).is k (.str k u) = true := is_str k u
  unfold setAddHashed setAddHashedIn
  refine wpAny_holding (wpAny_bind (wpAny_setState_of ho hd hf ?_))
  dsimp only
  rw [byScan_of rfl hb0 hel]
  simp only [↓reduceIte]
  unfold setAddByScan
  refine wpAny_bind ?_
  refine wpAny_bind (wpAny_rule ?_)
  refine wpAny_bind (wpAny_setScan_of (knd := PySem.strKind P w) (k := k) hkey ho hd hf hel ?_)
  cases hr : List.findIdx? (fun e => (PySem.strKind P w).is k e.2) es.toList with
  | none =>
    exfalso
    obtain ⟨e, he, hp⟩ := (F.mem k).mp hk
    have := List.findIdx?_eq_none_iff.mp hr e he
    rw [hp] at this
    cases this
  | some j =>
    dsimp only
    exact wpAny_pure (wpAny_pure h)
end
section
variable {X : Cx} {pins : List (Addr × Obj)} {σ : L2.St} {H : Hp} {s : Shared}
theorem set_strs {b : Bool} {l : Addr} {xs : List Str} {Q : Value → Shared → Prop} {E : Value → Shared → Prop} (hc : X.calm = true) (I : L2.Inv X pins σ H s) (hq : SqB X.K H b l (xs.map V.str)) (hz : xs.length < 1000)
    (h : ∀ (h' : Heap) (tk : Nat) (l' : List Str), TxR X.prog X.w h' s.heap.objs.size l' → l'.Perm (dd xs) → (∀ b o, s.heap.get? b = some o → h'.get? b = some o) → Q (.ref s.heap.objs.size) { s with heap := h', toks := tk }) :
    wpAny (model X.prog X.w) X.A (call (.type "set") [.ref l]) Q E s := by
  obtain ⟨its, rv, hb, z, hlt⟩ := Inv.srcB I hq
  have hl := rv.length
  rw [List.length_map] at hl
  have at' : ∀ (i : Nat) (v : Value), its.toArray[i]? = some v → ∃ x t, xs[i]? = some x ∧ v = .str x t := fun i v hv => by
    have hv : its[i]? = some v := by simpa using hv
    have hi : i < xs.length := by rw [hl]; exact getLt hv
    obtain ⟨u, hu, ru⟩ := rv.get (i := i) (x := V.str xs[i]) (by rw [List.getElem?_map, List.getElem?_eq_getElem hi]; rfl)
    rw [hv] at hu
    cases hu
    obtain ⟨t, rfl⟩ := ru
    exact ⟨xs[i], t, List.getElem?_eq_getElem hi, rfl⟩
  have fresh : ∀ h : Heap, h.get? s.heap.objs.size = some { cls := .type "set", dict := none, data := .set #[] 0 (.fresh 0 0 (!X.w.params.followText "set-order")) } → ∃ l', TxR X.prog X.w h s.heap.objs.size l' ∧ l'.Perm (dd (xs.take 0)) := fun h e =>
    ⟨[], ⟨(#[], 0, .fresh 0 0 (!X.w.params.followText "set-order")), e, TxOk.nil rfl, List.Pairwise.nil, by
      show _ ∨ (!X.w.params.followText "set-order") = true
      cases X.w.params.followText "set-order"
      · exact .inr rfl
      · exact .inl rfl⟩, List.Perm.refl _⟩
  have keep : ∀ (i : Nat) (h h' : Heap), (∃ l', TxR X.prog X.w h s.heap.objs.size l' ∧ l'.Perm (dd (xs.take i))) → (∀ o, h.get? s.heap.objs.size = some o → h'.get? s.heap.objs.size = some o) → (∀ b o, s.heap.get? b = some o → h'.get? b = some o) → ∃ l', TxR X.prog X.w h' s.heap.objs.size l' ∧ l'.Perm (dd (xs.take i)) := fun i h h' ⟨l', ⟨D, hD, r⟩, p⟩ k _ => ⟨l', ⟨D, k _ hD, r⟩, p⟩
  have step : ∀ (A' : Around) (i : Nat) (v : Value) (s' : Shared) (Q : Bool → Shared → Prop) (E : Value → Shared → Prop), A'.handled = none → A'.units ≤ X.A.units + 3 → i < its.toArray.size → its.toArray[i]? = some v → (∃ l', TxR X.prog X.w s'.heap s.heap.objs.size l' ∧ l'.Perm (dd (xs.take i))) → (∀ b o, s.heap.get? b = some o → s'.heap.get? b = some o) →
      (∀ b h' tk, s'.toks ≤ tk → Heap.SameBut s.heap.objs.size s'.heap h' → (∃ l', TxR X.prog X.w h' s.heap.objs.size l' ∧ l'.Perm (dd (xs.take (i + 1)))) → Q b { s' with heap := h', toks := tk }) → wpAny (model X.prog X.w) A' (setAdd s.heap.objs.size v) Q E s' := by
    intro A' i v s' Q E _ _ hi hv ⟨l', ⟨D, hD, F, hr, hled⟩, pm⟩ _ hQ
    obtain ⟨k, t, hk, rfl⟩ := at' i v hv
    have hlen : l'.length < 1000 := by
      have := dd_le (xs.take i) ([] : List Str)
      rw [List.length_take] at this
      have e : (dd (xs.take i)).length ≤ min i xs.length := by unfold dd; simpa using this
      rw [pm.length_eq]
      omega
    unfold setAdd
    refine wpAny_holding (wpAny_bind ((PySem.strKind X.prog X.w).pyHash (is_str k t) ?_))
    by_cases hm : k ∈ l'
    · refine have_x (s := { s' with toks := s'.toks + 1 }) hD F hm (by unfold scanBound; omega) ?_
      refine hQ false s'.heap _ (Nat.le_succ _) (Heap.SameBut.refl _ _) ⟨l', ⟨D, hD, F, hr, hled⟩, ?_⟩
      rw [take_snoc hk, dd_snoc]
      unfold ddStep
      rw [if_pos (by have := (pm.mem_iff.mp hm); simpa using this)]
      exact pm
    · refine add_x (s := { s' with toks := s'.toks + 1 }) hD F hm (by unfold scanBound; omega) ?_
      have hD' := get_upd (sObj "set" (addTx (hashStr X.w k) (.str k t) D)) hD rfl
      have g := addTx_good (h := hashStr X.w k) (v := .str k t) hr
      refine hQ true _ _ (Nat.le_succ _) (Heap.SameBut.update ..) ⟨k :: l', ⟨_, hD', add_ok t F, g.1, by rw [g.2]; exact hled⟩, ?_⟩
      rw [take_snoc hk, dd_snoc]
      unfold ddStep
      rw [if_neg (by have : ¬ k ∈ dd (xs.take i) := fun z => hm (pm.mem_iff.mpr z); simpa using this)]
      exact (pm.cons k).trans (List.perm_append_comm (l₁ := [k]))
  have fin : ∀ (h' : Heap) (tk : Nat), (∃ l', TxR X.prog X.w h' s.heap.objs.size l' ∧ l'.Perm (dd (xs.take its.toArray.size))) → (∀ b o, s.heap.get? b = some o → h'.get? b = some o) → Q (.ref s.heap.objs.size) { s with heap := h', toks := tk } := fun h' tk ⟨l', t, pm⟩ hk => by
    have e : xs.take its.toArray.size = xs := by rw [List.size_toArray, ← hl, List.take_length]
    rw [e] at pm
    exact h h' tk l' t pm hk
  cases b with
  | true => exact call_set_list (I.ok.hd hc) hb (fun i h => ∃ l', TxR X.prog X.w h s.heap.objs.size l' ∧ l'.Perm (dd (xs.take i))) fresh keep step fin
  | false => exact call_set_tuple (I.ok.hd hc) hb (fun i h => ∃ l', TxR X.prog X.w h s.heap.objs.size l' ∧ l'.Perm (dd (xs.take i))) fresh keep step fin
end
theorem perm_of_sub {α : Type} [DecidableEq α] : ∀ {l ss : List α}, l.Nodup → (∀ x ∈ l, x ∈ ss) → ss.length = l.length → ss.Perm l
  | [], ss, _, _, h => by rw [List.length_eq_zero_iff.mp h]
  | x :: l, ss, hn, hs, h => by
    obtain ⟨h1, h2⟩ := List.nodup_cons.mp hn
    have hx := hs x List.mem_cons_self
    have p := List.perm_cons_erase hx
    have e := List.length_erase_of_mem hx
    have ih := perm_of_sub (l := l) (ss := ss.erase x) h2 (fun y hy => (List.mem_erase_of_ne (show y ≠ x from fun z => h1 (z ▸ hy))).2 (hs y (List.mem_cons_of_mem _ hy))) (by simp only [List.length_cons] at h; omega)
    exact p.trans (ih.cons x)
theorem strs_of_elems {P : Program} {w : World} {D : SD} {l : List Str} (F : TxOk P w D l) (hn : l.Nodup) {vs : List Value} (pm : vs.Perm (D.1.toList.map (·.2))) : ∃ ss, StrsAre vs ss ∧ ss.Perm l := by
  have h0 : ∀ v ∈ vs, ∃ x t, v = Value.str x t ∧ x ∈ l := fun v hv => by
    obtain ⟨e, he, rfl⟩ := List.mem_map.mp (pm.mem_iff.mp hv)
    obtain ⟨⟨k, hk, _⟩, _⟩ := F.el e he
    obtain ⟨t, ev⟩ := Value.isStrOf_shape (x := k) (v := e.2) hk
    exact ⟨k, t, ev, (F.mem k).mpr ⟨e, he, hk⟩⟩
  have build : ∀ vs : List Value, (∀ v ∈ vs, ∃ x t, v = Value.str x t ∧ x ∈ l) → ∃ ss, StrsAre vs ss ∧ ∀ x ∈ ss, x ∈ l := by
    intro vs
    induction vs with
    | nil => exact fun _ => ⟨[], .nil, fun x m => by cases m⟩
    | cons v vs ih =>
      intro h
      obtain ⟨x, t, rfl, hx⟩ := h v List.mem_cons_self
      obtain ⟨ss, h1, h2⟩ := ih fun u hu => h u (List.mem_cons_of_mem _ hu)
      refine ⟨x :: ss, .cons x t h1, fun y m => ?_⟩
      rcases List.mem_cons.mp m with e | e
      · subst e; exact hx
      · exact h2 y e
  obtain ⟨ss, h1, h2⟩ := build vs h0
  refine ⟨ss, h1, ?_⟩
  have hlen : ss.length = l.length := by
    rw [← F.sz, ← Array.length_toList, ← h1.length, pm.length_eq, List.length_map]
  have hsub : ∀ x ∈ l, x ∈ ss := fun x hx => by
    obtain ⟨e, he, hk⟩ := (F.mem x).mp hx
    have hv : e.2 ∈ vs := pm.mem_iff.mpr (List.mem_map.mpr ⟨e, he, rfl⟩)
    obtain ⟨t, ev⟩ := Value.isStrOf_shape (x := x) (v := e.2) hk
    have key : ∀ {vs : List Value} {ss : List Str}, StrsAre vs ss → Value.str x t ∈ vs → x ∈ ss := by
      intro vs ss hs
      induction hs with
      | nil => intro m; cases m
      | cons y u _ ih =>
        intro m
        rcases List.mem_cons.mp m with e | e
        · cases e; exact List.mem_cons_self
        · exact List.mem_cons_of_mem _ (ih e)
    exact key h1 (ev ▸ hv)
  exact perm_of_sub hn hsub hlen
theorem pe_sortedSet {X : Cx} {a : Expr} {ta : TE} {p p2 q pos : Pos} (hc : X.calm = true) (hg : Gl X "sorted") (hm : X.mg "sorted" = none) (hg2 : Gl X "set") (hm2 : X.mg "set" = none) (ha : PE X a ta)
    (na : starEach [a] X.env = (false, eval a X.env) :: starEach [] X.env) : PE X (.Call (.Name "sorted" p) [.Call (.Name "set" p2) [a] [] q] [] pos) (fun σ H Q => ta σ H fun x H1 => ∃ b l, ∃ xs : List Str, x = .ref l ∧ SqB X.K H1 b l (xs.map V.str) ∧ xs.length < 64 ∧ ∀ (ys : List Str) (p : Addr), ys.Perm (dd xs) → sortedS ys = true → H1 p = none → Q (.ref p) (upd H1 p (.lst (ys.map V.str)))) := by
  refine ⟨fun pins s σ H Q I h => ?_⟩
  refine Call_ (ld_blt I hg hm (show bootBuiltins "sorted" = some (.builtin "sorted") by decide +kernel) ?_)
  refine PyProof.Rows.callWith_builtin1 (PyProof.Rows.args_cons ?_ rfl) rfl rfl
  refine Call_ (ld_blt I hg2 hm2 boot_set ?_)
  refine PyProof.Rows.callWith_type1 (PyProof.Rows.args_cons (thn (ha.run pins s σ H _ I h) fun v s1 ⟨x, H1, I1, r1, q1⟩ => PyProof.Rows.args_nil ?_) na) na rfl
  obtain ⟨b, l, xs, rfl, hq, hz, q⟩ := q1
  cases r1
  refine set_strs hc I1 hq (by omega) fun h' tk l' ⟨D, hD, F, hr, hled⟩ pm hk => PyProof.Rows.args_nil ?_
  have I2 : L2.Inv X pins σ H1 { s1 with heap := h', toks := tk } := I1.kept hk
  have hl64 : l'.length < 64 := by
    have := dd_le xs ([] : List Str)
    have e : (dd xs).length ≤ xs.length := by unfold dd; simpa using this
    rw [pm.length_eq]
    omega
  obtain ⟨es, ep, t⟩ := D
  refine Calls.call_function_entry PyProof.Rows.kind_sorted PyProof.Rows.plain_sorted PyProof.Rows.entry_sorted (PyProof.Rows.args_sorted1 _) ?_
  unfold Builtin.«sorted»
  refine wpAny_bind (m := checkCount "sorted" 1 1 _) (wpAny_pure ?_)
  refine wpAny_bind (collect_set (A := X.A.in1) (P := X.prog) (s := { s1 with heap := h', toks := tk }) (I2.ok.hd hc) ⟨_, hD, rfl, rfl⟩ F.fit (by have := F.sz; show es.size < scanBound; simp only at this; unfold scanBound; omega) hr hled fun s2 vs k1 hz2 g1 o1 pmv => ?_)
  obtain ⟨ss, hS, pmS⟩ := strs_of_elems F (pm.nodup_iff.mpr (dd_nodup xs)) pmv
  have I3 : L2.Inv X pins σ H1 s2 := by
    have J : L2.Inv X pins σ H1 { s1 with heap := s2.heap, gens := s2.gens, drawn := s2.drawn, toks := s2.toks } := I1.call (ch := []) (Un.kept fun b o e => k1 b o (hk b o e)) (I1.hok.kept fun b o e => k1 b o (hk b o e)) (by rw [g1]; exact I1.bare) (fun _ z => nomatch z)
    have e : s2 = { s1 with heap := s2.heap, gens := s2.gens, drawn := s2.drawn, toks := s2.toks } := by
      cases s2
      cases s1
      cases o1
      rfl
    rw [e]; exact J
  have hvl : vs.length = l'.length := by rw [hS.length, pmS.length_eq]
  refine wpAny_bind (wpAny_newList ?_ (by rw [hvl, sizeLine_eq]; omega))
  have hoL : (s2.heap.push (seqObj "list" vs.toArray 0)).get? s2.heap.objs.size = some (seqObj "list" vs.toArray 0) := Heap.get?_push_size _ rfl
  refine wpAny_bind (wpAny_holding (wpAny_call_entry PyProof.Rows.slot_list_sort ⟨_, hoL, rfl⟩ PyProof.Rows.entry_list_sort
    (list_sort_treeK strKind_oneLt (s := { s2 with heap := s2.heap.push (seqObj "list" vs.toArray 0) }) hoL hS.keysOf (fun v₁ v₂ rest e => keyKind_strs (by rw [← e]; exact hS)) (by rw [hvl]; exact hl64) fun st' hp hs => ⟨_, rfl, ?_⟩)
    (PyProof.Rows.args_list_sort _)))
  obtain ⟨ys, g1', g2, g3⟩ := sorted_out_str hS hp hs
  obtain ⟨e', he'⟩ := PyProof.Rows.sortedHeap_at (vs := vs) (out := (arrOf st').map (·.2)) hoL
  have hlen : (ys.map V.str).length ≤ sizeLine := by
    rw [List.length_map, g2.length_eq, pmS.length_eq]
    exact Nat.le_trans (Nat.le_of_lt hl64) (by decide)
  refine wpAny_pure ⟨_, rfl, .ref s2.heap.objs.size, upd H1 s2.heap.objs.size (.lst (ys.map V.str)), I3.laid (t' := s2.toks) (fun b u e => ?_) (Nat.le_refl _)
    (show ObjOk X.prog X.w _ _ _ (.lst (ys.map V.str)) from ⟨hlen, ((arrOf st').map (·.2)).toList, e', vals_of_strs g1', by rw [Array.toArray_toList]; exact he'⟩), rfl, q ys _ (g2.trans (pmS.trans pm)) g3 (I3.hok.fresh (Nat.le_refl _))⟩
  have hb : b < s2.heap.objs.size := Heap.lt_size e
  rw [PyProof.Rows.sortedHeap_old (Nat.ne_of_lt hb) (by rw [size_push']; exact Nat.lt_succ_of_lt hb)]
  exact Heap.get?_push_of_some _ e
def sortSetPV (p : PV) : Res PV := match seqPV p with
  | some xs => (match strsOf xs with
    | some ss => if ss.length < 64 then .ok (.lst ((sortS (dd ss)).map PV.str)) else .bad
    | none => .bad)
  | none => .bad
def eSortSet (f : Rho → Res PV) : Rho → Res PV := fun ρ => (f ρ).bind sortSetPV
theorem JE.sortedSet [hcm : Cool B] {a : Expr} {f : Rho → Res PV} {p p2 q pos : Pos} (hg : Gb B "sorted") (hm : G.mg "sorted" = none) (hg2 : Gb B "set") (hm2 : G.mg "set" = none) (ha : JE G B a f) (hs : NoStar a := by exact fun _ _ => rfl) :
    JE G B (.Call (.Name "sorted" p) [.Call (.Name "set" p2) [a] [] q] [] pos) (eSortSet f) := ⟨fun X W ok tk => by
  refine PE.imp (pe_sortedSet (ok.calm hcm.out) (show X.env.scope.names.lookup ("sorted" : Str) = _ by rw [ok.sc]; exact hg) (by rw [ok.mg]; exact hm) (show X.env.scope.names.lookup ("set" : Str) = _ by rw [ok.sc]; exact hg2) (by rw [ok.mg]; exact hm2) (ha.run X W ok tk) (hs _ _)) fun σ H Q ⟨S, ρ, hl, hr, he⟩ => ?_
  refine ⟨S, ρ, hl, hr, EndE.then he fun p v H1 S1 e1 l1 g1 r1 he => ?_⟩
  unfold sortSetPV at he
  split at he
  · rename_i xs hx
    obtain ⟨b, a, vs, rfl, ra, z, hsq⟩ := r1.seq (K := X.K) l1 hx
    split at he
    · rename_i ss hk
      split at he
      · rename_i h64
        obtain ⟨e1, e2⟩ := strsOf_rp hk ra
        subst e1
        refine ⟨b, a, ss, rfl, hsq S1 H1 (Sub.refl _) l1, h64, fun ys p hp hso np => ?_⟩
        have e := sort_is hp hso
        subst e
        refine he.lst l1 (rpl_strs fun x m => e2 x ((dd_mem x ss).mp (hp.mem_iff.mp m))) ?_ np
        have hd := dd_le ss ([] : List Str)
        have hd : (dd ss).length ≤ ss.length := by unfold dd; simpa using hd
        rw [List.length_map, hp.length_eq, szl]
        omega
      · exact he.elim
    · exact he.elim
  · exact he.elim⟩
end Pv
end
section
set_option Elab.async false
set_option linter.all false
set_option maxRecDepth 100000
set_option maxHeartbeats 2000000
namespace Pv
open PySem PySem.Spec PyProof.Rows L2 PySem.W
/-! ### zip of two, each pair kept by a name -/
abbrev ZO (h : Heap) (z TI TO : Addr) (f0 : Value) (f1 : Bool) : Prop := h.get? z = some { cls := .type "zip", dict := none, data := .fields #[f0, .bool f1, .bool false, .ref TI, .ref TO], slots := #[] }
def Out (f0 : Value) : Prop := f0 = .none ∨ ∃ T : Nat, f0 = rawInt T
section
variable {prog : Program} {w : World} {A : Around} {E : Value → Shared → Prop} {s : Shared} {z TI TO i1 i2 : Addr} {fp1 fp2 : List Addr} {n1 n2 i : Nat} {P1 P2 : Nat → Value → Prop} {St1 St2 : Nat → Heap → Prop} {a1 a2 f0 : Value} {f1 : Bool}
theorem alive_any {a : Addr} {Q : Option Obj → Shared → Prop} (h : Q (s.heap.get? a) s) : wpAny (model prog w) A (loadIfAlive a) Q E s := fun _ _ _ => h
theorem free_any {Q : Bool → Shared → Prop} (hz : ZO s.heap z TI TO f0 f1) (hf : Out f0) (h1 : Q true s) (h2 : ∀ h', ZO h' z TI TO f0 true → Heap.SameBut z s.heap h' → Q false { s with heap := h' }) :
    wpAny (model prog w) A (Builtin.SmallTypes.ownedTupleIsFree (.ref z)) Q E s := by
  unfold Builtin.SmallTypes.ownedTupleIsFree
  rcases hf with e | ⟨T, e⟩
  · subst e
    exact wpAny_bind (wpAny_field hz rfl (x := .none) rfl (wpAny_pure h1))
  · subst e
    refine wpAny_bind (wpAny_field hz rfl (x := rawInt T) rfl ?_)
    show wpAny _ _ (loadIfAlive ((T : Int).toNat) >>= _) _ _ _
    refine wpAny_bind (alive_any ?_)
    cases (s.heap.get? ((T : Int).toNat)) with
    | none => exact wpAny_pure h1
    | some o =>
      simp only [Option.isNone_some, Bool.false_eq_true, if_false]
      refine wpAny_bind (wpAny_field hz rfl (x := .bool f1) rfl ?_)
      cases f1 with
      | true => exact (by
          rw [if_neg (show ¬ ((Value.bool true != Value.bool true) = true) from Bool.false_ne_true)]
          exact wpAny_pure (h2 s.heap hz (Heap.SameBut.refl _ _)))
      | false => exact (by
          rw [if_pos (show (Value.bool false != Value.bool true) = true from rfl)]
          exact wpAny_bind (wpAny_setField_rec hz (by simp) fun k1 z1 b1 => wpAny_pure (h2 k1 z1 b1)))
/-- what a turn of zip leaves -/
structure ZTurn (z TI TO i1 i2 : Addr) (St1 St2 : Nat → Heap → Prop) (i : Nat) (h h' : Heap) (T : Addr) (x1 x2 : Value) : Prop where
  zo : ∃ f0 f1, ZO h' z TI TO f0 f1 ∧ Out f0
  to : ∃ b1 b2, IsTupOf2 h' TO b1 b2
  s1 : St1 (i + 1) h'
  s2 : St2 (i + 1) h'
  new : h.objs.size ≤ T
  tup : IsTupOf2 h' T x1 x2
  old : ∀ c o, c ≠ z → c ≠ TO → c ≠ i1 → c ≠ i2 → h.get? c = some o → h'.get? c = some o
theorem zn_item {Q : Value → Shared → Prop} (S : ZipSep2 z TI TO i1 i2 fp1 fp2) (D1 : Draws prog w A i1 fp1 n1 P1 St1) (D2 : Draws prog w A i2 fp2 n2 P2 St2) (hz : ZO s.heap z TI TO f0 f1) (hf : Out f0)
    (hTI : IsTupOf2 s.heap TI (.ref i1) (.ref i2)) (hTO : IsTupOf2 s.heap TO a1 a2) (st1 : St1 i s.heap) (st2 : St2 i s.heap) (l1 : i < n1) (l2 : i < n2)
    (k : ∀ x1 x2 h' tk T, P1 i x1 → P2 i x2 → ZTurn z TI TO i1 i2 St1 St2 i s.heap h' T x1 x2 → Q (.ref T) { s with heap := h', toks := tk }) :
    wpAny (model prog w) A (Builtin.«zip.__next__» ⟨[.ref z], []⟩) (fun fin s' => ∃ v, fin = .done (.ret v) ∧ Q v s') E s := by
  obtain ⟨hp, g, d, t0, os⟩ := s
  show wpAny _ _ (field (.ref z) 2 >>= _) _ _ _
  refine wpAny_bind (wpAny_field hz rfl (x := .bool false) rfl (show wpAny _ _ (field (.ref z) 3 >>= _) _ _ _ from wpAny_bind (wpAny_field hz rfl (x := .ref TI) rfl (wpAny_bind (wpAny_seqItems hTI rfl ?_)))))
  refine (show wpAny _ _ (Builtin.SmallTypes.ownedTupleIsFree (.ref z) >>= _) _ _ _ from wpAny_bind (free_any hz hf ?_ fun q0 y0 e0 => ?_))
  · -- its own tuple again
    refine (show wpAny _ _ (if true = true then _ else _) _ _ _ from ?_)
    rw [if_pos rfl]
    refine wpAny_bind (wpAny_rule (wpAny_bind (wpAny_field hz rfl (x := .ref TO) rfl (wpAny_bind (wpAny_setField_rec hz (by simp) fun q0 y0 e0 => ?_)))))
    have y0 : ZO q0 z TI TO .ellipsis f1 := y0
    have e0 : Heap.SameBut z hp q0 := e0
    refine wpAny_bind ?_
    simp only [List.zipIdx_cons, List.zipIdx_nil, List.forIn_cons, List.forIn_nil]
    refine wpAny_bind (wpAny_bind (wpAny_onRaise (show wpAny _ _ (Builtin.SmallTypes.nextOf (.ref i1) >>= _) _ _ ⟨q0, g, d, t0, os⟩ from wpAny_bind (D1.item i _ _ _ l1 (D1.over st1 e0 S.zf1) fun x1 r1 t1 hx1 n1 e1 => wpAny_pure ?_))))
    have e1 : Heap.SameBut i1 q0 r1 := e1
    have u1 : IsTupOf2 r1 TO a1 a2 := e1.extBut _ _ S.Ti1 (e0.extBut _ _ S.TOz hTO)
    refine wpAny_bind (wpAny_seqItems (s := ⟨r1, g, d, t1, os⟩) u1 rfl (wpAny_bind (updateSeq_IsTupOf2 (s := ⟨r1, g, d, t1, os⟩) u1 fun q1 v1 c1 => wpAny_bind (wpAny_letGo (wpAny_pure ?_)))))
    have v1 : IsTupOf2 q1 TO x1 a2 := v1
    have c1 : Heap.SameBut TO r1 q1 := c1
    refine wpAny_bind (wpAny_bind (wpAny_onRaise (show wpAny _ _ (Builtin.SmallTypes.nextOf (.ref i2) >>= _) _ _ ⟨q1, g, d, t1, os⟩ from wpAny_bind (D2.item i _ _ _ l2 (D2.over (D2.over (D2.over st2 e0 S.zf2) e1 S.sep1_2) c1 S.Tf2) fun x2 r2 t2 hx2 n2 e2 => wpAny_pure ?_))))
    have e2 : Heap.SameBut i2 q1 r2 := e2
    have u2 : IsTupOf2 r2 TO x1 a2 := e2.extBut _ _ S.Ti2 v1
    refine wpAny_bind (wpAny_seqItems (s := ⟨r2, g, d, t2, os⟩) u2 rfl (wpAny_bind (updateSeq_IsTupOf2 (s := ⟨r2, g, d, t2, os⟩) u2 fun q2 v2 c2 => wpAny_bind (wpAny_letGo (wpAny_pure (wpAny_pure ?_))))))
    have v2 : IsTupOf2 q2 TO x1 x2 := v2
    have c2 : Heap.SameBut TO r2 q2 := c2
    refine wpAny_bind (wpAny_seqItems (s := ⟨q2, g, d, t2, os⟩) v2 rfl (wpAny_bind (wpAny_newTuple ?_)))
    have sz : q2.objs.size = hp.objs.size := by rw [c2.1, e2.1, c1.1, e1.1, e0.1]
    have zz : ZO q2 z TI TO .ellipsis f1 := (c2.extBut _ _ S.TOz.symm (e2.extBut _ _ S.zi2 (c1.extBut _ _ S.TOz.symm (e1.extBut _ _ S.zi1 y0))))
    have kk : ∀ c o, c ≠ z → c ≠ TO → c ≠ i1 → c ≠ i2 → hp.get? c = some o → q2.get? c = some o := fun c o k1 k2 k3 k4 e => (c2.extBut _ _ k2 (e2.extBut _ _ k4 (c1.extBut _ _ k2 (e1.extBut _ _ k3 (e0.extBut _ _ k1 e)))))
    have j1 : St1 (i + 1) q2 := (D1.over (D1.over (D1.over n1 c1 S.Tf1) e2 S.sep2_1) c2 S.Tf1)
    have j2 : St2 (i + 1) q2 := D2.over n2 c2 S.Tf2
    have zl : z < q2.objs.size := Heap.lt_size zz
    refine (show wpAny _ _ (Builtin.SmallTypes.ownedTupleHandOut (.ref z) (.ref q2.objs.size) >>= _) _ _ ⟨q2.push { cls := .type "tuple", data := .seq #[x1, x2] }, g, d, t2, os⟩ from wpAny_bind ?_)
    unfold Builtin.SmallTypes.ownedTupleHandOut
    have z6 : ZO (q2.push { cls := .type "tuple", data := .seq #[x1, x2] }) z TI TO .ellipsis f1 := Heap.get?_push_of_some _ zz
    refine wpAny_bind (wpAny_setField_rec z6 (by simp) fun h7 z7 s7 => ?_)
    have z7 : ZO h7 z TI TO (rawInt q2.objs.size) f1 := z7
    refine wpAny_setField_rec z7 (by simp) fun h8 z8 s8 => wpAny_pure ⟨_, rfl, ?_⟩
    have z8 : ZO h8 z TI TO (rawInt q2.objs.size) false := z8
    have s7 : Heap.SameBut z (q2.push { cls := .type "tuple", data := .seq #[x1, x2] }) h7 := s7
    have s8 : Heap.SameBut z h7 h8 := s8
    have up : ∀ c o, c ≠ z → q2.get? c = some o → h8.get? c = some o := fun c o k1 e => s8.extBut _ _ k1 (s7.extBut _ _ k1 (Heap.get?_push_of_some _ e))
    have nz : q2.objs.size ≠ z := Nat.ne_of_gt zl
    exact k x1 x2 h8 t2 q2.objs.size hx1 hx2 ⟨⟨_, _, z8, .inr ⟨_, rfl⟩⟩, ⟨_, _, up _ _ S.TOz v2⟩, D1.frame _ _ _ j1 fun b hb o e => up b o (fun q => S.zf1 (q ▸ hb)) e, D2.frame _ _ _ j2 fun b hb o e => up b o (fun q => S.zf2 (q ▸ hb)) e,
      Nat.le_of_eq sz.symm, s8.extBut _ _ nz (s7.extBut _ _ nz (Heap.get?_push_size _ rfl)), fun c o k1 k2 k3 k4 e => up c o k1 (kk c o k1 k2 k3 k4 e)⟩
  · -- a tuple of its own
    have e0 : Heap.SameBut z hp q0 := e0
    refine (show wpAny _ _ (if false = true then _ else _) _ _ _ from ?_)
    rw [if_neg Bool.false_ne_true]
    refine wpAny_bind ?_
    rw [← Array.forIn_toList]
    simp only [List.forIn_cons, List.forIn_nil]
    refine wpAny_bind (wpAny_bind (wpAny_holding (show wpAny _ _ (Builtin.SmallTypes.nextOf (.ref i1) >>= _) _ _ ⟨q0, g, d, t0, os⟩ from wpAny_bind (D1.item i _ _ _ l1 (D1.over st1 e0 S.zf1) fun x1 r1 t1 hx1 n1 e1 => wpAny_pure (wpAny_pure ?_)))))
    have e1 : Heap.SameBut i1 q0 r1 := e1
    refine wpAny_bind (wpAny_bind (wpAny_holding (show wpAny _ _ (Builtin.SmallTypes.nextOf (.ref i2) >>= _) _ _ ⟨r1, g, d, t1, os⟩ from wpAny_bind (D2.item i _ _ _ l2 (D2.over (D2.over st2 e0 S.zf2) e1 S.sep1_2) fun x2 r2 t2 hx2 n2 e2 => wpAny_pure (wpAny_pure (wpAny_pure ?_))))))
    have e2 : Heap.SameBut i2 r1 r2 := e2
    refine (show wpAny _ _ (newTuple [x1, x2] >>= _) _ _ _ from wpAny_bind (wpAny_newTuple (wpAny_pure ⟨_, rfl, ?_⟩)))
    have sz : r2.objs.size = hp.objs.size := by rw [e2.1, e1.1, e0.1]
    have zz : ZO r2 z TI TO f0 true := e2.extBut _ _ S.zi2 (e1.extBut _ _ S.zi1 y0)
    have kk : ∀ c o, c ≠ z → c ≠ i1 → c ≠ i2 → hp.get? c = some o → r2.get? c = some o := fun c o k1 k3 k4 e => e2.extBut _ _ k4 (e1.extBut _ _ k3 (e0.extBut _ _ k1 e))
    have up : ∀ c o, r2.get? c = some o → (r2.push { cls := .type "tuple", data := .seq #[x1, x2] }).get? c = some o := fun c o e => Heap.get?_push_of_some _ e
    exact k x1 x2 _ t2 r2.objs.size hx1 hx2 ⟨⟨_, _, up _ _ zz, hf⟩, ⟨_, _, up _ _ (kk _ _ S.TOz S.Ti1 S.Ti2 hTO)⟩, D1.frame _ _ _ (D1.over n1 e2 S.sep2_1) fun b hb o e => up b o e, D2.frame _ _ _ n2 fun b hb o e => up b o e,
      Nat.le_of_eq sz.symm, Heap.get?_push_size _ rfl, fun c o k1 k2 k3 k4 e => up c o (kk c o k1 k3 k4 e)⟩
theorem zn_end {Q : Fin → Shared → Prop} (S : ZipSep2 z TI TO i1 i2 fp1 fp2) (D1 : Draws prog w A i1 fp1 n1 P1 St1) (D2 : Draws prog w A i2 fp2 n2 P2 St2) (hz : ZO s.heap z TI TO f0 f1) (hf : Out f0)
    (hTI : IsTupOf2 s.heap TI (.ref i1) (.ref i2)) (hTO : IsTupOf2 s.heap TO a1 a2) (st1 : St1 i s.heap) (st2 : St2 i s.heap) (l1 : i ≤ n1) (l2 : i ≤ n2) (hend : i = n1 ∨ i = n2)
    (k : ∀ h' tk e, (∀ c o, c ≠ z → c ≠ TO → c ≠ i1 → c ≠ i2 → s.heap.get? c = some o → h'.get? c = some o) → (∃ o, h'.get? e = some o ∧ o.cls = .type "StopIteration") → E (.ref e) { s with heap := h', toks := tk }) :
    wpAny (model prog w) A (Builtin.«zip.__next__» ⟨[.ref z], []⟩) Q E s := by
  obtain ⟨hp, g, d, t0, os⟩ := s
  show wpAny _ _ (field (.ref z) 2 >>= _) _ _ _
  refine wpAny_bind (wpAny_field hz rfl (x := .bool false) rfl (show wpAny _ _ (field (.ref z) 3 >>= _) _ _ _ from wpAny_bind (wpAny_field hz rfl (x := .ref TI) rfl (wpAny_bind (wpAny_seqItems hTI rfl ?_)))))
  refine (show wpAny _ _ (Builtin.SmallTypes.ownedTupleIsFree (.ref z) >>= _) _ _ _ from wpAny_bind (free_any hz hf ?_ fun q0 y0 e0 => ?_))
  · refine (show wpAny _ _ (if true = true then _ else _) _ _ _ from ?_)
    rw [if_pos rfl]
    refine wpAny_bind (wpAny_rule (wpAny_bind (wpAny_field hz rfl (x := .ref TO) rfl (wpAny_bind (wpAny_setField_rec hz (by simp) fun q0 y0 e0 => ?_)))))
    have y0 : ZO q0 z TI TO .ellipsis f1 := y0
    have e0 : Heap.SameBut z hp q0 := e0
    have fin : ∀ {h1 : Heap} {t1 : Nat} {e : Addr}, ZO h1 z TI TO .ellipsis f1 → (∃ o, h1.get? e = some o ∧ o.cls = .type "StopIteration") → (∀ c o, c ≠ z → c ≠ TO → c ≠ i1 → c ≠ i2 → hp.get? c = some o → h1.get? c = some o) →
        wpAny (model prog w) A (setField (.ref z) 0 .none) (fun _ s' => E (.ref e) s') E ⟨h1, g, d, t1, os⟩ := fun {h1 t1 e} hz1 he hk => by
      obtain ⟨oe, hoe, hce⟩ := he
      have hez : e ≠ z := fun x => by subst x; rw [hz1] at hoe; cases hoe; simp at hce
      refine wpAny_setField_rec (s := ⟨h1, g, d, t1, os⟩) hz1 (by simp) fun h2 _ e2 => ?_
      have e2 : Heap.SameBut z h1 h2 := e2
      exact k h2 t1 e (fun c o k1 k2 k3 k4 x => e2.extBut _ _ k1 (hk c o k1 k2 k3 k4 x)) ⟨oe, e2.extBut _ _ hez hoe, hce⟩
    refine wpAny_bind ?_
    simp only [List.zipIdx_cons, List.zipIdx_nil, List.forIn_cons, List.forIn_nil]
    refine wpAny_bind (wpAny_bind (wpAny_onRaise (show wpAny _ _ (Builtin.SmallTypes.nextOf (.ref i1) >>= _) _ _ ⟨q0, g, d, t0, os⟩ from ?_)))
    by_cases hl : i < n1
    · refine wpAny_bind (D1.item i _ _ _ hl (D1.over st1 e0 S.zf1) fun x1 r1 t1 hx1 n1 e1 => wpAny_pure ?_)
      have e1 : Heap.SameBut i1 q0 r1 := e1
      have u1 : IsTupOf2 r1 TO a1 a2 := e1.extBut _ _ S.Ti1 (e0.extBut _ _ S.TOz hTO)
      refine wpAny_bind (wpAny_seqItems (s := ⟨r1, g, d, t1, os⟩) u1 rfl (wpAny_bind (updateSeq_IsTupOf2 (s := ⟨r1, g, d, t1, os⟩) u1 fun q1 v1 c1 => wpAny_bind (wpAny_letGo (wpAny_pure ?_)))))
      have c1 : Heap.SameBut TO r1 q1 := c1
      have hi2 : i = n2 := by omega
      refine wpAny_bind (wpAny_bind (wpAny_onRaise (show wpAny _ _ (Builtin.SmallTypes.nextOf (.ref i2) >>= _) _ _ ⟨q1, g, d, t1, os⟩ from wpAny_bind (D2.done ⟨q1, g, d, t1, os⟩ _ _ (by rw [← hi2]; exact (D2.over (D2.over (D2.over st2 e0 S.zf2) e1 S.sep1_2) c1 S.Tf2)) fun q e hq he => ?_))))
      have hq : Heap.ExtBut i2 q1 q := hq
      exact fin (hq _ _ S.zi2 (c1.extBut _ _ S.TOz.symm (e1.extBut _ _ S.zi1 y0))) he fun c o k1 k2 k3 k4 x => hq _ _ k4 (c1.extBut _ _ k2 (e1.extBut _ _ k3 (e0.extBut _ _ k1 x)))
    · have hi1 : i = n1 := by omega
      refine wpAny_bind (D1.done ⟨q0, g, d, t0, os⟩ _ _ (by rw [← hi1]; exact (D1.over st1 e0 S.zf1)) fun q e hq he => ?_)
      have hq : Heap.ExtBut i1 q0 q := hq
      exact fin (hq _ _ S.zi1 y0) he fun c o k1 k2 k3 k4 x => hq _ _ k3 (e0.extBut _ _ k1 x)
  · have e0 : Heap.SameBut z hp q0 := e0
    refine (show wpAny _ _ (if false = true then _ else _) _ _ _ from ?_)
    rw [if_neg Bool.false_ne_true]
    refine wpAny_bind ?_
    rw [← Array.forIn_toList]
    simp only [List.forIn_cons, List.forIn_nil]
    refine wpAny_bind (wpAny_bind (wpAny_holding (show wpAny _ _ (Builtin.SmallTypes.nextOf (.ref i1) >>= _) _ _ ⟨q0, g, d, t0, os⟩ from ?_)))
    by_cases hl : i < n1
    · refine wpAny_bind (D1.item i _ _ _ hl (D1.over st1 e0 S.zf1) fun x1 r1 t1 hx1 n1 e1 => wpAny_pure (wpAny_pure ?_))
      have e1 : Heap.SameBut i1 q0 r1 := e1
      have hi2 : i = n2 := by omega
      refine wpAny_bind (wpAny_bind (wpAny_holding (show wpAny _ _ (Builtin.SmallTypes.nextOf (.ref i2) >>= _) _ _ ⟨r1, g, d, t1, os⟩ from wpAny_bind (D2.done ⟨r1, g, d, t1, os⟩ _ _ (by rw [← hi2]; exact (D2.over (D2.over st2 e0 S.zf2) e1 S.sep1_2)) fun q e hq he => ?_))))
      have hq : Heap.ExtBut i2 r1 q := hq
      exact k q t1 e (fun c o k1 k2 k3 k4 x => hq _ _ k4 (e1.extBut _ _ k3 (e0.extBut _ _ k1 x))) he
    · have hi1 : i = n1 := by omega
      refine wpAny_bind (D1.done ⟨q0, g, d, t0, os⟩ _ _ (by rw [← hi1]; exact (D1.over st1 e0 S.zf1)) fun q e hq he => ?_)
      have hq : Heap.ExtBut i1 q0 q := hq
      exact k q t0 e (fun c o k1 k2 k3 k4 x => hq _ _ k3 (e0.extBut _ _ k1 x)) he
end
section
variable {prog : Program} {w : World} {A : Around} {E : Value → Shared → Prop} {s : Shared} {z TI TO i1 i2 : Addr} {fp1 fp2 : List Addr} {n1 n2 i : Nat} {P1 P2 : Nat → Value → Prop} {St1 St2 : Nat → Heap → Prop} {a1 a2 f0 : Value} {f1 : Bool}
theorem zn_next_item {Q : Option Value → Shared → Prop} (S : ZipSep2 z TI TO i1 i2 fp1 fp2) (D1 : Draws prog w A.in1 i1 fp1 n1 P1 St1) (D2 : Draws prog w A.in1 i2 fp2 n2 P2 St2) (hz : ZO s.heap z TI TO f0 f1) (hf : Out f0)
    (hTI : IsTupOf2 s.heap TI (.ref i1) (.ref i2)) (hTO : IsTupOf2 s.heap TO a1 a2) (st1 : St1 i s.heap) (st2 : St2 i s.heap) (l1 : i < n1) (l2 : i < n2)
    (k : ∀ x1 x2 h' tk T, P1 i x1 → P2 i x2 → ZTurn z TI TO i1 i2 St1 St2 i s.heap h' T x1 x2 → Q (some (.ref T)) { s with heap := h', toks := tk }) : wpAny (model prog w) A (pyNext (.ref z)) Q E s := by
  have ty : s.TypeIs (.ref z) "zip" := ⟨_, hz, rfl⟩
  unfold pyNext
  exact wpAny_bind (wpAny_attempt (wpAny_callSpecial?_slot (name := Str.ofString "__next__") ty F.slot_zip_next (wpAny_call_entry F.slot_zip_next ty F.entry_zip_next (zn_item S D1 D2 hz hf hTI hTO st1 st2 l1 l2 fun x1 x2 h' tk T p1 p2 zt => wpAny_pure (k x1 x2 h' tk T p1 p2 zt)) (F.args_zip_next_1 _))))
theorem zn_next_end {Q : Option Value → Shared → Prop} (S : ZipSep2 z TI TO i1 i2 fp1 fp2) (D1 : Draws prog w A.in1 i1 fp1 n1 P1 St1) (D2 : Draws prog w A.in1 i2 fp2 n2 P2 St2) (hz : ZO s.heap z TI TO f0 f1) (hf : Out f0)
    (hTI : IsTupOf2 s.heap TI (.ref i1) (.ref i2)) (hTO : IsTupOf2 s.heap TO a1 a2) (st1 : St1 i s.heap) (st2 : St2 i s.heap) (l1 : i ≤ n1) (l2 : i ≤ n2) (hend : i = n1 ∨ i = n2)
    (k : ∀ h' tk, (∀ c o, c ≠ z → c ≠ TO → c ≠ i1 → c ≠ i2 → s.heap.get? c = some o → h'.get? c = some o) → Q none { s with heap := h', toks := tk }) : wpAny (model prog w) A (pyNext (.ref z)) Q E s := by
  have ty : s.TypeIs (.ref z) "zip" := ⟨_, hz, rfl⟩
  unfold pyNext
  refine wpAny_bind (wpAny_attempt (wpAny_callSpecial?_slot (name := Str.ofString "__next__") ty F.slot_zip_next (wpAny_call_entry F.slot_zip_next ty F.entry_zip_next (zn_end S D1 D2 hz hf hTI hTO st1 st2 l1 l2 hend fun h' tk e hk ⟨o, ho, hc⟩ => ?_) (F.args_zip_next_1 _))))
  exact wpAny_bind (wpAny_isInstance (T := "StopIteration") (b := true) ⟨o, ho, hc⟩ isSubtype_stop (wpAny_pure (k _ _ hk)))
end
variable {G : Gc} {B : Bx}
theorem turn_zipN {P : Program} {w : World} {K : PySem.W.Frag} {x : Str} {tpos : Pos} (b c : Bool) {a d z TI TO i1 i2 : Addr} (D : ZipSep2 z TI TO i1 i2 [i1, a] [i2, d]) (h1 : a ≠ i1) (h2 : d ≠ i2) :
    Turn P w K (.Name x tpos) (ItzB K b c a d) [z, TI, TO, i1, i2] z (fun i h => (∃ f0 f1, ZO h z TI TO f0 f1 ∧ Out f0) ∧ IsTupOf2 h TI (.ref i1) (.ref i2) ∧ (∃ x y, IsTupOf2 h TO x y) ∧ IterAt b h i1 a i ∧ IterAt c h i2 d i) where
  mem := by simp
  obj := fun i h st e he => by
    obtain ⟨⟨f0, f1, hz, _⟩, hTI, ⟨x, y, hTO⟩, q1, q2⟩ := st
    simp only [List.mem_cons, List.not_mem_nil, or_false] at he
    rcases he with q | q | q | q | q <;> subst q
    · exact ⟨_, hz, fun v q => nomatch q⟩
    · exact ⟨_, hTI, fun v q => nomatch q⟩
    · exact ⟨_, hTO, fun v q => nomatch q⟩
    · exact iterAt_obj q1
    · exact iterAt_obj q2
  keep := fun i h h' ⟨⟨f0, f1, hz, hf⟩, hTI, ⟨x, y, hTO⟩, q1, q2⟩ k =>
    ⟨⟨f0, f1, k z (by simp) _ hz, hf⟩, k TI (by simp) _ hTI, ⟨x, y, k TO (by simp) _ hTO⟩, iterAt_at q1 fun o q => k i1 (by simp) o q, iterAt_at q2 fun o q => k i2 (by simp) o q⟩
  item := by
    intro X hP hw hK hc i pins s σ H E I hf st hg
    subst hP hw hK
    obtain ⟨⟨f0, f1, hz, ho⟩, hTI, ⟨x0, y0, hTO⟩, q1, q2⟩ := st
    obtain ⟨xs, ys, x, y, hqx, hqy, hx, hy⟩ := hg
    obtain ⟨its, rv, p1, _, _⟩ := Inv.srcB I hqx
    obtain ⟨its2, rv2, p2, _, _⟩ := Inv.srcB I hqy
    obtain ⟨u, hu, ru⟩ := rv.get hx
    obtain ⟨u2, hu2, ru2⟩ := rv2.get hy
    refine zn_next_item D (drawB (A := X.A.in1) (I.ok.hd hc) b i1 a h1 its.toArray) (drawB (A := X.A.in1) (I.ok.hd hc) c i2 d h2 its2.toArray) hz ho hTI hTO ⟨q1, p1⟩ ⟨q2, p2⟩ (by have := getLt hu; simpa using this) (by have := getLt hu2; simpa using this) fun x' y' h' tk T hx' hy' zt => ?_
    obtain ⟨⟨g0, g1, z', o'⟩, TO', ⟨q1', _⟩, ⟨q2', _⟩, hT, htup, hk⟩ := zt
    have ex : x' = u := by
      have q : its[i]? = some x' := by simpa using hx'
      rw [hu] at q; exact (Option.some.inj q).symm
    have ey : y' = u2 := by
      have q : its2[i]? = some y' := by simpa using hy'
      rw [hu2] at q; exact (Option.some.inj q).symm
    subst ex ey
    have hT' : ∀ e ∈ [z, TI, TO, i1, i2], e < s.heap.objs.size := fun e he => by
      simp only [List.mem_cons, List.not_mem_nil, or_false] at he
      rcases he with q | q | q | q | q <;> subst q
      · exact Heap.lt_size hz
      · exact Heap.lt_size hTI
      · exact Heap.lt_size hTO
      · obtain ⟨_, e1, _⟩ := iterAt_obj q1; exact Heap.lt_size e1
      · obtain ⟨_, e1, _⟩ := iterAt_obj q2; exact Heap.lt_size e1
    have new : ObjOk X.prog X.w (upd H T (.tup [x, y])) h' T (.tup [x, y]) := ⟨by show 2 ≤ sizeLine; decide, [x', y'], .cons ru (.cons ru2 .nil), ⟨_, htup, rfl, _, rfl⟩⟩
    have I1 : Inv X pins σ (upd H T (.tup [x, y])) { s with heap := h', toks := tk } := I.turnedNew (t' := tk) (ch := [z, TI, TO, i1, i2]) (fun e o he q => hk e o (fun r => he (by simp [r])) (fun r => he (by simp [r])) (fun r => he (by simp [r])) (fun r => he (by simp [r])) q) hf hT new
    refine ⟨_, rfl, wpAny_pure ⟨.ref T, _, I1, rfl, ⟨T, x, y, rfl, I.hok.fresh hT, rfl, fun l hl => by rw [Inv.srcB_inj I hl hqx]; exact hx, fun l hl => by rw [Inv.srcB_inj I hl hqy]; exact hy⟩, ⟨⟨g0, g1, z', o'⟩, hk _ _ D.TIz D.TITO D.TIi1 D.TIi2 hTI, TO', q1', q2'⟩, fun e he => ?_⟩⟩
    rw [upd_ne (Nat.ne_of_lt (Nat.lt_of_lt_of_le (hT' e he) hT))]
    exact (hf e he).1
  done := by
    intro X hP hw hK hc i pins s σ H E I hf st hg
    subst hP hw hK
    obtain ⟨⟨f0, f1, hz, ho⟩, hTI, ⟨x0, y0, hTO⟩, q1, q2⟩ := st
    obtain ⟨xs, ys, hqx, hqy, hend⟩ := hg
    obtain ⟨its, rv, p1, _, _⟩ := Inv.srcB I hqx
    obtain ⟨its2, rv2, p2, _, _⟩ := Inv.srcB I hqy
    have m1 : xs.length = its.toArray.size := by rw [List.size_toArray, rv.length]
    have m2 : ys.length = its2.toArray.size := by rw [List.size_toArray, rv2.length]
    refine zn_next_end D (drawB (A := X.A.in1) (I.ok.hd hc) b i1 a h1 its.toArray) (drawB (A := X.A.in1) (I.ok.hd hc) c i2 d h2 its2.toArray) hz ho hTI hTO ⟨q1, p1⟩ ⟨q2, p2⟩ (by omega) (by omega) (by omega) fun h' tk hk => ⟨rfl, ?_⟩
    exact I.turnedL (t' := tk) (ch := [z, TI, TO, i1, i2]) (fun e o he q => hk e o (fun r => he (by simp [r])) (fun r => he (by simp [r])) (fun r => he (by simp [r])) (fun r => he (by simp [r])) q) hf
  self := fun A i s Q E st h => by
    obtain ⟨⟨f0, f1, hz, _⟩, _⟩ := st
    have ty : s.TypeIs (.ref z) "zip" := ⟨_, hz, rfl⟩
    refine wpAny_pyIter_slot ty F.slot_zip_iter (wpAny_call_entry F.slot_zip_iter ty F.entry_zip_iter (show wpAny _ _ (ret (.ref z)) _ _ s from ?_) (F.args_zip_iter_1 _))
    exact wpAny_pure ⟨_, rfl, "zip", _, ty, F.slot_zip_next.lookup, h⟩
theorem pi_zipN {X : Cx} {e e2 : Expr} {ta : TA} {x : Str} {p pos tpos : Pos} (hg : Gl X "zip") (hm : X.mg "zip" = none) (ha : PA X [e, e2] ta) (hs : starEach [e, e2] X.env = (false, eval e X.env) :: starEach [e2] X.env) (hpl : (backTo pos (starEach [e2] X.env)).any (·.1) = false) :
    PI X (.Name x tpos) (.Call (.Name "zip" p) [e, e2] [] pos) (fun σ H R => ta σ H fun vs H1 => ∃ b c a d xs ys, vs = [.ref a, .ref d] ∧ SqB X.K H1 b a xs ∧ SqB X.K H1 c d ys ∧ R (ItzB X.K b c a d) H1) := by
  refine ⟨fun pins s σ H R I h => ?_⟩
  refine Call_ (ld_blt I hg hm PyProof.Rows.boot_zip (PyProof.Rows.callWith_type1 (thn (ha.run pos pins s σ H _ I h) fun us s1 ⟨vs, H1, I1, r1, q1⟩ => ?_) hs hpl))
  obtain ⟨b, c, a, d, xs, ys, rfl, hqx, hqy, q⟩ := q1
  obtain ⟨u, u2, rfl, ru, ru2⟩ := vals2 r1
  cases ru
  cases ru2
  obtain ⟨its, rv, hb, _, hlt⟩ := Inv.srcB I1 hqx
  obtain ⟨its2, rv2, hb2, _, hlt2⟩ := Inv.srcB I1 hqy
  refine zip_begins2 (begB b a its.toArray) (begB c d its2.toArray) hb hb2 fun h' hz hTI hTO h1 h2 hsz hk => wpAny_pyIter_zip hz ?_
  have I2 : Inv X pins σ H1 { s1 with heap := h' } := I1.kept (t' := s1.toks) hk
  refine ⟨s1.heap.objs.size + 4, [s1.heap.objs.size + 4, s1.heap.objs.size + 2, s1.heap.objs.size + 3, s1.heap.objs.size, s1.heap.objs.size + 1], _, _, H1, rfl, I2, turn_zipN b c (zip_sep2 (fp1 := [a]) (fp2 := [d]) (by intro m hm; simp at hm; rw [hm]; exact hlt) (by intro m hm; simp at hm; rw [hm]; exact hlt2)) (Nat.ne_of_lt hlt) (Nat.ne_of_lt (Nat.lt_succ_of_lt hlt2)), ⟨⟨_, _, hz, .inl rfl⟩, hTI, ⟨_, _, hTO⟩, iterAt0 h1, iterAt0 h2⟩, fun m hm => ?_, q⟩
  have hle : s1.heap.objs.size ≤ m := by
    simp only [List.mem_cons, List.not_mem_nil, or_false] at hm
    rcases hm with z | z | z | z | z <;> rw [z] <;> first | exact Nat.le_refl _ | exact Nat.le_add_right _ _
  exact I1.fpOk hle (I1.hok.fresh hle)
theorem JI.zipN {x : Str} {tpos : Pos} {a b : Expr} {f g : Rho → Res PV} {p pos : Pos} (hg : Gb B "zip") (hm : G.mg "zip" = none) (ha : JE G B a f) (hb : JE G B b g) (hs : NoStar a := by exact fun _ _ => rfl) (hs' : NoStar b := by exact fun _ _ => rfl) : JI G B (.Name x tpos) (.Call (.Name "zip" p) [a, b] [] pos) (fZip f g) := ⟨fun X W ok tk => by
  refine PI.imp (pi_zipN (show X.env.scope.names.lookup ("zip" : Str) = _ by rw [ok.sc]; exact hg) (by rw [ok.mg]; exact hm) ((JA.cons ha (JA.cons hb JA.nil hs') hs).run X W ok tk) (hs _ _) ((JA.cons hb JA.nil hs').ns _ _)) fun σ H R ⟨S, ρ, hl, hr, he⟩ => ?_
  refine ⟨S, ρ, hl, hr, EndI.thenA he fun ps v H1 S1 ep e1 l1 g1 r1 he => ?_⟩
  unfold iZipP at he
  split at he
  · split at he
    · rename_i qs1 qs2 hq1 hq2
      obtain ⟨v, w, rfl, rv, rw'⟩ := r1.two
      obtain ⟨b, a, vs, rfl, ra, z, hsq⟩ := rv.seq (K := X.K) l1 hq1
      obtain ⟨c, d, ws, rfl, rd, z', hsq'⟩ := rw'.seq (K := X.K) l1 hq2
      exact ⟨b, c, a, d, vs, ws, rfl, hsq S1 H1 (Sub.refl _) l1, hsq' S1 H1 (Sub.refl _) l1, he.here l1 (wk_zip ra rd z hsq hsq')⟩
    · exact he.elim
  · exact he.elim⟩
/-! ### max, min of ints in a list or a tuple -/
theorem alike_ints (ns : List Int) : AlikeAll (ns.map PyData.int) := PySem.W.alikeAll_datum (α := Int) ns
theorem depth_ints : ∀ ns : List Int, PyData.depthAll (ns.map PyData.int) ≤ 1
  | [] => by simp [PyData.depthAll]
  | n :: ns => by have := depth_ints ns; simp only [List.map_cons, PyData.depthAll, PyData.depth]; omega
theorem reads_int {h : Heap} {v : Value} {m : Int} {bs : List Addr} (r : Reads h v (.int m) bs) : ∃ t, v = .int m t := by
  cases r
  exact ⟨_, rfl⟩
def rBest (K : PySem.W.Frag) (f : Int → List Int → Int) : List V → Hp → VK → Prop := fun xs H Q => ∃ b a n ns, xs = [V.ref a] ∧ SqB K H b a ((n :: ns).map V.int) ∧ Q (.int (f n ns)) H
theorem call_min1 {X : Cx} (hc : X.calm = true) (hu : X.A.units + 65 < cLine) : CallR X (.builtin "min") (rBest X.K fun n ns => ns.foldl min n) := by
  intro pins s σ H xs us Q I r h
  obtain ⟨b, a, n, ns, rfl, hq, q⟩ := h
  obtain ⟨its, rv, hb, _, _⟩ := Inv.srcB I hq
  rw [Vals.ref1 r]
  obtain ⟨as, h4⟩ := Dp.readsAll I ((n :: ns).map PyData.int) _ its (dpInts _) rv
  have hd := depth_ints (n :: ns)
  have fin : ∀ (i : Nat) v h' tk bs, its.toArray[i]? = some v → Reads h' v (minD (.int n) (ns.map PyData.int)) bs → (∀ b o, s.heap.get? b = some o → h'.get? b = some o) → EP X pins σ Q v { s with heap := h', toks := tk } := fun i v h' tk bs _ hr hk => by
    rw [minD_ints] at hr
    obtain ⟨t, rfl⟩ := reads_int hr
    exact ⟨.int _, H, I.kept hk, ⟨t, rfl⟩, q⟩
  cases b with
  | true => exact min_list_data (I.ok.hd hc) hb h4 (alike_ints (n :: ns)) (by simp only [List.map_cons] at hd; omega) fin
  | false => exact min_tuple_data (I.ok.hd hc) hb h4 (alike_ints (n :: ns)) (by simp only [List.map_cons] at hd; omega) fin
theorem call_max1 {X : Cx} (hc : X.calm = true) (hu : X.A.units + 65 < cLine) : CallR X (.builtin "max") (rBest X.K fun n ns => ns.foldl max n) := by
  intro pins s σ H xs us Q I r h
  obtain ⟨b, a, n, ns, rfl, hq, q⟩ := h
  obtain ⟨its, rv, hb, _, _⟩ := Inv.srcB I hq
  rw [Vals.ref1 r]
  obtain ⟨as, h4⟩ := Dp.readsAll I ((n :: ns).map PyData.int) _ its (dpInts _) rv
  have hd := depth_ints (n :: ns)
  have fin : ∀ (i : Nat) v h' tk bs, its.toArray[i]? = some v → Reads h' v (maxD (.int n) (ns.map PyData.int)) bs → (∀ b o, s.heap.get? b = some o → h'.get? b = some o) → EP X pins σ Q v { s with heap := h', toks := tk } := fun i v h' tk bs _ hr hk => by
    rw [maxD_ints] at hr
    obtain ⟨t, rfl⟩ := reads_int hr
    exact ⟨.int _, H, I.kept hk, ⟨t, rfl⟩, q⟩
  cases b with
  | true => exact max_list_data (I.ok.hd hc) hb h4 (alike_ints (n :: ns)) (by simp only [List.map_cons] at hd; omega) fin
  | false => exact max_tuple_data (I.ok.hd hc) hb h4 (alike_ints (n :: ns)) (by simp only [List.map_cons] at hd; omega) fin
def bBest (f : Int → List Int → Int) : List PV → Res PV
  | [p] => match seqPV p with
    | some xs => (match intsOf xs with
      | some (n :: ns) => .ok (.int (f n ns))
      | _ => .bad)
    | none => .bad
  | _ => .bad
abbrev bMin1 := bBest fun n ns => ns.foldl min n
abbrev bMax1 := bBest fun n ns => ns.foldl max n
theorem cj_best (K : PySem.W.Frag) (f : Int → List Int → Int) : CallJ G (rBest K f) (bBest f) := by
  intro W S H σ Q vs ps hl r he
  unfold bBest at he
  split at he
  · split at he
    · rename_i p xs hq
      split at he
      · rename_i n ns hi
        obtain ⟨v, rfl, rv⟩ := r.one
        obtain ⟨b, a, ws, rfl, ra, z, hsq⟩ := rv.seq (K := K) hl hq
        have e := intsOf_rp hi ra
        subst e
        exact ⟨b, a, n, ns, rfl, hsq S H (Sub.refl _) hl, he.here hl (.int _)⟩
      · exact he.elim
    · exact he.elim
  · exact he.elim
theorem JE.max1 [hcm : Cool B] {a : Expr} {f : Rho → Res PV} {p pos : Pos} (hg : Gb B "max") (hm : G.mg "max" = none) (ha : JE G B a f) (hs : NoStar a := by exact fun _ _ => rfl) : JE G B (.Call (.Name "max" p) [a] [] pos) (eCall bMax1 (aCons f aNil)) :=
  JE.blt (fun X ok => ⟨_, call_max1 (ok.calm hcm.out) ok.units, cj_best X.K _⟩) hg hm (by decide +kernel) (JA.cons ha JA.nil hs) (hs := hs)
theorem JE.min1 [hcm : Cool B] {a : Expr} {f : Rho → Res PV} {p pos : Pos} (hg : Gb B "min") (hm : G.mg "min" = none) (ha : JE G B a f) (hs : NoStar a := by exact fun _ _ => rfl) : JE G B (.Call (.Name "min" p) [a] [] pos) (eCall bMin1 (aCons f aNil)) :=
  JE.blt (fun X ok => ⟨_, call_min1 (ok.calm hcm.out) ok.units, cj_best X.K _⟩) hg hm (by decide +kernel) (JA.cons ha JA.nil hs) (hs := hs)
end Pv
end
section
set_option Elab.async false
set_option linter.all false
set_option maxRecDepth 100000
set_option maxHeartbeats 2000000
namespace Pv
open PySem PySem.Spec PyProof.Rows L2
variable {G : Gc} {B : Bx}
/-! ### a def that hands over a new list or dict -/
abbrev WofE (E : XK) : WX := fun cls d _ H' => E cls d H'
def spF (G : Gc) (n : Nat) (m : List PV → Res PV) : Sp := fun vs H Q E => vs.length = n ∧ ∃ S ps, Le G.T S H ∧ RpL S vs ps ∧ EndF G (WofE E) S H [] Q (m ps)
structure FnF (G : Gc) (k : Nat) (x : Str) (n : Nat) (m : List PV → Res PV) : Prop where
  ex : ∃ (f : Addr) (fd : FuncData) (ps : List Str), ps.length = n ∧ FnOk G.P G.w G.K G.mg G.base (L2N.CX G.P G.w) k f fd ps (spF G n m) ∧ G.mg x = some (.ref f) ∧ PySem.W.keepIn G.K (.ref f) = true ∧ Binds G.K fd ps []
theorem EndF.swap {W W' : WX} {S H : Hp} {σ σ' : L2.St} {Q : VK} {r : Res PV} (i : ∀ cls d H', W cls d σ H' → W' cls d σ' H') (h : EndF G W S H σ Q r) : EndF G W' S H σ' Q r := by
  unfold EndF at h ⊢
  split at h
  · exact h
  · exact h
  · exact h
  · exact h
  · exact fun C H' hC e => i _ _ _ (h C H' hC e)
  · exact h
theorem JF.call [hcm : Cool B] {x : Str} {k : Nat} {n : Nat} {m : List PV → Res PV} {e : Expr} {es : List Expr} {fa : Rho → Res (List PV)} {p pos : Pos} (F : FnF G k x n m) (hk : k ≤ B.k) (hn : (e :: es).length = n) (hg : Gb B x) (ha : JA G B (e :: es) fa)
    (hdb : (x == ("__debug__" : Str)) = false := by decide) (hs : NoStar e := by exact fun _ _ => rfl) (hns : ∀ env pos, (backTo pos (starEach es env)).any (·.1) = false := by exact fun _ _ => rfl) : JF G B (.Call (.Name x p) (e :: es) [] pos) (eCall m fa) := ⟨fun X W ok tk => by
  obtain ⟨f, fd, ps, h1, h2, h3, h4, h5⟩ := F.ex
  have F' : FnOk X.prog X.w X.K X.mg X.base (L2N.CX X.prog X.w) k f fd ps (spF G n m) := by rw [ok.prog, ok.w, ok.K, ok.mg, ok.base]; exact h2
  refine PE.imp (pe_callS (E := WE W) F' ((ok.room hcm.out).mono hk) (show X.env.scope.names.lookup x = _ by rw [ok.sc]; exact hg) (by rw [ok.mg]; exact h3) (by rw [ok.K]; exact h4) (by rw [ok.K]; exact h5) (fun σ => L2N.passAt tk σ) (ha.run X W ok tk) hdb (hs _ _) (hns _ _)) fun σ H Q ⟨S, ρ, hl, hr, he⟩ => ?_
  refine ⟨S, ρ, hl, hr, ?_⟩
  cases e : fa ρ with
  | ok qs =>
    unfold eCall at he
    rw [e] at he
    intro v H1 S1 e1 l1 g1 r1
    have he : EndF G W S1 H1 σ Q (m qs) := EndF.next e1 g1 he
    exact ⟨by rw [r1.length, ha.len ρ qs e, hn], S1, qs, l1, r1, EndF.swap (fun cls d H' z => z) he⟩
  | exc c => unfold eCall at he; rw [e] at he; exact he
  | bad => unfold eCall at he; rw [e] at he; exact he⟩
theorem RS_start {S : Hp} {vs : List V} {ps : List PV} (r : RpL S vs ps) (n : Nat) : RS S (vs.map some ++ List.replicate n none) (ps.map some ++ List.replicate n none) where
  len := by simp [r.length]
  slot := fun i p h => by
    by_cases hi : i < ps.length
    · rw [List.getElem?_append_left (by simpa using hi), List.getElem?_map] at h
      cases e : ps[i]? with
      | none => rw [e] at h; cases h
      | some q =>
        rw [e] at h
        cases h
        obtain ⟨v, e1, rv⟩ := r.get e
        exact ⟨v, by rw [List.getElem?_append_left (by rw [List.length_map, r.length]; exact hi), List.getElem?_map, e1]; rfl, rv⟩
    · rw [List.getElem?_append_right (by simp; omega), List.getElem?_replicate] at h
      split at h <;> cases h
theorem FnF.ofRet {x : Str} {f0 : Addr} {fd : FuncData} {e : Expr} {args : Arguments} {dec : List Expr} {ret : Option Expr} {tp : List TypeParam} {sc : Scope} {ts : Option Scope} {b : Str} {pos rpos : Pos} {N ps : List Str} {k : Nat} {f : Rho → Res PV} {st : Stmt}
    (d : ∃ f fd, FunD G.K x x (defArgs st) (defBody st) (defScope st) [] [] f fd ∧ G.mg x = some (.ref f)) (hst : st = .FunctionDef x args [.Return (some e) rpos] dec ret tp sc ts b pos)
    (S : FnScope N ps sc) (hb : ∀ (kV doc pm : Value) (an : Option Addr) (cdv ct : Value) (us : List Value), us.length = ps.length → bindArgs (PySem.W.fnOf x x args [.Return (some e) rpos] sc .none kV doc pm an cdv ct) ⟨us, []⟩ = pure (ps.zip us)) (h : JF G ⟨N, sc, fun _ => true, k, none, false, none⟩ e f) :
    FnF G (k + 1) x ps.length (mFn N.length (sRet f)) := by
  subst hst
  obtain ⟨f1, fd, F, hm⟩ := d
  have F : FunD G.K x x args [.Return (some e) rpos] sc [] [] f1 fd := F
  refine ⟨f1, fd, ps, rfl, ?_, hm, F.kp, FunD.bindsN F hb⟩
  refine F.ok S (fun vs H Q E hsp => hsp.1) fun cdv A outer s H vs Q E hr hsp => ⟨_, pss_one (ps_ret (h.run _ (WofE E) ?_ ?_)), ?_⟩
  · exact ⟨rfl, rfl, rfl, rfl, rfl, rfl, S.nd, rfl, fun _ _ => rfl, fun _ => ⟨rfl, hr.hd⟩, L2H.roomH_of hr, fun _ _ z => (nomatch z), fun _ _ z => (nomatch z)⟩
  · exact L2N.takes_of rfl rfl rfl rfl
  · obtain ⟨hlen, S1, qs, hl, rq, he⟩ := hsp
    have el : N.length - vs.length = N.length - qs.length := by rw [rq.length]
    unfold L2.start
    rw [el]
    refine ⟨S1, _, hl, RS_start rq _, ?_⟩
    have em : mFn N.length (sRet f) qs = f (qs.map some ++ List.replicate (N.length - qs.length) none) := by
      have es : shw (qs.map (fun p => some (SV.v p)) ++ List.replicate (N.length - qs.length) none) = qs.map some ++ List.replicate (N.length - qs.length) none := by
        simp [shw, SV.pv]
      unfold mFn sRet
      rw [es]
      cases f (qs.map some ++ List.replicate (N.length - qs.length) none) <;> rfl
    rw [em] at he
    exact EndF.swap (fun cls d H' z => z) he
end Pv
end
section
set_option Elab.async false
set_option linter.all false
set_option maxRecDepth 100000
set_option maxHeartbeats 2000000
namespace Pv
open PySem PySem.Spec PyProof.Rows L2
variable {G : Gc} {B : Bx}
/-! ### small ones -/
def opPow : PV → PV → Res PV
  | .int i, .int j => if (0 ≤ i ∧ i < 1000) ∧ (0 ≤ j ∧ j < 100) then .ok (.int (i ^ j.toNat)) else .bad
  | _, _ => .bad
theorem JE.pow {a b : Expr} {fa fb : Rho → Res PV} {pos : Pos} (ha : JE G B a fa) (hb : JE G B b fb) : JE G B (.BinOp a .Pow b pos) (eBin opPow fa fb) :=
  JE.op (fun X ok => ⟨_, op_pow, by
    intro W S H σ Q v w p q hl r1 r2 he
    unfold opPow at he
    split at he
    · rename_i i j
      split at he
      · rename_i hc
        cases r1; cases r2
        have hi : i.natAbs < 1000 := by omega
        have hj : j ≤ 1000000 := by omega
        exact ⟨i, j, rfl, rfl, ⟨hc.2.1, hj, Nat.lt_trans hi (by decide)⟩, he.here hl (.int _)⟩
      · exact he.elim
    · exact he.elim⟩) ha hb
/-- a module's constant -/
structure Cst (G : Gc) (x : Str) (p : PV) : Prop where
  ex : ∃ u v, G.mg x = some u ∧ RelV v u ∧ ∀ S, Rp S v p
theorem JE.cst {x : Str} {p : PV} {pos : Pos} (hg : Gb B x) (h : Cst G x p) (hd : (x == ("__debug__" : Str)) = false := by decide) : JE G B (.Name x pos) (eC p) := by
  obtain ⟨u, v, h1, h2, h3⟩ := h.ex
  exact JE.glob hg h1 h2 h3 hd
theorem JS.lcN [hcm : Cool B] {y : Str} {i : Nat} {elt tg iter : Expr} {ifs : List Expr} {scope : Scope} {own : List (Str × Nat)} {pos py spos : Pos} {f : Rho → Res (List PV)} {pt : Pat} {tt : Rho → Res Bool} {te : Rho → Res PV} (z : List Nat) (vis : Bool) (hy : B.N[i]? = some y) (hyl : B.sc.names.lookup y = some .local) (hk : B.sc.kind = .function) (hl : (py.line == pos.line) = true)
    (ha : (scope.names.any fun (n, k) => n == y && (k == .local || k == .cell)) = false) (hi : JI G B tg iter f) (hb : blkC B.N B.sc scope own = true) (hp : ∀ i ∈ pt.slots, i ∈ own.map (·.2))
    (hg : JG G (B.blk scope) tg pt) (ht : JTs G (B.blk scope) ifs tt) (he : JE G (B.blk scope) elt te) (hs : ∀ env x, foldedSetIterable iter env x = pure x := by intro _ _; rfl) :
    JS G B (.Assign [.Name y py] (.ListComp elt [⟨tg, iter, ifs, 0⟩] scope pos) spos) (sNew z vis (eLc f (own.map (·.2)) pt tt te) i) :=
  ⟨fun X W ok cs tk => PS.imp (JS.lcL hy hyl hk hl ha hi hb hp hg ht he hs X W ok tk) fun D σ H h => tS.new h⟩
theorem JS.lcA [hcm : Cool B] {y : Str} {i : Nat} {elt tg iter : Expr} {ifs : List Expr} {scope : Scope} {own : List (Str × Nat)} {pos py spos : Pos} {f : Rho → Res (List PV)} {pt : Pat} {tt : Rho → Res Bool} {te : Rho → Res PV} (z : List Nat) (vis : Bool) (hy : B.N[i]? = some y) (hyl : B.sc.names.lookup y = some .local) (hk : B.sc.kind = .function) (hl : (py.line == pos.line) = true)
    (ha : (scope.names.any fun (n, k) => n == y && (k == .local || k == .cell)) = false) (hi : JI G B tg iter f) (hb : blkC B.N B.sc scope own = true) (hp : ∀ i ∈ pt.slots, i ∈ own.map (·.2))
    (hg : JG G (B.blk scope) tg pt) (ht : JTs G (B.blk scope) ifs tt) (he : JE G (B.blk scope) elt te) (hs : ∀ env x, foldedSetIterable iter env x = pure x := by intro _ _; rfl) :
    JS G B (.Assign [.Name y py] (.ListComp elt [⟨tg, iter, ifs, 0⟩] scope pos) spos) (sAsg z vis (eLc f (own.map (·.2)) pt tt te) i) :=
  ⟨fun X W ok cs tk => PS.imp (JS.lcL hy hyl hk hl ha hi hb hp hg ht he hs X W ok tk) fun D σ H h => tE_tF fresh_lc (tS.asg h)⟩
theorem sw_cell {elt : Expr} {gs : List Comprehension} {scope : Scope} {pos py : Pos} {y : Str} {l : Nat} (hy : B.sc.names.lookup y = some .cell) : ∀ env : Env, env.scope = B.sc → swapsWith (.ListComp elt gs scope pos) (some (.Name y py)) l env = pure false := fun env h => sw_no h hy
/-! ### a def of the top -/
structure FunT (G : Gc) (x : Str) (st : Stmt) : Prop where
  ex : ∃ f fd, FunD G.K x x (defArgs st) (defBody st) (defScope st) [] [] f fd ∧ G.mg x = some (.ref f)
theorem okSt {x : Str} {st : Stmt} {args : Arguments} {body : List Stmt} {dec : List Expr} {ret : Option Expr} {tp : List TypeParam} {sc : Scope} {ts : Option Scope} {b : Str} {pos : Pos} {N ps : List Str} {k : Nat} {g : Om → SR} {f : Addr} {fd : FuncData} (F : FunD G.K x x (defArgs st) (defBody st) (defScope st) [] [] f fd) (hst : st = .FunctionDef x args body dec ret tp sc ts b pos)
    (S : FnScope N ps sc) (h : JSs G ⟨N, sc, fun _ => true, k, none, false, none⟩ body g) : FnOk G.P G.w G.K G.mg G.base (L2N.CX G.P G.w) (k + 1) f fd ps (spP G ps.length (mFn N.length g)) := by
  subst hst
  have F : FunD G.K x x args body sc [] [] f fd := F
  refine F.ok S (fun vs H Q E hsp => hsp.1) fun cdv A outer s H vs Q E hr hsp => ⟨_, h.run _ (fun cls d _ H' => E cls d H') ?_ ?_ ?_, ?_⟩
  · exact ⟨rfl, rfl, rfl, rfl, rfl, rfl, S.nd, rfl, fun _ _ => rfl, fun _ => ⟨rfl, hr.hd⟩, L2H.roomH_of hr, fun _ _ z => (nomatch z), fun _ _ z => (nomatch z)⟩
  · exact ⟨passes_of rfl⟩
  · exact L2N.takes_of rfl rfl rfl rfl
  · obtain ⟨hlen, S1, qs, hl, rq, he⟩ := hsp
    have el : N.length - vs.length = N.length - qs.length := by rw [rq.length]
    unfold L2.start
    rw [el]
    refine ⟨H, S1, S1, _, StOk.start hl rq _, ?_⟩
    unfold mFn at he
    cases e : g (qs.map (fun p => some (.v p)) ++ List.replicate (N.length - qs.length) none) with
    | nx ω => rw [e] at he; exact fun σ' H' S' k' => he .non H' S' k'.ext k'.le k'.grow .non
    | rt p => rw [e] at he; exact he
    | exc c => rw [e] at he; exact fun C σ' H' hC ex => he C H' hC ex
    | bk ω => rw [e] at he; exact he.elim
    | ct ω => rw [e] at he; exact he.elim
    | bad => rw [e] at he; exact he.elim
theorem FnP.ofSt {x : Str} {st : Stmt} {args : Arguments} {body : List Stmt} {dec : List Expr} {ret : Option Expr} {tp : List TypeParam} {sc : Scope} {ts : Option Scope} {b : Str} {pos : Pos} {N ps : List Str} {k : Nat} {g : Om → SR} (d : FunT G x st) (hst : st = .FunctionDef x args body dec ret tp sc ts b pos)
    (S : FnScope N ps sc) (hb : ∀ (kV doc pm : Value) (an : Option Addr) (cdv ct : Value) (us : List Value), us.length = ps.length → bindArgs (PySem.W.fnOf x x args body sc .none kV doc pm an cdv ct) ⟨us, []⟩ = pure (ps.zip us)) (h : JSs G ⟨N, sc, fun _ => true, k, none, false, none⟩ body g) : FnP G (k + 1) x ps.length (mFn N.length g) := by
  subst hst
  obtain ⟨f, fd, F, hm⟩ := d.ex
  exact ⟨f, fd, ps, rfl, okSt F rfl S h, hm, F.kp, FunD.bindsN (show FunD G.K x x args body sc [] [] f fd from F) hb⟩
end Pv
end
section
set_option Elab.async false
set_option linter.all false
set_option maxRecDepth 100000
set_option maxHeartbeats 4000000
namespace Pv.LW
open PySem PySem.Spec PyProof.Rows L2 Pv

def k_MOST_COST : PV := .int 9
def k_MOST_LEVEL : PV := .int 3
def k_MOST_NAME : PV := .int 6
def k_MOST_POINTS : PV := .int 999
def k_MOST_SKILLS : PV := .int 6
def k_SMALL : PV := .str "abcdefghijklmnopqrstuvwxyz"
def m_is_count : Om → SR := (sRet (eAnd (eIsi "int" (eV 0)) (eAnd (eNot (eIsi "bool" (eV 0))) (eChain opLe opLe (eV 1) (eV 0) (eV 2)))))
def f_is_count : List PV → Res PV := mFn 3 m_is_count
def m_is_name : Om → SR := (sRet (eAnd (eIsi "str" (eV 0)) (eAnd (eChain opLe opLe (eC (.int 1)) (eCall bLen (aCons (eV 0) aNil)) (eC k_MOST_NAME)) (eCall bAll (aCons (eLc (fSeq (eV 0)) [1] (.nm 1) bYes (eBin (opIn false) (eV 1) (eC k_SMALL))) aNil)))))
def f_is_name : List PV → Res PV := mFn 2 m_is_name
def b_has_no_ring_1 : Om → SR := (sSeq (sNew [] true (eLc (fSeq (eV 1)) [4] (.nm 4) (eTru (eCall bAll (aCons (eLc (fSeq (eBin opIx (eV 4) (eC (.int 3)))) [5] (.nm 5) bYes (eBin (opIn false) (eBin opIx (eV 5) (eC (.int 0))) (eV 2))) aNil))) (eV 4)) 3) (sSeq (sIf (eTru (eBin opEq (eV 3) (eLst aNil))) (sRet (eC (.bl false))) sSkip) (sSeq (sExt [3] (eLc (fSeq (eV 3)) [4] (.nm 4) bYes (eBin opIx (eV 4) (eC (.int 0)))) 2) (sNew [] true (eLc (fSeq (eV 1)) [4] (.nm 4) (eTru (eBin (opIn true) (eV 4) (eV 3))) (eV 4)) 1))))
def m_has_no_ring : Om → SR := (sSeq (sAsg [] false (eCall bList (aCons (eV 0) aNil)) 1) (sSeq (sNew [] false (eLst aNil) 2) (sSeq (sWhl (eTru (eBin opNe (eV 1) (eLst aNil))) b_has_no_ring_1 12) (sRet (eC (.bl true))))))
def f_has_no_ring : List PV → Res PV := mFn 6 m_has_no_ring
def b_are_locks_1 : Om → SR := (sSeq (sIf (bOr (bNot (eTru (eIsi "tuple" (eV 2)))) (eTru (eBin opNe (eCall bLen (aCons (eV 2) aNil)) (eC (.int 2))))) (sRet (eC (.bl false))) sSkip) (sIf (bNot (eTru (eCall bAll (aCons (eLc (fSeq (eV 2)) [3] (.nm 3) bYes (eAnd (eIsi "str" (eV 3)) (eBin (opIn false) (eV 3) (eV 1)))) aNil)))) (sRet (eC (.bl false))) sSkip))
def m_are_locks : Om → SR := (sSeq (sFor [] (fSeq (eV 0)) (.nm 2) b_are_locks_1) (sRet (eAnd (eCall bAll (aCons (eLc (fSeq (eV 0)) [2] (.nm 2) bYes (eBin opLt (eBin opIx (eV 2) (eC (.int 0))) (eBin opIx (eV 2) (eC (.int 1))))) aNil)) (eBin opEq (eLenSet (eV 0)) (eCall bLen (aCons (eV 0) aNil))))))
def f_are_locks : List PV → Res PV := mFn 4 m_are_locks
def m_names_of : Om → SR := (sRet (eLc (fSeq (eBin opIx (eV 0) (eC (.int 0)))) [1] (.nm 1) bYes (eBin opIx (eV 1) (eC (.int 0)))))
def f_names_of : List PV → Res PV := mFn 2 m_names_of
def m_lacking : Om → SR := (sSeq (sAsg [] false (eBin opIx (eLc (fSeq (eBin opIx (eV 0) (eC (.int 0)))) [3] (.nm 3) (eTru (eBin opEq (eBin opIx (eV 3) (eC (.int 0))) (eV 2))) (eV 3)) (eC (.int 0))) 3) (sRet (eLc (fSeq (eBin opIx (eV 3) (eC (.int 3)))) [4] (.nm 4) (eTru (eBin opLt (eBin opIx (eV 1) (eBin opIx (eV 4) (eC (.int 0)))) (eBin opIx (eV 4) (eC (.int 1))))) (eV 4))))
def f_lacking : List PV → Res PV := mFn 5 m_lacking
def m_clashes : Om → SR := (sRet (eLc (fSeq (eBin opIx (eV 0) (eC (.int 1)))) [2] (.nm 2) (bAnd (eTru (eBin opGt (eBin opIx (eV 1) (eBin opIx (eV 2) (eC (.int 0)))) (eC (.int 0)))) (eTru (eBin opGt (eBin opIx (eV 1) (eBin opIx (eV 2) (eC (.int 1)))) (eC (.int 0))))) (eV 2)))
def f_clashes : List PV → Res PV := mFn 3 m_clashes
def m_cost_of : Om → SR := (sRet (eCall bSum (aCons (eLc (fZip (eV 1) (eBin opIx (eV 0) (eC (.int 0)))) [2, 3] (.tp [2, 3]) bYes (eBin opMul (eV 2) (eBin opIx (eV 3) (eC (.int 2))))) aNil)))
def f_cost_of : List PV → Res PV := mFn 4 m_cost_of
def b_without_want_1 : Om → SR := (sSeq (sAsg [] false (eCall bTuple (aCons (eLc (fSeq (eBin opIx (eV 4) (eC (.int 3)))) [6] (.nm 6) (bOr (eTru (eBin opNe (eBin opIx (eV 4) (eC (.int 0))) (eV 1))) (eTru (eBin opNe (eBin opIx (eV 6) (eC (.int 0))) (eV 2)))) (eV 6)) aNil)) 5) (sApp [] false (eBin opAdd (eSl (eV 4) sNone (sPart (eC (.int 3)))) (eTup (aCons (eV 5) aNil))) 3))
def m_without_want : Om → SR := (sSeq (sNew [] false (eLst aNil) 3) (sSeq (sFor [] (fSeq (eBin opIx (eV 0) (eC (.int 0)))) (.nm 4) b_without_want_1) (sRet (eTup (aCons (eCall bTuple (aCons (eV 3) aNil)) (aCons (eBin opIx (eV 0) (eC (.int 1))) aNil))))))
def f_without_want : List PV → Res PV := mFn 7 m_without_want
def m__law_cell : Om → SR := (sSeq (sIf (eTru (eBin opEq (eV 0) (eLst aNil))) (sRet (eBin opMul (eV 1) (eC (.int 7919)))) sSkip) (sRet (eBin opAdd (eBin opIx (eV 0) (eBin opMod (eV 1) (eCall bLen (aCons (eV 0) aNil)))) (eBin opMul (eBin opDiv (eV 1) (eCall bLen (aCons (eV 0) aNil))) (eC (.int 104729))))))
def f__law_cell : List PV → Res PV := mFn 2 m__law_cell
def m__law_drawn : Om → SR := (sSeq (sAsg [] false (eBin opMod (eBin opAdd (eBin opMul (eV 0) (eC (.int 6364136223846793005))) (eBin opMul (eBin opAdd (eV 1) (eC (.int 1))) (eC (.int 1442695040888963407)))) (eC (.int 340282366920938463463374607431768211507))) 2) (sSeq (sAsg [] false (eBin opMod (eBin opMul (eV 2) (eV 2)) (eC (.int 340282366920938463463374607431768211297))) 2) (sSeq (sAsg [] false (eBin opMul (eBin opMul (eBin opAdd (eBin opMod (eV 2) (eC (.int 18446744073709551557))) (eC (.int 1))) (eBin opAdd (eBin opDiv (eV 2) (eC (.int 18446744073709551557))) (eC (.int 1)))) (eV 2)) 2) (sRet (eBin opMod (eV 2) (eC (.int 340282366920938463463374607431768211507)))))))
def f__law_drawn : List PV → Res PV := mFn 3 m__law_drawn
def m__law_names : Om → SR := (sRet (eLc (fSeq (eBin opIx (eV 0) (eC (.int 0)))) [1] (.nm 1) bYes (eBin opIx (eV 1) (eC (.int 0)))))
def f__law_names : List PV → Res PV := mFn 2 m__law_names
def b__law_ups_1 : Om → SR := (sIf (eTru (eBin opLt (eBin opIx (eV 1) (eV 3)) (eBin opIx (eV 4) (eC (.int 1))))) (sApp [] false (eBin opAdd (eBin opAdd (eSl (eV 1) sNone (sPart (eV 3))) (eTup (aCons (eBin opAdd (eBin opIx (eV 1) (eV 3)) (eC (.int 1))) aNil))) (eSl (eV 1) (sPart (eBin opAdd (eV 3) (eC (.int 1)))) sNone)) 2) sSkip)
def m__law_ups : Om → SR := (sSeq (sNew [] false (eLst aNil) 2) (sSeq (sFor [] (fEnum (eBin opIx (eV 0) (eC (.int 0)))) (.tp [3, 4]) b__law_ups_1) (sRet (eV 2))))
def f__law_ups : List PV → Res PV := mFn 5 m__law_ups
def b_is_skill_1 : Om → SR := (sSeq (sIf (bOr (bNot (eTru (eIsi "tuple" (eV 1)))) (bOr (eTru (eBin opNe (eCall bLen (aCons (eV 1) aNil)) (eC (.int 2)))) (bNot (eTru (eCall f_is_name (aCons (eBin opIx (eV 1) (eC (.int 0))) aNil)))))) (sRet (eC (.bl false))) sSkip) (sIf (bNot (eTru (eCall f_is_count (aCons (eBin opIx (eV 1) (eC (.int 1))) (aCons (eC (.int 1)) (aCons (eC k_MOST_LEVEL) aNil)))))) (sRet (eC (.bl false))) sSkip))
def m_is_skill : Om → SR := (sSeq (sIf (bOr (bNot (eTru (eIsi "tuple" (eV 0)))) (bOr (eTru (eBin opNe (eCall bLen (aCons (eV 0) aNil)) (eC (.int 4)))) (bOr (bNot (eTru (eCall f_is_name (aCons (eBin opIx (eV 0) (eC (.int 0))) aNil)))) (bNot (eTru (eIsi "tuple" (eBin opIx (eV 0) (eC (.int 3))))))))) (sRet (eC (.bl false))) sSkip) (sSeq (sIf (bOr (bNot (eTru (eCall f_is_count (aCons (eBin opIx (eV 0) (eC (.int 1))) (aCons (eC (.int 1)) (aCons (eC k_MOST_LEVEL) aNil)))))) (bNot (eTru (eCall f_is_count (aCons (eBin opIx (eV 0) (eC (.int 2))) (aCons (eC (.int 1)) (aCons (eC k_MOST_COST) aNil))))))) (sRet (eC (.bl false))) sSkip) (sSeq (sFor [] (fSeq (eBin opIx (eV 0) (eC (.int 3)))) (.nm 1) b_is_skill_1) (sRet (eBin opEq (eLenSet (eLc (fSeq (eBin opIx (eV 0) (eC (.int 3)))) [1] (.nm 1) bYes (eBin opIx (eV 1) (eC (.int 0))))) (eCall bLen (aCons (eBin opIx (eV 0) (eC (.int 3))) aNil)))))))
def f_is_skill : List PV → Res PV := mFn 2 m_is_skill
def m_levels_of : Om → SR := (sRet (eCall bDictZip (aCons (eCall f_names_of (aCons (eV 0) aNil)) (aCons (eV 1) aNil))))
def f_levels_of : List PV → Res PV := mFn 2 m_levels_of
def m_are_levels : Om → SR := (sSeq (sIf (bOr (bNot (eTru (eIsi "tuple" (eV 1)))) (eTru (eBin opNe (eCall bLen (aCons (eV 1) aNil)) (eCall bLen (aCons (eBin opIx (eV 0) (eC (.int 0))) aNil))))) (sRet (eC (.bl false))) sSkip) (sRet (eCall bAll (aCons (eLc (fZip (eV 1) (eBin opIx (eV 0) (eC (.int 0)))) [2, 3] (.tp [2, 3]) bYes (eCall f_is_count (aCons (eV 2) (aCons (eC (.int 0)) (aCons (eBin opIx (eV 3) (eC (.int 1))) aNil))))) aNil))))
def f_are_levels : List PV → Res PV := mFn 4 m_are_levels
def m_need_points : Om → SR := (sIf (bNot (eTru (eCall f_is_count (aCons (eV 0) (aCons (eC (.int 0)) (aCons (eC k_MOST_POINTS) aNil)))))) (sRaise "BadNumber") sSkip)
def f_need_points : List PV → Res PV := mFn 1 m_need_points
def b_settled_1 : Om → SR := (sSeq (sAsg [] true (eCall f_clashes (aCons (eV 0) (aCons (eV 2) aNil))) 3) (sSeq (sAsg [] true (eLc (fSeq (eCall f_names_of (aCons (eV 0) aNil))) [5] (.nm 5) (bAnd (eTru (eBin opGt (eBin opIx (eV 2) (eV 5)) (eC (.int 0)))) (eTru (eBin opNe (eCall f_lacking (aCons (eV 0) (aCons (eV 2) (aCons (eV 5) aNil)))) (eLst aNil)))) (eV 5)) 4) (sIf (eTru (eBin opNe (eV 4) (eLst aNil))) (sPut [] false false (eC (.int 0)) (eBin opIx (eV 4) (eC (.int 0))) 2) (sIf (eTru (eBin opNe (eV 3) (eLst aNil))) (sPut [] false false (eC (.int 0)) (eBin opIx (eBin opIx (eV 3) (eC (.int 0))) (eC (.int 1))) 2) (sRet (eV 2))))))
def m_settled : Om → SR := (sSeq (sNew [] false (eCall bDict (aCons (eV 1) aNil)) 2) (sWhl (eTru (eC (.bl true))) b_settled_1 12))
def f_settled : List PV → Res PV := mFn 6 m_settled
def b__law_tree_1 : Om → SR := (sSeq (sAsg [] false (eCall f__law_drawn (aCons (eV 6) (aCons (eBin opAdd (eC (.int 20)) (eV 8)) aNil))) 9) (sIf (eTru (eBin opEq (eBin opMod (eV 9) (eBin opIx (eLst (aCons (eC (.int 2)) (aCons (eC (.int 3)) (aCons (eC (.int 5)) aNil)))) (eBin opMod (eBin opDiv (eV 0) (eC (.int 8))) (eC (.int 3))))) (eC (.int 0)))) (sApp [] true (eTup (aCons (eBin opIx (eV 2) (eV 8)) (aCons (eBin opAdd (eC (.int 1)) (eBin opMod (eBin opDiv (eV 9) (eC (.int 64))) (eBin opIx (eBin opIx (eV 3) (eV 8)) (eC (.int 1))))) aNil))) 7) sSkip))
def b__law_tree_2 : Om → SR := (sSeq (sAsg [] false (eCall f__law_drawn (aCons (eV 0) (aCons (eV 4) aNil))) 6) (sSeq (sNew [] false (eLst aNil) 7) (sSeq (sFor [] (fRange (eV 4)) (.nm 8) b__law_tree_1) (sSeq (sIf (eTru (eBin opEq (eBin opMod (eBin opDiv (eV 6) (eC (.int 8))) (eC (.int 2))) (eC (.int 0)))) (sAsg [7] false (eRev (eV 7)) 7) sSkip) (sApp [] true (eTup (aCons (eV 5) (aCons (eBin opAdd (eC (.int 1)) (eBin opMod (eBin opDiv (eV 6) (eC (.int 16))) (eC (.int 3)))) (aCons (eBin opAdd (eC (.int 1)) (eBin opMod (eBin opDiv (eV 6) (eC (.int 64))) (eC (.int 9)))) (aCons (eCall bTuple (aCons (eV 7) aNil)) aNil))))) 3)))))
def b__law_tree_3 : Om → SR := (sSeq (sAsg [] false (eCall f__law_drawn (aCons (eV 0) (aCons (eBin opAdd (eC (.int 50)) (eV 4)) aNil))) 6) (sSeq (sAsg [] false (eCall bTuple (aCons (eCall bSorted (aCons (eLst (aCons (eBin opIx (eV 2) (eBin opMod (eBin opDiv (eV 6) (eC (.int 8))) (eCall bLen (aCons (eV 2) aNil)))) (aCons (eBin opIx (eV 2) (eBin opMod (eBin opDiv (eV 6) (eC (.int 64))) (eCall bLen (aCons (eV 2) aNil)))) aNil))) aNil)) aNil)) 11) (sIf (bAnd (eTru (eBin opNe (eBin opIx (eV 11) (eC (.int 0))) (eBin opIx (eV 11) (eC (.int 1))))) (eTru (eBin (opIn true) (eV 11) (eV 10)))) (sApp [] false (eV 11) 10) sSkip)))
def m__law_tree : Om → SR := (sSeq (sAsg [] false (eSl (eLst (aCons (eC (.str "b")) (aCons (eC (.str "axe")) (aCons (eC (.str "c")) (aCons (eC (.str "zap")) (aCons (eC (.str "dd")) (aCons (eC (.str "e")) aNil))))))) sNone (sPart (eBin opAdd (eC (.int 1)) (eBin opMod (eV 0) (eV 1))))) 2) (sSeq (sNew [] false (eLst aNil) 3) (sSeq (sFor [] (fEnum (eV 2)) (.tp [4, 5]) b__law_tree_2) (sSeq (sIf (eTru (eBin opEq (eBin opMod (eBin opDiv (eV 0) (eC (.int 32))) (eC (.int 2))) (eC (.int 0)))) (sAsg [3] false (eRev (eV 3)) 3) sSkip) (sSeq (sNew [] false (eLst aNil) 10) (sSeq (sFor [] (fRange (eIf (eTru (eBin opGt (eCall bLen (aCons (eV 2) aNil)) (eC (.int 2)))) (eBin opMod (eBin opDiv (eV 0) (eC (.int 64))) (eC (.int 3))) (eC (.int 0)))) (.nm 4) b__law_tree_3) (sRet (eTup (aCons (eCall bTuple (aCons (eV 3) aNil)) (aCons (eCall bTuple (aCons (eV 10) aNil)) aNil))))))))))
def f__law_tree : List PV → Res PV := mFn 12 m__law_tree
def b__law_wrongs_1 : Om → SR := (sIf (eTru (eBin opGt (eBin opIx (eV 2) (eV 4)) (eC (.int 0)))) (sSeq (sAsg [] false (eBin opAdd (eV 3) (eLc (fSeq (eV 7)) [8, 9] (.tp [8, 9]) (eTru (eBin opLt (eBin opIx (eV 2) (eV 8)) (eV 9))) (eTup (aCons (eV 4) (aCons (eV 8) aNil))))) 3) (sAsg [] false (eBin opAdd (eV 3) (eLc (fSeq (eBin opIx (eV 0) (eC (.int 1)))) [10, 8] (.tp [10, 8]) (bAnd (eTru (eBin opEq (eV 10) (eV 4))) (eTru (eBin opGt (eBin opIx (eV 2) (eV 8)) (eC (.int 0))))) (eTup (aCons (eV 4) (aCons (eV 8) aNil))))) 3)) sSkip)
def m__law_wrongs : Om → SR := (sSeq (sPat [] false (eTup (aCons (eCall bDictZip (aCons (eCall f__law_names (aCons (eV 0) aNil)) (aCons (eV 1) aNil))) (aCons (eLst aNil) aNil))) (.tp [2, 3])) (sSeq (sFor [] (fSeq (eBin opIx (eV 0) (eC (.int 0)))) (.tp [4, 5, 6, 7]) b__law_wrongs_1) (sRet (eV 3))))
def f__law_wrongs : List PV → Res PV := mFn 11 m__law_wrongs
def b_is_tree_1 : Om → SR := (sIf (bNot (eTru (eCall bAll (aCons (eLc (fSeq (eBin opIx (eV 1) (eC (.int 3)))) [5, 6] (.tp [5, 6]) bYes (eAnd (eBin (opIn false) (eV 5) (eV 4)) (eBin opLe (eV 6) (eBin opIx (eV 4) (eV 5))))) aNil)))) (sRet (eC (.bl false))) sSkip)
def m_is_tree : Om → SR := (sSeq (sIf (bOr (bNot (eTru (eIsi "tuple" (eV 0)))) (bOr (eTru (eBin opNe (eCall bLen (aCons (eV 0) aNil)) (eC (.int 2)))) (bNot (eTru (eCall bAll (aCons (eLc (fSeq (eV 0)) [1] (.nm 1) bYes (eIsi "tuple" (eV 1))) aNil)))))) (sRet (eC (.bl false))) sSkip) (sSeq (sPat [] false (eV 0) (.tp [2, 3])) (sSeq (sIf (bOr (bNot (eTru (eChain opLe opLe (eC (.int 1)) (eCall bLen (aCons (eV 2) aNil)) (eC k_MOST_SKILLS)))) (bNot (eTru (eCall bAll (aCons (eLc (fSeq (eV 2)) [1] (.nm 1) bYes (eCall f_is_skill (aCons (eV 1) aNil))) aNil))))) (sRet (eC (.bl false))) sSkip) (sSeq (sAsg [] false (eCall bDict (aCons (eLc (fSeq (eV 2)) [1] (.nm 1) bYes (eTup (aCons (eBin opIx (eV 1) (eC (.int 0))) (aCons (eBin opIx (eV 1) (eC (.int 1))) aNil)))) aNil)) 4) (sSeq (sIf (eTru (eBin opNe (eCall bLen (aCons (eV 4) aNil)) (eCall bLen (aCons (eV 2) aNil)))) (sRet (eC (.bl false))) sSkip) (sSeq (sFor [] (fSeq (eV 2)) (.nm 1) b_is_tree_1) (sRet (eAnd (eCall f_has_no_ring (aCons (eV 2) aNil)) (eCall f_are_locks (aCons (eV 3) (aCons (eV 4) aNil)))))))))))
def f_is_tree : List PV → Res PV := mFn 7 m_is_tree
def m_holds : Om → SR := (sSeq (sAsg [] false (eCall f_levels_of (aCons (eV 0) (aCons (eV 1) aNil))) 2) (sSeq (sIf (eTru (eBin opNe (eCall f_clashes (aCons (eV 0) (aCons (eV 2) aNil))) (eLst aNil))) (sRet (eC (.bl false))) sSkip) (sRet (eCall bAll (aCons (eLc (fSeq (eCall f_names_of (aCons (eV 0) aNil))) [3] (.nm 3) bYes (eOr (eBin opEq (eBin opIx (eV 2) (eV 3)) (eC (.int 0))) (eBin opEq (eCall f_lacking (aCons (eV 0) (aCons (eV 2) (aCons (eV 3) aNil)))) (eLst aNil)))) aNil)))))
def f_holds : List PV → Res PV := mFn 4 m_holds
def b__law_build_1 : Om → SR := (sSeq (sAsg [] false (eLc (fSeq (eCall f__law_ups (aCons (eV 0) (aCons (eV 2) aNil)))) [5] (.nm 5) (eTru (eBin opEq (eCall f__law_wrongs (aCons (eV 0) (aCons (eV 5) aNil))) (eLst aNil))) (eV 5)) 4) (sAsg [] false (eIf (eTru (eBin opNe (eV 4) (eLst aNil))) (eBin opIx (eV 4) (eBin opMod (eBin opDiv (eCall f__law_drawn (aCons (eV 1) (aCons (eV 3) aNil))) (eC (.int 8))) (eCall bLen (aCons (eV 4) aNil)))) (eV 2)) 2))
def m__law_build : Om → SR := (sSeq (sAsg [] false (eBin opMul (eTup (aCons (eC (.int 0)) aNil)) (eCall bLen (aCons (eBin opIx (eV 0) (eC (.int 0))) aNil))) 2) (sSeq (sFor [] (fRange (eBin opMod (eV 1) (eC (.int 14)))) (.nm 3) b__law_build_1) (sRet (eV 2))))
def f__law_build : List PV → Res PV := mFn 6 m__law_build
def m_need_tree : Om → SR := (sIf (bNot (eTru (eCall f_is_tree (aCons (eV 0) aNil)))) (sRaise "BadTree") sSkip)
def f_need_tree : List PV → Res PV := mFn 1 m_need_tree
def b_rows_of_1 : Om → SR := (sExt [] (eLc (fRange (eBin opAdd (eBin opIx (eV 2) (eC (.int 1))) (eC (.int 1)))) [5] (.nm 5) bYes (eBin opAdd (eV 4) (eTup (aCons (eV 5) aNil)))) 3)
def b_rows_of_2 : Om → SR := (sSeq (sNew [] false (eLst aNil) 3) (sSeq (sFor [] (fSeq (eV 1)) (.nm 4) b_rows_of_1) (sAsg [3] false (eV 3) 1)))
def m_rows_of : Om → SR := (sSeq (sAsg [] false (eLst (aCons (eTup aNil) aNil)) 1) (sSeq (sFor [] (fSeq (eBin opIx (eV 0) (eC (.int 0)))) (.nm 2) b_rows_of_2) (sRet (eLc (fSeq (eV 1)) [4] (.nm 4) (eTru (eCall f_holds (aCons (eV 0) (aCons (eV 4) aNil)))) (eV 4)))))
def f_rows_of : List PV → Res PV := mFn 6 m_rows_of
def m_is_build : Om → SR := (sSeq (sExpr (eCall f_need_tree (aCons (eV 0) aNil))) (sRet (eAnd (eCall f_are_levels (aCons (eV 0) (aCons (eV 1) aNil))) (eCall f_holds (aCons (eV 0) (aCons (eV 1) aNil))))))
def f_is_build : List PV → Res PV := mFn 2 m_is_build
def m_look : Om → SR := (sSeq (sExpr (eCall f_need_tree (aCons (eV 0) aNil))) (sExpr (eCall f_need_points (aCons (eV 1) aNil))))
def f_look : List PV → Res PV := mFn 2 m_look
def m_within : Om → SR := (sRet (eLc (fSeq (eCall f_rows_of (aCons (eV 0) aNil))) [2] (.nm 2) (eTru (eBin opLe (eCall f_cost_of (aCons (eV 0) (aCons (eV 2) aNil))) (eV 1))) (eV 2)))
def f_within : List PV → Res PV := mFn 3 m_within
def b_needless_1 : Om → SR := (sIf (eTru (eBin opEq (eCall f_rows_of (aCons (eCall f_without_want (aCons (eV 0) (aCons (eBin opIx (eV 3) (eC (.int 0))) (aCons (eV 4) aNil)))) aNil)) (eV 1))) (sApp [] false (eTup (aCons (eBin opIx (eV 3) (eC (.int 0))) (aCons (eV 4) aNil))) 2) sSkip)
def b_needless_2 : Om → SR := (sFor [] (fSeq (eBin opIx (eV 3) (eC (.int 3)))) (.tp [4, 5]) b_needless_1)
def m_needless : Om → SR := (sSeq (sExpr (eCall f_need_tree (aCons (eV 0) aNil))) (sSeq (sAsg [] false (eCall f_rows_of (aCons (eV 0) aNil)) 1) (sSeq (sNew [] false (eLst aNil) 2) (sSeq (sFor [] (fSeq (eBin opIx (eV 0) (eC (.int 0)))) (.nm 3) b_needless_2) (sRet (eV 2))))))
def f_needless : List PV → Res PV := mFn 6 m_needless
def b_lean_1 : Om → SR := (sSeq (sAsg [] false (eCall f_without_want (aCons (eV 0) (aCons (eV 2) (aCons (eV 3) aNil)))) 6) (sIf (eTru (eBin opEq (eCall f_rows_of (aCons (eV 6) aNil)) (eV 1))) (sAsg [] false (eV 6) 0) sSkip))
def b_lean_2 : Om → SR := (sFor [] (fSeq (eBin opIx (eLc (fSeq (eBin opIx (eV 0) (eC (.int 0)))) [5] (.nm 5) (eTru (eBin opEq (eBin opIx (eV 5) (eC (.int 0))) (eV 2))) (eBin opIx (eV 5) (eC (.int 3)))) (eC (.int 0)))) (.tp [3, 4]) b_lean_1)
def m_lean : Om → SR := (sSeq (sExpr (eCall f_need_tree (aCons (eV 0) aNil))) (sSeq (sAsg [] false (eCall f_rows_of (aCons (eV 0) aNil)) 1) (sSeq (sFor [] (fSeq (eCall f_names_of (aCons (eV 0) aNil))) (.nm 2) b_lean_2) (sRet (eV 0)))))
def f_lean : List PV → Res PV := mFn 7 m_lean
def m_are_alike : Om → SR := (sSeq (sExpr (eCall f_need_tree (aCons (eV 0) aNil))) (sSeq (sExpr (eCall f_need_tree (aCons (eV 1) aNil))) (sRet (eAnd (eBin opEq (eCall f_names_of (aCons (eV 0) aNil)) (eCall f_names_of (aCons (eV 1) aNil))) (eBin opEq (eCall f_rows_of (aCons (eV 0) aNil)) (eCall f_rows_of (aCons (eV 1) aNil)))))))
def f_are_alike : List PV → Res PV := mFn 2 m_are_alike
def m_need_build : Om → SR := (sIf (bNot (eTru (eCall f_is_build (aCons (eV 0) (aCons (eV 1) aNil))))) (sRaise "BadBuild") sSkip)
def f_need_build : List PV → Res PV := mFn 2 m_need_build
def m_many : Om → SR := (sSeq (sExpr (eCall f_look (aCons (eV 0) (aCons (eV 1) aNil)))) (sRet (eCall bLen (aCons (eCall f_within (aCons (eV 0) (aCons (eV 1) aNil))) aNil))))
def f_many : List PV → Res PV := mFn 2 m_many
def m_cost : Om → SR := (sSeq (sExpr (eCall f_need_build (aCons (eV 0) (aCons (eV 1) aNil)))) (sRet (eCall f_cost_of (aCons (eV 0) (aCons (eV 1) aNil)))))
def f_cost : List PV → Res PV := mFn 2 m_cost
def b_led_1 : Om → SR := (sPut [] false false (eCall bMin2 (aCons (eV 6) (aCons (eGet (eV 3) (eV 5) (eC (.int 0))) aNil))) (eV 5) 4)
def m_led : Om → SR := (sSeq (sExpr (eCall f_need_build (aCons (eV 0) (aCons (eV 2) aNil)))) (sSeq (sExpr (eCall f_need_tree (aCons (eV 1) aNil))) (sSeq (sAsg [] false (eCall f_levels_of (aCons (eV 0) (aCons (eV 2) aNil))) 3) (sSeq (sNew [] false (eC (.dK [] [])) 4) (sSeq (sFor [] (fSeq (eBin opIx (eV 1) (eC (.int 0)))) (.tp [5, 6, 7, 8]) b_led_1) (sSeq (sAsg [4] false (eCall f_settled (aCons (eV 1) (aCons (eV 4) aNil))) 9) (sRet (eCall bTuple (aCons (eLc (fSeq (eCall f_names_of (aCons (eV 1) aNil))) [5] (.nm 5) bYes (eBin opIx (eV 9) (eV 5))) aNil)))))))))
def f_led : List PV → Res PV := mFn 10 m_led
def m_back : Om → SR := (sSeq (sAsg [] false (eCall f_led (aCons (eV 0) (aCons (eV 1) (aCons (eV 2) aNil)))) 3) (sSeq (sPat [] false (eTup (aCons (eCall f_levels_of (aCons (eV 0) (aCons (eV 2) aNil))) (aCons (eCall f_levels_of (aCons (eV 1) (aCons (eV 3) aNil))) aNil))) (.tp [4, 5])) (sSeq (sAsg [] false (eLc (fSeq (eCall f_names_of (aCons (eV 0) aNil))) [7] (.nm 7) (eTru (eBin opLt (eGet (eV 5) (eV 7) (eC (.int 0))) (eBin opIx (eV 4) (eV 7)))) (eV 7)) 6) (sRet (eTup (aCons (eBin opSub (eCall f_cost_of (aCons (eV 0) (aCons (eV 2) aNil))) (eCall f_cost_of (aCons (eV 1) (aCons (eV 3) aNil)))) (aCons (eV 6) aNil)))))))
def f_back : List PV → Res PV := mFn 8 m_back
end Pv.LW
end
section
set_option Elab.async false
set_option linter.all false
set_option maxRecDepth 100000
set_option maxHeartbeats 4000000
namespace Pv.LW
open PySem PySem.Spec PyProof.Rows L2 Pv

def b_grown_1 : Om → SR := (sIf (bAnd (eTru (eBin opGt (eBin opIx (eV 2) (eV 4)) (eC (.int 0)))) (eTru (eBin opLt (eBin opIx (eV 2) (eV 8)) (eV 9)))) (sSeq (sPut [] false false (eV 9) (eV 8) 2) (sAsg [] false (eC (.bl true)) 3)) sSkip)
def b_grown_2 : Om → SR := (sFor [] (fSeq (eV 7)) (.tp [8, 9]) b_grown_1)
def b_grown_3 : Om → SR := (sSeq (sAsg [] false (eC (.bl false)) 3) (sFor [] (fSeq (eBin opIx (eV 0) (eC (.int 0)))) (.tp [4, 5, 6, 7]) b_grown_2))
def m_grown : Om → SR := (sSeq (sNew [] false (eCall bDict (aCons (eV 1) aNil)) 2) (sSeq (sAsg [] false (eC (.bl true)) 3) (sSeq (sWhl (eTru (eV 3)) b_grown_3 40) (sRet (eV 2)))))
def f_grown : List PV → Res PV := mFn 10 m_grown
def m__law_cost : Om → SR := (sRet (eCall bSum (aCons (eLc (fZip (eV 1) (eBin opIx (eV 0) (eC (.int 0)))) [2, 3] (.tp [2, 3]) bYes (eBin opMul (eV 2) (eBin opIx (eV 3) (eC (.int 2))))) aNil)))
def f__law_cost : List PV → Res PV := mFn 4 m__law_cost
def m_need_name : Om → SR := (sIf (bOr (bNot (eTru (eIsi "str" (eV 1)))) (eTru (eBin (opIn true) (eV 1) (eCall f_names_of (aCons (eV 0) aNil))))) (sRaise "BadName") sSkip)
def f_need_name : List PV → Res PV := mFn 2 m_need_name
def b_need_goals_1 : Om → SR := (sSeq (sIf (bOr (bNot (eTru (eIsi "tuple" (eV 2)))) (eTru (eBin opNe (eCall bLen (aCons (eV 2) aNil)) (eC (.int 2))))) (sRaise "BadNumber") sSkip) (sSeq (sExpr (eCall f_need_name (aCons (eV 0) (aCons (eBin opIx (eV 2) (eC (.int 0))) aNil)))) (sSeq (sAsg [] false (eBin opIx (eLc (fSeq (eBin opIx (eV 0) (eC (.int 0)))) [4] (.nm 4) (eTru (eBin opEq (eBin opIx (eV 4) (eC (.int 0))) (eBin opIx (eV 2) (eC (.int 0))))) (eBin opIx (eV 4) (eC (.int 1)))) (eC (.int 0))) 3) (sIf (bNot (eTru (eCall f_is_count (aCons (eBin opIx (eV 2) (eC (.int 1))) (aCons (eC (.int 1)) (aCons (eV 3) aNil)))))) (sRaise "BadNumber") sSkip))))
def m_need_goals : Om → SR := (sSeq (sIf (bNot (eTru (eIsi "list" (eV 1)))) (sRaise "BadNumber") sSkip) (sSeq (sFor [] (fSeq (eV 1)) (.nm 2) b_need_goals_1) (sIf (eTru (eBin opNe (eLenSet (eLc (fSeq (eV 1)) [2] (.nm 2) bYes (eBin opIx (eV 2) (eC (.int 0))))) (eCall bLen (aCons (eV 1) aNil)))) (sRaise "BadNumber") sSkip)))
def f_need_goals : List PV → Res PV := mFn 5 m_need_goals
def b_goal_levels_1 : Om → SR := (sPut [] false false (eV 4) (eV 3) 2)
def m_goal_levels : Om → SR := (sSeq (sNew [] false (eCall f_levels_of (aCons (eV 0) (aCons (eBin opMul (eTup (aCons (eC (.int 0)) aNil)) (eCall bLen (aCons (eBin opIx (eV 0) (eC (.int 0))) aNil))) aNil))) 2) (sSeq (sFor [] (fSeq (eV 1)) (.tp [3, 4]) b_goal_levels_1) (sRet (eCall f_grown (aCons (eV 0) (aCons (eV 2) aNil))))))
def f_goal_levels : List PV → Res PV := mFn 5 m_goal_levels
def m_least : Om → SR := (sSeq (sExpr (eCall f_need_tree (aCons (eV 0) aNil))) (sSeq (sExpr (eCall f_need_goals (aCons (eV 0) (aCons (eV 1) aNil)))) (sSeq (sAsg [] false (eCall f_goal_levels (aCons (eV 0) (aCons (eV 1) aNil))) 2) (sSeq (sIf (eTru (eBin opNe (eCall f_clashes (aCons (eV 0) (aCons (eV 2) aNil))) (eLst aNil))) (sRet (eC .non)) sSkip) (sRet (eCall bTuple (aCons (eLc (fSeq (eCall f_names_of (aCons (eV 0) aNil))) [3] (.nm 3) bYes (eBin opIx (eV 2) (eV 3))) aNil)))))))
def f_least : List PV → Res PV := mFn 4 m_least
def m_barred_by : Om → SR := (sSeq (sExpr (eCall f_need_tree (aCons (eV 0) aNil))) (sSeq (sExpr (eCall f_need_goals (aCons (eV 0) (aCons (eV 1) aNil)))) (sRet (eCall f_clashes (aCons (eV 0) (aCons (eCall f_goal_levels (aCons (eV 0) (aCons (eV 1) aNil))) aNil))))))
def f_barred_by : List PV → Res PV := mFn 2 m_barred_by
def m_price : Om → SR := (sSeq (sAsg [] false (eCall f_least (aCons (eV 0) (aCons (eV 1) aNil))) 2) (sRet (eIf (eTru (eBin (opIs false) (eV 2) (eC .non))) (eC .non) (eCall f_cost_of (aCons (eV 0) (aCons (eV 2) aNil))))))
def f_price : List PV → Res PV := mFn 3 m_price
def m_met : Om → SR := (sSeq (sExpr (eCall f_need_build (aCons (eV 0) (aCons (eV 1) aNil)))) (sSeq (sExpr (eCall f_need_build (aCons (eV 0) (aCons (eV 2) aNil)))) (sRet (eCall bTuple (aCons (eLc (fZip (eV 1) (eV 2)) [3] (.nm 3) bYes (eCall bMin1 (aCons (eV 3) aNil))) aNil)))))
def f_met : List PV → Res PV := mFn 4 m_met
def m_joined : Om → SR := (sSeq (sExpr (eCall f_need_build (aCons (eV 0) (aCons (eV 1) aNil)))) (sSeq (sExpr (eCall f_need_build (aCons (eV 0) (aCons (eV 2) aNil)))) (sSeq (sAsg [] false (eCall bTuple (aCons (eLc (fZip (eV 1) (eV 2)) [4] (.nm 4) bYes (eCall bMax1 (aCons (eV 4) aNil))) aNil)) 3) (sRet (eIf (eTru (eCall f_holds (aCons (eV 0) (aCons (eV 3) aNil)))) (eV 3) (eC .non))))))
def f_joined : List PV → Res PV := mFn 5 m_joined
end Pv.LW
end
section
set_option Elab.async false
set_option linter.all false
set_option maxRecDepth 100000
set_option maxHeartbeats 2000000
namespace Pv
open PySem PySem.Spec PyProof.Rows L2 LamX
/-! ### a lambda's body, its exceptions told by ExcCtx -/
def lamN (X : Cx) (A : Around) (outer : List Env) (s : Shared) (H : Hp) (E : XK) (scope : Scope) (f c' : Addr) : Cx :=
  (lamCx X A outer s H E scope f c').wish fun e s' => wpAny (model X.prog X.w) (A.deeper (lamEnv X scope s.heap.objs.size f c')) (leaving (lamEnv X scope s.heap.objs.size f c') e) (fun _ s2 => L2N.CX X.prog X.w outer H s E e s2) (fun e2 s2 => L2N.CX X.prog X.w outer H s E e2 s2) s'
/-! the closure at f, made by X at s, is called from Z, which X called there -/
section
variable {X : Cx} {pins : List (Addr × Obj)} {σ : L2.St} {H HZ : Hp} {s s1 : Shared} {scope : Scope} {params : Arguments} {body : Expr} {f c' : Addr} {pm ctv : Value}
abbrev cloObj (X : Cx) (params : Arguments) (body : Expr) (scope : Scope) (pm : Value) (c' : Addr) (ctv : Value) : Obj := PySem.W.kla_obj "<lambda>" (X.env.qual ++ "<lambda>") params body scope (cloFrom X.env.cells scope.names []) pm c' ctv
theorem clo_code {A : Around} {outer : List Env} {E : XK} {Q : VK} {k : Nat} {tb : TE} (I : Inv X pins σ H s) (L : LamS X.env.scope scope) (hf : s1.heap.get? f = some (cloObj X params body scope pm c' ctv))
    (hbind : bindArgs (PySem.W.kla_fn "<lambda>" (X.env.qual ++ "<lambda>") params body scope (cloFrom X.env.cells scope.names []) pm (.ref c') ctv) ⟨[], []⟩ = pure []) (hr : Room (k + 1) A) (e0 : Env0 X.prog X.w X.K X.mg X.base A outer s1 HZ) (lim : s1.heap.NoLimit)
    (un : Un (frs X.stack) [] H HZ s.heap s1.heap) (hc : HZ c' = some (CodeO c' (X.env.qual ++ "<lambda>"))) (hb : ∀ (A : Around) (outer : List Env) (s : Shared) (H : Hp), Room k (A.deeper (lamEnv X scope s.heap.objs.size f c')) → PE (lamN X A outer s H E scope f c') body tb) (ht : tb σ HZ Q) :
    codeAny (model X.prog X.w) A (.call (.ref f) ⟨[], []⟩) (CR (L2N.CX X.prog X.w) outer X.prog X.w HZ s1 Q E) s1 := by
  obtain ⟨⟨oc, vs, t, e1, e2, e3⟩, _, _⟩ := e0.hok c' _ hc
  refine PySem.W.kla_callFunE hr.depth hf rfl L.co L.gen rfl ⟨c', oc, vs, t, rfl, e1, e2, e3⟩ ?_
  rw [hbind]
  refine wpAny_pure (wpAny_newFunctionEnv (fun y hy => (L.own y hy).2) (fun y hy => absurd hy (by simp)) (fun h1 hns hsb => ⟨lim.fresh _ hsb, ?_⟩) L.kind)
  refine (show codeAny _ _ (.expr body (lamEnv X scope s1.heap.objs.size f c')) _ _ from ?_)
  have kp : ∀ b o, s1.heap.get? b = some o → h1.get? b = some o := fun b o e => hsb.extBut b o (Nat.ne_of_lt (Heap.lt_size e)) (Heap.get?_push_of_some _ e)
  have J := (lam_start2 (E := E) (f := f) (c' := c') (tk := s1.toks + ([] : List (Str × Value)).length) I L e0 hr.hd un hns kp).wish fun e s' => wpAny (model X.prog X.w) (A.deeper (lamEnv X scope s1.heap.objs.size f c')) (leaving (lamEnv X scope s1.heap.objs.size f c') e) (fun _ s2 => L2N.CX X.prog X.w outer HZ s1 E e s2) (fun e2 s2 => L2N.CX X.prog X.w outer HZ s1 E e2 s2) s'
  refine PySem.W.kla_codeExpr (wpAny_mono ((hb A outer s1 HZ (hr.deeper _)).run [] _ _ HZ Q J ht) (fun v s2 hq => ?_) fun e s2 hq => hq)
  obtain ⟨w', H2, J2, rv, q⟩ := hq
  exact ⟨w', H2, J2.os, J2.bare, J2.base, J2.hok, rv, q⟩
/-- a(), where a stands for the closure; Z: the def that got it, entered at s -/
theorem pe_actN {CXg : CXT} {Eg : XK} {Ng : List Str} {qg : Str} {sg : Scope} {g : Addr} {cdg : Value} {k i : Nat} {a : Str} {pn : List (Addr × Obj)} {xe : Value → Shared → Prop} {W : WX} {E : XK} {tb : TE} {p1 p2 : Pos}
    (I : Inv X pins σ H s) (L : LamS X.env.scope scope) (hf : s.heap.get? f = some (cloObj X params body scope pm c' ctv)) (hfn : H f = none) (hfr : f ∉ frs X.stack)
    (hbind : bindArgs (PySem.W.kla_fn "<lambda>" (X.env.qual ++ "<lambda>") params body scope (cloFrom X.env.cells scope.names []) pm (.ref c') ctv) ⟨[], []⟩ = pure [])
    (tk : L2N.Takes ((cxOf CXg X.prog X.w X.K X.mg X.base Ng qg sg g cdg X.A X.stack s H Eg).tr pn xe) W) (hr : Room (k + 1) (X.A.deeper (envOfC qg sg s.heap.objs.size g cdg)))
    (hb : ∀ (A : Around) (outer : List Env) (s : Shared) (H : Hp), Room k (A.deeper (lamEnv X scope s.heap.objs.size f c')) → PE (lamN X A outer s H E scope f c') body tb)
    (hN : Ng[i]? = some a) (hv : Vis sg a) (hd : (a == ("__debug__" : Str)) = false := by decide) (hcd : (a == ("__classdict__" : Str)) = false := by decide) :
    PE ((cxOf CXg X.prog X.w X.K X.mg X.base Ng qg sg g cdg X.A X.stack s H Eg).tr pn xe) (.Call (.Name a p1) [] [] p2) (fun z Hz Q => z[i]? = some (some (.ref f)) ∧ (∀ cls d H', E cls d H' → W cls d z H') ∧ Hz c' = some (CodeO c' (X.env.qual ++ "<lambda>")) ∧ tb σ Hz Q) := by
  refine ⟨fun pz sz z Hz Q IZ ⟨hs, hW, hc, ht⟩ => ?_⟩
  refine wpAny_Call_Name_kw (thn ((pe_var (pos := p1) (i := i) hN hv hd hcd).run pz sz z Hz (fun v H1 => v = .ref f ∧ H1 = Hz) IZ ⟨.ref f, hs, rfl, rfl⟩) fun u s2 ⟨v, H1, I1, r1, ev, eH⟩ => ?_)
  subst ev
  rw [eH] at I1
  obtain rfl : u = Value.ref f := r1
  have fo : s2.heap.get? f = some (cloObj X params body scope pm c' ctv) := I1.base.keep f _ hf hfn hfr (fun z => nomatch (show f ∈ ([] : List Addr) from z))
  refine PySem.W.callWith_F0 ⟨_, _, _, _, fo⟩ ?_
  have un : Un (frs X.stack) [] H Hz s.heap s2.heap := I1.base
  have rc := clo_code (E := E) (Q := Q) I L fo hbind hr I1.env0 I1.nolimit un hc hb ht
  refine wpAny_call (codeAny_mono rc fun r s3 hq => ?_)
  cases r with
  | error e => exact tk e s3 (L2N.XE.of_call I1 hW hq)
  | ok fl =>
    cases fl with
    | ret u => exact I1.after hq
    | next => exact False.elim hq
    | brk => exact False.elim hq
    | cont => exact False.elim hq
end
/-- the def x calls what it got; TT: what it makes of the lambda's reading -/
def GivesN (X : Cx) (Ng : List Str) (x : Str) (sg : Scope) (g : Addr) (cdg : Value) (bg : List Stmt) (a q : Str) (TT : (XK → Hp → VK → Prop) → Hp → VK → Prop) : Prop :=
  ∀ (f c' : Addr) (s : Shared) (H : Hp) (Q : VK) (tl : XK → Hp → VK → Prop), Room 2 (X.A.deeper (envOfC x sg s.heap.objs.size g cdg)) →
    (∀ (W : WX) (pn : List (Addr × Obj)) (xe : Value → Shared → Prop) (E : XK) (p1 p2 : Pos), L2N.Takes ((cxOf C8.CX0 X.prog X.w X.K X.mg X.base Ng x sg g cdg X.A X.stack s H C8.E0).tr pn xe) W →
      PE ((cxOf C8.CX0 X.prog X.w X.K X.mg X.base Ng x sg g cdg X.A X.stack s H C8.E0).tr pn xe) (.Call (.Name a p1) [] [] p2) (fun z Hz Q => z[0]? = some (some (.ref f)) ∧ (∀ cls d H', E cls d H' → W cls d z H') ∧ Hz c' = some (CodeO c' q) ∧ tl E Hz Q)) →
    H c' = some (CodeO c' q) → TT tl H Q →
    ∃ t, PSs (cxOf C8.CX0 X.prog X.w X.K X.mg X.base Ng x sg g cdg X.A X.stack s H C8.E0).nox bg t ∧ t { nx := fun _ H' => Q .non H', rt := Q } (L2.start Ng [.ref f]) H
/-! the lambda is made; what the state becomes is told outright -/
def Made (T : List (Addr × Str)) (H H1 : Hp) : Prop := ExtN H H1 ∧ Tabs T H1 ∧ ∀ a, H1 a = none → H a = none
section
variable {X : Cx} {pins : List (Addr × Obj)} {σ : L2.St} {H : Hp} {s : Shared} {T : List (Addr × Str)} {c P : Addr} {params : Arguments} {body : Expr} {scope : Scope} {pos : Pos} {E Q : Value → Shared → Prop}
theorem made_new {q : Str} {c' : Addr} {ps : Array Value} (hm : (P, q) ∈ T) (hu : ∀ p ∈ T, p.1 = P → p.2 = q) (hT : Tabs T H) (hP : H P = some (.tbl ps)) (ht : TriplesOk ps.toList) (ha : ∀ p cv, codeAmong p ps.toList = some cv → ∃ c0, cv = .ref c0 ∧ H c0 = some (CodeO c0 q)) (nC : H c' = none) :
    Made T H (upd (upd H P (.tbl (ps ++ #[rawInt pos.line, rawInt pos.col, .ref c']))) c' (CodeO c' q)) := by
  have hE : ExtN H (upd (upd H P (.tbl (ps ++ #[rawInt pos.line, rawInt pos.col, .ref c']))) c' (CodeO c' q)) := fun b o e n => by
    rw [upd_ne (ne_of_none e nC), upd_ne (fun z => n ps (Option.some.inj (e.symm.trans (by rw [z]; exact hP))))]
    exact e
  have eL : (ps ++ #[rawInt pos.line, rawInt pos.col, .ref c']).toList = ps.toList ++ [rawInt pos.line, rawInt pos.col, .ref c'] := by simp
  refine ⟨hE, fun p hp => ?_, fun b e => ?_⟩
  · by_cases hb : p.1 = P
    · rw [hu p hp hb, hb]
      refine ⟨_, by rw [upd_ne (ne_of_none hP nC), upd_same], by rw [eL]; exact PySem.TriplesOk_snoc _ _ _ _ ht, fun p' cv hcv => ?_⟩
      rw [eL] at hcv
      rcases among_app _ ht hcv with z | z
      · obtain ⟨c0, e1, e2⟩ := ha p' cv z
        exact ⟨c0, e1, hE _ _ e2 codeO_ne⟩
      · exact ⟨c', z, upd_same⟩
    · obtain ⟨ps', a1, a2, a3⟩ := hT p hp
      refine ⟨ps', by rw [upd_ne (ne_of_none a1 nC), upd_ne hb]; exact a1, a2, fun p' cv hcv => ?_⟩
      obtain ⟨c0, e1, e2⟩ := a3 p' cv hcv
      exact ⟨c0, e1, hE _ _ e2 codeO_ne⟩
  · by_cases h1 : b = c'
    · rw [h1]; exact nC
    · rw [upd_ne h1] at e
      by_cases h2 : b = P
      · rw [h2, upd_same] at e; cases e
      · rw [upd_ne h2] at e; exact e
theorem lam_make3 (I : Inv X pins σ H s) (TB : TabB X.base X.mg c P) (hcode : X.env.code = .ref c) (hm : (P, X.env.qual ++ "<lambda>") ∈ T) (hu : ∀ p ∈ T, p.1 = P → p.2 = X.env.qual ++ "<lambda>") (hT : Tabs T H) (hdef : defaultsOf params X.env = ([], []))
    (hfree : ∀ y ∈ scope.names, y.2 = .free → ∃ c, X.env.cells.lookup y.1 = some c)
    (h : ∀ (f c' : Addr) (pm ctv : Value) (H1 : Hp) (s' : Shared), Inv X pins σ H1 s' → Made T H H1 → s'.heap.get? f = some (cloObj X params body scope pm c' ctv) → H1 f = none → f ∉ frs X.stack → H1 c' = some (CodeO c' (X.env.qual ++ "<lambda>")) → Q (.ref f) s') :
    wpAny (model X.prog X.w) X.A (eval (.Lambda params body scope pos) X.env) Q E s := by
  obtain ⟨ps, hP, ht, ha⟩ := hT _ hm
  refine PySem.W.kla_eval hdef ?_
  have bP : s.heap.BuiltinsAt X.mg P := TB.bm.keeps I.bk
  have hP' : s.heap.get? P = some { cls := .none, data := .fields ps } := I.hok P _ hP
  have nofr : ∀ f, s.heap.objs.size ≤ f → f ∉ frs X.stack := fun f hf z => by
    rcases List.mem_cons.mp (I.stkSub _ z) with e | e
    · have h1 := I.lt
      rw [← e] at h1
      exact Nat.lt_irrefl _ (Nat.lt_of_lt_of_le h1 hf)
    · exact I.nofs hf e
  cases hc : codeAmong pos ps.toList with
  | none =>
    refine PySem.W.kla_makeFunction (mg := X.mg) (c := c) (P := P) (ps := ps) (closure_ok hfree) I.ok.glob (I.mod.glob.keeps I.bk) hcode (TB.code.keeps I.bk) hP' ht hc TB.gP bP fun c' ctv h' tk hx hge hlt hrec htb => ?_
    obtain ⟨c2, oc, vs, t, e2, hoc, hd, hv⟩ := hrec
    cases e2
    have I1 := inv_table (t' := tk) (more := #[rawInt pos.line, rawInt pos.col, .ref c']) (h' := h'.push (cloObj X params body scope ((X.mg "__name__").getD .none) c' ctv)) I hP
      (fun b o hb e => Heap.get?_push_of_some _ (hx b o hb e)) (Heap.get?_push_of_some _ htb) hge ⟨oc, vs, t, Heap.get?_push_of_some _ hoc, hd, hv⟩
    refine h h'.objs.size c' ((X.mg "__name__").getD .none) ctv _ _ I1 (made_new hm hu hT hP ht ha (I.hok.fresh hge)) (Heap.get?_push_size _ rfl) ?_ (nofr _ (Nat.le_trans hge (Nat.le_of_lt hlt))) upd_same
    have hsz : s.heap.objs.size ≤ h'.objs.size := Nat.le_trans hge (Nat.le_of_lt hlt)
    rw [upd_ne (Nat.ne_of_gt hlt), upd_ne (Nat.ne_of_gt (Nat.lt_of_lt_of_le (Heap.lt_size hP') hsz))]
    exact I.hok.fresh hsz
  | some cv =>
    obtain ⟨c', e, hco⟩ := ha pos cv hc
    subst e
    refine PySem.W.kla_makeFunctionHit (mg := X.mg) (c := c) (P := P) (ps := ps) (closure_ok hfree) I.ok.glob (I.mod.glob.keeps I.bk) hcode (TB.code.keeps I.bk) hP' ht hc bP fun ctv h' tk hx hsz => ?_
    have I1 : Inv X pins σ H { s with heap := h'.push (cloObj X params body scope ((X.mg "__name__").getD .none) c' ctv), toks := tk } := I.kept fun b o e => Heap.get?_push_of_some _ (hx b o e)
    exact h h'.objs.size c' ((X.mg "__name__").getD .none) ctv H _ I1 ⟨ExtN.refl H, hT, fun _ z => z⟩ (Heap.get?_push_size _ rfl) (I.hok.fresh hsz) (nofr _ hsz) hco
end
def tLam3 (T : List (Addr × Str)) (TT : (XK → Hp → VK → Prop) → Hp → VK → Prop) (t : XK → TE) : TE := fun σ H Q => Tabs T H ∧ ∀ H1, Made T H H1 → TT (fun E H' Q' => t E σ H' Q') H1 Q
/-- x(lambda: body) -/
theorem pe_lamN {X : Cx} {T : List (Addr × Str)} {TT : (XK → Hp → VK → Prop) → Hp → VK → Prop} {x a : Str} {g c P : Addr} {k : Nat} {pg : Arguments} {bg : List Stmt} {sg : Scope} {dV kV doc pm cdv ct oc : Value} {an od : Option Addr} {osl : Array (Option Value)} {Ng : List Str}
    {params : Arguments} {body : Expr} {scope : Scope} {t : XK → TE} {p lpos pos : Pos} (hg : Gl X x) (hm : X.mg x = some (.ref g)) (hk : PySem.W.keepIn X.K (.ref g) = true)
    (lk : X.K.lookup g = some ⟨oc, od, .func (PySem.W.fnOf x x pg bg sg dV kV doc pm an cdv ct), osl⟩) (hcg : PySem.W.codeIn X.K cdv x = true) (hb : L2.Binds X.K (PySem.W.fnOf x x pg bg sg dV kV doc pm an cdv ct) [a] []) (Sg : FnScope Ng [a] sg) (hNg : Ng[0]? = some a) (hva : Vis sg a)
    (hG : GivesN X Ng x sg g cdv bg a (X.env.qual ++ "<lambda>") TT) (TB : TabB X.base X.mg c P) (hcode : X.env.code = .ref c) (hmT : (P, X.env.qual ++ "<lambda>") ∈ T) (hu : ∀ p ∈ T, p.1 = P → p.2 = X.env.qual ++ "<lambda>") (hr : Room (k + 4) X.A) (L : LamS X.env.scope scope) (hdef : defaultsOf params X.env = ([], []))
    (hbind : ∀ (q : Str) (cl : List (Str × Addr)) (pm cv ctv : Value), bindArgs (PySem.W.kla_fn "<lambda>" q params body scope cl pm cv ctv) ⟨[], []⟩ = pure [])
    (hbody : ∀ (A : Around) (outer : List Env) (s : Shared) (H : Hp) (E : XK) (f c' : Addr), Room k (A.deeper (lamEnv X scope s.heap.objs.size f c')) → PE (lamN X A outer s H E scope f c') body (t E))
    (hdb : (x == ("__debug__" : Str)) = false := by decide) (hd : (a == ("__debug__" : Str)) = false := by decide) (hcd : (a == ("__classdict__" : Str)) = false := by decide) :
    PE X (.Call (.Name x p) [.Lambda params body scope lpos] [] pos) (tLam3 T TT t) := by
  refine ⟨fun pins s σ H Q I ⟨hT, h⟩ => ?_⟩
  refine wpAny_Call_Name_kw (ld_glob I hg hm (PySem.W.callWith_K (h₀ := X.base) I.ok.mod.kin hk ?_ (by rfl) (by rfl)) hdb)
  refine (show wpAny _ _ (spliced ((false, eval (.Lambda params body scope lpos) X.env) :: backTo pos (starEach [] X.env))) _ _ s from Calls.spliced_cons (lam_make3 I TB hcode hmT hu hT hdef (L.has I.ok) fun f c' pm' ctv H1 s' I1 eN hf hfn hfr hco => Calls.spliced_nil ⟨I1.kIn, ?_⟩))
  have rc : codeAny (model X.prog X.w) X.A (.call (.ref g) ⟨[.ref f], []⟩) (CR C8.CX0 X.stack X.prog X.w H1 s' Q C8.E0) s' := by
    refine run_ofS (N := Ng) (ps := [a]) (us := [.ref f]) (vs := [.ref f]) (k := k + 3) lk hcg Sg hr I1.env0 (hb s' [.ref f] I1.kIn rfl) (.cons rfl .nil) rfl fun hr' => ?_
    obtain ⟨t', ht', hq'⟩ := hG f c' s' H1 Q (fun E H' Q' => t E σ H' Q') (hr'.mono (by omega)) (fun W pn xe E p1 p2 tk => pe_actN (i := 0) (k := k) I1 L hf hfn hfr (hbind _ _ _ _ _) tk (hr'.mono (by omega)) (fun A outer s H hr2 => hbody A outer s H E f c' hr2) hNg hva hd hcd) hco (h H1 eN)
    exact ⟨t', ht'.nox, hq'⟩
  refine wpAny_call (codeAny_mono rc fun r s2 hq => ?_)
  cases r with
  | error e => exact (show False from hq).elim
  | ok fl =>
    cases fl with
    | ret u => exact I1.after hq
    | next => exact False.elim hq
    | brk => exact False.elim hq
    | cont => exact False.elim hq
end Pv
end
section
set_option Elab.async false
set_option linter.all false
set_option maxRecDepth 100000
set_option maxHeartbeats 2000000
namespace Pv
open PySem PySem.Spec PyProof.Rows L2 LamX
/-! ### try .. except (x1, x2, x3, x4): what is raised is one of these -/
def w4 (K : PySem.W.Frag) (cs : List Value) (ts : Addr → Value → Option Addr → TS) (D : Ends) : WX := fun cls d σ H => PySem.W.exmAny K cls cs = some true ∧ ∀ a, H a = none → ts a cls d D σ H
theorem fly_keeps {B h h' : Heap} {l : List Env} {a : Addr} {Z : Obj → Prop} (x : HandSPX.FlyingZ B l a Z h) (k : ∀ b o, h.get? b = some o → h'.get? b = some o) : HandSPX.FlyingZ B l a Z h' := by
  obtain ⟨f1, f2, f3, oe, ws, T, oT, ts, he, hz, hd, h1, hn, hne, hT, hdT, h3⟩ := x
  exact ⟨fun b o q => k b o (f1 b o q), f2, f3.of_keeps fun b o q _ => ⟨o, k b o q, rfl⟩, oe, ws, T, oT, ts, k _ _ he, hz, hd, h1, hn, hne, k _ _ hT, hdT, h3⟩
section
variable {X : Cx} {x1 x2 x3 x4 : Str} {c1 c2 c3 c4 : Value} {body suite : List Stmt} {b0 : Stmt} {p1 p2 p3 p4 tpos pos pos' : Pos} {kk : Nat} {tb : WX → TS} {ts : Addr → Value → Option Addr → TS}
theorem ps_try4 (hs : X.stack = X.env :: X.outer) (hf : X.env.frame = some X.env.locals) (n1 : Names X x1 c1) (n2 : Names X x2 c2) (n3 : Names X x3 c3) (n4 : Names X x4 c4)
    (hb : ∀ (W : WX) (pn : List (Addr × Obj)) (xe : Value → Shared → Prop), L2N.Takes (X.tr pn xe) W → PassesOwn (model X.prog X.w) X.A X.env xe → PSs (X.tr pn xe) body (tb W))
    (hsu : ∀ (a : Addr) (oe : Obj) (cls : Value) (d : Option Addr) (pn : List (Addr × Obj)), L2N.Zn cls d oe → (∃ vs, oe.data = .fields vs) → PSs (X.suite a ((a, oe) :: pn)) (b0 :: suite) (ts a cls d)) :
    PS X (.Try body [.ExceptHandler (some (.Tuple [.Name x1 p1, .Name x2 p2, .Name x3 p3, .Name x4 p4] kk tpos)) none (b0 :: suite) pos'] [] [] pos) (fun D σ H => tb (w4 X.K [c1, c2, c3, c4] ts D) D σ H) := by
  refine ⟨fun pins s σ H D I h => wpAny_Try_except ?_⟩
  have ok := I.ok
  have hfr : X.A.frames = some (X.env :: X.outer) := by rw [ok.frames, hs]
  refine wpAny_mono ((hb (w4 X.K [c1, c2, c3, c4] ts D) (X.pn ++ pins) _ (fun u s' xx => ?caught) PassesOwn.looking).run [] s σ H D (I.toTry _) h) (fun f s1 hsp => ?_) (fun e s1 he => he)
  case caught =>
    obtain ⟨a, B, sI, pins', t', H', cls, d, rfl, J', nb, up, sky, na, os, ag, hb1, hyes⟩ := xx
    have J : Inv X pins t' H' sI := J'.ofTry ok
    have sky' : Sky B (X.env :: X.outer) a (L2N.Zn cls d) X.env.locals s'.heap := by rw [← hs]; exact sky
    refine (show wpAny (model X.prog X.w) X.A (noteFrame (.ref a) X.env) _ _ _ from L2N.Sky.land L2N.Zn.steady hfr hf sky' fun h3 fl3 up3 => ?_)
    have J3 : Inv X pins t' H' { s' with heap := h3 } := J.landed nb fl3.1 (up.trans up3) os ag
    obtain ⟨oe3, vs3, he3, hz3, hd3⟩ := fl3.there
    have nfr : a ∉ frs (X.env :: X.outer) := fun hm => by
      obtain ⟨_, o', e', hnf⟩ := fl3.2.2.1.mem hm
      rw [he3] at e'; cases e'
      exact hnf _ hd3
    have nL : a ≠ X.env.locals := fun z => nfr (List.mem_filterMap.mpr ⟨X.env, List.mem_cons_self, by rw [hf, z]⟩)
    have nF : a ∉ X.fs := fun hm => by
      obtain ⟨e, he, q⟩ := List.mem_filterMap.mp hm
      exact nfr (List.mem_filterMap.mpr ⟨e, List.mem_cons_of_mem _ he, q⟩)
    have S3 := J3.suite he3 hd3 na nL nF
    refine wpAny_handleBy_cons (codeAny_handlers_test ?_) (by intro q; cases q)
    have LT : PySem.W.Looks (model X.prog X.w) h3 (typeOf (.ref a)) cls := fun A Q E s k q => wpAny_typeOf_ref (k _ _ he3) (by rw [hz3.1]; exact q)
    have name : ∀ {x : Str} {c : Value} {np : Pos} {Q : Value → Shared → Prop} {E : Value → Shared → Prop}, Names X x c → Q c { s' with heap := h3 } → wpAny (model X.prog X.w) (X.A.mark (some (.ref a))) (eval (.Name x np) X.env) Q E { s' with heap := h3 } := fun {x c np Q E} hc q => by
      obtain ⟨hg, hdbg, hm | ⟨hm, hv, hnn⟩⟩ := hc
      · exact ld_glob (X := X.suite a ((a, oe3) :: (X.pn ++ pins))) S3 hg hm q hdbg
      · exact ld_blt (X := X.suite a ((a, oe3) :: (X.pn ++ pins))) S3 hg hm hv q hnn hdbg
    refine wpAny_Tuple (wpAny_items_cons (name n1 (wpAny_items_cons (name n2 (wpAny_items_cons (name n3 (wpAny_items_cons (name n4 (wpAny_items_nil ⟨by size_fits, ?_⟩)))))))))
    have kp : ∀ q o, h3.get? q = some o → (h3.push { cls := .type "tuple", data := .seq [c1, c2, c3, c4].toArray }).get? q = some o := fun _ _ z => Heap.get?_push_of_some _ z
    have KX : X.K.In h3 := J3.kIn
    refine (PySem.W.exm_tup4 (KX.keeps kp) (LT.keeps kp) (Heap.get?_push_size h3 rfl) hb1).here ?_
    refine codeAny_handlers_suite (HandSPX.lands_againZ (s := { s' with heap := h3.push { cls := .type "tuple", data := .seq [c1, c2, c3, c4].toArray } }) (fly_keeps fl3 kp) fun h4 fl4 up4 => ?_)
    have J4 : Inv X pins t' H' { s' with heap := h4 } := J.landed nb fl4.1 (((up.trans up3).trans (Heap.UpToSlots.of_keeps kp)).trans up4) os ag
    obtain ⟨oe4, vs4, he4, hz4, hd4⟩ := fl4.there
    have S4 := J4.suite he4 hd4 na nL nF
    refine wpAny_mono ((hsu a oe4 cls d (X.pn ++ pins) hz4 ⟨_, hd4⟩).run [] _ _ H' _ S4 (hyes a na)) (fun f s6 hsp => ?_) (fun _ _ z => False.elim z)
    cases f with
    | next => obtain ⟨t6, H6, S6, q6⟩ := hsp; exact ⟨_, _, S6.unsuite ok, q6⟩
    | brk => obtain ⟨t6, H6, S6, q6⟩ := hsp; exact ⟨_, _, S6.unsuite ok, q6⟩
    | cont => obtain ⟨t6, H6, S6, q6⟩ := hsp; exact ⟨_, _, S6.unsuite ok, q6⟩
    | ret u => obtain ⟨v6, t6, H6, S6, r6, q6⟩ := hsp; exact ⟨_, _, _, S6.unsuite ok, r6, q6⟩
  cases f with
  | next => obtain ⟨t1, H1, J1, q⟩ := hsp; exact wpAny_execs_nil ⟨t1, H1, J1.ofTry ok, q⟩
  | brk => obtain ⟨t1, H1, J1, q⟩ := hsp; exact ⟨t1, H1, J1.ofTry ok, q⟩
  | cont => obtain ⟨t1, H1, J1, q⟩ := hsp; exact ⟨t1, H1, J1.ofTry ok, q⟩
  | ret u => obtain ⟨v, t1, H1, J1, r, q⟩ := hsp; exact ⟨v, t1, H1, J1.ofTry ok, r, q⟩
end
end Pv
end
section
set_option Elab.async false
set_option linter.all false
set_option maxRecDepth 100000
set_option maxHeartbeats 2000000
namespace Pv
open PySem PySem.Spec PyProof.Rows L2
/-! ### the head: facts of a part of the heap without lists -/
def isL (o : Obj) : Bool := match o.cls with
  | .type c => c == "list"
  | _ => false
def noL (K : PySem.W.Frag) : Bool := K.all fun p => !isL p.2
def fragG (n : Nat) (g : Addr → Option Obj) : PySem.W.Frag := He.frG g ((He.asD g n).filter fun a => match g a with
  | some o => !isL o
  | none => true)
def obsLG (n : Nat) (fa : List He.Fa) (fn : List He.DefD) (g : Addr → Option Obj) : Bool × He.AlD := (noL (fragG n g), He.obsD fa fn (fragG n g))
def hookL (n : Nat) (fa : List He.Fa) (fn : List He.DefD) : PySem.W.Hook where
  α := Bool × He.AlD
  obs := fun s => obsLG n fa fn s.heap.get?
  val := fun _ => (true, He.valD fn)
  says := fun _ h => ∃ K : PySem.W.Frag, K.In h ∧ noL K = true ∧ He.SaysD fa fn K
  of := fun _ _ e => ⟨_, He.frG_in, congrArg Prod.fst e, congrArg Prod.snd e⟩
  keeps := fun _ _ _ ⟨K, hK, c⟩ k => ⟨K, PySem.W.Frag.In.keeps hK k, c⟩
theorem obsLG_eq {n : Nat} {fa : List He.Fa} {fn : List He.DefD} {g : Addr → Option Obj} {s : Shared} (h : ∀ a, g a = s.heap.get? a) : obsLG n fa fn g = (hookL n fa fn).obs s := by
  have e : g = s.heap.get? := funext h
  rw [e] <;> rfl
theorem lookup_mem {K : PySem.W.Frag} {a : Addr} {o : Obj} (h : K.lookup a = some o) : (a, o) ∈ K := by
  have h : List.lookup a K = some o := h
  induction K with
  | nil => cases h
  | cons p r ih =>
    obtain ⟨b, u⟩ := p
    rw [List.lookup_cons] at h
    split at h
    · rename_i e
      cases h
      rw [beq_iff_eq] at e
      subst e
      exact List.mem_cons_self
    · exact List.mem_cons_of_mem _ (ih h h)
theorem noL_at {K : PySem.W.Frag} (h : noL K = true) {a : Addr} {o : Obj} (e : K.lookup a = some o) : isL o = false := by
  have := List.all_eq_true.mp h _ (lookup_mem e)
  simpa using this
/-- the end of a law row -/
theorem walk_own {l : PySem.W.OpenLaw} {n k : Nat} {q : Program} {loose : List Str} {XP : (Str → Option Value) → Heap → Prop} {YP : World → Heap → Prop} {d : DefRec} {x : Str}
    (hn : l.most = some n) (hn2 : n ≤ sizeLine) (hdf : d.params.defaults = []) (hr : Room k callerA)
    (F : ∀ (w : World) (mg : Str → Option Value) (fa : Addr) (h : Heap), YP w h → h.Ns mainGlobals mg → mg d.name = some (.ref fa) →
      ∃ (K : PySem.W.Frag) (fd : FuncData) (sp : Sp) (CX : CXT), K.In h ∧ (∀ (s : Shared) (u : Value), BindsTo s fd ⟨[u], []⟩ [(x, u)]) ∧
        (∀ (H : Hp) (a : Addr) (ns : List Int), ns.length ≤ n → (∀ z ∈ ns, Builtin.Int.intBits z ≤ 1048576) → Only H → SqL K H a (ns.map V.int) → sp [.ref a] H (fun v _ => v = .bl true) fun _ _ _ => False) ∧
        (∀ base : Heap, K.In base → base.Ns mainGlobals mg → FnOk l.prog w K mg base CX k fa fd [x] sp) ∧
        (∀ (H : Hp) (s : Shared) (e : Value) (s' : Shared), CX [] H s (fun _ _ _ => False) e s' → False)) :
    PySem.W.WalkO q loose XP YP l.row.toRowW d [] (fun f vs => PySem.call f vs) := by
  refine Att.attach_callB hn hdf fun w s₀ s₁ mg mb fa o pm cd doc a vs ns G Y ho hd hcd hmg hobj hints hlen hbits hg => ?_
  obtain ⟨K, fd, sp, CX, KX, hb, hsp, hF, hCX⟩ := F w mg fa _ Y G.T.g hmg
  exact law_call KX G.T.g G.T.b G.T.builtins G.T.nolimit hg hobj hints (Nat.le_trans hlen hn2) hr hF hb (fun H hO hS => hsp H a ns hlen hbits hO hS) fun H e s' => hCX H s₁ e s'
/-- the classes by their names -/
def clsOf (mg : Str → Option Value) (c : Str) : Option Addr := match mg c with
  | some (.ref C) => some C
  | _ => none
def gcOf (P : Program) (w : World) (K : PySem.W.Frag) (mg : Str → Option Value) (base : Heap) : Gc := ⟨P, w, K, mg, base, [], clsOf mg, fun _ => none⟩
section
variable {P : Program} {w : World} {K : PySem.W.Frag} {mg : Str → Option Value} {base h : Heap}
theorem exOk_of (X : K.In h) (N : h.Ns mainGlobals mg) {x : Str} (g : (He.Fa.glo x).ok K = true) (c : (He.Fa.exc x).ok K = true) : ExOk (gcOf P w K mg base) x := by
  have e := He.glo_ok X N g
  obtain ⟨h1, h2, h3, h4⟩ := He.exc_ok c
  exact ⟨_, by show clsOf mg x = _; unfold clsOf; rw [e], e, h1, h2, h3, h4⟩
theorem cstI_of (X : K.In h) (N : h.Ns mainGlobals mg) {x : Str} {i : Int} (c : (He.Fa.int x i).ok K = true) : Cst (gcOf P w K mg base) x (.int i) := by
  obtain ⟨t, e⟩ := He.int_ok X N c
  exact ⟨_, .int i, e, ⟨t, rfl⟩, fun S => .int i⟩
theorem cstS_of (X : K.In h) (N : h.Ns mainGlobals mg) {x z : Str} (c : (He.Fa.str x z).ok K = true) (hz : PyData.strOk z = true) : Cst (gcOf P w K mg base) x (.str z) := by
  obtain ⟨t, e⟩ := He.str_ok X N c
  exact ⟨_, .str z, e, ⟨t, rfl⟩, fun S => .str z hz⟩
/-- the script -/
theorem sp_script (nl : noL K = true) {m : List PV → Res PV} {H : Hp} {a : Addr} {ns : List Int} (hO : Only H) (hS : SqL K H a (ns.map V.int)) (hm : m [.scr ns] = .ok (.bl true)) :
    spP (gcOf P w K mg base) 1 m [.ref a] H (fun v _ => v = .bl true) fun _ _ _ => False := by
  have hf : ∃ ob, H a = some (.frz ob (.lst (ns.map V.int))) := by
    rcases hS with (z | ⟨ob, z⟩) | ⟨o, its, n, e, hc, _⟩
    · rcases hO a with y | ⟨o, xs, y⟩
      · rw [y] at z; cases z
      · rw [y] at z; cases z
    · exact ⟨ob, z⟩
    · have := noL_at nl e
      unfold isL at this
      rw [hc] at this
      exact absurd this (by decide)
  obtain ⟨ob, hf⟩ := hf
  refine ⟨rfl, fun b => if b = a then some (.frz ob (.lst (ns.map V.int))) else none, [.scr ns], ⟨fun b o e => ?_, fun p hp => (nomatch hp), fun b o e => ?_⟩, .cons (.scr (ob := ob) (if_pos rfl)) .nil, ?_⟩
  · by_cases hb : b = a
    · have e := (if_pos hb).symm.trans e
      cases e
      subst hb
      exact hf
    · have e := (if_neg hb).symm.trans e
      cases e
  · by_cases hb : b = a
    · have e := (if_pos hb).symm.trans e
      cases e
      trivial
    · have e := (if_neg hb).symm.trans e
      cases e
  · rw [hm]
    intro v H' S' _ _ _ r
    cases r
    rfl
theorem cx_false {H : Hp} {s : Shared} {e : Value} {s' : Shared} (h : L2N.CX P w [] H s (fun _ _ _ => False) e s') : False := by
  obtain ⟨_, _, _, _, _, _, _, _, _, _, _, _, _, _, _, _, z⟩ := h
end
end Pv
end
section
set_option Elab.async false
set_option linter.all false
set_option maxRecDepth 100000
set_option maxHeartbeats 2000000
namespace Pv
open PySem PySem.Spec PyProof.Rows L2 LamX
variable {G : Gc} {B : Bx}
/-! ### is_let -/
def TCat (G : Gc) (cs : List Str) : (XK → Hp → VK → Prop) → Hp → VK → Prop := fun tl H Q => tl (fun cls _ H' => (∃ c ∈ cs, ∃ C, G.cls c = some C ∧ cls = .ref C) ∧ Q (.bl false) H') H (fun _ H' => Q (.bl true) H')
structure Let4 (G : Gc) (x1 x2 x3 x4 : Str) : Prop where
  ex : ∃ C1 C2 C3 C4, (G.cls x1 = some C1 ∧ G.mg x1 = some (.ref C1)) ∧ (G.cls x2 = some C2 ∧ G.mg x2 = some (.ref C2)) ∧ (G.cls x3 = some C3 ∧ G.mg x3 = some (.ref C3)) ∧ (G.cls x4 = some C4 ∧ G.mg x4 = some (.ref C4)) ∧
    ∀ C ∈ [C1, C2, C3, C4], PySem.W.exmAny G.K (.ref C) [.ref C1, .ref C2, .ref C3, .ref C4] = some true
/-- a def of one parameter that calls it, and tells whether it went through -/
structure LetP (G : Gc) (x : Str) (cs : List Str) : Prop where
  ex : ∃ (a : Str) (g : Addr) (pg : Arguments) (bg : List Stmt) (sg : Scope) (dV kV doc pm cdv ct oc : Value) (an od : Option Addr) (osl : Array (Option Value)) (Ng : List Str),
    G.mg x = some (.ref g) ∧ PySem.W.keepIn G.K (.ref g) = true ∧ G.K.lookup g = some ⟨oc, od, .func (PySem.W.fnOf x x pg bg sg dV kV doc pm an cdv ct), osl⟩ ∧ PySem.W.codeIn G.K cdv x = true ∧ Binds G.K (PySem.W.fnOf x x pg bg sg dV kV doc pm an cdv ct) [a] [] ∧
    FnScope Ng [a] sg ∧ Ng[0]? = some a ∧ Vis sg a ∧ (a == ("__debug__" : Str)) = false ∧ (a == ("__classdict__" : Str)) = false ∧
    ∀ (X : Cx) (q : Str), X.prog = G.P → X.w = G.w → X.K = G.K → X.mg = G.mg → X.base = G.base → GivesN X Ng x sg g cdv bg a q (TCat G cs)
theorem let_gives {X : Cx} {x a y q x1 x2 x3 x4 : Str} {sg : Scope} {g : Addr} {cdg : Value} {j1 j2 kk : Nat} {p1 p2 p3 p4 p5 p6 p7 p8 p9 q1 q2 q3 q4 q5 q6 q7 q8 q9 : Pos} (hK : X.K = G.K) (hm : X.mg = G.mg) (F : Let4 G x1 x2 x3 x4)
    (g1 : sg.names.lookup x1 = some .globalImplicit) (g2 : sg.names.lookup x2 = some .globalImplicit) (g3 : sg.names.lookup x3 = some .globalImplicit) (g4 : sg.names.lookup x4 = some .globalImplicit) (d1 : (x1 == ("__debug__" : Str)) = false) (d2 : (x2 == ("__debug__" : Str)) = false) (d3 : (x3 == ("__debug__" : Str)) = false) (d4 : (x4 == ("__debug__" : Str)) = false)
    (nd : [a, y].Nodup) (hy : sg.names.lookup y = some .local) (dy : (y == ("__debug__" : Str)) = false) (cy : (y == ("__classdict__" : Str)) = false) :
    GivesN X [a, y] x sg g cdg [.Assign [.Name y p1] (.Constant (.bool true) j1 p2) p3, .Try [.Expr (.Call (.Name a p4) [] [] p5) p6] [.ExceptHandler (some (.Tuple [.Name x1 q1, .Name x2 q2, .Name x3 q3, .Name x4 q4] kk q5)) none [.Assign [.Name y p7] (.Constant (.bool false) j2 p8) p9] q6] [] [] q7, .Return (some (.Name y q8)) q9] a q (TCat G [x1, x2, x3, x4]) := by
  intro f c' s H Q tl hr act hc h
  obtain ⟨C1, C2, C3, C4, ⟨a1, b1⟩, ⟨a2, b2⟩, ⟨a3, b3⟩, ⟨a4, b4⟩, hx⟩ := F.ex
  let X' := (cxOf C8.CX0 X.prog X.w X.K X.mg X.base [a, y] x sg g cdg X.A X.stack s H C8.E0).nox
  have nm : ∀ {z : Str} {C : Addr}, sg.names.lookup z = some .globalImplicit → (z == ("__debug__" : Str)) = false → G.mg z = some (.ref C) → Names X' z (.ref C) := fun {z C} h1 h2 h3 => ⟨h1, h2, .inl (by rw [← hm] at h3; exact h3)⟩
  refine ⟨_, pss_cons (ps_set (X := X') (i := 1) nd rfl (.inl hy) pe_bl) (pss_cons (ps_try4 (X := X') (tb := fun W D σ H => ∃ Ech : XK, σ[0]? = some (some (.ref f)) ∧ (∀ cls d H', Ech cls d H' → W cls d σ H') ∧ H c' = some (CodeO c' q) ∧ tl Ech H (fun _ H1 => D.nx σ H1)) (ts := fun _ _ _ D σ H => D.nx (σ.set 1 (some (.bl false))) H) rfl rfl (nm g1 d1 b1) (nm g2 d2 b2) (nm g3 d3 b3) (nm g4 d4 b4) (fun W pn xe tk _ => ?_) (fun e oe cls d pn _ _ => pss_one (ps_set (i := 1) nd rfl (.inl hy) pe_bl))) (pss_one (ps_ret (pe_var (i := 1) rfl (.inl hy) dy cy)))), ?_⟩
  · refine ⟨fun pins s' σ H' D I ⟨Ech, h1, h2, h3, h4⟩ => ?_⟩
    exact (pss_one (ps_expr (act W pn xe Ech p4 p5 tk))).run pins s' σ H' D I ⟨h1, h2, h3, h4⟩
  · refine ⟨fun cls _ H' => (∃ c ∈ [x1, x2, x3, x4], ∃ C, G.cls c = some C ∧ cls = .ref C) ∧ Q (.bl false) H', rfl, fun cls d H' ⟨⟨c, hc, C, e1, e2⟩, hq⟩ => ⟨?_, fun _ _ => ⟨_, rfl, hq⟩⟩, hc, ?_⟩
    · subst e2
      show PySem.W.exmAny X.K _ _ = _
      rw [hK]
      refine hx C ?_
      simp only [List.mem_cons, List.not_mem_nil, or_false] at hc ⊢
      rcases hc with rfl | rfl | rfl | rfl
      · rw [a1] at e1; cases e1; exact .inl rfl
      · rw [a2] at e1; cases e1; exact .inr (.inl rfl)
      · rw [a3] at e1; cases e1; exact .inr (.inr (.inl rfl))
      · rw [a4] at e1; cases e1; exact .inr (.inr (.inr rfl))
    · have e : (fun (_ : V) (H1 : Hp) => Q (.bl true) H1) = fun (_ : V) (H1 : Hp) => tRet (tVar 1) { nx := fun _ H' => Q V.non H', rt := Q } (List.set (L2.start [a, y] [V.ref f]) 1 (some (V.bl true))) H1 := by
        funext _ H1
        exact propext ⟨fun z => ⟨_, rfl, z⟩, fun ⟨v, e, z⟩ => by cases e; exact z⟩
      unfold TCat at h
      rw [e] at h
      exact h
/-- is_let by its text -/
theorem LetP.of {x a y x1 x2 x3 x4 : Str} {st : Stmt} {args : Arguments} {dec : List Expr} {ret : Option Expr} {tp : List TypeParam} {sg : Scope} {ts : Option Scope} {b : Str} {pos : Pos} {j1 j2 kk : Nat} {p1 p2 p3 p4 p5 p6 p7 p8 p9 q1 q2 q3 q4 q5 q6 q7 q8 q9 : Pos} (d : FunT G x st)
    (hst : st = .FunctionDef x args [.Assign [.Name y p1] (.Constant (.bool true) j1 p2) p3, .Try [.Expr (.Call (.Name a p4) [] [] p5) p6] [.ExceptHandler (some (.Tuple [.Name x1 q1, .Name x2 q2, .Name x3 q3, .Name x4 q4] kk q5)) none [.Assign [.Name y p7] (.Constant (.bool false) j2 p8) p9] q6] [] [] q7, .Return (some (.Name y q8)) q9] dec ret tp sg ts b pos)
    (S : FnScope [a, y] [a] sg) (hb : ∀ (kV doc pm : Value) (an : Option Addr) (cdv ct : Value) (us : List Value), us.length = [a].length → bindArgs (PySem.W.fnOf x x args (defBody st) sg .none kV doc pm an cdv ct) ⟨us, []⟩ = pure ([a].zip us)) (F : Let4 G x1 x2 x3 x4)
    (g1 : sg.names.lookup x1 = some .globalImplicit) (g2 : sg.names.lookup x2 = some .globalImplicit) (g3 : sg.names.lookup x3 = some .globalImplicit) (g4 : sg.names.lookup x4 = some .globalImplicit) (d1 : (x1 == ("__debug__" : Str)) = false) (d2 : (x2 == ("__debug__" : Str)) = false) (d3 : (x3 == ("__debug__" : Str)) = false) (d4 : (x4 == ("__debug__" : Str)) = false)
    (hy : sg.names.lookup y = some .local) (dy : (y == ("__debug__" : Str)) = false) (cy : (y == ("__classdict__" : Str)) = false) (ha : Vis sg a) (da : (a == ("__debug__" : Str)) = false) (ca : (a == ("__classdict__" : Str)) = false) : LetP G x [x1, x2, x3, x4] := by
  subst hst
  obtain ⟨f, fd, F0, hm⟩ := d.ex
  have bnd := FunD.bindsN F0 hb
  obtain ⟨oc, od, dV, kV, doc, pm, an, cdv, ct, osl, rfl, lk, hcd, _, _⟩ := F0.ex
  exact ⟨a, f, args, _, sg, dV, kV, doc, pm, cdv, ct, oc, an, od, osl, [a, y], hm, F0.kp, lk, hcd, bnd, S, rfl, ha, da, ca, fun X q h1 h2 h3 h4 h5 => let_gives h3 h4 F g1 g2 g3 g4 d1 d2 d3 d4 S.nd hy dy cy⟩
/-! ### x(lambda: ..) -/
structure LamT (G : Gc) (c P : Addr) (q : Str) : Prop where
  tb : TabB G.base G.mg c P
  mem : (P, q ++ "<lambda>") ∈ G.T
  one : ∀ p ∈ G.T, p.1 = P → p.2 = q ++ "<lambda>"
def eLet (cs : List Str) (f : Rho → Res PV) : Rho → Res PV := fun ρ => match f ρ with
  | .ok _ => .ok (.bl true)
  | .exc c => if c ∈ cs then .ok (.bl false) else .bad
  | .bad => .bad
theorem Made.ext {T : List (Addr × Str)} {H H1 : Hp} (m : Made T H H1) : Ext T H H1 := ⟨fun a o e n => m.1 a o e n, m.2.2, fun _ => m.2.1⟩
abbrev Bx.lam (B : Bx) (scope : Scope) (k : Nat) : Bx := ⟨B.N, scope, fun _ => false, k, none, false, none⟩
theorem CxOk.lam {X : Cx} {k : Nat} (ok : CxOk G B X) {A : Around} {outer : List Env} {s : Shared} {H : Hp} {E : XK} {scope : Scope} {f c' : Addr} (hr : Room k (A.deeper (lamEnv X scope s.heap.objs.size f c'))) : CxOk G (B.lam scope k) (lamN X A outer s H E scope f c') :=
  ⟨ok.prog, ok.w, ok.K, ok.mg, ok.base, ok.N, ok.nd, rfl, fun _ z => (nomatch z), fun _ => ⟨rfl, hr.hd⟩, L2H.roomH_of hr, fun _ _ z => (nomatch z), fun _ _ z => (nomatch z)⟩
theorem lam_takes {X : Cx} {A : Around} {outer : List Env} {s : Shared} {H : Hp} {E : XK} {scope : Scope} {f c' : Addr} : L2N.Takes (lamN X A outer s H E scope f c') (fun cls d _ H => E cls d H) := L2N.takes_of rfl rfl rfl rfl
theorem JE.letl [hcm : Cool B] {x q : Str} {cs : List Str} {c P : Addr} {k : Nat} {params : Arguments} {body : Expr} {scope : Scope} {f : Rho → Res PV} {p lpos pos : Pos} (F : LetP G x cs) (hg : Gb B x) (hco : B.co = some (c, q)) (LT : LamT G c P q) (hk : k + 4 ≤ B.k) (L : lamSB B.sc scope = true)
    (hdef : ∀ env : Env, defaultsOf params env = ([], [])) (hbind : ∀ (q : Str) (cl : List (Str × Addr)) (pm cv ctv : Value), bindArgs (PySem.W.kla_fn "<lambda>" q params body scope cl pm cv ctv) ⟨[], []⟩ = pure [])
    (hbody : JE G (B.lam scope k) body f) (hdb : (x == ("__debug__" : Str)) = false := by decide) : JE G B (.Call (.Name x p) [.Lambda params body scope lpos] [] pos) (eLet cs f) := ⟨fun X W ok tk => by
  obtain ⟨a, g, pg, bg, sg, dV, kV, doc, pm, cdv, ct, oc, an, od, osl, Ng, h1, h2, h3, h4, h5, h6, h7, h8, h9, h10, h11⟩ := F.ex
  obtain ⟨e1, e2⟩ := ok.co c q hco
  refine PE.imp (pe_lamN (X := X) (T := G.T) (TT := TCat G cs) (k := k) (c := c) (P := P) (t := fun E => tE G (fun cls d _ H => E cls d H) f) (show X.env.scope.names.lookup x = _ by rw [ok.sc]; exact hg) (by rw [ok.mg]; exact h1) (by rw [ok.K]; exact h2) (by rw [ok.K]; exact h3) (by rw [ok.K]; exact h4) (by rw [ok.K]; exact h5) h6 h7 h8
    (h11 X _ ok.prog ok.w ok.K ok.mg ok.base) (by rw [ok.base, ok.mg]; exact LT.tb) e1 (by rw [e2]; exact LT.mem) (by rw [e2]; exact LT.one) ((ok.room hcm.out).mono hk) (by rw [ok.sc]; exact lamS_by L) (hdef _) hbind
    (fun A outer s H E f c' hr => hbody.run _ _ (ok.lam hr) lam_takes) hdb h9 h10) fun σ H Q ⟨S, ρ, hl, hs, he⟩ => ⟨hl.tabs, fun H1 m => ?_⟩
  refine ⟨S, ρ, hl.ext m.ext, hs, ?_⟩
  unfold eLet at he
  cases hf : f ρ with
  | ok v =>
    rw [hf] at he
    exact fun v H' S' x1 l1 g1 r1 => he (.bl true) H' S' (m.ext.trans x1) l1 ((Grow.refl H S).trans m.ext g1) (.bl _)
  | exc c =>
    rw [hf] at he
    dsimp only at he
    intro C H' hC x1
    split at he
    · rename_i hm
      exact ⟨⟨c, hm, C, hC, rfl⟩, he (.bl false) H' S (m.ext.trans x1) (hl.ext (m.ext.trans x1)) (Grow.refl H S) (.bl _)⟩
    · exact he.elim
  | bad => rw [hf] at he; exact he⟩
/-! ### a def that makes lambdas -/
structure FunC (G : Gc) (x : Str) (st : Stmt) (c : Addr) : Prop where
  ex : ∃ f fd, FunD G.K x x (defArgs st) (defBody st) (defScope st) [] [] f fd ∧ G.mg x = some (.ref f) ∧ fd.code = .ref c
theorem okStC {x : Str} {st : Stmt} {args : Arguments} {body : List Stmt} {dec : List Expr} {ret : Option Expr} {tp : List TypeParam} {sc : Scope} {ts : Option Scope} {b : Str} {pos : Pos} {N ps : List Str} {k : Nat} {g : Om → SR} {f c : Addr} {fd : FuncData} (F : FunD G.K x x (defArgs st) (defBody st) (defScope st) [] [] f fd) (hst : st = .FunctionDef x args body dec ret tp sc ts b pos)
    (hc : fd.code = .ref c) (S : FnScope N ps sc) (h : JSs G ⟨N, sc, fun _ => true, k, some (c, x ++ ".<locals>."), false, none⟩ body g) : FnOk G.P G.w G.K G.mg G.base (L2N.CX G.P G.w) (k + 1) f fd ps (spP G ps.length (mFn N.length g)) := by
  subst hst
  have F : FunD G.K x x args body sc [] [] f fd := F
  obtain ⟨oc, od, dV, kV, doc, pm, an, cdv, ct, osl, rfl, lk, hcd, _, _⟩ := F.ex
  have hc : cdv = .ref c := hc
  subst hc
  refine fn_of lk hcd S (fun vs H Q E hsp => hsp.1) fun A outer s H vs Q E hr hsp => ⟨_, h.run _ (fun cls d _ H' => E cls d H') ?_ ?_ ?_, ?_⟩
  · exact ⟨rfl, rfl, rfl, rfl, rfl, rfl, S.nd, rfl, fun _ _ => rfl, fun _ => ⟨rfl, hr.hd⟩, L2H.roomH_of hr, fun c' q' z => (by cases z; exact ⟨rfl, rfl⟩), fun _ _ z => nomatch z⟩
  · exact ⟨passes_of rfl⟩
  · exact L2N.takes_of rfl rfl rfl rfl
  · obtain ⟨hlen, S1, qs, hl, rq, he⟩ := hsp
    have el : N.length - vs.length = N.length - qs.length := by rw [rq.length]
    unfold L2.start
    rw [el]
    refine ⟨H, S1, S1, _, StOk.start hl rq _, ?_⟩
    unfold mFn at he
    cases e : g (qs.map (fun p => some (.v p)) ++ List.replicate (N.length - qs.length) none) with
    | nx ω => rw [e] at he; exact fun σ' H' S' k' => he .non H' S' k'.ext k'.le k'.grow .non
    | rt p => rw [e] at he; exact he
    | exc c => rw [e] at he; exact fun C σ' H' hC ex => he C H' hC ex
    | bk ω => rw [e] at he; exact he.elim
    | ct ω => rw [e] at he; exact he.elim
    | bad => rw [e] at he; exact he.elim
theorem FnP.ofStC {x : Str} {st : Stmt} {args : Arguments} {body : List Stmt} {dec : List Expr} {ret : Option Expr} {tp : List TypeParam} {sc : Scope} {ts : Option Scope} {b : Str} {pos : Pos} {N ps : List Str} {k : Nat} {g : Om → SR} {c : Addr} (d : FunC G x st c) (hst : st = .FunctionDef x args body dec ret tp sc ts b pos)
    (S : FnScope N ps sc) (hb : ∀ (kV doc pm : Value) (an : Option Addr) (cdv ct : Value) (us : List Value), us.length = ps.length → bindArgs (PySem.W.fnOf x x args body sc .none kV doc pm an cdv ct) ⟨us, []⟩ = pure (ps.zip us)) (h : JSs G ⟨N, sc, fun _ => true, k, some (c, x ++ ".<locals>."), false, none⟩ body g) : FnP G (k + 1) x ps.length (mFn N.length g) := by
  subst hst
  obtain ⟨f, fd, F, hm, hc⟩ := d.ex
  exact ⟨f, fd, ps, rfl, okStC F rfl hc S h, hm, F.kp, FunD.bindsN (show FunD G.K x x args body sc [] [] f fd from F) hb⟩
end Pv
end
section
set_option Elab.async false
set_option linter.all false
set_option maxRecDepth 100000
set_option maxHeartbeats 2000000
namespace Pv
open PySem PySem.Spec PyProof.Rows L2 LamX
/-! ### the head where some defs make lambdas: their tables are empty there -/
def notL (g : Addr → Option Obj) (a : Addr) : Bool := match g a with
  | some o => !isL o
  | none => true
def fragT (n : Nat) (g : Addr → Option Obj) : PySem.W.Frag := He.frT g ((He.asD g n).filter (notL g))
structure SaysP (fa : List He.Fa) (fn : List He.DefD) (tf : List He.Defn) (h : Heap) (K : PySem.W.Frag) : Prop where
  d : He.SaysD fa fn K
  nl : noL K = true
  hd : ∀ p ∈ tf, PySem.W.codeHdIn K (He.cT K p).1 (He.cT K p).2 = true
  out : ∀ p ∈ tf, K.lookup (He.cT K p).2 = none
  empty : ∀ p ∈ tf, h.get? (He.cT K p).2 = some { cls := .none, data := .fields #[] }
  nd : (tf.map fun p => (He.cT K p).2).Nodup
def obsP (n : Nat) (fa : List He.Fa) (fn : List He.DefD) (tf : List He.Defn) (g : Addr → Option Obj) : He.AlD × Bool := (He.obsD fa fn (fragT n g), noL (fragT n g) && (He.tabsB g tf (fragT n g) && decide ((tf.map fun p => (He.cT (fragT n g) p).2).Nodup)))
theorem saysP_of {n : Nat} {fa : List He.Fa} {fn : List He.DefD} {tf : List He.Defn} {h : Heap} (e : obsP n fa fn tf h.get? = (He.valD fn, true)) : SaysP fa fn tf h (fragT n h.get?) := by
  have e1 : He.obsD fa fn (fragT n h.get?) = He.valD fn := congrArg Prod.fst e
  have e2 : (noL (fragT n h.get?) && (He.tabsB h.get? tf (fragT n h.get?) && decide ((tf.map fun p => (He.cT (fragT n h.get?) p).2).Nodup))) = true := congrArg Prod.snd e
  simp only [Bool.and_eq_true, decide_eq_true_eq] at e2
  obtain ⟨h1, h2, h3⟩ := e2
  have key : ∀ p ∈ tf, PySem.W.codeHdIn (fragT n h.get?) (He.cT (fragT n h.get?) p).1 (He.cT (fragT n h.get?) p).2 = true ∧ ∃ o, h.get? (He.cT (fragT n h.get?) p).2 = some o ∧ He.emptyTab o = true := fun p hp => by
    have q := List.all_eq_true.mp h2 p hp
    rw [Bool.and_eq_true] at q
    refine ⟨q.1, ?_⟩
    cases z : h.get? (He.cT (fragT n h.get?) p).2 with
    | none => have := q.2; rw [z] at this; cases this
    | some o => have := q.2; rw [z] at this; exact ⟨o, rfl, this⟩
  refine ⟨e1, h1, fun p hp => (key p hp).1, fun p hp => ?_, fun p hp => ?_, h3⟩
  · obtain ⟨_, o, q, z⟩ := key p hp
    exact He.frT_none q z
  · obtain ⟨_, o, q, z⟩ := key p hp
    rw [q, He.emptyTab_eq z]
def hookP (n : Nat) (fa : List He.Fa) (fn : List He.DefD) (tf : List He.Defn) : PySem.W.Hook where
  α := He.AlD × Bool
  obs := fun s => obsP n fa fn tf s.heap.get?
  val := fun _ => (He.valD fn, true)
  says := fun _ h => ∃ K : PySem.W.Frag, K.In h ∧ SaysP fa fn tf h K
  of := fun _ _ e => ⟨_, He.frT_in, saysP_of e⟩
  keeps := fun _ _ _ ⟨K, hK, c⟩ k => ⟨K, PySem.W.Frag.In.keeps hK k, ⟨c.d, c.nl, c.hd, c.out, fun p hp => k _ _ (c.empty p hp), c.nd⟩⟩
theorem obsP_eq {n : Nat} {fa : List He.Fa} {fn : List He.DefD} {tf : List He.Defn} {g : Addr → Option Obj} {s : Shared} (h : ∀ a, g a = s.heap.get? a) : obsP n fa fn tf g = (hookP n fa fn tf).obs s := by
  have e : g = s.heap.get? := funext h
  rw [e] <;> rfl
def tabsT (K : PySem.W.Frag) (tf : List He.Defn) : List (Addr × Str) := tf.map fun p => ((He.cT K p).2, p.1 ++ ".<locals>." ++ "<lambda>")
def gcT (P : Program) (w : World) (K : PySem.W.Frag) (mg : Str → Option Value) (base : Heap) (tf : List He.Defn) (clo : Addr → Option (Res PV) := fun _ => none) : Gc := ⟨P, w, K, mg, base, tabsT K tf, clsOf mg, clo⟩
section
variable {P : Program} {w : World} {K : PySem.W.Frag} {mg : Str → Option Value} {base h : Heap} {tf : List He.Defn} {clo : Addr → Option (Res PV)}
theorem exOkT_of (X : K.In h) (N : h.Ns mainGlobals mg) {x : Str} (g : (He.Fa.glo x).ok K = true) (c : (He.Fa.exc x).ok K = true) : ExOk (gcT P w K mg base tf clo) x := ⟨(exOk_of (P := P) (w := w) (base := base) X N g c).ex⟩
theorem cstIT_of (X : K.In h) (N : h.Ns mainGlobals mg) {x : Str} {i : Int} (c : (He.Fa.int x i).ok K = true) : Cst (gcT P w K mg base tf clo) x (.int i) := ⟨(cstI_of (P := P) (w := w) (base := base) X N c).ex⟩
theorem cstST_of (X : K.In h) (N : h.Ns mainGlobals mg) {x z : Str} (c : (He.Fa.str x z).ok K = true) (hz : PyData.strOk z = true) : Cst (gcT P w K mg base tf clo) x (.str z) := ⟨(cstS_of (P := P) (w := w) (base := base) X N c hz).ex⟩
theorem code_of {x q : Str} {pa : Arguments} {bo : List Stmt} {sc : Scope} {dv : List V} {kw : List (Str × V)} {p : He.Defn} {fd : FuncData} (F : FunD K x q pa bo sc dv kw (He.fAd K p) fd) : fd.code = .ref (He.cT K p).1 := by
  obtain ⟨oc, od, dV, kV, doc, pm, an, cdv, ct, osl, rfl, lk, hcd, _, _⟩ := F.ex
  obtain ⟨c, rfl⟩ := He.codeIn_ref hcd
  have e := He.codeOf_eq (c := c) lk rfl
  show Value.ref c = .ref (He.codeOf K p)
  rw [e]
theorem lamT_of (nd : (tf.map fun p => (He.cT K p).2).Nodup) (tb : ∀ p ∈ tf.map (He.cT K), TabB base mg p.1 p.2) {p : He.Defn} (hp : p ∈ tf) : LamT (gcT P w K mg base tf clo) (He.cT K p).1 (He.cT K p).2 (p.1 ++ ".<locals>.") where
  tb := tb _ (List.mem_map.mpr ⟨p, hp, rfl⟩)
  mem := List.mem_map.mpr ⟨p, hp, rfl⟩
  one := fun q hq e => by
    obtain ⟨p', hp', rfl⟩ := List.mem_map.mp hq
    have e : (He.cT K p').2 = (He.cT K p).2 := e
    have : p' = p := by
      clear hq tb
      induction tf with
      | nil => cases hp
      | cons r l ih =>
        simp only [List.map_cons, List.nodup_cons, List.mem_map, not_exists, not_and] at nd
        rcases List.mem_cons.mp hp with h1 | h1 <;> rcases List.mem_cons.mp hp' with h2 | h2
        · rw [h1, h2]
        · subst h1; exact absurd e (nd.1 p' h2)
        · subst h2; exact absurd e.symm (nd.1 p h1)
        · exact ih nd.2 h1 h2
    rw [this]
theorem exmAny4 {cls c1 c2 c3 c4 : Value} {b1 b2 b3 b4 : Bool} (h1 : PySem.W.exmOne K cls c1 = some b1) (h2 : PySem.W.exmOne K cls c2 = some b2) (h3 : PySem.W.exmOne K cls c3 = some b3) (h4 : PySem.W.exmOne K cls c4 = some b4) (h : (b1 || (b2 || (b3 || b4))) = true) : PySem.W.exmAny K cls [c1, c2, c3, c4] = some true := by
  simp only [PySem.W.exmAny, h1, h2, h3, h4, Bool.or_false, h]
def exms (xs : List Str) : List He.Fa := xs.flatMap fun x => xs.map fun y => .exm x y (x == y)
theorem let4_of (X : K.In h) (N : h.Ns mainGlobals mg) {x1 x2 x3 x4 : Str} (g1 : (He.Fa.glo x1).ok K = true) (g2 : (He.Fa.glo x2).ok K = true) (g3 : (He.Fa.glo x3).ok K = true) (g4 : (He.Fa.glo x4).ok K = true) (c : ∀ f ∈ exms [x1, x2, x3, x4], f.ok K = true) : Let4 (gcT P w K mg base tf clo) x1 x2 x3 x4 := by
  have cl : ∀ {x : Str}, (He.Fa.glo x).ok K = true → clsOf mg x = some (He.ga K x) ∧ mg x = some (.ref (He.ga K x)) := fun {x} g => by
    have e := He.glo_ok X N g
    exact ⟨by unfold clsOf; rw [e], e⟩
  have ex : ∀ {x y : Str}, x ∈ [x1, x2, x3, x4] → y ∈ [x1, x2, x3, x4] → PySem.W.exmOne K (.ref (He.ga K x)) (.ref (He.ga K y)) = some (x == y) := fun {x y} hx hy => of_decide_eq_true (c (.exm x y (x == y)) (List.mem_flatMap.mpr ⟨x, hx, List.mem_map.mpr ⟨y, hy, rfl⟩⟩))
  refine ⟨_, _, _, _, cl g1, cl g2, cl g3, cl g4, fun C hC => ?_⟩
  have m1 : x1 ∈ [x1, x2, x3, x4] := by simp
  have m2 : x2 ∈ [x1, x2, x3, x4] := by simp
  have m3 : x3 ∈ [x1, x2, x3, x4] := by simp
  have m4 : x4 ∈ [x1, x2, x3, x4] := by simp
  simp only [List.mem_cons, List.not_mem_nil, or_false] at hC
  rcases hC with rfl | rfl | rfl | rfl
  · exact exmAny4 (ex m1 m1) (ex m1 m2) (ex m1 m3) (ex m1 m4) (by simp)
  · exact exmAny4 (ex m2 m1) (ex m2 m2) (ex m2 m3) (ex m2 m4) (by simp)
  · exact exmAny4 (ex m3 m1) (ex m3 m2) (ex m3 m3) (ex m3 m4) (by simp)
  · exact exmAny4 (ex m4 m1) (ex m4 m2) (ex m4 m3) (ex m4 m4) (by simp)
theorem rpl_ints {S : Hp} : ∀ ns : List Int, RpL S (ns.map V.int) (ns.map PV.int)
  | [] => .nil
  | n :: ns => .cons (.int n) (rpl_ints ns)
/-- the script, of either kind -/
theorem sp_scriptT (nl : noL K = true) {m : List PV → Res PV} {H : Hp} {a : Addr} {ns : List Int} (hz : ns.length ≤ 63) (hT : ∀ p ∈ tf.map (He.cT K), H p.2 = some (.tbl #[])) (hS : SqL K H a (ns.map V.int)) (hm : m [.scr ns] = .ok (.bl true)) (hm2 : m [.lst (ns.map .int)] = .ok (.bl true)) :
    spP (gcT P w K mg base tf clo) 1 m [.ref a] H (fun v _ => v = .bl true) fun _ _ _ => False := by
  have tabs : Tabs (gcT P w K mg base tf clo).T H := fun p hp => by
    obtain ⟨q, hq, rfl⟩ := List.mem_map.mp hp
    exact TabS.nil (hT _ (List.mem_map.mpr ⟨q, hq, rfl⟩))
  have le : ∀ o : HO, (Hold H a o) → SzOk o → Le (gcT P w K mg base tf clo).T (fun b => if b = a then some o else none) H := fun o h1 h2 => by
    refine ⟨fun b u e => ?_, tabs, fun b u e => ?_⟩
    · by_cases hb : b = a
      · have e := (if_pos hb).symm.trans e
        cases e
        subst hb
        exact h1
      · have e := (if_neg hb).symm.trans e
        cases e
    · by_cases hb : b = a
      · have e := (if_pos hb).symm.trans e
        cases e
        exact h2
      · have e := (if_neg hb).symm.trans e
        cases e
  have sz : SzOk (.lst (ns.map V.int)) := by
    show (ns.map V.int).length ≤ sizeLine
    rw [szl, List.length_map]; omega
  rcases hS with (z | ⟨ob, z⟩) | ⟨o, its, n, e, hc, _⟩
  · exact ⟨rfl, _, [.lst (ns.map .int)], le (.lst (ns.map V.int)) z sz, .cons (.lst (if_pos rfl) (rpl_ints ns)) .nil, by rw [hm2]; intro v H' S' _ _ _ r; cases r; rfl⟩
  · exact ⟨rfl, _, [.scr ns], le (.frz ob (.lst (ns.map V.int))) z trivial, .cons (.scr (ob := ob) (if_pos rfl)) .nil, by rw [hm]; intro v H' S' _ _ _ r; cases r; rfl⟩
  · have := noL_at nl e
    unfold isL at this
    rw [hc] at this
    exact absurd this (by decide)
end
end Pv
end
section
set_option Elab.async false
set_option linter.all false
set_option maxRecDepth 100000
set_option maxHeartbeats 2000000
namespace Pv
open PySem PySem.Spec PyProof.Rows L2
variable {G : Gc} {B : Bx}
/-! ### l.index(x) -/
def isLst : PV → Bool
  | .lst _ => true
  | _ => false
def opIdx : PV → PV → Res PV
  | .lst xs, q => if (flatOk q && flatOk (.lst xs)) = true then (match (toDs xs).findIdx? (fun z => PyData.eqv z (toD q)) with | some j => .ok (.int (j : Nat)) | none => .bad) else .bad
  | _, _ => .bad
def eIdx (fa fb : Rho → Res PV) : Rho → Res PV := fun ρ => (fa ρ).bind fun p => if isLst p = true then (fb ρ).bind fun q => opIdx p q else .bad
theorem JE.index {o e : Expr} {f g : Rho → Res PV} {apos cpos : Pos} (ho : JE G B o f) (hg : JE G B e g) (hb : ∀ env, attributeBase o "index" env (eval o env) = eval o env := by exact fun _ => rfl) (hline : (apos.endLine == cpos.line) = true := by rfl) (hs : NoStar e := by exact fun _ _ => rfl) :
    JE G B (.Call (.Attribute o "index" apos) [e] [] cpos) (eIdx f g) := ⟨fun X W ok tk => by
  have ht : starEach [e] X.env = [(false, eval e X.env)] := by rw [hs]; rfl
  refine PE.imp (pe_bm PySem.F.plainAttrs_list PySem.F.slot_list_index PySem.F.type_list_index (mt_indexD ok.units) (ho.run X W ok tk) (pa_cons (hg.run X W ok tk) pa_nil (hs _ _)) (hb _) (by rw [ht]; rfl) hline (hs _ _) rfl) fun σ H Q ⟨S, ρ, hl, hr, he⟩ => ?_
  refine ⟨S, ρ, hl, hr, EndE.then he fun p v H1 S1 e1 l1 g1 r1 he => ?_⟩
  split at he
  · rename_i hp
    cases r1 <;> first | (cases hp; done) | skip
    rename_i a vs ps ea qa
    refine ⟨tyV_lst (l1 _ _ ea), S1, ρ, l1, hr.mono g1.sub, EndE.then he fun q w H2 S2 e2 l2 g2 r2 he => ?_⟩
    have ra : Rp S2 (.ref a) (.lst ps) := (Rp.lst ea qa).mono g2.sub
    have he : EndE G W S2 H2 σ Q (if (flatOk q && flatOk (.lst ps)) = true then (match (toDs ps).findIdx? (fun z => PyData.eqv z (toD q)) with | some j => .ok (.int (j : Nat)) | none => .bad) else .bad) := he
    split at he
    · rename_i z
      simp only [Bool.and_eq_true] at z
      split at he
      · rename_i j hj
        obtain ⟨hlt, h1, h2⟩ := List.findIdx?_eq_some_iff_getElem.mp hj
        refine ⟨a, w, toD q, toDs ps, j, (toDs ps)[j], rfl, rfl, Rp.dp l2 _ _ (flatOk_hasD z.2) ra, Rp.dp l2 _ _ (flatOk_hasD z.1) r2, ra.shaped z.2, r2.shaped z.1, List.getElem?_eq_getElem hlt, h1, fun m z' hm hz' => ?_, he.here l2 (.int _)⟩
        obtain ⟨hm', rfl⟩ := List.getElem?_eq_some_iff.mp hz'
        simpa using h2 m hm
      · exact he.elim
    · exact he.elim
  · exact he.elim⟩
/-! ### x[i] = e of an owned list -/
def sPutL (z : List Nat) (vis vik : Bool) (fv fk : Rho → Res PV) (i : Nat) : Om → SR := fun ω => match (frz ω z)[i]? with
  | some (some (.l xs)) => SR.of (ev z vis fv ω) fun p => SR.of (ev [] vik fk (frz ω z)) fun q => match q with
    | .int j => (match ixN xs.length j with | some n => .nx ((frz ω z).set i (some (.l (xs.set n p)))) | none => .bad)
    | _ => .bad
  | _ => .bad
theorem RpL.set {S : Hp} {v : V} {p : PV} (r : Rp S v p) : ∀ {vs : List V} {ps : List PV} (n : Nat), RpL S vs ps → RpL S (vs.set n v) (ps.set n p)
  | _, _, _, .nil => .nil
  | _, _, 0, .cons _ t => .cons r t
  | _, _, n + 1, .cons a t => .cons a (RpL.set r n t)
theorem JS.putL {x : Str} {i : Nat} {ek e : Expr} {fv fk : Rho → Res PV} {px pos' pos : Pos} (z : List Nat) (vis vik : Bool) (hN : B.N[i]? = some x) (hv : Vis B.sc x) (hk : JE G B ek fk) (h : JE G B e fv)
    (ha : ∀ env v, assign (.Subscript (.Name x px) ek pos') env v = (do
      let ov ← holding [v] (eval (.Name x px) env)
      let iv ← holding [v, ov] (eval ek env)
      standAt pos'
      holding [v, ov, iv] (setItem ov iv v)
      release [v, ov, iv] []) := by intro _ _; rfl)
    (hs : ∀ env, swapsWithSole [.Subscript (.Name x px) ek pos'] e pos.line env = pure false := by exact fun _ => rfl) (hw : ∀ env, swappedStores [.Subscript (.Name x px) ek pos'] e env = pure none := by exact fun _ => rfl) (h1 : ∀ env, (assignEach [.Subscript (.Name x px) ek pos'] env).map (·.2) = [assign (.Subscript (.Name x px) ek pos') env] := by exact fun _ => rfl)
    (hd : (x == ("__debug__" : Str)) = false := by decide) (hcd : (x == ("__classdict__" : Str)) = false := by decide) :
    JS G B (.Assign [.Subscript (.Name x px) ek pos'] e pos) (sPutL z vis vik fv fk i) := ⟨fun X W ok cs tk => by
  refine PS.imp (ps_asg (h.run X W ok tk) (pg_sub (pe_var (i := i) (by rw [ok.N]; exact hN) (by rw [ok.sc]; exact hv) hd hcd) (hk.run X W ok tk) set_list (ha _)) (hs _) (hw _) (h1 _)) fun D σ H ⟨H0, S0, S, ω, k, he⟩ => ?_
  unfold sPutL at he
  split at he
  · rename_i xs hx
    refine ev_run (z := z) (vis := vis) k ?_
    cases e1 : ev z vis fv ω with
    | exc c => rw [e1] at he; exact fun C H' hC e => he C σ H' hC e
    | bad => rw [e1] at he; exact he
    | ok p =>
      rw [e1] at he
      intro v H1 S1 k1 r1
      simp only [SR.of] at he
      obtain ⟨a, q1, q2, q3, vs, q4, q5, q6⟩ := k1.own i _ hx rfl
      refine ⟨.ref a, q1, ev_run (z := []) (vis := vik) k1.base ?_⟩
      show EndV G W H0 S1 σ (frz ω z) _ (ev [] vik fk (frz ω z))
      cases e2 : ev [] vik fk (frz ω z) with
      | exc c => rw [e2] at he; exact fun C H' hC e => he C σ H' hC e
      | bad => rw [e2] at he; exact he
      | ok q =>
        rw [e2] at he
        intro w H2 S2 k2 r2
        simp only at he
        split at he
        · rename_i j
          split at he
          · rename_i n hn
            obtain ⟨a', p1, p2, p3, vs', p4, p5, p6⟩ := k2.own i _ hx rfl
            rw [q1] at p1; cases p1
            cases r2
            have hl : vs'.length = xs.length := p6.length
            refine ⟨a, vs', j, n, rfl, rfl, p4, by rw [hl]; exact hn, he σ _ S2 ((k2.unbase k1.grow).alter hx rfl rfl q1 ⟨_, upd_same, by rw [List.length_set]; exact p5, (r1.mono k2.grow.sub) |> fun r => p6.set r n⟩)⟩
          · exact he.elim
        · exact he.elim
  · exact he.elim⟩
/-! ### [..] * n, as a new list -/
def opMulL : PV → PV → Res PV
  | .lst xs, .int k => if 0 ≤ k ∧ k ≤ 1000 ∧ xs.length ≤ 1000 then .ok (.lst (List.replicate k.toNat xs).flatten) else .bad
  | _, _ => .bad
theorem opf_rep {W : WX} {S H : Hp} {σ : L2.St} {Q : VK} {v w : V} {p q : PV} (hl : Le G.T S H) (r1 : Rp S v p) (r2 : Rp S w q) (he : EndF G W S H σ Q (opMulL p q)) : rRep v w H Q := by
  unfold opMulL at he
  split at he
  · rename_i xs k
    split at he
    · rename_i z
      obtain ⟨z1, z2, z3⟩ := z
      cases r2
      cases r1 with | lst ea qa =>
      have a1 : k.toNat * xs.length ≤ 1000 * 1000 := Nat.mul_le_mul (by omega) z3
      have a2 : xs.length * k.toNat ≤ 1000 * 1000 := Nat.mul_le_mul z3 (by omega)
      exact ⟨_, _, _, rfl, rfl, hl _ _ ea, by omega, by omega, by rw [szl, qa.length]; omega, fun a na => he.lst hl (qa.flat _) (by rw [flat_len, szl, qa.length]; omega) na⟩
    · exact he.elim
  · exact he.elim
theorem JF.mulL {a b : Expr} {fa fb : Rho → Res PV} {pos : Pos} (ha : JE G B a fa) (hb : JE G B b fb) : JF G B (.BinOp a .Mult b pos) (eBin opMulL fa fb) := ⟨fun X W ok tk => by
  refine PE.imp (pe_op op_rep (ha.run X W ok tk) (hb.run X W ok tk)) fun σ H Q ⟨S, ρ, hl, hs, he⟩ => ?_
  refine ⟨S, ρ, hl, hs, EndF.then he fun p v H1 S1 e1 l1 g1 r1 he => ?_⟩
  exact ⟨S1, ρ, l1, hs.mono g1.sub, EndF.then he fun q w H2 S2 e2 l2 g2 r2 he => opf_rep l2 (r1.mono g2.sub) r2 he⟩⟩
/-! ### x, y = a new one, a value -/
def sParM (f g : Rho → Res PV) (i j : Nat) : Om → SR := fun ω => SR.of (evF [] false f ω) fun sv => SR.of (g (hid ω)) fun q => .nx ((ω.set i (some sv)).set j (some (.v q)))
theorem JS.parM [hcm : Cool B] {x y : Str} {i j : Nat} {a b : Expr} {f g : Rho → Res PV} {px py pt pt2 pos : Pos} {kt k2 : Nat} (hp : ParOk B x y i j) (ha : JF G B a f) (hb : JE G B b g)
    (hw : ∀ env : Env, env.scope = B.sc → swappedStores [.Tuple [.Name x px, .Name y py] kt pt] (.Tuple [a, b] k2 pt2) env = pure (some [x, y])) (hs1 : NoStar a := by exact fun _ _ => rfl) (hs2 : NoStar b := by exact fun _ _ => rfl) :
    JS G B (.Assign [.Tuple [.Name x px, .Name y py] kt pt] (.Tuple [a, b] k2 pt2) pos) (sParM f g i j) := ⟨fun X W ok cs tk => by
  refine PS.imp (ps_par (ok.calm hcm.out) (by rw [ok.N]; exact ok.nd) (by rw [ok.N]; exact hp.Nx) (by rw [ok.N]; exact hp.Ny) hp.ne (by rw [ok.sc]; exact hp.lx) (by rw [ok.sc]; exact hp.ly) (pa_cons (ha.run X W ok tk) (pa_cons (hb.run X W ok tk) pa_nil (hs2 _ _)) (hs1 _ _)) (hw _ ok.sc) rfl) fun D σ H ⟨H0, S0, S, ω, k, he⟩ => ?_
  refine evF_run (z := []) (vis := false) k ?_
  unfold sParM at he
  cases e1 : evF [] false f ω with
  | exc c => rw [e1] at he; exact fun C H' hC e => he C σ H' hC e
  | bad => rw [e1] at he; exact he
  | ok sv =>
    rw [e1] at he
    intro a H1 S1 k1 n1 n2 hh nw
    simp only [SR.of] at he
    have k1 : StOk G H0 S0 S1 H1 σ ω := k1
    refine ⟨S1, hid ω, k1.le, k1.hid, ?_⟩
    cases e2 : g (hid ω) with
    | exc c => rw [e2] at he; exact fun C H' hC e => he C σ H' hC (k1.ext.trans e)
    | bad => rw [e2] at he; exact he
    | ok q =>
      rw [e2] at he
      intro w H2 S2 x2 l2 g2 r2
      obtain ⟨o, ho, hno⟩ := hh.some
      have n3 : S2 a = none := by
        cases q : S2 a with
        | none => rfl
        | some u =>
          rcases g2.new a u q with z | z
          · rw [n1] at z; cases z
          · rw [ho] at z; cases z
      have h2 : H2 a = H1 a := by rw [ho]; exact x2.st a o ho hno
      exact ⟨.ref a, w, rfl, he _ H2 S2 (((k1.step x2 l2 g2).setO n3 n2 (hh.mono g2.sub h2) nw i).setV r2 j)⟩⟩
/-! ### defs that hand over a new list -/
def EndSF (G : Gc) (W : WX) (H0 S0 : Hp) (D : Ends) : SR → Prop
  | .rt p => ∀ σ, EndF G (fun cls d _ H' => False) S0 H0 σ D.rt (.ok p)
  | .exc c => ∀ C σ' H', G.cls c = some C → Ext G.T H0 H' → W (.ref C) none σ' H'
  | _ => False
def tSF (G : Gc) (W : WX) (g : Om → SR) : TS := fun D σ H => ∃ H0 S0 S ω, StOk G H0 S0 S H σ ω ∧ EndSF G W H0 S0 D (g ω)
structure JSF (G : Gc) (B : Bx) (st : List Stmt) (g : Om → SR) : Prop where
  run : ∀ (X : Cx) (W : WX), CxOk G B X → CxS X → L2N.Takes X W → PSs X st (tSF G W g)
def sSeqF (a b : Om → SR) : Om → SR := fun ω => match a ω with
  | .nx ω' => b ω'
  | .exc c => .exc c
  | _ => .bad
theorem JSF.cons {st : Stmt} {sts : List Stmt} {a b : Om → SR} (h : JS G B st a) (t : JSF G B sts b) : JSF G B (st :: sts) (sSeqF a b) := ⟨fun X W ok cs tk => PSs.imp (pss_cons (h.run X W ok cs tk) (t.run X W ok cs tk)) fun D σ H ⟨H0, S0, S, ω, k, he⟩ => by
  refine ⟨H0, S0, S, ω, k, ?_⟩
  unfold sSeqF at he
  cases e : a ω with
  | nx ω' => rw [e] at he; exact fun σ' H' S' k' => ⟨H0, S0, S', ω', k', he⟩
  | exc c => rw [e] at he; exact he
  | rt p => rw [e] at he; exact he.elim
  | bk p => rw [e] at he; exact he.elim
  | ct p => rw [e] at he; exact he.elim
  | bad => rw [e] at he; exact he.elim⟩
/-- return x, an owned list -/
def sRetO (i : Nat) : Om → SR := fun ω => match ω[i]? with
  | some (some (.l xs)) => .rt (.lst xs)
  | _ => .bad
theorem JSF.retO {x : Str} {i : Nat} {p pos : Pos} (hN : B.N[i]? = some x) (hv : Vis B.sc x) (hd : (x == ("__debug__" : Str)) = false := by decide) (hcd : (x == ("__classdict__" : Str)) = false := by decide) : JSF G B [.Return (some (.Name x p)) pos] (sRetO i) := ⟨fun X W ok cs tk => PSs.imp (pss_one (ps_ret (pe_var (i := i) (by rw [ok.N]; exact hN) (by rw [ok.sc]; exact hv) hd hcd))) fun D σ H ⟨H0, S0, S, ω, k, he⟩ => by
  unfold sRetO at he
  split at he
  · rename_i xs hx
    obtain ⟨a, q1, q2, q3, vs, q4, q5, q6⟩ := k.own i _ hx rfl
    exact ⟨.ref a, q1, he [] a vs H S k.ext k.le k.grow q2 q3 q4 q6 q5⟩
  · exact he.elim⟩
/-- return of a new list -/
def sRetF (f : Rho → Res PV) : Om → SR := fun ω => match f (hid ω) with
  | .ok (.lst xs) => .rt (.lst xs)
  | .exc c => .exc c
  | _ => .bad
theorem JSF.ret {e : Expr} {f : Rho → Res PV} {pos : Pos} (h : JF G B e f) : JSF G B [.Return (some e) pos] (sRetF f) := ⟨fun X W ok cs tk => PSs.imp (pss_one (ps_ret (h.run X W ok tk))) fun D σ H ⟨H0, S0, S, ω, k, he⟩ => by
  refine ⟨S, hid ω, k.le, k.hid, ?_⟩
  unfold sRetF at he
  split at he
  · rename_i xs hx
    rw [hx]
    intro a vs H' S' x1 l1 g1 n1 n2 ha r z
    exact he [] a vs H' S' (k.ext.trans x1) l1 (k.grow.trans k.ext g1) n1 (k.ext.no a n2) ha r z
  · rename_i c hx
    rw [hx]
    exact fun C H' hC x1 => he C σ H' hC (k.ext.trans x1)
  · exact he.elim⟩
theorem okSF {x : Str} {st : Stmt} {args : Arguments} {body : List Stmt} {dec : List Expr} {ret : Option Expr} {tp : List TypeParam} {sc : Scope} {ts : Option Scope} {b : Str} {pos : Pos} {N ps : List Str} {k : Nat} {g : Om → SR} {f : Addr} {fd : FuncData} (F : FunD G.K x x (defArgs st) (defBody st) (defScope st) [] [] f fd) (hst : st = .FunctionDef x args body dec ret tp sc ts b pos)
    (S : FnScope N ps sc) (h : JSF G ⟨N, sc, fun _ => true, k, none, false, none⟩ body g) : FnOk G.P G.w G.K G.mg G.base (L2N.CX G.P G.w) (k + 1) f fd ps (spF G ps.length (mFn N.length g)) := by
  subst hst
  have F : FunD G.K x x args body sc [] [] f fd := F
  refine F.ok S (fun vs H Q E hsp => hsp.1) fun cdv A outer s H vs Q E hr hsp => ⟨_, h.run _ (fun cls d _ H' => E cls d H') ?_ ?_ ?_, ?_⟩
  · exact ⟨rfl, rfl, rfl, rfl, rfl, rfl, S.nd, rfl, fun _ _ => rfl, fun _ => ⟨rfl, hr.hd⟩, L2H.roomH_of hr, fun _ _ z => (nomatch z), fun _ _ z => (nomatch z)⟩
  · exact ⟨passes_of rfl⟩
  · exact L2N.takes_of rfl rfl rfl rfl
  · obtain ⟨hlen, S1, qs, hl, rq, he⟩ := hsp
    have el : N.length - vs.length = N.length - qs.length := by rw [rq.length]
    unfold L2.start
    rw [el]
    refine ⟨H, S1, S1, _, StOk.start hl rq _, ?_⟩
    unfold mFn at he
    cases e : g (qs.map (fun p => some (.v p)) ++ List.replicate (N.length - qs.length) none) with
    | nx ω => rw [e] at he; exact he.elim
    | rt p =>
      rw [e] at he
      intro σ
      have he : EndF G (WofE E) S1 H [] Q (.ok p) := he
      cases p <;> first | exact he.elim | exact he
    | exc c => rw [e] at he; exact fun C σ' H' hC ex => he C H' hC ex
    | bk ω => rw [e] at he; exact he.elim
    | ct ω => rw [e] at he; exact he.elim
    | bad => rw [e] at he; exact he.elim
theorem FnF.ofS {x : Str} {st : Stmt} {args : Arguments} {body : List Stmt} {dec : List Expr} {ret : Option Expr} {tp : List TypeParam} {sc : Scope} {ts : Option Scope} {b : Str} {pos : Pos} {N ps : List Str} {k : Nat} {g : Om → SR} (d : FunT G x st) (hst : st = .FunctionDef x args body dec ret tp sc ts b pos)
    (S : FnScope N ps sc) (hb : ∀ (kV doc pm : Value) (an : Option Addr) (cdv ct : Value) (us : List Value), us.length = ps.length → bindArgs (PySem.W.fnOf x x args body sc .none kV doc pm an cdv ct) ⟨us, []⟩ = pure (ps.zip us)) (h : JSF G ⟨N, sc, fun _ => true, k, none, false, none⟩ body g) : FnF G (k + 1) x ps.length (mFn N.length g) := by
  subst hst
  obtain ⟨f, fd, F, hm⟩ := d.ex
  exact ⟨f, fd, ps, rfl, okSF F rfl S h, hm, F.kp, FunD.bindsN (show FunD G.K x x args body sc [] [] f fd from F) hb⟩
/-- calls of such -/
def eCallF (m : List PV → Res PV) (fa : Rho → Res (List PV)) : Rho → Res PV := fun ρ => (fa ρ).bind fun ps => match m ps with
  | .ok (.lst xs) => .ok (.lst xs)
  | .exc c => .exc c
  | _ => .bad
theorem fresh_callF {m : List PV → Res PV} {fa : Rho → Res (List PV)} (ρ : Rho) : fresh (eCallF m fa ρ) := fresh_bindA fun ps => by
  split <;> trivial
theorem JF.callF [hcm : Cool B] {x : Str} {k : Nat} {n : Nat} {m : List PV → Res PV} {e : Expr} {es : List Expr} {fa : Rho → Res (List PV)} {p pos : Pos} (F : FnF G k x n m) (hk : k ≤ B.k) (hn : (e :: es).length = n) (hg : Gb B x) (ha : JA G B (e :: es) fa)
    (hdb : (x == ("__debug__" : Str)) = false := by decide) (hs : NoStar e := by exact fun _ _ => rfl) (hns : ∀ env pos, (backTo pos (starEach es env)).any (·.1) = false := by exact fun _ _ => rfl) : JF G B (.Call (.Name x p) (e :: es) [] pos) (eCallF m fa) :=
  ⟨fun X W ok tk => PE.imp ((JF.call F hk hn hg ha hdb hs hns).run X W ok tk) fun σ H Q ⟨S, ρ, hl, hr, he⟩ => ⟨S, ρ, hl, hr, by
    unfold eCallF at he
    unfold eCall
    cases e1 : fa ρ with
    | ok ps =>
      rw [e1] at he
      have he : EndF G W S H σ Q (match m ps with | .ok (.lst xs) => .ok (.lst xs) | .exc c => .exc c | _ => .bad) := he
      show EndF G W S H σ Q (m ps)
      split at he
      · rename_i e; rw [e]; exact he
      · rename_i e; rw [e]; exact he
      · exact he.elim
    | exc c => rw [e1] at he; exact he
    | bad => rw [e1] at he; exact he⟩⟩
theorem JE.callF [hcm : Cool B] {x : Str} {k : Nat} {n : Nat} {m : List PV → Res PV} {e : Expr} {es : List Expr} {fa : Rho → Res (List PV)} {p pos : Pos} (F : FnF G k x n m) (hk : k ≤ B.k) (hn : (e :: es).length = n) (hg : Gb B x) (ha : JA G B (e :: es) fa)
    (hdb : (x == ("__debug__" : Str)) = false := by decide) (hs : NoStar e := by exact fun _ _ => rfl) (hns : ∀ env pos, (backTo pos (starEach es env)).any (·.1) = false := by exact fun _ _ => rfl) : JE G B (.Call (.Name x p) (e :: es) [] pos) (eCallF m fa) := (JF.callF F hk hn hg ha hdb hs hns).je fresh_callF
/-- e.append(None) of a new list, dropped -/
def sAppN (f : Rho → Res PV) : Om → SR := fun ω => SR.of (f (hid ω)) fun p => match p with
  | .lst xs => if xs.length < 16777216 then .nx ω else .bad
  | _ => .bad
theorem JS.appN {e : Expr} {f : Rho → Res PV} {j : Nat} {apos cpos cp pos : Pos} (h : JF G B e f) (hb : ∀ env, attributeBase e "append" env (eval e env) = eval e env := by exact fun _ => rfl) (hline : (apos.endLine == cpos.line) = true := by rfl)
    (hsw : ∀ env, swapsWith (.Call (.Attribute e "append" apos) [.Constant .none j cp] [] cpos) none pos.line env = pure false := by exact fun _ => rfl) :
    JS G B (.Expr (.Call (.Attribute e "append" apos) [.Constant .none j cp] [] cpos) pos) (sAppN f) := ⟨fun X W ok cs tk => by
  refine PS.imp (ps_expr (pe_bm PySem.F.plainAttrs_list PySem.F.slot_list_append PySem.F.type_list_append mt_append (h.run X W ok tk) (pa_cons pe_non pa_nil rfl) (hb _) rfl hline rfl rfl) (hsw _)) fun D σ H ⟨H0, S0, S, ω, k, he⟩ => ?_
  unfold sAppN at he
  refine ⟨S, hid ω, k.le, k.hid, ?_⟩
  cases e1 : f (hid ω) with
  | exc c => rw [e1] at he; exact fun C H' hC x => he C σ H' hC (k.ext.trans x)
  | bad => rw [e1] at he; exact he.elim
  | ok p =>
    rw [e1] at he
    simp only [SR.of] at he
    split at he
    · rename_i xs
      split at he
      · rename_i hz
        intro a vs H' S' x1 l1 g1 n1 n2 ha r z
        refine ⟨tyV_lst ha, ?_⟩
        have hl : vs.length = xs.length := r.length
        refine ⟨a, vs, .non, rfl, rfl, ha, by rw [szl, hl]; exact hz, ?_⟩
        exact he σ _ S' (k.step (x1.other n2 ha) (l1.other n1 ha) g1)
      · exact he.elim
    · exact he.elim⟩
end Pv
end
section
set_option Elab.async false
set_option linter.all false
set_option maxRecDepth 100000
set_option maxHeartbeats 2000000
namespace Pv
open PySem PySem.Spec PyProof.Rows L2 L2H HotX
/-! ### while an exception is handled: a list is walked to its end, summed; a comprehension over a list -/
section
variable {prog : Program} {w : World} {A : Around} {E : Value → Shared → Prop} {s : Shared}
theorem next_end_hot {it l x1 : Addr} {i : Nat} {its : Array Value} {Q : Option Value → Shared → Prop} (hot : HotAt A x1 s.heap) (hne : x1 ≠ it) (hit : s.heap.IsListIter it l i) (hl : s.heap.IsList l its) (hx : its[i]? = none)
    (hQ : ∀ h', Heap.ExtBut it s.heap h' → Q none { s with heap := h' }) : wpAny (model prog w) A (pyNext (.ref it)) Q E s := by
  obtain ⟨o, ho, hc, hd⟩ := id hit
  obtain ⟨ol, hol, _, nl, hdl⟩ := hl
  obtain ⟨hh, o1, vs1, h1, d1, c1⟩ := hot
  unfold pyNext
  refine wpAny_bind (wpAny_attempt (wpAny_callSpecial?_slot (name := Str.ofString "__next__") hit.typeIs slot_listiter_next (wpAny_call_entry slot_listiter_next hit.typeIs entry_listiter_next ?_ (args_listiter_next _))))
  refine (show wpAny _ _ (field (.ref it) 0 >>= _) _ _ s from wpAny_bind (wpAny_field ho hd (x := .ref l) rfl ?_))
  refine (show wpAny _ _ (if (Value.ref l == Value.none) = true then _ else _) _ _ s from ?_)
  rw [if_neg (show ¬ ((Value.ref l == Value.none) = true) from Bool.false_ne_true)]
  refine (show wpAny _ _ (field (.ref it) 1 >>= _) _ _ s from wpAny_bind (wpAny_field ho hd (x := .int i 0) rfl ?_))
  refine (show wpAny _ _ (seqItems? (.ref l) >>= _) _ _ s from wpAny_bind (wpAny_seqItems hol hdl ?_))
  simp only [Int.toNat_natCast, hx]
  refine wpAny_bind (wpAny_rule (wpAny_bind (wpAny_setField ho hd (by simp) ?_)))
  refine (show wpAny _ _ (newExc (.type "StopIteration") [] >>= _) _ _ _ from wpAny_bind ?_)
  simp only [newExc, newTuple]
  refine wpAny_bind (wpAny_newObj_type ?_ (by size_fits))
  refine wpAny_bind (m := firstArgMember _ _) (wpAny_of_eq (a := Value.none) (by first | rfl | (simp only [firstArgMember]; rfl)) ?_)
  refine wpAny_newObj_type ?_ (by size_fits)
  have h1' := (Heap.get?_update_other s.heap (Obj.mapFields (·.setIfInBounds 0 Value.none)) (Ne.symm hne)).trans h1
  refine raiseNew_hot ⟨hh, o1, vs1, Heap.get?_push_of_some _ (Heap.get?_push_of_some _ h1'), d1, c1⟩ (Nat.ne_of_lt (Heap.lt_size (Heap.get?_push_of_some _ h1'))) (Heap.get?_push_size _ rfl) rfl (by first | (simp; done) | (simp; omega)) ?_
  refine wpAny_bind (wpAny_isInstance (T := "StopIteration") (b := true) ⟨_, Heap.get?_update_self _ (Heap.get?_push_size _ rfl) rfl, rfl⟩ isSubtype_stop ?_)
  refine wpAny_pure (hQ _ fun b o hb e => ?_)
  have e' := (Heap.get?_update_other s.heap (Obj.mapFields (·.setIfInBounds 0 Value.none)) (Ne.symm hb)).trans e
  rw [Heap.get?_update_other _ _ (Nat.ne_of_gt (Heap.lt_size (Heap.get?_push_of_some _ e')))]
  exact Heap.get?_push_of_some _ (Heap.get?_push_of_some _ e')
def HotH (x1 : Addr) (h : Heap) : Prop := ∃ (o : Obj) (vs : Array Value), h.get? x1 = some o ∧ o.data = .fields vs ∧ vs[2]? = some .none
theorem walks_hot {A : Around} {x1 : Addr} (hh : A.handled = some (.ref x1)) (I ax : Addr) (hne : ax ≠ I) (h1 : x1 ≠ I) (its : Array Value) :
    Walks prog w A I [I, ax, x1] [I] its.size (fun i v => its[i]? = some v) (fun i h => (h.IsListIter I ax i ∧ h.IsList ax its) ∧ HotH x1 h) where
  sub := fun b hb => by simp at hb; simp [hb]
  frame := fun _ _ _ st hk => ⟨⟨st.1.1.at fun o e => hk I (by simp) o e, st.1.2.at fun o e => hk ax (by simp) o e⟩, by obtain ⟨o, vs, a, b, c⟩ := st.2; exact ⟨o, vs, hk x1 (by simp) _ a, b, c⟩⟩
  item := fun i s Q E hi st hQ => by
    refine wpAny_pyNext_list_item st.1.1 st.1.2 (x := its[i]) (by simp [hi]) fun h' hit' hs' => ?_
    exact hQ _ h' s.toks (by simp [hi]) ⟨⟨hit', st.1.2.extBut hs'.extBut hne⟩, by obtain ⟨o, vs, a, b, c⟩ := st.2; exact ⟨o, vs, hs'.extBut _ _ h1 a, b, c⟩⟩ fun b o hb e => hs'.extBut b o (fun h => hb (by simp [h])) e
  done := fun s Q E st hQ => by
    obtain ⟨o, vs, a, b, c⟩ := st.2
    exact next_end_hot ⟨hh, o, vs, a, b, c⟩ h1 st.1.1 st.1.2 (by simp) fun h' he' => hQ h' s.toks fun b o hb e => he' b o (fun h => hb (by simp [h])) e
  self := fun _ _ _ _ st hQ => wpAny_pyIter_listiter st.1.1 hQ
theorem sum_hot {x1 l : Addr} {xs : Array (Int × Tok)} {Q : Value → Shared → Prop} (hot : HotAt A x1 s.heap) (hl : s.heap.IsList l (intItems xs))
    (h : ∀ h' tk t', (∀ b o, s.heap.get? b = some o → h'.get? b = some o) → Q (.int (preSum (numAt xs) xs.size) t') { s with heap := h', toks := tk }) : wpAny (model prog w) A (call (.builtin "sum") [.ref l]) Q E s := by
  obtain ⟨hh, o1, vs1, h1, d1, c1⟩ := hot
  refine call_sum_walkG (iter_intList hl fun s₂ e st hfp hlI => ?_)
  subst e
  refine ⟨_, _, _, _, _, _, numAt xs, rfl, walks_hot (A := A.in1) hh _ l hlI (Nat.ne_of_lt (Heap.lt_size h1)) (intItems xs), ⟨st, _, _, Heap.get?_push_of_some _ h1, d1, c1⟩, fun b hb => ?_, (fun _ _ => intItems_at), fun h' tk t' hk => ?_⟩
  · simp only [List.mem_cons, List.not_mem_nil, or_false] at hb
    rcases hb with z | z | z
    · exact hfp b (by simp [z])
    · exact hfp b (by simp [z])
    · subst z; exact Heap.lt_size (Heap.get?_push_of_some _ h1)
  · have := h h' tk t' (old_kept hk)
    simpa [intItems] using this
theorem sum_rawH {x1 l : Addr} {its : List Value} {ns : List Int} {Q : Value → Shared → Prop} (hot : HotAt A x1 s.heap) (hl : s.heap.IsList l its.toArray) (hi : IntsAre its ns)
    (h : ∀ h' tk t', (∀ b o, s.heap.get? b = some o → h'.get? b = some o) → Q (.int ns.sum t') { s with heap := h', toks := tk }) : wpAny (model prog w) A (call (.builtin "sum") [.ref l]) Q E s := by
  obtain ⟨xs, e⟩ := hi.allInts.items
  have hn : numsOf (intItems xs).toList = ns := by rw [← e]; exact hi.numsOf
  rw [nums_intItems] at hn
  rw [e] at hl
  refine sum_hot hot hl fun h' tk t' hk => ?_
  have := h h' tk t' hk
  rw [preSum_eq, List.take_of_length_le (by simp), hn]; exact this
end
theorem cr_sumH {X : Cx} (hot : HotC X) : CallR X (.builtin "sum") (rSum X.K) := by
  intro pins s σ H vs us Q I r h
  obtain ⟨a, ns, rfl, hs, q⟩ := h
  obtain ⟨its, rv, hl, _⟩ := I.list hs
  obtain ⟨x1, ht⟩ := hot.at I
  rw [Vals.ref1 r]
  exact sum_rawH ht hl.isList rv.ints fun h' tk t' hk => ⟨.int _, H, I.kept hk, ⟨_, rfl⟩, q⟩
end Pv
end
section
set_option Elab.async false
set_option linter.all false
set_option maxRecDepth 100000
set_option maxHeartbeats 2000000
namespace Pv
open PySem PySem.Spec PyProof.Rows L2 L2H HotX
/-! ### [f(y) for y in l] while an exception is handled: f reads y alone and makes nothing -/
section
variable {X : Cx} {y : Str} {j : Nat} {elt l : Expr} {scope : Scope} {py pos : Pos} {ti : TE} {fx : V → V} {Dm : V → Prop}
def tOne (j : Nat) (Dm : V → Prop) (fx : V → V) : TE := fun σ H Q => ∃ x, σ[j]? = some (some x) ∧ Dm x ∧ Q (fx x) H
theorem lc_hot (hot : HotC X) (hN : X.N.Nodup) (hi : PE X l ti) (ok : BlkOk X.N X.env.scope scope [(y, j)])
    (hg : ∀ (s : Shared) (H : Hp) (C : Addr) (cl : List (Str × Addr)) (fp : List Addr), PG (X.blk s H scope (compEnvC scope cl C X.env) fp) (.Name y py) (gName j))
    (he : ∀ (s : Shared) (H : Hp) (C : Addr) (cl : List (Str × Addr)) (fp : List Addr), PE (X.blk s H scope (compEnvC scope cl C X.env) fp) elt (tOne j Dm fx)) (hs : ∀ x, foldedSetIterable l X.env x = pure x) :
    PE X (.ListComp elt [⟨.Name y py, l, [], 0⟩] scope pos) (fun σ H Q => ti σ H fun v H1 => ∃ a xs, v = .ref a ∧ SqL X.K H1 a xs ∧ (∀ x ∈ xs, Dm x) ∧ ∀ D, H1 D = none → Q (.ref D) (upd H1 D (.lst (xs.map fx)))) := by
  refine ⟨fun pins s σ H Q I h => ?_⟩
  rw [eval_ListComp]
  obtain ⟨p, ⟨hh, v1, e1, c1⟩, hp⟩ := hot
  have hfree : ∀ z ∈ scope.names, z.2 = .free → ∃ c, X.env.cells.lookup z.1 = some c := fun z hz e => (ok.free z hz e).elim (fun k => I.ok.has _ (.inl k)) fun k => I.ok.has _ (.inr k)
  refine wpAny_comprehension_free (use := none) rfl hs (closure_ok hfree) ok.kind (fun z hz e => by rw [ok.uniq z hz, e]) (thn (hi.run pins s σ H _ I h) fun xv s1 ⟨v, H1, I1, r1, a, xs, ev, hq, hD, q⟩ => ?_)
  subst ev
  cases r1
  obtain ⟨its, rv, pl, hz⟩ := I1.list hq
  have hjN : X.N[j]? = some y := ok.ix (y, j) (by simp)
  -- the iterator, the new list
  refine wpAny_pyIter_list pl.isList ?_
  refine wpAny_newObj_type (newEnv_comp ?_) (by show 0 ≤ sizeLine; decide)
  generalize hs2 : ({ s1 with heap := s1.heap.push { cls := .type "list_iterator", data := .fields #[.ref a, .int 0 0] } } : Shared) = s2
  have k12 : ∀ b o, s1.heap.get? b = some o → s2.heap.get? b = some o := fun b o e => by rw [← hs2]; exact Heap.get?_push_of_some _ e
  have I2 : Inv X pins σ H1 s2 := by rw [← hs2]; exact I1.kept (t' := s1.toks) fun b o e => Heap.get?_push_of_some _ e
  generalize hit : s1.heap.objs.size = it
  have fit : FpOk X pins H1 it := I1.fpOk (Nat.le_of_eq hit) (I1.hok.fresh (Nat.le_of_eq hit))
  have st2 : s2.heap.IsListIter it a 0 := by rw [← hs2, ← hit]; exact ⟨_, Heap.get?_push_size _ rfl, rfl, rfl⟩
  have lt2 : it < s2.heap.objs.size := by obtain ⟨o, e, _⟩ := st2; exact Heap.lt_size e
  generalize hDn : s2.heap.objs.size = D
  have nD : H1 D = none := I2.hok.fresh (Nat.le_of_eq hDn)
  have nitD : it ≠ D := by rw [← hDn]; exact Nat.ne_of_lt lt2
  generalize hs3 : ({ s2 with heap := s2.heap.push { cls := .type "list", data := .seq ([] : List Value).toArray } } : Shared) = s3
  have h3 : s3.heap = s2.heap.push { cls := .type "list", data := .seq ([] : List Value).toArray } := by rw [← hs3]
  have I3 : Inv X pins σ (upd H1 D (.lst [])) s3 := by
    rw [← hs3]
    refine I2.laid (t' := s2.toks) (fun b o e => Heap.get?_push_of_some _ e) (Nat.le_of_eq hDn) ⟨Nat.zero_le _, [], 0, .nil, ?_⟩
    rw [← hDn]
    exact Heap.get?_push_size _ rfl
  have f3 : ∀ b ∈ [it], FpOk X pins (upd H1 D (.lst [])) b ∧ b < s3.heap.objs.size := fun b hb => by
    obtain rfl : b = it := by simpa using hb
    exact ⟨⟨by rw [upd_ne nitD]; exact fit.1, fit.2⟩, by rw [h3, Heap.size_push]; exact Nat.lt_succ_of_lt lt2⟩
  have I4 := block_start I3 ok hN f3
  generalize hcl : cellsFrom (s3.heap.objs.size + 1) scope.names (cloFrom X.env.cells scope.names []) = cl at I4
  have pg := hg s3 (upd H1 D (.lst [])) s3.heap.objs.size cl [it]
  have pe := he s3 (upd H1 D (.lst [])) s3.heap.objs.size cl [it]
  refine (show codeAny _ _ (.compStart (.ListComp elt [⟨.Name y py, l, [], 0⟩] scope pos) 0 (.ref it) (.ref D) (compEnvC scope cl s3.heap.objs.size X.env)) (compPost (model X.prog X.w) X.A X.xe none (EP X pins σ Q) (.ref D) s3.heap.objs.size) { s3 with heap := pushCells (s3.heap.push { cls := .type "dict", data := .dict #[] }) scope.names } from ?_)
  generalize hce : compEnvC scope cl s3.heap.objs.size X.env = ce at I4 pg pe ⊢
  have cL : ce.locals = s3.heap.objs.size := by subst hce; rfl
  generalize hs4 : ({ s3 with heap := pushCells (s3.heap.push { cls := .type "dict", data := .dict #[] }) scope.names } : Shared) = s4 at I4 ⊢
  have st4 : s4.heap.IsListIter it a 0 := st2.at fun o e => by rw [← hs4]; exact pushCells_keeps _ _ _ _ (Heap.get?_push_of_some _ (by rw [h3]; exact Heap.get?_push_of_some _ e))
  generalize hX : X.blk s3 (upd H1 D (.lst [])) scope ce [it] = Y at I4 pg pe
  have YA : Y.A = X.A := by rw [← hX]
  have Yp : Y.prog = X.prog := by rw [← hX]
  have Yw : Y.w = X.w := by rw [← hX]
  have YK : Y.K = X.K := by rw [← hX]
  -- the list that is walked stays
  have hqi : ∀ ys, SqL X.K (upd H1 D (.lst ys)) a xs := fun ys => by
    rcases hq with (z | ⟨o, z⟩) | z
    · exact .inl (.inl (by rw [upd_ne (ne_of_none z nD)]; exact z))
    · exact .inl (.inr ⟨o, by rw [upd_ne (ne_of_none z nD)]; exact z⟩)
    · exact .inr z
  have fp : ∀ {σ' : L2.St} {H' : Hp} {s' : Shared}, Inv Y [] σ' H' s' → H' it = none → FpOk Y [] H' it := fun {σ' H' s'} I' hn => by
    subst hX
    exact ⟨hn, (I'.ok.exf it (by simp)).1, I'.ok.exfs it (by simp), .inl (by simp), fun x c e => (I'.ok.exf it (by simp)).2 x c e, fun p hp => absurd (show p ∈ ([] : List (Addr × Obj)) ++ [] from hp) (by simp)⟩
  have p3 := I3.pin p (List.mem_append_left _ hp)
  have hotAt : ∀ {σ' : L2.St} {H' : Hp} {s' : Shared}, Inv Y [] σ' H' s' → HotAt X.A p.1 s'.heap := fun {σ' H' s'} I' => by
    subst hX
    refine ⟨hh, p.2, v1, I'.base.keep p.1 p.2 p3.1 p3.2.1 (fun z => ?_) (fun z => ?_), e1, c1⟩
    · exact (List.mem_cons.mp (I3.stkSub _ z)).elim p3.2.2.1 p3.2.2.2.1
    · have z : p.1 = it := by simpa using z
      exact fit.2.2.2.2.2 p (List.mem_append_left _ hp) z
  have pit : p.1 ≠ it := fit.2.2.2.2.2 p (List.mem_append_left _ hp)
  have loop : codeAny (model X.prog X.w) X.A (.compLoop (.ListComp elt [⟨.Name y py, l, [], 0⟩] scope pos) 0 (.ref it) (.ref D) ce) (compPost (model X.prog X.w) X.A X.xe none (EP X pins σ Q) (.ref D) s3.heap.objs.size) s4 := by
    refine compLoop_any (fun n s' => ∃ i, n = xs.length - i ∧ i ≤ xs.length ∧ Inv Y [] (wipe σ [j]) (upd H1 D (.lst ((xs.take i).map fx))) s' ∧ s'.heap.IsListIter it a i) ?_ xs.length ⟨0, by simp, Nat.zero_le _, by simpa using I4, st4⟩
    rintro n s5 ⟨i, rfl, hle, I5, st5⟩
    have n5 : upd H1 D (.lst ((xs.take i).map fx)) it = none := by rw [upd_ne nitD]; exact fit.1
    obtain ⟨g0, g1, g2, g3, g4, g5⟩ := fp I5 n5
    obtain ⟨its5, rv5, pl5, _⟩ := I5.list (by rw [YK]; exact hqi _)
    have len5 := rv5.length
    by_cases hlt : i < xs.length
    · have hx : xs[i]? = some xs[i] := by simp [hlt]
      obtain ⟨u, hu, ru⟩ := rv5.get hx
      refine wpAny_pyNext_list_item st5 pl5.isList (x := u) (by simpa using hu) fun h' st' sb => ?_
      have I6 : Inv Y [] (wipe σ [j]) (upd H1 D (.lst ((xs.take i).map fx))) { s5 with heap := h' } := I5.turned (t' := s5.toks) (fun b o hb e => (sb.2 b hb).trans e) g0 g1 g3 g4 g5
      obtain ⟨o, eo, co, dO⟩ := id st'
      refine go_of (s := { s5 with heap := h' }) eo co dO (by decide) ?_
      have ho : ∃ o, h'.get? it = some o ∧ ∀ v, o.data ≠ .cell v := ⟨o, eo, fun v z => by rw [dO] at z; cases z⟩
      have I6' := I6.pinned (fp := [it]) (fun b hb => by obtain rfl : b = it := (by simpa using hb); exact fp I6 n5) (fun b hb => by obtain rfl : b = it := (by simpa using hb); exact ho)
      have pg' := pg.run _ { s5 with heap := h' } _ _ xs[i] u (fun σ2 H2 => σ2 = (wipe σ [j]).set j (some xs[i]) ∧ H2 = upd H1 D (.lst ((xs.take i).map fx))) I6' ru ⟨rfl, rfl⟩
      rw [Yp, Yw, YA] at pg'
      have cE : Y.env = ce := by rw [← hX]
      have xE : Y.xe = fun _ _ => False := by rw [← hX]
      rw [cE, xE] at pg'
      refine thnF pg' fun _ s8 ⟨σ8, H8, I8, e8, e8'⟩ => ?_
      subst e8 e8'
      simp only [List.forIn_nil]
      refine wpAny_pure ?_
      rw [if_pos rfl]
      have pe' := pe.run _ s8 _ _ (fun v H2 => v = fx xs[i] ∧ H2 = upd H1 D (.lst ((xs.take i).map fx))) I8 ⟨xs[i], by rw [List.getElem?_set_self]; rw [wipe_length, I.len]; exact (List.getElem?_eq_some_iff.mp hjN).1, hD _ (List.getElem_mem hlt), rfl, rfl⟩
      rw [Yp, Yw, YA, cE, xE] at pe'
      refine thnF pe' fun z s10 ⟨yv, H10, I10, r10, ey, eH⟩ => ?_
      subst ey eH
      have ap := app_ok (E := notedBy (model X.prog X.w) X.A ce fun e s' => compPost (model X.prog X.w) X.A X.xe none (EP X pins σ Q) (.ref D) s3.heap.objs.size (.error e) s') (Q := fun _ s11 => ∃ m, m < xs.length - i ∧ ∃ i, m = xs.length - i ∧ i ≤ xs.length ∧ Inv Y [] (wipe σ [j]) (upd H1 D (.lst ((xs.take i).map fx))) s11 ∧ s11.heap.IsListIter it a i) I10 upd_same (by simp; omega) r10 fun s11 I11 => ?_
      · rw [Yp, Yw, YA] at ap
        exact ap
      · have pin' := I11.pin (it, o) (List.mem_append_right _ (List.mem_append_right _ (mem_pinsAt (by simp) eo)))
        refine ⟨xs.length - (i + 1), by omega, i + 1, rfl, hlt, ?_, st'.at fun o' e' => by rw [eo] at e'; cases e'; exact pin'.1⟩
        have J := (I11.unpinned (pins := [])).weak (σ' := wipe σ [j]) (by rw [List.length_set]) (fun k v e => ?_)
        · rw [upd_upd] at J
          have et : ((xs.take (i + 1)).map fx) = (xs.take i).map fx ++ [fx xs[i]] := by rw [List.take_add_one, hx, List.map_append]; rfl
          rw [et]
          exact J
        · have hk := (wipe_some e).2
          rw [List.getElem?_set_ne (fun z => hk (by simp [z]))]
          exact e
    · have hi : i = xs.length := by omega
      subst hi
      refine next_end_hot (hotAt I5) pit st5 pl5.isList (by simp; omega) fun h' eb => ?_
      have I6 : Inv Y [] (wipe σ [j]) (upd H1 D (.lst ((xs.take xs.length).map fx))) { s5 with heap := h' } := I5.turned (t' := s5.toks) (fun b o hb e => eb b o hb e) g0 g1 g3 g4 g5
      have eT : (xs.take xs.length).map fx = xs.map fx := by rw [List.take_length]
      rw [eT] at I6
      subst hX
      have I7 : Inv X pins σ (upd H1 D (.lst (xs.map fx))) { s5 with heap := h' } := I3.call' (ch := [it]) I6.os I6.base I6.hok I6.bare fun b hb => by
        obtain rfl : b = it := by simpa using hb
        exact ⟨fit.2.2.2.1, fit.2.1, fit.2.2.2.2.1, fit.2.2.2.2.2⟩
      have nC : (upd H1 D (.lst (xs.map fx))) s3.heap.objs.size = none := by rw [← cL]; exact I6.free
      obtain ⟨m, hn, _⟩ := I6.loc
      have hn : h'.Ns ce.locals m := hn
      rw [cL] at hn
      refine ⟨m, hn, fun h'' sb => ?_⟩
      obtain ⟨f0, f1, f2, f3, f4, f5⟩ := I3.fpOk (b := s3.heap.objs.size) (H' := upd H1 D (.lst (xs.map fx))) (Nat.le_refl _) nC
      exact ⟨.ref D, _, I7.turned (t' := s5.toks) (fun b o hb e => (sb.2 b hb).trans e) f0 f1 f3 f4 f5, rfl, q D nD⟩
  exact codeAny_compStart_list loop (wpAny_pyIter_listiter st4 loop)
end
end Pv
end
section
set_option Elab.async false
set_option linter.all false
set_option maxRecDepth 100000
set_option maxHeartbeats 2000000
namespace Pv
open PySem PySem.Spec PyProof.Rows L2 L2H HotX LamX
variable {G : Gc} {B : Bx}
/-! ### isinstance of the exception that is handled -/
theorem call_isP {X : Cx} {a D : Addr} {oe : Obj} (C : ExcC X.K D) (hp : (a, oe) ∈ X.pn) (hz : L2N.Zn (.ref D) none oe) (hf : ∃ vs, oe.data = .fields vs) : CallR X (.builtin "isinstance") (rIsE X.K D a) := by
  intro pins s σ H xs us Q I r h
  obtain ⟨c, cv, b, rfl, hcv, e, q⟩ := h
  cases r with
  | cons rx rr =>
    cases rr with
    | cons rt rr =>
      cases rr
      cases rx
      have ec := hcv _ rt
      subst ec
      obtain ⟨hget, _⟩ := I.pin (a, oe) (List.mem_append_left _ hp)
      obtain ⟨vs, hv⟩ := hf
      have J : PySem.W.InstAt s.heap a oe D none := by
        obtain ⟨oc, od, oda, osl⟩ := oe
        obtain ⟨h1, h2, _⟩ := hz
        dsimp only at h1 h2 hv
        subst h1 h2 hv
        exact ⟨hget, rfl, rfl, trivial⟩
      exact PySem.W.kia_one (PySem.W.handS_kitx_exc C.hg C.hk C.hs C.hd C.ha C.hn C.ht C.hm) I.kIn J e (fun z => nomatch z) fun tk => ⟨.bl b, H, I.kept (t' := tk) fun _ _ z => z, rfl, q⟩
/-- the program's classes of exceptions, and their common base -/
structure XcOk (G : Gc) (sk : Str) (cs : List Str) : Prop where
  ex : ∀ c ∈ cs, ∃ C, G.cls c = some C ∧ G.mg c = some (.ref C) ∧ ExcC G.K C ∧ PySem.W.kitOne G.K (.ref C) (.type "ValueError") = some true
  is : ∀ c ∈ cs, ∀ d ∈ cs, ∀ C D, G.cls c = some C → G.cls d = some D → PySem.W.kitOne G.K (.ref C) (.ref D) = some (c == d)
  er : ∃ E, G.mg sk = some (.ref E) ∧ ∀ c ∈ cs, ∀ C, G.cls c = some C → PySem.W.exmOne G.K (.ref C) (.ref E) = some true
/-- what is known of the exception: its address, its class -/
structure XcB (G : Gc) (B : Bx) (cs : List Str) (a : Addr) (c : Str) : Prop where
  mem : c ∈ cs
  ex : ∃ C, G.cls c = some C ∧ B.hx = some (a, C)
def eIsX (a : Addr) (b : Bool) (f : Rho → Res PV) : Rho → Res PV := fun ρ => match f ρ with
  | .ok (.fn a') => if a' = a then .ok (.bl b) else .bad
  | _ => .bad
theorem JE.isX {sk d c : Str} {cs : List Str} {a : Addr} {e : Expr} {f : Rho → Res PV} {p p2 pos : Pos} (XC : XcOk G sk cs) (xb : XcB G B cs a c) (hd : d ∈ cs) (hg : Gb B "isinstance") (hm : G.mg "isinstance" = none) (hg2 : Gb B d) (he : JE G B e f)
    (hdb : (d == ("__debug__" : Str)) = false := by decide) (hs : NoStar e := by exact fun _ _ => rfl) : JE G B (.Call (.Name "isinstance" p) [e, .Name d p2] [] pos) (eIsX a (c == d) f) := ⟨fun X W ok tk => by
  obtain ⟨C, hC, hx⟩ := xb.ex
  obtain ⟨oe, hp, hot, hz, hf⟩ := ok.hx a C hx
  obtain ⟨C', hC', hmC, xc, _⟩ := XC.ex c xb.mem
  rw [hC] at hC'; cases hC'
  obtain ⟨D, hD, hmD, _⟩ := XC.ex d hd
  have pb : PE X (.Name d p2) (tC (.ref D)) := pe_glob (show X.env.scope.names.lookup d = _ by rw [ok.sc]; exact hg2) (by rw [ok.mg]; exact hmD) rfl hdb
  refine PE.imp (pe_callB (call_isP (D := C) (by rw [ok.K]; exact xc) hp hz hf) (show X.env.scope.names.lookup ("isinstance" : Str) = _ by rw [ok.sc]; exact hg) (by rw [ok.mg]; exact hm) (by decide +kernel) (pa_cons (he.run X W ok tk) (pa_cons pb pa_nil) (hs _ _)) (by decide) (by decide) (hs _ _) rfl) fun σ H Q ⟨S, ρ, hl, hr, h⟩ => ?_
  refine ⟨S, ρ, hl, hr, ?_⟩
  unfold eIsX at h
  cases e1 : f ρ with
  | ok q =>
    rw [e1] at h
    intro v H1 S1 x1 l1 g1 r1
    cases q with
    | fn a' =>
      dsimp only at h
      split at h
      · rename_i ea
        subst ea
        cases r1
        exact ⟨.ref D, .ref D, _, rfl, fun u z => z, by rw [ok.K]; exact XC.is c xb.mem d hd C D hC hD, h (.bl _) H1 S1 x1 l1 g1 (.bl _)⟩
      · exact h.elim
    | _ => exact h.elim
  | exc q => rw [e1] at h; exact h.elim
  | bad => rw [e1] at h; exact h.elim⟩
theorem JE.isXV {sk c : Str} {cs : List Str} {a : Addr} {e : Expr} {f : Rho → Res PV} {p p2 pos : Pos} (XC : XcOk G sk cs) (xb : XcB G B cs a c) (hg : Gb B "isinstance") (hm : G.mg "isinstance" = none) (hg2 : Gb B "ValueError") (hm2 : G.mg "ValueError" = none) (he : JE G B e f)
    (hs : NoStar e := by exact fun _ _ => rfl) : JE G B (.Call (.Name "isinstance" p) [e, .Name "ValueError" p2] [] pos) (eIsX a true f) := ⟨fun X W ok tk => by
  obtain ⟨C, hC, hx⟩ := xb.ex
  obtain ⟨oe, hp, hot, hz, hf⟩ := ok.hx a C hx
  obtain ⟨C', hC', hmC, xc, xv⟩ := XC.ex c xb.mem
  rw [hC] at hC'; cases hC'
  have pb : PE X (.Name "ValueError" p2) (tC (.ty "ValueError")) := pe_bltn (show X.env.scope.names.lookup ("ValueError" : Str) = _ by rw [ok.sc]; exact hg2) (by rw [ok.mg]; exact hm2) (by decide +kernel) rfl (by decide) (by decide)
  refine PE.imp (pe_callB (call_isP (D := C) (by rw [ok.K]; exact xc) hp hz hf) (show X.env.scope.names.lookup ("isinstance" : Str) = _ by rw [ok.sc]; exact hg) (by rw [ok.mg]; exact hm) (by decide +kernel) (pa_cons (he.run X W ok tk) (pa_cons pb pa_nil) (hs _ _)) (by decide) (by decide) (hs _ _) rfl) fun σ H Q ⟨S, ρ, hl, hr, h⟩ => ?_
  refine ⟨S, ρ, hl, hr, ?_⟩
  unfold eIsX at h
  cases e1 : f ρ with
  | ok q =>
    rw [e1] at h
    intro v H1 S1 x1 l1 g1 r1
    cases q with
    | fn a' =>
      dsimp only at h
      split at h
      · rename_i ea
        subst ea
        cases r1
        exact ⟨.ty "ValueError", .type "ValueError", _, rfl, fun u z => z, by rw [ok.K]; exact xv, h (.bl _) H1 S1 x1 l1 g1 (.bl _)⟩
      · exact h.elim
    | _ => exact h.elim
  | exc q => rw [e1] at h; exact h.elim
  | bad => rw [e1] at h; exact h.elim⟩
/-! ### sum, [int(y) for y in l] there -/
theorem XcB.hot {cs : List Str} {a : Addr} {c : Str} (xb : XcB G B cs a c) {X : Cx} (ok : CxOk G B X) : HotC X := by
  obtain ⟨C, hC, hx⟩ := xb.ex
  obtain ⟨oe, hp, hot, _⟩ := ok.hx a C hx
  exact ⟨_, hot, hp⟩
def bSumL : List PV → Res PV
  | [.lst xs] => match intsOf xs with | some bs => .ok (.int bs.sum) | none => .bad
  | _ => .bad
theorem JE.sumH {cs : List Str} {ax : Addr} {c : Str} {a : Expr} {f : Rho → Res PV} {p pos : Pos} (xb : XcB G B cs ax c) (hg : Gb B "sum") (hm : G.mg "sum" = none) (ha : JE G B a f) (hs : NoStar a := by exact fun _ _ => rfl) : JE G B (.Call (.Name "sum" p) [a] [] pos) (eCall bSumL (aCons f aNil)) :=
  JE.blt (fun X ok => ⟨_, cr_sumH (xb.hot ok), by
    intro W S H σ Q vs ps hl r he
    unfold bSumL at he
    split at he
    · split at he
      · rename_i bs hb
        obtain ⟨v, rfl, rv⟩ := r.one
        cases rv with | lst ea qa => rw [intsOf_rp hb qa] at ea; exact ⟨_, _, rfl, .inl (.inl (hl _ _ ea)), he.here hl (.int _)⟩
      · exact he.elim
    · exact he.elim⟩) hg hm (by decide +kernel) (JA.cons ha JA.nil hs) (hs := hs)
def b2i (b : Bool) : Int := if b then 1 else 0
def eB2I (f : Rho → Res PV) : Rho → Res PV := fun ρ => (f ρ).bind fun p => match p with
  | .lst xs => (match boolsOf xs with | some bs => .ok (.lst (bs.map fun b => .int (b2i b))) | none => .bad)
  | _ => .bad
def fx1 : V → V
  | .bl b => .int (b2i b)
  | v => v
theorem JE.lcH {cs : List Str} {ax : Addr} {c y : Str} {j : Nat} {l : Expr} {f : Rho → Res PV} {scope : Scope} {py p p1 p2 pos : Pos} (xb : XcB G B cs ax c) (hb : blkC B.N B.sc scope [(y, j)] = true) (hy : (relS scope B.sc).names.lookup y = some .local) (hi : (relS scope B.sc).names.lookup ("int" : Str) = some .globalImplicit) (hm : G.mg "int" = none) (hl : JE G B l f)
    (hs : ∀ env x, foldedSetIterable l env x = pure x := by intro _ _; rfl) (hd : (y == ("__debug__" : Str)) = false := by decide) (hcd : (y == ("__classdict__" : Str)) = false := by decide) : JE G B (.ListComp (.Call (.Name "int" p) [.Name y p1] [] p2) [⟨.Name y py, l, [], 0⟩] scope pos) (eB2I f) := ⟨fun X W ok tk => by
  have bo : BlkOk X.N X.env.scope scope [(y, j)] := by rw [ok.N, ok.sc]; exact blkOk_by hb
  have hjN : X.N[j]? = some y := bo.ix (y, j) (by simp)
  refine PE.imp (lc_hot (Dm := fun x => ∃ b, x = .bl b) (fx := fx1) (xb.hot ok) (by rw [ok.N]; exact ok.nd) (hl.run X W ok tk) bo (fun s H C cl fp => ?_) (fun s H C cl fp => ?_) (fun x => hs _ x)) fun σ H Q ⟨S, ρ, l0, hr, he⟩ => ?_
  · have o2 := ok.blk (scope := scope) s H C cl fp
    exact pg_name (by rw [ok.N]; exact ok.nd) hjN (.inl (by rw [o2.sc]; exact hy)) (.inr (by rw [o2.sc]; exact hy))
  · have o2 := ok.blk (scope := scope) s H C cl fp
    refine PE.imp (pe_callTy call_int1 (show (X.blk s H scope (compEnvC scope cl C X.env) fp).env.scope.names.lookup ("int" : Str) = _ by rw [o2.sc]; exact hi) (by rw [o2.mg]; exact hm) (by decide +kernel) (pa_cons (pe_var (i := j) (by exact hjN) (.inl (by rw [o2.sc]; exact hy)) hd hcd) pa_nil)) fun σ H Q ⟨x, e1, ⟨b, e2⟩, q⟩ => ?_
    subst e2
    exact ⟨.bl b, e1, .inr ⟨b, rfl, q⟩⟩
  · refine ⟨S, ρ, l0, hr, EndE.then he fun q v H1 S1 e1 l1 g1 r1 he => ?_⟩
    cases q with
    | lst xs =>
      dsimp only at he
      split at he
      · rename_i bs hbs
        cases r1 with
        | lst ea qa =>
          rw [boolsOf_rp hbs qa] at ea
          refine ⟨_, _, rfl, .inl (.inl (l1 _ _ ea)), fun x hx => ?_, fun D nD => ?_⟩
          · obtain ⟨b, _, rfl⟩ := List.mem_map.mp hx; exact ⟨b, rfl⟩
          · have em : (bs.map V.bl).map fx1 = bs.map fun b => V.int (b2i b) := by rw [List.map_map]; rfl
            rw [em]
            refine he.lst l1 ?_ ?_ nD
            · clear he hbs ea em hb
              induction bs with
              | nil => exact .nil
              | cons b r ih => exact .cons (.int _) ih
            · have z := l1.sz _ _ ea
              simp only [SzOk, List.length_map] at z ⊢
              exact z
      · exact he.elim
    | _ => exact he.elim⟩
/-! ### the def that tells an exception's class -/
structure WordP (G : Gc) (k : Nat) (x : Str) (cs : List Str) : Prop where
  ex : ∃ (f : Addr) (fd : FuncData) (y : Str), G.mg x = some (.ref f) ∧ PySem.W.keepIn G.K (.ref f) = true ∧ Binds G.K fd [y] [] ∧
    ∀ (A : Around) (outer : List Env) (s : Shared) (H : Hp) (us : List Value) (p : Addr × Obj) (c : Str) (C : Addr) (Q : VK), RoomH k A → Hot1 A p → PinOk outer H s p → Env0 G.P G.w G.K G.mg G.base A outer s H → c ∈ cs → G.cls c = some C → L2N.Zn (.ref C) none p.2 →
      (∃ vs, p.2.data = .fields vs) → Vals [.ref p.1] us → Tabs G.T H → (∀ H2, Ext G.T H H2 → Q (.str c) H2) →
      codeAny (model G.P G.w) A (.call (.ref f) ⟨us, []⟩) (CR (L2N.CX G.P G.w) outer G.P G.w H s Q fun _ _ _ => False) s
theorem WordP.of {x y : Str} {cs : List Str} {st : Stmt} {args : Arguments} {body : List Stmt} {dec : List Expr} {ret : Option Expr} {tp : List TypeParam} {sc : Scope} {ts : Option Scope} {b : Str} {pos : Pos} {N : List Str} {k : Nat} {g : Addr → Str → Om → SR} (d : FunT G x st) (hst : st = .FunctionDef x args body dec ret tp sc ts b pos)
    (S : FnScope N [y] sc) (hb : ∀ (kV doc pm : Value) (an : Option Addr) (cdv ct : Value) (us : List Value), us.length = [y].length → bindArgs (PySem.W.fnOf x x args body sc .none kV doc pm an cdv ct) ⟨us, []⟩ = pure ([y].zip us))
    (h : ∀ (a C : Addr) (c : Str), c ∈ cs → G.cls c = some C → JSs G ⟨N, sc, fun _ => true, k, none, true, some (a, C)⟩ body (g a c)) (hv : ∀ (a : Addr) (c : Str), c ∈ cs → g a c (some (.v (.fn a)) :: List.replicate (N.length - 1) none) = .rt (.str c)) : WordP G (k + 1) x cs := by
  subst hst
  obtain ⟨f, fd, F, hm⟩ := d.ex
  have F : FunD G.K x x args body sc [] [] f fd := F
  have bnd := FunD.bindsN F hb
  obtain ⟨oc, od, dV, kV, doc, pm, an, cdv, ct, osl, rfl, lk, hcd, _, _⟩ := F.ex
  refine ⟨f, _, y, hm, F.kp, bnd, fun A outer s H us p c C Q hr hot hpin e0 hc hC hz hf rv tb hq => ?_⟩
  have KX : G.K.In s.heap := e0.mod.kin.keeps fun b o e => (e0.bs b o e).1
  have lim : s.heap.NoLimit := e0.mod.nolimit.keeps fun b o e => (e0.bs b o e).1
  have hbt := bnd s us KX (by rw [List.append_nil, ← rv.length]; rfl)
  rw [List.append_nil] at hbt
  have hkind : ∀ z ∈ [y].zip us, sc.names.lookup z.1 = some .local ∨ (sc.names.lookup z.1 = some .cell ∧ ((cellsFrom (s.heap.objs.size + 1) sc.names []).lookup z.1).isSome = true) := fun ⟨n, v⟩ hz => by
    rcases S.par n (List.of_mem_zip hz).1 with q | q
    · exact .inl q
    · exact .inr ⟨q, PySem.W.cellsFrom_some _ _ _ (.inl q)⟩
  refine codeAny_call_function hr.depth (KX _ _ lk) rfl S.co S.gen rfl (PySem.W.codeRec_of KX hcd) (hbt _ _ _ _ ?_)
  refine wpAny_newFunctionEnv_cells S.kind hkind fun env he s1 x1 => ?_
  subst he
  refine ⟨lim.keeps x1.toInCall.keep, codeAny_func ?_⟩
  have I : Inv (cxH (L2N.CX G.P G.w) G.P G.w G.K G.mg G.base N x sc f cdv A outer s H (fun _ _ _ => False) p) [] (L2.start N [.ref p.1]) H s1 := inv_startH S hpin e0 rfl rv x1
  have J := (h p.1 C c hc hC).run (cxH (L2N.CX G.P G.w) G.P G.w G.K G.mg G.base N x sc f cdv A outer s H (fun _ _ _ => False) p) (fun _ _ _ _ => False)
    ⟨rfl, rfl, rfl, rfl, rfl, rfl, S.nd, rfl, fun _ _ => rfl, fun z => (nomatch z), hr.deeper _, fun _ _ z => (nomatch z), fun a' C' z => by cases z; exact ⟨p.2, List.mem_cons_self, hot, hz, hf⟩⟩ ⟨passes_of rfl⟩ takesF
  have le : Le G.T (fun _ => none) H := ⟨fun _ _ z => (nomatch z), tb, fun _ _ z => (nomatch z)⟩
  refine wpAny_mono (J.run [] s1 (L2.start N [.ref p.1]) H { nx := fun _ H' => Q .non H', rt := Q } I ⟨H, _, _, _, StOk.start (ps := [.fn p.1]) le (.cons (.fn _) .nil) _, ?_⟩) (fun fl s' hs => ?_) fun e s' hs => hs
  · have e := hv p.1 c hc
    have e' : g p.1 c (List.map (fun p => some (SV.v p)) [PV.fn p.1] ++ List.replicate (N.length - [V.ref p.1].length) none) = .rt (.str c) := e
    show EndS G _ H _ _ (g p.1 c _)
    rw [e']
    exact fun v H' S' ex _ _ r => by cases r; exact hq H' ex
  · have fin : ∀ {σ' : L2.St} {H' : Hp} {v : V} {u : Value}, Inv (cxH (L2N.CX G.P G.w) G.P G.w G.K G.mg G.base N x sc f cdv A outer s H (fun _ _ _ => False) p) [] σ' H' s' → RelV v u → Q v H' → CE outer G.P G.w H s Q u s' :=
      fun {σ' H' v u} J rv q => ⟨v, H', J.os, J.bare, J.base, J.hok, rv, q⟩
    cases fl with
    | ret u => obtain ⟨v, σ', H', J, rv, q⟩ := hs; exact fin J rv q
    | next => obtain ⟨σ', H', J, q⟩ := hs; exact fin (v := V.non) (u := Value.none) J rfl q
    | brk => obtain ⟨_, _, _, q⟩ := hs; exact False.elim q
    | cont => obtain ⟨_, _, _, q⟩ := hs; exact False.elim q
/-- x(e) in the suite -/
theorem pe_word {X : Cx} {k : Nat} {x : Str} {cs : List Str} {a : Addr} {oe : Obj} {pn : List (Addr × Obj)} {i : Nat} {n : Str} {p q pos : Pos} {C : Addr} (F : WordP G k x cs) (h1 : X.prog = G.P) (h2 : X.w = G.w) (h3 : X.K = G.K) (h4 : X.mg = G.mg) (h5 : X.base = G.base) (hr : RoomH k X.A) (hz : L2N.Zn (.ref C) none oe) (hf : ∃ vs, oe.data = .fields vs)
    (hg : X.env.scope.names.lookup x = some .globalImplicit) (hN : X.N[i]? = some n) (hv : Vis X.env.scope n) (hdb : (x == ("__debug__" : Str)) = false) (hd : (n == ("__debug__" : Str)) = false) (hcd : (n == ("__classdict__" : Str)) = false) :
    PE (X.suite a ((a, oe) :: pn)) (.Call (.Name x p) [.Name n q] [] pos) (fun σ H Q => σ[i]? = some (some (.ref a)) ∧ Tabs G.T H ∧ ∃ c ∈ cs, G.cls c = some C ∧ ∀ H2, Ext G.T H H2 → Q (.str c) H2) := by
  obtain ⟨f, fd, y, hm, hk, hb, run⟩ := F.ex
  refine ⟨fun pins s σ H Q I ⟨hs, tb, c, hc, hC, hq⟩ => ?_⟩
  refine wpAny_Call_Name_kw (ld_glob I hg (show X.mg x = _ by rw [h4]; exact hm) ?_ hdb)
  refine PySem.W.callWith_K (h₀ := X.base) I.ok.mod.kin (show PySem.W.keepIn X.K (.ref f) = true by rw [h3]; exact hk) (thn ((pa_cons (pe_var (X := X.suite a ((a, oe) :: pn)) (i := i) hN hv hd hcd) pa_nil).run pos pins s σ H (fun vs H1 => vs = [.ref a] ∧ H1 = H) I ⟨.ref a, hs, rfl, rfl⟩) fun us s1 ⟨vs, H1, I1, r, e1, e2⟩ => ⟨I1.kIn, ?_⟩) rfl rfl
  subst e1 e2
  have P1 := I1.pin (a, oe) (List.mem_append_left _ List.mem_cons_self)
  have hpin : PinOk X.stack H1 s1 (a, oe) := ⟨P1.1, P1.2.1, fun hm => (List.mem_cons.mp (I1.stkSub a hm)).elim P1.2.2.1 P1.2.2.2.1, P1.2.2.2.2⟩
  obtain ⟨vs, hvs⟩ := hf
  have e0 : Env0 G.P G.w G.K G.mg G.base (X.A.mark (some (.ref a))) X.stack s1 H1 := by rw [← h1, ← h2, ← h3, ← h4, ← h5]; exact I1.env0
  have rc := run (X.A.mark (some (.ref a))) X.stack s1 H1 us (a, oe) c C Q ⟨hr.dp, hr.un⟩ ⟨rfl, vs, hvs, hz.2.2 vs hvs⟩ hpin e0 hc hC hz ⟨vs, hvs⟩ r tb hq
  rw [← h1, ← h2] at rc
  refine wpAny_call (codeAny_mono rc fun r s2 hq => ?_)
  cases r with
  | error e => obtain ⟨_, _, _, _, _, _, _, _, _, _, _, _, z⟩ := hq; exact z.elim
  | ok fl =>
    cases fl with
    | ret u => exact I1.after hq
    | next => exact False.elim hq
    | brk => exact False.elim hq
    | cont => exact False.elim hq
end Pv
end
section
set_option Elab.async false
set_option linter.all false
set_option maxRecDepth 100000
set_option maxHeartbeats 2000000
namespace Pv
open PySem PySem.Spec PyProof.Rows L2 L2H LamX
variable {G : Gc} {B : Bx}
/-! ### try: return a() / except x1 as y: return word(y) -/
def TTold (G : Gc) (cs : List Str) : (XK → Hp → VK → Prop) → Hp → VK → Prop := fun tl H Q => tl (fun cls d H' => d = none ∧ Tabs G.T H' ∧ ∃ c ∈ cs, ∃ C, G.cls c = some C ∧ cls = .ref C ∧ ∀ H2, Ext G.T H' H2 → Q (.str c) H2) H Q
structure ToldP (G : Gc) (k : Nat) (x : Str) (cs : List Str) : Prop where
  ex : ∃ (a : Str) (g : Addr) (pg : Arguments) (bg : List Stmt) (sg : Scope) (dV kV doc pm cdv ct oc : Value) (an od : Option Addr) (osl : Array (Option Value)) (Ng : List Str),
    G.mg x = some (.ref g) ∧ PySem.W.keepIn G.K (.ref g) = true ∧ G.K.lookup g = some ⟨oc, od, .func (PySem.W.fnOf x x pg bg sg dV kV doc pm an cdv ct), osl⟩ ∧ PySem.W.codeIn G.K cdv x = true ∧ Binds G.K (PySem.W.fnOf x x pg bg sg dV kV doc pm an cdv ct) [a] [] ∧
    FnScope Ng [a] sg ∧ Ng[0]? = some a ∧ Vis sg a ∧ (a == ("__debug__" : Str)) = false ∧ (a == ("__classdict__" : Str)) = false ∧
    ∀ (X : Cx) (q : Str), X.prog = G.P → X.w = G.w → X.K = G.K → X.mg = G.mg → X.base = G.base → Room (k + 1) X.A → GivesN X Ng x sg g cdv bg a q (TTold G cs)
theorem told_gives {X : Cx} {k : Nat} {x a y q x1 wd : Str} {cs : List Str} {sg : Scope} {g : Addr} {cdg : Value} {p4 p5 p6 q1 q2 q3 q4 q5 q6 q7 : Pos} (h1 : X.prog = G.P) (h2 : X.w = G.w) (hK : X.K = G.K) (hm : X.mg = G.mg) (h5 : X.base = G.base) (hr0 : Room (k + 1) X.A) (XC : XcOk G x1 cs) (F : WordP G k wd cs)
    (g1 : sg.names.lookup x1 = some .globalImplicit) (g2 : sg.names.lookup wd = some .globalImplicit) (d1 : (x1 == ("__debug__" : Str)) = false) (d2 : (wd == ("__debug__" : Str)) = false)
    (nd : [a, y].Nodup) (hy : sg.names.lookup y = some .local) (dy : (y == ("__debug__" : Str)) = false) (cy : (y == ("__classdict__" : Str)) = false) :
    GivesN X [a, y] x sg g cdg [.Try [.Return (some (.Call (.Name a p4) [] [] p5)) p6] [.ExceptHandler (some (.Name x1 q1)) (some y) [.Return (some (.Call (.Name wd q2) [.Name y q3] [] q4)) q5] q6] [] [] q7] a q (TTold G cs) := by
  intro f c' s H Q tl hr act hc h
  obtain ⟨C1, b1, hx⟩ := XC.er
  let X' := (cxOf C8.CX0 X.prog X.w X.K X.mg X.base [a, y] x sg g cdg X.A X.stack s H C8.E0).nox
  have nm : Names X' x1 (.ref C1) := ⟨g1, d1, .inl (show X.mg x1 = _ by rw [hm]; exact b1)⟩
  have rH : RoomH k X'.A := (roomH_of hr0).deeper _
  refine ⟨_, pss_one (L2N.ps_try_as (X := X') (i := 1) (c := .ref C1) (Wout := fun _ _ _ _ => False) (tb := fun W D σ H => ∃ Ech : XK, σ[0]? = some (some (.ref f)) ∧ (∀ cls d H', Ech cls d H' → W cls d σ H') ∧ H c' = some (CodeO c' q) ∧ tl Ech H (fun v H1 => D.rt v H1))
    (ts := fun e cls d D σ H => d = none ∧ σ[1]? = some (some (.ref e)) ∧ Tabs G.T H ∧ ∃ c ∈ cs, ∃ C, G.cls c = some C ∧ cls = .ref C ∧ ∀ H2, Ext G.T H H2 → D.rt (.str c) H2) rfl rfl nd rfl hy nm takesF (fun W pn xe tk _ => ?_) (fun e oe cls d pn hz hf => ?_)), ?_⟩
  · refine ⟨fun pins s' σ H' D I ⟨Ech, h1, h2, h3, h4⟩ => ?_⟩
    exact (pss_one (ps_ret (act W pn xe Ech p4 p5 tk))).run pins s' σ H' D I ⟨h1, h2, h3, h4⟩
  · refine ⟨fun pins s' σ H' D I ⟨ed, e1, tb, c, hcs, C, hC, ec, hq⟩ => ?_⟩
    subst ed ec
    exact (pss_one (ps_ret (pe_word (X := X') (G := G) (k := k) (i := 1) (C := C) (n := y) F h1 h2 hK hm h5 rH hz hf g2 rfl (.inl hy) d2 dy cy))).run pins s' σ H' D I ⟨e1, tb, c, hcs, hC, hq⟩
  · refine ⟨fun cls d H' => d = none ∧ Tabs G.T H' ∧ ∃ c ∈ cs, ∃ C, G.cls c = some C ∧ cls = .ref C ∧ ∀ H2, Ext G.T H' H2 → Q (.str c) H2, rfl, fun cls d H' ⟨ed, tb, c, hcs, C, hC, ec, hq⟩ => ?_, hc, h⟩
    subst ed ec
    refine ⟨true, ?_, fun _ e _ => ⟨rfl, rfl, tb, c, hcs, C, hC, rfl, hq⟩, fun z => (nomatch z)⟩
    show PySem.W.exmOne X.K _ _ = _
    rw [hK]
    exact hx c hcs C hC
theorem ToldP.of {k : Nat} {x a y x1 wd : Str} {cs : List Str} {st : Stmt} {args : Arguments} {dec : List Expr} {ret : Option Expr} {tp : List TypeParam} {sg : Scope} {ts : Option Scope} {b : Str} {pos : Pos} {p4 p5 p6 q1 q2 q3 q4 q5 q6 q7 : Pos} (d : FunT G x st)
    (hst : st = .FunctionDef x args [.Try [.Return (some (.Call (.Name a p4) [] [] p5)) p6] [.ExceptHandler (some (.Name x1 q1)) (some y) [.Return (some (.Call (.Name wd q2) [.Name y q3] [] q4)) q5] q6] [] [] q7] dec ret tp sg ts b pos)
    (S : FnScope [a, y] [a] sg) (hb : ∀ (kV doc pm : Value) (an : Option Addr) (cdv ct : Value) (us : List Value), us.length = [a].length → bindArgs (PySem.W.fnOf x x args (defBody st) sg .none kV doc pm an cdv ct) ⟨us, []⟩ = pure ([a].zip us)) (XC : XcOk G x1 cs) (F : WordP G k wd cs)
    (g1 : sg.names.lookup x1 = some .globalImplicit) (g2 : sg.names.lookup wd = some .globalImplicit) (d1 : (x1 == ("__debug__" : Str)) = false) (d2 : (wd == ("__debug__" : Str)) = false)
    (hy : sg.names.lookup y = some .local) (dy : (y == ("__debug__" : Str)) = false) (cy : (y == ("__classdict__" : Str)) = false) (ha : Vis sg a) (da : (a == ("__debug__" : Str)) = false) (ca : (a == ("__classdict__" : Str)) = false) : ToldP G k x cs := by
  subst hst
  obtain ⟨f, fd, F0, hm⟩ := d.ex
  have bnd := FunD.bindsN F0 hb
  obtain ⟨oc, od, dV, kV, doc, pm, an, cdv, ct, osl, rfl, lk, hcd, _, _⟩ := F0.ex
  exact ⟨a, f, args, _, sg, dV, kV, doc, pm, cdv, ct, oc, an, od, osl, [a, y], hm, F0.kp, lk, hcd, bnd, S, rfl, ha, da, ca, fun X q h1 h2 h3 h4 h5 hr => told_gives h1 h2 h3 h4 h5 hr XC F g1 g2 d1 d2 S.nd hy dy cy⟩
def eTold (cs : List Str) (f : Rho → Res PV) : Rho → Res PV := fun ρ => match f ρ with
  | .ok v => .ok v
  | .exc c => if c ∈ cs then .ok (.str c) else .bad
  | .bad => .bad
theorem JE.told [hcm : Cool B] {x q : Str} {cs : List Str} {c P : Addr} {kw k : Nat} {params : Arguments} {body : Expr} {scope : Scope} {f : Rho → Res PV} {p lpos pos : Pos} (F : ToldP G kw x cs) (hsk : ∀ c ∈ cs, PyData.strOk c = true) (hkw : kw + 1 ≤ B.k) (hg : Gb B x) (hco : B.co = some (c, q)) (LT : LamT G c P q) (hk : k + 4 ≤ B.k) (L : lamSB B.sc scope = true)
    (hdef : ∀ env : Env, defaultsOf params env = ([], [])) (hbind : ∀ (q : Str) (cl : List (Str × Addr)) (pm cv ctv : Value), bindArgs (PySem.W.kla_fn "<lambda>" q params body scope cl pm cv ctv) ⟨[], []⟩ = pure [])
    (hbody : JE G (B.lam scope k) body f) (hdb : (x == ("__debug__" : Str)) = false := by decide) : JE G B (.Call (.Name x p) [.Lambda params body scope lpos] [] pos) (eTold cs f) := ⟨fun X W ok tk => by
  obtain ⟨a, g, pg, bg, sg, dV, kV, doc, pm, cdv, ct, oc, an, od, osl, Ng, h1, h2, h3, h4, h5, h6, h7, h8, h9, h10, h11⟩ := F.ex
  obtain ⟨e1, e2⟩ := ok.co c q hco
  refine PE.imp (pe_lamN (X := X) (T := G.T) (TT := TTold G cs) (k := k) (c := c) (P := P) (t := fun E => tE G (fun cls d _ H => E cls d H) f) (show X.env.scope.names.lookup x = _ by rw [ok.sc]; exact hg) (by rw [ok.mg]; exact h1) (by rw [ok.K]; exact h2) (by rw [ok.K]; exact h3) (by rw [ok.K]; exact h4) (by rw [ok.K]; exact h5) h6 h7 h8
    (h11 X _ ok.prog ok.w ok.K ok.mg ok.base ((ok.room hcm.out).mono hkw)) (by rw [ok.base, ok.mg]; exact LT.tb) e1 (by rw [e2]; exact LT.mem) (by rw [e2]; exact LT.one) ((ok.room hcm.out).mono hk) (by rw [ok.sc]; exact lamS_by L) (hdef _) hbind
    (fun A outer s H E f c' hr => hbody.run _ _ (ok.lam hr) lam_takes) hdb h9 h10) fun σ H Q ⟨S, ρ, hl, hs, he⟩ => ⟨hl.tabs, fun H1 m => ?_⟩
  refine ⟨S, ρ, hl.ext m.ext, hs, ?_⟩
  unfold eTold at he
  cases hf : f ρ with
  | ok v =>
    rw [hf] at he
    exact fun v H' S' x1 l1 g1 r1 => he v H' S' (m.ext.trans x1) l1 ((Grow.refl H S).trans m.ext g1) r1
  | exc c =>
    rw [hf] at he
    dsimp only at he
    intro C H' hC x1
    split at he
    · rename_i hm
      exact ⟨rfl, (m.ext.trans x1).tb hl.tabs, c, hm, C, hC, rfl, fun H2 x2 => he (.str c) H2 S ((m.ext.trans x1).trans x2) (hl.ext ((m.ext.trans x1).trans x2)) (Grow.refl H S) (.str c (hsk c hm))⟩
    · exact he.elim
  | bad => rw [hf] at he; exact he⟩
/-! ### the head's facts of the classes -/
def excCB (K : PySem.W.Frag) (D : Addr) : Bool :=
  decide (PySem.W.findIn K (.ref D) "__getattribute__" = some (some (.builtin "BaseException.__getattribute__"))) && (decide (PySem.W.findIn K (.ref D) "__getattr__" = some none) && (decide (PySem.W.subIn K (.ref D) (.type "BaseException") = some true) && (PySem.W.hasDictIn K D &&
    (decide (PySem.W.findIn K (.ref D) "__class__" = some (some (.builtin "object.__class__"))) && (decide (PySem.W.specialIn K (.builtin "object.__class__") "__get__" = some (some (.builtin "getset_descriptor.__get__"))) && (decide (PySem.W.takesIn K (.builtin "object.__class__") = some true) && decide (PySem.W.mroIn K D (.type "object") = some true)))))))
theorem excC_of {K : PySem.W.Frag} {D : Addr} (h : excCB K D = true) : ExcC K D := by
  simp only [excCB, Bool.and_eq_true, decide_eq_true_eq] at h
  obtain ⟨h1, h2, h3, h4, h5, h6, h7, h8⟩ := h
  exact ⟨h1, h2, h3, h4, h5, h6, h7, h8⟩
def xcB (sk : Str) (cs : List Str) (K : PySem.W.Frag) : Bool :=
  cs.all fun c => excCB K (He.ga K c) && (decide (PySem.W.kitOne K (.ref (He.ga K c)) (.type "ValueError") = some true) && (decide (PySem.W.exmOne K (.ref (He.ga K c)) (.ref (He.ga K sk)) = some true) && cs.all fun d => decide (PySem.W.kitOne K (.ref (He.ga K c)) (.ref (He.ga K d)) = some (c == d))))
theorem xcOk_of {P : Program} {w : World} {K : PySem.W.Frag} {mg : Str → Option Value} {base h : Heap} {tf : List He.Defn} {clo : Addr → Option (Res PV)} {sk : Str} {cs : List Str} (X : K.In h) (N : h.Ns mainGlobals mg) (g : ∀ c ∈ sk :: cs, (He.Fa.glo c).ok K = true) (b : xcB sk cs K = true) : XcOk (gcT P w K mg base tf clo) sk cs := by
  have cl : ∀ {x : Str}, x ∈ sk :: cs → clsOf mg x = some (He.ga K x) ∧ mg x = some (.ref (He.ga K x)) := fun {x} hx => by
    have e := He.glo_ok X N (g x hx)
    exact ⟨by unfold clsOf; rw [e], e⟩
  have b' := fun c (hc : c ∈ cs) => List.all_eq_true.mp b c hc
  simp only [Bool.and_eq_true, decide_eq_true_eq] at b'
  refine ⟨fun c hc => ⟨_, (cl (List.mem_cons_of_mem _ hc)).1, (cl (List.mem_cons_of_mem _ hc)).2, excC_of (b' c hc).1, (b' c hc).2.1⟩, fun c hc d hd C D eC eD => ?_, _, (cl List.mem_cons_self).2, fun c hc C eC => ?_⟩
  · have e1 := (cl (List.mem_cons_of_mem _ hc)).1.symm.trans eC
    have e2 := (cl (List.mem_cons_of_mem _ hd)).1.symm.trans eD
    cases e1; cases e2
    exact of_decide_eq_true (List.all_eq_true.mp (b' c hc).2.2.2 d hd)
  · have e1 := (cl (List.mem_cons_of_mem _ hc)).1.symm.trans eC
    cases e1
    exact (b' c hc).2.2.1
end Pv
end
section
set_option Elab.async false
set_option linter.all false
set_option maxRecDepth 100000
set_option maxHeartbeats 2000000
namespace Pv
open PySem PySem.Spec PyProof.Rows L2
variable {G : Gc} {B : Bx}
/-! ### zip of three -/
def Itz3 (K : PySem.W.Frag) (b c e : Bool) (a d g : Addr) : It :=
  ⟨fun i H => ∃ (xs ys zs : List V) (x y z : V), SqB K H b a xs ∧ SqB K H c d ys ∧ SqB K H e g zs ∧ xs[i]? = some x ∧ ys[i]? = some y ∧ zs[i]? = some z,
    fun i H v H' => ∃ T x y z, v = .ref T ∧ H T = none ∧ H' = upd H T (.tup [x, y, z]) ∧ (∀ xs, SqB K H b a xs → xs[i]? = some x) ∧ (∀ ys, SqB K H c d ys → ys[i]? = some y) ∧ ∀ zs, SqB K H e g zs → zs[i]? = some z,
    fun i H => ∃ xs ys zs : List V, SqB K H b a xs ∧ SqB K H c d ys ∧ SqB K H e g zs ∧ min (min xs.length ys.length) zs.length = i⟩
theorem turn_zip3 {P : Program} {w : World} {K : PySem.W.Frag} {elts : List Expr} {kk : Nat} {tpos : Pos} (b c f : Bool) {a d g z TI TO i1 i2 i3 : Addr} (D : ZipSep3 z TI TO i1 i2 i3 [i1, a] [i2, d] [i3, g]) (h1 : a ≠ i1) (h2 : d ≠ i2) (h3 : g ≠ i3) :
    Turn P w K (.Tuple elts kk tpos) (Itz3 K b c f a d g) [z, TI, TO, i1, i2, i3] z (fun i h => IsZip h z TI TO .none ∧ IsTupOf3 h TI (.ref i1) (.ref i2) (.ref i3) ∧ (∃ x y u, IsTupOf3 h TO x y u) ∧ IterAt b h i1 a i ∧ IterAt c h i2 d i ∧ IterAt f h i3 g i) where
  mem := by simp
  obj := fun i h st e he => by
    obtain ⟨hz, hTI, ⟨x, y, u, hTO⟩, q1, q2, q3⟩ := st
    have e' : e = z ∨ e = TI ∨ e = TO ∨ e = i1 ∨ e = i2 ∨ e = i3 := by simpa using he
    rcases e' with q | q | q | q | q | q
    · rw [q]; exact ⟨_, hz, fun v q => nomatch q⟩
    · rw [q]; exact ⟨_, hTI, fun v q => nomatch q⟩
    · rw [q]; exact ⟨_, hTO, fun v q => nomatch q⟩
    · rw [q]; exact iterAt_obj q1
    · rw [q]; exact iterAt_obj q2
    · rw [q]; exact iterAt_obj q3
  keep := fun i h h' st k => by
    obtain ⟨hz, hTI, ⟨x, y, u, hTO⟩, q1, q2, q3⟩ := st
    exact ⟨k z (by simp) _ hz, k TI (by simp) _ hTI, ⟨x, y, u, k TO (by simp) _ hTO⟩, iterAt_at q1 fun o q => k i1 (by simp) o q, iterAt_at q2 fun o q => k i2 (by simp) o q, iterAt_at q3 fun o q => k i3 (by simp) o q⟩
  item := by
    intro X hP hw hK hc i pins s σ H E I hf st hg
    subst hP hw hK
    obtain ⟨hz, hTI, ⟨x0, y0, z0, hTO⟩, q1, q2, q3⟩ := st
    obtain ⟨xs, ys, zs, x, y, zv, hqx, hqy, hqz, hx, hy, hzv⟩ := hg
    obtain ⟨its, rv, p1, _, _⟩ := Inv.srcB I hqx
    obtain ⟨its2, rv2, p2, _, _⟩ := Inv.srcB I hqy
    obtain ⟨its3, rv3, p3, _, _⟩ := Inv.srcB I hqz
    obtain ⟨u, hu, ru⟩ := rv.get hx
    obtain ⟨u2, hu2, ru2⟩ := rv2.get hy
    obtain ⟨u3, hu3, ru3⟩ := rv3.get hzv
    have gg := GoesN.zip3 (prog := X.prog) (w := X.w) (A := X.A) (elts := elts) (x1 := kk) (pos := tpos) D (drawB (A := X.A.in1) (I.ok.hd hc) b i1 a h1 its.toArray) (drawB (A := X.A.in1) (I.ok.hd hc) c i2 d h2 its2.toArray) (drawB (A := X.A.in1) (I.ok.hd hc) f i3 g h3 its3.toArray)
    have hlt : i < min (min its.toArray.size its2.toArray.size) its3.toArray.size := by
      have := getLt hu; have := getLt hu2; have := getLt hu3
      simp; omega
    refine gg.goes i s _ E hlt ⟨hz, hTI, ⟨_, _, _, hTO⟩, ⟨q1, p1⟩, ⟨q2, p2⟩, ⟨q3, p3⟩⟩ fun v h' tk hY hSt hk _ => ?_
    obtain ⟨T, x', y', w', rfl, hT, hx', hy', hw', htup⟩ := hY
    obtain ⟨z', TI', TO', ⟨q1', _⟩, ⟨q2', _⟩, ⟨q3', _⟩⟩ := hSt
    have ex : x' = u := by
      have q : its[i]? = some x' := by simpa using hx'
      rw [hu] at q; exact (Option.some.inj q).symm
    have ey : y' = u2 := by
      have q : its2[i]? = some y' := by simpa using hy'
      rw [hu2] at q; exact (Option.some.inj q).symm
    have ew : w' = u3 := by
      have q : its3[i]? = some w' := by simpa using hw'
      rw [hu3] at q; exact (Option.some.inj q).symm
    subst ex ey ew
    have new : ObjOk X.prog X.w (upd H T (.tup [x, y, zv])) h' T (.tup [x, y, zv]) :=
      ⟨by show 3 ≤ sizeLine; decide, [x', y', w'], .cons ru (.cons ru2 (.cons ru3 .nil)), htup⟩
    have I1 : Inv X pins σ (upd H T (.tup [x, y, zv])) { s with heap := h', toks := tk } := I.turnedNew (t' := tk) (ch := [z, TI, TO, i1, i2, i3]) (fun e o he q => hk e o (fun m => he (by
        have m' : e = z ∨ e = TO ∨ e = i1 ∨ e = i2 ∨ e = i3 := by simpa using m
        rcases m' with r | r | r | r | r <;> simp [r])) q) hf hT new
    refine ⟨.ref T, _, I1, rfl, ⟨T, x, y, zv, rfl, I.hok.fresh hT, rfl, fun l hl => by rw [Inv.srcB_inj I hl hqx]; exact hx, fun l hl => by rw [Inv.srcB_inj I hl hqy]; exact hy, fun l hl => by rw [Inv.srcB_inj I hl hqz]; exact hzv⟩, ⟨z', TI', TO', q1', q2', q3'⟩, fun e he => ?_⟩
    have hlt : e < s.heap.objs.size := by
      have e' : e = z ∨ e = TI ∨ e = TO ∨ e = i1 ∨ e = i2 ∨ e = i3 := by simpa using he
      rcases e' with q | q | q | q | q | q
      · rw [q]; exact Heap.lt_size hz
      · rw [q]; exact Heap.lt_size hTI
      · rw [q]; exact Heap.lt_size hTO
      · rw [q]; obtain ⟨_, e1, _⟩ := iterAt_obj q1; exact Heap.lt_size e1
      · rw [q]; obtain ⟨_, e1, _⟩ := iterAt_obj q2; exact Heap.lt_size e1
      · rw [q]; obtain ⟨_, e1, _⟩ := iterAt_obj q3; exact Heap.lt_size e1
    rw [upd_ne (Nat.ne_of_lt (Nat.lt_of_lt_of_le hlt hT))]
    exact (hf e he).1
  done := by
    intro X hP hw hK hc i pins s σ H E I hf st hg
    subst hP hw hK
    obtain ⟨hz, hTI, ⟨x0, y0, z0, hTO⟩, q1, q2, q3⟩ := st
    obtain ⟨xs, ys, zs, hqx, hqy, hqz, hend⟩ := hg
    obtain ⟨its, rv, p1, _, _⟩ := Inv.srcB I hqx
    obtain ⟨its2, rv2, p2, _, _⟩ := Inv.srcB I hqy
    obtain ⟨its3, rv3, p3, _, _⟩ := Inv.srcB I hqz
    have gg := GoesN.zip3 (prog := X.prog) (w := X.w) (A := X.A) (elts := elts) (x1 := kk) (pos := tpos) D (drawB (A := X.A.in1) (I.ok.hd hc) b i1 a h1 its.toArray) (drawB (A := X.A.in1) (I.ok.hd hc) c i2 d h2 its2.toArray) (drawB (A := X.A.in1) (I.ok.hd hc) f i3 g h3 its3.toArray)
    have en : min (min its.toArray.size its2.toArray.size) its3.toArray.size = i := by rw [List.size_toArray, List.size_toArray, List.size_toArray, ← rv.length, ← rv2.length, ← rv3.length]; exact hend
    refine gg.stops s _ E ?_ fun h' tk hk _ => I.turnedL (t' := tk) (ch := [z, TI, TO, i1, i2, i3]) (fun e o he q => hk e o (fun m => he (by
        have m' : e = z ∨ e = TO ∨ e = i1 ∨ e = i2 ∨ e = i3 := by simpa using m
        rcases m' with r | r | r | r | r <;> simp [r])) q) hf
    rw [en]
    exact ⟨hz, hTI, ⟨_, _, _, hTO⟩, ⟨q1, p1⟩, ⟨q2, p2⟩, ⟨q3, p3⟩⟩
  self := fun A i s Q E st h => wpAny_pyIter_zip st.1 h
theorem vals3 {x y z : V} {us : List Value} (r : Vals [x, y, z] us) : ∃ u v w, us = [u, v, w] ∧ RelV x u ∧ RelV y v ∧ RelV z w := by
  cases r with
  | cons r1 r => cases r with
    | cons r2 r => cases r with
      | cons r3 r => cases r; exact ⟨_, _, _, rfl, r1, r2, r3⟩
theorem pi_zip3 {X : Cx} {e e2 e3 : Expr} {ta : TA} {p pos tpos : Pos} {elts : List Expr} {kk : Nat} (hg : Gl X "zip") (hm : X.mg "zip" = none) (ha : PA X [e, e2, e3] ta) (hs : starEach [e, e2, e3] X.env = (false, eval e X.env) :: starEach [e2, e3] X.env) (hpl : (backTo pos (starEach [e2, e3] X.env)).any (·.1) = false) :
    PI X (.Tuple elts kk tpos) (.Call (.Name "zip" p) [e, e2, e3] [] pos) (fun σ H R => ta σ H fun vs H1 => ∃ b c f a d g xs ys zs, vs = [.ref a, .ref d, .ref g] ∧ SqB X.K H1 b a xs ∧ SqB X.K H1 c d ys ∧ SqB X.K H1 f g zs ∧ R (Itz3 X.K b c f a d g) H1) := by
  refine ⟨fun pins s σ H R I h => ?_⟩
  refine Call_ (ld_blt I hg hm PyProof.Rows.boot_zip (PyProof.Rows.callWith_type1 (thn (ha.run pos pins s σ H _ I h) fun us s1 ⟨vs, H1, I1, r1, q1⟩ => ?_) hs hpl))
  obtain ⟨b, c, f, a, d, g, xs, ys, zs, rfl, hqx, hqy, hqz, q⟩ := q1
  obtain ⟨u, u2, u3, rfl, ru, ru2, ru3⟩ := vals3 r1
  cases ru
  cases ru2
  cases ru3
  obtain ⟨its, rv, hb, _, hlt⟩ := Inv.srcB I1 hqx
  obtain ⟨its2, rv2, hb2, _, hlt2⟩ := Inv.srcB I1 hqy
  obtain ⟨its3, rv3, hb3, _, hlt3⟩ := Inv.srcB I1 hqz
  refine zip_begins3 (begB b a its.toArray) (begB c d its2.toArray) (begB f g its3.toArray) hb hb2 hb3 fun h' hz hTI hTO h1 h2 h3 hsz hk => wpAny_pyIter_zip hz ?_
  have I2 : Inv X pins σ H1 { s1 with heap := h' } := I1.kept (t' := s1.toks) hk
  refine ⟨s1.heap.objs.size + 5, [s1.heap.objs.size + 5, s1.heap.objs.size + 3, s1.heap.objs.size + 4, s1.heap.objs.size, s1.heap.objs.size + 1, s1.heap.objs.size + 2], _, _, H1, rfl, I2, turn_zip3 b c f (zip_sep3 (fp1 := [a]) (fp2 := [d]) (fp3 := [g]) (by intro m hm; simp at hm; rw [hm]; exact hlt) (by intro m hm; simp at hm; rw [hm]; exact hlt2) (by intro m hm; simp at hm; rw [hm]; exact hlt3)) (Nat.ne_of_lt hlt) (Nat.ne_of_lt (Nat.lt_succ_of_lt hlt2)) (Nat.ne_of_lt (Nat.lt_succ_of_lt (Nat.lt_succ_of_lt hlt3))), ⟨hz, hTI, ⟨_, _, _, hTO⟩, iterAt0 h1, iterAt0 h2, iterAt0 h3⟩, fun m hm => ?_, q⟩
  have hle : s1.heap.objs.size ≤ m := by
    have e' : m = s1.heap.objs.size + 5 ∨ m = s1.heap.objs.size + 3 ∨ m = s1.heap.objs.size + 4 ∨ m = s1.heap.objs.size ∨ m = s1.heap.objs.size + 1 ∨ m = s1.heap.objs.size + 2 := by simpa using hm
    rcases e' with z | z | z | z | z | z <;> rw [z] <;> first | exact Nat.le_add_right _ _ | exact Nat.le_refl _
  exact I1.fpOk hle (I1.hok.fresh hle)
def zip3P : List PV → List PV → List PV → List PV
  | p :: ps, q :: qs, r :: rs => .tup [p, q, r] :: zip3P ps qs rs
  | _, _, _ => []
theorem zip3P_get : ∀ (ps qs rs : List PV) (i : Nat) (t : PV), (zip3P ps qs rs)[i]? = some t → ∃ p q r, ps[i]? = some p ∧ qs[i]? = some q ∧ rs[i]? = some r ∧ t = .tup [p, q, r]
  | [], _, _, i, r, h => by simp [zip3P] at h
  | p :: ps, [], _, i, r, h => by simp [zip3P] at h
  | p :: ps, q :: qs, [], i, r, h => by simp [zip3P] at h
  | p :: ps, q :: qs, r :: rs, 0, t, h => by simp [zip3P] at h; exact ⟨p, q, r, rfl, rfl, rfl, h.symm⟩
  | p :: ps, q :: qs, r :: rs, i + 1, t, h => by
    simp only [zip3P, List.getElem?_cons_succ] at h
    simpa using zip3P_get ps qs rs i t h
theorem zip3P_len : ∀ (ps qs rs : List PV), (zip3P ps qs rs).length = min (min ps.length qs.length) rs.length
  | [], qs, rs => by simp [zip3P]
  | p :: ps, [], rs => by simp [zip3P]
  | p :: ps, q :: qs, [] => by simp [zip3P]
  | p :: ps, q :: qs, r :: rs => by simp only [zip3P, List.length_cons, zip3P_len ps qs rs]; omega
theorem wk_zip3 {K : PySem.W.Frag} {S : Hp} {b c f : Bool} {a d g : Addr} {vs ws us : List V} {ps qs rs : List PV} (r : RpL S vs ps) (r' : RpL S ws qs) (r'' : RpL S us rs) (z : vs.length ≤ sizeLine) (h : ∀ S' H', Sub S S' → Le G.T S' H' → SqB K H' b a vs) (h' : ∀ S' H', Sub S S' → Le G.T S' H' → SqB K H' c d ws) (h'' : ∀ S' H', Sub S S' → Le G.T S' H' → SqB K H' f g us) : WkJ G (Itz3 K b c f a d g) S (zip3P ps qs rs) where
  go := fun i p S' H' hp hs hl' => by
    obtain ⟨p1, q1, r1, e1, e2, e3, _⟩ := zip3P_get ps qs rs i p hp
    obtain ⟨v, hv, _⟩ := r.get e1
    obtain ⟨w, hw, _⟩ := r'.get e2
    obtain ⟨u, hu, _⟩ := r''.get e3
    exact ⟨vs, ws, us, v, w, u, h S' H' hs hl', h' S' H' hs hl', h'' S' H' hs hl', hv, hw, hu⟩
  yld := fun i p S' H' x H'' hp hs hl' hy => by
    obtain ⟨T, y, y2, y3, rfl, nT, rfl, hy, hy2, hy3⟩ := hy
    obtain ⟨p1, q1, r1, e1, e2, e3, rfl⟩ := zip3P_get ps qs rs i p hp
    obtain ⟨v, hv, rv⟩ := r.get e1
    obtain ⟨w, hw, rw'⟩ := r'.get e2
    obtain ⟨u, hu, ru⟩ := r''.get e3
    have q := hy vs (h S' H' hs hl')
    rw [hv] at q
    have ey := Option.some.inj q
    have q' := hy2 ws (h' S' H' hs hl')
    rw [hw] at q'
    have ey2 := Option.some.inj q'
    have q'' := hy3 us (h'' S' H' hs hl')
    rw [hu] at q''
    have ey3 := Option.some.inj q''
    rw [ey] at rv
    rw [ey2] at rw'
    rw [ey3] at ru
    have sub := Sub.upd (o := .tup [y, y2, y3]) (hl'.emp nT)
    exact ⟨upd S' T (.tup [y, y2, y3]), Ext.new nT, hl'.upd nT (fun _ z => by cases z) (by show 3 ≤ sizeLine; decide), Grow.upd hl' nT, .tup upd_same (.cons ((rv.mono hs).mono sub) (.cons ((rw'.mono hs).mono sub) (.cons ((ru.mono hs).mono sub) .nil)))⟩
  stop := fun S' H' hs hl' => ⟨vs, ws, us, h S' H' hs hl', h' S' H' hs hl', h'' S' H' hs hl', by rw [zip3P_len, r.length, r'.length, r''.length]⟩
  len := by rw [zip3P_len, ← r.length]; exact Nat.le_trans (Nat.min_le_left _ _) (Nat.le_trans (Nat.min_le_left _ _) z)
def iZip3 : List PV → Res (List PV)
  | [p, q, r] => match seqPV p, seqPV q, seqPV r with | some ps, some qs, some rs => .ok (zip3P ps qs rs) | _, _, _ => .bad
  | _ => .bad
def fZip3 (f g h : Rho → Res PV) : Rho → Res (List PV) := fun ρ => (aCons f (aCons g (aCons h aNil)) ρ).bind iZip3
theorem RpL.three {S : Hp} {vs : List V} {p q t : PV} (r : RpL S vs [p, q, t]) : ∃ v w u, vs = [v, w, u] ∧ Rp S v p ∧ Rp S w q ∧ Rp S u t := by
  cases r with
  | cons r1 r => cases r with
    | cons r2 r => cases r with
      | cons r3 r => cases r; exact ⟨_, _, _, rfl, r1, r2, r3⟩
theorem JI.zip3 {elts : List Expr} {kk : Nat} {tpos : Pos} {a b c : Expr} {f g h : Rho → Res PV} {p pos : Pos} (hg : Gb B "zip") (hm : G.mg "zip" = none) (ha : JE G B a f) (hb : JE G B b g) (hc : JE G B c h) (hs : NoStar a := by exact fun _ _ => rfl) (hs' : NoStar b := by exact fun _ _ => rfl) (hs'' : NoStar c := by exact fun _ _ => rfl) : JI G B (.Tuple elts kk tpos) (.Call (.Name "zip" p) [a, b, c] [] pos) (fZip3 f g h) := ⟨fun X W ok tk => by
  refine PI.imp (pi_zip3 (show X.env.scope.names.lookup ("zip" : Str) = _ by rw [ok.sc]; exact hg) (by rw [ok.mg]; exact hm) ((JA.cons ha (JA.cons hb (JA.cons hc JA.nil hs'') hs') hs).run X W ok tk) (hs _ _) ((JA.cons hb (JA.cons hc JA.nil hs'') hs').ns _ _)) fun σ H R ⟨S, ρ, hl, hr, he⟩ => ?_
  refine ⟨S, ρ, hl, hr, EndI.thenA he fun ps v H1 S1 ep e1 l1 g1 r1 he => ?_⟩
  unfold iZip3 at he
  split at he
  · split at he
    · rename_i qs1 qs2 qs3 hq1 hq2 hq3
      obtain ⟨v, w, u, rfl, rv, rw', ru⟩ := r1.three
      obtain ⟨b, a, vs, rfl, ra, z, hsq⟩ := rv.seq (K := X.K) l1 hq1
      obtain ⟨c, d, ws, rfl, rd, z', hsq'⟩ := rw'.seq (K := X.K) l1 hq2
      obtain ⟨f, g, us, rfl, rg, z'', hsq''⟩ := ru.seq (K := X.K) l1 hq3
      exact ⟨b, c, f, a, d, g, vs, ws, us, rfl, hsq S1 H1 (Sub.refl _) l1, hsq' S1 H1 (Sub.refl _) l1, hsq'' S1 H1 (Sub.refl _) l1, he.here l1 (wk_zip3 ra rd rg z hsq hsq' hsq'')⟩
    · exact he.elim
  · exact he.elim⟩
end Pv
end
section
set_option Elab.async false
set_option linter.all false
set_option maxRecDepth 100000
set_option maxHeartbeats 2000000
namespace Pv
open PySem PySem.Spec PyProof.Rows L2
variable {G : Gc} {B : Bx}
/-! ### for .. in a if c else b -/
def tIfI (tc : TT) (ta tb : TI) : TI := fun σ H R => tc σ H fun d H1 => if d = true then ta σ H1 R else tb σ H1 R
theorem pi_ifx {X : Cx} {tg c a b : Expr} {tc : TT} {ta tb : TI} {pos : Pos} (hc : PT X c tc) (ha : PI X tg a ta) (hb : PI X tg b tb) : PI X tg (.IfExp c a b pos) (tIfI tc ta tb) := by
  refine ⟨fun pins s σ H R I h => ?_⟩
  refine wpAny_IfExp (thn (hc.run pins s σ H _ I h) fun d s1 ⟨H1, I1, q1⟩ => ?_)
  cases d with
  | true => exact ha.run pins s1 σ H1 R I1 q1
  | false => exact hb.run pins s1 σ H1 R I1 q1
theorem tS_for {K : PySem.W.Frag} {W : WX} {f : Rho → Res (List PV)} {pt : Pat} {b : Om → SR} {z : List Nat} {D : Ends} {σ : L2.St} {H H0 S0 S : Hp} {ω : Om} (k : StOk G H0 S0 S H σ ω) (he : EndS G W H0 S0 D (sFor z f pt b ω)) : tFor (tI G W f) (gPat K pt) (tS G W b) D σ H := by
  obtain ⟨S1, _, k1⟩ := k.frz z
  refine ⟨S1, hid (frz ω z), k1.le, k1.hid, ?_⟩
  unfold sFor at he
  cases e1 : f (hid (frz ω z)) with
  | exc c => rw [e1] at he; exact fun C H' hC e => he C σ H' hC (k1.ext.trans e)
  | bad => rw [e1] at he; exact he
  | ok ps =>
    rw [e1] at he
    have he : EndS G W H0 S0 D (sForL pt b ps (frz ω z)) := he
    intro J H1 S2 e2 l2 g2 wk
    have k2 := k1.step e2 l2 g2
    refine ⟨fun i m σ H => m = ps.length - i ∧ i ≤ ps.length ∧ ∃ S ω, StOk G H0 S2 S H σ ω ∧ EndS G W H0 S0 D (sForL pt b (ps.drop i) ω), ⟨ps.length, by simp, Nat.zero_le _, S2, frz ω z, k2.base, he⟩, ?_⟩
    rintro i m σ H ⟨rfl, hi, S, ω, k, he⟩
    by_cases hlt : i < ps.length
    · have hp0 : ps[i]? = some ps[i] := by simp [hlt]
      rw [List.drop_eq_getElem_cons hlt] at he
      unfold sForL at he
      cases epat : patO ω pt ps[i] with
      | none => rw [epat] at he; exact he.elim
      | some ω1 =>
        rw [epat] at he
        dsimp only at he
        refine .inr ⟨wk.go i _ S H hp0 k.grow.sub k.le, fun σ H => (i + 1 ≤ ps.length ∧ ∃ S ω, StOk G H0 S2 S H σ ω ∧ EndS G W H0 S0 D (sForL pt b (ps.drop (i + 1)) ω)), fun σ' H' q => ⟨ps.length - (i + 1), by omega, rfl, q⟩, fun x H' hy => ?_⟩
        obtain ⟨S3, e3, l3, g3, r3⟩ := wk.yld i _ S H x H' hp0 k.grow.sub k.le hy
        refine gPatO_ok (k.step e3 l3 g3) r3 epat fun σ' k' => ⟨H0, S2, S3, ω1, k', ?_⟩
        cases e4 : b ω1 with
        | nx ω' => rw [e4] at he; exact fun σ2 H2 S2' k2' => ⟨hlt, S2', ω', k2', he⟩
        | ct ω' => rw [e4] at he; exact fun σ2 H2 S2' k2' => ⟨hlt, S2', ω', k2', he⟩
        | bk ω' => rw [e4] at he; exact EndS.unbase (r := .nx ω') k2.grow he
        | rt p => rw [e4] at he; exact EndS.unbase (r := .rt p) k2.grow he
        | exc c => rw [e4] at he; exact he
        | bad => rw [e4] at he; exact he
    · have ei : i = ps.length := by omega
      subst ei
      rw [List.drop_length] at he
      exact .inl ⟨wk.stop S H k.grow.sub k.le, he σ H S (k.unbase k2.grow)⟩
def sForI (z : List Nat) (t : Rho → Res Bool) (fa fb : Rho → Res (List PV)) (pt : Pat) (g : Om → SR) : Om → SR := fun ω => SR.of (evT t ω) fun c => sFor z (if c = true then fa else fb) pt g ω
theorem JS.forI [hcm : Cool B] {tg c a b : Expr} {body : List Stmt} {t : Rho → Res Bool} {fa fb : Rho → Res (List PV)} {pt : Pat} {g : Om → SR} {ipos pos : Pos} (z : List Nat) (hc : JT G B c t) (ha : JI G B tg a fa) (hb : JI G B tg b fb) (hg : JG G B tg pt) (hbd : JSs G B body g) (hs : ∀ env x, foldedSetIterable (.IfExp c a b ipos) env x = pure x := by intro _ _; rfl) :
    JS G B (.For tg (.IfExp c a b ipos) body [] pos) (sForI z t fa fb pt g) := ⟨fun X W ok cs tk => by
  refine PS.imp (ps_for cs.pass (ok.calm hcm.out) (pi_ifx (hc.run X W ok tk) (ha.run X W ok tk) (hb.run X W ok tk)) (hg.run X ok) (hbd.run X W ok cs tk) (hs _)) fun D σ H ⟨H0, S0, S, ω, k, he⟩ => ?_
  unfold sForI at he
  refine evT_run (H0 := H0) (S0 := S0) k ?_
  cases e1 : evT t ω with
  | exc c => rw [e1] at he; exact fun C H' hC e => he C σ H' hC e
  | bad => rw [e1] at he; exact he
  | ok d =>
    rw [e1] at he
    intro H' S' k'
    have he : EndS G W H0 S0 D (sFor z (if d = true then fa else fb) pt g ω) := he
    cases d with
    | true => exact tS_for k' he
    | false => exact tS_for k' he⟩
end Pv
end
section
set_option Elab.async false
set_option linter.all false
set_option maxRecDepth 100000
set_option maxHeartbeats 2000000
namespace Pv
open PySem PySem.Spec PyProof.Rows L2 LamX
/-! ### the head, with one further test of the fragment -/
def obsX (xb : PySem.W.Frag → Bool) (n : Nat) (fa : List He.Fa) (fn : List He.DefD) (tf : List He.Defn) (g : Addr → Option Obj) : (He.AlD × Bool) × Bool := (obsP n fa fn tf g, xb (fragT n g))
def hookX (xb : PySem.W.Frag → Bool) (n : Nat) (fa : List He.Fa) (fn : List He.DefD) (tf : List He.Defn) : PySem.W.Hook where
  α := (He.AlD × Bool) × Bool
  obs := fun s => obsX xb n fa fn tf s.heap.get?
  val := fun _ => ((He.valD fn, true), true)
  says := fun _ h => ∃ K : PySem.W.Frag, K.In h ∧ SaysP fa fn tf h K ∧ xb K = true
  of := fun _ _ e => ⟨_, He.frT_in, saysP_of (congrArg Prod.fst e), congrArg Prod.snd e⟩
  keeps := fun _ _ _ ⟨K, hK, c, x⟩ k => ⟨K, PySem.W.Frag.In.keeps hK k, ⟨c.d, c.nl, c.hd, c.out, fun p hp => k _ _ (c.empty p hp), c.nd⟩, x⟩
theorem obsX_eq {xb : PySem.W.Frag → Bool} {n : Nat} {fa : List He.Fa} {fn : List He.DefD} {tf : List He.Defn} {g : Addr → Option Obj} {s : Shared} (h : ∀ a, g a = s.heap.get? a) : obsX xb n fa fn tf g = (hookX xb n fa fn tf).obs s := by
  have e : g = s.heap.get? := funext h
  rw [e] <;> rfl
end Pv
end
section
set_option Elab.async false
set_option linter.all false
set_option maxRecDepth 100000
set_option maxHeartbeats 4000000
namespace Pv.LW
open PySem PySem.Spec PyProof.Rows L2 Pv

def cs_word : List PySem.Str := ["BadBuild", "BadName", "BadNumber", "BadText", "BadTree", "Locked", "Most", "Points", "Wants"]
theorem cs_ok : ∀ c ∈ cs_word, PyData.strOk c = true := by decide +kernel
def m__law_word (a : PySem.Addr) (kc : PySem.Str) : Om → SR := (sSeq (sAsg [] false (eLst (aCons (eIsX a (kc == "BadBuild") (eV 0)) (aCons (eIsX a (kc == "BadName") (eV 0)) (aCons (eIsX a (kc == "BadNumber") (eV 0)) (aCons (eIsX a (kc == "BadText") (eV 0)) aNil))))) 1) (sSeq (sAsg [] false (eBin opAdd (eV 1) (eLst (aCons (eIsX a (kc == "BadTree") (eV 0)) (aCons (eIsX a (kc == "Locked") (eV 0)) (aCons (eIsX a (kc == "Most") (eV 0)) (aCons (eIsX a (kc == "Points") (eV 0)) aNil)))))) 1) (sSeq (sAsg [] false (eBin opAdd (eV 1) (eLst (aCons (eIsX a (kc == "Wants") (eV 0)) aNil))) 1) (sSeq (sIf (bOr (eTru (eBin opNe (eCall bSumL (aCons (eB2I (eV 1)) aNil)) (eC (.int 1)))) (bNot (eTru (eIsX a true (eV 0))))) (sRet (eC (.str "other"))) sSkip) (sSeq (sAsg [] false (eLst (aCons (eC (.str "BadBuild")) (aCons (eC (.str "BadName")) (aCons (eC (.str "BadNumber")) (aCons (eC (.str "BadText")) (aCons (eC (.str "BadTree")) (aCons (eC (.str "Locked")) (aCons (eC (.str "Most")) (aCons (eC (.str "Points")) (aCons (eC (.str "Wants")) aNil)))))))))) 3) (sRet (eBin opIx (eV 3) (eIdx (eV 1) (eC (.bl true))))))))))
end Pv.LW
end
section
set_option Elab.async false
set_option linter.all false
set_option maxRecDepth 100000
set_option maxHeartbeats 4000000
namespace Pv.LW
open PySem PySem.Spec PyProof.Rows L2 Pv

def cs_is_let : List PySem.Str := ["Most", "Wants", "Locked", "Points"]
def m_skill_of : Om → SR := (sRet (eBin opIx (eLc (fSeq (eBin opIx (eV 0) (eC (.int 0)))) [2] (.nm 2) (eTru (eBin opEq (eBin opIx (eV 2) (eC (.int 0))) (eV 1))) (eV 2)) (eC (.int 0))))
def f_skill_of : List PV → Res PV := mFn 3 m_skill_of
def m_with_level : Om → SR := (sSeq (sAsg [] false (eIdx (eCall f_names_of (aCons (eV 0) aNil)) (eV 2)) 4) (sRet (eBin opAdd (eBin opAdd (eSl (eV 1) sNone (sPart (eV 4))) (eTup (aCons (eBin opAdd (eBin opIx (eV 1) (eV 4)) (eV 3)) aNil))) (eSl (eV 1) (sPart (eBin opAdd (eV 4) (eC (.int 1)))) sNone))))
def f_with_level : List PV → Res PV := mFn 5 m_with_level
def m_check_up : Om → SR := (sSeq (sAsg [] false (eCall f_levels_of (aCons (eV 0) (aCons (eV 1) aNil))) 4) (sSeq (sIf (eTru (eBin opEq (eBin opIx (eV 4) (eV 2)) (eBin opIx (eCall f_skill_of (aCons (eV 0) (aCons (eV 2) aNil))) (eC (.int 1))))) (sRaise "Most") sSkip) (sSeq (sIf (eTru (eBin opNe (eCall f_lacking (aCons (eV 0) (aCons (eV 4) (aCons (eV 2) aNil)))) (eLst aNil))) (sRaise "Wants") sSkip) (sSeq (sAsg [] false (eCall f_with_level (aCons (eV 0) (aCons (eV 1) (aCons (eV 2) (aCons (eC (.int 1)) aNil))))) 5) (sSeq (sIf (bNot (eTru (eCall f_holds (aCons (eV 0) (aCons (eV 5) aNil))))) (sRaise "Locked") sSkip) (sIf (eTru (eBin opGt (eCall f_cost_of (aCons (eV 0) (aCons (eV 5) aNil))) (eV 3))) (sRaise "Points") sSkip))))))
def f_check_up : List PV → Res PV := mFn 6 m_check_up
def m_check_down : Om → SR := (sSeq (sIf (eTru (eBin opEq (eBin opIx (eCall f_levels_of (aCons (eV 0) (aCons (eV 1) aNil))) (eV 2)) (eC (.int 0)))) (sRaise "Most") sSkip) (sIf (bNot (eTru (eCall f_holds (aCons (eV 0) (aCons (eCall f_with_level (aCons (eV 0) (aCons (eV 1) (aCons (eV 2) (aCons (eNeg (eC (.int 1))) aNil))))) aNil))))) (sRaise "Wants") sSkip))
def f_check_down : List PV → Res PV := mFn 3 m_check_down
def m_learned : Om → SR := (sSeq (sExpr (eCall f_need_build (aCons (eV 0) (aCons (eV 1) aNil)))) (sSeq (sExpr (eCall f_need_name (aCons (eV 0) (aCons (eV 2) aNil)))) (sSeq (sExpr (eCall f_need_points (aCons (eV 3) aNil))) (sSeq (sExpr (eCall f_check_up (aCons (eV 0) (aCons (eV 1) (aCons (eV 2) (aCons (eV 3) aNil)))))) (sRet (eCall f_with_level (aCons (eV 0) (aCons (eV 1) (aCons (eV 2) (aCons (eC (.int 1)) aNil))))))))))
def f_learned : List PV → Res PV := mFn 4 m_learned
def m_lessened : Om → SR := (sSeq (sExpr (eCall f_need_build (aCons (eV 0) (aCons (eV 1) aNil)))) (sSeq (sExpr (eCall f_need_name (aCons (eV 0) (aCons (eV 2) aNil)))) (sSeq (sExpr (eCall f_check_down (aCons (eV 0) (aCons (eV 1) (aCons (eV 2) aNil))))) (sRet (eCall f_with_level (aCons (eV 0) (aCons (eV 1) (aCons (eV 2) (aCons (eNeg (eC (.int 1))) aNil)))))))))
def f_lessened : List PV → Res PV := mFn 3 m_lessened
def b_way_1 : Om → SR := (sIf (bAnd (eTru (eBin opLt (eV 5) (eV 6))) (eTru (eBin opEq (eCall f_lacking (aCons (eV 0) (aCons (eCall f_levels_of (aCons (eV 0) (aCons (eV 2) aNil))) (aCons (eV 4) aNil)))) (eLst aNil)))) (sSeq (sAsg [] false (eCall f_with_level (aCons (eV 0) (aCons (eV 2) (aCons (eV 4) (aCons (eC (.int 1)) aNil))))) 2) (sSeq (sApp [] false (eV 4) 3) sBrk)) sSkip)
def b_way_2 : Om → SR := (sFor [] (fZip3 (eCall f_names_of (aCons (eV 0) aNil)) (eV 2) (eV 1)) (.tp [4, 5, 6]) b_way_1)
def m_way : Om → SR := (sSeq (sExpr (eCall f_need_build (aCons (eV 0) (aCons (eV 1) aNil)))) (sSeq (sParN [] false (eBin opMul (eTup (aCons (eC (.int 0)) aNil)) (eCall bLen (aCons (eV 1) aNil))) (eLst aNil) 2 3) (sSeq (sWhl (eTru (eBin opNe (eV 2) (eV 1))) b_way_2 40) (sRet (eV 3)))))
def f_way : List PV → Res PV := mFn 7 m_way
def m_may_learn : Om → SR := (sSeq (sExpr (eCall f_need_build (aCons (eV 0) (aCons (eV 1) aNil)))) (sSeq (sExpr (eCall f_need_points (aCons (eV 2) aNil))) (sRet (eLc (fSeq (eCall f_names_of (aCons (eV 0) aNil))) [3] (.nm 3) (eTru (eLet cs_is_let (eCall f_check_up (aCons (eV 0) (aCons (eV 1) (aCons (eV 3) (aCons (eV 2) aNil))))))) (eV 3)))))
def f_may_learn : List PV → Res PV := mFn 4 m_may_learn
def m_may_give : Om → SR := (sSeq (sExpr (eCall f_need_build (aCons (eV 0) (aCons (eV 1) aNil)))) (sRet (eLc (fSeq (eCall f_names_of (aCons (eV 0) aNil))) [2] (.nm 2) (eTru (eLet cs_is_let (eCall f_check_down (aCons (eV 0) (aCons (eV 1) (aCons (eV 2) aNil)))))) (eV 2))))
def f_may_give : List PV → Res PV := mFn 3 m_may_give
def b_is_way_1 : Om → SR := (sSeq (sIf (bNot (eTru (eLet cs_is_let (eCall f_check_up (aCons (eV 0) (aCons (eV 3) (aCons (eV 4) (aCons (eC k_MOST_POINTS) aNil)))))))) (sRet (eC (.bl false))) sSkip) (sAsg [] false (eCall f_with_level (aCons (eV 0) (aCons (eV 3) (aCons (eV 4) (aCons (eC (.int 1)) aNil))))) 3))
def m_is_way : Om → SR := (sSeq (sExpr (eCall f_need_build (aCons (eV 0) (aCons (eV 1) aNil)))) (sSeq (sAsg [] false (eBin opMul (eTup (aCons (eC (.int 0)) aNil)) (eCall bLen (aCons (eV 1) aNil))) 3) (sSeq (sIf (bOr (bNot (eTru (eIsi "list" (eV 2)))) (bNot (eTru (eCall bAll (aCons (eLc (fSeq (eV 2)) [4] (.nm 4) bYes (eAnd (eIsi "str" (eV 4)) (eBin (opIn false) (eV 4) (eCall f_names_of (aCons (eV 0) aNil))))) aNil))))) (sRet (eC (.bl false))) sSkip) (sSeq (sFor [] (fSeq (eV 2)) (.nm 4) b_is_way_1) (sRet (eBin opEq (eV 3) (eV 1)))))))
def f_is_way : List PV → Res PV := mFn 5 m_is_way
end Pv.LW
end
section
set_option Elab.async false
set_option linter.all false
set_option maxRecDepth 100000
set_option maxHeartbeats 4000000
namespace Pv.LW
open PySem PySem.Spec PyProof.Rows L2 Pv

def b_law_1 : Om → SR := (sSeq (sAsg [] false (eTold cs_word (eCall f_learned (aCons (eV 3) (aCons (eV 6) (aCons (eV 10) (aCons (eV 7) aNil)))))) 11) (sSeq (sAsg [] false (eTold cs_word (eCall f_lessened (aCons (eV 3) (aCons (eV 6) (aCons (eV 10) aNil))))) 12) (sSeq (sIf (bOr (eTru (eBin opNe (eBin (opIn false) (eV 10) (eV 8)) (eIsi "tuple" (eV 11)))) (eTru (eBin opNe (eBin (opIn false) (eV 10) (eV 9)) (eIsi "tuple" (eV 12))))) (sRet (eC (.bl false))) sSkip) (sSeq (sIf (eTru (eIsi "tuple" (eV 11))) (sSeq (sIf (bOr (bNot (eTru (eCall f_is_build (aCons (eV 3) (aCons (eV 11) aNil))))) (bOr (eTru (eBin opNe (eCall f_lessened (aCons (eV 3) (aCons (eV 11) (aCons (eV 10) aNil)))) (eV 6))) (eTru (eBin opGt (eCall f_cost (aCons (eV 3) (aCons (eV 11) aNil))) (eV 7))))) (sRet (eC (.bl false))) sSkip) (sIf (bNot (eTru (eCall f_is_way (aCons (eV 3) (aCons (eV 11) (aCons (eBin opAdd (eCall f_way (aCons (eV 3) (aCons (eV 6) aNil))) (eLst (aCons (eV 10) aNil))) aNil)))))) (sRet (eC (.bl false))) sSkip)) sSkip) (sIf (eTru (eIsi "tuple" (eV 12))) (sSeq (sAsg [] false (eCall f_learned (aCons (eV 3) (aCons (eV 12) (aCons (eV 10) (aCons (eCall f_cost (aCons (eV 3) (aCons (eV 6) aNil))) aNil))))) 13) (sIf (bOr (bNot (eTru (eCall f_is_build (aCons (eV 3) (aCons (eV 12) aNil))))) (eTru (eBin opNe (eV 13) (eV 6)))) (sRet (eC (.bl false))) sSkip)) sSkip)))))
def b_law_2 : Om → SR := (sSeq (sAsg [] false (eCall f__law_drawn (aCons (eV 2) (aCons (eBin opAdd (eC (.int 30)) (eV 4)) aNil))) 5) (sSeq (sAsg [] false (eCall f__law_build (aCons (eV 3) (aCons (eV 5) aNil))) 6) (sSeq (sAsg [] false (eCall bMin2 (aCons (eC (.int 999)) (aCons (eBin opAdd (eCall f_cost (aCons (eV 3) (aCons (eV 6) aNil))) (eBin opMod (eBin opDiv (eV 5) (eC (.int 64))) (eC (.int 20)))) aNil))) 7) (sSeq (sPar [] false (eCall f_may_learn (aCons (eV 3) (aCons (eV 6) (aCons (eV 7) aNil)))) (eCall f_may_give (aCons (eV 3) (aCons (eV 6) aNil))) 8 9) (sSeq (sFor [] (fSeq (eCall f__law_names (aCons (eV 3) aNil))) (.nm 10) b_law_1) (sIf (bOr (eTru (eBin opNe (eBin opEq (eV 9) (eLst aNil)) (eBin opEq (eCall bSum (aCons (eV 6) aNil)) (eC (.int 0))))) (eTru (eBin opNe (eCall f_may_learn (aCons (eV 3) (aCons (eV 6) (aCons (eC (.int 0)) aNil)))) (eLst aNil)))) (sRet (eC (.bl false))) sSkip))))))
def b_law_3 : Om → SR := (sSeq (sAsg [] false (eCall f__law_drawn (aCons (eCall f__law_cell (aCons (eV 0) (aCons (eV 1) aNil))) (aCons (eV 1) aNil))) 2) (sSeq (sAsg [] false (eCall f__law_tree (aCons (eBin opDiv (eV 2) (eC (.int 64))) (aCons (eC (.int 6)) aNil))) 3) (sFor [] (fRange (eC (.int 5))) (.nm 4) b_law_2)))
def m_law : Om → SR := (sSeq (sFor [] (fRange (eCall bMax2 (aCons (eC (.int 1)) (aCons (eCall bMin2 (aCons (eC (.int 3)) (aCons (eCall bLen (aCons (eV 0) aNil)) aNil))) aNil)))) (.nm 1) b_law_3) (sRet (eC (.bl true))))
def f_law : List PV → Res PV := mFn 14 m_law
end Pv.LW
end
section
set_option linter.all false
set_option maxRecDepth 100000
namespace Pv
open PySem
@[simp] theorem Res.bind_ok {α β : Type} (a : α) (f : α → Res β) : (Res.ok a).bind f = f a := rfl
@[simp] theorem Res.bind_exc {α β : Type} (c : Str) (f : α → Res β) : (Res.exc c).bind f = .exc c := rfl
@[simp] theorem Res.bind_bad {α β : Type} (f : α → Res β) : (Res.bad).bind f = .bad := rfl
@[simp] theorem eC_ap (p : PV) (ρ : Rho) : eC p ρ = .ok p := rfl
@[simp] theorem eV_ap (i : Nat) (ρ : Rho) : eV i ρ = match ρ[i]? with | some (some p) => .ok p | _ => .bad := rfl
@[simp] theorem eBin_ap (op : PV → PV → Res PV) (fa fb : Rho → Res PV) (ρ : Rho) : eBin op fa fb ρ = (fa ρ).bind fun x => (fb ρ).bind fun y => op x y := rfl
@[simp] theorem eCall_ap (m : List PV → Res PV) (fa : Rho → Res (List PV)) (ρ : Rho) : eCall m fa ρ = (fa ρ).bind m := rfl
@[simp] theorem aNil_ap (ρ : Rho) : aNil ρ = .ok [] := rfl
@[simp] theorem aCons_ap (f : Rho → Res PV) (g : Rho → Res (List PV)) (ρ : Rho) : aCons f g ρ = (f ρ).bind fun x => (g ρ).bind fun xs => .ok (x :: xs) := rfl
@[simp] theorem eTup_ap (f : Rho → Res (List PV)) (ρ : Rho) : eTup f ρ = (f ρ).bind mkTup := rfl
@[simp] theorem eLst_ap (f : Rho → Res (List PV)) (ρ : Rho) : eLst f ρ = (f ρ).bind mkLst := rfl
@[simp] theorem eAnd_ap (f g : Rho → Res PV) (ρ : Rho) : eAnd f g ρ = (f ρ).bind fun x => match x with | .bl true => g ρ | .bl false => .ok (.bl false) | _ => .bad := rfl
@[simp] theorem eOr_ap (f g : Rho → Res PV) (ρ : Rho) : eOr f g ρ = (f ρ).bind fun x => match x with | .bl true => .ok (.bl true) | .bl false => g ρ | _ => .bad := rfl
@[simp] theorem eNot_ap (f : Rho → Res PV) (ρ : Rho) : eNot f ρ = (f ρ).bind fun x => match x with | .bl b => .ok (.bl (!b)) | _ => .bad := rfl
@[simp] theorem eNeg_ap (f : Rho → Res PV) (ρ : Rho) : eNeg f ρ = (f ρ).bind fun x => match x with | .int i => .ok (.int (-i)) | _ => .bad := rfl
@[simp] theorem eTru_ap (f : Rho → Res PV) (ρ : Rho) : eTru f ρ = (f ρ).bind tru := rfl
@[simp] theorem tru_bl (b : Bool) : tru (.bl b) = .ok b := rfl
@[simp] theorem bAnd_ap (f g : Rho → Res Bool) (ρ : Rho) : bAnd f g ρ = (f ρ).bind fun c => if c = true then g ρ else .ok false := rfl
@[simp] theorem bOr_ap (f g : Rho → Res Bool) (ρ : Rho) : bOr f g ρ = (f ρ).bind fun c => if c = true then .ok true else g ρ := rfl
@[simp] theorem bNot_ap (f : Rho → Res Bool) (ρ : Rho) : bNot f ρ = (f ρ).bind fun c => .ok (!c) := rfl
@[simp] theorem bYes_ap (ρ : Rho) : bYes ρ = .ok true := rfl
@[simp] theorem eIf_ap (c : Rho → Res Bool) (f g : Rho → Res PV) (ρ : Rho) : eIf c f g ρ = (c ρ).bind fun b => if b = true then f ρ else g ρ := rfl
@[simp] theorem eChain_ap (op op' : PV → PV → Res PV) (fa fb fc : Rho → Res PV) (ρ : Rho) : eChain op op' fa fb fc ρ = (fa ρ).bind fun x => (fb ρ).bind fun y => (op x y).bind fun z => match z with
  | .bl true => (fc ρ).bind fun w => op' y w
  | .bl false => .ok (.bl false)
  | _ => .bad := rfl
@[simp] theorem eIsi_ap (T : String) (f : Rho → Res PV) (ρ : Rho) : eIsi T f ρ = (f ρ).bind fun p => if isDT p = true then .bad else .ok (.bl (isiPV T p)) := rfl
@[simp] theorem eLc_ap (f : Rho → Res (List PV)) (own : List Nat) (pt : Pat) (tt : Rho → Res Bool) (te : Rho → Res PV) (ρ : Rho) : eLc f own pt tt te ρ = (f ρ).bind fun ps => (lcRun pt tt te (wipeR ρ own) ps).bind fun ys => .ok (.lst ys) := rfl
@[simp] theorem fSeq_ap (f : Rho → Res PV) (ρ : Rho) : fSeq f ρ = (f ρ).bind iSeq := rfl
@[simp] theorem iSeq_lst (xs : List PV) : iSeq (.lst xs) = .ok xs := rfl
@[simp] theorem iSeq_tup (xs : List PV) : iSeq (.tup xs) = .ok xs := rfl
@[simp] theorem fRange_ap (f : Rho → Res PV) (ρ : Rho) : fRange f ρ = (aCons f aNil ρ).bind iRange := rfl
@[simp] theorem fZip_ap (f g : Rho → Res PV) (ρ : Rho) : fZip f g ρ = (aCons f (aCons g aNil) ρ).bind iZipP := rfl
@[simp] theorem fEnum_ap (f : Rho → Res PV) (ρ : Rho) : fEnum f ρ = (aCons f aNil ρ).bind iEnumP := rfl
@[simp] theorem eLenSet_ap (f : Rho → Res PV) (ρ : Rho) : eLenSet f ρ = (f ρ).bind lenSetPV := rfl
@[simp] theorem eSortSet_ap (f : Rho → Res PV) (ρ : Rho) : eSortSet f ρ = (f ρ).bind sortSetPV := rfl
@[simp] theorem eRev_ap (f : Rho → Res PV) (ρ : Rho) : eRev f ρ = (f ρ).bind revPV := rfl
@[simp] theorem revPV_lst (xs : List PV) : revPV (.lst xs) = .ok (.lst xs.reverse) := rfl
@[simp] theorem eGet_ap (f g h : Rho → Res PV) (ρ : Rho) : eGet f g h ρ = (f ρ).bind fun d => if isDct d = true then (g ρ).bind fun k => (h ρ).bind fun x => getPV d k x else .bad := rfl
@[simp] theorem eSl_ap (f : Rho → Res PV) (l h : Rho → Res (Option Int)) (ρ : Rho) : eSl f l h ρ = (f ρ).bind fun p => (l ρ).bind fun a => (h ρ).bind fun b => slPV a b p := rfl
@[simp] theorem sNone_ap (ρ : Rho) : sNone ρ = .ok none := rfl
@[simp] theorem sPart_ap (f : Rho → Res PV) (ρ : Rho) : sPart f ρ = match f ρ with | .ok (.int i) => .ok (some i) | .exc c => .exc c | _ => .bad := rfl
@[simp] theorem slPV_tup (lo hi : Option Int) (xs : List PV) : slPV lo hi (.tup xs) = .ok (.tup (cut xs lo hi)) := rfl
@[simp] theorem slPV_lst (lo hi : Option Int) (xs : List PV) : slPV lo hi (.lst xs) = .ok (.lst (cut xs lo hi)) := rfl
-- statements
@[simp] theorem sSeq_ap (a b : Om → SR) (ω : Om) : sSeq a b ω = (a ω).bind b := rfl
@[simp] theorem SR.bind_nx (ω : Om) (b : Om → SR) : (SR.nx ω).bind b = b ω := rfl
@[simp] theorem SR.bind_rt (p : PV) (b : Om → SR) : (SR.rt p).bind b = .rt p := rfl
@[simp] theorem SR.bind_exc (c : Str) (b : Om → SR) : (SR.exc c).bind b = .exc c := rfl
@[simp] theorem SR.bind_ct (ω : Om) (b : Om → SR) : (SR.ct ω).bind b = .ct ω := rfl
@[simp] theorem SR.bind_bk (ω : Om) (b : Om → SR) : (SR.bk ω).bind b = .bk ω := rfl
@[simp] theorem SR.of_ok {α : Type} (a : α) (f : α → SR) : SR.of (.ok a) f = f a := rfl
@[simp] theorem SR.of_exc {α : Type} (c : Str) (f : α → SR) : SR.of (.exc c) f = .exc c := rfl
@[simp] theorem sSkip_ap (ω : Om) : sSkip ω = .nx ω := rfl
@[simp] theorem sRet_ap (f : Rho → Res PV) (ω : Om) : sRet f ω = SR.of (f (shw ω)) .rt := rfl
@[simp] theorem sExpr_ap (f : Rho → Res PV) (ω : Om) : sExpr f ω = SR.of (f (shw ω)) fun _ => .nx ω := rfl
@[simp] theorem sIf_ap (t : Rho → Res Bool) (a b : Om → SR) (ω : Om) : sIf t a b ω = SR.of (t (shw ω)) fun c => if c = true then a ω else b ω := rfl
@[simp] theorem sRaise_ap (c : Str) (ω : Om) : sRaise c ω = .exc c := rfl
@[simp] theorem sAsg_ap (z : List Nat) (vis : Bool) (f : Rho → Res PV) (i : Nat) (ω : Om) : sAsg z vis f i ω = SR.of (ev z vis f ω) fun p => .nx ((frz ω z).set i (some (.v p))) := rfl
@[simp] theorem sNew_ap (z : List Nat) (vis : Bool) (f : Rho → Res PV) (i : Nat) (ω : Om) : sNew z vis f i ω = SR.of (evF z vis f ω) fun sv => .nx ((frz ω z).set i (some sv)) := rfl
@[simp] theorem sFor_ap (z : List Nat) (f : Rho → Res (List PV)) (pt : Pat) (b : Om → SR) (ω : Om) : sFor z f pt b ω = SR.of (f (hid (frz ω z))) fun ps => sForL pt b ps (frz ω z) := rfl
@[simp] theorem sPat_ap (z : List Nat) (vis : Bool) (f : Rho → Res PV) (pt : Pat) (ω : Om) : sPat z vis f pt ω = SR.of (ev z vis f ω) fun p => match patO (frz ω z) pt p with | some ω' => .nx ω' | none => .bad := rfl
@[simp] theorem sPar_ap (z : List Nat) (vis : Bool) (f g : Rho → Res PV) (i j : Nat) (ω : Om) : sPar z vis f g i j ω = SR.of (ev z vis f ω) fun p => SR.of (ev [] vis g (frz ω z)) fun q => .nx (((frz ω z).set i (some (.v p))).set j (some (.v q))) := rfl
@[simp] theorem frz_nil (ω : Om) : frz ω [] = ω := rfl
@[simp] theorem ev_hid (z : List Nat) (f : Rho → Res PV) (ω : Om) : ev z false f ω = f (hid (frz ω z)) := rfl
def hidO : Option SV → Option PV
  | some (.v p) => some p
  | _ => none
def shwO (o : Option SV) : Option PV := o.map SV.pv
@[simp] theorem hid_nil : hid [] = [] := rfl
@[simp] theorem hid_cons (o : Option SV) (ω : Om) : hid (o :: ω) = hidO o :: hid ω := rfl
@[simp] theorem hidO_v (p : PV) : hidO (some (.v p)) = some p := rfl
@[simp] theorem hidO_l (xs : List PV) : hidO (some (.l xs)) = none := rfl
@[simp] theorem hidO_d (ks : List L2.Key) (vs : List PV) : hidO (some (.d ks vs)) = none := rfl
@[simp] theorem hidO_n : hidO none = none := rfl
@[simp] theorem shw_nil : shw [] = [] := rfl
@[simp] theorem shw_cons (o : Option SV) (ω : Om) : shw (o :: ω) = shwO o :: shw ω := rfl
@[simp] theorem shwO_v (p : PV) : shwO (some (.v p)) = some p := rfl
@[simp] theorem shwO_l (xs : List PV) : shwO (some (.l xs)) = some (.lst xs) := rfl
@[simp] theorem shwO_d (ks : List L2.Key) (vs : List PV) : shwO (some (.d ks vs)) = some (.dK ks vs) := rfl
@[simp] theorem shwO_n : shwO none = none := rfl
@[simp] theorem frz_cons (ω : Om) (i : Nat) (is : List Nat) : frz ω (i :: is) = frz (frzAt ω i) is := rfl
@[simp] theorem frzAt_ap (ω : Om) (i : Nat) : frzAt ω i = match ω[i]? with | some (some sv) => ω.set i (some (.v sv.pv)) | _ => ω := rfl
@[simp] theorem pv_v (p : PV) : SV.pv (.v p) = p := rfl
@[simp] theorem pv_l (xs : List PV) : SV.pv (.l xs) = .lst xs := rfl
@[simp] theorem pv_d (ks : List L2.Key) (vs : List PV) : SV.pv (.d ks vs) = .dK ks vs := rfl
def newSV : Res PV → Res SV
  | .ok (.lst ps) => .ok (.l ps)
  | .ok (.dK ks ps) => .ok (.d ks ps)
  | .ok (.dT ks ps) => .ok (.t ks ps)
  | .ok _ => .bad
  | .exc c => .exc c
  | .bad => .bad
@[simp] theorem newSV_l (ps : List PV) : newSV (.ok (.lst ps)) = .ok (.l ps) := rfl
@[simp] theorem newSV_d (ks : List L2.Key) (ps : List PV) : newSV (.ok (.dK ks ps)) = .ok (.d ks ps) := rfl
@[simp] theorem evF_hid (z : List Nat) (f : Rho → Res PV) (ω : Om) : evF z false f ω = newSV (f (hid (frz ω z))) := by
  unfold evF
  simp
  generalize f (hid (frz ω z)) = r
  cases r with
  | ok p => cases p <;> rfl
  | exc c => rfl
  | bad => rfl
theorem sExt_go {z : List Nat} {f : Rho → Res PV} {i : Nat} {ω : Om} {xs ys : List PV} (h1 : (frz ω z)[i]? = some (some (.l xs))) (h2 : f (hid (frz ω z)) = .ok (.lst ys)) (h3 : xs.length + ys.length ≤ 16777216) : sExt z f i ω = .nx ((frz ω z).set i (some (.l (xs ++ ys)))) := by
  unfold sExt
  rw [h1]
  have h2 : ev z false f ω = .ok (.lst ys) := h2
  simp only [h2, SR.of_ok]
  exact if_pos h3
theorem sApp_go {z : List Nat} {vis : Bool} {f : Rho → Res PV} {i : Nat} {ω : Om} {xs : List PV} {p : PV} (h1 : (frz ω z)[i]? = some (some (.l xs))) (h2 : ev z vis f ω = .ok p) (h3 : xs.length < 16777216) : sApp z vis f i ω = .nx ((frz ω z).set i (some (.l (xs ++ [p])))) := by
  unfold sApp
  rw [h1]
  simp only [h2, SR.of_ok]
  exact if_pos h3
@[simp] theorem endR_rt (p : PV) : endR (.rt p) = .ok p := rfl
@[simp] theorem endR_nx (ω : Om) : endR (.nx ω) = .ok .non := rfl
@[simp] theorem endR_exc (c : Str) : endR (.exc c) = .exc c := rfl
@[simp] theorem wipeR_nil (ρ : Rho) : wipeR ρ [] = ρ := rfl
@[simp] theorem wipeR_cons (ρ : Rho) (v : Nat) (vs : List Nat) : wipeR ρ (v :: vs) = (wipeR ρ vs).set v none := rfl
@[simp] theorem patR_nm (ρ : Rho) (i : Nat) (p : PV) : patR ρ (.nm i) p = some (ρ.set i (some p)) := rfl
@[simp] theorem patO_nm (ω : Om) (i : Nat) (p : PV) : patO ω (.nm i) p = some (ω.set i (some (.v p))) := rfl
@[simp] theorem noX_ok {α : Type} (a : α) : noX (Res.ok a) = .ok a := rfl
@[simp] theorem cmp_ii (fi : Int → Int → Bool) (fs : List Nat → List Nat → Bool) (i j : Int) : opCmp fi fs (.int i) (.int j) = .ok (.bl (fi i j)) := rfl
@[simp] theorem cmp_ss (fi : Int → Int → Bool) (fs : List Nat → List Nat → Bool) (x y : Str) : opCmp fi fs (.str x) (.str y) = .ok (.bl (fs x.cps.toList y.cps.toList)) := rfl
@[simp] theorem opAdd_ii (i j : Int) : opAdd (.int i) (.int j) = .ok (.int (i + j)) := rfl
@[simp] theorem opSub_ii (i j : Int) : opSub (.int i) (.int j) = .ok (.int (i - j)) := rfl
@[simp] theorem bLen_tup (xs : List PV) : bLen [.tup xs] = .ok (.int xs.length) := rfl
@[simp] theorem bLen_lst (xs : List PV) : bLen [.lst xs] = .ok (.int xs.length) := rfl
@[simp] theorem bList_lst (xs : List PV) : bList [.lst xs] = .ok (.lst xs) := rfl
@[simp] theorem bList_tup (xs : List PV) : bList [.tup xs] = .ok (.lst xs) := rfl
@[simp] theorem bTuple_lst (xs : List PV) : bTuple [.lst xs] = .ok (.tup xs) := rfl
@[simp] theorem bTuple_tup (xs : List PV) : bTuple [.tup xs] = .ok (.tup xs) := rfl
theorem mkLst_of {xs : List PV} (h : xs.length ≤ 16777216) : mkLst xs = .ok (.lst xs) := if_pos h
theorem mkTup_of {xs : List PV} (h : xs.length ≤ 16777216) : mkTup xs = .ok (.tup xs) := if_pos h
@[simp] theorem mkLst_nil : mkLst [] = .ok (.lst []) := mkLst_of (by decide)
@[simp] theorem mkLst_1 (a : PV) : mkLst [a] = .ok (.lst [a]) := mkLst_of (by simp)
@[simp] theorem mkLst_2 (a b : PV) : mkLst [a, b] = .ok (.lst [a, b]) := mkLst_of (by simp)
@[simp] theorem mkLst_3 (a b c : PV) : mkLst [a, b, c] = .ok (.lst [a, b, c]) := mkLst_of (by simp)
@[simp] theorem mkTup_nil : mkTup [] = .ok (.tup []) := mkTup_of (by decide)
@[simp] theorem mkTup_1 (a : PV) : mkTup [a] = .ok (.tup [a]) := mkTup_of (by simp)
@[simp] theorem mkTup_2 (a b : PV) : mkTup [a, b] = .ok (.tup [a, b]) := mkTup_of (by simp)
@[simp] theorem mkTup_3 (a b c : PV) : mkTup [a, b, c] = .ok (.tup [a, b, c]) := mkTup_of (by simp)
@[simp] theorem mkTup_4 (a b c d : PV) : mkTup [a, b, c, d] = .ok (.tup [a, b, c, d]) := mkTup_of (by simp)
theorem atI_nat {α : Type} (xs : List α) (k : Nat) : L2.atI xs (k : Int) = xs[k]? := by
  unfold L2.atI L2.ixN
  rw [if_pos (by omega)]
  by_cases h : k < xs.length
  · rw [if_pos (by omega)]; simp
  · rw [if_neg (by omega), List.getElem?_eq_none (by omega)]; rfl
theorem opIx_tn (xs : List PV) (k : Nat) (p : PV) (h : xs[k]? = some p) : opIx (.tup xs) (.int (k : Int)) = .ok p := by
  show ixPV xs _ = _
  unfold ixPV
  rw [atI_nat, h]
theorem opIx_ln (xs : List PV) (k : Nat) (p : PV) (h : xs[k]? = some p) : opIx (.lst xs) (.int (k : Int)) = .ok p := by
  show ixPV xs _ = _
  unfold ixPV
  rw [atI_nat, h]
@[simp] theorem opIx_t0 (p : PV) (ps : List PV) : opIx (.tup (p :: ps)) (.int 0) = .ok p := opIx_tn _ 0 _ rfl
@[simp] theorem opIx_t1 (p q : PV) (ps : List PV) : opIx (.tup (p :: q :: ps)) (.int 1) = .ok q := opIx_tn _ 1 _ rfl
@[simp] theorem opIx_t2 (p q r : PV) (ps : List PV) : opIx (.tup (p :: q :: r :: ps)) (.int 2) = .ok r := opIx_tn _ 2 _ rfl
@[simp] theorem opIx_t3 (p q r s : PV) (ps : List PV) : opIx (.tup (p :: q :: r :: s :: ps)) (.int 3) = .ok s := opIx_tn _ 3 _ rfl
@[simp] theorem opIx_l0 (p : PV) (ps : List PV) : opIx (.lst (p :: ps)) (.int 0) = .ok p := opIx_ln _ 0 _ rfl
end Pv
end
section
set_option linter.all false
set_option maxRecDepth 100000
namespace Pv
open PySem
/-! ### equality of plain values -/
mutual
def gd : PV → Bool
  | .int _ => true
  | .str _ => true
  | .non => true
  | .tup xs => gds xs
  | .lst xs => gds xs
  | _ => false
def gds : List PV → Bool
  | [] => true
  | x :: xs => gd x && gds xs
end
mutual
theorem peq_iff : ∀ p q : PV, gd p = true → gd q = true → (peq p q = true ↔ p = q)
  | .int i, q, _, hq => by cases q <;> simp [gd, peq, toD, PyData.eqv] at hq ⊢
  | .str x, q, _, hq => by cases q <;> simp [gd, peq, toD, PyData.eqv] at hq ⊢
  | .non, q, _, hq => by cases q <;> simp [gd, peq, toD, PyData.eqv] at hq ⊢
  | .tup xs, q, hp, hq => by
    cases q <;> simp [gd, peq, toD, PyData.eqv] at hp hq ⊢
    exact peqs_iff xs _ hp hq
  | .lst xs, q, hp, hq => by
    cases q <;> simp [gd, peq, toD, PyData.eqv] at hp hq ⊢
    exact peqs_iff xs _ hp hq
  | .bl b, q, hp, _ => by simp [gd] at hp
  | .dK _ _, q, hp, _ => by simp [gd] at hp
  | .dT _ _, q, hp, _ => by simp [gd] at hp
  | .scr _, q, hp, _ => by simp [gd] at hp
  | .fn _, q, hp, _ => by simp [gd] at hp
theorem peqs_iff : ∀ ps qs : List PV, gds ps = true → gds qs = true → (PyData.eqvAll (toDs ps) (toDs qs) = true ↔ ps = qs)
  | [], [], _, _ => by simp [toDs, PyData.eqvAll]
  | [], _ :: _, _, _ => by simp [toDs, PyData.eqvAll]
  | _ :: _, [], _, _ => by simp [toDs, PyData.eqvAll]
  | p :: ps, q :: qs, hp, hq => by
    simp only [gds, Bool.and_eq_true] at hp hq
    have h1 := peq_iff p q hp.1 hq.1
    have h2 := peqs_iff ps qs hp.2 hq.2
    unfold peq at h1
    simp only [toDs, PyData.eqvAll, Bool.and_eq_true, h1, h2, List.cons.injEq]
end
theorem gds_all : ∀ xs : List PV, gds xs = xs.all gd
  | [] => rfl
  | x :: xs => by rw [gds, gds_all xs, List.all_cons]
/-! ### not too deep -/
def Fl (n : Nat) (p : PV) : Prop := hasD p = false ∧ (toD p).depth ≤ n
theorem Fl.mono {m n : Nat} {p : PV} (h : Fl m p) (e : m ≤ n) : Fl n p := ⟨h.1, Nat.le_trans h.2 e⟩
theorem Fl.int {n : Nat} (i : Int) : Fl (n + 1) (.int i) := ⟨rfl, by simp [toD, PyData.depth]⟩
theorem Fl.str {n : Nat} (x : Str) : Fl (n + 1) (.str x) := ⟨rfl, by simp [toD, PyData.depth]⟩
theorem hasDs_of : ∀ {xs : List PV}, (∀ x ∈ xs, hasD x = false) → hasDs xs = false
  | [], _ => rfl
  | x :: xs, h => by rw [hasDs, h x List.mem_cons_self, hasDs_of fun y hy => h y (List.mem_cons_of_mem _ hy)]; rfl
theorem depthAll_of {n : Nat} : ∀ {xs : List PV}, (∀ x ∈ xs, (toD x).depth ≤ n) → PyData.depthAll (toDs xs) ≤ n
  | [], _ => by simp [toDs, PyData.depthAll]
  | x :: xs, h => by
    have h1 := h x List.mem_cons_self
    have h2 := depthAll_of (n := n) fun y hy => h y (List.mem_cons_of_mem x hy)
    simp only [toDs, PyData.depthAll]
    omega
theorem Fl.tup {n : Nat} {xs : List PV} (h : ∀ x ∈ xs, Fl n x) : Fl (n + 1) (.tup xs) := ⟨by rw [hasD]; exact hasDs_of fun x m => (h x m).1, by
  have := depthAll_of fun x m => (h x m).2
  simp only [toD, PyData.depth]
  omega⟩
theorem Fl.lst {n : Nat} {xs : List PV} (h : ∀ x ∈ xs, Fl n x) : Fl (n + 1) (.lst xs) := ⟨by rw [hasD]; exact hasDs_of fun x m => (h x m).1, by
  have := depthAll_of fun x m => (h x m).2
  simp only [toD, PyData.depth]
  omega⟩
theorem Fl.ok {n : Nat} {p : PV} (h : Fl n p) (e : n ≤ 64) : flatOk p = true := by
  unfold flatOk
  rw [h.1, decide_eq_true (Nat.le_trans h.2 e)]; rfl
theorem opEq_of {p q : PV} (h1 : flatOk p = true) (h2 : flatOk q = true) : opEq p q = .ok (.bl (peq p q)) := by unfold opEq; rw [h1, h2]; rfl
theorem opNe_of {p q : PV} (h1 : flatOk p = true) (h2 : flatOk q = true) : opNe p q = .ok (.bl (!peq p q)) := by unfold opNe; rw [h1, h2]; rfl
@[simp] theorem opEq_ii (i j : Int) : opEq (.int i) (.int j) = .ok (.bl (decide (i = j))) := by
  rw [opEq_of ((Fl.int (n := 0) i).ok (by omega)) ((Fl.int (n := 0) j).ok (by omega))]
  simp [peq, toD, PyData.eqv]
  rfl
@[simp] theorem opNe_ii (i j : Int) : opNe (.int i) (.int j) = .ok (.bl (!decide (i = j))) := by
  rw [opNe_of ((Fl.int (n := 0) i).ok (by omega)) ((Fl.int (n := 0) j).ok (by omega))]
  simp [peq, toD, PyData.eqv]
  rfl
@[simp] theorem opEq_ss (x y : Str) : opEq (.str x) (.str y) = .ok (.bl (decide (x = y))) := by
  rw [opEq_of ((Fl.str (n := 0) x).ok (by omega)) ((Fl.str (n := 0) y).ok (by omega))]
  simp [peq, toD, PyData.eqv]
  rfl
@[simp] theorem opNe_ss (x y : Str) : opNe (.str x) (.str y) = .ok (.bl (!decide (x = y))) := by
  rw [opNe_of ((Fl.str (n := 0) x).ok (by omega)) ((Fl.str (n := 0) y).ok (by omega))]
  simp [peq, toD, PyData.eqv]
  rfl
theorem peq_nil (xs : List PV) : peq (.lst xs) (.lst []) = xs.isEmpty := by
  cases xs <;> simp [peq, toD, toDs, PyData.eqv, PyData.eqvAll]
theorem opEq_nil {n : Nat} {xs : List PV} (h : ∀ x ∈ xs, Fl n x) (e : n < 64) : opEq (.lst xs) (.lst []) = .ok (.bl xs.isEmpty) := by
  rw [opEq_of ((Fl.lst h).ok (by omega)) ((Fl.lst (n := 0) (xs := []) (fun x m => by cases m)).ok (by omega)), peq_nil]
theorem opNe_nil {n : Nat} {xs : List PV} (h : ∀ x ∈ xs, Fl n x) (e : n < 64) : opNe (.lst xs) (.lst []) = .ok (.bl (!xs.isEmpty)) := by
  rw [opNe_of ((Fl.lst h).ok (by omega)) ((Fl.lst (n := 0) (xs := []) (fun x m => by cases m)).ok (by omega)), peq_nil]
/-! ### comprehensions over typed rows -/
theorem lcRun_map {α : Type} {pt : Pat} {tt : Rho → Res Bool} {te : Rho → Res PV} {ρ : Rho} (enc : α → PV) (r : α → Rho) (c : α → Bool) (g : α → PV) : ∀ (xs : List α), (∀ x ∈ xs, patR ρ pt (enc x) = some (r x)) → (∀ x ∈ xs, tt (r x) = .ok (c x)) → (∀ x ∈ xs, c x = true → te (r x) = .ok (g x)) →
    lcRun pt tt te ρ (xs.map enc) = .ok ((xs.filter c).map g)
  | [], _, _, _ => rfl
  | x :: xs, h1, h2, h3 => by
    have ih := lcRun_map enc r c g xs (fun y m => h1 y (List.mem_cons_of_mem _ m)) (fun y m => h2 y (List.mem_cons_of_mem _ m)) (fun y m => h3 y (List.mem_cons_of_mem _ m))
    rw [List.map_cons, lcRun, h1 x List.mem_cons_self]
    simp only [h2 x List.mem_cons_self, noX_ok, Res.bind_ok, ih]
    cases hc : c x with
    | true => simp [h3 x List.mem_cons_self hc, List.filter_cons, hc]
    | false => simp [List.filter_cons, hc]
theorem lcRun_all {α : Type} {pt : Pat} {te : Rho → Res PV} {ρ : Rho} (enc : α → PV) (r : α → Rho) (g : α → PV) (xs : List α) (h1 : ∀ x ∈ xs, patR ρ pt (enc x) = some (r x)) (h3 : ∀ x ∈ xs, te (r x) = .ok (g x)) :
    lcRun pt bYes te ρ (xs.map enc) = .ok (xs.map g) := by
  have := lcRun_map (tt := bYes) enc r (fun _ => true) g xs h1 (fun _ _ => rfl) (fun x m _ => h3 x m)
  rwa [List.filter_eq_self.mpr (fun _ _ => rfl)] at this
theorem boolsOf_map (bs : List Bool) : boolsOf (bs.map PV.bl) = some bs := by
  induction bs with
  | nil => rfl
  | cons b bs ih => simp [boolsOf, ih]
theorem bAll_map {α : Type} (f : α → Bool) (xs : List α) : bAll [.lst (xs.map fun x => PV.bl (f x))] = .ok (.bl (xs.all f)) := by
  have e : (xs.map fun x => PV.bl (f x)) = (xs.map f).map PV.bl := by rw [List.map_map]; rfl
  rw [e]
  show (match boolsOf ((xs.map f).map PV.bl) with | some bs => Res.ok (PV.bl (bs.all id)) | none => Res.bad) = _
  rw [boolsOf_map]
  simp [List.all_map]
end Pv
end
section
set_option linter.all false
set_option maxRecDepth 100000
namespace Pv
open PySem
/-! ### trees -/
structure Sk where
  nm : Str
  mx : Nat
  pr : Nat
  ws : List (Str × Nat)
deriving DecidableEq
structure Tr where
  sk : List Sk
  lk : List (Str × Str)
deriving DecidableEq
def eW (w : Str × Nat) : PV := .tup [.str w.1, .int w.2]
def eS (s : Sk) : PV := .tup [.str s.nm, .int s.mx, .int s.pr, .tup (s.ws.map eW)]
def eL (l : Str × Str) : PV := .tup [.str l.1, .str l.2]
def eT (t : Tr) : PV := .tup [.tup (t.sk.map eS), .tup (t.lk.map eL)]
def eN (n : Nat) : PV := .int n
def eB (b : List Nat) : PV := .tup (b.map eN)
def eD (ns : List Str) (b : List Nat) : PV := .dK (ns.map .inr) (b.map eN)
def Tr.ns (t : Tr) : List Str := t.sk.map (·.nm)
/-- the level of a name -/
def lk? : List Str → List Nat → Str → Option Nat
  | n :: ns, b :: bs, x => if n = x then some b else lk? ns bs x
  | _, _, _ => none
def lv (ns : List Str) (b : List Nat) (x : Str) : Nat := (lk? ns b x).getD 0
theorem dLook_eD (x : Str) : ∀ (ns : List Str) (b : List Nat), dLook (ns.map Sum.inr) (b.map eN) (Sum.inr x : L2.Key) = (lk? ns b x).map eN
  | [], b => by cases b <;> rfl
  | n :: ns, [] => rfl
  | n :: ns, b :: bs => by
    simp only [List.map_cons, dLook, lk?]
    by_cases e : n = x
    · subst e; simp
    · rw [if_neg (fun z => e (Sum.inr.inj z)), if_neg e, dLook_eD x ns bs]
theorem lk?_some {x : Str} : ∀ {ns : List Str} {b : List Nat}, ns.length = b.length → x ∈ ns → ∃ k, lk? ns b x = some k
  | n :: ns, b :: bs, h, m => by
    unfold lk?
    by_cases e : n = x
    · exact ⟨b, if_pos e⟩
    · rw [if_neg e]
      exact lk?_some (by simpa using h) ((List.mem_cons.mp m).resolve_left fun z => e z.symm)
  | n :: ns, [], h, m => by simp at h
  | [], _, _, m => by cases m
theorem opIx_eD {ns : List Str} {b : List Nat} {x : Str} (h : ns.length = b.length) (m : x ∈ ns) : opIx (eD ns b) (.str x) = .ok (.int (lv ns b x)) := by
  obtain ⟨k, hk⟩ := lk?_some h m
  show (match dLook (ns.map Sum.inr) (b.map eN) (Sum.inr x : L2.Key) with | some p => Res.ok p | none => .bad) = _
  rw [dLook_eD, hk]
  unfold lv
  rw [hk]; rfl
theorem Fl_eW (w : Str × Nat) : Fl 2 (eW w) := Fl.tup fun x m => by
  simp at m
  rcases m with rfl | rfl
  · exact Fl.str _
  · exact Fl.int _
theorem Fl_eL (w : Str × Str) : Fl 2 (eL w) := Fl.tup fun x m => by
  simp at m
  rcases m with rfl | rfl
  · exact Fl.str _
  · exact Fl.str _
theorem Fl_eS (s : Sk) : Fl 4 (eS s) := Fl.tup fun x m => by
  simp at m
  rcases m with rfl | rfl | rfl | rfl
  · exact Fl.str _
  · exact Fl.int _
  · exact Fl.int _
  · refine Fl.tup fun y hy => ?_
    obtain ⟨w, _, rfl⟩ := List.mem_map.mp hy
    exact Fl_eW w
theorem Fl_eT (t : Tr) : Fl 6 (eT t) := Fl.tup fun x m => by
  simp at m
  rcases m with rfl | rfl
  · refine Fl.tup fun y hy => ?_
    obtain ⟨w, _, rfl⟩ := List.mem_map.mp hy
    exact Fl_eS w
  · refine (Fl.tup fun y hy => ?_ : Fl 3 _).mono (by omega)
    obtain ⟨w, _, rfl⟩ := List.mem_map.mp hy
    exact Fl_eL w
theorem Fl_eB (b : List Nat) : Fl 2 (eB b) := Fl.tup fun x m => by
  obtain ⟨n, _, rfl⟩ := List.mem_map.mp m
  exact Fl.int _
/-! ### encodings tell apart -/
theorem map_inj {α : Type} {f : α → PV} (h : ∀ a b, f a = f b → a = b) : ∀ {xs ys : List α}, xs.map f = ys.map f → xs = ys
  | [], [], _ => rfl
  | [], _ :: _, e => by simp at e
  | _ :: _, [], e => by simp at e
  | x :: xs, y :: ys, e => by
    simp only [List.map_cons, List.cons.injEq] at e
    rw [h x y e.1, map_inj h e.2]
theorem eW_inj (a b : Str × Nat) (h : eW a = eW b) : a = b := by
  obtain ⟨a1, a2⟩ := a
  obtain ⟨b1, b2⟩ := b
  simp only [eW, PV.tup.injEq, List.cons.injEq, PV.str.injEq, PV.int.injEq, and_true] at h
  rw [h.1, Int.ofNat.inj h.2]
theorem eL_inj (a b : Str × Str) (h : eL a = eL b) : a = b := by
  obtain ⟨a1, a2⟩ := a
  obtain ⟨b1, b2⟩ := b
  simp [eL] at h
  rw [h.1, h.2]
theorem eS_inj (a b : Sk) (h : eS a = eS b) : a = b := by
  obtain ⟨a1, a2, a3, a4⟩ := a
  obtain ⟨b1, b2, b3, b4⟩ := b
  simp only [eS, PV.tup.injEq, List.cons.injEq, PV.str.injEq, PV.int.injEq, and_true] at h
  obtain ⟨h1, h2, h3, h4⟩ := h
  rw [h1, map_inj eW_inj h4, Int.ofNat.inj h2, Int.ofNat.inj h3]
theorem eT_inj (a b : Tr) (h : eT a = eT b) : a = b := by
  obtain ⟨a1, a2⟩ := a
  obtain ⟨b1, b2⟩ := b
  simp only [eT, PV.tup.injEq, List.cons.injEq, and_true] at h
  rw [map_inj eS_inj h.1, map_inj eL_inj h.2]
theorem eN_inj (a b : Nat) (h : eN a = eN b) : a = b := by
  simp only [eN, PV.int.injEq] at h
  exact Int.ofNat.inj h
theorem eB_inj (a b : List Nat) (h : eB a = eB b) : a = b := by
  simp only [eB, PV.tup.injEq] at h
  exact map_inj eN_inj h
theorem gds_map {α : Type} {f : α → PV} (h : ∀ a, gd (f a) = true) (xs : List α) : gds (xs.map f) = true := by
  rw [gds_all, List.all_map]
  exact List.all_eq_true.mpr fun x _ => h x
theorem gd_eW (w : Str × Nat) : gd (eW w) = true := rfl
theorem gd_eL (w : Str × Str) : gd (eL w) = true := rfl
theorem gd_eS (s : Sk) : gd (eS s) = true := by simp [eS, gd, gds, gds_map gd_eW]
theorem gd_eT (t : Tr) : gd (eT t) = true := by simp [eT, gd, gds, gds_map gd_eS, gds_map gd_eL]
theorem gd_eB (b : List Nat) : gd (eB b) = true := by simp [eB, gd]; exact gds_map (fun _ => rfl) b
theorem peq_enc {α : Type} [DecidableEq α] {f : α → PV} (hg : ∀ a, gd (f a) = true) (hi : ∀ a b, f a = f b → a = b) (a b : α) : peq (f a) (f b) = decide (a = b) := by
  have h := peq_iff (f a) (f b) (hg a) (hg b)
  by_cases e : a = b
  · subst e
    rw [h.mpr rfl]; simp
  · rw [decide_eq_false e]
    cases q : peq (f a) (f b) with
    | false => rfl
    | true => exact absurd (hi _ _ (h.mp q)) e
theorem peq_encs {α : Type} [DecidableEq α] {f : α → PV} (hg : ∀ a, gd (f a) = true) (hi : ∀ a b, f a = f b → a = b) (xs ys : List α) : peq (.lst (xs.map f)) (.lst (ys.map f)) = decide (xs = ys) :=
  peq_enc (f := fun xs : List α => PV.lst (xs.map f)) (fun xs => by simp [gd]; exact gds_map hg xs) (fun a b e => map_inj hi (by simpa using e)) xs ys
theorem opIn_encs {α : Type} [DecidableEq α] {f : α → PV} {n : Nat} (hg : ∀ a, gd (f a) = true) (hi : ∀ a b, f a = f b → a = b) (hf : ∀ a, Fl n (f a)) (hn : n < 64) (neg : Bool) (x : α) (xs : List α) : opIn neg (f x) (.lst (xs.map f)) = .ok (.bl (xor neg (decide (x ∈ xs)))) := by
  show (if (flatOk (f x) && flatOk (.lst (xs.map f))) = true then Res.ok (PV.bl (xor neg ((toDs (xs.map f)).any fun z => PyData.eqv z (toD (f x))))) else .bad) = _
  have h1 := (hf x).ok (by omega)
  have h2 : flatOk (.lst (xs.map f)) = true := (Fl.lst (n := n) fun y m => by obtain ⟨a, _, rfl⟩ := List.mem_map.mp m; exact hf a).ok (by omega)
  rw [h1, h2, if_pos (by rfl), toDs_eq, List.map_map, List.any_map]
  have e : (xs.any ((fun z => PyData.eqv z (toD (f x))) ∘ (toD ∘ f))) = decide (x ∈ xs) := by
    have : ((fun z => PyData.eqv z (toD (f x))) ∘ (toD ∘ f)) = fun a => decide (a = x) := funext fun a => peq_enc hg hi a x
    rw [this]
    rw [Bool.eq_iff_iff]
    simp
  rw [e]
/-! ### the program's words, typed -/
def Tr.get (t : Tr) (x : Str) : Option Sk := t.sk.find? fun s => decide (s.nm = x)
def wantsT (t : Tr) (x : Str) : List (Str × Nat) := ((t.get x).map (·.ws)).getD []
def lackT (t : Tr) (b : List Nat) (x : Str) : List (Str × Nat) := (wantsT t x).filter fun w => decide (lv t.ns b w.1 < w.2)
def clashT (t : Tr) (b : List Nat) : List (Str × Str) := t.lk.filter fun l => decide (0 < lv t.ns b l.1) && decide (0 < lv t.ns b l.2)
def holdsT (t : Tr) (b : List Nat) : Bool := (clashT t b).isEmpty && t.ns.all fun x => decide (lv t.ns b x = 0) || (lackT t b x).isEmpty
/-- wants and locks name skills -/
structure Wf (t : Tr) : Prop where
  nd : t.ns.Nodup
  ws : ∀ s ∈ t.sk, ∀ w ∈ s.ws, w.1 ∈ t.ns
  lk : ∀ l ∈ t.lk, l.1 ∈ t.ns ∧ l.2 ∈ t.ns
end Pv
end
section
set_option linter.all false
set_option maxRecDepth 100000
namespace Pv.LW
open PySem Pv
theorem is_count_int (i lo hi : Int) : f_is_count [.int i, .int lo, .int hi] = .ok (.bl (decide (lo ≤ i) && decide (i ≤ hi))) := by
  simp [f_is_count, mFn, m_is_count, isDT, isiPV, isiS, tyN]
  by_cases h : lo ≤ i <;> simp [h]
theorem names_of_ok (t : Tr) : f_names_of [eT t] = .ok (.lst (t.ns.map PV.str)) := by
  simp [f_names_of, mFn, m_names_of, eT]
  rw [lcRun_all (enc := eS) (r := fun s => [some (eT t), some (eS s)]) (g := fun s => .str s.nm)]
  · simp [Tr.ns, Function.comp_def]
  · intro s _; simp [eT]
  · intro s _; simp [eS]
theorem dMerge_nodup : ∀ (ks : List L2.Key) (vs : List PV) (k0 : List L2.Key) (v0 : List PV), (k0 ++ ks).Nodup → ks.length = vs.length → dMerge k0 v0 ks vs = (k0 ++ ks, v0 ++ vs)
  | [], [], k0, v0, _, _ => by simp [dMerge]
  | [], _ :: _, _, _, _, h => by simp at h
  | _ :: _, [], _, _, _, h => by simp at h
  | k :: ks, v :: vs, k0, v0, hn, h => by
    have e : k0 ++ k :: ks = (k0 ++ [k]) ++ ks := by simp
    rw [e] at hn ⊢
    have hk : ¬ k ∈ k0 := fun m => by
      have h1 := (List.nodup_append.mp hn).1
      exact (List.nodup_append.mp h1).2.2 k m k (by simp) rfl
    have hp : dPut k0 v0 k v = (k0 ++ [k], v0 ++ [v]) := by
      unfold dPut
      rw [if_neg (by simpa using hk)]
    unfold dMerge
    rw [hp, dMerge_nodup ks vs _ _ hn (by simpa using h)]
    simp
theorem keysOf_strs : ∀ xs : List Str, keysOf (xs.map PV.str) = some (xs.map Sum.inr)
  | [] => rfl
  | x :: xs => by simp [keysOf, keyOf, keysOf_strs xs]
theorem nodup_inr {xs : List Str} (h : xs.Nodup) : (xs.map (Sum.inr : Str → L2.Key)).Nodup := List.Pairwise.map _ (fun a b hab e => hab (Sum.inr.inj e)) h
theorem bDictZip_ok {ns : List Str} (w : ns.Nodup) {b : List Nat} (h : ns.length = b.length) : bDictZip [.lst (ns.map PV.str), .tup (b.map eN)] = .ok (eD ns b) := by
  unfold bDictZip
  simp only [seqPV, keysOf_strs]
  rw [dMerge_nodup _ _ [] [] (by simpa using nodup_inr w) (by simpa using h)]
  rfl
theorem levels_of_ok {t : Tr} (w : t.ns.Nodup) {b : List Nat} (h : t.ns.length = b.length) : f_levels_of [eT t, eB b] = .ok (eD t.ns b) := by
  simp [f_levels_of, mFn, m_levels_of, names_of_ok, eB]
  rw [bDictZip_ok w h]
  rfl
theorem clashes_ok {t : Tr} (w : Wf t) {b : List Nat} (h : t.ns.length = b.length) : f_clashes [eT t, eD t.ns b] = .ok (.lst ((clashT t b).map eL)) := by
  simp [f_clashes, mFn, m_clashes, eT]
  rw [lcRun_map (enc := eL) (r := fun l => [some (eT t), some (eD t.ns b), some (eL l)]) (c := fun l => decide (0 < lv t.ns b l.1) && decide (0 < lv t.ns b l.2)) (g := eL)]
  · simp [clashT]
  · intro l _; simp [eT]
  · intro l m
    simp [eL, opIx_eD h (w.lk l m).1, opIx_eD h (w.lk l m).2]
    by_cases e : 0 < lv t.ns b l.1 <;> simp [e]
  · intro l m _; simp
theorem get_mem {t : Tr} (nd : t.ns.Nodup) {s : Sk} (m : s ∈ t.sk) : t.get s.nm = some s := by
  unfold Tr.get
  unfold Tr.ns at nd
  generalize t.sk = l at nd m
  induction l with
  | nil => cases m
  | cons a l ih =>
    rw [List.map_cons, List.nodup_cons] at nd
    rcases List.mem_cons.mp m with e | m
    · subst e; simp
    · have : ¬ a.nm = s.nm := fun z => nd.1 (List.mem_map.mpr ⟨s, m, z.symm⟩)
      rw [List.find?_cons, decide_eq_false this]
      exact ih nd.2 m
theorem filter_nm {t : Tr} (nd : t.ns.Nodup) {s : Sk} (m : s ∈ t.sk) : (t.sk.filter fun z => decide (z.nm = s.nm)) = [s] := by
  unfold Tr.ns at nd
  generalize t.sk = l at nd m
  induction l with
  | nil => cases m
  | cons a l ih =>
    rw [List.map_cons, List.nodup_cons] at nd
    rcases List.mem_cons.mp m with e | m
    · subst e
      rw [List.filter_cons, if_pos (by simp)]
      congr 1
      rw [List.filter_eq_nil_iff]
      intro z hz
      simp only [decide_eq_true_eq]
      exact fun e => nd.1 (List.mem_map.mpr ⟨z, hz, e⟩)
    · have : ¬ a.nm = s.nm := fun z => nd.1 (List.mem_map.mpr ⟨s, m, z.symm⟩)
      rw [List.filter_cons, if_neg (by simpa using this)]
      exact ih nd.2 m
theorem lacking_ok {t : Tr} (w : Wf t) {b : List Nat} (h : t.ns.length = b.length) {s : Sk} (m : s ∈ t.sk) : f_lacking [eT t, eD t.ns b, .str s.nm] = .ok (.lst ((lackT t b s.nm).map eW)) := by
  simp [f_lacking, mFn, m_lacking, eT]
  rw [lcRun_map (enc := eS) (r := fun z => [some (eT t), some (eD t.ns b), some (.str s.nm), some (eS z), none]) (c := fun z => decide (z.nm = s.nm)) (g := eS)]
  · rw [filter_nm w.nd m]
    simp
    rw [show opIx (eS s) (.int 3) = .ok (.tup (s.ws.map eW)) by simp [eS]]
    simp
    rw [lcRun_map (enc := eW) (r := fun z => [some (eT t), some (eD t.ns b), some (.str s.nm), some (eS s), some (eW z)]) (c := fun z => decide (lv t.ns b z.1 < z.2)) (g := eW)]
    · simp [lackT, wantsT, get_mem w.nd m]
    · intro z _; simp [eT]
    · intro z mz
      simp [eW, opIx_eD h (w.ws s m z mz)]
    · intro z _ _; simp
  · intro z _; simp [eT]
  · intro z _; simp [eS]
  · intro z _ _; simp
theorem holds_ok {t : Tr} (w : Wf t) {b : List Nat} (h : t.ns.length = b.length) : f_holds [eT t, eB b] = .ok (.bl (holdsT t b)) := by
  simp [f_holds, mFn, m_holds, levels_of_ok w.nd h, clashes_ok w h, names_of_ok]
  rw [opNe_nil (n := 2) (fun x m => by obtain ⟨l, _, rfl⟩ := List.mem_map.mp m; exact Fl_eL l) (by omega)]
  simp
  by_cases hc : clashT t b = []
  · simp [hc, names_of_ok]
    rw [lcRun_all (enc := PV.str) (r := fun x => [some (eT t), some (eB b), some (eD t.ns b), some (.str x)]) (g := fun x => PV.bl (decide (lv t.ns b x = 0) || (lackT t b x).isEmpty))]
    · simp
      rw [bAll_map]
      simp [holdsT, hc]
    · intro x _; simp
    · intro x mx
      obtain ⟨s, ms, rfl⟩ := List.mem_map.mp mx
      simp [opIx_eD h mx, lacking_ok w h ms]
      by_cases e : lv t.ns b s.nm = 0
      · simp [e]
      · simp [e]
        rw [opEq_nil (n := 2) (fun x m => by obtain ⟨l, _, rfl⟩ := List.mem_map.mp m; exact Fl_eW l) (by omega)]
        simp
  · have : (clashT t b).isEmpty = false := by simpa using hc
    simp [hc, holdsT, this]
end Pv.LW
end
section
set_option linter.all false
set_option maxRecDepth 100000
namespace Pv.LW
open PySem Pv
@[simp] theorem patR_tp2 (ρ : Rho) (i j : Nat) (p q : PV) : patR ρ (.tp [i, j]) (.tup [p, q]) = some ((ρ.set i (some p)).set j (some q)) := rfl
@[simp] theorem patO_tp2 (ω : Om) (i j : Nat) (p q : PV) : patO ω (.tp [i, j]) (.tup [p, q]) = some ((ω.set i (some (.v p))).set j (some (.v q))) := rfl
@[simp] theorem patO_tp4 (ω : Om) (i j k l : Nat) (p q r s : PV) : patO ω (.tp [i, j, k, l]) (.tup [p, q, r, s]) = some ((((ω.set i (some (.v p))).set j (some (.v q))).set k (some (.v r))).set l (some (.v s))) := rfl
theorem zipP_map {α β : Type} (f : α → PV) (g : β → PV) : ∀ (xs : List α) (ys : List β), zipP (xs.map f) (ys.map g) = (xs.zip ys).map fun p => .tup [f p.1, g p.2]
  | [], _ => rfl
  | _ :: _, [] => rfl
  | x :: xs, y :: ys => by simp [zipP, zipP_map f g xs ys]
theorem iZip_tt (xs ys : List PV) : iZipP [.tup xs, .tup ys] = .ok (zipP xs ys) := rfl
/-! ### loops over typed rows -/
theorem sForL_inv {α β : Type} {pt : Pat} {b : Om → SR} (enc : β → PV) (Inv : α → Om → Prop) (step : α → β → α) : ∀ (xs : List β) (a : α) (ω : Om), Inv a ω →
    (∀ a ω x, x ∈ xs → Inv a ω → ∃ ω' ω2, patO ω pt (enc x) = some ω' ∧ b ω' = .nx ω2 ∧ Inv (step a x) ω2) → ∃ ω2, sForL pt b (xs.map enc) ω = .nx ω2 ∧ Inv (xs.foldl step a) ω2
  | [], a, ω, h, _ => ⟨ω, rfl, h⟩
  | x :: xs, a, ω, h, k => by
    obtain ⟨ω', ω2, e1, e2, h2⟩ := k a ω x List.mem_cons_self h
    obtain ⟨ω3, e3, h3⟩ := sForL_inv enc Inv step xs (step a x) ω2 h2 fun a ω y m => k a ω y (List.mem_cons_of_mem _ m)
    refine ⟨ω3, ?_, h3⟩
    rw [List.map_cons, sForL, e1]
    simp only [e2]
    exact e3
/-! ### levels, costs -/
def levT (t : Tr) (b : List Nat) : Bool := (b.zip t.sk).all fun p => decide (p.1 ≤ p.2.mx)
def costT (t : Tr) (b : List Nat) : Nat := ((b.zip t.sk).map fun p => p.1 * p.2.pr).sum
theorem are_levels_ok {t : Tr} {b : List Nat} (h : t.ns.length = b.length) : f_are_levels [eT t, eB b] = .ok (.bl (levT t b)) := by
  have hl : b.length = t.sk.length := by rw [← h]; simp [Tr.ns]
  simp [f_are_levels, mFn, m_are_levels, eT, eB, isDT, isiPV, isiS, tyN, hl, iZip_tt, zipP_map]
  rw [lcRun_all (enc := fun p : Nat × Sk => .tup [eN p.1, eS p.2]) (r := fun p => [some (eT t), some (eB b), some (eN p.1), some (eS p.2)]) (g := fun p => PV.bl (decide (p.1 ≤ p.2.mx)))]
  · simp
    rw [bAll_map]
    simp [levT]
  · intro p _; simp [eT, eB]
  · intro p _
    simp [eN, eS, is_count_int]
theorem opMul_ii {i j : Int} (h : mulOk i j = true) : opMul (.int i) (.int j) = .ok (.int (i * j)) := if_pos h
theorem intsOf_map {α : Type} (f : α → Nat) (xs : List α) : intsOf (xs.map fun x => PV.int (f x)) = some (xs.map fun x => (f x : Int)) := by
  induction xs with
  | nil => rfl
  | cons x xs ih => simp [intsOf, ih]
theorem sum_cast {α : Type} (f : α → Nat) (xs : List α) : (xs.map fun x => (f x : Int)).sum = ((xs.map f).sum : Nat) := by
  induction xs with
  | nil => rfl
  | cons x xs ih => simp [ih]
theorem cost_of_ok {t : Tr} (hp : ∀ s ∈ t.sk, s.pr < 1000) {b : List Nat} (h : t.ns.length = b.length) : f_cost_of [eT t, eB b] = .ok (.int (costT t b)) := by
  have hl : b.length = t.sk.length := by rw [← h]; simp [Tr.ns]
  simp [f_cost_of, mFn, m_cost_of, eT, eB, iZip_tt, zipP_map]
  rw [lcRun_all (enc := fun p : Nat × Sk => .tup [eN p.1, eS p.2]) (r := fun p => [some (eT t), some (eB b), some (eN p.1), some (eS p.2)]) (g := fun p => PV.int ((p.1 * p.2.pr : Nat) : Int))]
  · simp only [Res.bind_ok]
    show endR (SR.of (match intsOf ((b.zip t.sk).map fun p => PV.int ((p.1 * p.2.pr : Nat) : Int)) with | some bs => Res.ok (PV.int bs.sum) | none => .bad) SR.rt) = _
    rw [intsOf_map]
    show Res.ok (PV.int _) = _
    rw [sum_cast]
    rfl
  · intro p _; simp [eT, eB]
  · intro p m
    have := hp p.2 (List.of_mem_zip m).2
    simp [eN, eS]
    rw [opMul_ii (by
      unfold mulOk
      simp
      exact .inl (.inr (by omega)))]
/-! ### all rows -/
def rowStep (rows : List (List Nat)) (s : Sk) : List (List Nat) := rows.flatMap fun r => (List.range (s.mx + 1)).map fun l => r ++ [l]
def allRows (t : Tr) : List (List Nat) := t.sk.foldl rowStep [[]]
def rowsT (t : Tr) : List (List Nat) := (allRows t).filter (holdsT t)
theorem rowStep_len {rows : List (List Nat)} {s : Sk} {k : Nat} (h : s.mx ≤ 3) (hr : rows.length ≤ k) : (rowStep rows s).length ≤ 4 * k := by
  unfold rowStep
  induction rows generalizing k with
  | nil => simp
  | cons r rows ih =>
    have := ih (k := k - 1) (by simp at hr; omega)
    simp only [List.flatMap_cons, List.length_append, List.length_map, List.length_range]
    simp at hr
    omega
theorem allRows_mem {sk : List Sk} {rows : List (List Nat)} {r : List Nat} (h : r ∈ sk.foldl rowStep rows) : ∃ r0 ∈ rows, r.length = r0.length + sk.length := by
  induction sk generalizing rows with
  | nil => exact ⟨r, h, rfl⟩
  | cons s sk ih =>
    obtain ⟨r0, m0, e0⟩ := ih (rows := rowStep rows s) h
    unfold rowStep at m0
    obtain ⟨r1, m1, m2⟩ := List.mem_flatMap.mp m0
    obtain ⟨l, _, e⟩ := List.mem_map.mp m2
    refine ⟨r1, m1, ?_⟩
    rw [e0, ← e]
    simp
    omega
theorem allRows_len {t : Tr} {r : List Nat} (h : r ∈ allRows t) : r.length = t.sk.length := by
  obtain ⟨r0, m0, e⟩ := allRows_mem h
  simp at m0
  subst m0
  simpa using e
theorem opAdd_tt {xs ys : List PV} (h : xs.length + ys.length ≤ 16777216) : opAdd (.tup xs) (.tup ys) = .ok (.tup (xs ++ ys)) := if_pos h
theorem iRange_nat (n : Nat) (h : n ≤ 16777216) : iRange [.int (n : Int)] = .ok ((List.range n).map eN) := by
  show (if (n : Int).toNat ≤ 16777216 ∧ (-(n : Int)).toNat ≤ 4611686018427387904 then Res.ok (rangeP ((n : Int).toNat)) else .bad) = _
  rw [if_pos (by omega)]
  simp [rangeP]
  intro a _
  rfl
theorem sForL_pre {β : Type} {pt : Pat} {b : Om → SR} (enc : β → PV) (Inv : List β → Om → Prop) (xs : List β) : ∀ (rest pre : List β) (ω : Om), pre ++ rest = xs → Inv pre ω →
    (∀ pre x post ω, pre ++ x :: post = xs → Inv pre ω → ∃ ω' ω2, patO ω pt (enc x) = some ω' ∧ b ω' = .nx ω2 ∧ Inv (pre ++ [x]) ω2) → ∃ ω2, sForL pt b (rest.map enc) ω = .nx ω2 ∧ Inv xs ω2
  | [], pre, ω, e, h, _ => ⟨ω, rfl, by simp at e; rw [← e]; exact h⟩
  | x :: rest, pre, ω, e, h, k => by
    obtain ⟨ω', ω2, e1, e2, h2⟩ := k pre x rest ω e h
    obtain ⟨ω3, e3, h3⟩ := sForL_pre enc Inv xs rest (pre ++ [x]) ω2 (by simp [e]) h2 k
    refine ⟨ω3, ?_, h3⟩
    rw [List.map_cons, sForL, e1]
    simp only [e2]
    exact e3
theorem rowStep_le (rows : List (List Nat)) (s : Sk) (h : s.mx ≤ 3) : (rowStep rows s).length ≤ 4 * rows.length := rowStep_len h (Nat.le_refl _)
theorem foldl_snoc {α β : Type} (f : α → β → α) (a : α) (xs : List β) (x : β) : (xs ++ [x]).foldl f a = f (xs.foldl f a) x := by simp
theorem fold_len {sk : List Sk} (h : ∀ s ∈ sk, s.mx ≤ 3) : (sk.foldl rowStep [[]]).length ≤ 4 ^ sk.length := by
  suffices ∀ rows : List (List Nat), (sk.foldl rowStep rows).length ≤ 4 ^ sk.length * rows.length by simpa using this [[]]
  induction sk with
  | nil => simp
  | cons s sk ih =>
    intro rows
    have h1 := ih (fun z m => h z (List.mem_cons_of_mem _ m)) (rowStep rows s)
    have h2 := rowStep_le rows s (h s List.mem_cons_self)
    rw [List.foldl_cons]
    refine Nat.le_trans h1 ?_
    rw [List.length_cons, Nat.pow_succ, Nat.mul_assoc]
    exact Nat.mul_le_mul_left _ h2
theorem pow_le {n : Nat} (h : n ≤ 6) : 4 ^ n ≤ 4096 := Nat.pow_le_pow_right (n := 4) (by omega) h
def bRow : Om → SR := sExt [] (eLc (fRange (eBin opAdd (eBin opIx (eV 2) (eC (.int 1))) (eC (.int 1)))) [5] (.nm 5) bYes (eBin opAdd (eV 4) (eTup (aCons (eV 5) aNil)))) 3
def bRows : Om → SR := sSeq (sNew [] false (eLst aNil) 3) (sSeq (sFor [] (fSeq (eV 1)) (.nm 4) bRow) (sAsg [3] false (eV 3) 1))
theorem rows_turn {T : PV} {rows : List (List Nat)} {s : Sk} {q post : List (List Nat)} {r : List Nat} {ω : Om} (hmx : s.mx ≤ 3) (hpl : rows.length ≤ 4096) (hrl : ∀ r ∈ rows, r.length ≤ 6) (eq : q ++ r :: post = rows)
    (h : ∃ u4 u5, ω = [some (.v T), some (.v (.lst (rows.map eB))), some (.v (eS s)), some (.l ((rowStep q s).map eB)), u4, u5]) :
    ∃ ω' ω2, patO ω (.nm 4) (eB r) = some ω' ∧ bRow ω' = .nx ω2 ∧ ∃ u4 u5, ω2 = [some (.v T), some (.v (.lst (rows.map eB))), some (.v (eS s)), some (.l ((rowStep (q ++ [r]) s).map eB)), u4, u5] := by
  obtain ⟨u4, u5, rfl⟩ := h
  have mr : r ∈ rows := by rw [← eq]; simp
  have h1 := hrl r mr
  have hq : q.length + 1 ≤ 4096 := by
    have := congrArg List.length eq
    simp at this
    omega
  have hqs := rowStep_le q s hmx
  refine ⟨_, [some (.v T), some (.v (.lst (rows.map eB))), some (.v (eS s)), some (.l ((rowStep (q ++ [r]) s).map eB)), some (.v (eB r)), u5], rfl, ?_, _, _, rfl⟩
  have hb : ((rowStep q s).map eB).length + ((List.range (s.mx + 1)).map fun l => eB (r ++ [l])).length ≤ 16777216 := by
    rw [List.length_map, List.length_map, List.length_range]
    omega
  unfold bRow
  rw [sExt_go (xs := (rowStep q s).map eB) (ys := (List.range (s.mx + 1)).map fun l => eB (r ++ [l])) (by simp) ?_ hb]
  · simp [rowStep]
  · simp
    rw [show opIx (eS s) (.int 1) = .ok (.int s.mx) by simp [eS]]
    simp
    rw [show ((s.mx : Int) + 1) = ((s.mx + 1 : Nat) : Int) by omega, iRange_nat _ (by omega)]
    simp only [Res.bind_ok]
    rw [lcRun_all (enc := eN) (r := fun l => [some T, some (.lst (rows.map eB)), some (eS s), none, some (eB r), some (eN l)]) (g := fun l => eB (r ++ [l]))]
    · rfl
    · intro l _; simp
    · intro l _
      have hb : (r.map eN).length + [eN l].length ≤ 16777216 := by
        rw [List.length_map, List.length_singleton]
        omega
      simp [eB]
      rw [opAdd_tt hb]
theorem rows_turns {T : PV} {pre : List Sk} {s : Sk} {ω : Om} (hmx : s.mx ≤ 3) (hpl : (pre.foldl rowStep [[]]).length ≤ 4096) (hrl : ∀ r ∈ pre.foldl rowStep [[]], r.length ≤ 6)
    (h : ∃ s2 s3 s4 s5, ω = [some (.v T), some (.v (.lst ((pre.foldl rowStep [[]]).map eB))), s2, s3, s4, s5]) :
    ∃ ω' ω2, patO ω (.nm 2) (eS s) = some ω' ∧ bRows ω' = .nx ω2 ∧ ∃ s2 s3 s4 s5, ω2 = [some (.v T), some (.v (.lst (((pre ++ [s]).foldl rowStep [[]]).map eB))), s2, s3, s4, s5] := by
  obtain ⟨s2, s3, s4, s5, rfl⟩ := h
  obtain ⟨ω3, e3, u4, u5, hω3⟩ := sForL_pre (pt := .nm 4) (b := bRow) eB (fun q ω => ∃ u4 u5, ω = [some (.v T), some (.v (.lst ((pre.foldl rowStep [[]]).map eB))), some (.v (eS s)), some (.l ((rowStep q s).map eB)), u4, u5])
    (pre.foldl rowStep [[]]) (pre.foldl rowStep [[]]) [] [some (.v T), some (.v (.lst ((pre.foldl rowStep [[]]).map eB))), some (.v (eS s)), some (.l []), s4, s5] rfl ⟨s4, s5, rfl⟩ (fun q r post ω eq h => rows_turn hmx hpl hrl eq h)
  subst hω3
  refine ⟨_, [some (.v T), some (.v (.lst (((pre ++ [s]).foldl rowStep [[]]).map eB))), some (.v (eS s)), some (.v (.lst (((pre ++ [s]).foldl rowStep [[]]).map eB))), u4, u5], rfl, ?_, _, _, _, _, rfl⟩
  simp [bRows]
  rw [e3]
  simp
theorem rows_of_ok {t : Tr} (w : Wf t) (h6 : t.sk.length ≤ 6) (h3 : ∀ s ∈ t.sk, s.mx ≤ 3) : f_rows_of [eT t] = .ok (.lst ((rowsT t).map eB)) := by
  obtain ⟨ω2, e, s2, s3, s4, s5, hω⟩ := sForL_pre (pt := .nm 2) (b := bRows) eS (fun pre ω => ∃ s2 s3 s4 s5, ω = [some (.v (eT t)), some (.v (.lst ((pre.foldl rowStep [[]]).map eB))), s2, s3, s4, s5]) t.sk t.sk [] [some (.v (eT t)), some (.v (.lst [.tup []])), none, none, none, none] rfl ⟨none, none, none, none, rfl⟩
    (fun pre s post ω epre h => by
      have ms : s ∈ t.sk := by rw [← epre]; simp
      have hlen := congrArg List.length epre
      simp at hlen
      refine rows_turns (h3 s ms) ?_ (fun r m => ?_) h
      · refine Nat.le_trans (fold_len fun z m => h3 z (by rw [← epre]; simp [m])) (pow_le (by omega))
      · obtain ⟨r0, m0, e⟩ := allRows_mem m
        simp at m0
        subst m0
        simp at e
        omega)
  subst hω
  simp [f_rows_of, mFn, m_rows_of]
  rw [show opIx (eT t) (.int 0) = .ok (.tup (t.sk.map eS)) by simp [eT]]
  simp
  rw [show b_rows_of_2 = bRows from rfl, e]
  simp
  rw [lcRun_map (enc := eB) (r := fun r => [some (eT t), some (.lst ((allRows t).map eB)), shwO s2, shwO s3, some (eB r), shwO s5]) (c := holdsT t) (g := eB)]
  · simp [rowsT, allRows]
  · intro r _; simp [allRows]
  · intro r m
    have hl := allRows_len m
    simp [holds_ok w (b := r) (by simp [Tr.ns, hl])]
  · intro r _ _; simp
end Pv.LW
end
section
set_option linter.all false
set_option maxRecDepth 100000
namespace Pv.LW
open PySem Pv
/-! ### no ring -/
theorem hasLs_map {α : Type} {f : α → PV} (h : ∀ a, hasL (f a) = false) : ∀ xs : List α, hasLs (xs.map f) = false
  | [] => rfl
  | x :: xs => by rw [List.map_cons, hasLs, h x, hasLs_map h xs]; rfl
theorem hasDs_map {α : Type} {f : α → PV} (h : ∀ a, hasD (f a) = false) : ∀ xs : List α, hasDs (xs.map f) = false
  | [] => rfl
  | x :: xs => by rw [List.map_cons, hasDs, h x, hasDs_map h xs]; rfl
theorem hasL_eW (w : Str × Nat) : hasL (eW w) = false := rfl
theorem hasD_eW (w : Str × Nat) : hasD (eW w) = false := rfl
theorem hasL_eS (s : Sk) : hasL (eS s) = false := by simp [eS, hasL, hasLs, hasLs_map hasL_eW]
theorem hasD_eS (s : Sk) : hasD (eS s) = false := (Fl_eS s).1
theorem keepOks_of {ps : List PV} (h1 : hasLs ps = false) (h2 : hasDs ps = false) (ω : Om) : keepOks ps ω = true := by unfold keepOks; rw [h1, h2]; rfl
theorem evF_vis {z : List Nat} {f : Rho → Res PV} {ω : Om} {ps : List PV} (h : f (shw (frz ω z)) = .ok (.lst ps)) (k : keepOks ps (frz ω z) = true) : evF z true f ω = .ok (.l ps) := by
  unfold evF
  simp only [if_true, h]
  rw [if_pos (fun _ => k)]
def bRing : Om → SR := (sSeq (sNew [] true (eLc (fSeq (eV 1)) [4] (.nm 4) (eTru (eCall bAll (aCons (eLc (fSeq (eBin opIx (eV 4) (eC (.int 3)))) [5] (.nm 5) bYes (eBin (opIn false) (eBin opIx (eV 5) (eC (.int 0))) (eV 2))) aNil))) (eV 4)) 3) (sSeq (sIf (eTru (eBin opEq (eV 3) (eLst aNil))) (sRet (eC (.bl false))) sSkip) (sSeq (sExt [3] (eLc (fSeq (eV 3)) [4] (.nm 4) bYes (eBin opIx (eV 4) (eC (.int 0)))) 2) (sNew [] true (eLc (fSeq (eV 1)) [4] (.nm 4) (eTru (eBin (opIn true) (eV 4) (eV 3))) (eV 4)) 1))))
def tRing : Rho → Res Bool := eTru (eBin opNe (eV 1) (eLst aNil))
def okR (done : List Str) (s : Sk) : Bool := s.ws.all fun w => decide (w.1 ∈ done)
/-- left: shared or own -/
def LeftIs (o : Option SV) (l : List Sk) : Prop := o = some (.v (.lst (l.map eS))) ∨ o = some (.l (l.map eS))
theorem leftIs_shw {o : Option SV} {l : List Sk} (h : LeftIs o l) : shwO o = some (.lst (l.map eS)) := by
  rcases h with rfl | rfl <;> rfl
theorem Fl_str (x : Str) : Fl 1 (.str x) := Fl.str x
def bRing2 : Om → SR := (sSeq (sExt [3] (eLc (fSeq (eV 3)) [4] (.nm 4) bYes (eBin opIx (eV 4) (eC (.int 0)))) 2) (sNew [] true (eLc (fSeq (eV 1)) [4] (.nm 4) (eTru (eBin (opIn true) (eV 4) (eV 3))) (eV 4)) 1))
theorem ring_rest {T : PV} {o1 s4 s5 : Option SV} {left F : List Sk} {done : List Str} (hsh : shwO o1 = some (.lst (left.map eS))) (hb : done.length + F.length ≤ 1000) :
    bRing2 [some (.v T), o1, some (.l (done.map PV.str)), some (.l (F.map eS)), s4, s5] = .nx [some (.v T), some (.l ((left.filter fun s => !decide (s ∈ F)).map eS)), some (.l (done.map PV.str ++ F.map fun s => PV.str s.nm)), some (.v (.lst (F.map eS))), s4, s5] := by
  unfold bRing2
  rw [sSeq_ap, sExt_go (xs := done.map PV.str) (ys := F.map fun s => PV.str s.nm) (by simp) ?_ (by rw [List.length_map, List.length_map]; omega)]
  · simp
    rw [evF_vis (ps := (left.filter fun s => !decide (s ∈ F)).map eS) ?_ (keepOks_of (hasLs_map hasL_eS _) (hasDs_map hasD_eS _) _)]
    · simp
    · simp [hsh]
      rw [lcRun_map (enc := eS) (r := fun s => [some T, some (.lst (left.map eS)), some (.lst (done.map PV.str ++ F.map fun s => PV.str s.nm)), some (.lst (F.map eS)), some (eS s), shwO s5]) (c := fun s => !decide (s ∈ F)) (g := eS)]
      · rfl
      · intro s _; simp
      · intro s _
        simp
        rw [opIn_encs gd_eS eS_inj Fl_eS (by omega)]
        simp
      · intro s _ _; simp
  · simp
    rw [lcRun_all (enc := eS) (r := fun s => [some T, hidO o1, none, some (.lst (F.map eS)), some (eS s), hidO s5]) (g := fun s => .str s.nm)]
    · rfl
    · intro s _; simp
    · intro s _; simp [eS]
theorem ring_body {T : PV} {o1 s3 s4 s5 : Option SV} {left : List Sk} {done : List Str} (hl : LeftIs o1 left) (hs : left.length + done.length ≤ 100) :
    (left.filter (okR done) = [] ∧ bRing [some (.v T), o1, some (.l (done.map PV.str)), s3, s4, s5] = .rt (.bl false)) ∨
    ∃ u3 u4 u5, bRing [some (.v T), o1, some (.l (done.map PV.str)), s3, s4, s5] = .nx [some (.v T), some (.l ((left.filter fun s => !decide (s ∈ left.filter (okR done))).map eS)), some (.l ((done ++ (left.filter (okR done)).map (·.nm)).map PV.str)), u3, u4, u5] := by
  have hsh := leftIs_shw hl
  have e1 : (eLc (fSeq (eV 1)) [4] (.nm 4) (eTru (eCall bAll (aCons (eLc (fSeq (eBin opIx (eV 4) (eC (.int 3)))) [5] (.nm 5) bYes (eBin (opIn false) (eBin opIx (eV 5) (eC (.int 0))) (eV 2))) aNil))) (eV 4)) (shw (frz [some (.v T), o1, some (.l (done.map PV.str)), s3, s4, s5] [])) = .ok (.lst ((left.filter (okR done)).map eS)) := by
    simp [hsh]
    rw [lcRun_map (enc := eS) (r := fun s => [some T, some (.lst (left.map eS)), some (.lst (done.map PV.str)), shwO s3, some (eS s), shwO s5]) (c := okR done) (g := eS)]
    · rfl
    · intro s _; simp
    · intro s _
      simp
      rw [show opIx (eS s) (.int 3) = .ok (.tup (s.ws.map eW)) by simp [eS]]
      simp
      rw [lcRun_all (enc := eW) (r := fun w => [some T, some (.lst (left.map eS)), some (.lst (done.map PV.str)), shwO s3, some (eS s), some (eW w)]) (g := fun w => PV.bl (decide (w.1 ∈ done)))]
      · simp
        rw [bAll_map]
        simp [okR]
      · intro w _; simp
      · intro w _
        simp
        rw [show opIx (eW w) (.int 0) = .ok (.str w.1) by simp [eW]]
        simp
        rw [opIn_encs (f := PV.str) (fun _ => rfl) (fun a b e => by simpa using e) Fl_str (by omega)]
        simp
    · intro s _ _; simp
  have e2 : evF [] true (eLc (fSeq (eV 1)) [4] (.nm 4) (eTru (eCall bAll (aCons (eLc (fSeq (eBin opIx (eV 4) (eC (.int 3)))) [5] (.nm 5) bYes (eBin (opIn false) (eBin opIx (eV 5) (eC (.int 0))) (eV 2))) aNil))) (eV 4)) [some (.v T), o1, some (.l (done.map PV.str)), s3, s4, s5] = .ok (.l ((left.filter (okR done)).map eS)) :=
    evF_vis e1 (keepOks_of (hasLs_map hasL_eS _) (hasDs_map hasD_eS _) _)
  have e3 := ring_rest (T := T) (o1 := o1) (s4 := s4) (s5 := s5) (left := left) (F := left.filter (okR done)) (done := done) hsh (by have : (left.filter (okR done)).length ≤ left.length := List.length_filter_le _ _; omega)
  generalize left.filter (okR done) = F at *
  have e4 : bRing [some (.v T), o1, some (.l (done.map PV.str)), s3, s4, s5] = (sIf (eTru (eBin opEq (eV 3) (eLst aNil))) (sRet (eC (.bl false))) sSkip [some (.v T), o1, some (.l (done.map PV.str)), some (.l (F.map eS)), s4, s5]).bind bRing2 := by
    unfold bRing
    rw [sSeq_ap, sNew_ap, e2]
    rfl
  rw [e4, sIf_ap]
  simp only [eTru_ap, eBin_ap, eV_ap, shw_cons, shwO_l, eLst_ap, aNil_ap, Res.bind_ok, mkLst_nil, List.getElem?_cons_succ, List.getElem?_cons_zero]
  rw [opEq_nil (n := 4) (fun x m => by obtain ⟨s, _, rfl⟩ := List.mem_map.mp m; exact Fl_eS s) (by omega)]
  cases F with
  | nil => exact .inl ⟨rfl, rfl⟩
  | cons f F =>
    refine .inr ⟨some (.v (.lst ((f :: F).map eS))), s4, s5, ?_⟩
    simp only [List.map_cons, List.isEmpty_cons, Res.bind_ok, tru_bl, SR.of_ok, Bool.false_eq_true, if_false, sSkip_ap, SR.bind_nx]
    rw [show [some (SV.v T), o1, some (SV.l (List.map PV.str done)), some (SV.l (eS f :: List.map eS F)), s4, s5] = [some (SV.v T), o1, some (SV.l (List.map PV.str done)), some (SV.l (List.map eS (f :: F))), s4, s5] from rfl, e3]
    simp
end Pv.LW
end
section
set_option linter.all false
set_option maxRecDepth 100000
namespace Pv.LW
open PySem Pv
theorem exists_min {α : Type} (r : α → Nat) : ∀ l : List α, l ≠ [] → ∃ s ∈ l, ∀ s' ∈ l, r s ≤ r s'
  | [], h => absurd rfl h
  | [a], _ => ⟨a, by simp, fun s' m => by simp at m; rw [m]; exact Nat.le_refl _⟩
  | a :: b :: l, _ => by
    obtain ⟨s, m, h⟩ := exists_min r (b :: l) (by simp)
    rcases Nat.le_total (r a) (r s) with e | e
    · exact ⟨a, by simp, fun s' m' => by
        rcases List.mem_cons.mp m' with z | z
        · rw [z]; exact Nat.le_refl _
        · exact Nat.le_trans e (h s' z)⟩
    · exact ⟨s, List.mem_cons_of_mem _ m, fun s' m' => by
        rcases List.mem_cons.mp m' with z | z
        · rw [z]; exact e
        · exact h s' z⟩
theorem filter_split {α : Type} (p : α → Bool) : ∀ l : List α, (l.filter p).length + (l.filter fun x => !p x).length = l.length
  | [] => rfl
  | a :: l => by
    have := filter_split p l
    cases h : p a <;> simp [List.filter_cons, h] <;> omega
theorem ring_loop {T : PV} (r : Str → Nat) : ∀ (n : Nat) (left : List Sk) (done : List Str) (o1 s3 s4 s5 : Option SV), LeftIs o1 left → left.length < n → left.length + done.length ≤ 100 →
    (∀ s ∈ left, ∀ w ∈ s.ws, r w.1 < r s.nm ∧ (w.1 ∈ done ∨ ∃ s' ∈ left, s'.nm = w.1)) → ∃ ω2, sWhl tRing bRing n [some (.v T), o1, some (.l (done.map PV.str)), s3, s4, s5] = .nx ω2
  | 0, _, _, _, _, _, _, _, h, _, _ => by omega
  | n + 1, left, done, o1, s3, s4, s5, hl, hn, hz, hi => by
    have hsh := leftIs_shw hl
    have ht : evT tRing [some (.v T), o1, some (.l (done.map PV.str)), s3, s4, s5] = .ok (!left.isEmpty) := by
      unfold evT tRing
      simp [hsh]
      rw [opNe_nil (n := 4) (fun x m => by obtain ⟨s, _, rfl⟩ := List.mem_map.mp m; exact Fl_eS s) (by omega)]
      simp
    rw [sWhl, ht]
    cases left with
    | nil => exact ⟨_, rfl⟩
    | cons a left =>
      simp only [List.isEmpty_cons, Bool.not_false, SR.of_ok, if_true]
      obtain ⟨s, ms, hmin⟩ := exists_min (fun s : Sk => r s.nm) (a :: left) (by simp)
      have hok : okR done s = true := by
        unfold okR
        rw [List.all_eq_true]
        intro w mw
        obtain ⟨h1, h2⟩ := hi s ms w mw
        rcases h2 with h2 | ⟨s', ms', e⟩
        · simpa using h2
        · have := hmin s' ms'
          rw [e] at this
          omega
      have hF : s ∈ (a :: left).filter (okR done) := List.mem_filter.mpr ⟨ms, hok⟩
      rcases ring_body (T := T) (s3 := s3) (s4 := s4) (s5 := s5) hl hz with ⟨e, _⟩ | ⟨u3, u4, u5, e⟩
      · rw [e] at hF; cases hF
      · rw [e]
        simp only []
        have hfe : ((a :: left).filter fun s => !decide (s ∈ (a :: left).filter (okR done))) = (a :: left).filter fun s => !okR done s := by
          refine List.filter_congr fun z mz => ?_
          have : (z ∈ (a :: left).filter (okR done)) ↔ okR done z = true := by rw [List.mem_filter]; exact ⟨fun h => h.2, fun h => ⟨mz, h⟩⟩
          cases q : okR done z <;> simp [this, q]
        have hsp := filter_split (okR done) (a :: left)
        have hpos : 0 < ((a :: left).filter (okR done)).length := List.length_pos_of_mem hF
        refine ring_loop r n _ _ _ u3 u4 u5 (.inr rfl) ?_ ?_ ?_
        · rw [hfe]; omega
        · rw [hfe, List.length_append, List.length_map]; omega
        · rw [hfe]
          intro z mz w mw
          obtain ⟨mz1, mz2⟩ := List.mem_filter.mp mz
          obtain ⟨h1, h2⟩ := hi z mz1 w mw
          refine ⟨h1, ?_⟩
          rcases h2 with h2 | ⟨s', ms', e'⟩
          · exact .inl (List.mem_append_left _ h2)
          · cases q : okR done s' with
            | true => exact .inl (List.mem_append_right _ (List.mem_map.mpr ⟨s', List.mem_filter.mpr ⟨ms', q⟩, e'⟩))
            | false => exact .inr ⟨s', List.mem_filter.mpr ⟨ms', by simp [q]⟩, e'⟩
theorem has_no_ring_ok {sk : List Sk} (r : Str → Nat) (h6 : sk.length ≤ 6) (hr : ∀ s ∈ sk, ∀ w ∈ s.ws, r w.1 < r s.nm ∧ ∃ s' ∈ sk, s'.nm = w.1) : f_has_no_ring [.tup (sk.map eS)] = .ok (.bl true) := by
  obtain ⟨ω2, e⟩ := ring_loop (T := .tup (sk.map eS)) r 12 sk [] (some (.v (.lst (sk.map eS)))) none none none (.inl rfl) (by omega) (by simp; omega) (fun s ms w mw => ⟨(hr s ms w mw).1, .inr (hr s ms w mw).2⟩)
  show endR (sSeq (sAsg [] false (eCall bList (aCons (eV 0) aNil)) 1) (sSeq (sNew [] false (eLst aNil) 2) (sSeq (sWhl tRing bRing 12) (sRet (eC (.bl true))))) [some (.v (.tup (sk.map eS))), none, none, none, none, none]) = _
  simp
  rw [show ([] : List PV) = ([] : List Str).map PV.str from rfl, e]
  simp
end Pv.LW
end
section
set_option linter.all false
set_option maxRecDepth 100000
namespace Pv.LW
open PySem Pv
@[simp] theorem isi_tt (xs : List PV) : isiPV "tuple" (.tup xs) = true := rfl
@[simp] theorem isi_ss (x : Str) : isiPV "str" (.str x) = true := rfl
@[simp] theorem isDT_t (xs : List PV) : isDT (.tup xs) = false := rfl
@[simp] theorem isDT_s (x : Str) : isDT (.str x) = false := rfl
@[simp] theorem isDT_l (xs : List PV) : isDT (.lst xs) = false := rfl
@[simp] theorem isDT_i (i : Int) : isDT (.int i) = false := rfl
/-- a tree as the program wants it -/
structure Vt (t : Tr) : Prop extends Wf t where
  lo : 1 ≤ t.sk.length
  hi : t.sk.length ≤ 6
  nm : ∀ s ∈ t.sk, f_is_name [.str s.nm] = .ok (.bl true)
  mx : ∀ s ∈ t.sk, 1 ≤ s.mx ∧ s.mx ≤ 3
  pr : ∀ s ∈ t.sk, 1 ≤ s.pr ∧ s.pr ≤ 9
  wnd : ∀ s ∈ t.sk, (s.ws.map (·.1)).Nodup
  wlv : ∀ s ∈ t.sk, ∀ w ∈ s.ws, ∃ s' ∈ t.sk, s'.nm = w.1 ∧ 1 ≤ w.2 ∧ w.2 ≤ s'.mx
  rk : ∃ r : Str → Nat, ∀ s ∈ t.sk, ∀ w ∈ s.ws, r w.1 < r s.nm
  lkl : ∀ l ∈ t.lk, l.1.cps.toList < l.2.cps.toList
  lknd : t.lk.Nodup
  lkn : t.lk.length ≤ 4
theorem lenSet_keys {xs : List Str} (h : xs.Nodup) (hl : xs.length < 1000) : lenSetPV (.lst (xs.map PV.str)) = .ok (.int xs.length) := by
  unfold lenSetPV
  simp only [seqPV, keysOf_strs]
  rw [if_pos (by simpa using hl), dd_id (nodup_inr h)]
  simp
theorem wlen {t : Tr} (v : Vt t) {s : Sk} (m : s ∈ t.sk) : s.ws.length ≤ 6 := by
  have h1 : (s.ws.map (·.1)).length ≤ t.ns.length := by
    have : ∀ x ∈ s.ws.map (·.1), x ∈ t.ns := fun x hx => by
      obtain ⟨w, mw, rfl⟩ := List.mem_map.mp hx
      exact v.ws s m w mw
    exact List.Nodup.length_le_of_subset (v.wnd s m) this
  have h2 := v.hi
  simp [Tr.ns] at h1
  omega
def bWant : Om → SR := (sSeq (sIf (bOr (bNot (eTru (eIsi "tuple" (eV 1)))) (bOr (eTru (eBin opNe (eCall bLen (aCons (eV 1) aNil)) (eC (.int 2)))) (bNot (eTru (eCall f_is_name (aCons (eBin opIx (eV 1) (eC (.int 0))) aNil)))))) (sRet (eC (.bl false))) sSkip) (sIf (bNot (eTru (eCall f_is_count (aCons (eBin opIx (eV 1) (eC (.int 1))) (aCons (eC (.int 1)) (aCons (eC k_MOST_LEVEL) aNil)))))) (sRet (eC (.bl false))) sSkip))
theorem is_skill_ok {t : Tr} (v : Vt t) {s : Sk} (m : s ∈ t.sk) : f_is_skill [eS s] = .ok (.bl true) := by
  have hmx := v.mx s m
  have hpr := v.pr s m
  have h0 : opIx (eS s) (.int 0) = .ok (.str s.nm) := by simp [eS]
  have h1 : opIx (eS s) (.int 1) = .ok (.int s.mx) := by simp [eS]
  have h2 : opIx (eS s) (.int 2) = .ok (.int s.pr) := by simp [eS]
  have h3 : opIx (eS s) (.int 3) = .ok (.tup (s.ws.map eW)) := by simp [eS]
  have hl : bLen [eS s] = .ok (.int 4) := by simp [eS]
  have hi : isiPV "tuple" (eS s) = true := rfl
  have hd : isDT (eS s) = false := rfl
  obtain ⟨ω2, e, o, rfl⟩ := sForL_pre (pt := .nm 1) (b := bWant) eW (fun _ ω => ∃ o, ω = [some (.v (eS s)), o]) s.ws s.ws [] [some (.v (eS s)), none] rfl ⟨none, rfl⟩
    (fun pre w post ω ep ⟨o, eo⟩ => by
      subst eo
      have mw : w ∈ s.ws := by rw [← ep]; simp
      obtain ⟨s', ms', en, hw1, hw2⟩ := v.wlv s m w mw
      have hmx' := v.mx s' ms'
      have hnm := v.nm s' ms'
      rw [en] at hnm
      refine ⟨_, [some (.v (eS s)), some (.v (eW w))], rfl, ?_, _, rfl⟩
      have g0 : opIx (eW w) (.int 0) = .ok (.str w.1) := by simp [eW]
      have g1 : opIx (eW w) (.int 1) = .ok (.int w.2) := by simp [eW]
      have gl : bLen [eW w] = .ok (.int 2) := by simp [eW]
      have gi : isiPV "tuple" (eW w) = true := rfl
      have gd' : isDT (eW w) = false := rfl
      unfold bWant
      simp [g0, g1, gl, gi, gd', hnm, is_count_int, k_MOST_LEVEL]
      omega)
  show endR (sSeq _ (sSeq _ (sSeq (sFor [] (fSeq (eBin opIx (eV 0) (eC (.int 3)))) (.nm 1) bWant) _)) [some (.v (eS s)), none]) = _
  have c1 : decide ((1 : Int) ≤ s.mx) = true := by simp; omega
  have c2 : decide ((s.mx : Int) ≤ 3) = true := by simp; omega
  have c3 : decide ((1 : Int) ≤ s.pr) = true := by simp; omega
  have c4 : decide ((s.pr : Int) ≤ 9) = true := by simp; omega
  simp only [h0, h1, h2, h3, hl, hi, hd, v.nm s m, is_count_int, k_MOST_LEVEL, k_MOST_COST, c1, c2, c3, c4, sSeq_ap, sIf_ap, bOr_ap, bNot_ap, eTru_ap, eIsi_ap, eV_ap, shw_cons, shw_nil, shwO_v, shwO_n, eBin_ap, eCall_ap, aCons_ap, aNil_ap, eC_ap, List.getElem?_cons_zero, Res.bind_ok, tru_bl, isi_tt, isDT_t, opNe_ii,
    Bool.false_eq_true, if_false, Bool.not_true, Bool.not_false, if_true, Bool.and_self, SR.of_ok, SR.bind_nx, sSkip_ap, decide_true, sFor_ap, frz_nil, hid_cons, hid_nil, hidO_v, hidO_n, fSeq_ap, iSeq_tup, e, sRet_ap, eLenSet_ap, eLc_ap, wipeR_cons, wipeR_nil]
  rw [lcRun_all (enc := eW) (r := fun w => [some (eS s), some (eW w)]) (g := fun w => .str w.1)]
  · have hnd := v.wnd s m
    have hlen := wlen v m
    have := lenSet_keys hnd (by simp; omega)
    simp [Function.comp_def] at this ⊢
    simp [this]
  · intro w _; simp
  · intro w _; simp [eW]
end Pv.LW
end
section
set_option linter.all false
set_option maxRecDepth 100000
namespace Pv.LW
open PySem Pv
def eM (t : Tr) : PV := eD t.ns (t.sk.map (·.mx))
theorem ns_len (t : Tr) : t.ns.length = (t.sk.map (·.mx)).length := by simp [Tr.ns]
theorem in_eD {ns : List Str} {b : List Nat} {x : Str} (h : ns.length = b.length) (m : x ∈ ns) : opIn false (.str x) (eD ns b) = .ok (.bl true) := by
  obtain ⟨k, hk⟩ := lk?_some h m
  show Res.ok (PV.bl (xor false (dLook (ns.map Sum.inr) (b.map eN) (Sum.inr x : L2.Key)).isSome)) = _
  rw [dLook_eD, hk]
  rfl
def bLock : Om → SR := (sSeq (sIf (bOr (bNot (eTru (eIsi "tuple" (eV 2)))) (eTru (eBin opNe (eCall bLen (aCons (eV 2) aNil)) (eC (.int 2))))) (sRet (eC (.bl false))) sSkip) (sIf (bNot (eTru (eCall bAll (aCons (eLc (fSeq (eV 2)) [3] (.nm 3) bYes (eAnd (eIsi "str" (eV 3)) (eBin (opIn false) (eV 3) (eV 1)))) aNil)))) (sRet (eC (.bl false))) sSkip))
theorem bAll_nil : bAll [.lst []] = .ok (.bl true) := rfl
theorem krows_eL : ∀ l : List (Str × Str), krowsOf (l.map eL) = some (l.map fun p => [Sum.inr p.1, Sum.inr p.2])
  | [] => rfl
  | p :: l => by simp [krowsOf, eL, keysOf, keyOf, krows_eL l]
theorem keys_eL (p : Str × Str) (l : List (Str × Str)) : keysOf ((p :: l).map eL) = none := by
  simp [keysOf, eL, keyOf]
theorem nodup_eL {l : List (Str × Str)} (h : l.Nodup) : (l.map fun p => ([Sum.inr p.1, Sum.inr p.2] : List L2.Key)).Nodup :=
  List.Pairwise.map _ (fun a b hab e => hab (by
    simp only [List.cons.injEq, Sum.inr.injEq, and_true] at e
    exact Prod.ext e.1 e.2)) h
theorem lenSet_locks {l : List (Str × Str)} (h : l.Nodup) (h4 : l.length ≤ 4) : lenSetPV (.tup (l.map eL)) = .ok (.int l.length) := by
  cases l with
  | nil => rfl
  | cons p l =>
    unfold lenSetPV
    simp only [seqPV]
    rw [keys_eL, krows_eL]
    simp only []
    rw [if_pos (by simp at h4 ⊢; omega), dd_id (nodup_eL h)]
    simp
theorem are_locks_ok {t : Tr} (v : Vt t) : f_are_locks [.tup (t.lk.map eL), eM t] = .ok (.bl true) := by
  obtain ⟨ω2, e, o, o3, rfl⟩ := sForL_pre (pt := .nm 2) (b := bLock) eL (fun _ ω => ∃ o o3, ω = [some (.v (.tup (t.lk.map eL))), some (.v (eM t)), o, o3]) t.lk t.lk [] [some (.v (.tup (t.lk.map eL))), some (.v (eM t)), none, none] rfl ⟨none, none, rfl⟩
    (fun pre l post ω ep ⟨o, o3, eo⟩ => by
      subst eo
      have ml : l ∈ t.lk := by rw [← ep]; simp
      obtain ⟨h1, h2⟩ := v.lk l ml
      refine ⟨_, [some (.v (.tup (t.lk.map eL))), some (.v (eM t)), some (.v (eL l)), o3], rfl, ?_, _, _, rfl⟩
      unfold bLock
      have hM1 : opIn false (.str l.1) (eM t) = .ok (.bl true) := in_eD (ns_len t) h1
      have hM2 : opIn false (.str l.2) (eM t) = .ok (.bl true) := in_eD (ns_len t) h2
      have hc : lcRun (.nm 3) bYes (eAnd (eIsi "str" (eV 3)) (eBin (opIn false) (eV 3) (eV 1))) [some (.tup (t.lk.map eL)), some (eM t), some (eL l), none] [.str l.1, .str l.2] = .ok [.bl true, .bl true] := by
        simp [lcRun, hM1, hM2]
      simp [eL] at hc ⊢
      rw [hc]
      rfl)
  show endR (sSeq (sFor [] (fSeq (eV 0)) (.nm 2) bLock) (sRet (eAnd (eCall bAll (aCons (eLc (fSeq (eV 0)) [2] (.nm 2) bYes (eBin opLt (eBin opIx (eV 2) (eC (.int 0))) (eBin opIx (eV 2) (eC (.int 1))))) aNil)) (eBin opEq (eLenSet (eV 0)) (eCall bLen (aCons (eV 0) aNil))))) [some (.v (.tup (t.lk.map eL))), some (.v (eM t)), none, none]) = _
  simp [e]
  rw [lcRun_all (enc := eL) (r := fun l => [some (.tup (t.lk.map eL)), some (eM t), some (eL l), shwO o3]) (g := fun l => .bl true)]
  · have := bAll_map (fun _ : Str × Str => true) t.lk
    simp only [Res.bind_ok]
    rw [this, show (t.lk.all fun _ => true) = true from List.all_eq_true.mpr fun _ _ => rfl]
    simp [lenSet_locks v.lknd v.lkn]
  · intro l _; simp
  · intro l m
    have := v.lkl l m
    simp [eL, this]
theorem pairs_sk : ∀ l : List Sk, pairsOf (l.map fun s => .tup [.str s.nm, .int s.mx]) = some ((l.map (·.nm)).map Sum.inr, (l.map (·.mx)).map eN)
  | [] => rfl
  | s :: l => by simp [pairsOf, keyOf, pairs_sk l, eN]
theorem mosts_ok {t : Tr} (nd : t.ns.Nodup) : bDict [.lst (t.sk.map fun s => .tup [.str s.nm, .int s.mx])] = .ok (eM t) := by
  show (match pairsOf (t.sk.map fun s => .tup [.str s.nm, .int s.mx]) with | some d => keyVals (dMerge [] [] d.1 d.2) | none => Res.bad) = _
  rw [pairs_sk]
  simp only []
  rw [dMerge_nodup _ _ [] [] (show ([] ++ (t.sk.map Sk.nm).map (Sum.inr : Str → L2.Key)).Nodup from nodup_inr nd) (by simp)]
  rfl
def bTree : Om → SR := (sIf (bNot (eTru (eCall bAll (aCons (eLc (fSeq (eBin opIx (eV 1) (eC (.int 3)))) [5, 6] (.tp [5, 6]) bYes (eAnd (eBin (opIn false) (eV 5) (eV 4)) (eBin opLe (eV 6) (eBin opIx (eV 4) (eV 5))))) aNil)))) (sRet (eC (.bl false))) sSkip)
theorem lv_mx {t : Tr} (nd : t.ns.Nodup) {s : Sk} (m : s ∈ t.sk) : lv t.ns (t.sk.map (·.mx)) s.nm = s.mx := by
  unfold lv Tr.ns at *
  generalize t.sk = l at nd m
  induction l with
  | nil => cases m
  | cons a l ih =>
    rw [List.map_cons, List.nodup_cons] at nd
    rcases List.mem_cons.mp m with e | m
    · subst e; simp [lk?]
    · have : ¬ a.nm = s.nm := fun z => nd.1 (List.mem_map.mpr ⟨s, m, z.symm⟩)
      simp only [List.map_cons, lk?, if_neg this]
      exact ih nd.2 m
theorem is_tree_ok {t : Tr} (v : Vt t) : f_is_tree [eT t] = .ok (.bl true) := by
  obtain ⟨r, hr⟩ := v.rk
  have hring : f_has_no_ring [.tup (t.sk.map eS)] = .ok (.bl true) := has_no_ring_ok r v.hi fun s ms w mw => ⟨hr s ms w mw, let ⟨s', m', e, _⟩ := v.wlv s ms w mw; ⟨s', m', e⟩⟩
  obtain ⟨ω2, e, o1, o5, o6, rfl⟩ := sForL_pre (pt := .nm 1) (b := bTree) eS (fun _ ω => ∃ o1 o5 o6, ω = [some (.v (eT t)), o1, some (.v (.tup (t.sk.map eS))), some (.v (.tup (t.lk.map eL))), some (.v (eM t)), o5, o6]) t.sk t.sk [] [some (.v (eT t)), none, some (.v (.tup (t.sk.map eS))), some (.v (.tup (t.lk.map eL))), some (.v (eM t)), none, none] rfl ⟨none, none, none, rfl⟩
    (fun pre s post ω ep ⟨o1, o5, o6, eo⟩ => by
      subst eo
      have ms : s ∈ t.sk := by rw [← ep]; simp
      refine ⟨_, [some (.v (eT t)), some (.v (eS s)), some (.v (.tup (t.sk.map eS))), some (.v (.tup (t.lk.map eL))), some (.v (eM t)), o5, o6], rfl, ?_, _, _, _, rfl⟩
      unfold bTree
      have h3 : opIx (eS s) (.int 3) = .ok (.tup (s.ws.map eW)) := by simp [eS]
      simp [h3]
      rw [lcRun_all (enc := eW) (r := fun w => [some (eT t), some (eS s), some (.tup (t.sk.map eS)), some (.tup (t.lk.map eL)), some (eM t), some (.str w.1), some (.int w.2)]) (g := fun w => .bl true)]
      · have := bAll_map (fun _ : Str × Nat => true) s.ws
        simp only [Res.bind_ok]
        rw [this, show (s.ws.all fun _ => true) = true from List.all_eq_true.mpr fun _ _ => rfl]
        rfl
      · intro w _; rfl
      · intro w mw
        obtain ⟨s', m', en, w1, w2⟩ := v.wlv s ms w mw
        have hin : opIn false (.str w.1) (eM t) = .ok (.bl true) := in_eD (ns_len t) (v.ws s ms w mw)
        have hix : opIx (eM t) (.str w.1) = .ok (.int (lv t.ns (t.sk.map (·.mx)) w.1)) := opIx_eD (ns_len t) (v.ws s ms w mw)
        have hlv := lv_mx v.nd m'
        rw [en] at hlv
        simp [hin, hix, hlv]
        omega)
  have hlo := v.lo
  have hhi := v.hi
  have c1 : decide ((1 : Int) ≤ (t.sk.length : Nat)) = true := by simp; omega
  have c2 : decide (((t.sk.length : Nat) : Int) ≤ 6) = true := by simp; omega
  have hl0 : bLen [eT t] = .ok (.int 2) := by simp [eT]
  have hi0 : isiPV "tuple" (eT t) = true := rfl
  have hd0 : isDT (eT t) = false := rfl
  have hs0 : iSeq (eT t) = .ok [.tup (t.sk.map eS), .tup (t.lk.map eL)] := rfl
  have hp0 : patO [some (.v (eT t)), none, none, none, none, none, none] (.tp [2, 3]) (eT t) = some [some (.v (eT t)), none, some (.v (.tup (t.sk.map eS))), some (.v (.tup (t.lk.map eL))), none, none, none] := rfl
  have hM : bLen [eM t] = .ok (.int t.sk.length) := by
    show Res.ok (PV.int ((t.sk.map (·.mx)).map eN).length) = _
    simp
  have hsk : lcRun (.nm 1) bYes (eCall f_is_skill (aCons (eV 1) aNil)) [some (eT t), none, some (.tup (t.sk.map eS)), some (.tup (t.lk.map eL)), none, none, none] (t.sk.map eS) = .ok (t.sk.map fun _ => .bl true) :=
    lcRun_all (enc := eS) (r := fun s => [some (eT t), some (eS s), some (.tup (t.sk.map eS)), some (.tup (t.lk.map eL)), none, none, none]) (g := fun _ => .bl true) t.sk (fun s _ => rfl) (fun s m => by simp [is_skill_ok v m])
  have hall : bAll [.lst (t.sk.map fun _ => PV.bl true)] = .ok (.bl true) := by
    rw [bAll_map (fun _ : Sk => true) t.sk, show (t.sk.all fun _ => true) = true from List.all_eq_true.mpr fun _ _ => rfl]
  have hms : lcRun (.nm 1) bYes (eTup (aCons (eBin opIx (eV 1) (eC (.int 0))) (aCons (eBin opIx (eV 1) (eC (.int 1))) aNil))) [some (eT t), none, some (.tup (t.sk.map eS)), some (.tup (t.lk.map eL)), none, none, none] (t.sk.map eS) = .ok (t.sk.map fun s => .tup [.str s.nm, .int s.mx]) :=
    lcRun_all (enc := eS) (r := fun s => [some (eT t), some (eS s), some (.tup (t.sk.map eS)), some (.tup (t.lk.map eL)), none, none, none]) (g := fun s => .tup [.str s.nm, .int s.mx]) t.sk (fun s _ => rfl) (fun s m => by
      have h0 : opIx (eS s) (.int 0) = .ok (.str s.nm) := by simp [eS]
      have h1 : opIx (eS s) (.int 1) = .ok (.int s.mx) := by simp [eS]
      simp [h0, h1])
  show endR (sSeq _ (sSeq _ (sSeq _ (sSeq _ (sSeq _ (sSeq (sFor [] (fSeq (eV 2)) (.nm 1) bTree) _))))) [some (.v (eT t)), none, none, none, none, none, none]) = _
  simp [hl0, hi0, hd0, hs0, lcRun]
  rw [show bAll [PV.lst [PV.bl true, PV.bl true]] = .ok (.bl true) from rfl]
  have c3 : (1 ≤ t.sk.length) = True := eq_true hlo
  have c4 : ((t.sk.length : Int) ≤ 6) = True := eq_true (by omega)
  simp [hp0, hsk, hall, hms, mosts_ok v.nd, hM, e, hring, are_locks_ok v, k_MOST_SKILLS]
  rw [c1, c2]
  simp [hms, mosts_ok v.nd, hM, e, hring, are_locks_ok v]
theorem need_tree_ok {t : Tr} (v : Vt t) : f_need_tree [eT t] = .ok .non := by
  show endR (m_need_tree [some (.v (eT t))]) = _
  simp [m_need_tree, is_tree_ok v]
theorem is_build_ok {t : Tr} (v : Vt t) {b : List Nat} (h : t.ns.length = b.length) : f_is_build [eT t, eB b] = .ok (.bl (levT t b && holdsT t b)) := by
  show endR (m_is_build [some (.v (eT t)), some (.v (eB b))]) = _
  simp [m_is_build, need_tree_ok v, are_levels_ok h, holds_ok v.toWf h]
  cases levT t b <;> simp
theorem need_build_ok {t : Tr} (v : Vt t) {b : List Nat} (h : t.ns.length = b.length) (hb : levT t b = true) (hh : holdsT t b = true) : f_need_build [eT t, eB b] = .ok .non := by
  show endR (m_need_build [some (.v (eT t)), some (.v (eB b))]) = _
  simp [m_need_build, is_build_ok v h, hb, hh]
theorem cost_ok {t : Tr} (v : Vt t) {b : List Nat} (h : t.ns.length = b.length) (hb : levT t b = true) (hh : holdsT t b = true) : f_cost [eT t, eB b] = .ok (.int (costT t b)) := by
  show endR (m_cost [some (.v (eT t)), some (.v (eB b))]) = _
  simp [m_cost, need_build_ok v h hb hh, cost_of_ok (fun s m => by have := v.pr s m; omega) h]
end Pv.LW
end
section
set_option linter.all false
set_option maxRecDepth 100000
namespace Pv.LW
open PySem Pv
theorem rows_len {t : Tr} {b : List Nat} (m : b ∈ rowsT t) : t.ns.length = b.length := by
  have := allRows_len (List.mem_filter.mp m).1
  simp [Tr.ns, this]
theorem within_ok {t : Tr} (v : Vt t) (p : Nat) : f_within [eT t, .int p] = .ok (.lst (((rowsT t).filter fun b => decide (costT t b ≤ p)).map eB)) := by
  show endR (m_within [some (.v (eT t)), some (.v (.int p)), none]) = _
  simp [m_within, rows_of_ok v.toWf v.hi (fun s m => (v.mx s m).2)]
  rw [lcRun_map (enc := eB) (r := fun b => [some (eT t), some (.int p), some (eB b)]) (c := fun b => decide (costT t b ≤ p)) (g := eB)]
  · simp
  · intro b _; simp
  · intro b m
    simp [cost_of_ok (fun s m => by have := v.pr s m; omega) (rows_len m)]
  · intro b _ _; simp
theorem many_ok {t : Tr} (v : Vt t) (p : Nat) (hp : p ≤ 999) : f_many [eT t, .int p] = .ok (.int ((rowsT t).filter fun b => decide (costT t b ≤ p)).length) := by
  have hn : f_need_points [.int p] = .ok .non := by
    show endR (m_need_points [some (.v (.int p))]) = _
    have c1 : decide ((0 : Int) ≤ p) = true := by simp
    have c2 : decide ((p : Int) ≤ 999) = true := by simp; omega
    have : f_is_count [.int p, .int 0, .int 999] = .ok (.bl true) := by rw [is_count_int, c1, c2]; rfl
    simp [m_need_points, k_MOST_POINTS, this]
  have hl : f_look [eT t, .int p] = .ok .non := by
    show endR (m_look [some (.v (eT t)), some (.v (.int p))]) = _
    simp [m_look, need_tree_ok v, hn]
  show endR (m_many [some (.v (eT t)), some (.v (.int p))]) = _
  simp [m_many, hl, within_ok v p]
end Pv.LW
end
section
set_option linter.all false
set_option maxRecDepth 100000
namespace Pv.LW
open PySem Pv
def dropW (x y : Str) (s : Sk) : Sk := { s with ws := s.ws.filter fun w => !decide (s.nm = x) || !decide (w.1 = y) }
def withoutT (t : Tr) (x y : Str) : Tr := ⟨t.sk.map (dropW x y), t.lk⟩
def bWW : Om → SR := (sSeq (sAsg [] false (eCall bTuple (aCons (eLc (fSeq (eBin opIx (eV 4) (eC (.int 3)))) [6] (.nm 6) (bOr (eTru (eBin opNe (eBin opIx (eV 4) (eC (.int 0))) (eV 1))) (eTru (eBin opNe (eBin opIx (eV 6) (eC (.int 0))) (eV 2)))) (eV 6)) aNil)) 5) (sApp [] false (eBin opAdd (eSl (eV 4) sNone (sPart (eC (.int 3)))) (eTup (aCons (eV 5) aNil))) 3))
theorem cut3 (a b c d : PV) : cut [a, b, c, d] none (some 3) = [a, b, c] := rfl
theorem without_want_ok {t : Tr} (h6 : t.sk.length ≤ 6) (x y : Str) : f_without_want [eT t, .str x, .str y] = .ok (eT (withoutT t x y)) := by
  obtain ⟨ω2, e, o4, o5, o6, rfl⟩ := sForL_pre (pt := .nm 4) (b := bWW) eS (fun pre ω => ∃ o4 o5 o6, ω = [some (.v (eT t)), some (.v (.str x)), some (.v (.str y)), some (.l ((pre.map (dropW x y)).map eS)), o4, o5, o6]) t.sk t.sk [] [some (.v (eT t)), some (.v (.str x)), some (.v (.str y)), some (.l []), none, none, none] rfl ⟨none, none, none, rfl⟩
    (fun pre s post ω ep ⟨o4, o5, o6, eo⟩ => by
      subst eo
      have hlen := congrArg List.length ep
      simp at hlen
      refine ⟨_, [some (.v (eT t)), some (.v (.str x)), some (.v (.str y)), some (.l (((pre ++ [s]).map (dropW x y)).map eS)), some (.v (eS s)), some (.v (.tup ((dropW x y s).ws.map eW))), o6], rfl, ?_, _, _, _, rfl⟩
      have h0 : opIx (eS s) (.int 0) = .ok (.str s.nm) := by simp [eS]
      have h3 : opIx (eS s) (.int 3) = .ok (.tup (s.ws.map eW)) := by simp [eS]
      have hc : lcRun (.nm 6) (bOr (eTru (eBin opNe (eBin opIx (eV 4) (eC (.int 0))) (eV 1))) (eTru (eBin opNe (eBin opIx (eV 6) (eC (.int 0))) (eV 2)))) (eV 6) [some (eT t), some (.str x), some (.str y), none, some (eS s), hidO o5, none] (s.ws.map eW) = .ok ((dropW x y s).ws.map eW) :=
        lcRun_map (enc := eW) (r := fun w => [some (eT t), some (.str x), some (.str y), none, some (eS s), hidO o5, some (eW w)]) (c := fun w => !decide (s.nm = x) || !decide (w.1 = y)) (g := eW) s.ws (fun w _ => rfl) (fun w _ => by
          have g0 : opIx (eW w) (.int 0) = .ok (.str w.1) := by simp [eW]
          simp [h0, g0]
          by_cases q : s.nm = x <;> simp [q]) (fun w _ _ => rfl)
      unfold bWW
      simp [h3, hc]
      rw [sApp_go (xs := (pre.map (dropW x y)).map eS) (p := eS (dropW x y s)) (by simp) ?_ (by rw [List.length_map, List.length_map]; omega)]
      · simp
      · simp
        have : opAdd (.tup (cut [PV.str s.nm, PV.int s.mx, PV.int s.pr, PV.tup (s.ws.map eW)] none (some 3))) (.tup [PV.tup ((dropW x y s).ws.map eW)]) = .ok (eS (dropW x y s)) := by
          rw [cut3, opAdd_tt (by simp)]
          rfl
        simpa [eS] using this)
  show endR (sSeq (sNew [] false (eLst aNil) 3) (sSeq (sFor [] (fSeq (eBin opIx (eV 0) (eC (.int 0)))) (.nm 4) bWW) (sRet (eTup (aCons (eCall bTuple (aCons (eV 3) aNil)) (aCons (eBin opIx (eV 0) (eC (.int 1))) aNil))))) [some (.v (eT t)), some (.v (.str x)), some (.v (.str y)), none, none, none, none]) = _
  have h0 : opIx (eT t) (.int 0) = .ok (.tup (t.sk.map eS)) := by simp [eT]
  have h1 : opIx (eT t) (.int 1) = .ok (.tup (t.lk.map eL)) := by simp [eT]
  simp [h0, e, h1]
  simp [eT, withoutT]
end Pv.LW
end
section
set_option linter.all false
set_option maxRecDepth 100000
namespace Pv.LW
open PySem Pv
/-- the level of x set to nothing -/
def setZ : List Str → List Nat → Str → List Nat
  | n :: ns, b :: bs, x => (if n = x then 0 else b) :: setZ ns bs x
  | _, bs, _ => bs
theorem setZ_len (x : Str) : ∀ (ns : List Str) (b : List Nat), (setZ ns b x).length = b.length
  | [], b => by cases b <;> rfl
  | n :: ns, [] => rfl
  | n :: ns, b :: bs => by simp [setZ, setZ_len x ns bs]
theorem dSet_eD (x : Str) : ∀ (ns : List Str) (b : List Nat), dSet (ns.map Sum.inr) (b.map eN) (Sum.inr x : L2.Key) (.int 0) = (setZ ns b x).map eN
  | [], b => by cases b <;> rfl
  | n :: ns, [] => rfl
  | n :: ns, b :: bs => by
    simp only [List.map_cons, dSet, setZ]
    by_cases e : n = x
    · subst e; simp [dSet_eD n ns bs, eN]
    · rw [if_neg (fun z => e (Sum.inr.inj z)), if_neg e, dSet_eD x ns bs]
theorem dPut_eD {ns : List Str} {b : List Nat} {x : Str} (m : x ∈ ns) : dPut (ns.map Sum.inr) (b.map eN) (Sum.inr x : L2.Key) (.int 0) = (ns.map Sum.inr, (setZ ns b x).map eN) := by
  unfold dPut
  rw [if_pos, dSet_eD]
  simp
  exact m
end Pv.LW
end
section
set_option linter.all false
set_option maxRecDepth 100000
namespace Pv
open PySem
/-! ### tools -/
theorem lcRun_ok {α : Type} {pt : Pat} {tt : Rho → Res Bool} {te : Rho → Res PV} {ρ : Rho} (enc : α → PV) (c : α → Bool) (g : α → PV) : ∀ (xs : List α), (∀ x ∈ xs, ∃ ρ', patR ρ pt (enc x) = some ρ' ∧ tt ρ' = .ok (c x) ∧ (c x = true → te ρ' = .ok (g x))) →
    lcRun pt tt te ρ (xs.map enc) = .ok ((xs.filter c).map g)
  | [], _ => rfl
  | x :: xs, h => by
    have ih := lcRun_ok enc c g xs (fun y m => h y (List.mem_cons_of_mem _ m))
    obtain ⟨ρ', h1, h2, h3⟩ := h x List.mem_cons_self
    rw [List.map_cons, lcRun, h1]
    simp only [h2, noX_ok, Res.bind_ok, ih]
    cases hc : c x with
    | true => simp [h3 hc, List.filter_cons, hc]
    | false => simp [List.filter_cons, hc]
theorem lcRun_ok1 {α : Type} {pt : Pat} {te : Rho → Res PV} {ρ : Rho} (enc : α → PV) (g : α → PV) (xs : List α) (h : ∀ x ∈ xs, ∃ ρ', patR ρ pt (enc x) = some ρ' ∧ te ρ' = .ok (g x)) :
    lcRun pt bYes te ρ (xs.map enc) = .ok (xs.map g) := by
  have := lcRun_ok (tt := bYes) enc (fun _ => true) g xs (fun x m => let ⟨ρ', a, b⟩ := h x m; ⟨ρ', a, rfl, fun _ => b⟩)
  rwa [List.filter_eq_self.mpr (fun _ _ => rfl)] at this
/-- a slot that owns nothing -/
def shd : Option SV → Bool
  | none => true
  | some (.v _) => true
  | _ => false
def isLO : Option SV → Bool
  | some (.l _) => true
  | _ => false
def isDO : Option SV → Bool
  | some (.d _ _) => true
  | some (.t _ _) => true
  | _ => false
@[simp] theorem anyL_nil : anyL [] = false := rfl
@[simp] theorem anyD_nil : anyD [] = false := rfl
@[simp] theorem anyL_cons (o : Option SV) (ω : Om) : anyL (o :: ω) = (isLO o || anyL ω) := by
  unfold anyL
  rw [List.any_cons]
  cases o with
  | none => rfl
  | some s => cases s <;> rfl
@[simp] theorem anyD_cons (o : Option SV) (ω : Om) : anyD (o :: ω) = (isDO o || anyD ω) := by
  unfold anyD
  rw [List.any_cons]
  cases o with
  | none => rfl
  | some s => cases s <;> rfl
@[simp] theorem isLO_v (p : PV) : isLO (some (.v p)) = false := rfl
@[simp] theorem isLO_l (p : List PV) : isLO (some (.l p)) = true := rfl
@[simp] theorem isLO_d (ks : List L2.Key) (vs : List PV) : isLO (some (.d ks vs)) = false := rfl
@[simp] theorem isLO_n : isLO none = false := rfl
@[simp] theorem isDO_v (p : PV) : isDO (some (.v p)) = false := rfl
@[simp] theorem isDO_l (p : List PV) : isDO (some (.l p)) = false := rfl
@[simp] theorem isDO_d (ks : List L2.Key) (vs : List PV) : isDO (some (.d ks vs)) = true := rfl
@[simp] theorem isDO_n : isDO none = false := rfl
theorem shd_l {o : Option SV} (h : shd o = true) : isLO o = false := by
  cases o with
  | none => rfl
  | some s => cases s <;> first | rfl | cases h
theorem shd_d {o : Option SV} (h : shd o = true) : isDO o = false := by
  cases o with
  | none => rfl
  | some s => cases s <;> first | rfl | cases h
theorem shd_hid {o : Option SV} (h : shd o = true) : hidO o = shwO o := by
  cases o with
  | none => rfl
  | some s => cases s <;> first | rfl | cases h
@[simp] theorem shd_v (p : PV) : shd (some (.v p)) = true := rfl
@[simp] theorem shd_n : shd none = true := rfl
theorem ev_vis {z : List Nat} {f : Rho → Res PV} {ω : Om} {p : PV} (h : f (shw (frz ω z)) = .ok p) (k : keepOk p (frz ω z) = true) : ev z true f ω = .ok p := by
  unfold ev
  simp only [if_true, h, Res.bind_ok]
  rw [if_pos k]
theorem keepOk_l {p : PV} {ω : Om} (h1 : anyL ω = false) (h2 : hasD p = false) : keepOk p ω = true := by
  unfold keepOk; rw [h1, h2]; simp
theorem keepOk_d {p : PV} {ω : Om} (h1 : anyD ω = false) (h2 : hasL p = false) : keepOk p ω = true := by
  unfold keepOk; rw [h1, h2]; simp
theorem keepOk_f {p : PV} {ω : Om} (h1 : hasL p = false) (h2 : hasD p = false) : keepOk p ω = true := by
  unfold keepOk; rw [h1, h2]; simp
end Pv
namespace Pv.LW
open PySem Pv
theorem hasD_lst {α : Type} {f : α → PV} (h : ∀ a, hasD (f a) = false) (xs : List α) : hasD (.lst (xs.map f)) = false := hasDs_map h xs
theorem Fl_map {α : Type} {f : α → PV} {n : Nat} (h : ∀ a, Fl n (f a)) (xs : List α) : ∀ x ∈ xs.map f, Fl n x := fun x m => by
  obtain ⟨a, _, rfl⟩ := List.mem_map.mp m; exact h a
theorem opNe_nil' {α : Type} {f : α → PV} {n : Nat} (h : ∀ a, Fl n (f a)) (e : n < 64) (xs : List α) : opNe (.lst (xs.map f)) (.lst []) = .ok (.bl (!xs.isEmpty)) := by
  rw [opNe_nil (Fl_map h xs) e]; simp
theorem opEq_nil' {α : Type} {f : α → PV} {n : Nat} (h : ∀ a, Fl n (f a)) (e : n < 64) (xs : List α) : opEq (.lst (xs.map f)) (.lst []) = .ok (.bl xs.isEmpty) := by
  rw [opEq_nil (Fl_map h xs) e]; simp
/-! ### settled -/
def badT (t : Tr) (b : List Nat) : List Str := t.ns.filter fun x => decide (0 < lv t.ns b x) && !(lackT t b x).isEmpty
def stepT (t : Tr) (b : List Nat) : Option Str := match badT t b with
  | x :: _ => some x
  | [] => match clashT t b with
    | l :: _ => some l.2
    | [] => none
def setlT (t : Tr) : Nat → List Nat → List Nat
  | 0, b => b
  | n + 1, b => match stepT t b with
    | none => b
    | some x => setlT t n (setZ t.ns b x)
theorem stepT_mem {t : Tr} (w : Wf t) {b : List Nat} {x : Str} (h : stepT t b = some x) : x ∈ t.ns ∧ 0 < lv t.ns b x := by
  unfold stepT at h
  split at h
  · rename_i y ys e
    cases h
    have : x ∈ badT t b := by rw [e]; simp
    obtain ⟨m1, m2⟩ := List.mem_filter.mp this
    simp at m2
    exact ⟨m1, m2.1⟩
  · split at h
    · rename_i l ls e
      cases h
      have : l ∈ clashT t b := by rw [e]; simp
      obtain ⟨m1, m2⟩ := List.mem_filter.mp this
      simp at m2
      exact ⟨(w.lk l m1).2, m2.2⟩
    · cases h
theorem sPut_d {z : List Nat} {vis vik : Bool} {fv fk : Rho → Res PV} {i : Nat} {ω : Om} {ks : List L2.Key} {vs : List PV} {p q : PV} {k : L2.Key} (h1 : (frz ω z)[i]? = some (some (.d ks vs))) (h2 : ev z vis fv ω = .ok p) (h3 : ev [] vik fk (frz ω z) = .ok q) (h4 : keyOf q = some k) (h5 : vs.length < 16777216) :
    sPut z vis vik fv fk i ω = .nx ((frz ω z).set i (some (.d (dPut ks vs k p).1 (dPut ks vs k p).2))) := by
  unfold sPut
  rw [h1]
  simp only [h2, SR.of_ok, h3, h4]
  exact if_pos h5
theorem settled_body {t : Tr} (w : Wf t) {b : List Nat} (h : t.ns.length = b.length) (h6 : b.length ≤ 6) {o1 o3 o4 o5 : Option SV} (s1 : shd o1 = true) (s3 : shd o3 = true) (s4 : shd o4 = true) (s5 : shd o5 = true) :
    (stepT t b = none ∧ b_settled_1 [some (.v (eT t)), o1, some (.d (t.ns.map Sum.inr) (b.map eN)), o3, o4, o5] = .rt (eD t.ns b)) ∨
    ∃ x o3' o4', stepT t b = some x ∧ shd o3' = true ∧ shd o4' = true ∧ b_settled_1 [some (.v (eT t)), o1, some (.d (t.ns.map Sum.inr) (b.map eN)), o3, o4, o5] = .nx [some (.v (eT t)), o1, some (.d (t.ns.map Sum.inr) ((setZ t.ns b x).map eN)), o3', o4', o5] := by
  have hD : PV.dK (t.ns.map Sum.inr) (b.map eN) = eD t.ns b := rfl
  have e1 : ev [] true (eCall f_clashes (aCons (eV 0) (aCons (eV 2) aNil))) [some (.v (eT t)), o1, some (.d (t.ns.map Sum.inr) (b.map eN)), o3, o4, o5] = .ok (.lst ((clashT t b).map eL)) :=
    ev_vis (by simp [hD, clashes_ok w h]) (keepOk_l (by simp [shd_l s1, shd_l s3, shd_l s4, shd_l s5]) (hasD_lst (fun a => (Fl_eL a).1) _))
  have e2 : ev [] true (eLc (fSeq (eCall f_names_of (aCons (eV 0) aNil))) [5] (.nm 5) (bAnd (eTru (eBin opGt (eBin opIx (eV 2) (eV 5)) (eC (.int 0)))) (eTru (eBin opNe (eCall f_lacking (aCons (eV 0) (aCons (eV 2) (aCons (eV 5) aNil)))) (eLst aNil)))) (eV 5)) [some (.v (eT t)), o1, some (.d (t.ns.map Sum.inr) (b.map eN)), some (.v (.lst ((clashT t b).map eL))), o4, o5] = .ok (.lst ((badT t b).map PV.str)) := by
    refine ev_vis ?_ (keepOk_l (by simp [shd_l s1, shd_l s3, shd_l s4, shd_l s5]) (hasD_lst (fun a => rfl) _))
    simp [names_of_ok]
    rw [lcRun_ok (enc := PV.str) (c := fun x => decide (0 < lv t.ns b x) && !(lackT t b x).isEmpty) (g := PV.str)]
    · rfl
    · intro x m
      obtain ⟨s, ms, rfl⟩ := List.mem_map.mp m
      refine ⟨_, rfl, ?_, ?_⟩
      · simp [hD, opIx_eD h m, lacking_ok w h ms]
        rw [opNe_nil' Fl_eW (by omega)]
        by_cases q : 0 < lv t.ns b s.nm <;> simp [q]
      · intro _; simp
  have hm0 : ∀ x, x ∈ badT t b → x ∈ t.ns := fun x m => (List.mem_filter.mp m).1
  have hm1 : ∀ x, x ∈ clashT t b → x.2 ∈ t.ns := fun x m => (w.lk x (List.mem_filter.mp m).1).2
  unfold stepT
  cases hb : badT t b with
  | cons x xs =>
    right
    have mx := hm0 x (by rw [hb]; simp)
    refine ⟨x, some (.v (.lst ((clashT t b).map eL))), some (.v (.lst (PV.str x :: xs.map PV.str))), rfl, rfl, rfl, ?_⟩
    rw [hb] at e2
    unfold b_settled_1
    simp [e1, e2]
    rw [← List.map_cons, opNe_nil' Fl_str (by omega)]
    simp
    rw [sPut_d (ks := t.ns.map Sum.inr) (vs := b.map eN) (p := .int 0) (q := .str x) (k := Sum.inr x) (by simp) (by simp) (by simp) rfl (by rw [List.length_map]; omega), dPut_eD mx]
    simp
  | nil =>
    rw [hb] at e2
    cases hc : clashT t b with
    | cons l ls =>
      right
      have mx := hm1 l (by rw [hc]; simp)
      rw [hc] at e1 e2
      refine ⟨l.2, some (.v (.lst (eL l :: ls.map eL))), some (.v (.lst [])), rfl, rfl, rfl, ?_⟩
      unfold b_settled_1
      simp at e1 e2
      simp [e1, e2]
      rw [← List.map_cons, opNe_nil' Fl_eL (by omega), opNe_nil (n := 0) (xs := []) (by simp) (by omega)]
      simp
      rw [sPut_d (ks := t.ns.map Sum.inr) (vs := b.map eN) (p := .int 0) (q := .str l.2) (k := Sum.inr l.2) (by simp) (by simp) (by simp [eL]) rfl (by rw [List.length_map]; omega), dPut_eD mx]
      simp
    | nil =>
      left
      rw [hc] at e1 e2
      refine ⟨rfl, ?_⟩
      unfold b_settled_1
      simp at e1 e2
      simp [e1, e2]
      rw [opNe_nil (n := 0) (xs := []) (by simp) (by omega)]
      simp [eD]
/-- how many levels are had -/
def nzT : List Nat → Nat
  | [] => 0
  | b :: bs => (if 0 < b then 1 else 0) + nzT bs
theorem nz_len : ∀ b : List Nat, nzT b ≤ b.length
  | [] => Nat.le_refl _
  | b :: bs => by have := nz_len bs; simp only [nzT, List.length_cons]; split <;> omega
theorem nz_setZ_le (x : Str) : ∀ (ns : List Str) (b : List Nat), nzT (setZ ns b x) ≤ nzT b
  | [], b => by cases b <;> simp [setZ]
  | n :: ns, [] => by simp [setZ]
  | n :: ns, b :: bs => by
    have := nz_setZ_le x ns bs
    simp only [setZ, nzT]
    by_cases e : n = x <;> simp [e] <;> omega
theorem nz_setZ {x : Str} : ∀ {ns : List Str} {b : List Nat}, 0 < lv ns b x → nzT (setZ ns b x) < nzT b
  | [], b, h => by cases b <;> simp [lv, lk?] at h
  | n :: ns, [], h => by simp [lv, lk?] at h
  | n :: ns, b :: bs, h => by
    by_cases e : n = x
    · have hb : 0 < b := by simpa [lv, lk?, e] using h
      have := nz_setZ_le x ns bs
      simp only [setZ, nzT, if_pos e, hb]
      simp
      omega
    · have h' : 0 < lv ns bs x := by simpa [lv, lk?, e] using h
      have := nz_setZ h'
      simp only [setZ, nzT, if_neg e]
      omega
theorem settled_loop {t : Tr} (w : Wf t) : ∀ (n : Nat) (b : List Nat) (o1 o3 o4 o5 : Option SV), t.ns.length = b.length → b.length ≤ 6 → nzT b < n → shd o1 = true → shd o3 = true → shd o4 = true → shd o5 = true →
    sWhl (eTru (eC (.bl true))) b_settled_1 n [some (.v (eT t)), o1, some (.d (t.ns.map Sum.inr) (b.map eN)), o3, o4, o5] = .rt (eD t.ns (setlT t n b)) ∧ stepT t (setlT t n b) = none
  | 0, _, _, _, _, _, _, _, h, _, _, _, _ => by omega
  | n + 1, b, o1, o3, o4, o5, h, h6, hz, s1, s3, s4, s5 => by
    rw [sWhl]
    simp only [evT, eTru_ap, eC_ap, Res.bind_ok, tru_bl, SR.of_ok, if_true]
    unfold setlT
    rcases settled_body w h h6 s1 s3 s4 s5 with ⟨e1, e2⟩ | ⟨x, o3', o4', e1, s3', s4', e2⟩
    · rw [e2, e1]
      exact ⟨rfl, e1⟩
    · rw [e2, e1]
      have hx := stepT_mem w e1
      have := nz_setZ hx.2
      exact settled_loop w n (setZ t.ns b x) o1 o3' o4' o5 (by rw [setZ_len]; exact h) (by rw [setZ_len]; exact h6) (by omega) s1 s3' s4' s5
theorem settled_ok {t : Tr} (w : Wf t) {b : List Nat} (h : t.ns.length = b.length) (h6 : b.length ≤ 6) : f_settled [eT t, eD t.ns b] = .ok (eD t.ns (setlT t 12 b)) := by
  have := (settled_loop w 12 b (some (.v (eD t.ns b))) none none none h h6 (by have := nz_len b; omega) rfl rfl rfl rfl).1
  show endR (m_settled [some (.v (eT t)), some (.v (eD t.ns b)), none, none, none, none]) = _
  unfold m_settled
  simp [eD, bDict, keyVals]
  simp [eD] at this
  rw [this]
  rfl
theorem settled_none {t : Tr} (w : Wf t) {b : List Nat} (h : t.ns.length = b.length) (h6 : b.length ≤ 6) : stepT t (setlT t 12 b) = none :=
  (settled_loop w 12 b none none none none h h6 (by have := nz_len b; omega) rfl rfl rfl rfl).2
end Pv.LW
end
section
set_option linter.all false
set_option maxRecDepth 100000
namespace Pv.LW
open PySem Pv
/-! ### led, back -/
def startT (old new : Tr) (b : List Nat) : List Nat := new.sk.map fun s => min s.mx (lv old.ns b s.nm)
def ledT (old new : Tr) (b : List Nat) : List Nat := setlT new 12 (startT old new b)
theorem lv_map {ns : List Str} : ∀ {b : List Nat}, ns.Nodup → ns.length = b.length → ns.map (lv ns b) = b := by
  induction ns with
  | nil => intro b _ h; cases b with | nil => rfl | cons => simp at h
  | cons n ns ih =>
    intro b nd h
    cases b with
    | nil => simp at h
    | cons x b =>
      rw [List.nodup_cons] at nd
      have := ih (b := b) nd.2 (by simpa using h)
      simp only [List.map_cons, List.cons.injEq]
      refine ⟨by simp [lv, lk?], ?_⟩
      rw [← this]
      refine List.map_congr_left fun y m => ?_
      have hne : ¬ n = y := fun z => nd.1 (z ▸ m)
      rw [this]
      unfold lv
      rw [lk?, if_neg hne]
theorem getPV_eD {ns : List Str} {b : List Nat} {x : Str} : getPV (eD ns b) (.str x) (.int 0) = .ok (.int (lv ns b x)) := by
  show Res.ok ((dLook (ns.map Sum.inr) (b.map eN) (Sum.inr x : L2.Key)).getD (.int 0)) = _
  rw [dLook_eD]
  unfold lv
  cases lk? ns b x <;> rfl
theorem dPut_new {ks : List L2.Key} {vs : List PV} {k : L2.Key} {p : PV} (h : ¬ k ∈ ks) : dPut ks vs k p = (ks ++ [k], vs ++ [p]) := by
  unfold dPut
  rw [if_neg (by simpa using h)]
theorem setlT_len {t : Tr} : ∀ (n : Nat) (b : List Nat), (setlT t n b).length = b.length
  | 0, b => rfl
  | n + 1, b => by
    unfold setlT
    split
    · rfl
    · rw [setlT_len n, setZ_len]
theorem startT_len (old new : Tr) (b : List Nat) : new.ns.length = (startT old new b).length := by simp [Tr.ns, startT]
theorem ledT_len (old new : Tr) (b : List Nat) : new.ns.length = (ledT old new b).length := by unfold ledT; rw [setlT_len]; exact startT_len old new b
theorem min_if (i j : Nat) : (if (j : Int) < (i : Int) then (j : Int) else (i : Int)) = ((min i j : Nat) : Int) := by
  split <;> omega
theorem led_ok {old new : Tr} (vo : Vt old) (vn : Vt new) {b : List Nat} (h : old.ns.length = b.length) (hb : levT old b = true) (hh : holdsT old b = true) : f_led [eT old, eT new, eB b] = .ok (eB (ledT old new b)) := by
  obtain ⟨ω2, e, o5, o6, o7, o8, rfl⟩ := sForL_pre (pt := .tp [5, 6, 7, 8]) (b := b_led_1) eS (fun pre ω => ∃ o5 o6 o7 o8, ω = [some (.v (eT old)), some (.v (eT new)), some (.v (eB b)), some (.v (eD old.ns b)), some (.d ((pre.map (·.nm)).map Sum.inr) ((pre.map fun s => min s.mx (lv old.ns b s.nm)).map eN)), o5, o6, o7, o8, none])
    new.sk new.sk [] [some (.v (eT old)), some (.v (eT new)), some (.v (eB b)), some (.v (eD old.ns b)), some (.d [] []), none, none, none, none, none] rfl ⟨none, none, none, none, rfl⟩
    (fun pre s post ω ep ⟨o5, o6, o7, o8, eo⟩ => by
      subst eo
      have hlen := congrArg List.length ep
      have hn : ¬ s.nm ∈ pre.map (·.nm) := by
        have nd := vn.nd
        unfold Tr.ns at nd
        rw [← ep, List.map_append, List.map_cons, List.nodup_append] at nd
        exact fun m => nd.2.2 _ m s.nm (by simp) rfl
      have h6 := vn.hi
      simp at hlen
      refine ⟨_, [some (.v (eT old)), some (.v (eT new)), some (.v (eB b)), some (.v (eD old.ns b)), some (.d (((pre ++ [s]).map (·.nm)).map Sum.inr) (((pre ++ [s]).map fun s => min s.mx (lv old.ns b s.nm)).map eN)), some (.v (.str s.nm)), some (.v (.int s.mx)), some (.v (.int s.pr)), some (.v (.tup (s.ws.map eW))), none], rfl, ?_, _, _, _, _, rfl⟩
      unfold b_led_1
      have hg : isDct (eD old.ns b) = true := rfl
      rw [sPut_d (ks := (pre.map (·.nm)).map Sum.inr) (vs := (pre.map fun s => min s.mx (lv old.ns b s.nm)).map eN) (p := eN (min s.mx (lv old.ns b s.nm))) (q := .str s.nm) (k := Sum.inr s.nm) (by simp [setS]) ?_ (by simp [setS]) rfl (by rw [List.length_map, List.length_map]; omega), dPut_new (by
        intro m
        obtain ⟨z, mz, ez⟩ := List.mem_map.mp m
        cases ez
        exact hn mz)]
      · simp [setS]
      · simp [setS, hg, getPV_eD, bMin2, eN]; split <;> omega)
  have hl := startT_len old new b
  have hl6 : (startT old new b).length ≤ 6 := by have := vn.hi; simp [startT]; omega
  have hs : f_settled [eT new, .dK ((new.sk.map (·.nm)).map Sum.inr) ((new.sk.map fun s => min s.mx (lv old.ns b s.nm)).map eN)] = .ok (eD new.ns (ledT old new b)) := settled_ok vn.toWf hl hl6
  show endR (m_led [some (.v (eT old)), some (.v (eT new)), some (.v (eB b)), none, none, none, none, none, none, none]) = _
  unfold m_led
  have h0 : opIx (eT new) (.int 0) = .ok (.tup (new.sk.map eS)) := by simp [eT]
  simp only [sSeq_ap, sExpr_ap, sAsg_ap, sNew_ap, ev_hid, evF_hid, frz_nil, eCall_ap, aCons_ap, aNil_ap, eV_ap, shw_cons, shwO_v, shwO_n, shw_nil, hid_cons, hid_nil, hidO_v, hidO_n, List.getElem?_cons_zero, List.getElem?_cons_succ, Res.bind_ok, need_build_ok vo h hb hh, need_tree_ok vn, SR.of_ok, SR.bind_nx, levels_of_ok vo.nd h, List.set_cons_zero, List.set_cons_succ, eC_ap, newSV_d, sFor_ap, fSeq_ap, eBin_ap, h0, iSeq_tup, e]
  simp [-List.map_map, hs, names_of_ok]
  rw [lcRun_ok1 (enc := PV.str) (g := fun x => .int (lv new.ns (ledT old new b) x))]
  · simp
    have := lv_map vn.nd (ledT_len old new b)
    conv => rhs; rw [eB, ← this]
    simp [eN]
  · intro x m
    refine ⟨_, rfl, ?_⟩
    simp [opIx_eD (ledT_len old new b) m]
def lostT (old new : Tr) (b : List Nat) : List Str := old.ns.filter fun x => decide (lv new.ns (ledT old new b) x < lv old.ns b x)
theorem back_ok {old new : Tr} (vo : Vt old) (vn : Vt new) {b : List Nat} (h : old.ns.length = b.length) (hb : levT old b = true) (hh : holdsT old b = true) :
    f_back [eT old, eT new, eB b] = .ok (.tup [.int ((costT old b : Int) - (costT new (ledT old new b) : Int)), .lst ((lostT old new b).map PV.str)]) := by
  show endR (m_back [some (.v (eT old)), some (.v (eT new)), some (.v (eB b)), none, none, none, none, none]) = _
  unfold m_back
  simp [led_ok vo vn h hb hh, levels_of_ok vo.nd h, levels_of_ok vn.nd (ledT_len old new b), names_of_ok, setS, patO]
  rw [lcRun_ok (enc := PV.str) (c := fun x => decide (lv new.ns (ledT old new b) x < lv old.ns b x)) (g := PV.str)]
  · simp [cost_of_ok (fun s m => by have := vo.pr s m; omega) h, cost_of_ok (fun s m => by have := vn.pr s m; omega) (ledT_len old new b)]
    simp [lostT]
  · intro x m
    refine ⟨_, rfl, ?_, fun _ => by simp⟩
    have hg : isDct (eD new.ns (ledT old new b)) = true := rfl
    simp [hg, getPV_eD, opIx_eD h m]
end Pv.LW
end
section
set_option linter.all false
set_option maxRecDepth 100000
namespace Pv.LW
open PySem Pv
/-! ### fewer wants -/
def thinS (k : Str → Str × Nat → Bool) (s : Sk) : Sk := { s with ws := s.ws.filter (k s.nm) }
def thin (k : Str → Str × Nat → Bool) (t : Tr) : Tr := ⟨t.sk.map (thinS k), t.lk⟩
def kNot (x y : Str) : Str → Str × Nat → Bool := fun n w => !decide (n = x) || !decide (w.1 = y)
theorem withoutT_thin (t : Tr) (x y : Str) : withoutT t x y = thin (kNot x y) t := rfl
theorem thin_thin (k k' : Str → Str × Nat → Bool) (t : Tr) : thin k' (thin k t) = thin (fun n w => k n w && k' n w) t := by
  unfold thin
  simp only [List.map_map, Tr.mk.injEq, and_true]
  refine List.map_congr_left fun s _ => ?_
  simp only [Function.comp, thinS, List.filter_filter]
  congr 2
  funext w
  rw [Bool.and_comm]
theorem thin_comm (k k' : Str → Str × Nat → Bool) (t : Tr) : thin k' (thin k t) = thin k (thin k' t) := by
  rw [thin_thin, thin_thin]
  congr 1
  funext n w
  rw [Bool.and_comm]
theorem thin_id (t : Tr) : thin (fun _ _ => true) t = t := by
  obtain ⟨sk, lk⟩ := t
  unfold thin
  simp only [Tr.mk.injEq, and_true]
  conv => rhs; rw [← List.map_id sk]
  refine List.map_congr_left fun s _ => ?_
  obtain ⟨a, b, c, d⟩ := s
  simp [thinS]
@[simp] theorem thin_ns (k : Str → Str × Nat → Bool) (t : Tr) : (thin k t).ns = t.ns := by
  simp [Tr.ns, thin, thinS]
theorem thin_get (k : Str → Str × Nat → Bool) (t : Tr) (x : Str) : (thin k t).get x = (t.get x).map (thinS k) := by
  unfold Tr.get thin
  simp only [List.find?_map]
  rfl
theorem find_nm {t : Tr} {x : Str} {s : Sk} (h : t.get x = some s) : s ∈ t.sk ∧ s.nm = x := by
  unfold Tr.get at h
  exact ⟨List.mem_of_find?_eq_some h, by simpa using List.find?_some h⟩
theorem thin_wants (k : Str → Str × Nat → Bool) (t : Tr) (x : Str) : wantsT (thin k t) x = (wantsT t x).filter (k x) := by
  unfold wantsT
  rw [thin_get]
  cases h : t.get x with
  | none => rfl
  | some s => simp [thinS, (find_nm h).2]
theorem thin_lack (k : Str → Str × Nat → Bool) (t : Tr) (b : List Nat) (x : Str) : lackT (thin k t) b x = (lackT t b x).filter (k x) := by
  unfold lackT
  rw [thin_wants, thin_ns, List.filter_filter, List.filter_filter]
  congr 1
  funext w
  rw [Bool.and_comm]
theorem thin_clash (k : Str → Str × Nat → Bool) (t : Tr) (b : List Nat) : clashT (thin k t) b = clashT t b := by
  unfold clashT
  rw [thin_ns]
  rfl
theorem thin_holds {k : Str → Str × Nat → Bool} {t : Tr} {b : List Nat} (h : holdsT t b = true) : holdsT (thin k t) b = true := by
  unfold holdsT at *
  rw [Bool.and_eq_true] at h ⊢
  refine ⟨by rw [thin_clash]; exact h.1, ?_⟩
  rw [thin_ns]
  rw [List.all_eq_true] at *
  intro x m
  have := h.2 x m
  rw [Bool.or_eq_true] at *
  rcases this with h | h
  · exact .inl h
  · refine .inr ?_
    rw [thin_lack, List.isEmpty_iff.mp h]
    rfl
theorem foldl_rowStep : ∀ (sk sk' : List Sk) (rows : List (List Nat)), sk.map (·.mx) = sk'.map (·.mx) → sk.foldl rowStep rows = sk'.foldl rowStep rows
  | [], [], _, _ => rfl
  | [], _ :: _, _, h => by simp at h
  | _ :: _, [], _, h => by simp at h
  | a :: sk, b :: sk', rows, h => by
    simp only [List.map_cons, List.cons.injEq] at h
    rw [List.foldl_cons, List.foldl_cons, show rowStep rows a = rowStep rows b by unfold rowStep; rw [h.1]]
    exact foldl_rowStep sk sk' _ h.2
theorem thin_all (k : Str → Str × Nat → Bool) (t : Tr) : allRows (thin k t) = allRows t := foldl_rowStep _ _ _ (by simp [thin, thinS])
theorem rows_mem {t : Tr} {b : List Nat} : b ∈ rowsT t ↔ b ∈ allRows t ∧ holdsT t b = true := List.mem_filter
theorem rows_eq {t u : Tr} (ha : allRows t = allRows u) : rowsT t = rowsT u ↔ ∀ b ∈ allRows t, holdsT t b = holdsT u b := by
  constructor
  · intro h b m
    have h1 : b ∈ rowsT t ↔ b ∈ rowsT u := by rw [h]
    rw [rows_mem, rows_mem, ← ha] at h1
    rw [Bool.eq_iff_iff]
    exact ⟨fun z => (h1.mp ⟨m, z⟩).2, fun z => (h1.mpr ⟨m, z⟩).2⟩
  · intro h
    unfold rowsT
    rw [← ha]
    exact List.filter_congr h
/-- what is refused stays refused with fewer wants -/
theorem stays {k : Str → Str × Nat → Bool} {t : Tr} {x y : Str} (h1 : rowsT (thin k t) = rowsT t) (h2 : rowsT (withoutT t x y) ≠ rowsT t) : rowsT (withoutT (thin k t) x y) ≠ rowsT t := by
  intro h
  apply h2
  rw [withoutT_thin] at *
  rw [rows_eq (by rw [thin_all])]
  rw [rows_eq (by rw [thin_all, thin_all])] at h
  rw [thin_all] at *
  intro b m
  rw [Bool.eq_iff_iff]
  constructor
  · intro z
    have : holdsT (thin (kNot x y) (thin k t)) b = true := by rw [thin_comm]; exact thin_holds z
    rwa [h b (by rw [thin_all]; exact m)] at this
  · exact thin_holds
def pairsT (t : Tr) : List (Str × Str) := t.sk.flatMap fun s => s.ws.map fun w => (s.nm, w.1)
theorem pairs_thin {k : Str → Str × Nat → Bool} {t : Tr} {p : Str × Str} (h : p ∈ pairsT (thin k t)) : p ∈ pairsT t ∧ ∃ n, k p.1 (p.2, n) = true := by
  unfold pairsT thin at h
  rw [List.mem_flatMap] at h
  obtain ⟨s, m, hp⟩ := h
  obtain ⟨s0, m0, rfl⟩ := List.mem_map.mp m
  obtain ⟨w, mw, rfl⟩ := List.mem_map.mp hp
  obtain ⟨m1, m2⟩ := List.mem_filter.mp (show w ∈ s0.ws.filter (k s0.nm) from mw)
  refine ⟨?_, w.2, m2⟩
  unfold pairsT
  rw [List.mem_flatMap]
  exact ⟨s0, m0, List.mem_map.mpr ⟨w, m1, rfl⟩⟩
def leanStep (due : List (List Nat)) (cur : Tr) (p : Str × Str) : Tr := if rowsT (withoutT cur p.1 p.2) = due then withoutT cur p.1 p.2 else cur
def leanT (t : Tr) : Tr := (pairsT t).foldl (leanStep (rowsT t)) t
theorem lean_fold (due : List (List Nat)) : ∀ (ps : List (Str × Str)) (cur : Tr), rowsT cur = due → ∃ k, ps.foldl (leanStep due) cur = thin k cur ∧ rowsT (ps.foldl (leanStep due) cur) = due ∧ ∀ p ∈ ps, p ∈ pairsT (ps.foldl (leanStep due) cur) → rowsT (withoutT (ps.foldl (leanStep due) cur) p.1 p.2) ≠ due
  | [], cur, h => ⟨fun _ _ => true, (thin_id cur).symm, h, fun p m => by cases m⟩
  | p :: ps, cur, h => by
    rw [List.foldl_cons]
    by_cases e : rowsT (withoutT cur p.1 p.2) = due
    · rw [show leanStep due cur p = withoutT cur p.1 p.2 from if_pos e]
      obtain ⟨k, h1, h2, h3⟩ := lean_fold due ps (withoutT cur p.1 p.2) e
      refine ⟨_, h1.trans (by rw [withoutT_thin, thin_thin]), h2, fun q m hq => ?_⟩
      rcases List.mem_cons.mp m with e | m
      · subst e
        exfalso
        rw [h1] at hq
        obtain ⟨h4, _⟩ := pairs_thin hq
        rw [withoutT_thin] at h4
        obtain ⟨_, n, h5⟩ := pairs_thin h4
        simp [kNot] at h5
      · exact h3 q m hq
    · rw [show leanStep due cur p = cur from if_neg e]
      obtain ⟨k, h1, h2, h3⟩ := lean_fold due ps cur h
      refine ⟨k, h1, h2, fun q m hq => ?_⟩
      rcases List.mem_cons.mp m with e' | m
      · subst e'
        rw [h1] at h2 ⊢
        have := stays (k := k) (t := cur) (x := q.1) (y := q.2) (by rw [h2, h]) (by rw [h]; exact e)
        rwa [h] at this
      · exact h3 q m hq
theorem lean_rows (t : Tr) : rowsT (leanT t) = rowsT t := let ⟨_, _, h, _⟩ := lean_fold (rowsT t) (pairsT t) t rfl; h
theorem lean_thin (t : Tr) : ∃ k, leanT t = thin k t := let ⟨k, h, _, _⟩ := lean_fold (rowsT t) (pairsT t) t rfl; ⟨k, h⟩
theorem lean_none (t : Tr) {p : Str × Str} (h : p ∈ pairsT (leanT t)) : rowsT (withoutT (leanT t) p.1 p.2) ≠ rowsT (leanT t) := by
  obtain ⟨k, h1, h2, h3⟩ := lean_fold (rowsT t) (pairsT t) t rfl
  rw [lean_rows]
  refine h3 p ?_ h
  unfold leanT at h
  rw [h1] at h
  exact (pairs_thin h).1
theorem lean_fix {t : Tr} (h : ∀ p ∈ pairsT t, rowsT (withoutT t p.1 p.2) ≠ rowsT t) : leanT t = t := by
  unfold leanT
  generalize pairsT t = ps at h
  induction ps with
  | nil => rfl
  | cons p ps ih =>
    rw [List.foldl_cons, show leanStep (rowsT t) t p = t from if_neg (h p List.mem_cons_self)]
    exact ih fun q m => h q (List.mem_cons_of_mem _ m)
theorem lean_lean (t : Tr) : leanT (leanT t) = leanT t := lean_fix fun _ m => lean_none t m
def needlessT (t : Tr) : List (Str × Str) := (pairsT t).filter fun p => decide (rowsT (withoutT t p.1 p.2) = rowsT t)
theorem needless_lean (t : Tr) : needlessT (leanT t) = [] := by
  unfold needlessT
  rw [List.filter_eq_nil_iff]
  intro p m
  simpa using lean_none t m
theorem Vt.thin {t : Tr} (v : Vt t) (k : Str → Str × Nat → Bool) : Vt (thin k t) := by
  have mem : ∀ {s}, s ∈ (LW.thin k t).sk → ∃ s0 ∈ t.sk, s = thinS k s0 := fun {s} m => by
    obtain ⟨s0, m0, rfl⟩ := List.mem_map.mp m
    exact ⟨s0, m0, rfl⟩
  refine ⟨⟨by rw [thin_ns]; exact v.nd, ?_, fun l m => by rw [thin_ns]; exact v.lk l m⟩, by simpa [LW.thin] using v.lo, by simpa [LW.thin] using v.hi, ?_, ?_, ?_, ?_, ?_, ?_, v.lkl, v.lknd, v.lkn⟩
  · intro s m w mw
    obtain ⟨s0, m0, rfl⟩ := mem m
    rw [thin_ns]
    exact v.ws s0 m0 w (List.mem_filter.mp mw).1
  · intro s m
    obtain ⟨s0, m0, rfl⟩ := mem m
    exact v.nm s0 m0
  · intro s m
    obtain ⟨s0, m0, rfl⟩ := mem m
    exact v.mx s0 m0
  · intro s m
    obtain ⟨s0, m0, rfl⟩ := mem m
    exact v.pr s0 m0
  · intro s m
    obtain ⟨s0, m0, rfl⟩ := mem m
    exact List.Nodup.sublist (List.Sublist.map _ List.filter_sublist) (v.wnd s0 m0)
  · intro s m w mw
    obtain ⟨s0, m0, rfl⟩ := mem m
    obtain ⟨s', m', e, h⟩ := v.wlv s0 m0 w (List.mem_filter.mp mw).1
    exact ⟨thinS k s', List.mem_map.mpr ⟨s', m', rfl⟩, e, h⟩
  · obtain ⟨r, hr⟩ := v.rk
    refine ⟨r, fun s m w mw => ?_⟩
    obtain ⟨s0, m0, rfl⟩ := mem m
    exact hr s0 m0 w (List.mem_filter.mp mw).1
theorem Vt.without {t : Tr} (v : Vt t) (x y : Str) : Vt (withoutT t x y) := by rw [withoutT_thin]; exact v.thin _
theorem Vt.lean {t : Tr} (v : Vt t) : Vt (leanT t) := by
  obtain ⟨k, h⟩ := lean_thin t
  rw [h]
  exact v.thin k
theorem Vt.rows {t : Tr} (v : Vt t) : f_rows_of [eT t] = .ok (.lst ((rowsT t).map eB)) := rows_of_ok v.toWf v.hi fun s m => (v.mx s m).2
theorem Fl_rows (xs : List (List Nat)) : Fl 3 (.lst (xs.map eB)) := Fl.lst (Fl_map Fl_eB xs)
theorem opEq_rows (xs ys : List (List Nat)) : opEq (.lst (xs.map eB)) (.lst (ys.map eB)) = .ok (.bl (decide (xs = ys))) := by
  rw [opEq_of ((Fl_rows xs).ok (by omega)) ((Fl_rows ys).ok (by omega)), peq_encs gd_eB eB_inj]
theorem Fl_strs (xs : List Str) : Fl 2 (.lst (xs.map PV.str)) := Fl.lst (Fl_map Fl_str xs)
theorem opEq_strs (xs ys : List Str) : opEq (.lst (xs.map PV.str)) (.lst (ys.map PV.str)) = .ok (.bl (decide (xs = ys))) := by
  rw [opEq_of ((Fl_strs xs).ok (by omega)) ((Fl_strs ys).ok (by omega)), peq_encs (f := PV.str) (fun _ => rfl) (fun a b e => by simpa using e)]
theorem are_alike_ok {t u : Tr} (v : Vt t) (v' : Vt u) : f_are_alike [eT t, eT u] = .ok (.bl (decide (t.ns = u.ns) && decide (rowsT t = rowsT u))) := by
  show endR (m_are_alike [some (.v (eT t)), some (.v (eT u))]) = _
  unfold m_are_alike
  simp [need_tree_ok v, need_tree_ok v', names_of_ok, v.rows, v'.rows, opEq_strs, opEq_rows]
  by_cases h : t.ns = u.ns <;> simp [h]
/-! ### the loops -/
theorem h3S (s : Sk) : opIx (eS s) (.int 3) = .ok (.tup (s.ws.map eW)) := by simp [eS]
theorem h0S (s : Sk) : opIx (eS s) (.int 0) = .ok (.str s.nm) := by simp [eS]
theorem h1S (s : Sk) : opIx (eS s) (.int 1) = .ok (.int s.mx) := by simp [eS]
theorem h0T (t : Tr) : opIx (eT t) (.int 0) = .ok (.tup (t.sk.map eS)) := by simp [eT]
theorem h1T (t : Tr) : opIx (eT t) (.int 1) = .ok (.tup (t.lk.map eL)) := by simp [eT]
theorem lean_keep {due : List (List Nat)} : ∀ (ps : List (Str × Str)) (cur : Tr), Vt cur → Vt (ps.foldl (leanStep due) cur) ∧ ∀ s ∈ cur.sk, (∀ p ∈ ps, p.1 ≠ s.nm) → s ∈ (ps.foldl (leanStep due) cur).sk
  | [], cur, v => ⟨v, fun s m _ => m⟩
  | p :: ps, cur, v => by
    rw [List.foldl_cons]
    have v1 : Vt (leanStep due cur p) := by
      unfold leanStep
      split
      · exact v.without _ _
      · exact v
    obtain ⟨h1, h2⟩ := lean_keep (due := due) ps (leanStep due cur p) v1
    refine ⟨h1, fun s m hp => h2 s ?_ fun q mq => hp q (List.mem_cons_of_mem _ mq)⟩
    unfold leanStep
    split
    · refine List.mem_map.mpr ⟨s, m, ?_⟩
      have := hp p List.mem_cons_self
      obtain ⟨a, b, c, d⟩ := s
      have h' : ¬ a = p.1 := fun e => this e.symm
      simp [dropW, h']
    · exact m
theorem lean_inner {t cur : Tr} {s : Sk} {o5 : Option SV} (due : List (List Nat)) (vc : Vt cur) (o3 o4 o6 : Option SV) : ∃ o3' o4' o6', sForL (.tp [3, 4]) b_lean_1 (s.ws.map eW) [some (.v (eT cur)), some (.v (.lst (due.map eB))), some (.v (.str s.nm)), o3, o4, o5, o6] =
    .nx [some (.v (eT ((s.ws.map fun w => (s.nm, w.1)).foldl (leanStep due) cur))), some (.v (.lst (due.map eB))), some (.v (.str s.nm)), o3', o4', o5, o6'] := by
  obtain ⟨ω2, e, o3', o4', o6', rfl⟩ := sForL_pre (pt := .tp [3, 4]) (b := b_lean_1) eW (fun pre ω => ∃ o3 o4 o6, ω = [some (.v (eT ((pre.map fun w => (s.nm, w.1)).foldl (leanStep due) cur))), some (.v (.lst (due.map eB))), some (.v (.str s.nm)), o3, o4, o5, o6])
    s.ws s.ws [] [some (.v (eT cur)), some (.v (.lst (due.map eB))), some (.v (.str s.nm)), o3, o4, o5, o6] rfl ⟨o3, o4, o6, rfl⟩
    (fun pre w post ω ep ⟨o3, o4, o6, eo⟩ => by
      subst eo
      have v1 := (lean_keep (due := due) (pre.map fun w => (s.nm, w.1)) cur vc).1
      refine ⟨_, [some (.v (eT (((pre ++ [w]).map fun w => (s.nm, w.1)).foldl (leanStep due) cur))), some (.v (.lst (due.map eB))), some (.v (.str s.nm)), some (.v (.str w.1)), some (.v (.int w.2)), o5, some (.v (eT (withoutT ((pre.map fun w => (s.nm, w.1)).foldl (leanStep due) cur) s.nm w.1)))], rfl, ?_, _, _, _, rfl⟩
      rw [List.map_append, List.foldl_append]
      generalize (pre.map fun w => (s.nm, w.1)).foldl (leanStep due) cur = c at *
      have vw := v1.without s.nm w.1
      unfold b_lean_1
      simp [setS, without_want_ok v1.hi, vw.rows, opEq_rows]
      by_cases q : rowsT (withoutT c s.nm w.1) = due
      · simp [q, leanStep]
      · simp [q, leanStep])
  exact ⟨o3', o4', o6', e⟩
theorem lean_ok {t : Tr} (v : Vt t) : f_lean [eT t] = .ok (eT (leanT t)) := by
  obtain ⟨ω2, e, o2, o3, o4, o5, o6, rfl⟩ := sForL_pre (pt := .nm 2) (b := b_lean_2) (fun s : Sk => PV.str s.nm) (fun pre ω => ∃ o2 o3 o4 o5 o6, ω = [some (.v (eT ((pre.flatMap fun s => s.ws.map fun w => (s.nm, w.1)).foldl (leanStep (rowsT t)) t))), some (.v (.lst ((rowsT t).map eB))), o2, o3, o4, o5, o6])
    t.sk t.sk [] [some (.v (eT t)), some (.v (.lst ((rowsT t).map eB))), none, none, none, none, none] rfl ⟨none, none, none, none, none, rfl⟩
    (fun pre s post ω ep ⟨o2, o3, o4, o5, o6, eo⟩ => by
      subst eo
      have ms : s ∈ t.sk := by rw [← ep]; simp
      obtain ⟨v1, hk⟩ := lean_keep (due := rowsT t) (pre.flatMap fun s => s.ws.map fun w => (s.nm, w.1)) t v
      have hm := hk s ms fun p mp e => by
        rw [List.mem_flatMap] at mp
        obtain ⟨s', ms', h⟩ := mp
        obtain ⟨w, _, rfl⟩ := List.mem_map.mp h
        have nd := v.nd
        unfold Tr.ns at nd
        rw [← ep, List.map_append, List.map_cons, List.nodup_append] at nd
        exact nd.2.2 s'.nm (List.mem_map.mpr ⟨s', ms', rfl⟩) s.nm (by simp) e
      rw [List.flatMap_append, List.foldl_append]
      generalize (pre.flatMap fun s => s.ws.map fun w => (s.nm, w.1)).foldl (leanStep (rowsT t)) t = c at *
      have hf : lcRun (.nm 5) (eTru (eBin opEq (eBin opIx (eV 5) (eC (.int 0))) (eV 2))) (eBin opIx (eV 5) (eC (.int 3))) [some (eT c), some (.lst ((rowsT t).map eB)), some (.str s.nm), hidO o3, hidO o4, none, hidO o6] (c.sk.map eS) = .ok [.tup (s.ws.map eW)] := by
        rw [lcRun_ok (enc := eS) (c := fun z => decide (z.nm = s.nm)) (g := fun z => .tup (z.ws.map eW))]
        · rw [filter_nm v1.nd hm]; rfl
        · intro z _
          exact ⟨_, rfl, by simp [h0S], fun _ => by simp [h3S]⟩
      obtain ⟨p3, p4, p6, e⟩ := lean_inner (t := t) (cur := c) (s := s) (o5 := o5) (rowsT t) v1 o3 o4 o6
      refine ⟨_, [some (.v (eT ((s.ws.map fun w => (s.nm, w.1)).foldl (leanStep (rowsT t)) c))), some (.v (.lst ((rowsT t).map eB))), some (.v (.str s.nm)), p3, p4, o5, p6], rfl, ?_, some (.v (.str s.nm)), p3, p4, o5, p6, by simp⟩
      unfold b_lean_2
      simp [h0T, hf]
      exact e)
  show endR (m_lean [some (.v (eT t)), none, none, none, none, none, none]) = _
  unfold m_lean
  have : (t.ns.map PV.str) = t.sk.map fun s => PV.str s.nm := by simp [Tr.ns]
  simp [-List.map_map, need_tree_ok v, v.rows, names_of_ok, this, e]
  rfl
theorem needless_ok {t : Tr} (v : Vt t) : f_needless [eT t] = .ok (.lst ((needlessT t).map eL)) := by
  have hbig : ∀ {α : Type} (f : α → Bool) (l : List α), (l.filter f).length ≤ l.length := fun f l => List.length_filter_le f l
  have hlen : (pairsT t).length ≤ 36 := by
    have : ∀ l : List Sk, (∀ s ∈ l, s.ws.length ≤ 6) → (l.flatMap fun s => s.ws.map fun w => (s.nm, w.1)).length ≤ 6 * l.length := by
      intro l
      induction l with
      | nil => intro _; simp
      | cons a l ih =>
        intro h
        have h1 := h a List.mem_cons_self
        have h2 := ih fun s m => h s (List.mem_cons_of_mem _ m)
        simp only [List.flatMap_cons, List.length_append, List.length_map, List.length_cons]
        omega
    have h2 := this t.sk fun s m => wlen v m
    have h3 := v.hi
    unfold pairsT
    omega
  let c := fun p : Str × Str => decide (rowsT (withoutT t p.1 p.2) = rowsT t)
  obtain ⟨ω2, e, o3, o4, o5, rfl⟩ := sForL_pre (pt := .nm 3) (b := b_needless_2) eS (fun pre ω => ∃ o3 o4 o5, ω = [some (.v (eT t)), some (.v (.lst ((rowsT t).map eB))), some (.l (((pre.flatMap fun s => s.ws.map fun w => (s.nm, w.1)).filter c).map eL)), o3, o4, o5])
    t.sk t.sk [] [some (.v (eT t)), some (.v (.lst ((rowsT t).map eB))), some (.l []), none, none, none] rfl ⟨none, none, none, rfl⟩
    (fun pre s post ω ep ⟨o3, o4, o5, eo⟩ => by
      subst eo
      obtain ⟨ω2, e, o4', o5', rfl⟩ := sForL_pre (pt := .tp [4, 5]) (b := b_needless_1) eW (fun pr ω => ∃ o4 o5, ω = [some (.v (eT t)), some (.v (.lst ((rowsT t).map eB))), some (.l (((pre.flatMap fun s => s.ws.map fun w => (s.nm, w.1)).filter c ++ (pr.map fun w => (s.nm, w.1)).filter c).map eL)), some (.v (eS s)), o4, o5])
        s.ws s.ws [] [some (.v (eT t)), some (.v (.lst ((rowsT t).map eB))), some (.l (((pre.flatMap fun s => s.ws.map fun w => (s.nm, w.1)).filter c).map eL)), some (.v (eS s)), o4, o5] rfl ⟨o4, o5, by simp⟩
        (fun pr w post' ω ep' ⟨o4, o5, eo⟩ => by
          subst eo
          refine ⟨_, [some (.v (eT t)), some (.v (.lst ((rowsT t).map eB))), some (.l (((pre.flatMap fun s => s.ws.map fun w => (s.nm, w.1)).filter c ++ ((pr ++ [w]).map fun w => (s.nm, w.1)).filter c).map eL)), some (.v (eS s)), some (.v (.str w.1)), some (.v (.int w.2))], rfl, ?_, _, _, rfl⟩
          have vw := v.without s.nm w.1
          have hsz : ((pre.flatMap fun s => s.ws.map fun w => (s.nm, w.1)).filter c ++ (pr.map fun w => (s.nm, w.1)).filter c).length ≤ 36 := by
            have h1 : pairsT t = (pre.flatMap fun s => s.ws.map fun w => (s.nm, w.1)) ++ ((pr ++ w :: post').map fun w => (s.nm, w.1)) ++ (post.flatMap fun s => s.ws.map fun w => (s.nm, w.1)) := by
              unfold pairsT
              rw [← ep, ep']
              simp
            have h2 := congrArg List.length h1
            simp only [List.length_append, List.length_map, List.length_cons] at h2
            have h3 := hbig c (pre.flatMap fun s => s.ws.map fun w => (s.nm, w.1))
            have h4 := hbig c (pr.map fun w => (s.nm, w.1))
            rw [List.length_map] at h4
            rw [List.length_append]
            omega
          generalize hA : (pre.flatMap fun s => s.ws.map fun w => (s.nm, w.1)).filter c = A at *
          rw [show ((pr ++ [w]).map fun w => (s.nm, w.1)).filter c = (pr.map fun w => (s.nm, w.1)).filter c ++ [(s.nm, w.1)].filter c by rw [List.map_append, List.filter_append]; rfl]
          generalize (pr.map fun w => (s.nm, w.1)).filter c = C at *
          unfold b_needless_1
          simp [-List.map_append, setS, h0S, without_want_ok v.hi, vw.rows, opEq_rows]
          by_cases q : rowsT (withoutT t s.nm w.1) = rowsT t
          · have hc : c (s.nm, w.1) = true := by simp [c, q]
            simp [-List.map_append, q, hc]
            rw [sApp_go (xs := (A ++ C).map eL) (p := eL (s.nm, w.1)) (by simp) (by simp [h0S, eL]) (by rw [List.length_map]; omega)]
            simp
          · have hc : c (s.nm, w.1) = false := by simp [c, q]
            simp [q, hc])
      refine ⟨_, [some (.v (eT t)), some (.v (.lst ((rowsT t).map eB))), some (.l ((((pre ++ [s]).flatMap fun s => s.ws.map fun w => (s.nm, w.1)).filter c).map eL)), some (.v (eS s)), o4', o5'], rfl, ?_, _, _, _, rfl⟩
      unfold b_needless_2
      simp only [sFor_ap, frz_nil, fSeq_ap, eBin_ap, eV_ap, eC_ap, List.set_cons_zero, List.set_cons_succ, hid_cons, hidO_v, hidO_l, hid_nil, List.getElem?_cons_zero, List.getElem?_cons_succ, Res.bind_ok, h3S, iSeq_tup, SR.of_ok]
      rw [e]
      simp)
  show endR (m_needless [some (.v (eT t)), none, none, none, none, none]) = _
  unfold m_needless
  simp [need_tree_ok v, v.rows, h0T, e]
  rfl
end Pv.LW
end
section
set_option linter.all false
set_option maxRecDepth 100000
namespace Pv
open PySem
theorem log2_small {n : Nat} (h : n < 18446744073709551616 * 18446744073709551616 * 18446744073709551616) : n.log2 < 9000 := by
  by_cases e : n = 0
  · subst e; decide
  · rw [Nat.log2_lt e]
    refine Nat.lt_of_lt_of_le h ?_
    rw [show 18446744073709551616 * 18446744073709551616 * 18446744073709551616 = 2 ^ 192 by decide]
    exact Nat.pow_le_pow_right (by decide) (by decide)
theorem mulOk_r {i j : Int} (h : j.natAbs < 18446744073709551616) : mulOk i j = true := by
  unfold mulOk; rw [decide_eq_true h]; simp
theorem mulOk_l {i j : Int} (h : i.natAbs < 18446744073709551616) : mulOk i j = true := by
  unfold mulOk; rw [decide_eq_true h]; simp
theorem mulOk_b {i j : Int} (h : i.natAbs < 18446744073709551616 * 18446744073709551616 * 18446744073709551616) (h' : j.natAbs < 18446744073709551616 * 18446744073709551616 * 18446744073709551616) : mulOk i j = true := by
  unfold mulOk; rw [decide_eq_true (log2_small h), decide_eq_true (log2_small h')]; simp
theorem opMul_of {i j : Int} (h : mulOk i j = true) : opMul (.int i) (.int j) = .ok (.int (i * j)) := if_pos h
theorem opMod_of {i j : Int} (h : 0 < j) : opMod (.int i) (.int j) = .ok (.int (i % j)) := if_pos h
theorem opDiv_of {i j : Int} (h : 0 < j) (h' : j.natAbs < 18446744073709551616) : opDiv (.int i) (.int j) = .ok (.int (i / j)) := if_pos ⟨h, log2_small (by omega)⟩
theorem peq_scr (ns : List Int) : opEq (.scr ns) (.lst []) = .ok (.bl ns.isEmpty) := by
  have hd : PyData.depthAll (ns.map PyData.int) ≤ 1 := by
    induction ns with
    | nil => simp [PyData.depthAll]
    | cons n ns ih => simp only [List.map_cons, PyData.depthAll, PyData.depth]; omega
  have h1 : flatOk (.scr ns) = true := by
    unfold flatOk
    have : (toD (.scr ns)).depth ≤ 64 := by simp only [toD, PyData.depth]; omega
    rw [decide_eq_true this]; rfl
  rw [opEq_of h1 ((Fl.lst (n := 0) (xs := []) (fun x m => by cases m)).ok (by omega))]
  cases ns <;> simp [peq, toD, toDs, PyData.eqv, PyData.eqvAll]
theorem enumP_map {α : Type} (f : α → PV) : ∀ (xs : List α) (n : Nat), enumP n (xs.map f) = (xs.zipIdx n).map fun p => .tup [.int (p.2 : Nat), f p.1]
  | [], n => rfl
  | x :: xs, n => by simp [enumP, enumP_map f xs (n + 1), List.zipIdx_cons]
theorem cut_to {xs : List PV} (k : Nat) : cut xs none (some (k : Int)) = xs.take k := by
  unfold cut
  rw [HT.sIx_none, HT.sIx_nat]
  simp only [List.drop_zero, Nat.sub_zero]
  rcases Nat.le_total k xs.length with h | h
  · rw [Nat.min_eq_left h]
  · rw [Nat.min_eq_right h, List.take_of_length_le h, List.take_of_length_le (Nat.le_refl _)]
theorem cut_from {xs : List PV} (k : Nat) : cut xs (some (k : Int)) none = xs.drop k := by
  unfold cut
  rw [HT.sIx_none, HT.sIx_nat]
  rcases Nat.le_total k xs.length with h | h
  · rw [Nat.min_eq_left h]
    rw [List.take_of_length_le (by rw [List.length_drop]; omega)]
  · rw [Nat.min_eq_right h, List.drop_of_length_le h, List.drop_of_length_le (Nat.le_refl _)]
    simp
end Pv
namespace Pv.LW
open PySem Pv
/-! ### the law's numbers -/
theorem cell_ok (ns : List Int) (h63 : ns.length ≤ 63) (k : Nat) : ∃ c : Int, f__law_cell [.scr ns, .int k] = .ok (.int c) := by
  by_cases hne : ns = []
  · subst hne
    refine ⟨(k : Int) * 7919, ?_⟩
    show endR (m__law_cell [some (.v (.scr [])), some (.v (.int k))]) = _
    unfold m__law_cell
    simp [peq_scr, opMul_of (mulOk_r (j := 7919) (by decide))]
  · have hpos : 0 < ns.length := List.length_pos_iff.mpr hne
    have hp : (0 : Int) < (ns.length : Nat) := by omega
    have hk : k % ns.length < ns.length := Nat.mod_lt _ hpos
    refine ⟨ns[k % ns.length] + (k : Int) / (ns.length : Nat) * 104729, ?_⟩
    show endR (m__law_cell [some (.v (.scr ns)), some (.v (.int k))]) = _
    unfold m__law_cell
    have hl : bLen [.scr ns] = .ok (.int (ns.length : Nat)) := rfl
    have hx : opIx (.scr ns) (.int ((k : Int) % (ns.length : Nat))) = .ok (.int ns[k % ns.length]) := by
      show (match L2.atI ns ((k % ns.length : Nat) : Int) with | some n => Res.ok (PV.int n) | none => .bad) = _
      rw [atI_nat, List.getElem?_eq_getElem hk]
    have hd : opDiv (.int k) (.int (ns.length : Nat)) = .ok (.int ((k : Int) / (ns.length : Nat))) := opDiv_of hp (by rw [Int.natAbs_natCast]; omega)
    have hm : opMod (.int k) (.int (ns.length : Nat)) = .ok (.int ((k : Int) % (ns.length : Nat))) := opMod_of hp
    have he : ns.isEmpty = false := by simpa using hne
    simp [peq_scr, he, hl, hx, hd, hm, opMul_of (mulOk_r (j := 104729) (by decide))]
def d1 (c k : Int) : Int := (c * 6364136223846793005 + (k + 1) * 1442695040888963407) % 340282366920938463463374607431768211507
def d2 (m : Int) : Int := m * m % 340282366920938463463374607431768211297
def d3 (m : Int) : Int := (m % 18446744073709551557 + 1) * (m / 18446744073709551557 + 1) * m
def drawnZ (c k : Int) : Int := d3 (d2 (d1 c k)) % 340282366920938463463374607431768211507
theorem drawn_ok (c k : Int) : f__law_drawn [.int c, .int k] = .ok (.int (drawnZ c k)) := by
  have e1 : 0 ≤ d1 c k ∧ d1 c k < 340282366920938463463374607431768211507 := ⟨Int.emod_nonneg _ (by decide), Int.emod_lt_of_pos _ (by decide)⟩
  have e2 : 0 ≤ d2 (d1 c k) ∧ d2 (d1 c k) < 340282366920938463463374607431768211297 := ⟨Int.emod_nonneg _ (by decide), Int.emod_lt_of_pos _ (by decide)⟩
  show endR (m__law_drawn [some (.v (.int c)), some (.v (.int k)), none]) = _
  unfold m__law_drawn
  simp [opMul_of (mulOk_r (j := 6364136223846793005) (by decide)), opMul_of (mulOk_r (j := 1442695040888963407) (by decide)), opMod_of (j := 340282366920938463463374607431768211507) (by decide)]
  rw [show (c * 6364136223846793005 + (k + 1) * 1442695040888963407) % 340282366920938463463374607431768211507 = d1 c k from rfl]
  generalize hm1 : d1 c k = m1 at *
  simp [opMul_of (mulOk_b (i := m1) (j := m1) (by omega) (by omega)), opMod_of (j := 340282366920938463463374607431768211297) (by decide)]
  rw [show m1 * m1 % 340282366920938463463374607431768211297 = d2 m1 from rfl]
  generalize hm2 : d2 m1 = m2 at *
  have a0 : 0 ≤ m2 % 18446744073709551557 ∧ m2 % 18446744073709551557 < 18446744073709551557 := ⟨Int.emod_nonneg _ (by decide), Int.emod_lt_of_pos _ (by decide)⟩
  have b0 : 0 ≤ m2 / 18446744073709551557 ∧ m2 / 18446744073709551557 < 18446744073709551716 := by omega
  simp [opMod_of (j := 18446744073709551557) (by decide), opDiv_of (j := 18446744073709551557) (by decide) (by decide)]
  generalize hA : m2 % 18446744073709551557 + 1 = A at *
  generalize hB : m2 / 18446744073709551557 + 1 = B at *
  have hAB : (A * B).natAbs < 18446744073709551616 * 18446744073709551616 * 18446744073709551616 := by
    rw [Int.natAbs_mul]
    have h1 : A.natAbs ≤ 18446744073709551616 := by omega
    have h2 : B.natAbs ≤ 18446744073709551716 := by omega
    have := Nat.mul_le_mul h1 h2
    omega
  simp [opMul_of (mulOk_l (i := A) (j := B) (by omega)), opMul_of (mulOk_b (i := A * B) (j := m2) hAB (by omega))]
  unfold drawnZ
  rw [hm1, hm2]
  rw [opMod_of (by decide)]
  unfold d3
  rw [hA, hB]
  rfl
theorem drawn_nn (c k : Int) : 0 ≤ drawnZ c k := Int.emod_nonneg _ (by decide)
theorem law_names_ok (t : Tr) : f__law_names [eT t] = .ok (.lst (t.ns.map PV.str)) := names_of_ok t
end Pv.LW
end
section
set_option linter.all false
set_option maxRecDepth 100000
namespace Pv.LW
open PySem Pv
/-! ### wrongs -/
def wrW (t : Tr) (b : List Nat) (s : Sk) : List (Str × Str) := (s.ws.filter fun w => decide (lv t.ns b w.1 < w.2)).map fun w => (s.nm, w.1)
def wrL (t : Tr) (b : List Nat) (s : Sk) : List (Str × Str) := (t.lk.filter fun l => decide (l.1 = s.nm) && decide (0 < lv t.ns b l.2)).map fun l => (s.nm, l.2)
def wrOf (t : Tr) (b : List Nat) (s : Sk) : List (Str × Str) := if 0 < lv t.ns b s.nm then wrW t b s ++ wrL t b s else []
def wrongsT (t : Tr) (b : List Nat) : List (Str × Str) := t.sk.flatMap (wrOf t b)
theorem wrW_len {t : Tr} (v : Vt t) (b : List Nat) {s : Sk} (m : s ∈ t.sk) : (wrW t b s).length ≤ 6 := by
  unfold wrW
  rw [List.length_map]
  exact Nat.le_trans (List.length_filter_le _ _) (wlen v m)
theorem wrL_len {t : Tr} (v : Vt t) (b : List Nat) (s : Sk) : (wrL t b s).length ≤ 4 := by
  unfold wrL
  rw [List.length_map]
  exact Nat.le_trans (List.length_filter_le _ _) v.lkn
theorem wrOf_len {t : Tr} (v : Vt t) (b : List Nat) {s : Sk} (m : s ∈ t.sk) : (wrOf t b s).length ≤ 10 := by
  have h1 := wrW_len v b m
  have h2 := wrL_len v b s
  unfold wrOf
  split
  · rw [List.length_append]; omega
  · simp
theorem flat_len {α β : Type} {f : α → List β} {n : Nat} : ∀ (l : List α), (∀ a ∈ l, (f a).length ≤ n) → (l.flatMap f).length ≤ n * l.length
  | [], _ => by simp
  | a :: l, h => by
    have h1 := h a List.mem_cons_self
    have h2 := flat_len (f := f) (n := n) l fun x m => h x (List.mem_cons_of_mem _ m)
    rw [List.flatMap_cons, List.length_append, List.length_cons, Nat.mul_succ]
    omega
theorem opAdd_ll {xs ys : List PV} (h : xs.length + ys.length ≤ 16777216) : opAdd (.lst xs) (.lst ys) = .ok (.lst (xs ++ ys)) := if_pos h
theorem wrongs_ok {t : Tr} (v : Vt t) {b : List Nat} (h : t.ns.length = b.length) : f__law_wrongs [eT t, eB b] = .ok (.lst ((wrongsT t b).map eL)) := by
  obtain ⟨ω2, e, o4, o5, o6, o7, o8, o9, o10, rfl⟩ := sForL_pre (pt := .tp [4, 5, 6, 7]) (b := b__law_wrongs_1) eS (fun pre ω => ∃ o4 o5 o6 o7 o8 o9 o10, ω = [some (.v (eT t)), some (.v (eB b)), some (.v (eD t.ns b)), some (.v (.lst ((pre.flatMap (wrOf t b)).map eL))), o4, o5, o6, o7, o8, o9, o10])
    t.sk t.sk [] [some (.v (eT t)), some (.v (eB b)), some (.v (eD t.ns b)), some (.v (.lst [])), none, none, none, none, none, none, none] rfl ⟨none, none, none, none, none, none, none, rfl⟩
    (fun pre s post ω ep ⟨o4, o5, o6, o7, o8, o9, o10, eo⟩ => by
      subst eo
      have ms : s ∈ t.sk := by rw [← ep]; simp
      have mn : s.nm ∈ t.ns := List.mem_map.mpr ⟨s, ms, rfl⟩
      have hlen := congrArg List.length ep
      have hF : (pre.flatMap (wrOf t b)).length ≤ 60 := by
        have h1 := flat_len (f := wrOf t b) (n := 10) pre fun a m => wrOf_len v b (by rw [← ep]; simp [m])
        have h2 := v.hi
        simp at hlen
        omega
      have hw := wrW_len v b ms
      have hl := wrL_len v b s
      refine ⟨_, [some (.v (eT t)), some (.v (eB b)), some (.v (eD t.ns b)), some (.v (.lst (((pre ++ [s]).flatMap (wrOf t b)).map eL))), some (.v (.str s.nm)), some (.v (.int s.mx)), some (.v (.int s.pr)), some (.v (.tup (s.ws.map eW))), o8, o9, o10], rfl, ?_, _, _, _, _, _, _, _, rfl⟩
      rw [List.flatMap_append]
      generalize pre.flatMap (wrOf t b) = F at *
      unfold b__law_wrongs_1
      simp [-List.map_append, setS, opIx_eD h mn]
      by_cases q : 0 < lv t.ns b s.nm
      · simp [-List.map_append, q]
        rw [lcRun_ok (enc := eW) (c := fun w => decide (lv t.ns b w.1 < w.2)) (g := fun w => eL (s.nm, w.1))]
        · have e1 : ((s.ws.filter fun w => decide (lv t.ns b w.1 < w.2)).map fun w => eL (s.nm, w.1)) = (wrW t b s).map eL := by simp [wrW]
          rw [e1]
          simp [-List.map_append]
          rw [opAdd_ll (by rw [List.length_map, List.length_map]; omega)]
          simp [-List.map_append, h1T]
          rw [lcRun_ok (enc := eL) (c := fun l => decide (l.1 = s.nm) && decide (0 < lv t.ns b l.2)) (g := fun l => eL (s.nm, l.2))]
          · have e2 : ((t.lk.filter fun l => decide (l.1 = s.nm) && decide (0 < lv t.ns b l.2)).map fun l => eL (s.nm, l.2)) = (wrL t b s).map eL := by simp [wrL]
            rw [e2]
            simp [-List.map_append]
            rw [opAdd_ll (by rw [List.length_append, List.length_map, List.length_map, List.length_map]; omega)]
            simp [wrOf, q]
          · intro l ml
            refine ⟨_, rfl, ?_, fun _ => by simp [setS, eL]⟩
            simp [setS, opIx_eD h (v.lk l ml).2]
            by_cases q' : l.1 = s.nm <;> simp [q']
        · intro w mw
          refine ⟨_, rfl, ?_, fun _ => by simp [setS, eL]⟩
          simp [setS, opIx_eD h (v.ws s ms w mw)]
      · simp [q, wrOf])
  show endR (m__law_wrongs [some (.v (eT t)), some (.v (eB b)), none, none, none, none, none, none, none, none, none]) = _
  unfold m__law_wrongs
  have hz := bDictZip_ok v.nd h
  simp [law_names_ok, show eB b = .tup (b.map eN) from rfl, hz]
  rw [show PV.tup (b.map eN) = eB b from rfl]
  simp [patO, setS, h0T, e]
  simp [wrongsT]
theorem wrongs_nil {t : Tr} (w : Wf t) (b : List Nat) : wrongsT t b = [] ↔ holdsT t b = true := by
  unfold wrongsT holdsT
  rw [List.flatMap_eq_nil_iff, Bool.and_eq_true, List.all_eq_true]
  constructor
  · intro h
    constructor
    · rw [List.isEmpty_iff]
      unfold clashT
      rw [List.filter_eq_nil_iff]
      intro l ml hl
      simp only [Bool.and_eq_true, decide_eq_true_eq] at hl
      obtain ⟨s, ms, e⟩ := List.mem_map.mp (w.lk l ml).1
      have := h s ms
      have hs : 0 < lv t.ns b s.nm := by rw [e]; exact hl.1
      unfold wrOf at this
      rw [if_pos hs, List.append_eq_nil_iff] at this
      have h2 := this.2
      unfold wrL at h2
      rw [List.map_eq_nil_iff, List.filter_eq_nil_iff] at h2
      exact h2 l ml (by simp [e, hl.2])
    · intro x mx
      obtain ⟨s, ms, e⟩ := List.mem_map.mp mx
      subst e
      by_cases q : 0 < lv t.ns b s.nm
      · have := h s ms
        unfold wrOf at this
        rw [if_pos q, List.append_eq_nil_iff] at this
        have h1 := this.1
        unfold wrW at h1
        rw [List.map_eq_nil_iff] at h1
        simp [lackT, wantsT, get_mem w.nd ms, h1]
      · have : lv t.ns b s.nm = 0 := by omega
        simp [this]
  · rintro ⟨h1, h2⟩ s ms
    unfold wrOf
    split
    · rename_i q
      rw [List.append_eq_nil_iff]
      constructor
      · have := h2 s.nm (List.mem_map.mpr ⟨s, ms, rfl⟩)
        simp only [Bool.or_eq_true, decide_eq_true_eq, List.isEmpty_iff] at this
        rcases this with z | z
        · omega
        · unfold lackT wantsT at z
          rw [get_mem w.nd ms] at z
          unfold wrW
          rw [List.map_eq_nil_iff]
          exact z
      · unfold wrL
        rw [List.map_eq_nil_iff, List.filter_eq_nil_iff]
        intro l ml hl
        simp only [Bool.and_eq_true, decide_eq_true_eq] at hl
        rw [List.isEmpty_iff] at h1
        unfold clashT at h1
        rw [List.filter_eq_nil_iff] at h1
        exact h1 l ml (by simp [hl.1, hl.2, q])
    · rfl
/-! ### ups -/
def upAt (b : List Nat) (i : Nat) : List Nat := b.take i ++ [b.getD i 0 + 1] ++ b.drop (i + 1)
def upsT (t : Tr) (b : List Nat) : List (List Nat) := (t.sk.zipIdx.filter fun p => decide (b.getD p.2 0 < p.1.mx)).map fun p => upAt b p.2
theorem zipIdx_pre {α : Type} {l pre post : List (α × Nat)} {p : α × Nat} {xs : List α} (e : pre ++ p :: post = xs.zipIdx) : pre.length = p.2 ∧ p.2 < xs.length ∧ xs[p.2]? = some p.1 := by
  have h1 : (xs.zipIdx)[pre.length]? = some p := by rw [← e]; simp
  rw [List.getElem?_zipIdx] at h1
  cases h2 : xs[pre.length]? with
  | none => rw [h2] at h1; cases h1
  | some a =>
    rw [h2] at h1
    simp at h1
    have hl := (List.getElem?_eq_some_iff.mp h2).1
    subst h1
    exact ⟨rfl, hl, h2⟩
theorem opIx_eB {b : List Nat} {i : Nat} (h : i < b.length) : opIx (eB b) (.int (i : Nat)) = .ok (.int (b.getD i 0 : Nat)) := by
  unfold eB
  rw [opIx_tn _ i (eN (b.getD i 0))]
  · rfl
  · rw [List.getElem?_map, List.getD_eq_getElem?_getD, List.getElem?_eq_getElem h]
    rfl
theorem slTo_eB (b : List Nat) (i : Nat) : slPV none (some (i : Int)) (eB b) = .ok (eB (b.take i)) := by
  unfold eB
  rw [slPV_tup, cut_to, List.map_take]
theorem slFrom_eB (b : List Nat) (i : Nat) : slPV (some (i : Int)) none (eB b) = .ok (eB (b.drop i)) := by
  unfold eB
  rw [slPV_tup, cut_from, List.map_drop]
theorem opAdd_eB {b c : List Nat} (h : b.length + c.length ≤ 16777216) : opAdd (eB b) (eB c) = .ok (eB (b ++ c)) := by
  unfold eB
  rw [opAdd_tt (by rw [List.length_map, List.length_map]; exact h), List.map_append]
theorem ups_ok {t : Tr} (h6 : t.sk.length ≤ 6) {b : List Nat} (h : t.ns.length = b.length) : f__law_ups [eT t, eB b] = .ok (.lst ((upsT t b).map eB)) := by
  have hbl : b.length = t.sk.length := by rw [← h]; simp [Tr.ns]
  let c := fun p : Sk × Nat => decide (b.getD p.2 0 < p.1.mx)
  obtain ⟨ω2, e, o3, o4, rfl⟩ := sForL_pre (pt := .tp [3, 4]) (b := b__law_ups_1) (fun p : Sk × Nat => .tup [.int (p.2 : Nat), eS p.1]) (fun pre ω => ∃ o3 o4, ω = [some (.v (eT t)), some (.v (eB b)), some (.l (((pre.filter c).map fun p => upAt b p.2).map eB)), o3, o4])
    t.sk.zipIdx t.sk.zipIdx [] [some (.v (eT t)), some (.v (eB b)), some (.l []), none, none] rfl ⟨none, none, rfl⟩
    (fun pre p post ω ep ⟨o3, o4, eo⟩ => by
      subst eo
      obtain ⟨hp1, hp2, hp3⟩ := zipIdx_pre (l := []) ep
      refine ⟨_, [some (.v (eT t)), some (.v (eB b)), some (.l ((((pre ++ [p]).filter c).map fun p => upAt b p.2).map eB)), some (.v (.int p.2)), some (.v (eS p.1))], rfl, ?_, _, _, rfl⟩
      have hi : p.2 < b.length := by omega
      rw [List.filter_append, List.map_append, List.map_append]
      have hFl : (((pre.filter c).map fun p => upAt b p.2).map eB).length ≤ 6 := by
        rw [List.length_map, List.length_map]
        have := List.length_filter_le c pre
        omega
      generalize ((pre.filter c).map fun p => upAt b p.2).map eB = F at *
      unfold b__law_ups_1
      have hs := slTo_eB b p.2
      have hf := slFrom_eB b (p.2 + 1)
      simp at hf
      simp [setS, opIx_eB hi, h1S]
      by_cases q : b.getD p.2 0 < p.1.mx
      · have hc : c p = true := by simp only [c]; exact decide_eq_true q
        rw [List.getD_eq_getElem?_getD] at q
        simp [q, hc]
        have h1 : opAdd (eB (b.take p.2)) (.tup [.int ((b.getD p.2 0 : Nat) + 1 : Int)]) = .ok (eB (b.take p.2 ++ [b.getD p.2 0 + 1])) := by
          have := opAdd_eB (b := b.take p.2) (c := [b.getD p.2 0 + 1]) (by simp; omega)
          simpa [eB, eN] using this
        have h2 : opAdd (eB (b.take p.2 ++ [b.getD p.2 0 + 1])) (eB (b.drop (p.2 + 1))) = .ok (eB (upAt b p.2)) := opAdd_eB (by simp; omega)
        rw [List.getD_eq_getElem?_getD] at h1 h2
        rw [sApp_go (xs := F) (p := eB (upAt b p.2)) (by simp) (by simp [opIx_eB hi, hs, hf, h1, h2]) (by omega)]
        simp
      · have hc : c p = false := by simp only [c]; exact decide_eq_false q
        rw [List.getD_eq_getElem?_getD] at q
        simp [q, hc])
  show endR (m__law_ups [some (.v (eT t)), some (.v (eB b)), none, none, none]) = _
  unfold m__law_ups
  simp [h0T, iEnumP, seqPV, enumP_map, e]
  simp [upsT, c]
/-! ### builds -/
structure Bd (t : Tr) (b : List Nat) : Prop where
  len : t.ns.length = b.length
  lev : levT t b = true
  hol : holdsT t b = true
theorem levT_iff {t : Tr} {b : List Nat} (h : t.ns.length = b.length) : levT t b = true ↔ ∀ (i : Nat) (s : Sk), t.sk[i]? = some s → b.getD i 0 ≤ s.mx := by
  have hbl : b.length = t.sk.length := by rw [← h]; simp [Tr.ns]
  unfold levT
  rw [List.all_eq_true]
  constructor
  · intro hz i s e
    have hi := (List.getElem?_eq_some_iff.mp e).1
    have : (b.zip t.sk)[i]? = some (b[i], s) := by
      rw [List.getElem?_zip_eq_some]
      exact ⟨List.getElem?_eq_getElem (by omega), e⟩
    have := hz _ (List.mem_of_getElem? this)
    rw [List.getD_eq_getElem?_getD, List.getElem?_eq_getElem (by omega)]
    simpa using this
  · intro hz p mp
    obtain ⟨i, hi⟩ := List.getElem?_of_mem mp
    rw [List.getElem?_zip_eq_some] at hi
    have := hz i p.2 hi.2
    rw [List.getD_eq_getElem?_getD, hi.1] at this
    simpa using this
theorem upAt_len {b : List Nat} {i : Nat} (h : i < b.length) : (upAt b i).length = b.length := by
  unfold upAt
  simp
  omega
theorem upAt_get {b : List Nat} {i : Nat} (h : i < b.length) (j : Nat) : (upAt b i).getD j 0 = if j = i then b.getD i 0 + 1 else b.getD j 0 := by
  unfold upAt
  rw [List.getD_eq_getElem?_getD, List.getD_eq_getElem?_getD, List.getD_eq_getElem?_getD]
  rw [List.append_assoc, List.getElem?_append]
  have hl : (b.take i).length = i := by rw [List.length_take]; omega
  rw [hl]
  split
  · rename_i q
    rw [List.getElem?_take, if_pos q, if_neg (by omega)]
  · rename_i q
    by_cases e : j = i
    · subst e; simp
    · rw [if_neg e, List.getElem?_append]
      rw [if_neg (by simp; omega), List.getElem?_drop]
      have : i + 1 + (j - i - [(b[i]?).getD 0 + 1].length) = j := by simp; omega
      rw [this]
theorem ups_mem {t : Tr} {b c : List Nat} (h : t.ns.length = b.length) (hl : levT t b = true) (m : c ∈ upsT t b) : t.ns.length = c.length ∧ levT t c = true ∧ ∀ i, b.getD i 0 ≤ c.getD i 0 := by
  have hbl : b.length = t.sk.length := by rw [← h]; simp [Tr.ns]
  unfold upsT at m
  obtain ⟨p, mp, rfl⟩ := List.mem_map.mp m
  obtain ⟨m1, m2⟩ := List.mem_filter.mp mp
  simp only [decide_eq_true_eq] at m2
  obtain ⟨i, hi⟩ := List.getElem?_of_mem m1
  rw [List.getElem?_zipIdx] at hi
  cases h2 : t.sk[i]? with
  | none => rw [h2] at hi; cases hi
  | some s =>
    rw [h2] at hi
    simp at hi
    subst hi
    have hlt := (List.getElem?_eq_some_iff.mp h2).1
    have hb : i < b.length := by omega
    have hlen : t.ns.length = (upAt b i).length := by rw [upAt_len hb]; exact h
    refine ⟨hlen, ?_, fun j => ?_⟩
    · rw [levT_iff hlen]
      intro j s' e
      rw [upAt_get hb]
      split
      · rename_i q
        subst q
        rw [h2] at e
        cases e
        exact m2
      · exact (levT_iff h).mp hl j s' e
    · rw [upAt_get hb]
      split
      · rename_i q; subst q; omega
      · exact Nat.le_refl _
theorem lv_zero (x : Str) : ∀ (ns : List Str) (n : Nat), lv ns (List.replicate n 0) x = 0
  | [], n => by cases n <;> rfl
  | a :: ns, 0 => rfl
  | a :: ns, n + 1 => by
    have := lv_zero x ns n
    unfold lv at *
    rw [List.replicate_succ, lk?]
    split
    · rfl
    · exact this
theorem Bd.zero (t : Tr) : Bd t (List.replicate t.sk.length 0) := by
  refine ⟨by simp [Tr.ns], ?_, ?_⟩
  · rw [levT_iff (by simp [Tr.ns])]
    intro i s _
    rw [List.getD_eq_getElem?_getD, List.getElem?_replicate]
    split <;> simp
  · unfold holdsT clashT
    simp [lv_zero]
theorem zeros_ok {n : Nat} (h1 : 1 ≤ n) (h : n ≤ 6) : opMul (.tup [.int 0]) (.int (n : Nat)) = .ok (eB (List.replicate n 0)) := by
  show (if _ then _ else _) = _
  rw [if_pos ⟨by omega, by omega, by simp, by simp⟩]
  congr 2
  simp [eB, eN]
theorem build_ok {t : Tr} (v : Vt t) (more : Int) : ∃ b, f__law_build [eT t, .int more] = .ok (eB b) ∧ Bd t b := by
  have hm : 0 ≤ more % 14 ∧ more % 14 < 14 := ⟨Int.emod_nonneg _ (by decide), Int.emod_lt_of_pos _ (by decide)⟩
  obtain ⟨n, hn⟩ : ∃ n : Nat, more % 14 = (n : Int) := ⟨(more % 14).toNat, by omega⟩
  obtain ⟨ω2, e, b, o3, o4, o5, rfl, hb⟩ := sForL_pre (pt := .nm 3) (b := b__law_build_1) eN (fun pre ω => ∃ b o3 o4 o5, ω = [some (.v (eT t)), some (.v (.int more)), some (.v (eB b)), o3, o4, o5] ∧ Bd t b)
    (List.range n) (List.range n) [] [some (.v (eT t)), some (.v (.int more)), some (.v (eB (List.replicate t.sk.length 0))), none, none, none] rfl ⟨_, none, none, none, rfl, Bd.zero t⟩
    (fun pre j post ω ep ⟨b, o3, o4, o5, eo, hb⟩ => by
      subst eo
      have hrows : lcRun (.nm 5) (eTru (eBin opEq (eCall f__law_wrongs (aCons (eV 0) (aCons (eV 5) aNil))) (eLst aNil))) (eV 5) [some (eT t), some (.int more), some (eB b), some (eN j), hidO o4, none] ((upsT t b).map eB) = .ok (((upsT t b).filter fun c => (wrongsT t c).isEmpty).map eB) :=
        lcRun_ok (enc := eB) (c := fun c => (wrongsT t c).isEmpty) (g := eB) _ fun c mc => by
          have := ups_mem hb.len hb.lev mc
          refine ⟨_, rfl, ?_, fun _ => by simp⟩
          simp [wrongs_ok v this.1]
          rw [opEq_nil' Fl_eL (by omega)]
          rfl
      have hall : ∀ c ∈ (upsT t b).filter fun c => (wrongsT t c).isEmpty, Bd t c := fun c mc => by
        obtain ⟨m1, m2⟩ := List.mem_filter.mp mc
        have := ups_mem hb.len hb.lev m1
        exact ⟨this.1, this.2.1, (wrongs_nil v.toWf c).mp (List.isEmpty_iff.mp m2)⟩
      generalize hR : ((upsT t b).filter fun c => (wrongsT t c).isEmpty) = R at *
      cases R with
      | nil =>
        refine ⟨_, [some (.v (eT t)), some (.v (.int more)), some (.v (eB b)), some (.v (eN j)), some (.v (.lst [])), o5], rfl, ?_, b, _, _, _, rfl, hb⟩
        unfold b__law_build_1
        simp [ups_ok v.hi hb.len, hrows]
        rw [opNe_nil (n := 0) (by simp) (by omega)]
        simp
      | cons r R =>
        have hlen : R.length ≤ 6 := by
          have h1 : (r :: R).length ≤ (upsT t b).length := by rw [← hR]; exact List.length_filter_le _ _
          have h2 : (upsT t b).length ≤ 6 := by
            unfold upsT
            rw [List.length_map]
            refine Nat.le_trans (List.length_filter_le _ _) ?_
            rw [List.length_zipIdx]
            exact v.hi
          simp at h1
          omega
        have hk0 : 0 ≤ drawnZ more j / 8 % ((R.length + 1 : Nat) : Int) ∧ drawnZ more j / 8 % ((R.length + 1 : Nat) : Int) < ((R.length + 1 : Nat) : Int) := ⟨Int.emod_nonneg _ (by omega), Int.emod_lt_of_pos _ (by omega)⟩
        obtain ⟨k, hk⟩ : ∃ k : Nat, drawnZ more j / 8 % ((R.length + 1 : Nat) : Int) = (k : Int) := ⟨(drawnZ more j / 8 % ((R.length + 1 : Nat) : Int)).toNat, by omega⟩
        have hkl : k < (r :: R).length := by simp; omega
        refine ⟨_, [some (.v (eT t)), some (.v (.int more)), some (.v (eB (r :: R)[k])), some (.v (eN j)), some (.v (.lst ((r :: R).map eB))), o5], rfl, ?_, (r :: R)[k], _, _, _, rfl, hall _ (List.getElem_mem hkl)⟩
        have hx : opIx (.lst ((r :: R).map eB)) (.int (k : Nat)) = .ok (eB (r :: R)[k]) := opIx_ln _ k _ (by rw [List.getElem?_map, List.getElem?_eq_getElem hkl]; rfl)
        have hne : opNe (.lst ((r :: R).map eB)) (.lst []) = .ok (.bl true) := by rw [opNe_nil' Fl_eB (by omega)]; rfl
        have hmod : opMod (.int (drawnZ more j / 8)) (.int ((R.length : Int) + 1)) = .ok (.int k) := by
          rw [show ((R.length : Int) + 1) = ((R.length + 1 : Nat) : Int) by simp, opMod_of (by omega), hk]
        have hdj : f__law_drawn [.int more, eN j] = .ok (.int (drawnZ more j)) := drawn_ok _ _
        unfold b__law_build_1
        simp [-List.map_cons, ups_ok v.hi hb.len, hrows, hne, hdj, opDiv_of (j := 8) (by decide) (by decide), hmod, hx])
  refine ⟨b, ?_, hb⟩
  show endR (m__law_build [some (.v (eT t)), some (.v (.int more)), none, none, none, none]) = _
  unfold m__law_build
  have hr : iRange [.int (n : Int)] = .ok ((List.range n).map eN) := iRange_nat n (by omega)
  simp [h0T, zeros_ok v.lo v.hi, opMod_of (j := 14) (by decide), hn, hr, e]
end Pv.LW
end
section
set_option linter.all false
set_option maxRecDepth 100000
namespace Pv.LW
open PySem Pv
/-! ### the law's trees -/
def NM : List Str := ["b", "axe", "c", "zap", "dd", "e"]
theorem NM_nodup : NM.Nodup := by decide +kernel
theorem NM_name : ∀ x ∈ NM, f_is_name [.str x] = .ok (.bl true) := by
  intro x m
  simp only [NM, List.mem_cons, List.not_mem_nil, or_false] at m
  rcases m with rfl | rfl | rfl | rfl | rfl | rfl <;> rfl
structure Gs (ns : List Str) (sk : List Sk) : Prop where
  nm : sk.map (·.nm) = ns.take sk.length
  mx : ∀ s ∈ sk, 1 ≤ s.mx ∧ s.mx ≤ 3
  pr : ∀ s ∈ sk, 1 ≤ s.pr ∧ s.pr ≤ 9
  wnd : ∀ s ∈ sk, (s.ws.map (·.1)).Nodup
  wlv : ∀ (i : Nat) (s : Sk), sk[i]? = some s → ∀ w ∈ s.ws, ∃ (m : Nat) (s' : Sk), m < i ∧ sk[m]? = some s' ∧ s'.nm = w.1 ∧ 1 ≤ w.2 ∧ w.2 ≤ s'.mx
theorem Gs.nil (ns : List Str) : Gs ns [] := ⟨rfl, fun _ m => (by cases m), fun _ m => (by cases m), fun _ m => (by cases m), fun i s e => (by simp at e)⟩
theorem Gs.snoc {ns : List Str} {sk : List Sk} (g : Gs ns sk) {s : Sk} (hn : ns[sk.length]? = some s.nm) (h1 : 1 ≤ s.mx ∧ s.mx ≤ 3) (h2 : 1 ≤ s.pr ∧ s.pr ≤ 9) (h3 : (s.ws.map (·.1)).Nodup)
    (h4 : ∀ w ∈ s.ws, ∃ (m : Nat) (s' : Sk), sk[m]? = some s' ∧ s'.nm = w.1 ∧ 1 ≤ w.2 ∧ w.2 ≤ s'.mx) : Gs ns (sk ++ [s]) := by
  refine ⟨?_, ?_, ?_, ?_, ?_⟩
  · rw [List.map_append, g.nm, List.length_append, List.length_singleton, List.take_succ, hn]
    rfl
  · intro z m
    rcases List.mem_append.mp m with m | m
    · exact g.mx z m
    · simp at m; subst m; exact h1
  · intro z m
    rcases List.mem_append.mp m with m | m
    · exact g.pr z m
    · simp at m; subst m; exact h2
  · intro z m
    rcases List.mem_append.mp m with m | m
    · exact g.wnd z m
    · simp at m; subst m; exact h3
  · intro i z e w mw
    by_cases hi : i < sk.length
    · rw [List.getElem?_append_left hi] at e
      obtain ⟨m, s', q1, q2, q3⟩ := g.wlv i z e w mw
      exact ⟨m, s', q1, by rw [List.getElem?_append_left (by omega)]; exact q2, q3⟩
    · rw [List.getElem?_append_right (by omega)] at e
      have hz : i - sk.length = 0 := by
        have := (List.getElem?_eq_some_iff.mp e).1
        simp at this
        exact this
      rw [hz] at e
      simp at e
      subst e
      obtain ⟨m, s', q2, q3⟩ := h4 w mw
      have := (List.getElem?_eq_some_iff.mp q2).1
      exact ⟨m, s', by omega, by rw [List.getElem?_append_left this]; exact q2, q3⟩
structure Gl (ns : List Str) (lk : List (Str × Str)) : Prop where
  inn : ∀ l ∈ lk, l.1 ∈ ns ∧ l.2 ∈ ns
  lt : ∀ l ∈ lk, l.1.cps.toList < l.2.cps.toList
  nd : lk.Nodup
theorem take_sub {α : Type} {x : α} {l : List α} {n : Nat} (h : x ∈ l.take n) : x ∈ l := List.mem_of_mem_take h
theorem Gs.vt {n : Nat} {sk : List Sk} {lk : List (Str × Str)} (h1 : 1 ≤ n) (h6 : n ≤ 6) (g : Gs (NM.take n) sk) (hl : sk.length = n) (l : Gl (NM.take n) lk) (l4 : lk.length ≤ 4) : Vt ⟨sk, lk⟩ := by
  have hN : (NM.take n).length = n := by rw [List.length_take]; simp [NM]; omega
  have hns : sk.map (·.nm) = NM.take n := by rw [g.nm, hl, List.take_of_length_le (by omega)]
  have nd : (NM.take n).Nodup := List.Nodup.sublist (List.take_sublist _ _) NM_nodup
  have hget : ∀ (i : Nat) (s : Sk), sk[i]? = some s → (NM.take n)[i]? = some s.nm := fun i s e => by rw [← hns, List.getElem?_map, e]; rfl
  refine ⟨⟨by rw [Tr.ns, hns]; exact nd, ?_, fun z m => by rw [Tr.ns, hns]; exact l.inn z m⟩, by simp [hl]; exact h1, by simp [hl]; exact h6, ?_, g.mx, g.pr, g.wnd, ?_, ?_, l.lt, l.nd, l4⟩
  · intro s m w mw
    obtain ⟨i, hi⟩ := List.getElem?_of_mem m
    obtain ⟨k, s', _, q2, q3, _⟩ := g.wlv i s hi w mw
    exact List.mem_map.mpr ⟨s', List.mem_of_getElem? q2, q3⟩
  · intro s m
    apply NM_name
    have : s.nm ∈ NM.take n := by rw [← hns]; exact List.mem_map.mpr ⟨s, m, rfl⟩
    exact take_sub this
  · intro s m w mw
    obtain ⟨i, hi⟩ := List.getElem?_of_mem m
    obtain ⟨k, s', _, q2, q3, q4⟩ := g.wlv i s hi w mw
    exact ⟨s', List.mem_of_getElem? q2, q3, q4⟩
  · refine ⟨fun x => (NM.take n).idxOf x, fun s m w mw => ?_⟩
    obtain ⟨i, hi⟩ := List.getElem?_of_mem m
    obtain ⟨k, s', q1, q2, q3, q4⟩ := g.wlv i s hi w mw
    have e1 := hget i s hi
    have e2 := hget k s' q2
    rw [q3] at e2
    have f : ∀ (j : Nat) (x : Str), (NM.take n)[j]? = some x → (NM.take n).idxOf x = j := fun j x e => by
      obtain ⟨hj, ej⟩ := List.getElem?_eq_some_iff.mp e
      rw [← ej]
      exact nd.idxOf_getElem j hj
    show (NM.take n).idxOf w.1 < (NM.take n).idxOf s.nm
    rw [f _ _ e1, f _ _ e2]
    exact q1
theorem Vt.rev {sk : List Sk} {lk : List (Str × Str)} (v : Vt ⟨sk, lk⟩) : Vt ⟨sk.reverse, lk⟩ := by
  have hm : ∀ {s}, s ∈ sk.reverse → s ∈ sk := fun m => List.mem_reverse.mp m
  have hn : ∀ {x}, x ∈ (⟨sk, lk⟩ : Tr).ns → x ∈ (⟨sk.reverse, lk⟩ : Tr).ns := fun m => by
    obtain ⟨s, m, e⟩ := List.mem_map.mp m
    exact List.mem_map.mpr ⟨s, List.mem_reverse.mpr m, e⟩
  refine ⟨⟨?_, fun s m w mw => hn (v.ws s (hm m) w mw), fun l m => ⟨hn (v.lk l m).1, hn (v.lk l m).2⟩⟩, by simpa using v.lo, by simpa using v.hi, fun s m => v.nm s (hm m), fun s m => v.mx s (hm m), fun s m => v.pr s (hm m), fun s m => v.wnd s (hm m), ?_, ?_, v.lkl, v.lknd, v.lkn⟩
  · have := v.nd
    unfold Tr.ns at *
    rw [List.map_reverse]
    exact (List.reverse_perm _).symm.nodup this
  · intro s m w mw
    obtain ⟨s', m', e⟩ := v.wlv s (hm m) w mw
    exact ⟨s', List.mem_reverse.mpr m', e⟩
  · obtain ⟨r, hr⟩ := v.rk
    exact ⟨r, fun s m => hr s (hm m)⟩
/-! the loops -/
theorem mod3 (more : Int) : ∃ d : Int, 0 < d ∧ opIx (.lst [.int 2, .int 3, .int 5]) (.int (more / 8 % 3)) = .ok (.int d) := by
  have h : 0 ≤ more / 8 % 3 ∧ more / 8 % 3 < 3 := ⟨Int.emod_nonneg _ (by decide), Int.emod_lt_of_pos _ (by decide)⟩
  generalize more / 8 % 3 = r at h
  obtain ⟨n, rfl⟩ : ∃ n : Nat, r = (n : Int) := ⟨r.toNat, by omega⟩
  match n, h with
  | 0, _ => exact ⟨2, by decide, rfl⟩
  | 1, _ => exact ⟨3, by decide, rfl⟩
  | 2, _ => exact ⟨5, by decide, rfl⟩
  | n + 3, h => omega
theorem hasL_tupf {xs : List PV} (h : hasLs xs = false) : hasL (.tup xs) = false := h
theorem tree_in {ns : List Str} {sk : List Sk} {more here : Int} {o1 o4 o5 o10 o11 : Option SV} (g : Gs ns sk) (hns : sk.length < ns.length) (h6 : ns.length ≤ 6) (nd : ns.Nodup) {o8 o9 : Option SV} :
    ∃ (wl : List (Str × Nat)) (o8' o9' : Option SV), sForL (.nm 8) b__law_tree_1 ((List.range sk.length).map eN) [some (.v (.int more)), o1, some (.v (.lst (ns.map PV.str))), some (.l (sk.map eS)), o4, o5, some (.v (.int here)), some (.l []), o8, o9, o10, o11] =
      .nx [some (.v (.int more)), o1, some (.v (.lst (ns.map PV.str))), some (.l (sk.map eS)), o4, o5, some (.v (.int here)), some (.l (wl.map eW)), o8', o9', o10, o11] ∧ (wl.map (·.1)).Nodup ∧ wl.length ≤ 6 ∧
      ∀ w ∈ wl, ∃ (m : Nat) (s' : Sk), sk[m]? = some s' ∧ s'.nm = w.1 ∧ 1 ≤ w.2 ∧ w.2 ≤ s'.mx := by
  obtain ⟨d, hd, hdx⟩ := mod3 more
  obtain ⟨ω2, e, wl, o8', o9', rfl, hsub, hw⟩ := sForL_pre (pt := .nm 8) (b := b__law_tree_1) eN (fun pre ω => ∃ wl o8 o9, ω = [some (.v (.int more)), o1, some (.v (.lst (ns.map PV.str))), some (.l (sk.map eS)), o4, o5, some (.v (.int here)), some (.l (wl.map eW)), o8, o9, o10, o11] ∧ (wl.map (·.1)).Sublist (ns.take pre.length) ∧
      ∀ w ∈ wl, ∃ (m : Nat) (s' : Sk), sk[m]? = some s' ∧ s'.nm = w.1 ∧ 1 ≤ w.2 ∧ w.2 ≤ s'.mx) (List.range sk.length) (List.range sk.length) []
    [some (.v (.int more)), o1, some (.v (.lst (ns.map PV.str))), some (.l (sk.map eS)), o4, o5, some (.v (.int here)), some (.l []), o8, o9, o10, o11] rfl ⟨[], o8, o9, rfl, by simp, fun w m => by cases m⟩
    (fun pre n post ω ep ⟨wl, o8, o9, eo, hsub, hw⟩ => by
      subst eo
      have hn : pre.length = n ∧ n < sk.length := by
        have h1 : (List.range sk.length)[pre.length]? = some n := by rw [← ep]; simp
        rw [List.getElem?_range] at h1
        · cases h1
          refine ⟨rfl, ?_⟩
          have := congrArg List.length ep
          simp at this
          omega
        · have := congrArg List.length ep
          simp at this
          omega
      obtain ⟨hn1, hn2⟩ := hn
      have hwl : wl.length ≤ 6 := by
        have := hsub.length_le
        rw [List.length_map, List.length_take] at this
        omega
      have hdj : f__law_drawn [.int here, .int (20 + (n : Int))] = .ok (.int (drawnZ here (20 + n))) := drawn_ok _ _
      have ns_n : ns[n]? = some (ns[n]'(by omega)) := List.getElem?_eq_getElem (by omega)
      have hnx : opIx (.lst (ns.map PV.str)) (eN n) = .ok (.str (ns[n]'(by omega))) := opIx_ln _ n _ (by rw [List.getElem?_map, ns_n]; rfl)
      have sk_n : sk[n]? = some (sk[n]'hn2) := List.getElem?_eq_getElem hn2
      have hsx : opIx (.lst (sk.map eS)) (eN n) = .ok (eS (sk[n]'hn2)) := opIx_ln _ n _ (by rw [List.getElem?_map, sk_n]; rfl)
      have hnm : (sk[n]'hn2).nm = ns[n]'(by omega) := by
        have h1 : (sk.map (·.nm))[n]? = (ns.take sk.length)[n]? := by rw [g.nm]
        rw [List.getElem?_map, sk_n, List.getElem?_take, if_pos hn2, ns_n] at h1
        simpa using h1
      have hmx := g.mx _ (List.mem_of_getElem? sk_n)
      generalize hone : drawnZ here (20 + n) = one at *
      by_cases q : one % d = 0
      · have hlv : 0 ≤ one / 64 % ((sk[n]'hn2).mx : Int) ∧ one / 64 % ((sk[n]'hn2).mx : Int) < ((sk[n]'hn2).mx : Int) := ⟨Int.emod_nonneg _ (by omega), Int.emod_lt_of_pos _ (by omega)⟩
        obtain ⟨l, hl⟩ : ∃ l : Nat, one / 64 % ((sk[n]'hn2).mx : Int) = (l : Int) := ⟨(one / 64 % ((sk[n]'hn2).mx : Int)).toNat, by omega⟩
        refine ⟨_, [some (.v (.int more)), o1, some (.v (.lst (ns.map PV.str))), some (.l (sk.map eS)), o4, o5, some (.v (.int here)), some (.l ((wl ++ [(ns[n]'(by omega), 1 + l)]).map eW)), some (.v (eN n)), some (.v (.int one)), o10, o11], rfl, ?_, wl ++ [(ns[n]'(by omega), 1 + l)], _, _, rfl, ?_, ?_⟩
        · unfold b__law_tree_1
          have heN : opAdd (.int 20) (eN n) = .ok (.int (20 + (n : Int))) := rfl
          have hmd : opMod (.int (one / 64)) (.int (((sk[n]'hn2).mx : Nat) : Int)) = .ok (.int l) := by rw [opMod_of (by omega), hl]
          simp [-List.map_append, heN, hdj, opDiv_of (j := 8) (by decide) (by decide), opMod_of (j := 3) (by decide), hdx, opMod_of hd, q]
          rw [sApp_go (xs := wl.map eW) (p := eW (ns[n]'(by omega), 1 + l)) (by simp) ?_ (by rw [List.length_map]; omega)]
          · simp
          · refine ev_vis ?_ (keepOk_f rfl rfl)
            simp [hnx, hsx, h1S, opDiv_of (j := 64) (by decide) (by decide), hmd, eW]
        · rw [List.map_append, List.length_append, List.length_singleton, List.take_succ]
          refine List.Sublist.append hsub ?_
          rw [hn1, ns_n]
          simp
        · intro w m
          rcases List.mem_append.mp m with m | m
          · exact hw w m
          · simp at m
            subst m
            refine ⟨n, sk[n]'hn2, sk_n, hnm, by simp, ?_⟩
            show 1 + l ≤ (sk[n]'hn2).mx
            omega
      · refine ⟨_, [some (.v (.int more)), o1, some (.v (.lst (ns.map PV.str))), some (.l (sk.map eS)), o4, o5, some (.v (.int here)), some (.l (wl.map eW)), some (.v (eN n)), some (.v (.int one)), o10, o11], rfl, ?_, wl, _, _, rfl, ?_, hw⟩
        · unfold b__law_tree_1
          have heN : opAdd (.int 20) (eN n) = .ok (.int (20 + (n : Int))) := rfl
          simp [heN, hdj, opDiv_of (j := 8) (by decide) (by decide), opMod_of (j := 3) (by decide), hdx, opMod_of hd, q]
        · rw [List.length_append]
          exact hsub.trans (List.take_sublist_take_left (by simp)))
  refine ⟨wl, o8', o9', e, ?_, ?_, hw⟩
  · exact List.Nodup.sublist (hsub.trans (List.take_sublist _ _)) nd
  · have := hsub.length_le
    rw [List.length_map, List.length_take] at this
    omega
theorem bTuple_shw {o : Option SV} {xs : List PV} (h : o = some (.l xs) ∨ o = some (.v (.lst xs))) : shwO o = some (.lst xs) := by
  rcases h with rfl | rfl <;> rfl
theorem tree_out {n : Nat} {more : Int} {most : PV} (h1 : 1 ≤ n) (h6 : n ≤ 6) : ∃ (sk : List Sk) (o4 o5 o6 o7 o8 o9 : Option SV), sForL (.tp [4, 5]) b__law_tree_2 ((NM.take n).zipIdx.map fun p => .tup [.int (p.2 : Nat), .str p.1]) [some (.v (.int more)), some (.v most), some (.v (.lst ((NM.take n).map PV.str))), some (.l []), none, none, none, none, none, none, none, none] =
    .nx [some (.v (.int more)), some (.v most), some (.v (.lst ((NM.take n).map PV.str))), some (.l (sk.map eS)), o4, o5, o6, o7, o8, o9, none, none] ∧ Gs (NM.take n) sk ∧ sk.length = n := by
  have hN : (NM.take n).length = n := by rw [List.length_take]; simp [NM]; omega
  have nd : (NM.take n).Nodup := List.Nodup.sublist (List.take_sublist _ _) NM_nodup
  generalize NM.take n = ns at *
  obtain ⟨ω2, e, sk, o4, o5, o6, o7, o8, o9, rfl, g, hl⟩ := sForL_pre (pt := .tp [4, 5]) (b := b__law_tree_2) (fun p : Str × Nat => .tup [.int (p.2 : Nat), .str p.1]) (fun pre ω => ∃ (sk : List Sk) (o4 o5 o6 o7 o8 o9 : Option SV), ω = [some (.v (.int more)), some (.v most), some (.v (.lst (ns.map PV.str))), some (.l (sk.map eS)), o4, o5, o6, o7, o8, o9, none, none] ∧ Gs ns sk ∧ sk.length = pre.length)
    ns.zipIdx ns.zipIdx [] [some (.v (.int more)), some (.v most), some (.v (.lst (ns.map PV.str))), some (.l []), none, none, none, none, none, none, none, none] rfl ⟨[], none, none, none, none, none, none, rfl, Gs.nil _, rfl⟩
    (fun pre p post ω ep ⟨sk, o4, o5, o6, o7, o8, o9, eo, g, hl⟩ => by
      subst eo
      obtain ⟨hp1, hp2, hp3⟩ := zipIdx_pre (l := []) ep
      have hj : p.2 = sk.length := by omega
      have hsl : sk.length < ns.length := by omega
      generalize hhere : drawnZ more p.2 = here
      have hdj : f__law_drawn [.int more, .int (p.2 : Nat)] = .ok (.int here) := by rw [drawn_ok, hhere]
      obtain ⟨wl, o8', o9', e, wnd, wln, hw⟩ := tree_in (more := more) (here := here) (o1 := some (.v most)) (o4 := some (.v (.int (p.2 : Nat)))) (o5 := some (.v (.str p.1))) (o10 := none) (o11 := none) g hsl (by omega) nd (o8 := o8) (o9 := o9)
      have ha : 0 ≤ here / 16 % 3 ∧ here / 16 % 3 < 3 := ⟨Int.emod_nonneg _ (by decide), Int.emod_lt_of_pos _ (by decide)⟩
      have hb : 0 ≤ here / 64 % 9 ∧ here / 64 % 9 < 9 := ⟨Int.emod_nonneg _ (by decide), Int.emod_lt_of_pos _ (by decide)⟩
      obtain ⟨a, ea⟩ : ∃ a : Nat, here / 16 % 3 = (a : Int) := ⟨(here / 16 % 3).toNat, by omega⟩
      obtain ⟨b, eb⟩ : ∃ b : Nat, here / 64 % 9 = (b : Int) := ⟨(here / 64 % 9).toNat, by omega⟩
      -- the wants, as they stand or turned
      obtain ⟨wl', o7', ho7, wnd', hw', estep⟩ : ∃ (wl' : List (Str × Nat)) (o7' : Option SV), (o7' = some (.l (wl'.map eW)) ∨ o7' = some (.v (.lst (wl'.map eW)))) ∧ (wl'.map (·.1)).Nodup ∧
          (∀ w ∈ wl', ∃ (m : Nat) (s' : Sk), sk[m]? = some s' ∧ s'.nm = w.1 ∧ 1 ≤ w.2 ∧ w.2 ≤ s'.mx) ∧
          (sIf (eTru (eBin opEq (eBin opMod (eBin opDiv (eV 6) (eC (.int 8))) (eC (.int 2))) (eC (.int 0)))) (sAsg [7] false (eRev (eV 7)) 7) sSkip) [some (.v (.int more)), some (.v most), some (.v (.lst (ns.map PV.str))), some (.l (sk.map eS)), some (.v (.int (p.2 : Nat))), some (.v (.str p.1)), some (.v (.int here)), some (.l (wl.map eW)), o8', o9', none, none] =
            .nx [some (.v (.int more)), some (.v most), some (.v (.lst (ns.map PV.str))), some (.l (sk.map eS)), some (.v (.int (p.2 : Nat))), some (.v (.str p.1)), some (.v (.int here)), o7', o8', o9', none, none] := by
        by_cases q : here / 8 % 2 = 0
        · refine ⟨wl.reverse, some (.v (.lst (wl.reverse.map eW))), .inr rfl, ?_, fun w m => hw w (List.mem_reverse.mp m), ?_⟩
          · rw [List.map_reverse]
            exact (List.reverse_perm _).symm.nodup wnd
          · simp [opDiv_of (j := 8) (by decide) (by decide), opMod_of (j := 2) (by decide), q]
        · refine ⟨wl, some (.l (wl.map eW)), .inl rfl, wnd, hw, ?_⟩
          simp [opDiv_of (j := 8) (by decide) (by decide), opMod_of (j := 2) (by decide), q]
      let s : Sk := ⟨p.1, 1 + a, 1 + b, wl'⟩
      refine ⟨_, [some (.v (.int more)), some (.v most), some (.v (.lst (ns.map PV.str))), some (.l ((sk ++ [s]).map eS)), some (.v (.int (p.2 : Nat))), some (.v (.str p.1)), some (.v (.int here)), o7', o8', o9', none, none], rfl, ?_, sk ++ [s], _, _, _, _, _, _, rfl, ?_, ?_⟩
      · unfold b__law_tree_2
        have hr : iRange [.int (p.2 : Nat)] = .ok ((List.range sk.length).map eN) := by rw [iRange_nat _ (by omega), hj]
        simp only [sSeq_ap, sAsg_ap, ev_hid, frz_nil, setS, List.map_cons, List.map_nil, List.set_cons_zero, List.set_cons_succ, hid_cons, hid_nil, hidO_v, hidO_l, eCall_ap, aCons_ap, aNil_ap, eV_ap, List.getElem?_cons_zero, List.getElem?_cons_succ, Res.bind_ok, hdj, SR.of_ok, SR.bind_nx, sNew_ap, evF_hid, eLst_ap, mkLst_nil, newSV_l, sFor_ap, fRange_ap, hr, e, estep]
        rw [sApp_go (xs := sk.map eS) (p := eS s) (by simp) ?_ (by rw [List.length_map]; omega)]
        · simp
        · refine ev_vis ?_ (keepOk_f (hasL_eS s) (hasD_eS s))
          simp [bTuple_shw ho7, opDiv_of (j := 16) (by decide) (by decide), opDiv_of (j := 64) (by decide) (by decide), opMod_of (j := 3) (by decide), opMod_of (j := 9) (by decide), ea, eb]
          simp [eS, s]
      · exact g.snoc (by show ns[sk.length]? = some p.1; rw [← hj]; exact hp3) ⟨by show 1 ≤ 1 + a; omega, by show 1 + a ≤ 3; omega⟩ ⟨by show 1 ≤ 1 + b; omega, by show 1 + b ≤ 9; omega⟩ wnd' hw'
      · simp [hl])
  exact ⟨sk, o4, o5, o6, o7, o8, o9, e, g, by rw [hl, List.length_zipIdx, hN]⟩
theorem sort2 : ∀ x ∈ NM, ∀ y ∈ NM, x ≠ y → ((sortS [x, y] = [x, y] ∧ x.cps.toList < y.cps.toList) ∨ (sortS [x, y] = [y, x] ∧ y.cps.toList < x.cps.toList)) := by decide +kernel
theorem sort2e (x : Str) : sortS [x, x] = [x, x] := by simp [sortS, insS, sLt_irrefl]
theorem tree_locks {n m : Nat} {more : Int} {most : PV} {o3 o5 o6 o7 o8 o9 o11 o4 : Option SV} (h1 : 1 ≤ n) (h6 : n ≤ 6) (hm : m ≤ 2) : ∃ (lk : List (Str × Str)) (o4' o6' o11' : Option SV), sForL (.nm 4) b__law_tree_3 ((List.range m).map eN) [some (.v (.int more)), some (.v most), some (.v (.lst ((NM.take n).map PV.str))), o3, o4, o5, o6, o7, o8, o9, some (.l []), o11] =
    .nx [some (.v (.int more)), some (.v most), some (.v (.lst ((NM.take n).map PV.str))), o3, o4', o5, o6', o7, o8, o9, some (.l (lk.map eL)), o11'] ∧ Gl (NM.take n) lk ∧ lk.length ≤ 4 := by
  have hN : (NM.take n).length = n := by rw [List.length_take]; simp [NM]; omega
  have hsub : ∀ x ∈ NM.take n, x ∈ NM := fun x m => take_sub m
  generalize NM.take n = ns at *
  obtain ⟨ω2, e, lk, o4', o6', o11', rfl, g, hl⟩ := sForL_pre (pt := .nm 4) (b := b__law_tree_3) eN (fun pre ω => ∃ (lk : List (Str × Str)) (o4 o6 o11 : Option SV), ω = [some (.v (.int more)), some (.v most), some (.v (.lst (ns.map PV.str))), o3, o4, o5, o6, o7, o8, o9, some (.l (lk.map eL)), o11] ∧ Gl ns lk ∧ lk.length ≤ pre.length)
    (List.range m) (List.range m) [] [some (.v (.int more)), some (.v most), some (.v (.lst (ns.map PV.str))), o3, o4, o5, o6, o7, o8, o9, some (.l []), o11] rfl ⟨[], _, _, _, rfl, ⟨fun _ m => (by cases m), fun _ m => (by cases m), List.nodup_nil⟩, by simp⟩
    (fun pre j post ω ep ⟨lk, o4, o6, o11, eo, g, hl⟩ => by
      subst eo
      have hpl : pre.length < 2 := by
        have := congrArg List.length ep
        simp at this
        omega
      generalize hhere : drawnZ more (50 + j) = here
      have hdj : f__law_drawn [.int more, .int (50 + (j : Int))] = .ok (.int here) := by rw [drawn_ok, hhere]
      have heN : opAdd (.int 50) (eN j) = .ok (.int (50 + (j : Int))) := rfl
      have hix : ∀ z : Int, ∃ x ∈ ns, opMod (.int z) (.int (ns.length : Nat)) = .ok (.int (z % (ns.length : Nat))) ∧ opIx (.lst (ns.map PV.str)) (.int (z % (ns.length : Nat))) = .ok (.str x) := fun z => by
        have h : 0 ≤ z % (ns.length : Nat) ∧ z % (ns.length : Nat) < (ns.length : Nat) := ⟨Int.emod_nonneg _ (by omega), Int.emod_lt_of_pos _ (by omega)⟩
        obtain ⟨k, hk⟩ : ∃ k : Nat, z % (ns.length : Nat) = (k : Int) := ⟨(z % (ns.length : Nat)).toNat, by omega⟩
        have hkl : k < ns.length := by omega
        refine ⟨ns[k], List.getElem_mem hkl, opMod_of (by omega), ?_⟩
        rw [hk]
        exact opIx_ln _ k _ (by rw [List.getElem?_map, List.getElem?_eq_getElem hkl]; rfl)
      obtain ⟨x, mx, x1, x2⟩ := hix (here / 8)
      obtain ⟨y, my, y1, y2⟩ := hix (here / 64)
      have hlen : bLen [.lst (ns.map PV.str)] = .ok (.int (ns.length : Nat)) := by simp
      have hsrt : bSorted [.lst [.str x, .str y]] = .ok (.lst ((sortS [x, y]).map PV.str)) := by simp [bSorted, strsOf]
      by_cases q : x = y
      · subst q
        rw [sort2e] at hsrt
        refine ⟨_, [some (.v (.int more)), some (.v most), some (.v (.lst (ns.map PV.str))), o3, some (.v (eN j)), o5, some (.v (.int here)), o7, o8, o9, some (.l (lk.map eL)), some (.v (.tup [.str x, .str x]))], rfl, ?_, lk, _, _, _, rfl, g, by simp; omega⟩
        unfold b__law_tree_3
        simp [heN, hdj, opDiv_of (j := 8) (by decide) (by decide), opDiv_of (j := 64) (by decide) (by decide), hlen, x1, x2, y1, y2, hsrt]
      · obtain ⟨a, b, es, hab, ma, mb⟩ : ∃ a b, sortS [x, y] = [a, b] ∧ a.cps.toList < b.cps.toList ∧ a ∈ ns ∧ b ∈ ns := by
          rcases sort2 x (hsub x mx) y (hsub y my) q with ⟨h1, h2⟩ | ⟨h1, h2⟩
          · exact ⟨x, y, h1, h2, mx, my⟩
          · exact ⟨y, x, h1, h2, my, mx⟩
        have hne : ¬ a = b := fun e => by
          subst e
          exact List.lt_irrefl _ hab
        rw [es] at hsrt
        by_cases hin : (a, b) ∈ lk
        · refine ⟨_, [some (.v (.int more)), some (.v most), some (.v (.lst (ns.map PV.str))), o3, some (.v (eN j)), o5, some (.v (.int here)), o7, o8, o9, some (.l (lk.map eL)), some (.v (eL (a, b)))], rfl, ?_, lk, _, _, _, rfl, g, by simp; omega⟩
          have hop := opIn_encs gd_eL eL_inj Fl_eL (by omega) true (a, b) lk
          simp [hin] at hop
          unfold b__law_tree_3
          simp [heN, hdj, opDiv_of (j := 8) (by decide) (by decide), opDiv_of (j := 64) (by decide) (by decide), hlen, x1, x2, y1, y2, hsrt, hne, show PV.tup [.str a, .str b] = eL (a, b) from rfl, hop, show opIx (eL (a, b)) (.int 0) = .ok (.str a) from rfl, show opIx (eL (a, b)) (.int 1) = .ok (.str b) from rfl]
        · refine ⟨_, [some (.v (.int more)), some (.v most), some (.v (.lst (ns.map PV.str))), o3, some (.v (eN j)), o5, some (.v (.int here)), o7, o8, o9, some (.l ((lk ++ [(a, b)]).map eL)), some (.v (eL (a, b)))], rfl, ?_, lk ++ [(a, b)], _, _, _, rfl, ?_, by simp; omega⟩
          · have hop := opIn_encs gd_eL eL_inj Fl_eL (by omega) true (a, b) lk
            simp [hin] at hop
            unfold b__law_tree_3
            simp [heN, hdj, opDiv_of (j := 8) (by decide) (by decide), opDiv_of (j := 64) (by decide) (by decide), hlen, x1, x2, y1, y2, hsrt, hne, show PV.tup [.str a, .str b] = eL (a, b) from rfl, hop, show opIx (eL (a, b)) (.int 0) = .ok (.str a) from rfl, show opIx (eL (a, b)) (.int 1) = .ok (.str b) from rfl]
            rw [sApp_go (xs := lk.map eL) (p := eL (a, b)) (by simp) (by simp) (by rw [List.length_map]; omega)]
            simp
          · refine ⟨?_, ?_, ?_⟩
            · intro l m
              rcases List.mem_append.mp m with m | m
              · exact g.inn l m
              · simp at m; subst m; exact ⟨ma, mb⟩
            · intro l m
              rcases List.mem_append.mp m with m | m
              · exact g.lt l m
              · simp at m; subst m; exact hab
            · rw [List.nodup_append]
              refine ⟨g.nd, by simp, fun p mp r mr e => ?_⟩
              simp at mr
              subst mr
              subst e
              exact hin mp)
  exact ⟨lk, o4', o6', o11', e, g, by simp at hl; omega⟩
theorem tree_ok (more : Int) (most : Nat) (h1 : 1 ≤ most) (h6 : most ≤ 6) : ∃ t, f__law_tree [.int more, .int most] = .ok (eT t) ∧ Vt t := by
  have ha : 0 ≤ more % (most : Int) ∧ more % (most : Int) < (most : Int) := ⟨Int.emod_nonneg _ (by omega), Int.emod_lt_of_pos _ (by omega)⟩
  obtain ⟨a, ea⟩ : ∃ a : Nat, more % (most : Int) = (a : Int) := ⟨(more % (most : Int)).toNat, by omega⟩
  have n1 : 1 ≤ 1 + a := by omega
  have n6 : 1 + a ≤ 6 := by omega
  have hN : (NM.take (1 + a)).length = 1 + a := by rw [List.length_take]; simp [NM]; omega
  obtain ⟨sk, o4, o5, o6, o7, o8, o9, e, g, hl⟩ := tree_out (n := 1 + a) (more := more) (most := .int most) n1 n6
  -- the skills, as they stand or turned
  obtain ⟨sk', o3', ho3, hv, estep⟩ : ∃ (sk' : List Sk) (o3' : Option SV), (o3' = some (.l (sk'.map eS)) ∨ o3' = some (.v (.lst (sk'.map eS)))) ∧ (∀ lk, Gl (NM.take (1 + a)) lk → lk.length ≤ 4 → Vt ⟨sk', lk⟩) ∧
      (sIf (eTru (eBin opEq (eBin opMod (eBin opDiv (eV 0) (eC (.int 32))) (eC (.int 2))) (eC (.int 0)))) (sAsg [3] false (eRev (eV 3)) 3) sSkip) [some (.v (.int more)), some (.v (.int most)), some (.v (.lst ((NM.take (1 + a)).map PV.str))), some (.l (sk.map eS)), o4, o5, o6, o7, o8, o9, none, none] =
        .nx [some (.v (.int more)), some (.v (.int most)), some (.v (.lst ((NM.take (1 + a)).map PV.str))), o3', o4, o5, o6, o7, o8, o9, none, none] := by
    by_cases q : more / 32 % 2 = 0
    · refine ⟨sk.reverse, some (.v (.lst (sk.reverse.map eS))), .inr rfl, fun lk gl l4 => (Gs.vt n1 n6 g hl gl l4).rev, ?_⟩
      simp [opDiv_of (j := 32) (by decide) (by decide), opMod_of (j := 2) (by decide), q]
    · refine ⟨sk, some (.l (sk.map eS)), .inl rfl, fun lk gl l4 => Gs.vt n1 n6 g hl gl l4, ?_⟩
      simp [opDiv_of (j := 32) (by decide) (by decide), opMod_of (j := 2) (by decide), q]
  -- how many locks are drawn
  obtain ⟨m, hm, em⟩ : ∃ m : Nat, m ≤ 2 ∧ ∀ ρ : Rho, ρ[2]? = some (some (.lst ((NM.take (1 + a)).map PV.str))) → ρ[0]? = some (some (.int more)) → eIf (eTru (eBin opGt (eCall bLen (aCons (eV 2) aNil)) (eC (.int 2)))) (eBin opMod (eBin opDiv (eV 0) (eC (.int 64))) (eC (.int 3))) (eC (.int 0)) ρ = .ok (.int m) := by
    have hb : 0 ≤ more / 64 % 3 ∧ more / 64 % 3 < 3 := ⟨Int.emod_nonneg _ (by decide), Int.emod_lt_of_pos _ (by decide)⟩
    obtain ⟨b, eb⟩ : ∃ b : Nat, more / 64 % 3 = (b : Int) := ⟨(more / 64 % 3).toNat, by omega⟩
    by_cases q : 2 < 1 + a
    · refine ⟨b, by omega, fun ρ hρ h0 => ?_⟩
      have q' : (2 : Int) < ((NM.take (1 + a)).length : Nat) := by rw [hN]; omega
      rw [List.length_take] at q'
      simp [hρ, h0, opDiv_of (j := 64) (by decide) (by decide), opMod_of (j := 3) (by decide), eb]
      intro h
      omega
    · refine ⟨0, by omega, fun ρ hρ h0 => ?_⟩
      have q' : ¬ (2 : Int) < ((NM.take (1 + a)).length : Nat) := by rw [hN]; omega
      rw [List.length_take] at q'
      simp [hρ, h0, opDiv_of (j := 64) (by decide) (by decide), opMod_of (j := 3) (by decide), eb]
      intro h
      omega
  obtain ⟨lk, o4', o6', o11', el, gl, l4⟩ := tree_locks (n := 1 + a) (m := m) (more := more) (most := .int most) (o3 := o3') (o4 := o4) (o5 := o5) (o6 := o6) (o7 := o7) (o8 := o8) (o9 := o9) (o11 := none) n1 n6 hm
  refine ⟨⟨sk', lk⟩, ?_, hv lk gl l4⟩
  show endR (m__law_tree [some (.v (.int more)), some (.v (.int most)), none, none, none, none, none, none, none, none, none, none]) = _
  unfold m__law_tree
  have hnames : (eSl (eLst (aCons (eC (.str "b")) (aCons (eC (.str "axe")) (aCons (eC (.str "c")) (aCons (eC (.str "zap")) (aCons (eC (.str "dd")) (aCons (eC (.str "e")) aNil))))))) sNone (sPart (eBin opAdd (eC (.int 1)) (eBin opMod (eV 0) (eV 1))))) [some (.int more), some (.int most), none, none, none, none, none, none, none, none, none, none] = .ok (.lst ((NM.take (1 + a)).map PV.str)) := by
    have hmk : mkLst [.str "b", .str "axe", .str "c", .str "zap", .str "dd", .str "e"] = .ok (.lst (NM.map PV.str)) := rfl
    have hc : cut (NM.map PV.str) none (some ((1 + a : Nat) : Int)) = (NM.take (1 + a)).map PV.str := by rw [cut_to, List.map_take]
    simp [hmk, opMod_of (show (0 : Int) < most by omega), ea]
    rw [show (1 + (a : Int)) = ((1 + a : Nat) : Int) by omega, hc]
    simp
  have hen : iEnumP [.lst ((NM.take (1 + a)).map PV.str)] = .ok ((NM.take (1 + a)).zipIdx.map fun p => .tup [.int (p.2 : Nat), .str p.1]) := by
    simp only [iEnumP, seqPV]
    rw [enumP_map]
  have hr : iRange [.int (m : Nat)] = .ok ((List.range m).map eN) := iRange_nat _ (by omega)
  rw [sSeq_ap, sAsg_ap, ev_hid]
  simp only [frz_nil, hid_cons, hid_nil, hidO_v, hidO_n, hnames, SR.of_ok, SR.bind_nx, List.set_cons_zero, List.set_cons_succ, sSeq_ap, sNew_ap, evF_hid, eLst_ap, aNil_ap, Res.bind_ok, mkLst_nil, newSV_l, sFor_ap, fEnum_ap, aCons_ap, eV_ap, List.getElem?_cons_zero, List.getElem?_cons_succ, hen, e, estep]
  rw [fRange_ap, aCons_ap, em _ (by simp) (by simp)]
  simp only [Res.bind_ok, aNil_ap, hr, SR.of_ok, el, SR.bind_nx, sRet_ap, eTup_ap, aCons_ap, eCall_ap, eV_ap, shw_cons, shw_nil, shwO_v, shwO_l, bTuple_shw ho3, List.getElem?_cons_zero, List.getElem?_cons_succ, bTuple_lst, mkTup_2, endR_rt]
  rfl
end Pv.LW
end
section
set_option linter.all false
set_option maxRecDepth 100000
namespace Pv.LW
open PySem Pv
/-! ### levels by names -/
def LeB (b c : List Nat) : Prop := ∀ i, b.getD i 0 ≤ c.getD i 0
theorem LeB.refl (b : List Nat) : LeB b b := fun _ => Nat.le_refl _
theorem LeB.trans {a b c : List Nat} (h : LeB a b) (k : LeB b c) : LeB a c := fun i => Nat.le_trans (h i) (k i)
theorem LeB.tail {x y : Nat} {b c : List Nat} (h : LeB (x :: b) (y :: c)) : x ≤ y ∧ LeB b c := ⟨by simpa using h 0, fun i => by simpa using h (i + 1)⟩
theorem lv_cons (n : Str) (ns : List Str) (x : Nat) (b : List Nat) (y : Str) : lv (n :: ns) (x :: b) y = if n = y then x else lv ns b y := by
  unfold lv
  rw [lk?]
  split <;> rfl
theorem lv_le {x : Str} : ∀ {ns : List Str} {b c : List Nat}, ns.length = b.length → ns.length = c.length → LeB b c → lv ns b x ≤ lv ns c x
  | [], b, c, _, _, _ => by cases b <;> cases c <;> simp [lv, lk?]
  | n :: ns, [], _, h, _, _ => by simp at h
  | n :: ns, _ :: _, [], _, h, _ => by simp at h
  | n :: ns, a :: b, a' :: c, h1, h2, h => by
    obtain ⟨q1, q2⟩ := h.tail
    rw [lv_cons, lv_cons]
    split
    · exact q1
    · exact lv_le (by simpa using h1) (by simpa using h2) q2
theorem le_of_lv : ∀ {ns : List Str} {b c : List Nat}, ns.Nodup → ns.length = b.length → ns.length = c.length → (∀ x ∈ ns, lv ns b x ≤ lv ns c x) → LeB b c
  | [], [], [], _, _, _, _ => LeB.refl _
  | [], _ :: _, _, _, h, _, _ => by simp at h
  | [], [], _ :: _, _, _, h, _ => by simp at h
  | n :: ns, [], _, _, h, _, _ => by simp at h
  | n :: ns, _ :: _, [], _, _, h, _ => by simp at h
  | n :: ns, a :: b, a' :: c, nd, h1, h2, h => by
    rw [List.nodup_cons] at nd
    have h0 := h n List.mem_cons_self
    rw [lv_cons, lv_cons, if_pos rfl, if_pos rfl] at h0
    have ih := le_of_lv (ns := ns) (b := b) (c := c) nd.2 (by simpa using h1) (by simpa using h2) fun x m => by
      have := h x (List.mem_cons_of_mem _ m)
      have hne : ¬ n = x := fun e => nd.1 (e ▸ m)
      rwa [lv_cons, lv_cons, if_neg hne, if_neg hne] at this
    intro i
    cases i with
    | zero => simpa using h0
    | succ i => simpa using ih i
theorem lv_setZ (x y : Str) : ∀ (ns : List Str) (b : List Nat), lv ns (setZ ns b x) y = if y = x then 0 else lv ns b y
  | [], b => by cases b <;> simp [lv, lk?, setZ]
  | n :: ns, [] => by simp [lv, lk?, setZ]
  | n :: ns, a :: b => by
    have ih := lv_setZ x y ns b
    simp only [setZ]
    rw [lv_cons, lv_cons, ih]
    by_cases e : n = y
    · subst e
      by_cases e2 : n = x <;> simp [e2]
    · simp [e]
theorem setZ_le (x : Str) : ∀ (ns : List Str) (b : List Nat), LeB (setZ ns b x) b
  | [], b => by cases b <;> exact LeB.refl _
  | n :: ns, [] => LeB.refl _
  | n :: ns, a :: b => by
    have ih := setZ_le x ns b
    intro i
    cases i with
    | zero => simp only [setZ]; split <;> simp
    | succ i => simpa [setZ] using ih i
theorem setl_le {t : Tr} : ∀ (n : Nat) (b : List Nat), LeB (setlT t n b) b
  | 0, b => LeB.refl _
  | n + 1, b => by
    unfold setlT
    split
    · exact LeB.refl _
    · exact (setl_le n _).trans (setZ_le _ _ _)
theorem step_holds {t : Tr} (w : Wf t) (b : List Nat) : stepT t b = none ↔ holdsT t b = true := by
  unfold stepT holdsT
  rw [Bool.and_eq_true, List.all_eq_true, List.isEmpty_iff]
  have hbad : badT t b = [] ↔ ∀ x ∈ t.ns, (decide (lv t.ns b x = 0) || (lackT t b x).isEmpty) = true := by
    unfold badT
    rw [List.filter_eq_nil_iff]
    refine forall_congr' fun x => imp_congr_right fun m => ?_
    cases (lackT t b x).isEmpty <;> simp <;> omega
  constructor
  · intro h
    split at h
    · cases h
    · rename_i e
      split at h
      · cases h
      · rename_i e2
        exact ⟨e2, hbad.mp e⟩
  · rintro ⟨h1, h2⟩
    rw [hbad.mpr h2, h1]
theorem setl_hold {t : Tr} (w : Wf t) {b : List Nat} (h : holdsT t b = true) : ∀ n, setlT t n b = b
  | 0 => rfl
  | n + 1 => by
    unfold setlT
    rw [(step_holds w b).mpr h]
theorem levT_le {t : Tr} {b c : List Nat} (hb : t.ns.length = b.length) (hc : t.ns.length = c.length) (h : LeB b c) (l : levT t c = true) : levT t b = true := by
  rw [levT_iff hb]
  intro i s e
  exact Nat.le_trans (h i) ((levT_iff hc).mp l i s e)
theorem start_lev (old new : Tr) (b : List Nat) : levT new (startT old new b) = true := by
  rw [levT_iff (startT_len old new b)]
  intro i s e
  unfold startT
  rw [List.getD_eq_getElem?_getD, List.getElem?_map, e]
  simp
  exact Nat.min_le_left _ _
theorem Bd.led {old new : Tr} (vn : Vt new) (b : List Nat) : Bd new (ledT old new b) := by
  have hl := startT_len old new b
  have h6 : (startT old new b).length ≤ 6 := by have := vn.hi; simp [startT]; omega
  refine ⟨ledT_len old new b, ?_, ?_⟩
  · exact levT_le (ledT_len old new b) hl (setl_le _ _) (start_lev old new b)
  · exact (step_holds vn.toWf _).mp (settled_none vn.toWf hl h6)
theorem start_same {old new : Tr} (nd : new.ns.Nodup) (hn : new.ns = old.ns) {b : List Nat} (h : new.ns.length = b.length) (l : levT new b = true) : startT old new b = b := by
  have h1 := lv_map nd h
  have hbl : b.length = new.sk.length := by rw [← h]; simp [Tr.ns]
  unfold startT
  rw [← hn]
  conv => rhs; rw [← h1, Tr.ns, List.map_map]
  refine List.map_congr_left fun s m => ?_
  obtain ⟨i, hi⟩ := List.getElem?_of_mem m
  have h2 := (levT_iff h).mp l i s hi
  have h3 : b.getD i 0 = lv new.ns b s.nm := by
    have e : (new.ns.map (lv new.ns b))[i]? = some (lv new.ns b s.nm) := by
      rw [List.getElem?_map, Tr.ns, List.getElem?_map, hi]
      rfl
    rw [h1] at e
    rw [List.getD_eq_getElem?_getD, e]
    rfl
  show min s.mx (lv new.ns b s.nm) = lv new.ns b s.nm
  rw [← h3]
  omega
theorem led_same {old new : Tr} (vn : Vt new) (hn : new.ns = old.ns) {b : List Nat} (h : Bd new b) : ledT old new b = b := by
  unfold ledT
  rw [start_same vn.nd hn h.len h.lev]
  exact setl_hold vn.toWf h.hol 12
/-! ### without locks -/
def freeT (t : Tr) : Tr := ⟨t.sk, []⟩
theorem Vt.free {t : Tr} (v : Vt t) : Vt (freeT t) := ⟨⟨v.nd, v.ws, fun l m => by cases m⟩, v.lo, v.hi, v.nm, v.mx, v.pr, v.wnd, v.wlv, v.rk, fun l m => (by cases m), List.nodup_nil, by simp [freeT]⟩
theorem Bd.free {t : Tr} {b : List Nat} (h : Bd t b) : Bd (freeT t) b := ⟨h.len, h.lev, by
  have := h.hol
  unfold holdsT at *
  rw [Bool.and_eq_true] at *
  exact ⟨rfl, this.2⟩⟩
/-- what is a build below stays below -/
theorem setl_great {t : Tr} (w : Wf t) (hf : t.lk = []) {x : List Nat} (hx : t.ns.length = x.length) (hh : holdsT t x = true) : ∀ (n : Nat) (b : List Nat), t.ns.length = b.length → LeB x b → LeB x (setlT t n b)
  | 0, b, _, h => h
  | n + 1, b, hb, h => by
    unfold setlT
    split
    · exact h
    · rename_i y e
      refine setl_great w hf hx hh n _ (by rw [setZ_len]; exact hb) ?_
      refine le_of_lv w.nd hx (by rw [setZ_len]; exact hb) fun z mz => ?_
      rw [lv_setZ]
      split
      · rename_i ez
        subst ez
        unfold stepT at e
        split at e
        · rename_i y' ys eb
          cases e
          have m : z ∈ badT t b := by rw [eb]; simp
          obtain ⟨m1, m2⟩ := List.mem_filter.mp m
          simp only [Bool.and_eq_true, decide_eq_true_eq, Bool.not_eq_true', List.isEmpty_eq_false_iff] at m2
          obtain ⟨wt, mw⟩ := List.exists_mem_of_ne_nil _ m2.2
          unfold lackT at mw
          obtain ⟨w1, w2⟩ := List.mem_filter.mp mw
          simp only [decide_eq_true_eq] at w2
          unfold holdsT at hh
          rw [Bool.and_eq_true, List.all_eq_true] at hh
          have := hh.2 z mz
          simp only [Bool.or_eq_true, decide_eq_true_eq, List.isEmpty_iff] at this
          rcases this with q | q
          · omega
          · exfalso
            have hin : wt ∈ lackT t x z := by
              unfold lackT
              refine List.mem_filter.mpr ⟨w1, ?_⟩
              simp only [decide_eq_true_eq]
              exact Nat.lt_of_le_of_lt (lv_le hx hb h) w2
            rw [q] at hin
            cases hin
        · split at e
          · rename_i l ls ec
            have : l ∈ clashT t b := by rw [ec]; simp
            unfold clashT at this
            rw [hf] at this
            cases this
          · cases e
      · exact lv_le hx hb h
theorem led_mono {old new : Tr} (vo : Vt old) (vn : Vt new) (hf : new.lk = []) {b c : List Nat} (hb : old.ns.length = b.length) (hc : old.ns.length = c.length) (h : LeB b c) : LeB (ledT old new b) (ledT old new c) := by
  have B := Bd.led (old := old) vn b
  refine setl_great vn.toWf hf B.len B.hol 12 _ (startT_len old new c) ?_
  refine (setl_le 12 _).trans ?_
  intro i
  unfold startT
  rw [List.getD_eq_getElem?_getD, List.getD_eq_getElem?_getD, List.getElem?_map, List.getElem?_map]
  cases new.sk[i]? with
  | none => exact Nat.le_refl _
  | some s =>
    have := lv_le (x := s.nm) hb hc h
    simp
    omega
/-! ### the same costs -/
theorem thin_cost (k : Str → Str × Nat → Bool) (t : Tr) (b : List Nat) : costT (thin k t) b = costT t b := by
  unfold costT thin
  rw [List.zip_map_right]
  simp [thinS]
  rfl
theorem thin_lev (k : Str → Str × Nat → Bool) (t : Tr) (b : List Nat) : levT (thin k t) b = levT t b := by
  unfold levT thin
  rw [List.zip_map_right, List.all_map]
  rfl
theorem Bd.thin {t : Tr} {b : List Nat} (h : Bd t b) (k : Str → Str × Nat → Bool) : Bd (LW.thin k t) b := ⟨by rw [thin_ns]; exact h.len, by rw [thin_lev]; exact h.lev, thin_holds h.hol⟩
/-! ### more of == -/
theorem opNe_T (a b : Tr) : opNe (eT a) (eT b) = .ok (.bl (!decide (a = b))) := by
  rw [opNe_of ((Fl_eT a).ok (by omega)) ((Fl_eT b).ok (by omega)), peq_enc gd_eT eT_inj]
theorem opNe_B (a b : List Nat) : opNe (eB a) (eB b) = .ok (.bl (!decide (a = b))) := by
  rw [opNe_of ((Fl_eB a).ok (by omega)) ((Fl_eB b).ok (by omega)), peq_enc gd_eB eB_inj]
theorem opEq_B (a b : List Nat) : opEq (eB a) (eB b) = .ok (.bl (decide (a = b))) := by
  rw [opEq_of ((Fl_eB a).ok (by omega)) ((Fl_eB b).ok (by omega)), peq_enc gd_eB eB_inj]
theorem opNe_strs (xs ys : List Str) : opNe (.lst (xs.map PV.str)) (.lst (ys.map PV.str)) = .ok (.bl (!decide (xs = ys))) := by
  rw [opNe_of ((Fl_strs xs).ok (by omega)) ((Fl_strs ys).ok (by omega)), peq_encs (f := PV.str) (fun _ => rfl) (fun a b e => by simpa using e)]
theorem strsOf_map : ∀ xs : List Str, strsOf (xs.map PV.str) = some xs
  | [] => rfl
  | x :: xs => by simp [strsOf, strsOf_map xs]
theorem bSorted_strs {xs : List Str} (h : xs.length < 64) : bSorted [.lst (xs.map PV.str)] = .ok (.lst ((sortS xs).map PV.str)) := by
  simp [bSorted, strsOf_map, h]
theorem sortSet_strs {xs : List Str} (nd : xs.Nodup) (h : xs.length < 64) : sortSetPV (.lst (xs.map PV.str)) = .ok (.lst ((sortS xs).map PV.str)) := by
  unfold sortSetPV
  simp only [seqPV, strsOf_map]
  rw [if_pos h, dd_id nd]
end Pv.LW
end
section
set_option linter.all false
set_option maxRecDepth 100000
namespace Pv.LW
open PySem Pv
/-! ### a level set -/
def setV : List Str → List Nat → Str → Nat → List Nat
  | n :: ns, b :: bs, x, v => (if n = x then v else b) :: setV ns bs x v
  | _, bs, _, _ => bs
theorem setV_len (x : Str) (v : Nat) : ∀ (ns : List Str) (b : List Nat), (setV ns b x v).length = b.length
  | [], b => by cases b <;> rfl
  | n :: ns, [] => rfl
  | n :: ns, b :: bs => by simp [setV, setV_len x v ns bs]
theorem dSetV_eD (x : Str) (v : Nat) : ∀ (ns : List Str) (b : List Nat), dSet (ns.map Sum.inr) (b.map eN) (Sum.inr x : L2.Key) (.int v) = (setV ns b x v).map eN
  | [], b => by cases b <;> rfl
  | n :: ns, [] => rfl
  | n :: ns, b :: bs => by
    simp only [List.map_cons, dSet, setV]
    by_cases e : n = x
    · subst e; simp [dSetV_eD n v ns bs, eN]
    · rw [if_neg (fun z => e (Sum.inr.inj z)), if_neg e, dSetV_eD x v ns bs]
theorem dPutV_eD {ns : List Str} {b : List Nat} {x : Str} {v : Nat} (m : x ∈ ns) : dPut (ns.map Sum.inr) (b.map eN) (Sum.inr x : L2.Key) (.int v) = (ns.map Sum.inr, (setV ns b x v).map eN) := by
  unfold dPut
  rw [if_pos, dSetV_eD]
  simp
  exact m
theorem setV_out {x : Str} {v : Nat} : ∀ (ns : List Str) (b : List Nat), x ∉ ns → setV ns b x v = b
  | [], b, _ => by cases b <;> rfl
  | c :: cs, [], _ => rfl
  | c :: cs, b :: bs, hm => by
    simp only [List.mem_cons, not_or] at hm
    have hc : ¬ c = x := fun z => hm.1 z.symm
    simp only [setV, if_neg hc, setV_out cs bs hm.2]
theorem lv_setV {x y : Str} {v : Nat} : ∀ {ns : List Str} {b : List Nat}, ns.length = b.length → x ∈ ns → lv ns (setV ns b x v) y = if y = x then v else lv ns b y
  | [], b, _, m => by cases m
  | n :: ns, [], h, _ => by simp at h
  | n :: ns, a :: b, h, m => by
    simp only [setV]
    rw [lv_cons, lv_cons]
    by_cases e : n = y
    · subst e
      by_cases e2 : n = x <;> simp [e2]
    · rw [if_neg e, if_neg e]
      by_cases e2 : x ∈ ns
      · exact lv_setV (by simpa using h) e2
      · have ex : n = x := ((List.mem_cons.mp m).resolve_right e2).symm
        have hy : ¬ y = x := fun z => e (ex.trans z.symm)
        rw [if_neg hy]
        rw [setV_out ns b e2]
theorem setV_sum {x : Str} {v : Nat} : ∀ {ns : List Str} {b : List Nat}, ns.Nodup → ns.length = b.length → x ∈ ns → (setV ns b x v).sum + lv ns b x = b.sum + v
  | [], b, _, _, m => by cases m
  | n :: ns, [], _, h, _ => by simp at h
  | n :: ns, a :: b, nd, h, m => by
    rw [List.nodup_cons] at nd
    simp only [setV, List.sum_cons]
    rw [lv_cons]
    by_cases e : n = x
    · subst e
      rw [setV_out ns b nd.1]
      simp
      omega
    · have := setV_sum (v := v) nd.2 (by simpa using h) ((List.mem_cons.mp m).resolve_left fun z => e z.symm)
      simp [e]
      omega
theorem sum_le : ∀ {b c : List Nat}, b.length = c.length → LeB b c → b.sum ≤ c.sum
  | [], [], _, _ => Nat.le_refl _
  | [], _ :: _, h, _ => by simp at h
  | _ :: _, [], h, _ => by simp at h
  | x :: b, y :: c, h, l => by
    obtain ⟨h1, h2⟩ := l.tail
    have := sum_le (b := b) (c := c) (by simpa using h) h2
    simp
    omega
theorem LeB.antisymm : ∀ {b c : List Nat}, b.length = c.length → LeB b c → LeB c b → b = c
  | [], [], _, _, _ => rfl
  | [], _ :: _, h, _, _ => by simp at h
  | _ :: _, [], h, _, _ => by simp at h
  | x :: b, y :: c, h, l, l' => by
    obtain ⟨h1, h2⟩ := l.tail
    obtain ⟨h3, h4⟩ := l'.tail
    rw [LeB.antisymm (by simpa using h) h2 h4, Nat.le_antisymm h1 h3]
/-! ### grown -/
/-- all wants are met -/
def Clo (t : Tr) (b : List Nat) : Prop := ∀ s ∈ t.sk, 0 < lv t.ns b s.nm → ∀ w ∈ s.ws, w.2 ≤ lv t.ns b w.1
def gAct (t : Tr) (b : List Nat) (p : Str × Str × Nat) : Bool := decide (0 < lv t.ns b p.1) && decide (lv t.ns b p.2.1 < p.2.2)
def gStep (t : Tr) (a : List Nat × Bool) (p : Str × Str × Nat) : List Nat × Bool := if gAct t a.1 p = true then (setV t.ns a.1 p.2.1 p.2.2, true) else a
def gPairs (t : Tr) : List (Str × Str × Nat) := t.sk.flatMap fun s => s.ws.map fun w => (s.nm, w)
def gPass (t : Tr) (b : List Nat) : List Nat × Bool := (gPairs t).foldl (gStep t) (b, false)
theorem gStep_len {t : Tr} {a : List Nat × Bool} {p : Str × Str × Nat} : (gStep t a p).1.length = a.1.length := by
  unfold gStep
  split
  · exact setV_len ..
  · rfl
theorem gFold_len {t : Tr} : ∀ (ps : List (Str × Str × Nat)) (a : List Nat × Bool), (ps.foldl (gStep t) a).1.length = a.1.length
  | [], _ => rfl
  | p :: ps, a => by rw [List.foldl_cons, gFold_len ps, gStep_len]
/-- the state of a pass -/
def gSt (t : Tr) (L : PV) (b : List Nat) (f : Bool) (o4 o5 o6 o7 o8 o9 : Option SV) : Om := [some (.v (eT t)), some (.v L), some (.d (t.ns.map Sum.inr) (b.map eN)), some (.v (.bl f)), o4, o5, o6, o7, o8, o9]
theorem grown_in {t : Tr} (w : Wf t) {s : Sk} (ms : s ∈ t.sk) {L : PV} {b : List Nat} {f : Bool} (h : t.ns.length = b.length) (h6 : b.length ≤ 6) (o5 o6 o7 o8 o9 : Option SV) : ∃ o8' o9', sForL (.tp [8, 9]) b_grown_1 (s.ws.map eW) (gSt t L b f (some (.v (.str s.nm))) o5 o6 o7 o8 o9) =
    .nx (gSt t L ((s.ws.map fun w => (s.nm, w)).foldl (gStep t) (b, f)).1 ((s.ws.map fun w => (s.nm, w)).foldl (gStep t) (b, f)).2 (some (.v (.str s.nm))) o5 o6 o7 o8' o9') := by
  obtain ⟨ω2, e, o8', o9', rfl⟩ := sForL_pre (pt := .tp [8, 9]) (b := b_grown_1) eW (fun pre ω => ∃ o8 o9, ω = gSt t L ((pre.map fun w => (s.nm, w)).foldl (gStep t) (b, f)).1 ((pre.map fun w => (s.nm, w)).foldl (gStep t) (b, f)).2 (some (.v (.str s.nm))) o5 o6 o7 o8 o9)
    s.ws s.ws [] (gSt t L b f (some (.v (.str s.nm))) o5 o6 o7 o8 o9) rfl ⟨o8, o9, rfl⟩
    (fun pre wt post ω ep ⟨o8, o9, eo⟩ => by
      subst eo
      have mw : wt ∈ s.ws := by rw [← ep]; simp
      have mn : s.nm ∈ t.ns := List.mem_map.mpr ⟨s, ms, rfl⟩
      have m1 := w.ws s ms wt mw
      refine ⟨_, gSt t L (((pre ++ [wt]).map fun w => (s.nm, w)).foldl (gStep t) (b, f)).1 (((pre ++ [wt]).map fun w => (s.nm, w)).foldl (gStep t) (b, f)).2 (some (.v (.str s.nm))) o5 o6 o7 (some (.v (.str wt.1))) (some (.v (.int wt.2))), rfl, ?_, _, _, rfl⟩
      rw [List.map_append, List.foldl_append]
      have hl : t.ns.length = ((pre.map fun w => (s.nm, w)).foldl (gStep t) (b, f)).1.length := by rw [gFold_len]; exact h
      generalize (pre.map fun w => (s.nm, w)).foldl (gStep t) (b, f) = a at *
      obtain ⟨c, g⟩ := a
      have hc6 : c.length ≤ 6 := by
        have : t.ns.length = c.length := hl
        omega
      have hD : PV.dK (t.ns.map Sum.inr) (c.map eN) = eD t.ns c := rfl
      unfold b_grown_1
      simp [setS, gSt, hD, opIx_eD hl mn, opIx_eD hl m1]
      by_cases q1 : 0 < lv t.ns c s.nm
      · by_cases q2 : lv t.ns c wt.1 < wt.2
        · have ga : gAct t c (s.nm, wt) = true := by simp [gAct, q1, q2]
          have ga' : gAct t c (s.nm, wt.1, wt.2) = true := ga
          simp [q1, q2]
          rw [sPut_d (ks := t.ns.map Sum.inr) (vs := c.map eN) (p := .int wt.2) (q := .str wt.1) (k := Sum.inr wt.1) (by simp) (by simp) (by simp) rfl (by rw [List.length_map]; omega), dPutV_eD m1]
          simp [gStep, ga']
        · have ga : gAct t c (s.nm, wt.1, wt.2) = false := by simp [gAct, q2]
          simp [q1, q2, gStep, ga]
      · have ga : gAct t c (s.nm, wt.1, wt.2) = false := by simp [gAct, q1]
        simp [q1, gStep, ga])
  exact ⟨o8', o9', e⟩
theorem grown_pass {t : Tr} (w : Wf t) {L : PV} {b : List Nat} {f : Bool} (h : t.ns.length = b.length) (h6 : b.length ≤ 6) (o4 o5 o6 o7 o8 o9 : Option SV) : ∃ o4' o5' o6' o7' o8' o9', b_grown_3 (gSt t L b f o4 o5 o6 o7 o8 o9) = .nx (gSt t L (gPass t b).1 (gPass t b).2 o4' o5' o6' o7' o8' o9') := by
  obtain ⟨ω2, e, o4', o5', o6', o7', o8', o9', rfl⟩ := sForL_pre (pt := .tp [4, 5, 6, 7]) (b := b_grown_2) eS (fun pre ω => ∃ o4 o5 o6 o7 o8 o9, ω = gSt t L ((pre.flatMap fun s => s.ws.map fun w => (s.nm, w)).foldl (gStep t) (b, false)).1 ((pre.flatMap fun s => s.ws.map fun w => (s.nm, w)).foldl (gStep t) (b, false)).2 o4 o5 o6 o7 o8 o9)
    t.sk t.sk [] (gSt t L b false o4 o5 o6 o7 o8 o9) rfl ⟨o4, o5, o6, o7, o8, o9, rfl⟩
    (fun pre s post ω ep ⟨o4, o5, o6, o7, o8, o9, eo⟩ => by
      subst eo
      have ms : s ∈ t.sk := by rw [← ep]; simp
      have hl : t.ns.length = ((pre.flatMap fun s => s.ws.map fun w => (s.nm, w)).foldl (gStep t) (b, false)).1.length := by rw [gFold_len]; exact h
      obtain ⟨p8, p9, e⟩ := grown_in w ms (L := L) (b := ((pre.flatMap fun s => s.ws.map fun w => (s.nm, w)).foldl (gStep t) (b, false)).1) (f := ((pre.flatMap fun s => s.ws.map fun w => (s.nm, w)).foldl (gStep t) (b, false)).2) hl (by omega) (some (.v (.int s.mx))) (some (.v (.int s.pr))) (some (.v (.tup (s.ws.map eW)))) o8 o9
      refine ⟨_, gSt t L (((pre ++ [s]).flatMap fun s => s.ws.map fun w => (s.nm, w)).foldl (gStep t) (b, false)).1 (((pre ++ [s]).flatMap fun s => s.ws.map fun w => (s.nm, w)).foldl (gStep t) (b, false)).2 (some (.v (.str s.nm))) (some (.v (.int s.mx))) (some (.v (.int s.pr))) (some (.v (.tup (s.ws.map eW)))) p8 p9, rfl, ?_, _, _, _, _, _, _, rfl⟩
      rw [List.flatMap_append, List.foldl_append]
      unfold b_grown_2
      simp [setS, gSt]
      simp [gSt] at e
      exact e)
  refine ⟨o4', o5', o6', o7', o8', o9', ?_⟩
  unfold b_grown_3
  simp [gSt, h0T]
  simp [gSt] at e
  rw [e]
  rfl
/-- the mosts -/
def mosts (t : Tr) : List Nat := t.sk.map (·.mx)
theorem mosts_len (t : Tr) : t.ns.length = (mosts t).length := by simp [mosts, Tr.ns]
theorem lev_mosts {t : Tr} {b : List Nat} (h : t.ns.length = b.length) : levT t b = true ↔ LeB b (mosts t) := by
  rw [levT_iff h]
  constructor
  · intro hz i
    unfold mosts
    rw [List.getD_eq_getElem?_getD (l := t.sk.map _), List.getElem?_map]
    cases e : t.sk[i]? with
    | none =>
      have hl : b.length = t.sk.length := by rw [← h]; simp [Tr.ns]
      have := List.getElem?_eq_none_iff.mp e
      rw [List.getD_eq_getElem?_getD, List.getElem?_eq_none (by omega)]
      exact Nat.zero_le _
    | some s => exact hz i s e
  · intro hz i s e
    have := hz i
    unfold mosts at this
    rw [List.getD_eq_getElem?_getD (l := t.sk.map _), List.getElem?_map, e] at this
    exact this
theorem lv_mosts {t : Tr} (nd : t.ns.Nodup) {s : Sk} (m : s ∈ t.sk) : lv t.ns (mosts t) s.nm = s.mx := lv_mx nd m
theorem mosts_clo {t : Tr} (v : Vt t) : Clo t (mosts t) := by
  intro s ms _ w mw
  obtain ⟨s', m', e, _, h⟩ := v.wlv s ms w mw
  rw [← e, lv_mosts v.nd m']
  exact h
/-- one step keeps below what is closed -/
theorem gStep_below {t : Tr} (w : Wf t) {x : List Nat} (hx : t.ns.length = x.length) (hc : Clo t x) {a : List Nat × Bool} (ha : t.ns.length = a.1.length) (hle : LeB a.1 x) {p : Str × Str × Nat} (hp : p ∈ gPairs t) : LeB (gStep t a p).1 x := by
  unfold gStep
  split
  · rename_i q
    unfold gAct at q
    simp only [Bool.and_eq_true, decide_eq_true_eq] at q
    unfold gPairs at hp
    rw [List.mem_flatMap] at hp
    obtain ⟨s, ms, hp⟩ := hp
    obtain ⟨wt, mw, rfl⟩ := List.mem_map.mp hp
    have m1 := w.ws s ms wt mw
    refine le_of_lv w.nd (by rw [setV_len]; exact ha) hx fun y my => ?_
    rw [lv_setV ha m1]
    split
    · rename_i e
      subst e
      have h1 : 0 < lv t.ns x s.nm := Nat.lt_of_lt_of_le q.1 (lv_le ha hx hle)
      exact hc s ms h1 wt mw
    · exact lv_le ha hx hle
  · exact hle
theorem gFold_below {t : Tr} (w : Wf t) {x : List Nat} (hx : t.ns.length = x.length) (hc : Clo t x) : ∀ (ps : List (Str × Str × Nat)) (a : List Nat × Bool), (∀ p ∈ ps, p ∈ gPairs t) → t.ns.length = a.1.length → LeB a.1 x → LeB (ps.foldl (gStep t) a).1 x
  | [], _, _, _, h => h
  | p :: ps, a, hp, ha, h => by
    rw [List.foldl_cons]
    exact gFold_below w hx hc ps _ (fun q m => hp q (List.mem_cons_of_mem _ m)) (by rw [gStep_len]; exact ha) (gStep_below w hx hc ha h (hp p List.mem_cons_self))
theorem setV_ge {t : Tr} (nd : t.ns.Nodup) {b : List Nat} (hb : t.ns.length = b.length) {x : Str} {v : Nat} (m : x ∈ t.ns) (h : lv t.ns b x < v) : LeB b (setV t.ns b x v) := by
  refine le_of_lv nd hb (by rw [setV_len]; exact hb) fun y my => ?_
  rw [lv_setV hb m]
  split
  · rename_i e; subst e; omega
  · exact Nat.le_refl _
/-- a pass goes up; if nothing was wanted, all is met -/
theorem gFold_up {t : Tr} (w : Wf t) : ∀ (ps : List (Str × Str × Nat)) (a : List Nat × Bool), (∀ p ∈ ps, p.2.1 ∈ t.ns) → t.ns.length = a.1.length → LeB a.1 (ps.foldl (gStep t) a).1 ∧ ((ps.foldl (gStep t) a).2 = false → a.2 = false ∧ (ps.foldl (gStep t) a).1 = a.1 ∧ ∀ p ∈ ps, gAct t a.1 p = false) ∧
      ((ps.foldl (gStep t) a).2 = true → a.2 = true ∨ a.1.sum < (ps.foldl (gStep t) a).1.sum)
  | [], a, _, _ => ⟨LeB.refl _, fun h => ⟨h, rfl, fun p m => by cases m⟩, fun h => .inl h⟩
  | p :: ps, a, hp, ha => by
    rw [List.foldl_cons]
    obtain ⟨h1, h2, h3⟩ := gFold_up w ps (gStep t a p) (fun q m => hp q (List.mem_cons_of_mem _ m)) (by rw [gStep_len]; exact ha)
    have hl2 : (ps.foldl (gStep t) (gStep t a p)).1.length = (gStep t a p).1.length := gFold_len ps _
    by_cases q : gAct t a.1 p = true
    · have eg : gStep t a p = (setV t.ns a.1 p.2.1 p.2.2, true) := if_pos q
      have m1 := hp p List.mem_cons_self
      have q2 : lv t.ns a.1 p.2.1 < p.2.2 := by
        unfold gAct at q
        simp only [Bool.and_eq_true, decide_eq_true_eq] at q
        exact q.2
      have up := setV_ge w.nd ha m1 q2
      have hs := setV_sum (v := p.2.2) w.nd ha m1
      have hle := sum_le hl2.symm h1
      rw [eg] at h1 h2 h3 hle ⊢
      refine ⟨up.trans h1, fun hf => absurd (h2 hf).1 (by simp), fun _ => .inr ?_⟩
      have : (setV t.ns a.1 p.2.1 p.2.2).sum ≤ (ps.foldl (gStep t) (setV t.ns a.1 p.2.1 p.2.2, true)).1.sum := hle
      omega
    · have eg : gStep t a p = a := if_neg q
      rw [eg] at h1 h2 h3 ⊢
      refine ⟨h1, fun hf => ?_, h3⟩
      obtain ⟨k1, k2, k3⟩ := h2 hf
      refine ⟨k1, k2, fun r m => ?_⟩
      rcases List.mem_cons.mp m with e | m
      · subst e; simpa using q
      · exact k3 r m
theorem gPairs_in {t : Tr} (w : Wf t) : ∀ p ∈ gPairs t, p.2.1 ∈ t.ns := by
  intro p hp
  unfold gPairs at hp
  rw [List.mem_flatMap] at hp
  obtain ⟨s, ms, hp⟩ := hp
  obtain ⟨wt, mw, rfl⟩ := List.mem_map.mp hp
  exact w.ws s ms wt mw
/-- c: the least above b that is closed -/
structure Clos (t : Tr) (b c : List Nat) : Prop where
  len : t.ns.length = c.length
  up : LeB b c
  clo : Clo t c
  low : ∀ x, t.ns.length = x.length → Clo t x → LeB b x → LeB c x
theorem Clos.uniq {t : Tr} {b c d : List Nat} (h : Clos t b c) (k : Clos t b d) : c = d := LeB.antisymm (by rw [← h.len, ← k.len]) (h.low d k.len k.clo k.up) (k.low c h.len h.clo h.up)
theorem grown_loop {t : Tr} (v : Vt t) {L : PV} : ∀ (n : Nat) (b : List Nat) (o4 o5 o6 o7 o8 o9 : Option SV), t.ns.length = b.length → LeB b (mosts t) → (mosts t).sum - b.sum + 1 < n →
    ∃ c o4' o5' o6' o7' o8' o9', sWhl (eTru (eV 3)) b_grown_3 n (gSt t L b true o4 o5 o6 o7 o8 o9) = .nx (gSt t L c false o4' o5' o6' o7' o8' o9') ∧ Clos t b c
  | 0, _, _, _, _, _, _, _, _, _, h => by omega
  | n + 1, b, o4, o5, o6, o7, o8, o9, h, hm, hn => by
    have h6 : b.length ≤ 6 := by
      have := v.hi
      have h2 : t.ns.length = t.sk.length := by simp [Tr.ns]
      omega
    obtain ⟨p4, p5, p6, p7, p8, p9, e⟩ := grown_pass v.toWf (L := L) (f := true) h h6 o4 o5 o6 o7 o8 o9
    obtain ⟨k1, k2, k3⟩ := gFold_up v.toWf (gPairs t) (b, false) (gPairs_in v.toWf) h
    have hl : t.ns.length = (gPass t b).1.length := by unfold gPass; rw [gFold_len]; exact h
    have below : ∀ x, t.ns.length = x.length → Clo t x → LeB b x → LeB (gPass t b).1 x := fun x hx hc hb => gFold_below v.toWf hx hc (gPairs t) (b, false) (fun _ m => m) h hb
    have hm' := below _ (mosts_len t) (mosts_clo v) hm
    have hs : (gPass t b).1.sum ≤ (mosts t).sum := sum_le (by rw [← hl, ← mosts_len]) hm'
    rw [sWhl]
    have ht : evT (eTru (eV 3)) (gSt t L b true o4 o5 o6 o7 o8 o9) = .ok true := by simp [evT, gSt]
    rw [ht]
    simp only [SR.of_ok, if_true, e]
    cases q : (gPass t b).2 with
    | true =>
      have hlt : b.sum < (gPass t b).1.sum := by
        rcases k3 q with z | z
        · cases z
        · exact z
      obtain ⟨c, r4, r5, r6, r7, r8, r9, e2, hc⟩ := grown_loop v (L := L) n (gPass t b).1 p4 p5 p6 p7 p8 p9 hl hm' (by omega)
      exact ⟨c, r4, r5, r6, r7, r8, r9, e2, hc.len, k1.trans hc.up, hc.clo, fun x hx hcx hb => hc.low x hx hcx (below x hx hcx hb)⟩
    | false =>
      obtain ⟨_, f2, f3⟩ := k2 q
      have ec : (gPass t b).1 = b := f2
      refine ⟨b, p4, p5, p6, p7, p8, p9, ?_, h, LeB.refl _, ?_, fun x _ _ hb => hb⟩
      · rw [ec]
        cases n with
        | zero => omega
        | succ n =>
          rw [sWhl]
          have ht : evT (eTru (eV 3)) (gSt t L b false p4 p5 p6 p7 p8 p9) = .ok false := by simp [evT, gSt]
          rw [ht]
          rfl
      · intro s ms hp w mw
        have := f3 (s.nm, w) (by
          unfold gPairs
          rw [List.mem_flatMap]
          exact ⟨s, ms, List.mem_map.mpr ⟨w, mw, rfl⟩⟩)
        unfold gAct at this
        simp only [Bool.and_eq_false_iff, decide_eq_false_iff_not] at this
        rcases this with z | z
        · exact absurd hp z
        · exact Nat.le_of_not_lt z
theorem mosts_sum {t : Tr} (v : Vt t) : (mosts t).sum ≤ 18 := by
  have h : ∀ l : List Sk, (∀ s ∈ l, s.mx ≤ 3) → (l.map (·.mx)).sum ≤ 3 * l.length := by
    intro l
    induction l with
    | nil => intro _; simp
    | cons a l ih =>
      intro h
      have h1 := h a List.mem_cons_self
      have h2 := ih fun s m => h s (List.mem_cons_of_mem _ m)
      simp
      omega
  have h1 := h t.sk fun s m => (v.mx s m).2
  have h2 := v.hi
  unfold mosts
  omega
theorem grown_ok {t : Tr} (v : Vt t) {b : List Nat} (h : t.ns.length = b.length) (hm : LeB b (mosts t)) : ∃ c, f_grown [eT t, eD t.ns b] = .ok (eD t.ns c) ∧ Clos t b c := by
  have hs := mosts_sum v
  obtain ⟨c, o4, o5, o6, o7, o8, o9, e, hc⟩ := grown_loop v (L := eD t.ns b) 40 b none none none none none none h hm (by omega)
  refine ⟨c, ?_, hc⟩
  show endR (m_grown [some (.v (eT t)), some (.v (eD t.ns b)), none, none, none, none, none, none, none, none]) = _
  unfold m_grown
  simp [gSt] at e
  simp [eD, bDict, keyVals]
  simp [eD] at e
  rw [e]
  simp [eD]
end Pv.LW
end
section
set_option linter.all false
set_option maxRecDepth 100000
namespace Pv.LW
open PySem Pv
@[simp] theorem isi_ll (xs : List PV) : isiPV "list" (.lst xs) = true := rfl
theorem holds_iff {t : Tr} (w : Wf t) (b : List Nat) : holdsT t b = true ↔ clashT t b = [] ∧ Clo t b := by
  unfold holdsT
  rw [Bool.and_eq_true, List.isEmpty_iff, List.all_eq_true]
  refine and_congr_right fun _ => ⟨fun h s ms hp wt mw => ?_, fun h x mx => ?_⟩
  · have := h s.nm (List.mem_map.mpr ⟨s, ms, rfl⟩)
    simp only [Bool.or_eq_true, decide_eq_true_eq, List.isEmpty_iff] at this
    rcases this with z | z
    · omega
    · unfold lackT wantsT at z
      rw [get_mem w.nd ms] at z
      simp only [Option.map_some, Option.getD_some, List.filter_eq_nil_iff, decide_eq_true_eq, Nat.not_lt] at z
      exact z wt mw
  · obtain ⟨s, ms, rfl⟩ := List.mem_map.mp mx
    by_cases q : lv t.ns b s.nm = 0
    · simp [q]
    · have hz : lackT t b s.nm = [] := by
        unfold lackT wantsT
        rw [get_mem w.nd ms]
        simp only [Option.map_some, Option.getD_some, List.filter_eq_nil_iff, decide_eq_true_eq, Nat.not_lt]
        exact fun wt mw => h s ms (by omega) wt mw
      simp [hz]
theorem need_name_ok {t : Tr} {x : Str} (m : x ∈ t.ns) : f_need_name [eT t, .str x] = .ok .non := by
  show endR (m_need_name [some (.v (eT t)), some (.v (.str x))]) = _
  have hop := opIn_encs (f := PV.str) (fun _ => rfl) (fun a b e => by simpa using e) Fl_str (by omega) true x t.ns
  simp [m] at hop
  simp [m_need_name, names_of_ok, hop]
/-! ### goals -/
structure Goals (t : Tr) (gs : List (Str × Nat)) : Prop where
  nd : (gs.map (·.1)).Nodup
  ok : ∀ g ∈ gs, ∃ s ∈ t.sk, s.nm = g.1 ∧ 1 ≤ g.2 ∧ g.2 ≤ s.mx
theorem Goals.mem {t : Tr} {gs : List (Str × Nat)} (h : Goals t gs) {g : Str × Nat} (m : g ∈ gs) : g.1 ∈ t.ns := by
  obtain ⟨s, ms, e, _⟩ := h.ok g m
  exact List.mem_map.mpr ⟨s, ms, e⟩
theorem Goals.len {t : Tr} {gs : List (Str × Nat)} (h : Goals t gs) : gs.length ≤ t.sk.length := by
  have : (gs.map (·.1)).length ≤ t.ns.length := List.Nodup.length_le_of_subset h.nd fun x mx => by
    obtain ⟨g, mg, rfl⟩ := List.mem_map.mp mx
    exact h.mem mg
  simpa [Tr.ns] using this
theorem need_goals_ok {t : Tr} (v : Vt t) {gs : List (Str × Nat)} (h : Goals t gs) : f_need_goals [eT t, .lst (gs.map eW)] = .ok .non := by
  obtain ⟨ω2, e, o2, o3, o4, rfl⟩ := sForL_pre (pt := .nm 2) (b := b_need_goals_1) eW (fun _ ω => ∃ o2 o3 o4, ω = [some (.v (eT t)), some (.v (.lst (gs.map eW))), o2, o3, o4]) gs gs [] [some (.v (eT t)), some (.v (.lst (gs.map eW))), none, none, none] rfl ⟨none, none, none, rfl⟩
    (fun pre g post ω ep ⟨o2, o3, o4, eo⟩ => by
      subst eo
      have mg : g ∈ gs := by rw [← ep]; simp
      obtain ⟨s, ms, en, h1, h2⟩ := h.ok g mg
      refine ⟨_, [some (.v (eT t)), some (.v (.lst (gs.map eW))), some (.v (eW g)), some (.v (.int s.mx)), o4], rfl, ?_, _, _, _, rfl⟩
      have g0 : opIx (eW g) (.int 0) = .ok (.str g.1) := by simp [eW]
      have g1 : opIx (eW g) (.int 1) = .ok (.int g.2) := by simp [eW]
      have gl : bLen [eW g] = .ok (.int 2) := by simp [eW]
      have gi : isiPV "tuple" (eW g) = true := rfl
      have gd' : isDT (eW g) = false := rfl
      have hf : lcRun (.nm 4) (eTru (eBin opEq (eBin opIx (eV 4) (eC (.int 0))) (eBin opIx (eV 2) (eC (.int 0))))) (eBin opIx (eV 4) (eC (.int 1))) [some (eT t), some (.lst (gs.map eW)), some (eW g), hidO o3, none] (t.sk.map eS) = .ok [.int s.mx] := by
        rw [lcRun_ok (enc := eS) (c := fun z => decide (z.nm = s.nm)) (g := fun z => .int z.mx)]
        · rw [filter_nm v.nd ms]; rfl
        · intro z _
          exact ⟨_, rfl, by simp [h0S, g0, en], fun _ => by simp [h1S]⟩
      have hc : f_is_count [.int g.2, .int 1, .int s.mx] = .ok (.bl true) := by
        rw [is_count_int]
        have c1 : decide ((1 : Int) ≤ g.2) = true := by simp; omega
        have c2 : decide ((g.2 : Int) ≤ s.mx) = true := by simp; omega
        rw [c1, c2]
        rfl
      unfold b_need_goals_1
      simp [g0, g1, gl, gi, gd', need_name_ok (h.mem mg), h0T, hf, hc])
  show endR (m_need_goals [some (.v (eT t)), some (.v (.lst (gs.map eW))), none, none, none]) = _
  unfold m_need_goals
  have hlen := h.len
  have h6 := v.hi
  have hk := lenSet_keys h.nd (by simp; omega)
  simp [e]
  rw [lcRun_ok1 (enc := eW) (g := fun g => .str g.1)]
  · simp [Function.comp_def] at hk ⊢
    simp [hk]
  · intro g _
    exact ⟨_, rfl, by simp [eW]⟩
def zerosT (t : Tr) : List Nat := List.replicate t.sk.length 0
def goalB (t : Tr) (gs : List (Str × Nat)) : List Nat := gs.foldl (fun b g => setV t.ns b g.1 g.2) (zerosT t)
theorem zerosT_len (t : Tr) : t.ns.length = (zerosT t).length := by simp [zerosT, Tr.ns]
theorem goalF_len {t : Tr} : ∀ (gs : List (Str × Nat)) (b : List Nat), (gs.foldl (fun b g => setV t.ns b g.1 g.2) b).length = b.length
  | [], _ => rfl
  | g :: gs, b => by rw [List.foldl_cons, goalF_len gs, setV_len]
theorem goalB_len (t : Tr) (gs : List (Str × Nat)) : t.ns.length = (goalB t gs).length := by unfold goalB; rw [goalF_len]; exact zerosT_len t
theorem goalF_lv {t : Tr} {y : Str} : ∀ (gs : List (Str × Nat)) (b : List Nat), t.ns.length = b.length → (gs.map (·.1)).Nodup → (∀ g ∈ gs, g.1 ∈ t.ns) → lv t.ns (gs.foldl (fun b g => setV t.ns b g.1 g.2) b) y = match gs.find? (fun g => decide (g.1 = y)) with | some g => g.2 | none => lv t.ns b y
  | [], b, _, _, _ => rfl
  | g :: gs, b, hb, nd, hm => by
    rw [List.map_cons, List.nodup_cons] at nd
    rw [List.foldl_cons, goalF_lv gs _ (by rw [setV_len]; exact hb) nd.2 fun q m => hm q (List.mem_cons_of_mem _ m), List.find?_cons]
    by_cases e : g.1 = y
    · have hn : gs.find? (fun g => decide (g.1 = y)) = none := by
        rw [List.find?_eq_none]
        intro q mq
        simp only [decide_eq_true_eq]
        exact fun z => nd.1 (List.mem_map.mpr ⟨q, mq, z.trans e.symm⟩)
      rw [hn, decide_eq_true e]
      simp only []
      rw [lv_setV hb (hm g List.mem_cons_self), if_pos e.symm]
    · rw [decide_eq_false e]
      simp only []
      cases gs.find? (fun g => decide (g.1 = y)) with
      | some q => rfl
      | none =>
        simp only []
        rw [lv_setV hb (hm g List.mem_cons_self), if_neg fun z => e z.symm]
/-- above the goals -/
theorem goalB_le {t : Tr} (nd : t.ns.Nodup) {gs : List (Str × Nat)} (h : Goals t gs) {x : List Nat} (hx : t.ns.length = x.length) : LeB (goalB t gs) x ↔ ∀ g ∈ gs, g.2 ≤ lv t.ns x g.1 := by
  have hlv : ∀ y, lv t.ns (goalB t gs) y = match gs.find? (fun g => decide (g.1 = y)) with | some g => g.2 | none => 0 := fun y => by
    unfold goalB
    rw [goalF_lv gs _ (zerosT_len t) h.nd fun g m => h.mem m]
    cases gs.find? (fun g => decide (g.1 = y)) with
    | some g => rfl
    | none => exact lv_zero y _ _
  constructor
  · intro hle g mg
    have h1 := lv_le (x := g.1) (goalB_len t gs) hx hle
    rw [hlv] at h1
    have hf : gs.find? (fun q => decide (q.1 = g.1)) = some g := by
      have ndg := h.nd
      clear hlv h1 hle h
      induction gs with
      | nil => cases mg
      | cons a gs ih =>
        rw [List.map_cons, List.nodup_cons] at ndg
        rcases List.mem_cons.mp mg with e | m
        · subst e; simp
        · have : ¬ a.1 = g.1 := fun z => ndg.1 (List.mem_map.mpr ⟨g, m, z.symm⟩)
          rw [List.find?_cons, decide_eq_false this]
          exact ih m ndg.2
    rw [hf] at h1
    exact h1
  · intro hg
    refine le_of_lv nd (goalB_len t gs) hx fun y my => ?_
    rw [hlv]
    cases hf : gs.find? (fun g => decide (g.1 = y)) with
    | none => exact Nat.zero_le _
    | some g =>
      have e : g.1 = y := by simpa using List.find?_some hf
      have := hg g (List.mem_of_find?_eq_some hf)
      rw [e] at this
      exact this
theorem goalB_mosts {t : Tr} (nd : t.ns.Nodup) {gs : List (Str × Nat)} (h : Goals t gs) : LeB (goalB t gs) (mosts t) := by
  rw [goalB_le nd h (mosts_len t)]
  intro g mg
  obtain ⟨s, ms, e, _, h2⟩ := h.ok g mg
  rw [← e, lv_mosts nd ms]
  exact h2
theorem goal_levels_ok {t : Tr} (v : Vt t) {gs : List (Str × Nat)} (h : Goals t gs) : ∃ c, f_goal_levels [eT t, .lst (gs.map eW)] = .ok (eD t.ns c) ∧ Clos t (goalB t gs) c := by
  obtain ⟨c, ec, hc⟩ := grown_ok v (goalB_len t gs) (goalB_mosts v.nd h)
  refine ⟨c, ?_, hc⟩
  have h6 := v.hi
  have hnl : t.ns.length = t.sk.length := by simp [Tr.ns]
  obtain ⟨ω2, e, o3, o4, rfl⟩ := sForL_pre (pt := .tp [3, 4]) (b := b_goal_levels_1) eW (fun pre ω => ∃ o3 o4, ω = [some (.v (eT t)), some (.v (.lst (gs.map eW))), some (.d (t.ns.map Sum.inr) ((pre.foldl (fun b g => setV t.ns b g.1 g.2) (zerosT t)).map eN)), o3, o4])
    gs gs [] [some (.v (eT t)), some (.v (.lst (gs.map eW))), some (.d (t.ns.map Sum.inr) ((zerosT t).map eN)), none, none] rfl ⟨none, none, rfl⟩
    (fun pre g post ω ep ⟨o3, o4, eo⟩ => by
      subst eo
      have mg : g ∈ gs := by rw [← ep]; simp
      refine ⟨_, [some (.v (eT t)), some (.v (.lst (gs.map eW))), some (.d (t.ns.map Sum.inr) (((pre ++ [g]).foldl (fun b g => setV t.ns b g.1 g.2) (zerosT t)).map eN)), some (.v (.str g.1)), some (.v (.int g.2))], rfl, ?_, _, _, rfl⟩
      rw [List.foldl_append]
      have hl : (pre.foldl (fun b g => setV t.ns b g.1 g.2) (zerosT t)).length = t.ns.length := by rw [goalF_len, ← zerosT_len]
      generalize pre.foldl (fun b g => setV t.ns b g.1 g.2) (zerosT t) = b at *
      unfold b_goal_levels_1
      rw [sPut_d (ks := t.ns.map Sum.inr) (vs := b.map eN) (p := .int g.2) (q := .str g.1) (k := Sum.inr g.1) (by simp [setS]) (by simp [setS]) (by simp [setS]) rfl (by rw [List.length_map]; omega), dPutV_eD (h.mem mg)]
      simp [setS])
  show endR (m_goal_levels [some (.v (eT t)), some (.v (.lst (gs.map eW))), none, none, none]) = _
  unfold m_goal_levels
  have hlz := levels_of_ok v.nd (zerosT_len t)
  have hz : opMul (.tup [.int 0]) (.int (t.sk.length : Nat)) = .ok (eB (zerosT t)) := zeros_ok v.lo v.hi
  have ec' : f_grown [eT t, .dK (t.ns.map Sum.inr) ((goalB t gs).map eN)] = .ok (eD t.ns c) := ec
  unfold goalB at ec'
  simp [h0T, hz, hlz, show newSV (.ok (eD t.ns (zerosT t))) = .ok (.d (t.ns.map Sum.inr) ((zerosT t).map eN)) from rfl, e, ec']
theorem tuple_of {t : Tr} (nd : t.ns.Nodup) {c : List Nat} (h : t.ns.length = c.length) : (t.ns.map fun x => PV.int (lv t.ns c x)) = c.map eN := by
  have := lv_map nd h
  conv => rhs; rw [← this]
  rw [List.map_map]
  rfl
def leastV (t : Tr) (c : List Nat) : PV := if (clashT t c).isEmpty then eB c else .non
theorem least_ok {t : Tr} (v : Vt t) {gs : List (Str × Nat)} (h : Goals t gs) : ∃ c, f_least [eT t, .lst (gs.map eW)] = .ok (leastV t c) ∧ f_price [eT t, .lst (gs.map eW)] = .ok (if (clashT t c).isEmpty then .int (costT t c) else .non) ∧ f_barred_by [eT t, .lst (gs.map eW)] = .ok (.lst ((clashT t c).map eL)) ∧ Clos t (goalB t gs) c := by
  obtain ⟨c, ec, hc⟩ := goal_levels_ok v h
  have hl := hc.len
  have e1 : f_least [eT t, .lst (gs.map eW)] = .ok (leastV t c) := by
    show endR (m_least [some (.v (eT t)), some (.v (.lst (gs.map eW))), none, none]) = _
    unfold m_least
    simp [need_tree_ok v, need_goals_ok v h, ec, clashes_ok v.toWf hl]
    rw [opNe_nil' Fl_eL (by omega)]
    unfold leastV
    by_cases q : clashT t c = []
    · simp [q, names_of_ok]
      rw [lcRun_ok1 (enc := PV.str) (g := fun x => .int (lv t.ns c x))]
      · simp
        rw [tuple_of v.nd hl]
        rfl
      · intro x m
        exact ⟨_, rfl, by simp [opIx_eD hl m]⟩
    · simp [q]
  refine ⟨c, e1, ?_, ?_, hc⟩
  · show endR (m_price [some (.v (eT t)), some (.v (.lst (gs.map eW))), none]) = _
    unfold m_price
    simp [e1]
    unfold leastV
    by_cases q : clashT t c = []
    · simp [q, show opIs false (eB c) .non = .ok (.bl false) from rfl, cost_of_ok (fun s m => by have := v.pr s m; omega) hl]
    · simp [q, show opIs false .non .non = .ok (.bl true) from rfl]
  · show endR (m_barred_by [some (.v (eT t)), some (.v (.lst (gs.map eW)))]) = _
    unfold m_barred_by
    simp [need_tree_ok v, need_goals_ok v h, ec, clashes_ok v.toWf hl]
/-! ### met, joined -/
def minB (b c : List Nat) : List Nat := (b.zip c).map fun p => min p.1 p.2
def maxB (b c : List Nat) : List Nat := (b.zip c).map fun p => max p.1 p.2
theorem iZip_eB (x y : List Nat) : iZipP [eB x, eB y] = .ok ((x.zip y).map fun p => .tup [eN p.1, eN p.2]) := by
  unfold eB
  rw [iZip_tt, zipP_map]
theorem bMin1_2 (x y : Nat) : bMin1 [.tup [eN x, eN y]] = .ok (eN (min x y)) := by
  show Res.ok (PV.int (min (x : Int) (y : Int))) = _
  rw [show min (x : Int) (y : Int) = ((min x y : Nat) : Int) by omega]
  rfl
theorem bMax1_2 (x y : Nat) : bMax1 [.tup [eN x, eN y]] = .ok (eN (max x y)) := by
  show Res.ok (PV.int (max (x : Int) (y : Int))) = _
  rw [show max (x : Int) (y : Int) = ((max x y : Nat) : Int) by omega]
  rfl
theorem met_ok {t : Tr} (v : Vt t) {b c : List Nat} (hb : Bd t b) (hc : Bd t c) : f_met [eT t, eB b, eB c] = .ok (eB (minB b c)) := by
  show endR (m_met [some (.v (eT t)), some (.v (eB b)), some (.v (eB c)), none]) = _
  unfold m_met
  simp [need_build_ok v hb.len hb.lev hb.hol, need_build_ok v hc.len hc.lev hc.hol, iZip_eB]
  rw [lcRun_ok1 (enc := fun p : Nat × Nat => .tup [eN p.1, eN p.2]) (g := fun p => eN (min p.1 p.2))]
  · simp [eB, minB]
  · intro p _
    exact ⟨_, rfl, by simp [bMin1_2]⟩
theorem minB_len {b c : List Nat} (h : b.length = c.length) : (minB b c).length = b.length := by simp [minB]; omega
theorem maxB_len {b c : List Nat} (h : b.length = c.length) : (maxB b c).length = b.length := by simp [maxB]; omega
theorem joined_ok {t : Tr} (v : Vt t) {b c : List Nat} (hb : Bd t b) (hc : Bd t c) : f_joined [eT t, eB b, eB c] = .ok (if holdsT t (maxB b c) then eB (maxB b c) else .non) := by
  have hl : t.ns.length = (maxB b c).length := by rw [maxB_len (by rw [← hb.len, ← hc.len])]; exact hb.len
  show endR (m_joined [some (.v (eT t)), some (.v (eB b)), some (.v (eB c)), none, none]) = _
  unfold m_joined
  simp [need_build_ok v hb.len hb.lev hb.hol, need_build_ok v hc.len hc.lev hc.hol, iZip_eB]
  rw [lcRun_ok1 (enc := fun p : Nat × Nat => .tup [eN p.1, eN p.2]) (g := fun p => eN (max p.1 p.2))]
  · have : PV.tup ((b.zip c).map fun p => eN (max p.1 p.2)) = eB (maxB b c) := by simp [eB, maxB]
    simp [this, holds_ok v.toWf hl]
    cases holdsT t (maxB b c) <;> simp
  · intro p _
    exact ⟨_, rfl, by simp [bMax1_2]⟩
theorem lv_minB {x : Str} : ∀ {ns : List Str} {b c : List Nat}, ns.length = b.length → ns.length = c.length → lv ns (minB b c) x = min (lv ns b x) (lv ns c x)
  | [], b, c, _, _ => by cases b <;> cases c <;> simp [lv, lk?, minB]
  | n :: ns, [], _, h, _ => by simp at h
  | n :: ns, _ :: _, [], _, h => by simp at h
  | n :: ns, a :: b, a' :: c, h1, h2 => by
    have ih := lv_minB (x := x) (ns := ns) (b := b) (c := c) (by simpa using h1) (by simpa using h2)
    show lv (n :: ns) (min a a' :: minB b c) x = _
    rw [lv_cons, lv_cons, lv_cons, ih]
    split <;> rfl
theorem lv_maxB {x : Str} : ∀ {ns : List Str} {b c : List Nat}, ns.length = b.length → ns.length = c.length → lv ns (maxB b c) x = max (lv ns b x) (lv ns c x)
  | [], b, c, _, _ => by cases b <;> cases c <;> simp [lv, lk?, maxB]
  | n :: ns, [], _, h, _ => by simp at h
  | n :: ns, _ :: _, [], _, h => by simp at h
  | n :: ns, a :: b, a' :: c, h1, h2 => by
    have ih := lv_maxB (x := x) (ns := ns) (b := b) (c := c) (by simpa using h1) (by simpa using h2)
    show lv (n :: ns) (max a a' :: maxB b c) x = _
    rw [lv_cons, lv_cons, lv_cons, ih]
    split <;> rfl
theorem minB_get : ∀ {b c : List Nat}, b.length = c.length → ∀ i : Nat, (minB b c).getD i 0 = min (b.getD i 0) (c.getD i 0)
  | [], [], _, i => by simp [minB]
  | [], _ :: _, h, _ => by simp at h
  | _ :: _, [], h, _ => by simp at h
  | a :: b, a' :: c, h, 0 => rfl
  | a :: b, a' :: c, h, i + 1 => by
    have := minB_get (b := b) (c := c) (by simpa using h) i
    simpa [minB] using this
theorem maxB_get : ∀ {b c : List Nat}, b.length = c.length → ∀ i : Nat, (maxB b c).getD i 0 = max (b.getD i 0) (c.getD i 0)
  | [], [], _, i => by simp [maxB]
  | [], _ :: _, h, _ => by simp at h
  | _ :: _, [], h, _ => by simp at h
  | a :: b, a' :: c, h, 0 => rfl
  | a :: b, a' :: c, h, i + 1 => by
    have := maxB_get (b := b) (c := c) (by simpa using h) i
    simpa [maxB] using this
theorem Clo.min {t : Tr} {b c : List Nat} (hb : t.ns.length = b.length) (hc : t.ns.length = c.length) (kb : Clo t b) (kc : Clo t c) : Clo t (minB b c) := by
  intro s ms hp w mw
  rw [lv_minB hb hc] at hp ⊢
  have h1 := kb s ms (by omega) w mw
  have h2 := kc s ms (by omega) w mw
  omega
theorem Clo.max {t : Tr} {b c : List Nat} (hb : t.ns.length = b.length) (hc : t.ns.length = c.length) (kb : Clo t b) (kc : Clo t c) : Clo t (maxB b c) := by
  intro s ms hp w mw
  rw [lv_maxB hb hc] at hp ⊢
  by_cases q : 0 < lv t.ns b s.nm
  · have := kb s ms q w mw
    omega
  · have := kc s ms (by omega) w mw
    omega
theorem clash_le {t : Tr} {b c : List Nat} (hb : t.ns.length = b.length) (hc : t.ns.length = c.length) (h : LeB b c) (k : clashT t c = []) : clashT t b = [] := by
  unfold clashT at *
  rw [List.filter_eq_nil_iff] at *
  intro l ml hl
  simp only [Bool.and_eq_true, decide_eq_true_eq] at hl
  refine k l ml ?_
  simp only [Bool.and_eq_true, decide_eq_true_eq]
  exact ⟨Nat.lt_of_lt_of_le hl.1 (lv_le hb hc h), Nat.lt_of_lt_of_le hl.2 (lv_le hb hc h)⟩
theorem Bd.min {t : Tr} (w : Wf t) {b c : List Nat} (hb : Bd t b) (hc : Bd t c) : Bd t (minB b c) := by
  have e : b.length = c.length := by rw [← hb.len, ← hc.len]
  have hl : t.ns.length = (minB b c).length := by rw [minB_len e]; exact hb.len
  have hle : LeB (minB b c) b := fun i => by rw [minB_get e]; exact Nat.min_le_left _ _
  refine ⟨hl, levT_le hl hb.len hle hb.lev, (holds_iff w _).mpr ⟨clash_le hl hb.len hle ((holds_iff w b).mp hb.hol).1, ?_⟩⟩
  exact Clo.min hb.len hc.len ((holds_iff w b).mp hb.hol).2 ((holds_iff w c).mp hc.hol).2
theorem lev_max {t : Tr} {b c : List Nat} (hb : t.ns.length = b.length) (hc : t.ns.length = c.length) (kb : levT t b = true) (kc : levT t c = true) : levT t (maxB b c) = true := by
  have e : b.length = c.length := by rw [← hb, ← hc]
  rw [levT_iff (by rw [maxB_len e]; exact hb)]
  intro i s es
  rw [maxB_get e]
  have h1 := (levT_iff hb).mp kb i s es
  have h2 := (levT_iff hc).mp kc i s es
  omega
end Pv.LW
end
section
set_option linter.all false
set_option maxRecDepth 100000
namespace Pv.LW
open PySem Pv
/-! ### places of names -/
def ixS : List Str → Str → Nat
  | n :: ns, x => if n = x then 0 else ixS ns x + 1
  | [], _ => 0
theorem ixS_lt {x : Str} : ∀ {ns : List Str}, x ∈ ns → ixS ns x < ns.length
  | n :: ns, m => by
    unfold ixS
    split
    · simp
    · rename_i h
      have := ixS_lt ((List.mem_cons.mp m).resolve_left fun z => h z.symm)
      simp; omega
  | [], m => by cases m
theorem ixS_get {x : Str} : ∀ {ns : List Str}, x ∈ ns → ns[ixS ns x]? = some x
  | n :: ns, m => by
    unfold ixS
    split
    · rename_i h; simp [h]
    · rename_i h
      simpa using ixS_get ((List.mem_cons.mp m).resolve_left fun z => h z.symm)
  | [], m => by cases m
theorem ixS_at : ∀ {ns : List Str} {i : Nat} {x : Str}, ns.Nodup → ns[i]? = some x → ixS ns x = i
  | n :: ns, 0, x, _, h => by simp at h; simp [ixS, h]
  | n :: ns, i + 1, x, nd, h => by
    simp at h
    have hne : n ≠ x := fun z => by
      subst z
      exact (List.nodup_cons.mp nd).1 (List.mem_of_getElem? h)
    simp only [ixS, if_neg hne]
    rw [ixS_at (List.nodup_cons.mp nd).2 h]
  | [], _, _, _, h => by simp at h
theorem findIdx_strs {x : Str} : ∀ {ns : List Str}, x ∈ ns → (toDs (ns.map PV.str)).findIdx? (fun z => PyData.eqv z (toD (.str x))) = some (ixS ns x)
  | n :: ns, m => by
    have e : PyData.eqv (toD (.str n)) (toD (.str x)) = decide (n = x) := by
      have := peq_iff (.str n) (.str x) rfl rfl
      unfold peq at this
      simp only [PV.str.injEq] at this
      by_cases h : n = x
      · rw [decide_eq_true h]; exact this.mpr h
      · rw [decide_eq_false h]; exact Bool.eq_false_iff.mpr fun z => h (this.mp z)
    simp only [List.map_cons, toDs, List.findIdx?_cons, e]
    by_cases h : n = x
    · simp [h, ixS]
    · have := findIdx_strs ((List.mem_cons.mp m).resolve_left fun z => h z.symm)
      simp [h, ixS, this]
  | [], m => by cases m
theorem opIdx_strs {ns : List Str} {x : Str} (m : x ∈ ns) : opIdx (.lst (ns.map PV.str)) (.str x) = .ok (.int (ixS ns x : Nat)) := by
  have h1 : flatOk (.lst (ns.map PV.str)) = true := (Fl_strs ns).ok (by omega)
  have h2 : flatOk (.str x) = true := (Fl_str x).ok (by omega)
  show (if (flatOk (.str x) && flatOk (.lst (ns.map PV.str))) = true then (match (toDs (ns.map PV.str)).findIdx? (fun z => PyData.eqv z (toD (.str x))) with | some j => Res.ok (PV.int (j : Nat)) | none => .bad) else .bad) = _
  rw [h1, h2, findIdx_strs m]
  rfl
@[simp] theorem eIdx_eq (f g : Rho → Res PV) (ρ : Rho) {xs : List PV} (h : f ρ = .ok (.lst xs)) : eIdx f g ρ = (g ρ).bind fun q => opIdx (.lst xs) q := by
  unfold eIdx
  rw [h]
  rfl
theorem lv_ix {x : Str} : ∀ {ns : List Str} {b : List Nat}, ns.length = b.length → x ∈ ns → b[ixS ns x]? = some (lv ns b x)
  | n :: ns, b :: bs, h, m => by
    unfold ixS lv lk?
    split
    · simp
    · rename_i hne
      have := lv_ix (ns := ns) (b := bs) (by simpa using h) ((List.mem_cons.mp m).resolve_left fun z => hne z.symm)
      simpa [lv] using this
  | n :: ns, [], h, m => by simp at h
  | [], _, _, m => by cases m
theorem set_ix {x : Str} {v : Nat} : ∀ {ns : List Str} {b : List Nat}, ns.Nodup → ns.length = b.length → x ∈ ns → b.set (ixS ns x) v = setV ns b x v
  | n :: ns, b :: bs, nd, h, m => by
    unfold ixS setV
    by_cases e : n = x
    · subst e
      simp [setV_out ns bs (List.nodup_cons.mp nd).1]
    · have := set_ix (v := v) (List.nodup_cons.mp nd).2 (show ns.length = bs.length by simpa using h) ((List.mem_cons.mp m).resolve_left fun z => e z.symm)
      simp [e, this]
  | n :: ns, [], _, h, m => by simp at h
  | [], _, _, _, m => by cases m
theorem setV_same {x : Str} : ∀ {ns : List Str} {b : List Nat}, ns.Nodup → ns.length = b.length → setV ns b x (lv ns b x) = b
  | n :: ns, b :: bs, nd, h => by
    unfold setV lv lk?
    by_cases e : n = x
    · subst e
      simp [setV_out ns bs (List.nodup_cons.mp nd).1]
    · have := setV_same (x := x) (List.nodup_cons.mp nd).2 (show ns.length = bs.length by simpa using h)
      simp [e]
      simpa [lv] using this
  | n :: ns, [], _, h => by simp at h
  | [], b, _, h => by cases b <;> rfl
theorem ixN_nat {n i : Nat} (h : i < n) : L2.ixN n (i : Int) = some i := by
  unfold L2.ixN
  rw [if_pos (by omega), if_pos (by omega)]
  simp
theorem sPutL_l {z : List Nat} {vis vik : Bool} {fv fk : Rho → Res PV} {i : Nat} {ω : Om} {xs : List PV} {p : PV} {n : Nat} (h1 : (frz ω z)[i]? = some (some (.l xs))) (h2 : ev z vis fv ω = .ok p) (h3 : ev [] vik fk (frz ω z) = .ok (.int (n : Nat))) (h4 : n < xs.length) :
    sPutL z vis vik fv fk i ω = .nx ((frz ω z).set i (some (.l (xs.set n p)))) := by
  unfold sPutL
  rw [h1]
  simp only [h2, SR.of_ok, h3, ixN_nat h4]
theorem opIx_row {b : List Nat} {i v : Nat} (h : b[i]? = some v) : opIx (.lst (b.map eN)) (.int (i : Nat)) = .ok (.int (v : Nat)) := by
  have hi : i < b.length := (List.getElem?_eq_some_iff.mp h).1
  show (match L2.atI (b.map eN) (i : Int) with | some p => Res.ok p | none => .bad) = _
  unfold L2.atI
  rw [List.length_map, ixN_nat hi]
  simp [h, eN]
theorem lv_nth {t : Tr} (nd : t.ns.Nodup) {b : List Nat} (h : t.ns.length = b.length) {i : Nat} {s : Sk} (e : t.sk[i]? = some s) : b[i]? = some (lv t.ns b s.nm) := by
  have e' : t.ns[i]? = some s.nm := by simp [Tr.ns, e]
  have := lv_ix h (List.mem_of_getElem? e')
  rwa [ixS_at nd e'] at this
theorem cost_of_v {t : Tr} (v : Vt t) {b : List Nat} (h : t.ns.length = b.length) : f_cost_of [eT t, eB b] = .ok (.int (costT t b)) := cost_of_ok (fun s m => by have := v.pr s m; omega) h
theorem need_points_ok {p : Nat} (h : p ≤ 999) : f_need_points [.int p] = .ok .non := by
  show endR (m_need_points [some (.v (.int p))]) = _
  have := is_count_int (p : Int) 0 999
  have h1 : decide ((0 : Int) ≤ (p : Int)) = true := decide_eq_true (by omega)
  have h2 : decide ((p : Int) ≤ 999) = true := decide_eq_true (by omega)
  rw [h1, h2] at this
  simp [m_need_points, k_MOST_POINTS, this]
theorem sForL_find {β : Type} {pt : Pat} {b : Om → SR} (enc : β → PV) (Inv : Om → Prop) (c : β → Bool) (r : β → PV) : ∀ (xs : List β) (ω : Om), Inv ω →
    (∀ x ∈ xs, ∀ ω, Inv ω → ∃ ω1, patO ω pt (enc x) = some ω1 ∧ ((c x = true ∧ b ω1 = .rt (r x)) ∨ (c x = false ∧ ∃ ω2, b ω1 = .nx ω2 ∧ Inv ω2))) →
    (∃ x, xs.find? c = some x ∧ sForL pt b (xs.map enc) ω = .rt (r x)) ∨ (xs.find? c = none ∧ ∃ ω', sForL pt b (xs.map enc) ω = .nx ω' ∧ Inv ω')
  | [], ω, h, _ => .inr ⟨rfl, ω, by simp [sForL], h⟩
  | x :: xs, ω, h, k => by
    obtain ⟨ω1, e1, z⟩ := k x List.mem_cons_self ω h
    rw [List.map_cons, sForL, e1]
    rcases z with ⟨c1, e2⟩ | ⟨c1, ω2, e2, h2⟩
    · exact .inl ⟨x, by simp [c1], by simp [e2]⟩
    · have ih := sForL_find enc Inv c r xs ω2 h2 fun y m => k y (List.mem_cons_of_mem _ m)
      simp only [e2, List.find?_cons, c1]
      exact ih
def upOk (t : Tr) (b : List Nat) (i : Nat) (s : Sk) (p : Nat) : Bool := !decide (lv t.ns b s.nm = s.mx) && (lackT t b s.nm).isEmpty && holdsT t (upAt b i) && decide (costT t (upAt b i) ≤ p)
theorem skill_of_ok {t : Tr} (w : Wf t) {s : Sk} (m : s ∈ t.sk) : f_skill_of [eT t, .str s.nm] = .ok (eS s) := by
  show endR (m_skill_of [some (.v (eT t)), some (.v (.str s.nm)), none]) = _
  have q : ∀ a0 a2 : Option PV, lcRun (.nm 2) (eTru (eBin opEq (eBin opIx (eV 2) (eC (.int 0))) (eV 1))) (eV 2) [a0, some (.str s.nm), a2] (t.sk.map eS) = .ok [eS s] := fun a0 a2 => by
    rw [lcRun_ok eS (fun z => decide (z.nm = s.nm)) eS t.sk (fun z mz => ⟨_, rfl, by simp [h0S], fun _ => by simp⟩)]
    rw [filter_nm w.nd m]
    rfl
  unfold m_skill_of
  simp [h0T, q]
theorem with_level_ok {t : Tr} (v : Vt t) {b : List Nat} (h : t.ns.length = b.length) {i : Nat} {s : Sk} (e : t.sk[i]? = some s) : f_with_level [eT t, eB b, .str s.nm, .int 1] = .ok (eB (upAt b i)) := by
  have e' : t.ns[i]? = some s.nm := by simp [Tr.ns, e]
  have hm := List.mem_of_getElem? e'
  have hix := opIdx_strs hm
  rw [ixS_at v.nd e'] at hix
  have hi : i < b.length := by rw [← h]; exact (List.getElem?_eq_some_iff.mp e').1
  have h6 := v.hi
  have hnl : t.ns.length = t.sk.length := by simp [Tr.ns]
  show endR (m_with_level [some (.v (eT t)), some (.v (eB b)), some (.v (.str s.nm)), some (.v (.int 1)), none]) = _
  have hs := slTo_eB b i
  have hf := slFrom_eB b (i + 1)
  simp at hf
  have h1 : opAdd (eB (b.take i)) (.tup [.int ((b.getD i 0 : Nat) + 1 : Int)]) = .ok (eB (b.take i ++ [b.getD i 0 + 1])) := by
    have := opAdd_eB (b := b.take i) (c := [b.getD i 0 + 1]) (by simp; omega)
    simpa [eB, eN] using this
  have h2 : opAdd (eB (b.take i ++ [b.getD i 0 + 1])) (eB (b.drop (i + 1))) = .ok (eB (upAt b i)) := opAdd_eB (by simp; omega)
  rw [List.getD_eq_getElem?_getD] at h1 h2
  unfold m_with_level
  simp [names_of_ok, hix, opIx_eB hi, hs, hf, h1, h2]
theorem opNe_e : opNe (.lst []) (.lst []) = .ok (.bl false) := by
  have := opNe_nil' (f := eW) Fl_eW (by omega) []
  simpa using this
theorem cost_mono {t : Tr} : ∀ {b c : List Nat}, b.length = c.length → LeB b c → costT t b ≤ costT t c := by
  intro b c hl hb
  unfold costT
  generalize t.sk = sk
  induction b generalizing c sk with
  | nil => simp
  | cons x b ih =>
    cases c with
    | nil => simp at hl
    | cons y c =>
      cases sk with
      | nil => simp
      | cons s sk =>
        have h1 := hb.tail
        have h2 := ih (c := c) (by simpa using hl) h1.2 sk
        have h3 : x * s.pr ≤ y * s.pr := Nat.mul_le_mul_right _ h1.1
        simp only [List.zip_cons_cons, List.map_cons, List.sum_cons]
        omega
theorem lv_up {t : Tr} (nd : t.ns.Nodup) {b : List Nat} (h : t.ns.length = b.length) {i : Nat} {s : Sk} (e : t.sk[i]? = some s) {s' : Sk} (m : s' ∈ t.sk) : lv t.ns (upAt b i) s'.nm = if s'.nm = s.nm then lv t.ns b s.nm + 1 else lv t.ns b s'.nm := by
  have hi : i < b.length := by rw [← h]; simp [Tr.ns]; exact (List.getElem?_eq_some_iff.mp e).1
  have hul : t.ns.length = (upAt b i).length := by rw [upAt_len hi]; exact h
  obtain ⟨j, hj, ej⟩ := List.mem_iff_getElem.mp m
  have ej' : t.sk[j]? = some s' := by rw [List.getElem?_eq_getElem hj, ej]
  have g1 : lv t.ns (upAt b i) s'.nm = (upAt b i).getD j 0 := by rw [List.getD_eq_getElem?_getD, lv_nth nd hul ej']; rfl
  have g2 : lv t.ns b s'.nm = b.getD j 0 := by rw [List.getD_eq_getElem?_getD, lv_nth nd h ej']; rfl
  have g3 : lv t.ns b s.nm = b.getD i 0 := by rw [List.getD_eq_getElem?_getD, lv_nth nd h e]; rfl
  rw [g1, g2, g3, upAt_get hi]
  have ei : t.ns[i]? = some s.nm := by simp [Tr.ns, e]
  have ejn : t.ns[j]? = some s'.nm := by simp [Tr.ns, ej']
  by_cases hji : j = i
  · subst hji
    rw [e] at ej'; cases ej'
    simp
  · have hne : s'.nm ≠ s.nm := fun z => by
      rw [z] at ejn
      have := ixS_at nd ei
      have := ixS_at nd ejn
      omega
    rw [if_neg hji, if_neg hne]
theorem up_len {t : Tr} {b : List Nat} (h : t.ns.length = b.length) {i : Nat} {s : Sk} (e : t.sk[i]? = some s) : i < b.length ∧ t.ns.length = (upAt b i).length := by
  have hi : i < b.length := by rw [← h]; simp [Tr.ns]; exact (List.getElem?_eq_some_iff.mp e).1
  exact ⟨hi, by rw [upAt_len hi]; exact h⟩
theorem up_le {t : Tr} (nd : t.ns.Nodup) {b g : List Nat} (hb : t.ns.length = b.length) (hg : t.ns.length = g.length) (hle : LeB b g) {i : Nat} {s : Sk} (e : t.sk[i]? = some s) (hlt : lv t.ns b s.nm < lv t.ns g s.nm) : LeB (upAt b i) g := by
  refine le_of_lv nd (up_len hb e).2 hg fun x mx => ?_
  obtain ⟨s', ms', rfl⟩ := List.mem_map.mp mx
  rw [lv_up nd hb e ms']
  split
  · rename_i z; rw [z]; omega
  · exact lv_le hb hg hle
theorem up_sum {b : List Nat} {i : Nat} (h : i < b.length) : (upAt b i).sum = b.sum + 1 := by
  unfold upAt
  have e : b.sum = (b.take i).sum + (b.drop i).sum := by rw [← List.sum_append, List.take_append_drop]
  have e2 : (b.drop i).sum = b[i] + (b.drop (i + 1)).sum := by rw [List.drop_eq_getElem_cons h, List.sum_cons]
  have e3 : b.getD i 0 = b[i] := by rw [List.getD_eq_getElem?_getD, List.getElem?_eq_getElem h]; rfl
  rw [List.sum_append, List.sum_append, e3]
  simp only [List.sum_cons, List.sum_nil]
  omega
def nxC (t : Tr) (p : Nat) (g b : List Nat) (q : Sk × Nat) : Bool := decide (lv t.ns b q.1.nm < lv t.ns g q.1.nm) && upOk t b q.2 q.1 p
def nextT (t : Tr) (p : Nat) (g b : List Nat) : Option (Sk × Nat) := t.sk.zipIdx.find? (nxC t p g b)
theorem zip_get {α : Type} {xs : List α} {q : α × Nat} (m : q ∈ xs.zipIdx) : xs[q.2]? = some q.1 := by
  have := List.mem_zipIdx m
  simp at this
  obtain ⟨h1, h2⟩ := this
  rw [List.getElem?_eq_getElem h1, h2]
theorem enum_names (t : Tr) : enumP 0 (t.ns.map PV.str) = t.sk.zipIdx.map fun q => .tup [.int (q.2 : Nat), .str q.1.nm] := by
  have : t.ns.map PV.str = t.sk.map fun s => PV.str s.nm := by simp [Tr.ns]
  rw [this, enumP_map]
theorem next_ex {t : Tr} (v : Vt t) {p : Nat} {b g : List Nat} (hb : Bd t b) (hg : Bd t g) (hle : LeB b g) (hc : costT t g ≤ p) (hn : nextT t p g b = none) : b = g := by
  refine Classical.byContradiction fun hne => ?_
  obtain ⟨r, hr⟩ := v.rk
  have hL : (t.sk.filter fun s => decide (lv t.ns b s.nm < lv t.ns g s.nm)) ≠ [] := fun z => by
    rw [List.filter_eq_nil_iff] at z
    refine hne (LeB.antisymm (by rw [← hb.len, ← hg.len]) hle (le_of_lv v.nd hg.len hb.len fun x mx => ?_))
    obtain ⟨s', ms', rfl⟩ := List.mem_map.mp mx
    have := z s' ms'
    simp only [decide_eq_true_eq, Nat.not_lt] at this
    exact this
  obtain ⟨s, ms, hmin⟩ := exists_min (fun s : Sk => r s.nm) _ hL
  rw [List.mem_filter, decide_eq_true_eq] at ms
  obtain ⟨ms, hlt⟩ := ms
  obtain ⟨i, hi, ei⟩ := List.mem_iff_getElem.mp ms
  have e : t.sk[i]? = some s := by rw [List.getElem?_eq_getElem hi, ei]
  have kb := (holds_iff v.toWf b).mp hb.hol
  have kg := (holds_iff v.toWf g).mp hg.hol
  have wants : ∀ w ∈ s.ws, w.2 ≤ lv t.ns b w.1 := fun w mw => by
    refine Nat.le_of_not_lt fun hl => ?_
    have h1 := kg.2 s ms (by omega) w mw
    have h2 := hr s ms w mw
    obtain ⟨s', ms', e', _⟩ := v.wlv s ms w mw
    have h3 := hmin s' (List.mem_filter.mpr ⟨ms', decide_eq_true (by rw [e']; omega)⟩)
    rw [e'] at h3
    omega
  have hup := up_le v.nd hb.len hg.len hle e hlt
  obtain ⟨hib, hul⟩ := up_len hb.len e
  have hmx : lv t.ns b s.nm ≠ s.mx := fun z => by
    have h1 := lv_le (x := s.nm) hg.len (mosts_len t) ((lev_mosts hg.len).mp hg.lev)
    rw [lv_mosts v.nd ms] at h1
    omega
  have hlack : lackT t b s.nm = [] := by
    unfold lackT wantsT
    rw [get_mem v.nd ms]
    simp only [Option.map_some, Option.getD_some, List.filter_eq_nil_iff, decide_eq_true_eq, Nat.not_lt]
    exact wants
  have hge : ∀ s' ∈ t.sk, lv t.ns b s'.nm ≤ lv t.ns (upAt b i) s'.nm := fun s' ms' => by
    rw [lv_up v.nd hb.len e ms']
    split
    · rename_i z; rw [z]; omega
    · exact Nat.le_refl _
  have hhold : holdsT t (upAt b i) = true := (holds_iff v.toWf _).mpr ⟨clash_le hul hg.len hup kg.1, fun s' ms' hp w mw => by
    obtain ⟨s2, ms2, e2, _⟩ := v.wlv s' ms' w mw
    have h1 := hge s2 ms2
    rw [e2] at h1
    rw [lv_up v.nd hb.len e ms'] at hp
    by_cases z : s'.nm = s.nm
    · have hss : s' = s := by
        have g1 := get_mem v.nd ms'
        have g2 := get_mem v.nd ms
        rw [z, g2] at g1
        exact (Option.some.inj g1).symm
      subst hss
      exact Nat.le_trans (wants w mw) h1
    · rw [if_neg z] at hp
      exact Nat.le_trans (kb.2 s' ms' hp w mw) h1⟩
  have hco : costT t (upAt b i) ≤ p := Nat.le_trans (cost_mono (by rw [← hul, ← hg.len]) hup) hc
  have hx : nxC t p g b (s, i) = true := by
    unfold nxC upOk
    simp [hlt, hmx, hlack, hhold, hco]
  unfold nextT at hn
  rw [List.find?_eq_none] at hn
  exact hn (s, i) (by
    rw [List.mem_zipIdx_iff_getElem?]
    exact e) hx
theorem next_step {t : Tr} (v : Vt t) {p : Nat} {b g : List Nat} (hb : Bd t b) (hg : Bd t g) (hle : LeB b g) {q : Sk × Nat} (hn : nextT t p g b = some q) : t.sk[q.2]? = some q.1 ∧ Bd t (upAt b q.2) ∧ LeB (upAt b q.2) g ∧ (upAt b q.2).sum = b.sum + 1 := by
  unfold nextT at hn
  have m := List.mem_of_find?_eq_some hn
  have hx := List.find?_some hn
  have e := zip_get m
  unfold nxC upOk at hx
  simp only [Bool.and_eq_true, decide_eq_true_eq] at hx
  obtain ⟨hlt, ⟨⟨_, _⟩, hh⟩, _⟩ := hx
  have hup := up_le v.nd hb.len hg.len hle e hlt
  obtain ⟨hib, hul⟩ := up_len hb.len e
  exact ⟨e, ⟨hul, (lev_mosts hul).mpr (hup.trans ((lev_mosts hg.len).mp hg.lev)), hh⟩, hup, up_sum hib⟩
theorem zip_le : ∀ {a b : List Nat}, LeB a b → ∀ q ∈ a.zip b, q.1 ≤ q.2
  | [], _, _, q, m => by simp at m
  | _ :: _, [], _, q, m => by simp at m
  | x :: a, y :: b, h, q, m => by
    have h1 := h.tail
    rw [List.zip_cons_cons] at m
    rcases List.mem_cons.mp m with z | z
    · rw [z]; exact h1.1
    · exact zip_le h1.2 q z
theorem cost_most {t : Tr} (v : Vt t) : costT t (mosts t) ≤ 162 := by
  have h : ∀ l : List Sk, (∀ s ∈ l, s.mx ≤ 3 ∧ s.pr ≤ 9) → (((l.map (·.mx)).zip l).map fun p => p.1 * p.2.pr).sum ≤ 27 * l.length := by
    intro l
    induction l with
    | nil => intro _; simp
    | cons a l ih =>
      intro h
      have h1 := h a List.mem_cons_self
      have h2 := ih fun s m => h s (List.mem_cons_of_mem _ m)
      have h3 : a.mx * a.pr ≤ 3 * 9 := Nat.mul_le_mul h1.1 h1.2
      simp only [List.map_cons, List.zip_cons_cons, List.sum_cons, List.length_cons]
      omega
  have h1 := h t.sk fun s m => ⟨(v.mx s m).2, (v.pr s m).2⟩
  have h2 := v.hi
  unfold costT mosts
  omega
theorem zeros_le (t : Tr) (x : List Nat) : LeB (zerosT t) x := fun i => by
  have : (zerosT t).getD i 0 = 0 := by
    unfold zerosT
    rw [List.getD_eq_getElem?_getD, List.getElem?_replicate]
    split <;> rfl
  omega
theorem cell_lst (ns : List Int) (h63 : ns.length ≤ 63) (k : Nat) : ∃ c : Int, f__law_cell [.lst (ns.map .int), .int k] = .ok (.int c) := by
  have heq := opEq_nil' (f := PV.int) (n := 1) (fun _ => Fl.int _) (by omega) ns
  by_cases hne : ns = []
  · subst hne
    refine ⟨(k : Int) * 7919, ?_⟩
    show endR (m__law_cell [some (.v (.lst [])), some (.v (.int k))]) = _
    unfold m__law_cell
    simp at heq
    simp [heq, opMul_of (mulOk_r (j := 7919) (by decide))]
  · have hpos : 0 < ns.length := List.length_pos_iff.mpr hne
    have hp : (0 : Int) < (ns.length : Nat) := by omega
    have hk : k % ns.length < ns.length := Nat.mod_lt _ hpos
    refine ⟨ns[k % ns.length] + (k : Int) / (ns.length : Nat) * 104729, ?_⟩
    show endR (m__law_cell [some (.v (.lst (ns.map .int))), some (.v (.int k))]) = _
    unfold m__law_cell
    have hl : bLen [.lst (ns.map PV.int)] = .ok (.int (ns.length : Nat)) := by simp [bLen]
    have hx : opIx (.lst (ns.map PV.int)) (.int ((k : Int) % (ns.length : Nat))) = .ok (.int ns[k % ns.length]) := by
      show (match L2.atI (ns.map PV.int) ((k % ns.length : Nat) : Int) with | some n => Res.ok n | none => .bad) = _
      rw [atI_nat, List.getElem?_map, List.getElem?_eq_getElem hk]
      rfl
    have hd : opDiv (.int k) (.int (ns.length : Nat)) = .ok (.int ((k : Int) / (ns.length : Nat))) := opDiv_of hp (by rw [Int.natAbs_natCast]; omega)
    have hm : opMod (.int k) (.int (ns.length : Nat)) = .ok (.int ((k : Int) % (ns.length : Nat))) := opMod_of hp
    have he : ns.isEmpty = false := by simpa using hne
    rw [he] at heq
    simp [heq, hl, hx, hd, hm, opMul_of (mulOk_r (j := 104729) (by decide))]
end Pv.LW
end
section
set_option linter.all false
set_option maxRecDepth 100000
namespace Pv.LW
open PySem Pv
/-! ### a level more, a level less -/
def rW (o : Option Str) : Res PV := match o with | some w => .exc w | none => .ok .non
def rX (o : Option Str) (x : PV) : Res PV := match o with | some w => .exc w | none => .ok x
def tX (o : Option Str) (x : PV) : PV := match o with | some w => .str w | none => x
def upWord (t : Tr) (b : List Nat) (i : Nat) (s : Sk) (p : Nat) : Option Str := if lv t.ns b s.nm = s.mx then some "Most" else if lackT t b s.nm ≠ [] then some "Wants" else if holdsT t (upAt b i) = false then some "Locked" else if p < costT t (upAt b i) then some "Points" else none
theorem upWord_none {t : Tr} {b : List Nat} {i : Nat} {s : Sk} {p : Nat} : upWord t b i s p = none ↔ upOk t b i s p = true := by
  unfold upWord upOk
  by_cases z1 : lv t.ns b s.nm = s.mx
  · simp [z1]
  · by_cases z2 : lackT t b s.nm = []
    · cases z3 : holdsT t (upAt b i) with
      | false => simp [z1, z2]
      | true =>
        by_cases z4 : p < costT t (upAt b i)
        · simp [z1, z2, z4]
        · simp [z1, z2, z4]; omega
    · simp [z1, z2]
theorem upWord_mem {t : Tr} {b : List Nat} {i : Nat} {s : Sk} {p : Nat} {w : Str} (h : upWord t b i s p = some w) : w ∈ cs_is_let := by
  unfold upWord at h
  unfold cs_is_let
  split at h
  · cases h; decide
  · split at h
    · cases h; decide
    · split at h
      · cases h; decide
      · split at h
        · cases h; decide
        · cases h
theorem check_up_key {t : Tr} (v : Vt t) {b : List Nat} (h : t.ns.length = b.length) {i : Nat} {s : Sk} (e : t.sk[i]? = some s) (p : Nat) : f_check_up [eT t, eB b, .str s.nm, .int p] = rW (upWord t b i s p) := by
  have m := List.mem_of_getElem? e
  have hi : i < b.length := (up_len h e).1
  have hl := levels_of_ok v.nd h
  have hn : s.nm ∈ t.ns := List.mem_map.mpr ⟨s, m, rfl⟩
  have hx := opIx_eD h hn
  have hul : t.ns.length = (upAt b i).length := (up_len h e).2
  have hk := lacking_ok v.toWf h m
  have hw := with_level_ok v h e
  have hh := holds_ok v.toWf hul
  have hc := cost_of_v v hul
  unfold rW upWord
  show endR (m_check_up [some (.v (eT t)), some (.v (eB b)), some (.v (.str s.nm)), some (.v (.int p)), none, none]) = _
  unfold m_check_up
  simp [hl, hx, skill_of_ok v.toWf m, h1S, hk, opNe_nil' Fl_eW]
  by_cases z1 : lv t.ns b s.nm = s.mx
  · simp [z1]
  · have z1' : ¬ ((lv t.ns b s.nm : Nat) : Int) = (s.mx : Nat) := by omega
    by_cases z2 : lackT t b s.nm = []
    · cases z3 : holdsT t (upAt b i) with
      | false => simp [opNe_e, z1, z1', z2, z3, hk, opNe_nil' Fl_eW, hw, hh]
      | true =>
        by_cases z4 : p < costT t (upAt b i)
        · simp [opNe_e, z1, z1', z2, z3, z4, hk, opNe_nil' Fl_eW, hw, hh, hc]
        · simp [opNe_e, z1, z1', z2, z3, z4, hk, opNe_nil' Fl_eW, hw, hh, hc]
    · simp [opNe_e, z1, z1', z2, hk, opNe_nil' Fl_eW]
def dnAt (b : List Nat) (i : Nat) : List Nat := b.take i ++ [b.getD i 0 - 1] ++ b.drop (i + 1)
theorem dnAt_len {b : List Nat} {i : Nat} (h : i < b.length) : (dnAt b i).length = b.length := by
  unfold dnAt; simp; omega
theorem dnAt_get {b : List Nat} {i : Nat} (h : i < b.length) (j : Nat) : (dnAt b i).getD j 0 = if j = i then b.getD i 0 - 1 else b.getD j 0 := by
  unfold dnAt
  simp only [List.getD_eq_getElem?_getD, List.append_assoc]
  by_cases h1 : j < i
  · rw [List.getElem?_append_left (by simp; omega), if_neg (by omega), List.getElem?_take_of_lt h1]
  · rw [List.getElem?_append_right (by simp; omega)]
    have hl : (b.take i).length = i := by simp; omega
    rw [hl]
    by_cases h2 : j = i
    · subst h2; simp
    · rw [if_neg h2]
      obtain ⟨k, rfl⟩ : ∃ k, j = i + 1 + k := ⟨j - i - 1, by omega⟩
      have : i + 1 + k - i = k + 1 := by omega
      rw [this]
      simp [List.getElem?_drop]
theorem up_dn {b : List Nat} {i : Nat} (h : i < b.length) : dnAt (upAt b i) i = b := by
  have hl := upAt_len h
  apply List.ext_getElem?
  intro j
  have h1 := dnAt_get (b := upAt b i) (i := i) (by omega) j
  rw [upAt_get h, upAt_get h] at h1
  have hlen : (dnAt (upAt b i) i).length = b.length := by rw [dnAt_len (by omega), hl]
  by_cases hj : j < b.length
  · rw [List.getD_eq_getElem?_getD, List.getElem?_eq_getElem (by omega)] at h1
    rw [List.getElem?_eq_getElem (by omega), List.getElem?_eq_getElem hj]
    congr 1
    have h2 : b.getD j 0 = b[j] := by rw [List.getD_eq_getElem?_getD, List.getElem?_eq_getElem hj]; rfl
    simp only [Option.getD_some] at h1
    rw [h1]
    by_cases z : j = i
    · subst z; simp [h2, hj]
    · simp [z, hj]
  · rw [List.getElem?_eq_none (by omega), List.getElem?_eq_none (by omega)]
theorem dn_up {b : List Nat} {i : Nat} (h : i < b.length) (hp : 0 < b.getD i 0) : upAt (dnAt b i) i = b := by
  have hl := dnAt_len h
  apply List.ext_getElem?
  intro j
  have h1 := upAt_get (b := dnAt b i) (i := i) (by omega) j
  rw [dnAt_get h, dnAt_get h] at h1
  have hlen : (upAt (dnAt b i) i).length = b.length := by rw [upAt_len (by omega), hl]
  by_cases hj : j < b.length
  · rw [List.getD_eq_getElem?_getD, List.getElem?_eq_getElem (by omega)] at h1
    rw [List.getElem?_eq_getElem (by omega), List.getElem?_eq_getElem hj]
    congr 1
    have h2 : b.getD j 0 = b[j] := by rw [List.getD_eq_getElem?_getD, List.getElem?_eq_getElem hj]; rfl
    simp only [Option.getD_some] at h1
    rw [h1]
    by_cases z : j = i
    · subst z
      rw [if_pos rfl, if_pos trivial]
      omega
    · simp [z, hj]
  · rw [List.getElem?_eq_none (by omega), List.getElem?_eq_none (by omega)]
theorem lv_get {t : Tr} (nd : t.ns.Nodup) {b : List Nat} (h : t.ns.length = b.length) {i : Nat} {s : Sk} (e : t.sk[i]? = some s) : lv t.ns b s.nm = b.getD i 0 := by rw [List.getD_eq_getElem?_getD, lv_nth nd h e]; rfl
theorem with_level_dn {t : Tr} (v : Vt t) {b : List Nat} (h : t.ns.length = b.length) {i : Nat} {s : Sk} (e : t.sk[i]? = some s) (hp : 0 < lv t.ns b s.nm) : f_with_level [eT t, eB b, .str s.nm, .int (-1)] = .ok (eB (dnAt b i)) := by
  have e' : t.ns[i]? = some s.nm := by simp [Tr.ns, e]
  have hm := List.mem_of_getElem? e'
  have hix := opIdx_strs hm
  rw [ixS_at v.nd e'] at hix
  have hi : i < b.length := (up_len h e).1
  have h6 := v.hi
  have hnl : t.ns.length = t.sk.length := by simp [Tr.ns]
  rw [lv_get v.nd h e] at hp
  show endR (m_with_level [some (.v (eT t)), some (.v (eB b)), some (.v (.str s.nm)), some (.v (.int (-1))), none]) = _
  have hs := slTo_eB b i
  have hf := slFrom_eB b (i + 1)
  simp at hf
  have h1 : opAdd (eB (b.take i)) (.tup [.int ((b.getD i 0 : Nat) + (-1) : Int)]) = .ok (eB (b.take i ++ [b.getD i 0 - 1])) := by
    have := opAdd_eB (b := b.take i) (c := [b.getD i 0 - 1]) (by simp; omega)
    have e2 : ((b.getD i 0 : Nat) + (-1) : Int) = ((b.getD i 0 - 1 : Nat) : Int) := by omega
    rw [e2]
    simpa [eB, eN] using this
  have h2 : opAdd (eB (b.take i ++ [b.getD i 0 - 1])) (eB (b.drop (i + 1))) = .ok (eB (dnAt b i)) := opAdd_eB (by simp; omega)
  rw [List.getD_eq_getElem?_getD] at h1 h2
  unfold m_with_level
  simp [names_of_ok, hix, opIx_eB hi, hs, hf, h1, h2]
def dnWord (t : Tr) (b : List Nat) (i : Nat) (s : Sk) : Option Str := if lv t.ns b s.nm = 0 then some "Most" else if holdsT t (dnAt b i) = false then some "Wants" else none
def dnOk (t : Tr) (b : List Nat) (i : Nat) (s : Sk) : Bool := decide (0 < lv t.ns b s.nm) && holdsT t (dnAt b i)
theorem dnWord_none {t : Tr} {b : List Nat} {i : Nat} {s : Sk} : dnWord t b i s = none ↔ dnOk t b i s = true := by
  unfold dnWord dnOk
  by_cases z1 : lv t.ns b s.nm = 0
  · simp [z1]
  · cases z3 : holdsT t (dnAt b i) with
    | false => simp [z1]
    | true => simp [z1]; omega
theorem dnWord_mem {t : Tr} {b : List Nat} {i : Nat} {s : Sk} {w : Str} (h : dnWord t b i s = some w) : w ∈ cs_is_let := by
  unfold dnWord at h
  unfold cs_is_let
  split at h
  · cases h; decide
  · split at h
    · cases h; decide
    · cases h
theorem dn_len {t : Tr} {b : List Nat} (h : t.ns.length = b.length) {i : Nat} {s : Sk} (e : t.sk[i]? = some s) : t.ns.length = (dnAt b i).length := by rw [dnAt_len (up_len h e).1]; exact h
theorem check_down_key {t : Tr} (v : Vt t) {b : List Nat} (h : t.ns.length = b.length) {i : Nat} {s : Sk} (e : t.sk[i]? = some s) : f_check_down [eT t, eB b, .str s.nm] = rW (dnWord t b i s) := by
  have m := List.mem_of_getElem? e
  have hl := levels_of_ok v.nd h
  have hn : s.nm ∈ t.ns := List.mem_map.mpr ⟨s, m, rfl⟩
  have hx := opIx_eD h hn
  have hh := holds_ok v.toWf (dn_len h e)
  unfold rW dnWord
  show endR (m_check_down [some (.v (eT t)), some (.v (eB b)), some (.v (.str s.nm))]) = _
  unfold m_check_down
  by_cases z1 : lv t.ns b s.nm = 0
  · simp [hl, hx, z1]
  · have hw := with_level_dn v h e (by omega)
    cases z3 : holdsT t (dnAt b i) with
    | false => simp [hl, hx, z1, hw, hh, z3]
    | true => simp [hl, hx, z1, hw, hh, z3]
/-! ### learned, lessened, may_learn, may_give -/
theorem learned_ok {t : Tr} (v : Vt t) {b : List Nat} (h : Bd t b) {i : Nat} {s : Sk} (e : t.sk[i]? = some s) {p : Nat} (hp : p ≤ 999) : f_learned [eT t, eB b, .str s.nm, .int p] = rX (upWord t b i s p) (eB (upAt b i)) := by
  unfold rX
  have hn : s.nm ∈ t.ns := List.mem_map.mpr ⟨s, List.mem_of_getElem? e, rfl⟩
  show endR (m_learned [some (.v (eT t)), some (.v (eB b)), some (.v (.str s.nm)), some (.v (.int p))]) = _
  unfold m_learned
  have hk := check_up_key v h.len e p
  have hw := with_level_ok v h.len e
  have hb := need_build_ok v h.len h.lev h.hol
  unfold rW at hk
  cases z : upWord t b i s p with
  | some w => rw [z] at hk; simp [hb, need_name_ok hn, need_points_ok hp, hk]
  | none => rw [z] at hk; simp [hb, need_name_ok hn, need_points_ok hp, hk, hw]
theorem lessened_ok {t : Tr} (v : Vt t) {b : List Nat} (h : Bd t b) {i : Nat} {s : Sk} (e : t.sk[i]? = some s) : f_lessened [eT t, eB b, .str s.nm] = rX (dnWord t b i s) (eB (dnAt b i)) := by
  unfold rX
  have hn : s.nm ∈ t.ns := List.mem_map.mpr ⟨s, List.mem_of_getElem? e, rfl⟩
  show endR (m_lessened [some (.v (eT t)), some (.v (eB b)), some (.v (.str s.nm))]) = _
  unfold m_lessened
  have hk := check_down_key v h.len e
  have hb := need_build_ok v h.len h.lev h.hol
  unfold rW at hk
  cases z : dnWord t b i s with
  | some w => rw [z] at hk; simp [hb, need_name_ok hn, hk]
  | none =>
    rw [z] at hk
    have hp := dnWord_none.mp z
    unfold dnOk at hp
    simp only [Bool.and_eq_true, decide_eq_true_eq] at hp
    have hw := with_level_dn v h.len e hp.1
    simp [hb, need_name_ok hn, hk, hw]
theorem let_rW {o : Option Str} (h : ∀ w, o = some w → w ∈ cs_is_let) (f : Rho → Res PV) (ρ : Rho) (e : f ρ = rW o) : eLet cs_is_let f ρ = .ok (.bl o.isNone) := by
  unfold eLet
  rw [e]
  cases o with
  | none => rfl
  | some w => show (if w ∈ cs_is_let then Res.ok (PV.bl false) else .bad) = _; rw [if_pos (h w rfl)]; rfl
def upsN (t : Tr) (b : List Nat) (p : Nat) : List Str := (t.sk.zipIdx.filter fun q => upOk t b q.2 q.1 p).map fun q => q.1.nm
def dnsN (t : Tr) (b : List Nat) : List Str := (t.sk.zipIdx.filter fun q => dnOk t b q.2 q.1).map fun q => q.1.nm
theorem map_zipIdx' {α β : Type} (f : α → β) : ∀ (l : List α) (n : Nat), l.map f = (l.zipIdx n).map fun q => f q.1
  | [], _ => rfl
  | a :: l, n => by simp only [List.map_cons, List.zipIdx_cons]; rw [map_zipIdx' f l (n + 1)]
theorem names_zip (t : Tr) : t.ns.map PV.str = t.sk.zipIdx.map fun q => .str q.1.nm := by
  unfold Tr.ns
  rw [List.map_map]
  exact map_zipIdx' _ _ 0
theorem isNone_up {t : Tr} {b : List Nat} {i : Nat} {s : Sk} {p : Nat} : (upWord t b i s p).isNone = upOk t b i s p := by
  have := upWord_none (t := t) (b := b) (i := i) (s := s) (p := p)
  cases z : upWord t b i s p with
  | none => rw [this.mp z]; rfl
  | some w =>
    cases y : upOk t b i s p with
    | true => rw [this.mpr y] at z; cases z
    | false => rfl
theorem isNone_dn {t : Tr} {b : List Nat} {i : Nat} {s : Sk} : (dnWord t b i s).isNone = dnOk t b i s := by
  have := dnWord_none (t := t) (b := b) (i := i) (s := s)
  cases z : dnWord t b i s with
  | none => rw [this.mp z]; rfl
  | some w =>
    cases y : dnOk t b i s with
    | true => rw [this.mpr y] at z; cases z
    | false => rfl
theorem may_learn_ok {t : Tr} (v : Vt t) {b : List Nat} (h : Bd t b) {p : Nat} (hp : p ≤ 999) : f_may_learn [eT t, eB b, .int p] = .ok (.lst ((upsN t b p).map PV.str)) := by
  have hb := need_build_ok v h.len h.lev h.hol
  show endR (m_may_learn [some (.v (eT t)), some (.v (eB b)), some (.v (.int p)), none]) = _
  unfold m_may_learn
  have q : lcRun (.nm 3) (eTru (eLet cs_is_let (eCall f_check_up (aCons (eV 0) (aCons (eV 1) (aCons (eV 3) (aCons (eV 2) aNil))))))) (eV 3) [some (eT t), some (eB b), some (.int p), none] (t.ns.map PV.str) = .ok ((upsN t b p).map PV.str) := by
    rw [names_zip, lcRun_ok (fun q : Sk × Nat => PV.str q.1.nm) (fun q => upOk t b q.2 q.1 p) (fun q => PV.str q.1.nm) t.sk.zipIdx (fun q mq => ⟨_, rfl, ?_, fun _ => by simp⟩)]
    · unfold upsN; rw [List.map_map]; rfl
    · have e := zip_get mq
      rw [eTru_ap, let_rW (o := upWord t b q.2 q.1 p) (fun w hw => upWord_mem hw) _ _ (by simp [check_up_key v h.len e p]), isNone_up]
      rfl
  simp [hb, need_points_ok hp, names_of_ok, q]
theorem may_give_ok {t : Tr} (v : Vt t) {b : List Nat} (h : Bd t b) : f_may_give [eT t, eB b] = .ok (.lst ((dnsN t b).map PV.str)) := by
  have hb := need_build_ok v h.len h.lev h.hol
  show endR (m_may_give [some (.v (eT t)), some (.v (eB b)), none]) = _
  unfold m_may_give
  have q : lcRun (.nm 2) (eTru (eLet cs_is_let (eCall f_check_down (aCons (eV 0) (aCons (eV 1) (aCons (eV 2) aNil)))))) (eV 2) [some (eT t), some (eB b), none] (t.ns.map PV.str) = .ok ((dnsN t b).map PV.str) := by
    rw [names_zip, lcRun_ok (fun q : Sk × Nat => PV.str q.1.nm) (fun q => dnOk t b q.2 q.1) (fun q => PV.str q.1.nm) t.sk.zipIdx (fun q mq => ⟨_, rfl, ?_, fun _ => by simp⟩)]
    · unfold dnsN; rw [List.map_map]; rfl
    · have e := zip_get mq
      rw [eTru_ap, let_rW (o := dnWord t b q.2 q.1) (fun w hw => dnWord_mem hw) _ _ (by simp [check_down_key v h.len e]), isNone_dn]
      rfl
  simp [hb, names_of_ok, q]
end Pv.LW
end
section
set_option linter.all false
set_option maxRecDepth 100000
namespace Pv.LW
open PySem Pv
/-! ### ways -/
theorem cost_bd {t : Tr} (v : Vt t) {b : List Nat} (h : Bd t b) : costT t b ≤ 162 := Nat.le_trans (cost_mono (by rw [← h.len, ← mosts_len]) ((lev_mosts h.len).mp h.lev)) (cost_most v)
theorem lack_nil {t : Tr} (nd : t.ns.Nodup) {b : List Nat} {s : Sk} (ms : s ∈ t.sk) : lackT t b s.nm = [] ↔ ∀ w ∈ s.ws, w.2 ≤ lv t.ns b w.1 := by
  unfold lackT wantsT
  rw [get_mem nd ms]
  simp only [Option.map_some, Option.getD_some, List.filter_eq_nil_iff, decide_eq_true_eq, Nat.not_lt]
theorem sk_uniq {t : Tr} (nd : t.ns.Nodup) {s s' : Sk} (ms : s ∈ t.sk) (ms' : s' ∈ t.sk) (z : s'.nm = s.nm) : s' = s := by
  have g1 := get_mem nd ms'
  have g2 := get_mem nd ms
  rw [z, g2] at g1
  exact (Option.some.inj g1).symm
/-- a level more under a build -/
theorem up_under {t : Tr} (v : Vt t) {p : Nat} {b g : List Nat} (hb : Bd t b) (hg : Bd t g) (hle : LeB b g) (hc : costT t g ≤ p) {i : Nat} {s : Sk} (e : t.sk[i]? = some s) (hlt : lv t.ns b s.nm < lv t.ns g s.nm) (hl : lackT t b s.nm = []) : upOk t b i s p = true := by
  have ms := List.mem_of_getElem? e
  have kb := (holds_iff v.toWf b).mp hb.hol
  have kg := (holds_iff v.toWf g).mp hg.hol
  have wants := (lack_nil v.nd ms).mp hl
  have hup := up_le v.nd hb.len hg.len hle e hlt
  obtain ⟨hib, hul⟩ := up_len hb.len e
  have hmx : lv t.ns b s.nm ≠ s.mx := fun z => by
    have h1 := lv_le (x := s.nm) hg.len (mosts_len t) ((lev_mosts hg.len).mp hg.lev)
    rw [lv_mosts v.nd ms] at h1
    omega
  have hge : ∀ s' ∈ t.sk, lv t.ns b s'.nm ≤ lv t.ns (upAt b i) s'.nm := fun s' ms' => by
    rw [lv_up v.nd hb.len e ms']
    split
    · rename_i z; rw [z]; omega
    · exact Nat.le_refl _
  have hhold : holdsT t (upAt b i) = true := (holds_iff v.toWf _).mpr ⟨clash_le hul hg.len hup kg.1, fun s' ms' hp w mw => by
    obtain ⟨s2, ms2, e2, _⟩ := v.wlv s' ms' w mw
    have h1 := hge s2 ms2
    rw [e2] at h1
    rw [lv_up v.nd hb.len e ms'] at hp
    by_cases z : s'.nm = s.nm
    · have hss := sk_uniq v.nd ms ms' z
      subst hss
      exact Nat.le_trans (wants w mw) h1
    · rw [if_neg z] at hp
      exact Nat.le_trans (kb.2 s' ms' hp w mw) h1⟩
  have hco : costT t (upAt b i) ≤ p := Nat.le_trans (cost_mono (by rw [← hul, ← hg.len]) hup) hc
  unfold upOk
  simp [hmx, hl, hhold, hco]
def wayC (t : Tr) (g b : List Nat) (q : Sk × Nat) : Bool := decide (lv t.ns b q.1.nm < lv t.ns g q.1.nm) && (lackT t b q.1.nm).isEmpty
theorem wayC_eq {t : Tr} (v : Vt t) {b g : List Nat} (hb : Bd t b) (hg : Bd t g) (hle : LeB b g) {q : Sk × Nat} (m : q ∈ t.sk.zipIdx) : wayC t g b q = nxC t 999 g b q := by
  have e := zip_get m
  unfold wayC nxC
  by_cases z : lv t.ns b q.1.nm < lv t.ns g q.1.nm
  · by_cases y : lackT t b q.1.nm = []
    · rw [up_under v hb hg hle (Nat.le_trans (cost_bd v hg) (by omega)) e z y]
      simp [z, y]
    · have : upOk t b q.2 q.1 999 = false := by unfold upOk; simp [y]
      rw [this]
      simp [y]
  · simp [z]
theorem find_congr {α : Type} {f g : α → Bool} : ∀ {l : List α}, (∀ a ∈ l, f a = g a) → l.find? f = l.find? g
  | [], _ => rfl
  | a :: l, h => by
    rw [List.find?_cons, List.find?_cons, h a List.mem_cons_self, find_congr fun b m => h b (List.mem_cons_of_mem _ m)]
theorem way_find {t : Tr} (v : Vt t) {b g : List Nat} (hb : Bd t b) (hg : Bd t g) (hle : LeB b g) : t.sk.zipIdx.find? (wayC t g b) = nextT t 999 g b := find_congr fun q m => wayC_eq v hb hg hle m
theorem zip3P_map {α : Type} (f g h : α → PV) : ∀ l : List α, zip3P (l.map f) (l.map g) (l.map h) = l.map fun a => .tup [f a, g a, h a]
  | [] => rfl
  | a :: l => by simp only [List.map_cons, zip3P, zip3P_map f g h l]
theorem eN_names {t : Tr} (nd : t.ns.Nodup) {b : List Nat} (h : t.ns.length = b.length) : b.map eN = t.sk.zipIdx.map fun q => eN (lv t.ns b q.1.nm) := by
  conv => lhs; rw [← lv_map nd h]
  unfold Tr.ns
  rw [List.map_map, List.map_map]
  exact map_zipIdx' _ _ 0
def encZ (t : Tr) (b g : List Nat) (q : Sk × Nat) : PV := .tup [.str q.1.nm, eN (lv t.ns b q.1.nm), eN (lv t.ns g q.1.nm)]
theorem zip3_names {t : Tr} (nd : t.ns.Nodup) {b g : List Nat} (h : t.ns.length = b.length) (h' : t.ns.length = g.length) : iZip3 [.lst (t.ns.map PV.str), eB b, eB g] = .ok (t.sk.zipIdx.map (encZ t b g)) := by
  show Res.ok (zip3P (t.ns.map PV.str) (b.map eN) (g.map eN)) = _
  rw [names_zip, eN_names nd h, eN_names nd h', zip3P_map]
  rfl
/-- the first one found ends the turn -/
theorem sForL_brk {β : Type} {pt : Pat} {b : Om → SR} (enc : β → PV) (Inv : Om → Prop) (c : β → Bool) (r : β → Om → Prop) : ∀ (xs : List β) (ω : Om), Inv ω →
    (∀ x ∈ xs, ∀ ω, Inv ω → ∃ ω1, patO ω pt (enc x) = some ω1 ∧ ((c x = true ∧ ∃ ω2, b ω1 = .bk ω2 ∧ r x ω2) ∨ (c x = false ∧ ∃ ω2, b ω1 = .nx ω2 ∧ Inv ω2))) →
    (∃ x ω', xs.find? c = some x ∧ sForL pt b (xs.map enc) ω = .nx ω' ∧ r x ω') ∨ (xs.find? c = none ∧ ∃ ω', sForL pt b (xs.map enc) ω = .nx ω' ∧ Inv ω')
  | [], ω, h, _ => .inr ⟨rfl, ω, by simp [sForL], h⟩
  | x :: xs, ω, h, k => by
    obtain ⟨ω1, e1, z⟩ := k x List.mem_cons_self ω h
    rw [List.map_cons, sForL, e1]
    rcases z with ⟨c1, ω2, e2, hr⟩ | ⟨c1, ω2, e2, h2⟩
    · exact .inl ⟨x, ω2, by simp [c1], by simp [e2], hr⟩
    · have ih := sForL_brk enc Inv c r xs ω2 h2 fun y m => k y (List.mem_cons_of_mem _ m)
      simp only [e2, List.find?_cons, c1]
      exact ih
inductive Path (t : Tr) : List Nat → List (Sk × Nat) → List Nat → Prop
  | nil (b : List Nat) : Path t b [] b
  | cons {b g : List Nat} {q : Sk × Nat} {W : List (Sk × Nat)} : t.sk[q.2]? = some q.1 → upOk t b q.2 q.1 999 = true → Path t (upAt b q.2) W g → Path t b (q :: W) g
def nmsW (W : List (Sk × Nat)) : List PV := W.map fun q => .str q.1.nm
theorem way_turn {t : Tr} (v : Vt t) {b g : List Nat} (hb : Bd t b) (hg : Bd t g) (hle : LeB b g) {ns : List PV} (hn : ns.length < 1000) {q : Sk × Nat} (hq : nextT t 999 g b = some q) (o4 o5 o6 : Option SV) :
    ∃ o4' o5' o6', b_way_2 [some (.v (eT t)), some (.v (eB g)), some (.v (eB b)), some (.l ns), o4, o5, o6] = .nx [some (.v (eT t)), some (.v (eB g)), some (.v (eB (upAt b q.2))), some (.l (ns ++ [.str q.1.nm])), o4', o5', o6'] := by
  have hl := levels_of_ok v.nd hb.len
  have key := sForL_brk (pt := .tp [4, 5, 6]) (b := b_way_1) (encZ t b g) (fun ω => ∃ p4 p5 p6, ω = [some (.v (eT t)), some (.v (eB g)), some (.v (eB b)), some (.l ns), p4, p5, p6]) (wayC t g b)
    (fun x ω => ∃ p4 p5 p6, ω = [some (.v (eT t)), some (.v (eB g)), some (.v (eB (upAt b x.2))), some (.l (ns ++ [.str x.1.nm])), p4, p5, p6]) t.sk.zipIdx
    [some (.v (eT t)), some (.v (eB g)), some (.v (eB b)), some (.l ns), o4, o5, o6] ⟨_, _, _, rfl⟩ (fun x mx ω ⟨p4, p5, p6, eo⟩ => by
      subst eo
      have e := zip_get mx
      have ms := List.mem_of_getElem? e
      have hk := lacking_ok v.toWf hb.len ms
      have hw := with_level_ok v hb.len e
      refine ⟨[some (.v (eT t)), some (.v (eB g)), some (.v (eB b)), some (.l ns), some (.v (.str x.1.nm)), some (.v (eN (lv t.ns b x.1.nm))), some (.v (eN (lv t.ns g x.1.nm)))], rfl, ?_⟩
      unfold wayC b_way_1
      by_cases z : lv t.ns b x.1.nm < lv t.ns g x.1.nm
      · by_cases y : lackT t b x.1.nm = []
        · refine .inl ⟨by simp [z, y], [some (.v (eT t)), some (.v (eB g)), some (.v (eB (upAt b x.2))), some (.l (ns ++ [.str x.1.nm])), some (.v (.str x.1.nm)), some (.v (eN (lv t.ns b x.1.nm))), some (.v (eN (lv t.ns g x.1.nm)))], ?_, _, _, _, rfl⟩
          simp [eN, z, hl, hk, y, opEq_nil' Fl_eW, hw]
          rw [show opEq (.lst []) (.lst []) = .ok (.bl true) by have := opEq_nil' (f := eW) Fl_eW (by omega) []; simpa using this]
          simp [hw]
          rw [sApp_go (xs := ns) (p := .str x.1.nm) (by simp) (by simp) (by omega)]
          simp [eN]
          rfl
        · refine .inr ⟨by simp [y], [some (.v (eT t)), some (.v (eB g)), some (.v (eB b)), some (.l ns), some (.v (.str x.1.nm)), some (.v (eN (lv t.ns b x.1.nm))), some (.v (eN (lv t.ns g x.1.nm)))], ?_, _, _, _, rfl⟩
          simp [eN, z, hl, hk, y, opEq_nil' Fl_eW]
      · refine .inr ⟨by simp [z], [some (.v (eT t)), some (.v (eB g)), some (.v (eB b)), some (.l ns), some (.v (.str x.1.nm)), some (.v (eN (lv t.ns b x.1.nm))), some (.v (eN (lv t.ns g x.1.nm)))], ?_, _, _, _, rfl⟩
        simp [eN, z])
  have hz := zip3_names v.nd hb.len hg.len
  unfold b_way_2
  rw [way_find v hb hg hle, hq] at key
  rcases key with ⟨x, ω', e1, e2, p4, p5, p6, rfl⟩ | ⟨e1, _⟩
  · cases e1
    refine ⟨p4, p5, p6, ?_⟩
    simp only [sFor_ap, frz_nil, hid_cons, hid_nil, hidO_v, fZip3, aCons_ap, aNil_ap, eCall_ap, eV_ap, List.getElem?_cons_zero, List.getElem?_cons_succ, Res.bind_ok, names_of_ok, hz, SR.of_ok, e2]
  · cases e1
theorem way_loop {t : Tr} (v : Vt t) {g : List Nat} (hg : Bd t g) : ∀ (n : Nat) (b : List Nat) (ns : List PV) (o4 o5 o6 : Option SV), Bd t b → LeB b g → g.sum - b.sum < n → ns.length + (g.sum - b.sum) < 1000 →
    ∃ W o4' o5' o6', Path t b W g ∧ W.length = g.sum - b.sum ∧ sWhl (eTru (eBin opNe (eV 2) (eV 1))) b_way_2 n [some (.v (eT t)), some (.v (eB g)), some (.v (eB b)), some (.l ns), o4, o5, o6] = .nx [some (.v (eT t)), some (.v (eB g)), some (.v (eB g)), some (.l (ns ++ nmsW W)), o4', o5', o6']
  | 0, _, _, _, _, _, _, _, h, _ => by omega
  | n + 1, b, ns, o4, o5, o6, hb, hle, hn, hs => by
    rw [sWhl]
    have et : evT (eTru (eBin opNe (eV 2) (eV 1))) [some (.v (eT t)), some (.v (eB g)), some (.v (eB b)), some (.l ns), o4, o5, o6] = .ok (!decide (b = g)) := by
      simp [evT, opNe_B]
    rw [et]
    by_cases z : b = g
    · subst z
      exact ⟨[], o4, o5, o6, .nil b, by simp, by simp [nmsW]⟩
    · cases hq : nextT t 999 g b with
      | none => exact absurd (next_ex v hb hg hle (Nat.le_trans (cost_bd v hg) (by omega)) hq) z
      | some q =>
        obtain ⟨e, hb', hle', hsum⟩ := next_step v hb hg hle hq
        have hsm := sum_le (by rw [← hb'.len, ← hg.len]) hle'
        obtain ⟨p4, p5, p6, et⟩ := way_turn v hb hg hle (ns := ns) (by omega) hq o4 o5 o6
        obtain ⟨W, o4', o5', o6', hW, hWl, eW⟩ := way_loop v hg n (upAt b q.2) (ns ++ [.str q.1.nm]) p4 p5 p6 hb' hle' (by omega) (by simp; omega)
        have hu : upOk t b q.2 q.1 999 = true := by
          have := List.find?_some hq
          unfold nxC at this
          exact (Bool.and_eq_true_iff.mp this).2
        refine ⟨q :: W, o4', o5', o6', .cons e hu hW, by simp [hWl]; omega, ?_⟩
        simp only [SR.of_ok, z, decide_false, Bool.not_false, if_true, et, eW]
        simp [nmsW]
theorem sum_bd {t : Tr} (v : Vt t) {g : List Nat} (hg : Bd t g) : g.sum ≤ 18 := Nat.le_trans (sum_le (by rw [← hg.len, ← mosts_len]) ((lev_mosts hg.len).mp hg.lev)) (mosts_sum v)
theorem Bd.zeros (t : Tr) : Bd t (zerosT t) := Bd.zero t
theorem way_ok {t : Tr} (v : Vt t) {g : List Nat} (hg : Bd t g) : ∃ W, Path t (zerosT t) W g ∧ W.length = g.sum ∧ f_way [eT t, eB g] = .ok (.lst (nmsW W)) := by
  have h18 := sum_bd v hg
  have hz : (zerosT t).sum = 0 := by simp [zerosT]
  obtain ⟨W, o4, o5, o6, hW, hl, e⟩ := way_loop v hg 40 (zerosT t) [] none none none (Bd.zeros t) (zeros_le t g) (by omega) (by simp; omega)
  refine ⟨W, hW, by omega, ?_⟩
  have hb := need_build_ok v hg.len hg.lev hg.hol
  have hgl : g.length = t.sk.length := by rw [← hg.len]; simp [Tr.ns]
  have hz : opMul (.tup [.int 0]) (.int (t.sk.length : Nat)) = .ok (eB (zerosT t)) := zeros_ok v.lo v.hi
  show endR (m_way [some (.v (eT t)), some (.v (eB g)), none, none, none, none, none]) = _
  unfold m_way sParN
  have hlen : bLen [eB g] = .ok (.int (t.sk.length : Nat)) := by rw [← hgl]; simp [bLen, eB]
  simp [hb, hlen, hz]
  simp at e
  rw [e]
  simp
/-! rows of names judged -/
def runW (t : Tr) : List Nat → List (Sk × Nat) → Option (List Nat)
  | b, [] => some b
  | b, q :: W => if upOk t b q.2 q.1 999 = true then runW t (upAt b q.2) W else none
theorem Path.run {t : Tr} {b g : List Nat} {W : List (Sk × Nat)} (h : Path t b W g) : runW t b W = some g := by
  induction h with
  | nil b => rfl
  | cons e hu _ ih => unfold runW; rw [if_pos hu]; exact ih
theorem run_append {t : Tr} : ∀ (W W' : List (Sk × Nat)) (b : List Nat), runW t b (W ++ W') = (runW t b W).bind fun c => runW t c W'
  | [], W', b => rfl
  | q :: W, W', b => by
    simp only [List.cons_append, runW]
    split
    · exact run_append W W' _
    · rfl
theorem run_len {t : Tr} : ∀ {W : List (Sk × Nat)} {b c : List Nat}, (∀ q ∈ W, t.sk[q.2]? = some q.1) → t.ns.length = b.length → runW t b W = some c → t.ns.length = c.length
  | [], b, c, _, h, e => by cases e; exact h
  | q :: W, b, c, hW, h, e => by
    unfold runW at e
    split at e
    · exact run_len (fun q m => hW q (List.mem_cons_of_mem _ m)) (up_len h (hW q List.mem_cons_self)).2 e
    · cases e
theorem is_way_loop {t : Tr} (v : Vt t) {G R : PV} : ∀ (W : List (Sk × Nat)) (b : List Nat) (o4 : Option SV), (∀ q ∈ W, t.sk[q.2]? = some q.1) → t.ns.length = b.length →
    (∃ c o4', runW t b W = some c ∧ sForL (.nm 4) b_is_way_1 (nmsW W) [some (.v (eT t)), some (.v G), some (.v R), some (.v (eB b)), o4] = .nx [some (.v (eT t)), some (.v G), some (.v R), some (.v (eB c)), o4']) ∨
    (runW t b W = none ∧ sForL (.nm 4) b_is_way_1 (nmsW W) [some (.v (eT t)), some (.v G), some (.v R), some (.v (eB b)), o4] = .rt (.bl false))
  | [], b, o4, _, _ => .inl ⟨b, o4, rfl, rfl⟩
  | q :: W, b, o4, hW, h => by
    have e := hW q List.mem_cons_self
    have hw := with_level_ok v h e
    have hl : ∀ ρ : Rho, ρ[0]? = some (some (eT t)) → ρ[3]? = some (some (eB b)) → ρ[4]? = some (some (.str q.1.nm)) → eLet cs_is_let (eCall f_check_up (aCons (eV 0) (aCons (eV 3) (aCons (eV 4) (aCons (eC k_MOST_POINTS) aNil))))) ρ = .ok (.bl (upOk t b q.2 q.1 999)) := fun ρ h0 h3 h4 => by
      have := check_up_key v h e 999
      rw [let_rW (o := upWord t b q.2 q.1 999) (fun w hw => upWord_mem hw) _ _ (by simp [h0, h3, h4, k_MOST_POINTS]; exact this), isNone_up]
    have ep : patO [some (.v (eT t)), some (.v G), some (.v R), some (.v (eB b)), o4] (.nm 4) (.str q.1.nm) = some [some (.v (eT t)), some (.v G), some (.v R), some (.v (eB b)), some (.v (.str q.1.nm))] := rfl
    unfold nmsW
    rw [List.map_cons, sForL, ep]
    unfold runW
    cases z : upOk t b q.2 q.1 999 with
    | false =>
      refine .inr ⟨by simp, ?_⟩
      have : b_is_way_1 [some (.v (eT t)), some (.v G), some (.v R), some (.v (eB b)), some (.v (.str q.1.nm))] = .rt (.bl false) := by
        unfold b_is_way_1
        simp [hl, z]
      simp only [this]
    | true =>
      have : b_is_way_1 [some (.v (eT t)), some (.v G), some (.v R), some (.v (eB b)), some (.v (.str q.1.nm))] = .nx [some (.v (eT t)), some (.v G), some (.v R), some (.v (eB (upAt b q.2))), some (.v (.str q.1.nm))] := by
        unfold b_is_way_1
        simp [hl, z, hw]
      simp only [this, if_true]
      exact is_way_loop v W (upAt b q.2) _ (fun q m => hW q (List.mem_cons_of_mem _ m)) (up_len h e).2
theorem is_way_ok {t : Tr} (v : Vt t) {g : List Nat} (hg : Bd t g) {W : List (Sk × Nat)} (hW : ∀ q ∈ W, t.sk[q.2]? = some q.1) : f_is_way [eT t, eB g, .lst (nmsW W)] = .ok (.bl (decide (runW t (zerosT t) W = some g))) := by
  have hb := need_build_ok v hg.len hg.lev hg.hol
  have hgl : g.length = t.sk.length := by rw [← hg.len]; simp [Tr.ns]
  have hz : opMul (.tup [.int 0]) (.int (t.sk.length : Nat)) = .ok (eB (zerosT t)) := zeros_ok v.lo v.hi
  have hlen : bLen [eB g] = .ok (.int (t.sk.length : Nat)) := by rw [← hgl]; simp [bLen, eB]
  have q : lcRun (.nm 4) bYes (eAnd (eIsi "str" (eV 4)) (eBin (opIn false) (eV 4) (eCall f_names_of (aCons (eV 0) aNil)))) [some (eT t), some (eB g), some (.lst (nmsW W)), some (eB (zerosT t)), none] (nmsW W) = .ok (W.map fun _ => .bl true) := by
    unfold nmsW
    rw [lcRun_ok1 (fun q : Sk × Nat => PV.str q.1.nm) (fun _ => .bl true) W (fun q mq => ⟨_, rfl, ?_⟩)]
    have hm : q.1.nm ∈ t.ns := List.mem_map.mpr ⟨q.1, List.mem_of_getElem? (hW q mq), rfl⟩
    have hin := opIn_encs (f := PV.str) (n := 1) (fun _ => rfl) (fun a b e => by cases e; rfl) Fl_str (by omega) false q.1.nm t.ns
    simp [isDT, isiPV, isiS, tyN, names_of_ok, hin, hm]
  have ha : bAll [.lst (W.map fun _ => PV.bl true)] = .ok (.bl true) := by
    have : boolsOf (W.map fun _ => PV.bl true) = some (W.map fun _ => true) := by
      clear q hW
      induction W with
      | nil => rfl
      | cons a l ih => simp only [List.map_cons, boolsOf, ih]; rfl
    simp [bAll, this]
  show endR (m_is_way [some (.v (eT t)), some (.v (eB g)), some (.v (.lst (nmsW W))), none, none]) = _
  unfold m_is_way
  have lp := is_way_loop v (G := eB g) (R := .lst (nmsW W)) W (zerosT t) none hW (zerosT_len t)
  rcases lp with ⟨c, o4, e1, e2⟩ | ⟨e1, e2⟩
  · simp [hb, hlen, hz, isDT, isiPV, isiS, tyN, q, ha, e2, e1, opEq_B]
  · simp [hb, hlen, hz, isDT, isiPV, isiS, tyN, q, ha, e2, e1]
end Pv.LW
end
section
set_option linter.all false
set_option maxRecDepth 100000
namespace Pv.LW
open PySem Pv
/-! ### what is told -/
theorem told_ok {cs : List Str} {o : Option Str} {x : PV} (h : ∀ w, o = some w → w ∈ cs) (f : Rho → Res PV) (ρ : Rho) (e : f ρ = rX o x) : eTold cs f ρ = .ok (tX o x) := by
  unfold eTold
  rw [e]
  cases o with
  | none => rfl
  | some w => show (if w ∈ cs then Res.ok (PV.str w) else .bad) = _; rw [if_pos (h w rfl)]; rfl
theorem let_word {w : Str} (h : w ∈ cs_is_let) : w ∈ cs_word := by
  revert w
  decide
theorem opNe_bl (x y : Bool) : opNe (.bl x) (.bl y) = .ok (.bl (xor x y)) := by cases x <;> cases y <;> rfl
theorem opEq_bl (x y : Bool) : opEq (.bl x) (.bl y) = .ok (.bl (x == y)) := by cases x <;> cases y <;> rfl
theorem opIn_strs (neg : Bool) (x : Str) (xs : List Str) : opIn neg (.str x) (.lst (xs.map PV.str)) = .ok (.bl (xor neg (decide (x ∈ xs)))) :=
  opIn_encs (f := PV.str) (n := 1) (fun _ => rfl) (fun a b e => by cases e; rfl) Fl_str (by omega) neg x xs
theorem mem_zip {t : Tr} (nd : t.ns.Nodup) {i : Nat} {s : Sk} (e : t.sk[i]? = some s) (c : Sk × Nat → Bool) : s.nm ∈ ((t.sk.zipIdx.filter c).map fun q => q.1.nm) ↔ c (s, i) = true := by
  simp only [List.mem_map, List.mem_filter]
  constructor
  · rintro ⟨q, ⟨mq, hc⟩, hn⟩
    have eq := zip_get mq
    have h1 : q.1 = s := sk_uniq nd (List.mem_of_getElem? e) (List.mem_of_getElem? eq) hn
    have h2 : q.2 = i := by
      have a := ixS_at nd (show t.ns[q.2]? = some q.1.nm by simp [Tr.ns, eq])
      have b := ixS_at nd (show t.ns[i]? = some s.nm by simp [Tr.ns, e])
      rw [hn] at a
      omega
    have : q = (s, i) := by cases q; simp at h1 h2; rw [h1, h2]
    rw [← this]; exact hc
  · intro h
    exact ⟨(s, i), ⟨by rw [List.mem_zipIdx_iff_getElem?]; exact e, h⟩, rfl⟩
/-! ### a step up and a step down -/
theorem lv_dn {t : Tr} (nd : t.ns.Nodup) {b : List Nat} (h : t.ns.length = b.length) {i : Nat} {s : Sk} (e : t.sk[i]? = some s) {s' : Sk} (m : s' ∈ t.sk) : lv t.ns (dnAt b i) s'.nm = if s'.nm = s.nm then lv t.ns b s.nm - 1 else lv t.ns b s'.nm := by
  have hi := (up_len h e).1
  obtain ⟨j, hj, ej⟩ := List.mem_iff_getElem.mp m
  have ej' : t.sk[j]? = some s' := by rw [List.getElem?_eq_getElem hj, ej]
  rw [lv_get nd (dn_len h e) ej', lv_get nd h ej', lv_get nd h e, dnAt_get hi]
  by_cases hji : j = i
  · subst hji
    rw [e] at ej'; cases ej'
    simp
  · have hne : s'.nm ≠ s.nm := fun z => by
      have a := ixS_at nd (show t.ns[j]? = some s'.nm by simp [Tr.ns, ej'])
      have b := ixS_at nd (show t.ns[i]? = some s.nm by simp [Tr.ns, e])
      rw [z] at a
      omega
    rw [if_neg hji, if_neg hne]
theorem dn_le {b : List Nat} {i : Nat} (h : i < b.length) : LeB (dnAt b i) b := fun j => by
  rw [dnAt_get h]
  split
  · rename_i z; subst z; omega
  · exact Nat.le_refl _
theorem Bd.up {t : Tr} (v : Vt t) {b : List Nat} (hb : Bd t b) {i : Nat} {s : Sk} (e : t.sk[i]? = some s) {p : Nat} (hu : upOk t b i s p = true) : Bd t (upAt b i) ∧ costT t (upAt b i) ≤ p := by
  unfold upOk at hu
  simp only [Bool.and_eq_true, Bool.not_eq_true', decide_eq_false_iff_not, decide_eq_true_eq] at hu
  obtain ⟨⟨⟨h1, h2⟩, h3⟩, h4⟩ := hu
  have ms := List.mem_of_getElem? e
  have hlt : lv t.ns b s.nm < lv t.ns (mosts t) s.nm := by
    have := lv_le (x := s.nm) hb.len (mosts_len t) ((lev_mosts hb.len).mp hb.lev)
    rw [lv_mosts v.nd ms] at this ⊢
    omega
  have hup := up_le v.nd hb.len (mosts_len t) ((lev_mosts hb.len).mp hb.lev) e hlt
  exact ⟨⟨(up_len hb.len e).2, (lev_mosts (up_len hb.len e).2).mpr hup, h3⟩, h4⟩
theorem Bd.dn {t : Tr} {b : List Nat} (hb : Bd t b) {i : Nat} {s : Sk} (e : t.sk[i]? = some s) (hd : dnOk t b i s = true) : Bd t (dnAt b i) ∧ 0 < lv t.ns b s.nm := by
  unfold dnOk at hd
  simp only [Bool.and_eq_true, decide_eq_true_eq] at hd
  exact ⟨⟨dn_len hb.len e, levT_le (dn_len hb.len e) hb.len (dn_le (up_len hb.len e).1) hb.lev, hd.2⟩, hd.1⟩
theorem dn_of_up {t : Tr} (v : Vt t) {b : List Nat} (hb : Bd t b) {i : Nat} {s : Sk} (e : t.sk[i]? = some s) : dnOk t (upAt b i) i s = true := by
  unfold dnOk
  have hi := (up_len hb.len e).1
  rw [up_dn hi, hb.hol, lv_up v.nd hb.len e (List.mem_of_getElem? e)]
  simp
theorem up_of_dn {t : Tr} (v : Vt t) {b : List Nat} (hb : Bd t b) {i : Nat} {s : Sk} (e : t.sk[i]? = some s) (hd : dnOk t b i s = true) {p : Nat} (hp : costT t b ≤ p) : upOk t (dnAt b i) i s p = true := by
  obtain ⟨hd', hp0⟩ := hb.dn e hd
  have hi := (up_len hb.len e).1
  have ms := List.mem_of_getElem? e
  have hpos : 0 < b.getD i 0 := by rw [← lv_get v.nd hb.len e]; exact hp0
  have hlt : lv t.ns (dnAt b i) s.nm < lv t.ns b s.nm := by rw [lv_dn v.nd hb.len e ms, if_pos rfl]; omega
  refine up_under v hd' hb (dn_le hi) hp e hlt ((lack_nil v.nd ms).mpr fun w mw => ?_)
  have k := ((holds_iff v.toWf b).mp hb.hol).2 s ms hp0 w mw
  obtain ⟨r, hr⟩ := v.rk
  obtain ⟨s2, ms2, e2, _⟩ := v.wlv s ms w mw
  have hne : s2.nm ≠ s.nm := fun z => by
    have := hr s ms w mw
    rw [← e2, z] at this
    omega
  have := lv_dn v.nd hb.len e ms2
  rw [if_neg hne, e2] at this
  rw [this]; exact k
theorem dns_nil {t : Tr} (v : Vt t) {b : List Nat} (hb : Bd t b) : dnsN t b = [] ↔ b.sum = 0 := by
  constructor
  · intro h
    refine Classical.byContradiction fun hne => ?_
    obtain ⟨r, hr⟩ := v.rk
    have hL : (t.sk.filter fun s => decide (0 < lv t.ns b s.nm)) ≠ [] := fun z => by
      rw [List.filter_eq_nil_iff] at z
      refine hne ?_
      have : b = zerosT t := LeB.antisymm (by rw [← hb.len, ← zerosT_len]) (le_of_lv v.nd hb.len (zerosT_len t) fun x mx => by
        obtain ⟨s', ms', rfl⟩ := List.mem_map.mp mx
        have := z s' ms'
        simp only [decide_eq_true_eq] at this
        omega) (zeros_le t b)
      rw [this]; simp [zerosT]
    obtain ⟨s, ms, hmax⟩ := exists_min (fun s : Sk => 1000000 + t.sk.length + (t.sk.map fun s => r s.nm).sum - r s.nm) _ hL
    rw [List.mem_filter, decide_eq_true_eq] at ms
    obtain ⟨ms, hpos⟩ := ms
    have hrs : ∀ s' ∈ t.sk, r s'.nm ≤ (t.sk.map fun s => r s.nm).sum := fun s' ms' => by
      have : ∀ (l : List Nat) (x : Nat), x ∈ l → x ≤ l.sum := fun l => by
        induction l with
        | nil => intro x m; cases m
        | cons a l ih =>
          intro x m
          simp only [List.sum_cons]
          rcases List.mem_cons.mp m with rfl | m
          · omega
          · have := ih x m; omega
      exact this _ _ (List.mem_map.mpr ⟨s', ms', rfl⟩)
    have hmax' : ∀ s' ∈ t.sk, 0 < lv t.ns b s'.nm → r s'.nm ≤ r s.nm := fun s' ms' hp => by
      have h1 := hmax s' (List.mem_filter.mpr ⟨ms', decide_eq_true hp⟩)
      have h2 := hrs s' ms'
      have h3 := hrs s ms
      omega
    obtain ⟨i, hi, ei⟩ := List.mem_iff_getElem.mp ms
    have e : t.sk[i]? = some s := by rw [List.getElem?_eq_getElem hi, ei]
    have kb := (holds_iff v.toWf b).mp hb.hol
    have hib := (up_len hb.len e).1
    have hh : holdsT t (dnAt b i) = true := (holds_iff v.toWf _).mpr ⟨clash_le (dn_len hb.len e) hb.len (dn_le hib) kb.1, fun s' ms' hp w mw => by
      have hpb : 0 < lv t.ns b s'.nm := Nat.lt_of_lt_of_le hp (lv_le (dn_len hb.len e) hb.len (dn_le hib))
      have k := kb.2 s' ms' hpb w mw
      obtain ⟨s2, ms2, e2, _⟩ := v.wlv s' ms' w mw
      have hne : s2.nm ≠ s.nm := fun z => by
        have h1 := hr s' ms' w mw
        have h2 := hmax' s' ms' hpb
        rw [← e2, z] at h1
        omega
      have := lv_dn v.nd hb.len e ms2
      rw [if_neg hne, e2] at this
      rw [this]; exact k⟩
    have hd : dnOk t b i s = true := by unfold dnOk; simp [hpos, hh]
    have := (mem_zip v.nd e fun q => dnOk t b q.2 q.1).mpr hd
    unfold dnsN at h
    rw [h] at this
    cases this
  · intro h
    unfold dnsN
    rw [List.map_eq_nil_iff, List.filter_eq_nil_iff]
    intro q mq hd
    have e := zip_get mq
    have h1 := (hb.dn e hd).2
    rw [lv_get v.nd hb.len e] at h1
    have hi := (up_len hb.len e).1
    have : b.getD q.2 0 ≤ b.sum := by
      rw [List.getD_eq_getElem?_getD, List.getElem?_eq_getElem hi]
      have key : ∀ (l : List Nat) (x : Nat), x ∈ l → x ≤ l.sum := fun l => by
        induction l with
        | nil => intro x m; cases m
        | cons a l ih =>
          intro x m
          simp only [List.sum_cons]
          rcases List.mem_cons.mp m with rfl | m
          · omega
          · have := ih x m; omega
      exact key _ _ (List.getElem_mem hi)
    omega
theorem cost_up {t : Tr} (v : Vt t) {b : List Nat} (h : t.ns.length = b.length) {i : Nat} {s : Sk} (e : t.sk[i]? = some s) : 0 < costT t (upAt b i) := by
  unfold costT
  have hi := (up_len h e)
  have hg := upAt_get hi.1 i
  rw [if_pos rfl] at hg
  have hlt : i < (upAt b i).length := by rw [upAt_len hi.1]; exact hi.1
  have hgi : (upAt b i)[i] = b.getD i 0 + 1 := by rw [List.getD_eq_getElem?_getD, List.getElem?_eq_getElem hlt] at hg; exact hg
  have his : i < t.sk.length := (List.getElem?_eq_some_iff.mp e).1
  have hm : ((upAt b i)[i], s) ∈ (upAt b i).zip t.sk := by
    have hz : i < ((upAt b i).zip t.sk).length := by simp; omega
    have : ((upAt b i).zip t.sk)[i] = ((upAt b i)[i], t.sk[i]) := List.getElem_zip
    rw [show s = t.sk[i] from ((List.getElem?_eq_some_iff.mp e).2).symm, ← this]
    exact List.getElem_mem hz
  have key : ∀ (l : List Nat) (x : Nat), x ∈ l → x ≤ l.sum := fun l => by
    induction l with
    | nil => intro x m; cases m
    | cons a l ih =>
      intro x m
      simp only [List.sum_cons]
      rcases List.mem_cons.mp m with rfl | m
      · omega
      · have := ih x m; omega
  have h1 := key _ _ (List.mem_map.mpr ⟨_, hm, rfl⟩ : (upAt b i)[i] * s.pr ∈ ((upAt b i).zip t.sk).map fun p => p.1 * p.2.pr)
  have hpr := (v.pr s (List.mem_of_getElem? e)).1
  have h2 : 1 ≤ (upAt b i)[i] * s.pr := by
    rw [hgi]
    exact Nat.mul_le_mul (show 1 ≤ b.getD i 0 + 1 by omega) hpr
  omega
theorem ups_zero {t : Tr} (v : Vt t) {b : List Nat} (h : t.ns.length = b.length) : upsN t b 0 = [] := by
  unfold upsN
  rw [List.map_eq_nil_iff, List.filter_eq_nil_iff]
  intro q mq hu
  have := cost_up v h (zip_get mq)
  unfold upOk at hu
  simp at hu
  omega
theorem up_rich {t : Tr} {b : List Nat} {i : Nat} {s : Sk} {p p' : Nat} (h : upOk t b i s p = true) (hp : p ≤ p') : upOk t b i s p' = true := by
  unfold upOk at h ⊢
  simp only [Bool.and_eq_true, decide_eq_true_eq] at h ⊢
  exact ⟨h.1, by omega⟩
theorem Path.mem {t : Tr} {b g : List Nat} {W : List (Sk × Nat)} (h : Path t b W g) : ∀ q ∈ W, t.sk[q.2]? = some q.1 := by
  induction h with
  | nil b => intro q m; cases m
  | cons e _ _ ih =>
    intro q m
    rcases List.mem_cons.mp m with rfl | m
    · exact e
    · exact ih q m
end Pv.LW
end
section
set_option linter.all false
set_option maxRecDepth 100000
set_option maxHeartbeats 1000000
namespace Pv.LW
open PySem Pv
theorem iT_B (b : List Nat) : isDT (eB b) = false ∧ isiPV "tuple" (eB b) = true := ⟨rfl, rfl⟩
theorem iT_S (w : Str) : isDT (.str w) = false ∧ isiPV "tuple" (.str w) = false := ⟨rfl, rfl⟩
theorem opGt_nn (x y : Nat) : opGt (.int (x : Nat)) (.int (y : Nat)) = .ok (.bl (decide (y < x))) := by
  simp
def tS (a0 a1 a2 : Option SV) (t : Tr) (a4 a5 : Option SV) (b : List Nat) (p : Nat) (a10 a11 a12 a13 : Option SV) : Om := [a0, a1, a2, some (.v (eT t)), a4, a5, some (.v (eB b)), some (.v (.int (p : Nat))), some (.v (.lst ((upsN t b p).map PV.str))), some (.v (.lst ((dnsN t b).map PV.str))), a10, a11, a12, a13]
theorem k22_1 {t : Tr} (v : Vt t) {b : List Nat} (hb : Bd t b) {p : Nat} (hp : p ≤ 999) {i : Nat} {s : Sk} (e : t.sk[i]? = some s) (a0 a1 a2 a4 a5 a11 a12 a13 : Option SV) :
    ∃ c11 c12 c13, b_law_1 (tS a0 a1 a2 t a4 a5 b p (some (.v (.str s.nm))) a11 a12 a13) = .nx (tS a0 a1 a2 t a4 a5 b p (some (.v (.str s.nm))) c11 c12 c13) := by
  unfold tS
  have m1 := mem_zip v.nd e fun q => upOk t b q.2 q.1 p
  have m2 := mem_zip v.nd e fun q => dnOk t b q.2 q.1
  have i1 := opIn_strs false s.nm (upsN t b p)
  have i2 := opIn_strs false s.nm (dnsN t b)
  have k1 := learned_ok v hb e hp
  have k2 := lessened_ok v hb e
  have w1 : ∀ w, upWord t b i s p = some w → w ∈ cs_word := fun w h => let_word (upWord_mem h)
  have w2 : ∀ w, dnWord t b i s = some w → w ∈ cs_word := fun w h => let_word (dnWord_mem h)
  have T1 : ∀ ρ : Rho, ρ[3]? = some (some (eT t)) → ρ[6]? = some (some (eB b)) → ρ[10]? = some (some (.str s.nm)) → ρ[7]? = some (some (.int (p : Nat))) → eTold cs_word (eCall f_learned (aCons (eV 3) (aCons (eV 6) (aCons (eV 10) (aCons (eV 7) aNil))))) ρ = .ok (tX (upWord t b i s p) (eB (upAt b i))) := fun ρ h3 h6 h10 h7 =>
    told_ok w1 _ _ (by simp [h3, h6, h10, h7, k1])
  have T2 : ∀ ρ : Rho, ρ[3]? = some (some (eT t)) → ρ[6]? = some (some (eB b)) → ρ[10]? = some (some (.str s.nm)) → eTold cs_word (eCall f_lessened (aCons (eV 3) (aCons (eV 6) (aCons (eV 10) aNil)))) ρ = .ok (tX (dnWord t b i s) (eB (dnAt b i))) := fun ρ h3 h6 h10 =>
    told_ok w2 _ _ (by simp [h3, h6, h10, k2])
  -- above
  have U : upWord t b i s p = none → f_is_build [eT t, eB (upAt b i)] = .ok (.bl true) ∧ f_lessened [eT t, eB (upAt b i), .str s.nm] = .ok (eB b) ∧ f_cost [eT t, eB (upAt b i)] = .ok (.int (costT t (upAt b i) : Nat)) ∧ costT t (upAt b i) ≤ p ∧
      ∃ W, f_way [eT t, eB b] = .ok (.lst (nmsW W)) ∧ opAdd (.lst (nmsW W)) (.lst [.str s.nm]) = .ok (.lst (nmsW (W ++ [(s, i)]))) ∧ f_is_way [eT t, eB (upAt b i), .lst (nmsW (W ++ [(s, i)]))] = .ok (.bl true) := fun hu => by
    have hu := upWord_none.mp hu
    obtain ⟨bu, cu⟩ := hb.up v e hu
    obtain ⟨W, hW, hWl, eW⟩ := way_ok v hb
    have hs := sum_bd v hb
    refine ⟨by rw [is_build_ok v bu.len, bu.lev, bu.hol]; rfl, ?_, cost_ok v bu.len bu.lev bu.hol, cu, W, eW, ?_, ?_⟩
    · rw [lessened_ok v bu e, dnWord_none.mpr (dn_of_up v hb e), up_dn (up_len hb.len e).1]; rfl
    · rw [opAdd_ll (by simp [nmsW]; omega)]; simp [nmsW]
    · rw [is_way_ok v bu (fun q m => ?_), run_append, hW.run]
      · simp [runW, up_rich hu hp]
      · rcases List.mem_append.mp m with m | m
        · exact hW.mem q m
        · simp at m; subst m; exact e
  have D : dnWord t b i s = none → f_is_build [eT t, eB (dnAt b i)] = .ok (.bl true) ∧ f_learned [eT t, eB (dnAt b i), .str s.nm, .int (costT t b : Nat)] = .ok (eB b) := fun hd => by
    have hd := dnWord_none.mp hd
    obtain ⟨bd, hpos⟩ := hb.dn e hd
    have hc := cost_bd v hb
    refine ⟨by rw [is_build_ok v bd.len, bd.lev, bd.hol]; rfl, ?_⟩
    rw [learned_ok v bd e (by omega), upWord_none.mpr (up_of_dn v hb e hd (Nat.le_refl _)), dn_up (up_len hb.len e).1 (by rw [← lv_get v.nd hb.len e]; exact hpos)]; rfl
  have hco := cost_ok v hb.len hb.lev hb.hol
  have nB : opNe (eB b) (eB b) = .ok (.bl false) := by rw [opNe_B]; simp
  have m1' : decide (s.nm ∈ upsN t b p) = (upWord t b i s p).isNone := by
    rw [isNone_up]; unfold upsN; rw [Bool.eq_iff_iff]; simp only [decide_eq_true_eq]; exact m1
  have m2' : decide (s.nm ∈ dnsN t b) = (dnWord t b i s).isNone := by
    rw [isNone_dn]; unfold dnsN; rw [Bool.eq_iff_iff]; simp only [decide_eq_true_eq]; exact m2
  rw [m1'] at i1
  rw [m2'] at i2
  generalize upsN t b p = UP at *
  generalize dnsN t b = DN at *
  unfold b_law_1
  cases zu : upWord t b i s p with
  | none =>
    obtain ⟨u1, u2, u3, u4, W, u5, u6, u7⟩ := U zu
    have hgt : ¬ p < costT t (upAt b i) := by omega
    rw [zu] at i1 T1
    cases zd : dnWord t b i s with
    | none =>
      obtain ⟨d1, d2⟩ := D zd
      rw [zd] at i2 T2
      refine ⟨some (.v (eB (upAt b i))), some (.v (eB (dnAt b i))), some (.v (eB b)), ?_⟩
      simp [T1, T2, tX, i1, i2, opNe_bl, iT_B, iT_S, u1, u2, u3, u5, u6, u7, d1, d2, nB, hco, opGt_nn, hgt]
    | some w =>
      rw [zd] at i2 T2
      refine ⟨some (.v (eB (upAt b i))), some (.v (.str w)), a13, ?_⟩
      simp [T1, T2, tX, i1, i2, opNe_bl, iT_B, iT_S, u1, u2, u3, u5, u6, u7, nB, hco, opGt_nn, hgt]
  | some w =>
    rw [zu] at i1 T1
    cases zd : dnWord t b i s with
    | none =>
      obtain ⟨d1, d2⟩ := D zd
      rw [zd] at i2 T2
      refine ⟨some (.v (.str w)), some (.v (eB (dnAt b i))), some (.v (eB b)), ?_⟩
      simp [T1, T2, tX, i1, i2, opNe_bl, iT_B, iT_S, d1, d2, nB, hco]
    | some w' =>
      rw [zd] at i2 T2
      refine ⟨some (.v (.str w)), some (.v (.str w')), a13, ?_⟩
      simp [T1, T2, tX, i1, i2, opNe_bl, iT_B, iT_S]
end Pv.LW
end
section
set_option linter.all false
set_option maxRecDepth 100000
set_option maxHeartbeats 1000000
namespace Pv.LW
open PySem Pv
theorem mod_nat {x : Int} (h : 0 ≤ x) (d m : Nat) (hd : 0 < d) (hm : 0 < m) : ∃ r : Nat, r < m ∧ x / (d : Int) % (m : Int) = (r : Nat) := by
  refine ⟨(x / (d : Int) % (m : Int)).toNat, ?_, ?_⟩
  · have h1 := Int.emod_lt_of_pos (x / (d : Int)) (show (0 : Int) < m by omega)
    have h2 := Int.emod_nonneg (x / (d : Int)) (show (m : Int) ≠ 0 by omega)
    omega
  · have h2 := Int.emod_nonneg (x / (d : Int)) (show (m : Int) ≠ 0 by omega)
    omega
theorem bSum_B (b : List Nat) : bSum [eB b] = .ok (.int (b.sum : Nat)) := by
  show (match intsOf (b.map eN) with | some bs => Res.ok (PV.int bs.sum) | none => .bad) = _
  have := intsOf_map (fun x : Nat => x) b
  have e : (b.map fun x => PV.int ((fun x : Nat => x) x)) = b.map eN := rfl
  rw [e] at this
  rw [this]
  have s := sum_cast (fun x : Nat => x) b
  simp only [List.map_id'] at s
  exact congrArg (fun z => Res.ok (PV.int z)) s
theorem k22_2 {t : Tr} (v : Vt t) {sv : PV} {more : Int} {k j : Nat} (a5 a6 a7 a8 a9 a10 a11 a12 a13 : Option SV) :
    ∃ c5 c6 c7 c8 c9 c10 c11 c12 c13, b_law_2 [some (.v sv), some (.v (eN k)), some (.v (.int more)), some (.v (eT t)), some (.v (eN j)), a5, a6, a7, a8, a9, a10, a11, a12, a13] = .nx [some (.v sv), some (.v (eN k)), some (.v (.int more)), some (.v (eT t)), some (.v (eN j)), c5, c6, c7, c8, c9, c10, c11, c12, c13] := by
  have hd := drawn_ok more (30 + (j : Int))
  have hnn := drawn_nn more (30 + (j : Int))
  generalize drawnZ more (30 + (j : Int)) = X at hd hnn
  obtain ⟨b, hbd, hb⟩ := build_ok v X
  have hco := cost_ok v hb.len hb.lev hb.hol
  obtain ⟨r, hr, er⟩ := mod_nat hnn 64 20 (by omega) (by omega)
  have hmod : opMod (.int (X / 64)) (.int 20) = .ok (.int (r : Nat)) := by
    have := opMod_of (i := X / 64) (j := 20) (by omega)
    rw [this]; congr 2
  have hdiv : opDiv (.int X) (.int 64) = .ok (.int (X / 64)) := opDiv_of (by omega) (by decide)
  obtain ⟨p, hp, hmin⟩ : ∃ p : Nat, p ≤ 999 ∧ bMin2 [.int 999, .int ((costT t b : Nat) + (r : Nat) : Int)] = .ok (.int (p : Nat)) := by
    refine ⟨min 999 (costT t b + r), by omega, ?_⟩
    simp only [bMin2]
    congr 2
    split <;> omega
  have h1 := may_learn_ok v hb hp
  have h2 := may_give_ok v hb
  have h3 := may_learn_ok v hb (p := 0) (by omega)
  rw [ups_zero v hb.len] at h3
  simp at h3
  obtain ⟨ω2, e, c10, c11, c12, c13, rfl⟩ := sForL_pre (pt := .nm 10) (b := b_law_1) (fun q : Sk × Nat => PV.str q.1.nm) (fun pre ω => ∃ c10 c11 c12 c13, ω = tS (some (.v sv)) (some (.v (eN k))) (some (.v (.int more))) t (some (.v (eN j))) (some (.v (.int X))) b p c10 c11 c12 c13)
    t.sk.zipIdx t.sk.zipIdx [] (tS (some (.v sv)) (some (.v (eN k))) (some (.v (.int more))) t (some (.v (eN j))) (some (.v (.int X))) b p a10 a11 a12 a13) rfl ⟨_, _, _, _, rfl⟩
    (fun pre q post ω ep ⟨c10, c11, c12, c13, eo⟩ => by
      subst eo
      have mq : q ∈ t.sk.zipIdx := by rw [← ep]; simp
      obtain ⟨d11, d12, d13, e⟩ := k22_1 v hb hp (zip_get mq) (some (.v sv)) (some (.v (eN k))) (some (.v (.int more))) (some (.v (eN j))) (some (.v (.int X))) c11 c12 c13
      exact ⟨_, _, rfl, e, _, _, _, _, rfl⟩)
  have hlast : opNe (.bl (dnsN t b).isEmpty) (.bl (decide ((b.sum : Nat) = 0))) = .ok (.bl false) := by
    rw [opNe_bl]
    have := dns_nil v hb
    by_cases z : b.sum = 0
    · rw [this.mpr z, z]; rfl
    · have y : dnsN t b ≠ [] := fun h => z (this.mp h)
      cases q : dnsN t b with
      | nil => exact absurd q y
      | cons a l => simp [z]
  have hs := bSum_B b
  refine ⟨some (.v (.int X)), some (.v (eB b)), some (.v (.int (p : Nat))), some (.v (.lst ((upsN t b p).map PV.str))), some (.v (.lst ((dnsN t b).map PV.str))), c10, c11, c12, c13, ?_⟩
  unfold b_law_2
  simp [hd, hbd, hco, hdiv, hmod, hmin, h1, h2, sPar, eN]
  rw [law_names_ok, ]
  simp only [Res.bind_ok, iSeq_lst, SR.of_ok, names_zip]
  unfold tS at e
  simp only [eN] at e
  rw [e]
  simp [opEq_nil' (f := PV.str) Fl_str, hs, hlast, h3]
  simp [opNe_e]
theorem k22_3 {sv : PV} (hcell : ∀ k : Nat, ∃ c : Int, f__law_cell [sv, .int k] = .ok (.int c)) {k : Nat} {a2 a3 a4 a5 a6 a7 a8 a9 a10 a11 a12 a13 : Option SV} : ∃ b2 b3 b4 b5 b6 b7 b8 b9 b10 b11 b12 b13, b_law_3 [some (.v sv), some (.v (eN k)), a2, a3, a4, a5, a6, a7, a8, a9, a10, a11, a12, a13] = .nx [some (.v sv), some (.v (eN k)), b2, b3, b4, b5, b6, b7, b8, b9, b10, b11, b12, b13] := by
  obtain ⟨c, hc⟩ := hcell k
  have hd := drawn_ok c (k : Int)
  generalize drawnZ c (k : Int) = X at hd
  obtain ⟨t, ht0, v⟩ := tree_ok (X / 64) 6 (by omega) (by omega)
  have ht : f__law_tree [.int (X / 64), .int 6] = .ok (eT t) := ht0
  have hdiv : opDiv (.int X) (.int 64) = .ok (.int (X / 64)) := opDiv_of (by omega) (by decide)
  obtain ⟨ω2, e, j, b5, b6, b7, b8, b9, b10, b11, b12, b13, rfl⟩ := sForL_pre (pt := .nm 4) (b := b_law_2) eN (fun pre ω => ∃ j b5 b6 b7 b8 b9 b10 b11 b12 b13, ω = [some (.v sv), some (.v (eN k)), some (.v (.int X)), some (.v (eT t)), j, b5, b6, b7, b8, b9, b10, b11, b12, b13]) (List.range 5) (List.range 5) [] [some (.v sv), some (.v (eN k)), some (.v (.int X)), some (.v (eT t)), a4, a5, a6, a7, a8, a9, a10, a11, a12, a13] rfl ⟨a4, a5, a6, a7, a8, a9, a10, a11, a12, a13, rfl⟩
    (fun pre q post ω ep ⟨j, b5, b6, b7, b8, b9, b10, b11, b12, b13, eo⟩ => by
      subst eo
      obtain ⟨d5, d6, d7, d8, d9, d10, d11, d12, d13, e⟩ := k22_2 v (sv := sv) (more := X) (k := k) (j := q) b5 b6 b7 b8 b9 b10 b11 b12 b13
      exact ⟨_, _, rfl, e, _, d5, d6, d7, d8, d9, d10, d11, d12, d13, rfl⟩)
  refine ⟨some (.v (.int X)), some (.v (eT t)), j, b5, b6, b7, b8, b9, b10, b11, b12, b13, ?_⟩
  have hr : iRange [.int 5] = .ok ((List.range 5).map eN) := iRange_nat 5 (by omega)
  unfold b_law_3
  simp only [eN] at e
  simp [hc, hd, hdiv, ht, hr, eN]
  exact e
end Pv.LW
end
section
set_option linter.all false
set_option maxRecDepth 100000
namespace Pv.LW
open PySem Pv
theorem law_sv {sv : PV} (hcell : ∀ k : Nat, ∃ c : Int, f__law_cell [sv, .int k] = .ok (.int c)) {m : Nat} (hl : bLen [sv] = .ok (.int (m : Nat))) : f_law [sv] = .ok (.bl true) := by
  obtain ⟨n, hn, hr⟩ : ∃ n : Nat, n ≤ 3 ∧ ∀ ρ : Rho, ρ[0]? = some (some sv) → fRange (eCall bMax2 (aCons (eC (.int 1)) (aCons (eCall bMin2 (aCons (eC (.int 3)) (aCons (eCall bLen (aCons (eV 0) aNil)) aNil))) aNil))) ρ = .ok ((List.range n).map eN) := by
    refine ⟨max 1 (min 3 m), by omega, fun ρ h0 => ?_⟩
    have h1 : bMin2 [.int 3, .int (m : Nat)] = .ok (.int ((min 3 m : Nat) : Int)) := by
      simp only [bMin2]
      congr 2
      split <;> omega
    have h2 : bMax2 [.int 1, .int ((min 3 m : Nat) : Int)] = .ok (.int ((max 1 (min 3 m) : Nat) : Int)) := by
      simp only [bMax2]
      congr 2
      split <;> omega
    rw [fRange_ap]
    simp only [aCons_ap, aNil_ap, eCall_ap, eC_ap, eV_ap, h0, Res.bind_ok, hl, h1, h2]
    exact iRange_nat _ (by omega)
  obtain ⟨ω2, e, p1, p2, p3, p4, p5, p6, p7, p8, p9, p10, p11, p12, p13, rfl⟩ := sForL_pre (pt := .nm 1) (b := b_law_3) eN (fun pre ω => ∃ p1 p2 p3 p4 p5 p6 p7 p8 p9 p10 p11 p12 p13, ω = [some (.v sv), p1, p2, p3, p4, p5, p6, p7, p8, p9, p10, p11, p12, p13]) (List.range n) (List.range n) [] [some (.v sv), none, none, none, none, none, none, none, none, none, none, none, none, none] rfl ⟨none, none, none, none, none, none, none, none, none, none, none, none, none, rfl⟩
    (fun pre k post ω ep ⟨p1, p2, p3, p4, p5, p6, p7, p8, p9, p10, p11, p12, p13, eo⟩ => by
      subst eo
      obtain ⟨b2, b3, b4, b5, b6, b7, b8, b9, b10, b11, b12, b13, e⟩ := k22_3 hcell (k := k) (a2 := p2) (a3 := p3) (a4 := p4) (a5 := p5) (a6 := p6) (a7 := p7) (a8 := p8) (a9 := p9) (a10 := p10) (a11 := p11) (a12 := p12) (a13 := p13)
      exact ⟨_, _, rfl, e, some (.v (eN k)), b2, b3, b4, b5, b6, b7, b8, b9, b10, b11, b12, b13, rfl⟩)
  show endR (m_law [some (.v sv), none, none, none, none, none, none, none, none, none, none, none, none, none]) = _
  unfold m_law
  rw [sSeq_ap, sFor_ap, hr _ (by simp)]
  simp only [SR.of_ok, frz_nil, e, SR.bind_nx, sRet_ap, eC_ap, endR_rt]
theorem law_true (ns : List Int) (h63 : ns.length ≤ 63) : f_law [.scr ns] = .ok (.bl true) ∧ f_law [.lst (ns.map .int)] = .ok (.bl true) :=
  ⟨law_sv (cell_ok ns h63) (m := ns.length) rfl, law_sv (cell_lst ns h63) (m := ns.length) (by simp [bLen])⟩
end Pv.LW
end
section
set_option Elab.async false
set_option linter.all false
set_option maxRecDepth 100000
set_option maxHeartbeats 4000000
namespace Pv.LW
open PySem PySem.Spec PyProof.Rows L2 Pv
theorem isX_self (a : Addr) (b : Bool) (ρ : Rho) (h : ρ[0]? = some (some (.fn a))) : eIsX a b (eV 0) ρ = .ok (.bl b) := by
  unfold eIsX
  simp [h]
theorem word_ev (a : Addr) (c : Str) (h : c ∈ cs_word) : m__law_word a c (some (.v (.fn a)) :: List.replicate 3 none) = .rt (.str c) := by
  simp only [cs_word, List.mem_cons, List.not_mem_nil, or_false] at h
  rcases h with rfl | rfl | rfl | rfl | rfl | rfl | rfl | rfl | rfl
  all_goals
    unfold m__law_word
    simp [isX_self, mkLst, opAdd, opNe, bSumL, eB2I, boolsOf, intsOf, eIdx, opIx, opIdx]
    rfl
end Pv.LW
end
section
set_option Elab.async false
set_option linter.all false
set_option maxRecDepth 100000
set_option maxHeartbeats 4000000
namespace Pv.LW
open PySem PySem.Spec PyProof.Rows L2 Pv

def top (i : Nat) : Stmt := PySem.Challenge.pw_skillwants_k22_whole_there_and_back.main.body.getD i (.Pass ⟨0, 0, 0, 0⟩)
structure Fb (G : Gc) : Prop where
  b_ValueError : G.mg "ValueError" = none
  b_all : G.mg "all" = none
  b_bool : G.mg "bool" = none
  b_dict : G.mg "dict" = none
  b_enumerate : G.mg "enumerate" = none
  b_int : G.mg "int" = none
  b_isinstance : G.mg "isinstance" = none
  b_len : G.mg "len" = none
  b_list : G.mg "list" = none
  b_max : G.mg "max" = none
  b_min : G.mg "min" = none
  b_range : G.mg "range" = none
  b_set : G.mg "set" = none
  b_sorted : G.mg "sorted" = none
  b_str : G.mg "str" = none
  b_sum : G.mg "sum" = none
  b_tuple : G.mg "tuple" = none
  b_zip : G.mg "zip" = none
  c_MOST_COST : Cst G "MOST_COST" k_MOST_COST
  c_MOST_LEVEL : Cst G "MOST_LEVEL" k_MOST_LEVEL
  c_MOST_NAME : Cst G "MOST_NAME" k_MOST_NAME
  c_MOST_POINTS : Cst G "MOST_POINTS" k_MOST_POINTS
  c_MOST_SKILLS : Cst G "MOST_SKILLS" k_MOST_SKILLS
  c_SMALL : Cst G "SMALL" k_SMALL
  x_BadBuild : ExOk G "BadBuild"
  x_BadName : ExOk G "BadName"
  x_BadNumber : ExOk G "BadNumber"
  x_BadTree : ExOk G "BadTree"
  x_Locked : ExOk G "Locked"
  x_Most : ExOk G "Most"
  x_Points : ExOk G "Points"
  x_Wants : ExOk G "Wants"
  let4 : Let4 G "Most" "Wants" "Locked" "Points"
  xc : XcOk G "SkillError" cs_word
structure F0 (G : Gc) : Prop extends Fb G where
  f_is_count : FnP G 1 "is_count" 3 f_is_count
theorem w_is_count {G : Gc} (c : Fb G) (d : FunT G "is_count" (top 17)) : F0 G where
  toFb := c
  f_is_count := FnP.ofSt (N := ["thing", "low", "high"]) (ps := ["thing", "low", "high"]) (k := 0) d rfl ⟨rfl, rfl, rfl, by decide +kernel, rfl, by decide +kernel, by decide +kernel⟩ (fun _ _ _ _ _ _ us hl => match us, hl with | [_, _, _], _ => rfl) (JSs.one (JS.ret (JE.and (JE.isi (T := "int") (by decide) rfl c.b_isinstance rfl c.b_int (by decide +kernel) (JE.var (i := 0) rfl (by first | exact .inl rfl | exact .inr (.inl rfl) | exact .inr (.inr rfl)))) (JE.and (JE.not (JE.isi (T := "bool") (by decide) rfl c.b_isinstance rfl c.b_bool (by decide +kernel) (JE.var (i := 0) rfl (by first | exact .inl rfl | exact .inr (.inl rfl) | exact .inr (.inr rfl))))) (JE.one (JE.chain oLe oLe (JE.var (i := 1) rfl (by first | exact .inl rfl | exact .inr (.inl rfl) | exact .inr (.inr rfl))) (JE.var (i := 0) rfl (by first | exact .inl rfl | exact .inr (.inl rfl) | exact .inr (.inr rfl))) (JE.var (i := 2) rfl (by first | exact .inl rfl | exact .inr (.inl rfl) | exact .inr (.inr rfl))) rfl))))))
structure F1 (G : Gc) : Prop extends F0 G where
  f_is_name : FnP G 1 "is_name" 1 f_is_name
theorem w_is_name {G : Gc} (c : F0 G) (d : FunT G "is_name" (top 18)) : F1 G where
  toF0 := c
  f_is_name := FnP.ofSt (N := ["thing", "sign"]) (ps := ["thing"]) (k := 0) d rfl ⟨rfl, rfl, rfl, by decide +kernel, rfl, by decide +kernel, by decide +kernel⟩ (fun _ _ _ _ _ _ us hl => match us, hl with | [_], _ => rfl) (JSs.one (JS.ret (JE.and (JE.isi (T := "str") (by decide) rfl c.b_isinstance rfl c.b_str (by decide +kernel) (JE.var (i := 0) rfl (by first | exact .inl rfl | exact .inr (.inl rfl) | exact .inr (.inr rfl)))) (JE.and (JE.chain oLe oLe JE.int (JE.len rfl c.b_len (JE.var (i := 0) rfl (by first | exact .inl rfl | exact .inr (.inl rfl) | exact .inr (.inr rfl)))) (JE.cst rfl c.c_MOST_NAME) rfl) (JE.one (JE.all rfl c.b_all (JE.lc (own := [("sign", 1)]) (JI.seq (JE.var (i := 0) rfl (by first | exact .inl rfl | exact .inr (.inl rfl) | exact .inr (.inr rfl)))) (by first | decide +kernel | kernel_rfl) (by decide) (JG.name rfl (by first | exact .inl rfl | exact .inr rfl) (by first | exact .inl rfl | exact .inr rfl)) JTs.nil (JE.cmp (JC.in (JE.var (i := 1) rfl (by first | exact .inl rfl | exact .inr (.inl rfl) | exact .inr (.inr rfl))) (JE.cst rfl c.c_SMALL)) rfl))))))))
structure F2 (G : Gc) : Prop extends F1 G where
  f_has_no_ring : FnP G 1 "has_no_ring" 1 f_has_no_ring
theorem w_has_no_ring {G : Gc} (c : F1 G) (d : FunT G "has_no_ring" (top 20)) : F2 G where
  toF1 := c
  f_has_no_ring := FnP.ofSt (N := ["skills", "left", "done", "some", "one", "want"]) (ps := ["skills"]) (k := 0) d rfl ⟨rfl, rfl, rfl, by decide +kernel, rfl, by decide +kernel, by decide +kernel⟩ (fun _ _ _ _ _ _ us hl => match us, hl with | [_], _ => rfl) (JSs.cons (JS.asg [] false ⟨rfl, (by first | exact .inl rfl | exact .inr rfl), .inl rfl⟩ (JE.list rfl c.b_list (JE.var (i := 0) rfl (by first | exact .inl rfl | exact .inr (.inl rfl) | exact .inr (.inr rfl))))) (JSs.cons (JS.new [] false ⟨rfl, (by first | exact .inl rfl | exact .inr rfl), .inl rfl⟩ (JF.lst JA.nil)) (JSs.cons (JS.while 12 (JT.cmp (JC.ne (JE.var (i := 1) rfl (by first | exact .inl rfl | exact .inr (.inl rfl) | exact .inr (.inr rfl))) (JE.lst JA.nil)) rfl) (JSs.cons (JS.new [] true ⟨rfl, (by first | exact .inl rfl | exact .inr rfl), .inl rfl⟩ (JF.lc (own := [("one", 4)]) (JI.seq (JE.var (i := 1) rfl (by first | exact .inl rfl | exact .inr (.inl rfl) | exact .inr (.inr rfl)))) (by first | decide +kernel | kernel_rfl) (by decide) (JG.name rfl (by first | exact .inl rfl | exact .inr rfl) (by first | exact .inl rfl | exact .inr rfl)) (JTs.one (JT.val (JE.all rfl c.b_all (JE.lc (own := [("want", 5)]) (JI.seq (JE.ix (JE.var (i := 4) rfl (by first | exact .inl rfl | exact .inr (.inl rfl) | exact .inr (.inr rfl))) JE.int)) (by first | decide +kernel | kernel_rfl) (by decide) (JG.name rfl (by first | exact .inl rfl | exact .inr rfl) (by first | exact .inl rfl | exact .inr rfl)) JTs.nil (JE.cmp (JC.in (JE.ix (JE.var (i := 5) rfl (by first | exact .inl rfl | exact .inr (.inl rfl) | exact .inr (.inr rfl))) JE.int) (JE.var (i := 2) rfl (by first | exact .inl rfl | exact .inr (.inl rfl) | exact .inr (.inr rfl)))) rfl))) (fun _ _ => rfl))) (JE.var (i := 4) rfl (by first | exact .inl rfl | exact .inr (.inl rfl) | exact .inr (.inr rfl)))) (hs := sw_cell rfl)) (JSs.cons (JS.if (JT.cmp (JC.eq (JE.var (i := 3) rfl (by first | exact .inl rfl | exact .inr (.inl rfl) | exact .inr (.inr rfl))) (JE.lst JA.nil)) rfl) (JSs.one (JS.ret JE.bl)) JSs.nil) (JSs.cons (JS.extend (i := 2) [3] rfl (by first | exact .inl rfl | exact .inr (.inl rfl) | exact .inr (.inr rfl)) (JE.lc (own := [("one", 4)]) (JI.seq (JE.var (i := 3) rfl (by first | exact .inl rfl | exact .inr (.inl rfl) | exact .inr (.inr rfl)))) (by first | decide +kernel | kernel_rfl) (by decide) (JG.name rfl (by first | exact .inl rfl | exact .inr rfl) (by first | exact .inl rfl | exact .inr rfl)) JTs.nil (JE.ix (JE.var (i := 4) rfl (by first | exact .inl rfl | exact .inr (.inl rfl) | exact .inr (.inr rfl))) JE.int))) (JSs.one (JS.lcN (i := 1) [] true rfl rfl rfl rfl (by decide +kernel) (own := [("one", 4)]) (JI.seq (JE.var (i := 1) rfl (by first | exact .inl rfl | exact .inr (.inl rfl) | exact .inr (.inr rfl)))) (by first | decide +kernel | kernel_rfl) (by decide) (JG.name rfl (by first | exact .inl rfl | exact .inr rfl) (by first | exact .inl rfl | exact .inr rfl)) (JTs.one (JT.cmp (JC.notin (JE.var (i := 4) rfl (by first | exact .inl rfl | exact .inr (.inl rfl) | exact .inr (.inr rfl))) (JE.var (i := 3) rfl (by first | exact .inl rfl | exact .inr (.inl rfl) | exact .inr (.inr rfl)))) rfl)) (JE.var (i := 4) rfl (by first | exact .inl rfl | exact .inr (.inl rfl) | exact .inr (.inr rfl))))))))) (JSs.one (JS.ret JE.bl)))))
structure F3 (G : Gc) : Prop extends F2 G where
  f_are_locks : FnP G 1 "are_locks" 2 f_are_locks
theorem w_are_locks {G : Gc} (c : F2 G) (d : FunT G "are_locks" (top 22)) : F3 G where
  toF2 := c
  f_are_locks := FnP.ofSt (N := ["locks", "mosts", "one", "name"]) (ps := ["locks", "mosts"]) (k := 0) d rfl ⟨rfl, rfl, rfl, by decide +kernel, rfl, by decide +kernel, by decide +kernel⟩ (fun _ _ _ _ _ _ us hl => match us, hl with | [_, _], _ => rfl) (JSs.cons (JS.for [] (JI.seq (JE.var (i := 0) rfl (by first | exact .inl rfl | exact .inr (.inl rfl) | exact .inr (.inr rfl)))) (JG.name rfl (by first | exact .inl rfl | exact .inr rfl) (by first | exact .inl rfl | exact .inr rfl)) (JSs.cons (JS.if (JW.jt (JW.or (JT.not (JT.val (JE.isi (T := "tuple") (by decide) rfl c.b_isinstance rfl c.b_tuple (by decide +kernel) (JE.var (i := 2) rfl (by first | exact .inl rfl | exact .inr (.inl rfl) | exact .inr (.inr rfl)))) (fun _ _ => rfl))) (JW.or1 (JT.cmp (JC.ne (JE.len rfl c.b_len (JE.var (i := 2) rfl (by first | exact .inl rfl | exact .inr (.inl rfl) | exact .inr (.inr rfl)))) JE.int) rfl)))) (JSs.one (JS.ret JE.bl)) JSs.nil) (JSs.one (JS.if (JT.not (JT.val (JE.all rfl c.b_all (JE.lc (own := [("name", 3)]) (JI.seq (JE.var (i := 2) rfl (by first | exact .inl rfl | exact .inr (.inl rfl) | exact .inr (.inr rfl)))) (by first | decide +kernel | kernel_rfl) (by decide) (JG.name rfl (by first | exact .inl rfl | exact .inr rfl) (by first | exact .inl rfl | exact .inr rfl)) JTs.nil (JE.and (JE.isi (T := "str") (by decide) rfl c.b_isinstance rfl c.b_str (by decide +kernel) (JE.var (i := 3) rfl (by first | exact .inl rfl | exact .inr (.inl rfl) | exact .inr (.inr rfl)))) (JE.one (JE.cmp (JC.in (JE.var (i := 3) rfl (by first | exact .inl rfl | exact .inr (.inl rfl) | exact .inr (.inr rfl))) (JE.var (i := 1) rfl (by first | exact .inl rfl | exact .inr (.inl rfl) | exact .inr (.inr rfl)))) rfl))))) (fun _ _ => rfl))) (JSs.one (JS.ret JE.bl)) JSs.nil)))) (JSs.one (JS.ret (JE.and (JE.all rfl c.b_all (JE.lc (own := [("one", 2)]) (JI.seq (JE.var (i := 0) rfl (by first | exact .inl rfl | exact .inr (.inl rfl) | exact .inr (.inr rfl)))) (by first | decide +kernel | kernel_rfl) (by decide) (JG.name rfl (by first | exact .inl rfl | exact .inr rfl) (by first | exact .inl rfl | exact .inr rfl)) JTs.nil (JE.cmp (JC.lt (JE.ix (JE.var (i := 2) rfl (by first | exact .inl rfl | exact .inr (.inl rfl) | exact .inr (.inr rfl))) JE.int) (JE.ix (JE.var (i := 2) rfl (by first | exact .inl rfl | exact .inr (.inl rfl) | exact .inr (.inr rfl))) JE.int)) rfl))) (JE.one (JE.cmp (JC.eq (JE.lenSet rfl c.b_len rfl c.b_set (JE.var (i := 0) rfl (by first | exact .inl rfl | exact .inr (.inl rfl) | exact .inr (.inr rfl)))) (JE.len rfl c.b_len (JE.var (i := 0) rfl (by first | exact .inl rfl | exact .inr (.inl rfl) | exact .inr (.inr rfl))))) rfl))))))
structure F4 (G : Gc) : Prop extends F3 G where
  f_names_of : FnP G 1 "names_of" 1 f_names_of
theorem w_names_of {G : Gc} (c : F3 G) (d : FunT G "names_of" (top 24)) : F4 G where
  toF3 := c
  f_names_of := FnP.ofSt (N := ["tree", "one"]) (ps := ["tree"]) (k := 0) d rfl ⟨rfl, rfl, rfl, by decide +kernel, rfl, by decide +kernel, by decide +kernel⟩ (fun _ _ _ _ _ _ us hl => match us, hl with | [_], _ => rfl) (JSs.one (JS.ret (JE.lc (own := [("one", 1)]) (JI.seq (JE.ix (JE.var (i := 0) rfl (by first | exact .inl rfl | exact .inr (.inl rfl) | exact .inr (.inr rfl))) JE.int)) (by first | decide +kernel | kernel_rfl) (by decide) (JG.name rfl (by first | exact .inl rfl | exact .inr rfl) (by first | exact .inl rfl | exact .inr rfl)) JTs.nil (JE.ix (JE.var (i := 1) rfl (by first | exact .inl rfl | exact .inr (.inl rfl) | exact .inr (.inr rfl))) JE.int))))
structure F5 (G : Gc) : Prop extends F4 G where
  f_lacking : FnP G 1 "lacking" 3 f_lacking
theorem w_lacking {G : Gc} (c : F4 G) (d : FunT G "lacking" (top 26)) : F5 G where
  toF4 := c
  f_lacking := FnP.ofSt (N := ["tree", "levels", "name", "one", "want"]) (ps := ["tree", "levels", "name"]) (k := 0) d rfl ⟨rfl, rfl, rfl, by decide +kernel, rfl, by decide +kernel, by decide +kernel⟩ (fun _ _ _ _ _ _ us hl => match us, hl with | [_, _, _], _ => rfl) (JSs.cons (JS.asg [] false ⟨rfl, (by first | exact .inl rfl | exact .inr rfl), .inl rfl⟩ (JE.ix (JE.lc (own := [("one", 3)]) (JI.seq (JE.ix (JE.var (i := 0) rfl (by first | exact .inl rfl | exact .inr (.inl rfl) | exact .inr (.inr rfl))) JE.int)) (by first | decide +kernel | kernel_rfl) (by decide) (JG.name rfl (by first | exact .inl rfl | exact .inr rfl) (by first | exact .inl rfl | exact .inr rfl)) (JTs.one (JT.cmp (JC.eq (JE.ix (JE.var (i := 3) rfl (by first | exact .inl rfl | exact .inr (.inl rfl) | exact .inr (.inr rfl))) JE.int) (JE.var (i := 2) rfl (by first | exact .inl rfl | exact .inr (.inl rfl) | exact .inr (.inr rfl)))) rfl)) (JE.var (i := 3) rfl (by first | exact .inl rfl | exact .inr (.inl rfl) | exact .inr (.inr rfl)))) JE.int)) (JSs.one (JS.ret (JE.lc (own := [("want", 4)]) (JI.seq (JE.ix (JE.var (i := 3) rfl (by first | exact .inl rfl | exact .inr (.inl rfl) | exact .inr (.inr rfl))) JE.int)) (by first | decide +kernel | kernel_rfl) (by decide) (JG.name rfl (by first | exact .inl rfl | exact .inr rfl) (by first | exact .inl rfl | exact .inr rfl)) (JTs.one (JT.cmp (JC.lt (JE.ix (JE.var (i := 1) rfl (by first | exact .inl rfl | exact .inr (.inl rfl) | exact .inr (.inr rfl))) (JE.ix (JE.var (i := 4) rfl (by first | exact .inl rfl | exact .inr (.inl rfl) | exact .inr (.inr rfl))) JE.int)) (JE.ix (JE.var (i := 4) rfl (by first | exact .inl rfl | exact .inr (.inl rfl) | exact .inr (.inr rfl))) JE.int)) rfl)) (JE.var (i := 4) rfl (by first | exact .inl rfl | exact .inr (.inl rfl) | exact .inr (.inr rfl)))))))
structure F6 (G : Gc) : Prop extends F5 G where
  f_clashes : FnP G 1 "clashes" 2 f_clashes
theorem w_clashes {G : Gc} (c : F5 G) (d : FunT G "clashes" (top 27)) : F6 G where
  toF5 := c
  f_clashes := FnP.ofSt (N := ["tree", "levels", "one"]) (ps := ["tree", "levels"]) (k := 0) d rfl ⟨rfl, rfl, rfl, by decide +kernel, rfl, by decide +kernel, by decide +kernel⟩ (fun _ _ _ _ _ _ us hl => match us, hl with | [_, _], _ => rfl) (JSs.one (JS.ret (JE.lc (own := [("one", 2)]) (JI.seq (JE.ix (JE.var (i := 0) rfl (by first | exact .inl rfl | exact .inr (.inl rfl) | exact .inr (.inr rfl))) JE.int)) (by first | decide +kernel | kernel_rfl) (by decide) (JG.name rfl (by first | exact .inl rfl | exact .inr rfl) (by first | exact .inl rfl | exact .inr rfl)) (JTs.one (JW.jt (JW.and (JT.cmp (JC.gt (JE.ix (JE.var (i := 1) rfl (by first | exact .inl rfl | exact .inr (.inl rfl) | exact .inr (.inr rfl))) (JE.ix (JE.var (i := 2) rfl (by first | exact .inl rfl | exact .inr (.inl rfl) | exact .inr (.inr rfl))) JE.int)) JE.int) rfl) (JW.and1 (JT.cmp (JC.gt (JE.ix (JE.var (i := 1) rfl (by first | exact .inl rfl | exact .inr (.inl rfl) | exact .inr (.inr rfl))) (JE.ix (JE.var (i := 2) rfl (by first | exact .inl rfl | exact .inr (.inl rfl) | exact .inr (.inr rfl))) JE.int)) JE.int) rfl))))) (JE.var (i := 2) rfl (by first | exact .inl rfl | exact .inr (.inl rfl) | exact .inr (.inr rfl))))))
structure F7 (G : Gc) : Prop extends F6 G where
  f_cost_of : FnP G 1 "cost_of" 2 f_cost_of
theorem w_cost_of {G : Gc} (c : F6 G) (d : FunT G "cost_of" (top 33)) : F7 G where
  toF6 := c
  f_cost_of := FnP.ofSt (N := ["tree", "build", "level", "one"]) (ps := ["tree", "build"]) (k := 0) d rfl ⟨rfl, rfl, rfl, by decide +kernel, rfl, by decide +kernel, by decide +kernel⟩ (fun _ _ _ _ _ _ us hl => match us, hl with | [_, _], _ => rfl) (JSs.one (JS.ret (JE.sum rfl c.b_sum (JE.lc (own := [("level", 2), ("one", 3)]) (JI.zip rfl c.b_zip (JE.var (i := 1) rfl (by first | exact .inl rfl | exact .inr (.inl rfl) | exact .inr (.inr rfl))) (JE.ix (JE.var (i := 0) rfl (by first | exact .inl rfl | exact .inr (.inl rfl) | exact .inr (.inr rfl))) JE.int)) (by first | decide +kernel | kernel_rfl) (by decide) (JG.tup (JGs.cons (JG.name rfl (by first | exact .inl rfl | exact .inr rfl) (by first | exact .inl rfl | exact .inr rfl)) (JGs.cons (JG.name rfl (by first | exact .inl rfl | exact .inr rfl) (by first | exact .inl rfl | exact .inr rfl)) JGs.nil))) JTs.nil (JE.mul (JE.var (i := 2) rfl (by first | exact .inl rfl | exact .inr (.inl rfl) | exact .inr (.inr rfl))) (JE.ix (JE.var (i := 3) rfl (by first | exact .inl rfl | exact .inr (.inl rfl) | exact .inr (.inr rfl))) JE.int))))))
structure F8 (G : Gc) : Prop extends F7 G where
  f_skill_of : FnP G 1 "skill_of" 2 f_skill_of
theorem w_skill_of {G : Gc} (c : F7 G) (d : FunT G "skill_of" (top 38)) : F8 G where
  toF7 := c
  f_skill_of := FnP.ofSt (N := ["tree", "name", "one"]) (ps := ["tree", "name"]) (k := 0) d rfl ⟨rfl, rfl, rfl, by decide +kernel, rfl, by decide +kernel, by decide +kernel⟩ (fun _ _ _ _ _ _ us hl => match us, hl with | [_, _], _ => rfl) (JSs.one (JS.ret (JE.ix (JE.lc (own := [("one", 2)]) (JI.seq (JE.ix (JE.var (i := 0) rfl (by first | exact .inl rfl | exact .inr (.inl rfl) | exact .inr (.inr rfl))) JE.int)) (by first | decide +kernel | kernel_rfl) (by decide) (JG.name rfl (by first | exact .inl rfl | exact .inr rfl) (by first | exact .inl rfl | exact .inr rfl)) (JTs.one (JT.cmp (JC.eq (JE.ix (JE.var (i := 2) rfl (by first | exact .inl rfl | exact .inr (.inl rfl) | exact .inr (.inr rfl))) JE.int) (JE.var (i := 1) rfl (by first | exact .inl rfl | exact .inr (.inl rfl) | exact .inr (.inr rfl)))) rfl)) (JE.var (i := 2) rfl (by first | exact .inl rfl | exact .inr (.inl rfl) | exact .inr (.inr rfl)))) JE.int)))
structure F9 (G : Gc) : Prop extends F8 G where
  l_is_let : LetP G "is_let" cs_is_let
theorem w_is_let {G : Gc} (c : F8 G) (d : FunT G "is_let" (top 44)) : F9 G where
  toF8 := c
  l_is_let := LetP.of d rfl ⟨rfl, rfl, rfl, by decide +kernel, rfl, by decide +kernel, by decide +kernel⟩ (fun _ _ _ _ _ _ us hl => match us, hl with | [_], _ => rfl) c.let4 rfl rfl rfl rfl (by decide) (by decide) (by decide) (by decide) rfl (by decide) (by decide) (by first | exact .inl rfl | exact .inr (.inl rfl) | exact .inr (.inr rfl)) (by decide) (by decide)
structure F10 (G : Gc) : Prop extends F9 G where
  f__law_cell : FnP G 1 "_law_cell" 2 f__law_cell
theorem w__law_cell {G : Gc} (c : F9 G) (d : FunT G "_law_cell" (top 50)) : F10 G where
  toF9 := c
  f__law_cell := FnP.ofSt (N := ["script", "k"]) (ps := ["script", "k"]) (k := 0) d rfl ⟨rfl, rfl, rfl, by decide +kernel, rfl, by decide +kernel, by decide +kernel⟩ (fun _ _ _ _ _ _ us hl => match us, hl with | [_, _], _ => rfl) (JSs.cons (JS.if (JT.cmp (JC.eq (JE.var (i := 0) rfl (by first | exact .inl rfl | exact .inr (.inl rfl) | exact .inr (.inr rfl))) (JE.lst JA.nil)) rfl) (JSs.one (JS.ret (JE.mul (JE.var (i := 1) rfl (by first | exact .inl rfl | exact .inr (.inl rfl) | exact .inr (.inr rfl))) JE.int))) JSs.nil) (JSs.one (JS.ret (JE.add (JE.ix (JE.var (i := 0) rfl (by first | exact .inl rfl | exact .inr (.inl rfl) | exact .inr (.inr rfl))) (JE.mod (JE.var (i := 1) rfl (by first | exact .inl rfl | exact .inr (.inl rfl) | exact .inr (.inr rfl))) (JE.len rfl c.b_len (JE.var (i := 0) rfl (by first | exact .inl rfl | exact .inr (.inl rfl) | exact .inr (.inr rfl)))))) (JE.mul (JE.div (JE.var (i := 1) rfl (by first | exact .inl rfl | exact .inr (.inl rfl) | exact .inr (.inr rfl))) (JE.len rfl c.b_len (JE.var (i := 0) rfl (by first | exact .inl rfl | exact .inr (.inl rfl) | exact .inr (.inr rfl))))) JE.int)))))
structure F11 (G : Gc) : Prop extends F10 G where
  f__law_drawn : FnP G 1 "_law_drawn" 2 f__law_drawn
theorem w__law_drawn {G : Gc} (c : F10 G) (d : FunT G "_law_drawn" (top 51)) : F11 G where
  toF10 := c
  f__law_drawn := FnP.ofSt (N := ["cell", "k", "more"]) (ps := ["cell", "k"]) (k := 0) d rfl ⟨rfl, rfl, rfl, by decide +kernel, rfl, by decide +kernel, by decide +kernel⟩ (fun _ _ _ _ _ _ us hl => match us, hl with | [_, _], _ => rfl) (JSs.cons (JS.asg [] false ⟨rfl, (by first | exact .inl rfl | exact .inr rfl), .inl rfl⟩ (JE.mod (JE.add (JE.mul (JE.var (i := 0) rfl (by first | exact .inl rfl | exact .inr (.inl rfl) | exact .inr (.inr rfl))) JE.int) (JE.mul (JE.add (JE.var (i := 1) rfl (by first | exact .inl rfl | exact .inr (.inl rfl) | exact .inr (.inr rfl))) JE.int) JE.int)) JE.int)) (JSs.cons (JS.asg [] false ⟨rfl, (by first | exact .inl rfl | exact .inr rfl), .inl rfl⟩ (JE.mod (JE.mul (JE.var (i := 2) rfl (by first | exact .inl rfl | exact .inr (.inl rfl) | exact .inr (.inr rfl))) (JE.var (i := 2) rfl (by first | exact .inl rfl | exact .inr (.inl rfl) | exact .inr (.inr rfl)))) JE.int)) (JSs.cons (JS.asg [] false ⟨rfl, (by first | exact .inl rfl | exact .inr rfl), .inl rfl⟩ (JE.mul (JE.mul (JE.add (JE.mod (JE.var (i := 2) rfl (by first | exact .inl rfl | exact .inr (.inl rfl) | exact .inr (.inr rfl))) JE.int) JE.int) (JE.add (JE.div (JE.var (i := 2) rfl (by first | exact .inl rfl | exact .inr (.inl rfl) | exact .inr (.inr rfl))) JE.int) JE.int)) (JE.var (i := 2) rfl (by first | exact .inl rfl | exact .inr (.inl rfl) | exact .inr (.inr rfl))))) (JSs.one (JS.ret (JE.mod (JE.var (i := 2) rfl (by first | exact .inl rfl | exact .inr (.inl rfl) | exact .inr (.inr rfl))) JE.int))))))
structure F12 (G : Gc) : Prop extends F11 G where
  w__law_word : WordP G 1 "_law_word" cs_word
theorem w__law_word {G : Gc} (c : F11 G) (d : FunT G "_law_word" (top 52)) : F12 G where
  toF11 := c
  w__law_word := WordP.of (N := ["e", "flags", "flag", "words"]) (g := m__law_word) (k := 0) d rfl ⟨rfl, rfl, rfl, by decide +kernel, rfl, by decide +kernel, by decide +kernel⟩ (fun _ _ _ _ _ _ us hl => match us, hl with | [_], _ => rfl) (fun a C kc hk hC => (JSs.cons (JS.asg [] false ⟨rfl, (by first | exact .inl rfl | exact .inr rfl), .inl rfl⟩ (JE.lst (JA.cons (JE.isX c.xc ⟨hk, C, hC, rfl⟩ (by decide) rfl c.b_isinstance rfl (JE.var (i := 0) rfl (by first | exact .inl rfl | exact .inr (.inl rfl) | exact .inr (.inr rfl)))) (JA.cons (JE.isX c.xc ⟨hk, C, hC, rfl⟩ (by decide) rfl c.b_isinstance rfl (JE.var (i := 0) rfl (by first | exact .inl rfl | exact .inr (.inl rfl) | exact .inr (.inr rfl)))) (JA.cons (JE.isX c.xc ⟨hk, C, hC, rfl⟩ (by decide) rfl c.b_isinstance rfl (JE.var (i := 0) rfl (by first | exact .inl rfl | exact .inr (.inl rfl) | exact .inr (.inr rfl)))) (JA.cons (JE.isX c.xc ⟨hk, C, hC, rfl⟩ (by decide) rfl c.b_isinstance rfl (JE.var (i := 0) rfl (by first | exact .inl rfl | exact .inr (.inl rfl) | exact .inr (.inr rfl)))) JA.nil)))))) (JSs.cons (JS.asg [] false ⟨rfl, (by first | exact .inl rfl | exact .inr rfl), .inl rfl⟩ (JE.add (JE.var (i := 1) rfl (by first | exact .inl rfl | exact .inr (.inl rfl) | exact .inr (.inr rfl))) (JE.lst (JA.cons (JE.isX c.xc ⟨hk, C, hC, rfl⟩ (by decide) rfl c.b_isinstance rfl (JE.var (i := 0) rfl (by first | exact .inl rfl | exact .inr (.inl rfl) | exact .inr (.inr rfl)))) (JA.cons (JE.isX c.xc ⟨hk, C, hC, rfl⟩ (by decide) rfl c.b_isinstance rfl (JE.var (i := 0) rfl (by first | exact .inl rfl | exact .inr (.inl rfl) | exact .inr (.inr rfl)))) (JA.cons (JE.isX c.xc ⟨hk, C, hC, rfl⟩ (by decide) rfl c.b_isinstance rfl (JE.var (i := 0) rfl (by first | exact .inl rfl | exact .inr (.inl rfl) | exact .inr (.inr rfl)))) (JA.cons (JE.isX c.xc ⟨hk, C, hC, rfl⟩ (by decide) rfl c.b_isinstance rfl (JE.var (i := 0) rfl (by first | exact .inl rfl | exact .inr (.inl rfl) | exact .inr (.inr rfl)))) JA.nil))))))) (JSs.cons (JS.asg [] false ⟨rfl, (by first | exact .inl rfl | exact .inr rfl), .inl rfl⟩ (JE.add (JE.var (i := 1) rfl (by first | exact .inl rfl | exact .inr (.inl rfl) | exact .inr (.inr rfl))) (JE.lst (JA.cons (JE.isX c.xc ⟨hk, C, hC, rfl⟩ (by decide) rfl c.b_isinstance rfl (JE.var (i := 0) rfl (by first | exact .inl rfl | exact .inr (.inl rfl) | exact .inr (.inr rfl)))) JA.nil)))) (JSs.cons (JS.if (JW.jt (JW.or (JT.cmp (JC.ne (JE.sumH ⟨hk, C, hC, rfl⟩ rfl c.b_sum (JE.lcH (y := "flag") (j := 2) ⟨hk, C, hC, rfl⟩ (by first | decide +kernel | kernel_rfl) rfl rfl c.b_int (JE.var (i := 1) rfl (by first | exact .inl rfl | exact .inr (.inl rfl) | exact .inr (.inr rfl))))) JE.int) rfl) (JW.or1 (JT.not (JT.val (JE.isXV c.xc ⟨hk, C, hC, rfl⟩ rfl c.b_isinstance rfl c.b_ValueError (JE.var (i := 0) rfl (by first | exact .inl rfl | exact .inr (.inl rfl) | exact .inr (.inr rfl)))) (fun _ _ => rfl)))))) (JSs.one (JS.ret (JE.str (by decide +kernel)))) JSs.nil) (JSs.cons (JS.asg [] false ⟨rfl, (by first | exact .inl rfl | exact .inr rfl), .inl rfl⟩ (JE.lst (JA.cons (JE.str (by decide +kernel)) (JA.cons (JE.str (by decide +kernel)) (JA.cons (JE.str (by decide +kernel)) (JA.cons (JE.str (by decide +kernel)) (JA.cons (JE.str (by decide +kernel)) (JA.cons (JE.str (by decide +kernel)) (JA.cons (JE.str (by decide +kernel)) (JA.cons (JE.str (by decide +kernel)) (JA.cons (JE.str (by decide +kernel)) JA.nil))))))))))) (JSs.one (JS.ret (JE.ix (JE.var (i := 3) rfl (by first | exact .inl rfl | exact .inr (.inl rfl) | exact .inr (.inr rfl))) (JE.index (JE.var (i := 1) rfl (by first | exact .inl rfl | exact .inr (.inl rfl) | exact .inr (.inr rfl))) JE.bl)))))))))) (fun a kc hk => word_ev a kc hk)
structure F13 (G : Gc) : Prop extends F12 G where
  f__law_names : FnP G 1 "_law_names" 1 f__law_names
theorem w__law_names {G : Gc} (c : F12 G) (d : FunT G "_law_names" (top 55)) : F13 G where
  toF12 := c
  f__law_names := FnP.ofSt (N := ["tree", "one"]) (ps := ["tree"]) (k := 0) d rfl ⟨rfl, rfl, rfl, by decide +kernel, rfl, by decide +kernel, by decide +kernel⟩ (fun _ _ _ _ _ _ us hl => match us, hl with | [_], _ => rfl) (JSs.one (JS.ret (JE.lc (own := [("one", 1)]) (JI.seq (JE.ix (JE.var (i := 0) rfl (by first | exact .inl rfl | exact .inr (.inl rfl) | exact .inr (.inr rfl))) JE.int)) (by first | decide +kernel | kernel_rfl) (by decide) (JG.name rfl (by first | exact .inl rfl | exact .inr rfl) (by first | exact .inl rfl | exact .inr rfl)) JTs.nil (JE.ix (JE.var (i := 1) rfl (by first | exact .inl rfl | exact .inr (.inl rfl) | exact .inr (.inr rfl))) JE.int))))
structure F14 (G : Gc) : Prop extends F13 G where
  f__law_ups : FnP G 1 "_law_ups" 2 f__law_ups
theorem w__law_ups {G : Gc} (c : F13 G) (d : FunT G "_law_ups" (top 58)) : F14 G where
  toF13 := c
  f__law_ups := FnP.ofSt (N := ["tree", "row", "found", "spot", "one"]) (ps := ["tree", "row"]) (k := 0) d rfl ⟨rfl, rfl, rfl, by decide +kernel, rfl, by decide +kernel, by decide +kernel⟩ (fun _ _ _ _ _ _ us hl => match us, hl with | [_, _], _ => rfl) (JSs.cons (JS.new [] false ⟨rfl, (by first | exact .inl rfl | exact .inr rfl), .inl rfl⟩ (JF.lst JA.nil)) (JSs.cons (JS.for [] (JI.enum rfl c.b_enumerate (JE.ix (JE.var (i := 0) rfl (by first | exact .inl rfl | exact .inr (.inl rfl) | exact .inr (.inr rfl))) JE.int)) (JG.tup (JGs.cons (JG.name rfl (by first | exact .inl rfl | exact .inr rfl) (by first | exact .inl rfl | exact .inr rfl)) (JGs.cons (JG.name rfl (by first | exact .inl rfl | exact .inr rfl) (by first | exact .inl rfl | exact .inr rfl)) JGs.nil))) (JSs.one (JS.if (JT.cmp (JC.lt (JE.ix (JE.var (i := 1) rfl (by first | exact .inl rfl | exact .inr (.inl rfl) | exact .inr (.inr rfl))) (JE.var (i := 3) rfl (by first | exact .inl rfl | exact .inr (.inl rfl) | exact .inr (.inr rfl)))) (JE.ix (JE.var (i := 4) rfl (by first | exact .inl rfl | exact .inr (.inl rfl) | exact .inr (.inr rfl))) JE.int)) rfl) (JSs.one (JS.app (i := 2) [] false rfl (by first | exact .inl rfl | exact .inr (.inl rfl) | exact .inr (.inr rfl)) (JE.add (JE.add (JE.sl (JE.var (i := 1) rfl (by first | exact .inl rfl | exact .inr (.inl rfl) | exact .inr (.inr rfl))) JO.none (JO.some (JE.var (i := 3) rfl (by first | exact .inl rfl | exact .inr (.inl rfl) | exact .inr (.inr rfl))))) (JE.tup (JA.cons (JE.add (JE.ix (JE.var (i := 1) rfl (by first | exact .inl rfl | exact .inr (.inl rfl) | exact .inr (.inr rfl))) (JE.var (i := 3) rfl (by first | exact .inl rfl | exact .inr (.inl rfl) | exact .inr (.inr rfl)))) JE.int) JA.nil))) (JE.sl (JE.var (i := 1) rfl (by first | exact .inl rfl | exact .inr (.inl rfl) | exact .inr (.inr rfl))) (JO.some (JE.add (JE.var (i := 3) rfl (by first | exact .inl rfl | exact .inr (.inl rfl) | exact .inr (.inr rfl))) JE.int)) JO.none)))) JSs.nil))) (JSs.one (JS.ret (JE.var (i := 2) rfl (by first | exact .inl rfl | exact .inr (.inl rfl) | exact .inr (.inr rfl)))))))
structure F15 (G : Gc) : Prop extends F14 G where
  f_is_skill : FnP G 2 "is_skill" 1 f_is_skill
theorem w_is_skill {G : Gc} (c : F14 G) (d : FunT G "is_skill" (top 19)) : F15 G where
  toF14 := c
  f_is_skill := FnP.ofSt (N := ["thing", "want"]) (ps := ["thing"]) (k := 1) d rfl ⟨rfl, rfl, rfl, by decide +kernel, rfl, by decide +kernel, by decide +kernel⟩ (fun _ _ _ _ _ _ us hl => match us, hl with | [_], _ => rfl) (JSs.cons (JS.if (JW.jt (JW.or (JT.not (JT.val (JE.isi (T := "tuple") (by decide) rfl c.b_isinstance rfl c.b_tuple (by decide +kernel) (JE.var (i := 0) rfl (by first | exact .inl rfl | exact .inr (.inl rfl) | exact .inr (.inr rfl)))) (fun _ _ => rfl))) (JW.or (JT.cmp (JC.ne (JE.len rfl c.b_len (JE.var (i := 0) rfl (by first | exact .inl rfl | exact .inr (.inl rfl) | exact .inr (.inr rfl)))) JE.int) rfl) (JW.or (JT.not (JT.val (JE.call c.f_is_name (Nat.le_of_ble_eq_true rfl) rfl rfl (JA.cons (JE.ix (JE.var (i := 0) rfl (by first | exact .inl rfl | exact .inr (.inl rfl) | exact .inr (.inr rfl))) JE.int) JA.nil)) (fun _ _ => rfl))) (JW.or1 (JT.not (JT.val (JE.isi (T := "tuple") (by decide) rfl c.b_isinstance rfl c.b_tuple (by decide +kernel) (JE.ix (JE.var (i := 0) rfl (by first | exact .inl rfl | exact .inr (.inl rfl) | exact .inr (.inr rfl))) JE.int)) (fun _ _ => rfl)))))))) (JSs.one (JS.ret JE.bl)) JSs.nil) (JSs.cons (JS.if (JW.jt (JW.or (JT.not (JT.val (JE.call c.f_is_count (Nat.le_of_ble_eq_true rfl) rfl rfl (JA.cons (JE.ix (JE.var (i := 0) rfl (by first | exact .inl rfl | exact .inr (.inl rfl) | exact .inr (.inr rfl))) JE.int) (JA.cons JE.int (JA.cons (JE.cst rfl c.c_MOST_LEVEL) JA.nil)))) (fun _ _ => rfl))) (JW.or1 (JT.not (JT.val (JE.call c.f_is_count (Nat.le_of_ble_eq_true rfl) rfl rfl (JA.cons (JE.ix (JE.var (i := 0) rfl (by first | exact .inl rfl | exact .inr (.inl rfl) | exact .inr (.inr rfl))) JE.int) (JA.cons JE.int (JA.cons (JE.cst rfl c.c_MOST_COST) JA.nil)))) (fun _ _ => rfl)))))) (JSs.one (JS.ret JE.bl)) JSs.nil) (JSs.cons (JS.for [] (JI.seq (JE.ix (JE.var (i := 0) rfl (by first | exact .inl rfl | exact .inr (.inl rfl) | exact .inr (.inr rfl))) JE.int)) (JG.name rfl (by first | exact .inl rfl | exact .inr rfl) (by first | exact .inl rfl | exact .inr rfl)) (JSs.cons (JS.if (JW.jt (JW.or (JT.not (JT.val (JE.isi (T := "tuple") (by decide) rfl c.b_isinstance rfl c.b_tuple (by decide +kernel) (JE.var (i := 1) rfl (by first | exact .inl rfl | exact .inr (.inl rfl) | exact .inr (.inr rfl)))) (fun _ _ => rfl))) (JW.or (JT.cmp (JC.ne (JE.len rfl c.b_len (JE.var (i := 1) rfl (by first | exact .inl rfl | exact .inr (.inl rfl) | exact .inr (.inr rfl)))) JE.int) rfl) (JW.or1 (JT.not (JT.val (JE.call c.f_is_name (Nat.le_of_ble_eq_true rfl) rfl rfl (JA.cons (JE.ix (JE.var (i := 1) rfl (by first | exact .inl rfl | exact .inr (.inl rfl) | exact .inr (.inr rfl))) JE.int) JA.nil)) (fun _ _ => rfl))))))) (JSs.one (JS.ret JE.bl)) JSs.nil) (JSs.one (JS.if (JT.not (JT.val (JE.call c.f_is_count (Nat.le_of_ble_eq_true rfl) rfl rfl (JA.cons (JE.ix (JE.var (i := 1) rfl (by first | exact .inl rfl | exact .inr (.inl rfl) | exact .inr (.inr rfl))) JE.int) (JA.cons JE.int (JA.cons (JE.cst rfl c.c_MOST_LEVEL) JA.nil)))) (fun _ _ => rfl))) (JSs.one (JS.ret JE.bl)) JSs.nil)))) (JSs.one (JS.ret (JE.cmp (JC.eq (JE.lenSet rfl c.b_len rfl c.b_set (JE.lc (own := [("want", 1)]) (JI.seq (JE.ix (JE.var (i := 0) rfl (by first | exact .inl rfl | exact .inr (.inl rfl) | exact .inr (.inr rfl))) JE.int)) (by first | decide +kernel | kernel_rfl) (by decide) (JG.name rfl (by first | exact .inl rfl | exact .inr rfl) (by first | exact .inl rfl | exact .inr rfl)) JTs.nil (JE.ix (JE.var (i := 1) rfl (by first | exact .inl rfl | exact .inr (.inl rfl) | exact .inr (.inr rfl))) JE.int))) (JE.len rfl c.b_len (JE.ix (JE.var (i := 0) rfl (by first | exact .inl rfl | exact .inr (.inl rfl) | exact .inr (.inr rfl))) JE.int))) rfl))))))
structure F16 (G : Gc) : Prop extends F15 G where
  f_levels_of : FnP G 2 "levels_of" 2 f_levels_of
theorem w_levels_of {G : Gc} (c : F15 G) (d : FunT G "levels_of" (top 25)) : F16 G where
  toF15 := c
  f_levels_of := FnP.ofSt (N := ["tree", "build"]) (ps := ["tree", "build"]) (k := 1) d rfl ⟨rfl, rfl, rfl, by decide +kernel, rfl, by decide +kernel, by decide +kernel⟩ (fun _ _ _ _ _ _ us hl => match us, hl with | [_, _], _ => rfl) (JSs.one (JS.ret (JE.dictZip rfl c.b_dict rfl c.b_zip (JE.call c.f_names_of (Nat.le_of_ble_eq_true rfl) rfl rfl (JA.cons (JE.var (i := 0) rfl (by first | exact .inl rfl | exact .inr (.inl rfl) | exact .inr (.inr rfl))) JA.nil)) (JE.var (i := 1) rfl (by first | exact .inl rfl | exact .inr (.inl rfl) | exact .inr (.inr rfl))))))
structure F17 (G : Gc) : Prop extends F16 G where
  f_are_levels : FnP G 2 "are_levels" 2 f_are_levels
theorem w_are_levels {G : Gc} (c : F16 G) (d : FunT G "are_levels" (top 28)) : F17 G where
  toF16 := c
  f_are_levels := FnP.ofSt (N := ["tree", "thing", "level", "one"]) (ps := ["tree", "thing"]) (k := 1) d rfl ⟨rfl, rfl, rfl, by decide +kernel, rfl, by decide +kernel, by decide +kernel⟩ (fun _ _ _ _ _ _ us hl => match us, hl with | [_, _], _ => rfl) (JSs.cons (JS.if (JW.jt (JW.or (JT.not (JT.val (JE.isi (T := "tuple") (by decide) rfl c.b_isinstance rfl c.b_tuple (by decide +kernel) (JE.var (i := 1) rfl (by first | exact .inl rfl | exact .inr (.inl rfl) | exact .inr (.inr rfl)))) (fun _ _ => rfl))) (JW.or1 (JT.cmp (JC.ne (JE.len rfl c.b_len (JE.var (i := 1) rfl (by first | exact .inl rfl | exact .inr (.inl rfl) | exact .inr (.inr rfl)))) (JE.len rfl c.b_len (JE.ix (JE.var (i := 0) rfl (by first | exact .inl rfl | exact .inr (.inl rfl) | exact .inr (.inr rfl))) JE.int))) rfl)))) (JSs.one (JS.ret JE.bl)) JSs.nil) (JSs.one (JS.ret (JE.all rfl c.b_all (JE.lc (own := [("level", 2), ("one", 3)]) (JI.zip rfl c.b_zip (JE.var (i := 1) rfl (by first | exact .inl rfl | exact .inr (.inl rfl) | exact .inr (.inr rfl))) (JE.ix (JE.var (i := 0) rfl (by first | exact .inl rfl | exact .inr (.inl rfl) | exact .inr (.inr rfl))) JE.int)) (by first | decide +kernel | kernel_rfl) (by decide) (JG.tup (JGs.cons (JG.name rfl (by first | exact .inl rfl | exact .inr rfl) (by first | exact .inl rfl | exact .inr rfl)) (JGs.cons (JG.name rfl (by first | exact .inl rfl | exact .inr rfl) (by first | exact .inl rfl | exact .inr rfl)) JGs.nil))) JTs.nil (JE.call c.f_is_count (Nat.le_of_ble_eq_true rfl) rfl rfl (JA.cons (JE.var (i := 2) rfl (by first | exact .inl rfl | exact .inr (.inl rfl) | exact .inr (.inr rfl))) (JA.cons JE.int (JA.cons (JE.ix (JE.var (i := 3) rfl (by first | exact .inl rfl | exact .inr (.inl rfl) | exact .inr (.inr rfl))) JE.int) JA.nil)))))))))
structure F18 (G : Gc) : Prop extends F17 G where
  f_need_name : FnP G 2 "need_name" 2 f_need_name
theorem w_need_name {G : Gc} (c : F17 G) (d : FunT G "need_name" (top 32)) : F18 G where
  toF17 := c
  f_need_name := FnP.ofSt (N := ["tree", "name"]) (ps := ["tree", "name"]) (k := 1) d rfl ⟨rfl, rfl, rfl, by decide +kernel, rfl, by decide +kernel, by decide +kernel⟩ (fun _ _ _ _ _ _ us hl => match us, hl with | [_, _], _ => rfl) (JSs.one (JS.if (JW.jt (JW.or (JT.not (JT.val (JE.isi (T := "str") (by decide) rfl c.b_isinstance rfl c.b_str (by decide +kernel) (JE.var (i := 1) rfl (by first | exact .inl rfl | exact .inr (.inl rfl) | exact .inr (.inr rfl)))) (fun _ _ => rfl))) (JW.or1 (JT.cmp (JC.notin (JE.var (i := 1) rfl (by first | exact .inl rfl | exact .inr (.inl rfl) | exact .inr (.inr rfl))) (JE.call c.f_names_of (Nat.le_of_ble_eq_true rfl) rfl rfl (JA.cons (JE.var (i := 0) rfl (by first | exact .inl rfl | exact .inr (.inl rfl) | exact .inr (.inr rfl))) JA.nil))) rfl)))) (JSs.one (JS.raise c.x_BadName rfl)) JSs.nil))
structure F19 (G : Gc) : Prop extends F18 G where
  f_need_points : FnP G 2 "need_points" 1 f_need_points
theorem w_need_points {G : Gc} (c : F18 G) (d : FunT G "need_points" (top 37)) : F19 G where
  toF18 := c
  f_need_points := FnP.ofSt (N := ["points"]) (ps := ["points"]) (k := 1) d rfl ⟨rfl, rfl, rfl, by decide +kernel, rfl, by decide +kernel, by decide +kernel⟩ (fun _ _ _ _ _ _ us hl => match us, hl with | [_], _ => rfl) (JSs.one (JS.if (JT.not (JT.val (JE.call c.f_is_count (Nat.le_of_ble_eq_true rfl) rfl rfl (JA.cons (JE.var (i := 0) rfl (by first | exact .inl rfl | exact .inr (.inl rfl) | exact .inr (.inr rfl))) (JA.cons JE.int (JA.cons (JE.cst rfl c.c_MOST_POINTS) JA.nil)))) (fun _ _ => rfl))) (JSs.one (JS.raise c.x_BadNumber rfl)) JSs.nil))
structure F20 (G : Gc) : Prop extends F19 G where
  f_with_level : FnP G 2 "with_level" 4 f_with_level
theorem w_with_level {G : Gc} (c : F19 G) (d : FunT G "with_level" (top 39)) : F20 G where
  toF19 := c
  f_with_level := FnP.ofSt (N := ["tree", "build", "name", "by", "at"]) (ps := ["tree", "build", "name", "by"]) (k := 1) d rfl ⟨rfl, rfl, rfl, by decide +kernel, rfl, by decide +kernel, by decide +kernel⟩ (fun _ _ _ _ _ _ us hl => match us, hl with | [_, _, _, _], _ => rfl) (JSs.cons (JS.asg [] false ⟨rfl, (by first | exact .inl rfl | exact .inr rfl), .inl rfl⟩ (JE.index (JE.call c.f_names_of (Nat.le_of_ble_eq_true rfl) rfl rfl (JA.cons (JE.var (i := 0) rfl (by first | exact .inl rfl | exact .inr (.inl rfl) | exact .inr (.inr rfl))) JA.nil)) (JE.var (i := 2) rfl (by first | exact .inl rfl | exact .inr (.inl rfl) | exact .inr (.inr rfl))))) (JSs.one (JS.ret (JE.add (JE.add (JE.sl (JE.var (i := 1) rfl (by first | exact .inl rfl | exact .inr (.inl rfl) | exact .inr (.inr rfl))) JO.none (JO.some (JE.var (i := 4) rfl (by first | exact .inl rfl | exact .inr (.inl rfl) | exact .inr (.inr rfl))))) (JE.tup (JA.cons (JE.add (JE.ix (JE.var (i := 1) rfl (by first | exact .inl rfl | exact .inr (.inl rfl) | exact .inr (.inr rfl))) (JE.var (i := 4) rfl (by first | exact .inl rfl | exact .inr (.inl rfl) | exact .inr (.inr rfl)))) (JE.var (i := 3) rfl (by first | exact .inl rfl | exact .inr (.inl rfl) | exact .inr (.inr rfl)))) JA.nil))) (JE.sl (JE.var (i := 1) rfl (by first | exact .inl rfl | exact .inr (.inl rfl) | exact .inr (.inr rfl))) (JO.some (JE.add (JE.var (i := 4) rfl (by first | exact .inl rfl | exact .inr (.inl rfl) | exact .inr (.inr rfl))) JE.int)) JO.none)))))
structure F21 (G : Gc) : Prop extends F20 G where
  t__law_told : ToldP G 1 "_law_told" cs_word
theorem w__law_told {G : Gc} (c : F20 G) (d : FunT G "_law_told" (top 53)) : F21 G where
  toF20 := c
  t__law_told := ToldP.of d rfl ⟨rfl, rfl, rfl, by decide +kernel, rfl, by decide +kernel, by decide +kernel⟩ (fun _ _ _ _ _ _ us hl => match us, hl with | [_], _ => rfl) c.xc c.w__law_word rfl rfl (by decide) (by decide) rfl (by decide) (by decide) (by first | exact .inl rfl | exact .inr (.inl rfl) | exact .inr (.inr rfl)) (by decide) (by decide)
structure F22 (G : Gc) : Prop extends F21 G where
  f__law_tree : FnP G 2 "_law_tree" 2 f__law_tree
theorem w__law_tree {G : Gc} (c : F21 G) (d : FunT G "_law_tree" (top 54)) : F22 G where
  toF21 := c
  f__law_tree := FnP.ofSt (N := ["more", "most", "names", "skills", "j", "name", "here", "wants", "n", "one", "locks", "pair"]) (ps := ["more", "most"]) (k := 1) d rfl ⟨rfl, rfl, rfl, by decide +kernel, rfl, by decide +kernel, by decide +kernel⟩ (fun _ _ _ _ _ _ us hl => match us, hl with | [_, _], _ => rfl) (JSs.cons (JS.asg [] false ⟨rfl, (by first | exact .inl rfl | exact .inr rfl), .inl rfl⟩ (JE.sl (JE.lst (JA.cons (JE.str (by decide +kernel)) (JA.cons (JE.str (by decide +kernel)) (JA.cons (JE.str (by decide +kernel)) (JA.cons (JE.str (by decide +kernel)) (JA.cons (JE.str (by decide +kernel)) (JA.cons (JE.str (by decide +kernel)) JA.nil))))))) JO.none (JO.some (JE.add JE.int (JE.mod (JE.var (i := 0) rfl (by first | exact .inl rfl | exact .inr (.inl rfl) | exact .inr (.inr rfl))) (JE.var (i := 1) rfl (by first | exact .inl rfl | exact .inr (.inl rfl) | exact .inr (.inr rfl)))))))) (JSs.cons (JS.new [] false ⟨rfl, (by first | exact .inl rfl | exact .inr rfl), .inl rfl⟩ (JF.lst JA.nil)) (JSs.cons (JS.for [] (JI.enum rfl c.b_enumerate (JE.var (i := 2) rfl (by first | exact .inl rfl | exact .inr (.inl rfl) | exact .inr (.inr rfl)))) (JG.tup (JGs.cons (JG.name rfl (by first | exact .inl rfl | exact .inr rfl) (by first | exact .inl rfl | exact .inr rfl)) (JGs.cons (JG.name rfl (by first | exact .inl rfl | exact .inr rfl) (by first | exact .inl rfl | exact .inr rfl)) JGs.nil))) (JSs.cons (JS.asg [] false ⟨rfl, (by first | exact .inl rfl | exact .inr rfl), .inl rfl⟩ (JE.call c.f__law_drawn (Nat.le_of_ble_eq_true rfl) rfl rfl (JA.cons (JE.var (i := 0) rfl (by first | exact .inl rfl | exact .inr (.inl rfl) | exact .inr (.inr rfl))) (JA.cons (JE.var (i := 4) rfl (by first | exact .inl rfl | exact .inr (.inl rfl) | exact .inr (.inr rfl))) JA.nil)))) (JSs.cons (JS.new [] false ⟨rfl, (by first | exact .inl rfl | exact .inr rfl), .inl rfl⟩ (JF.lst JA.nil)) (JSs.cons (JS.for [] (JI.range rfl c.b_range (JE.var (i := 4) rfl (by first | exact .inl rfl | exact .inr (.inl rfl) | exact .inr (.inr rfl)))) (JG.name rfl (by first | exact .inl rfl | exact .inr rfl) (by first | exact .inl rfl | exact .inr rfl)) (JSs.cons (JS.asg [] false ⟨rfl, (by first | exact .inl rfl | exact .inr rfl), .inl rfl⟩ (JE.call c.f__law_drawn (Nat.le_of_ble_eq_true rfl) rfl rfl (JA.cons (JE.var (i := 6) rfl (by first | exact .inl rfl | exact .inr (.inl rfl) | exact .inr (.inr rfl))) (JA.cons (JE.add JE.int (JE.var (i := 8) rfl (by first | exact .inl rfl | exact .inr (.inl rfl) | exact .inr (.inr rfl)))) JA.nil)))) (JSs.one (JS.if (JT.cmp (JC.eq (JE.mod (JE.var (i := 9) rfl (by first | exact .inl rfl | exact .inr (.inl rfl) | exact .inr (.inr rfl))) (JE.ix (JE.lst (JA.cons JE.int (JA.cons JE.int (JA.cons JE.int JA.nil)))) (JE.mod (JE.div (JE.var (i := 0) rfl (by first | exact .inl rfl | exact .inr (.inl rfl) | exact .inr (.inr rfl))) JE.int) JE.int))) JE.int) rfl) (JSs.one (JS.app (i := 7) [] true rfl (by first | exact .inl rfl | exact .inr (.inl rfl) | exact .inr (.inr rfl)) (JE.tup (JA.cons (JE.ix (JE.var (i := 2) rfl (by first | exact .inl rfl | exact .inr (.inl rfl) | exact .inr (.inr rfl))) (JE.var (i := 8) rfl (by first | exact .inl rfl | exact .inr (.inl rfl) | exact .inr (.inr rfl)))) (JA.cons (JE.add JE.int (JE.mod (JE.div (JE.var (i := 9) rfl (by first | exact .inl rfl | exact .inr (.inl rfl) | exact .inr (.inr rfl))) JE.int) (JE.ix (JE.ix (JE.var (i := 3) rfl (by first | exact .inl rfl | exact .inr (.inl rfl) | exact .inr (.inr rfl))) (JE.var (i := 8) rfl (by first | exact .inl rfl | exact .inr (.inl rfl) | exact .inr (.inr rfl)))) JE.int))) JA.nil))))) JSs.nil)))) (JSs.cons (JS.if (JT.cmp (JC.eq (JE.mod (JE.div (JE.var (i := 6) rfl (by first | exact .inl rfl | exact .inr (.inl rfl) | exact .inr (.inr rfl))) JE.int) JE.int) JE.int) rfl) (JSs.one (JS.asg [7] false ⟨rfl, (by first | exact .inl rfl | exact .inr rfl), .inl rfl⟩ (JE.revL (JE.var (i := 7) rfl (by first | exact .inl rfl | exact .inr (.inl rfl) | exact .inr (.inr rfl)))))) JSs.nil) (JSs.one (JS.app (i := 3) [] true rfl (by first | exact .inl rfl | exact .inr (.inl rfl) | exact .inr (.inr rfl)) (JE.tup (JA.cons (JE.var (i := 5) rfl (by first | exact .inl rfl | exact .inr (.inl rfl) | exact .inr (.inr rfl))) (JA.cons (JE.add JE.int (JE.mod (JE.div (JE.var (i := 6) rfl (by first | exact .inl rfl | exact .inr (.inl rfl) | exact .inr (.inr rfl))) JE.int) JE.int)) (JA.cons (JE.add JE.int (JE.mod (JE.div (JE.var (i := 6) rfl (by first | exact .inl rfl | exact .inr (.inl rfl) | exact .inr (.inr rfl))) JE.int) JE.int)) (JA.cons (JE.tuple rfl c.b_tuple (JE.var (i := 7) rfl (by first | exact .inl rfl | exact .inr (.inl rfl) | exact .inr (.inr rfl)))) JA.nil)))))))))))) (JSs.cons (JS.if (JT.cmp (JC.eq (JE.mod (JE.div (JE.var (i := 0) rfl (by first | exact .inl rfl | exact .inr (.inl rfl) | exact .inr (.inr rfl))) JE.int) JE.int) JE.int) rfl) (JSs.one (JS.asg [3] false ⟨rfl, (by first | exact .inl rfl | exact .inr rfl), .inl rfl⟩ (JE.revL (JE.var (i := 3) rfl (by first | exact .inl rfl | exact .inr (.inl rfl) | exact .inr (.inr rfl)))))) JSs.nil) (JSs.cons (JS.new [] false ⟨rfl, (by first | exact .inl rfl | exact .inr rfl), .inl rfl⟩ (JF.lst JA.nil)) (JSs.cons (JS.for [] (JI.range rfl c.b_range (JE.ifx (JT.cmp (JC.gt (JE.len rfl c.b_len (JE.var (i := 2) rfl (by first | exact .inl rfl | exact .inr (.inl rfl) | exact .inr (.inr rfl)))) JE.int) rfl) (JE.mod (JE.div (JE.var (i := 0) rfl (by first | exact .inl rfl | exact .inr (.inl rfl) | exact .inr (.inr rfl))) JE.int) JE.int) JE.int)) (JG.name rfl (by first | exact .inl rfl | exact .inr rfl) (by first | exact .inl rfl | exact .inr rfl)) (JSs.cons (JS.asg [] false ⟨rfl, (by first | exact .inl rfl | exact .inr rfl), .inl rfl⟩ (JE.call c.f__law_drawn (Nat.le_of_ble_eq_true rfl) rfl rfl (JA.cons (JE.var (i := 0) rfl (by first | exact .inl rfl | exact .inr (.inl rfl) | exact .inr (.inr rfl))) (JA.cons (JE.add JE.int (JE.var (i := 4) rfl (by first | exact .inl rfl | exact .inr (.inl rfl) | exact .inr (.inr rfl)))) JA.nil)))) (JSs.cons (JS.asg [] false ⟨rfl, (by first | exact .inl rfl | exact .inr rfl), .inl rfl⟩ (JE.tuple rfl c.b_tuple (JE.sorted rfl c.b_sorted (JE.lst (JA.cons (JE.ix (JE.var (i := 2) rfl (by first | exact .inl rfl | exact .inr (.inl rfl) | exact .inr (.inr rfl))) (JE.mod (JE.div (JE.var (i := 6) rfl (by first | exact .inl rfl | exact .inr (.inl rfl) | exact .inr (.inr rfl))) JE.int) (JE.len rfl c.b_len (JE.var (i := 2) rfl (by first | exact .inl rfl | exact .inr (.inl rfl) | exact .inr (.inr rfl)))))) (JA.cons (JE.ix (JE.var (i := 2) rfl (by first | exact .inl rfl | exact .inr (.inl rfl) | exact .inr (.inr rfl))) (JE.mod (JE.div (JE.var (i := 6) rfl (by first | exact .inl rfl | exact .inr (.inl rfl) | exact .inr (.inr rfl))) JE.int) (JE.len rfl c.b_len (JE.var (i := 2) rfl (by first | exact .inl rfl | exact .inr (.inl rfl) | exact .inr (.inr rfl)))))) JA.nil)))))) (JSs.one (JS.if (JW.jt (JW.and (JT.cmp (JC.ne (JE.ix (JE.var (i := 11) rfl (by first | exact .inl rfl | exact .inr (.inl rfl) | exact .inr (.inr rfl))) JE.int) (JE.ix (JE.var (i := 11) rfl (by first | exact .inl rfl | exact .inr (.inl rfl) | exact .inr (.inr rfl))) JE.int)) rfl) (JW.and1 (JT.cmp (JC.notin (JE.var (i := 11) rfl (by first | exact .inl rfl | exact .inr (.inl rfl) | exact .inr (.inr rfl))) (JE.var (i := 10) rfl (by first | exact .inl rfl | exact .inr (.inl rfl) | exact .inr (.inr rfl)))) rfl)))) (JSs.one (JS.app (i := 10) [] false rfl (by first | exact .inl rfl | exact .inr (.inl rfl) | exact .inr (.inr rfl)) (JE.var (i := 11) rfl (by first | exact .inl rfl | exact .inr (.inl rfl) | exact .inr (.inr rfl))))) JSs.nil))))) (JSs.one (JS.ret (JE.tup (JA.cons (JE.tuple rfl c.b_tuple (JE.var (i := 3) rfl (by first | exact .inl rfl | exact .inr (.inl rfl) | exact .inr (.inr rfl)))) (JA.cons (JE.tuple rfl c.b_tuple (JE.var (i := 10) rfl (by first | exact .inl rfl | exact .inr (.inl rfl) | exact .inr (.inr rfl)))) JA.nil)))))))))))
structure F23 (G : Gc) : Prop extends F22 G where
  f__law_wrongs : FnP G 2 "_law_wrongs" 2 f__law_wrongs
theorem w__law_wrongs {G : Gc} (c : F22 G) (d : FunT G "_law_wrongs" (top 56)) : F23 G where
  toF22 := c
  f__law_wrongs := FnP.ofSt (N := ["tree", "row", "levels", "found", "name", "most", "price_here", "wants", "other", "level", "one"]) (ps := ["tree", "row"]) (k := 1) d rfl ⟨rfl, rfl, rfl, by decide +kernel, rfl, by decide +kernel, by decide +kernel⟩ (fun _ _ _ _ _ _ us hl => match us, hl with | [_, _], _ => rfl) (JSs.cons (JS.pat [] false (JG.tup (JGs.cons (JG.name rfl (by first | exact .inl rfl | exact .inr rfl) (by first | exact .inl rfl | exact .inr rfl)) (JGs.cons (JG.name rfl (by first | exact .inl rfl | exact .inr rfl) (by first | exact .inl rfl | exact .inr rfl)) JGs.nil))) (JE.tup (JA.cons (JE.dictZip rfl c.b_dict rfl c.b_zip (JE.call c.f__law_names (Nat.le_of_ble_eq_true rfl) rfl rfl (JA.cons (JE.var (i := 0) rfl (by first | exact .inl rfl | exact .inr (.inl rfl) | exact .inr (.inr rfl))) JA.nil)) (JE.var (i := 1) rfl (by first | exact .inl rfl | exact .inr (.inl rfl) | exact .inr (.inr rfl)))) (JA.cons (JE.lst JA.nil) JA.nil))) (hw := (by intro env h; cases env; cases h; rfl))) (JSs.cons (JS.for [] (JI.seq (JE.ix (JE.var (i := 0) rfl (by first | exact .inl rfl | exact .inr (.inl rfl) | exact .inr (.inr rfl))) JE.int)) (JG.tup (JGs.cons (JG.name rfl (by first | exact .inl rfl | exact .inr rfl) (by first | exact .inl rfl | exact .inr rfl)) (JGs.cons (JG.name rfl (by first | exact .inl rfl | exact .inr rfl) (by first | exact .inl rfl | exact .inr rfl)) (JGs.cons (JG.name rfl (by first | exact .inl rfl | exact .inr rfl) (by first | exact .inl rfl | exact .inr rfl)) (JGs.cons (JG.name rfl (by first | exact .inl rfl | exact .inr rfl) (by first | exact .inl rfl | exact .inr rfl)) JGs.nil))))) (JSs.one (JS.if (JT.cmp (JC.gt (JE.ix (JE.var (i := 2) rfl (by first | exact .inl rfl | exact .inr (.inl rfl) | exact .inr (.inr rfl))) (JE.var (i := 4) rfl (by first | exact .inl rfl | exact .inr (.inl rfl) | exact .inr (.inr rfl)))) JE.int) rfl) (JSs.cons (JS.asg [] false ⟨rfl, (by first | exact .inl rfl | exact .inr rfl), .inl rfl⟩ (JE.add (JE.var (i := 3) rfl (by first | exact .inl rfl | exact .inr (.inl rfl) | exact .inr (.inr rfl))) (JE.lc (own := [("other", 8), ("level", 9)]) (JI.seq (JE.var (i := 7) rfl (by first | exact .inl rfl | exact .inr (.inl rfl) | exact .inr (.inr rfl)))) (by first | decide +kernel | kernel_rfl) (by decide) (JG.tup (JGs.cons (JG.name rfl (by first | exact .inl rfl | exact .inr rfl) (by first | exact .inl rfl | exact .inr rfl)) (JGs.cons (JG.name rfl (by first | exact .inl rfl | exact .inr rfl) (by first | exact .inl rfl | exact .inr rfl)) JGs.nil))) (JTs.one (JT.cmp (JC.lt (JE.ix (JE.var (i := 2) rfl (by first | exact .inl rfl | exact .inr (.inl rfl) | exact .inr (.inr rfl))) (JE.var (i := 8) rfl (by first | exact .inl rfl | exact .inr (.inl rfl) | exact .inr (.inr rfl)))) (JE.var (i := 9) rfl (by first | exact .inl rfl | exact .inr (.inl rfl) | exact .inr (.inr rfl)))) rfl)) (JE.tup (JA.cons (JE.var (i := 4) rfl (by first | exact .inl rfl | exact .inr (.inl rfl) | exact .inr (.inr rfl))) (JA.cons (JE.var (i := 8) rfl (by first | exact .inl rfl | exact .inr (.inl rfl) | exact .inr (.inr rfl))) JA.nil)))))) (JSs.one (JS.asg [] false ⟨rfl, (by first | exact .inl rfl | exact .inr rfl), .inl rfl⟩ (JE.add (JE.var (i := 3) rfl (by first | exact .inl rfl | exact .inr (.inl rfl) | exact .inr (.inr rfl))) (JE.lc (own := [("one", 10), ("other", 8)]) (JI.seq (JE.ix (JE.var (i := 0) rfl (by first | exact .inl rfl | exact .inr (.inl rfl) | exact .inr (.inr rfl))) JE.int)) (by first | decide +kernel | kernel_rfl) (by decide) (JG.tup (JGs.cons (JG.name rfl (by first | exact .inl rfl | exact .inr rfl) (by first | exact .inl rfl | exact .inr rfl)) (JGs.cons (JG.name rfl (by first | exact .inl rfl | exact .inr rfl) (by first | exact .inl rfl | exact .inr rfl)) JGs.nil))) (JTs.one (JW.jt (JW.and (JT.cmp (JC.eq (JE.var (i := 10) rfl (by first | exact .inl rfl | exact .inr (.inl rfl) | exact .inr (.inr rfl))) (JE.var (i := 4) rfl (by first | exact .inl rfl | exact .inr (.inl rfl) | exact .inr (.inr rfl)))) rfl) (JW.and1 (JT.cmp (JC.gt (JE.ix (JE.var (i := 2) rfl (by first | exact .inl rfl | exact .inr (.inl rfl) | exact .inr (.inr rfl))) (JE.var (i := 8) rfl (by first | exact .inl rfl | exact .inr (.inl rfl) | exact .inr (.inr rfl)))) JE.int) rfl))))) (JE.tup (JA.cons (JE.var (i := 4) rfl (by first | exact .inl rfl | exact .inr (.inl rfl) | exact .inr (.inr rfl))) (JA.cons (JE.var (i := 8) rfl (by first | exact .inl rfl | exact .inr (.inl rfl) | exact .inr (.inr rfl))) JA.nil)))))))) JSs.nil))) (JSs.one (JS.ret (JE.var (i := 3) rfl (by first | exact .inl rfl | exact .inr (.inl rfl) | exact .inr (.inr rfl)))))))
structure F24 (G : Gc) : Prop extends F23 G where
  f_is_tree : FnP G 3 "is_tree" 1 f_is_tree
theorem w_is_tree {G : Gc} (c : F23 G) (d : FunT G "is_tree" (top 21)) : F24 G where
  toF23 := c
  f_is_tree := FnP.ofSt (N := ["thing", "one", "skills", "locks", "mosts", "name", "level"]) (ps := ["thing"]) (k := 2) d rfl ⟨rfl, rfl, rfl, by decide +kernel, rfl, by decide +kernel, by decide +kernel⟩ (fun _ _ _ _ _ _ us hl => match us, hl with | [_], _ => rfl) (JSs.cons (JS.if (JW.jt (JW.or (JT.not (JT.val (JE.isi (T := "tuple") (by decide) rfl c.b_isinstance rfl c.b_tuple (by decide +kernel) (JE.var (i := 0) rfl (by first | exact .inl rfl | exact .inr (.inl rfl) | exact .inr (.inr rfl)))) (fun _ _ => rfl))) (JW.or (JT.cmp (JC.ne (JE.len rfl c.b_len (JE.var (i := 0) rfl (by first | exact .inl rfl | exact .inr (.inl rfl) | exact .inr (.inr rfl)))) JE.int) rfl) (JW.or1 (JT.not (JT.val (JE.all rfl c.b_all (JE.lc (own := [("one", 1)]) (JI.seq (JE.var (i := 0) rfl (by first | exact .inl rfl | exact .inr (.inl rfl) | exact .inr (.inr rfl)))) (by first | decide +kernel | kernel_rfl) (by decide) (JG.name rfl (by first | exact .inl rfl | exact .inr rfl) (by first | exact .inl rfl | exact .inr rfl)) JTs.nil (JE.isi (T := "tuple") (by decide) rfl c.b_isinstance rfl c.b_tuple (by decide +kernel) (JE.var (i := 1) rfl (by first | exact .inl rfl | exact .inr (.inl rfl) | exact .inr (.inr rfl)))))) (fun _ _ => rfl))))))) (JSs.one (JS.ret JE.bl)) JSs.nil) (JSs.cons (JS.pat [] false (JG.tup (JGs.cons (JG.name rfl (by first | exact .inl rfl | exact .inr rfl) (by first | exact .inl rfl | exact .inr rfl)) (JGs.cons (JG.name rfl (by first | exact .inl rfl | exact .inr rfl) (by first | exact .inl rfl | exact .inr rfl)) JGs.nil))) (JE.var (i := 0) rfl (by first | exact .inl rfl | exact .inr (.inl rfl) | exact .inr (.inr rfl)))) (JSs.cons (JS.if (JW.jt (JW.or (JT.not (JT.chain oLe oLe JE.int (JE.len rfl c.b_len (JE.var (i := 2) rfl (by first | exact .inl rfl | exact .inr (.inl rfl) | exact .inr (.inr rfl)))) (JE.cst rfl c.c_MOST_SKILLS) rfl)) (JW.or1 (JT.not (JT.val (JE.all rfl c.b_all (JE.lc (own := [("one", 1)]) (JI.seq (JE.var (i := 2) rfl (by first | exact .inl rfl | exact .inr (.inl rfl) | exact .inr (.inr rfl)))) (by first | decide +kernel | kernel_rfl) (by decide) (JG.name rfl (by first | exact .inl rfl | exact .inr rfl) (by first | exact .inl rfl | exact .inr rfl)) JTs.nil (JE.call c.f_is_skill (Nat.le_of_ble_eq_true rfl) rfl rfl (JA.cons (JE.var (i := 1) rfl (by first | exact .inl rfl | exact .inr (.inl rfl) | exact .inr (.inr rfl))) JA.nil)))) (fun _ _ => rfl)))))) (JSs.one (JS.ret JE.bl)) JSs.nil) (JSs.cons (JS.asg [] false ⟨rfl, (by first | exact .inl rfl | exact .inr rfl), .inl rfl⟩ (JE.dict rfl c.b_dict (JE.lc (own := [("one", 1)]) (JI.seq (JE.var (i := 2) rfl (by first | exact .inl rfl | exact .inr (.inl rfl) | exact .inr (.inr rfl)))) (by first | decide +kernel | kernel_rfl) (by decide) (JG.name rfl (by first | exact .inl rfl | exact .inr rfl) (by first | exact .inl rfl | exact .inr rfl)) JTs.nil (JE.tup (JA.cons (JE.ix (JE.var (i := 1) rfl (by first | exact .inl rfl | exact .inr (.inl rfl) | exact .inr (.inr rfl))) JE.int) (JA.cons (JE.ix (JE.var (i := 1) rfl (by first | exact .inl rfl | exact .inr (.inl rfl) | exact .inr (.inr rfl))) JE.int) JA.nil)))))) (JSs.cons (JS.if (JT.cmp (JC.ne (JE.len rfl c.b_len (JE.var (i := 4) rfl (by first | exact .inl rfl | exact .inr (.inl rfl) | exact .inr (.inr rfl)))) (JE.len rfl c.b_len (JE.var (i := 2) rfl (by first | exact .inl rfl | exact .inr (.inl rfl) | exact .inr (.inr rfl))))) rfl) (JSs.one (JS.ret JE.bl)) JSs.nil) (JSs.cons (JS.for [] (JI.seq (JE.var (i := 2) rfl (by first | exact .inl rfl | exact .inr (.inl rfl) | exact .inr (.inr rfl)))) (JG.name rfl (by first | exact .inl rfl | exact .inr rfl) (by first | exact .inl rfl | exact .inr rfl)) (JSs.one (JS.if (JT.not (JT.val (JE.all rfl c.b_all (JE.lc (own := [("name", 5), ("level", 6)]) (JI.seq (JE.ix (JE.var (i := 1) rfl (by first | exact .inl rfl | exact .inr (.inl rfl) | exact .inr (.inr rfl))) JE.int)) (by first | decide +kernel | kernel_rfl) (by decide) (JG.tup (JGs.cons (JG.name rfl (by first | exact .inl rfl | exact .inr rfl) (by first | exact .inl rfl | exact .inr rfl)) (JGs.cons (JG.name rfl (by first | exact .inl rfl | exact .inr rfl) (by first | exact .inl rfl | exact .inr rfl)) JGs.nil))) JTs.nil (JE.and (JE.cmp (JC.in (JE.var (i := 5) rfl (by first | exact .inl rfl | exact .inr (.inl rfl) | exact .inr (.inr rfl))) (JE.var (i := 4) rfl (by first | exact .inl rfl | exact .inr (.inl rfl) | exact .inr (.inr rfl)))) rfl) (JE.one (JE.cmp (JC.le (JE.var (i := 6) rfl (by first | exact .inl rfl | exact .inr (.inl rfl) | exact .inr (.inr rfl))) (JE.ix (JE.var (i := 4) rfl (by first | exact .inl rfl | exact .inr (.inl rfl) | exact .inr (.inr rfl))) (JE.var (i := 5) rfl (by first | exact .inl rfl | exact .inr (.inl rfl) | exact .inr (.inr rfl))))) rfl))))) (fun _ _ => rfl))) (JSs.one (JS.ret JE.bl)) JSs.nil))) (JSs.one (JS.ret (JE.and (JE.call c.f_has_no_ring (Nat.le_of_ble_eq_true rfl) rfl rfl (JA.cons (JE.var (i := 2) rfl (by first | exact .inl rfl | exact .inr (.inl rfl) | exact .inr (.inr rfl))) JA.nil)) (JE.one (JE.call c.f_are_locks (Nat.le_of_ble_eq_true rfl) rfl rfl (JA.cons (JE.var (i := 3) rfl (by first | exact .inl rfl | exact .inr (.inl rfl) | exact .inr (.inr rfl))) (JA.cons (JE.var (i := 4) rfl (by first | exact .inl rfl | exact .inr (.inl rfl) | exact .inr (.inr rfl))) JA.nil)))))))))))))
structure F25 (G : Gc) : Prop extends F24 G where
  f_holds : FnP G 3 "holds" 2 f_holds
theorem w_holds {G : Gc} (c : F24 G) (d : FunT G "holds" (top 29)) : F25 G where
  toF24 := c
  f_holds := FnP.ofSt (N := ["tree", "build", "levels", "name"]) (ps := ["tree", "build"]) (k := 2) d rfl ⟨rfl, rfl, rfl, by decide +kernel, rfl, by decide +kernel, by decide +kernel⟩ (fun _ _ _ _ _ _ us hl => match us, hl with | [_, _], _ => rfl) (JSs.cons (JS.asg [] false ⟨rfl, (by first | exact .inl rfl | exact .inr rfl), .inl rfl⟩ (JE.call c.f_levels_of (Nat.le_of_ble_eq_true rfl) rfl rfl (JA.cons (JE.var (i := 0) rfl (by first | exact .inl rfl | exact .inr (.inl rfl) | exact .inr (.inr rfl))) (JA.cons (JE.var (i := 1) rfl (by first | exact .inl rfl | exact .inr (.inl rfl) | exact .inr (.inr rfl))) JA.nil)))) (JSs.cons (JS.if (JT.cmp (JC.ne (JE.call c.f_clashes (Nat.le_of_ble_eq_true rfl) rfl rfl (JA.cons (JE.var (i := 0) rfl (by first | exact .inl rfl | exact .inr (.inl rfl) | exact .inr (.inr rfl))) (JA.cons (JE.var (i := 2) rfl (by first | exact .inl rfl | exact .inr (.inl rfl) | exact .inr (.inr rfl))) JA.nil))) (JE.lst JA.nil)) rfl) (JSs.one (JS.ret JE.bl)) JSs.nil) (JSs.one (JS.ret (JE.all rfl c.b_all (JE.lc (own := [("name", 3)]) (JI.seq (JE.call c.f_names_of (Nat.le_of_ble_eq_true rfl) rfl rfl (JA.cons (JE.var (i := 0) rfl (by first | exact .inl rfl | exact .inr (.inl rfl) | exact .inr (.inr rfl))) JA.nil))) (by first | decide +kernel | kernel_rfl) (by decide) (JG.name rfl (by first | exact .inl rfl | exact .inr rfl) (by first | exact .inl rfl | exact .inr rfl)) JTs.nil (JE.or (JE.cmp (JC.eq (JE.ix (JE.var (i := 2) rfl (by first | exact .inl rfl | exact .inr (.inl rfl) | exact .inr (.inr rfl))) (JE.var (i := 3) rfl (by first | exact .inl rfl | exact .inr (.inl rfl) | exact .inr (.inr rfl)))) JE.int) rfl) (JE.one (JE.cmp (JC.eq (JE.call c.f_lacking (Nat.le_of_ble_eq_true rfl) rfl rfl (JA.cons (JE.var (i := 0) rfl (by first | exact .inl rfl | exact .inr (.inl rfl) | exact .inr (.inr rfl))) (JA.cons (JE.var (i := 2) rfl (by first | exact .inl rfl | exact .inr (.inl rfl) | exact .inr (.inr rfl))) (JA.cons (JE.var (i := 3) rfl (by first | exact .inl rfl | exact .inr (.inl rfl) | exact .inr (.inr rfl))) JA.nil)))) (JE.lst JA.nil)) rfl)))))))))
structure F26 (G : Gc) : Prop extends F25 G where
  f__law_build : FnP G 3 "_law_build" 2 f__law_build
theorem w__law_build {G : Gc} (c : F25 G) (d : FunT G "_law_build" (top 57)) : F26 G where
  toF25 := c
  f__law_build := FnP.ofSt (N := ["tree", "more", "here", "j", "some", "row"]) (ps := ["tree", "more"]) (k := 2) d rfl ⟨rfl, rfl, rfl, by decide +kernel, rfl, by decide +kernel, by decide +kernel⟩ (fun _ _ _ _ _ _ us hl => match us, hl with | [_, _], _ => rfl) (JSs.cons (JS.asg [] false ⟨rfl, (by first | exact .inl rfl | exact .inr rfl), .inl rfl⟩ (JE.mul (JE.tup (JA.cons JE.int JA.nil)) (JE.len rfl c.b_len (JE.ix (JE.var (i := 0) rfl (by first | exact .inl rfl | exact .inr (.inl rfl) | exact .inr (.inr rfl))) JE.int)))) (JSs.cons (JS.for [] (JI.range rfl c.b_range (JE.mod (JE.var (i := 1) rfl (by first | exact .inl rfl | exact .inr (.inl rfl) | exact .inr (.inr rfl))) JE.int)) (JG.name rfl (by first | exact .inl rfl | exact .inr rfl) (by first | exact .inl rfl | exact .inr rfl)) (JSs.cons (JS.lcA (i := 4) [] false rfl rfl rfl rfl (by decide +kernel) (own := [("row", 5)]) (JI.seq (JE.call c.f__law_ups (Nat.le_of_ble_eq_true rfl) rfl rfl (JA.cons (JE.var (i := 0) rfl (by first | exact .inl rfl | exact .inr (.inl rfl) | exact .inr (.inr rfl))) (JA.cons (JE.var (i := 2) rfl (by first | exact .inl rfl | exact .inr (.inl rfl) | exact .inr (.inr rfl))) JA.nil)))) (by first | decide +kernel | kernel_rfl) (by decide) (JG.name rfl (by first | exact .inl rfl | exact .inr rfl) (by first | exact .inl rfl | exact .inr rfl)) (JTs.one (JT.cmp (JC.eq (JE.call c.f__law_wrongs (Nat.le_of_ble_eq_true rfl) rfl rfl (JA.cons (JE.var (i := 0) rfl (by first | exact .inl rfl | exact .inr (.inl rfl) | exact .inr (.inr rfl))) (JA.cons (JE.var (i := 5) rfl (by first | exact .inl rfl | exact .inr (.inl rfl) | exact .inr (.inr rfl))) JA.nil))) (JE.lst JA.nil)) rfl)) (JE.var (i := 5) rfl (by first | exact .inl rfl | exact .inr (.inl rfl) | exact .inr (.inr rfl)))) (JSs.one (JS.asg [] false ⟨rfl, (by first | exact .inl rfl | exact .inr rfl), .inl rfl⟩ (JE.ifx (JT.cmp (JC.ne (JE.var (i := 4) rfl (by first | exact .inl rfl | exact .inr (.inl rfl) | exact .inr (.inr rfl))) (JE.lst JA.nil)) rfl) (JE.ix (JE.var (i := 4) rfl (by first | exact .inl rfl | exact .inr (.inl rfl) | exact .inr (.inr rfl))) (JE.mod (JE.div (JE.call c.f__law_drawn (Nat.le_of_ble_eq_true rfl) rfl rfl (JA.cons (JE.var (i := 1) rfl (by first | exact .inl rfl | exact .inr (.inl rfl) | exact .inr (.inr rfl))) (JA.cons (JE.var (i := 3) rfl (by first | exact .inl rfl | exact .inr (.inl rfl) | exact .inr (.inr rfl))) JA.nil))) JE.int) (JE.len rfl c.b_len (JE.var (i := 4) rfl (by first | exact .inl rfl | exact .inr (.inl rfl) | exact .inr (.inr rfl)))))) (JE.var (i := 2) rfl (by first | exact .inl rfl | exact .inr (.inl rfl) | exact .inr (.inr rfl)))))))) (JSs.one (JS.ret (JE.var (i := 2) rfl (by first | exact .inl rfl | exact .inr (.inl rfl) | exact .inr (.inr rfl)))))))
structure F27 (G : Gc) : Prop extends F26 G where
  f_need_tree : FnP G 4 "need_tree" 1 f_need_tree
theorem w_need_tree {G : Gc} (c : F26 G) (d : FunT G "need_tree" (top 23)) : F27 G where
  toF26 := c
  f_need_tree := FnP.ofSt (N := ["tree"]) (ps := ["tree"]) (k := 3) d rfl ⟨rfl, rfl, rfl, by decide +kernel, rfl, by decide +kernel, by decide +kernel⟩ (fun _ _ _ _ _ _ us hl => match us, hl with | [_], _ => rfl) (JSs.one (JS.if (JT.not (JT.val (JE.call c.f_is_tree (Nat.le_of_ble_eq_true rfl) rfl rfl (JA.cons (JE.var (i := 0) rfl (by first | exact .inl rfl | exact .inr (.inl rfl) | exact .inr (.inr rfl))) JA.nil)) (fun _ _ => rfl))) (JSs.one (JS.raise c.x_BadTree rfl)) JSs.nil))
structure F28 (G : Gc) : Prop extends F27 G where
  f_check_up : FnP G 4 "check_up" 4 f_check_up
theorem w_check_up {G : Gc} (c : F27 G) (d : FunT G "check_up" (top 40)) : F28 G where
  toF27 := c
  f_check_up := FnP.ofSt (N := ["tree", "build", "name", "points", "levels", "later"]) (ps := ["tree", "build", "name", "points"]) (k := 3) d rfl ⟨rfl, rfl, rfl, by decide +kernel, rfl, by decide +kernel, by decide +kernel⟩ (fun _ _ _ _ _ _ us hl => match us, hl with | [_, _, _, _], _ => rfl) (JSs.cons (JS.asg [] false ⟨rfl, (by first | exact .inl rfl | exact .inr rfl), .inl rfl⟩ (JE.call c.f_levels_of (Nat.le_of_ble_eq_true rfl) rfl rfl (JA.cons (JE.var (i := 0) rfl (by first | exact .inl rfl | exact .inr (.inl rfl) | exact .inr (.inr rfl))) (JA.cons (JE.var (i := 1) rfl (by first | exact .inl rfl | exact .inr (.inl rfl) | exact .inr (.inr rfl))) JA.nil)))) (JSs.cons (JS.if (JT.cmp (JC.eq (JE.ix (JE.var (i := 4) rfl (by first | exact .inl rfl | exact .inr (.inl rfl) | exact .inr (.inr rfl))) (JE.var (i := 2) rfl (by first | exact .inl rfl | exact .inr (.inl rfl) | exact .inr (.inr rfl)))) (JE.ix (JE.call c.f_skill_of (Nat.le_of_ble_eq_true rfl) rfl rfl (JA.cons (JE.var (i := 0) rfl (by first | exact .inl rfl | exact .inr (.inl rfl) | exact .inr (.inr rfl))) (JA.cons (JE.var (i := 2) rfl (by first | exact .inl rfl | exact .inr (.inl rfl) | exact .inr (.inr rfl))) JA.nil))) JE.int)) rfl) (JSs.one (JS.raise c.x_Most rfl)) JSs.nil) (JSs.cons (JS.if (JT.cmp (JC.ne (JE.call c.f_lacking (Nat.le_of_ble_eq_true rfl) rfl rfl (JA.cons (JE.var (i := 0) rfl (by first | exact .inl rfl | exact .inr (.inl rfl) | exact .inr (.inr rfl))) (JA.cons (JE.var (i := 4) rfl (by first | exact .inl rfl | exact .inr (.inl rfl) | exact .inr (.inr rfl))) (JA.cons (JE.var (i := 2) rfl (by first | exact .inl rfl | exact .inr (.inl rfl) | exact .inr (.inr rfl))) JA.nil)))) (JE.lst JA.nil)) rfl) (JSs.one (JS.raise c.x_Wants rfl)) JSs.nil) (JSs.cons (JS.asg [] false ⟨rfl, (by first | exact .inl rfl | exact .inr rfl), .inl rfl⟩ (JE.call c.f_with_level (Nat.le_of_ble_eq_true rfl) rfl rfl (JA.cons (JE.var (i := 0) rfl (by first | exact .inl rfl | exact .inr (.inl rfl) | exact .inr (.inr rfl))) (JA.cons (JE.var (i := 1) rfl (by first | exact .inl rfl | exact .inr (.inl rfl) | exact .inr (.inr rfl))) (JA.cons (JE.var (i := 2) rfl (by first | exact .inl rfl | exact .inr (.inl rfl) | exact .inr (.inr rfl))) (JA.cons JE.int JA.nil)))))) (JSs.cons (JS.if (JT.not (JT.val (JE.call c.f_holds (Nat.le_of_ble_eq_true rfl) rfl rfl (JA.cons (JE.var (i := 0) rfl (by first | exact .inl rfl | exact .inr (.inl rfl) | exact .inr (.inr rfl))) (JA.cons (JE.var (i := 5) rfl (by first | exact .inl rfl | exact .inr (.inl rfl) | exact .inr (.inr rfl))) JA.nil))) (fun _ _ => rfl))) (JSs.one (JS.raise c.x_Locked rfl)) JSs.nil) (JSs.one (JS.if (JT.cmp (JC.gt (JE.call c.f_cost_of (Nat.le_of_ble_eq_true rfl) rfl rfl (JA.cons (JE.var (i := 0) rfl (by first | exact .inl rfl | exact .inr (.inl rfl) | exact .inr (.inr rfl))) (JA.cons (JE.var (i := 5) rfl (by first | exact .inl rfl | exact .inr (.inl rfl) | exact .inr (.inr rfl))) JA.nil))) (JE.var (i := 3) rfl (by first | exact .inl rfl | exact .inr (.inl rfl) | exact .inr (.inr rfl)))) rfl) (JSs.one (JS.raise c.x_Points rfl)) JSs.nil)))))))
structure F29 (G : Gc) : Prop extends F28 G where
  f_check_down : FnP G 4 "check_down" 3 f_check_down
theorem w_check_down {G : Gc} (c : F28 G) (d : FunT G "check_down" (top 41)) : F29 G where
  toF28 := c
  f_check_down := FnP.ofSt (N := ["tree", "build", "name"]) (ps := ["tree", "build", "name"]) (k := 3) d rfl ⟨rfl, rfl, rfl, by decide +kernel, rfl, by decide +kernel, by decide +kernel⟩ (fun _ _ _ _ _ _ us hl => match us, hl with | [_, _, _], _ => rfl) (JSs.cons (JS.if (JT.cmp (JC.eq (JE.ix (JE.call c.f_levels_of (Nat.le_of_ble_eq_true rfl) rfl rfl (JA.cons (JE.var (i := 0) rfl (by first | exact .inl rfl | exact .inr (.inl rfl) | exact .inr (.inr rfl))) (JA.cons (JE.var (i := 1) rfl (by first | exact .inl rfl | exact .inr (.inl rfl) | exact .inr (.inr rfl))) JA.nil))) (JE.var (i := 2) rfl (by first | exact .inl rfl | exact .inr (.inl rfl) | exact .inr (.inr rfl)))) JE.int) rfl) (JSs.one (JS.raise c.x_Most rfl)) JSs.nil) (JSs.one (JS.if (JT.not (JT.val (JE.call c.f_holds (Nat.le_of_ble_eq_true rfl) rfl rfl (JA.cons (JE.var (i := 0) rfl (by first | exact .inl rfl | exact .inr (.inl rfl) | exact .inr (.inr rfl))) (JA.cons (JE.call c.f_with_level (Nat.le_of_ble_eq_true rfl) rfl rfl (JA.cons (JE.var (i := 0) rfl (by first | exact .inl rfl | exact .inr (.inl rfl) | exact .inr (.inr rfl))) (JA.cons (JE.var (i := 1) rfl (by first | exact .inl rfl | exact .inr (.inl rfl) | exact .inr (.inr rfl))) (JA.cons (JE.var (i := 2) rfl (by first | exact .inl rfl | exact .inr (.inl rfl) | exact .inr (.inr rfl))) (JA.cons (JE.neg JE.int) JA.nil))))) JA.nil))) (fun _ _ => rfl))) (JSs.one (JS.raise c.x_Wants rfl)) JSs.nil)))
structure F30 (G : Gc) : Prop extends F29 G where
  f_is_build : FnP G 5 "is_build" 2 f_is_build
theorem w_is_build {G : Gc} (c : F29 G) (d : FunT G "is_build" (top 30)) : F30 G where
  toF29 := c
  f_is_build := FnP.ofSt (N := ["tree", "thing"]) (ps := ["tree", "thing"]) (k := 4) d rfl ⟨rfl, rfl, rfl, by decide +kernel, rfl, by decide +kernel, by decide +kernel⟩ (fun _ _ _ _ _ _ us hl => match us, hl with | [_, _], _ => rfl) (JSs.cons (JS.expr (JE.call c.f_need_tree (Nat.le_of_ble_eq_true rfl) rfl rfl (JA.cons (JE.var (i := 0) rfl (by first | exact .inl rfl | exact .inr (.inl rfl) | exact .inr (.inr rfl))) JA.nil))) (JSs.one (JS.ret (JE.and (JE.call c.f_are_levels (Nat.le_of_ble_eq_true rfl) rfl rfl (JA.cons (JE.var (i := 0) rfl (by first | exact .inl rfl | exact .inr (.inl rfl) | exact .inr (.inr rfl))) (JA.cons (JE.var (i := 1) rfl (by first | exact .inl rfl | exact .inr (.inl rfl) | exact .inr (.inr rfl))) JA.nil))) (JE.one (JE.call c.f_holds (Nat.le_of_ble_eq_true rfl) rfl rfl (JA.cons (JE.var (i := 0) rfl (by first | exact .inl rfl | exact .inr (.inl rfl) | exact .inr (.inr rfl))) (JA.cons (JE.var (i := 1) rfl (by first | exact .inl rfl | exact .inr (.inl rfl) | exact .inr (.inr rfl))) JA.nil))))))))
structure F31 (G : Gc) : Prop extends F30 G where
  f_need_build : FnP G 6 "need_build" 2 f_need_build
theorem w_need_build {G : Gc} (c : F30 G) (d : FunT G "need_build" (top 31)) : F31 G where
  toF30 := c
  f_need_build := FnP.ofSt (N := ["tree", "build"]) (ps := ["tree", "build"]) (k := 5) d rfl ⟨rfl, rfl, rfl, by decide +kernel, rfl, by decide +kernel, by decide +kernel⟩ (fun _ _ _ _ _ _ us hl => match us, hl with | [_, _], _ => rfl) (JSs.one (JS.if (JT.not (JT.val (JE.call c.f_is_build (Nat.le_of_ble_eq_true rfl) rfl rfl (JA.cons (JE.var (i := 0) rfl (by first | exact .inl rfl | exact .inr (.inl rfl) | exact .inr (.inr rfl))) (JA.cons (JE.var (i := 1) rfl (by first | exact .inl rfl | exact .inr (.inl rfl) | exact .inr (.inr rfl))) JA.nil))) (fun _ _ => rfl))) (JSs.one (JS.raise c.x_BadBuild rfl)) JSs.nil))
structure F32 (G : Gc) : Prop extends F31 G where
  f_cost : FnP G 7 "cost" 2 f_cost
theorem w_cost {G : Gc} (c : F31 G) (d : FunT G "cost" (top 34)) : F32 G where
  toF31 := c
  f_cost := FnP.ofSt (N := ["tree", "build"]) (ps := ["tree", "build"]) (k := 6) d rfl ⟨rfl, rfl, rfl, by decide +kernel, rfl, by decide +kernel, by decide +kernel⟩ (fun _ _ _ _ _ _ us hl => match us, hl with | [_, _], _ => rfl) (JSs.cons (JS.expr (JE.call c.f_need_build (Nat.le_of_ble_eq_true rfl) rfl rfl (JA.cons (JE.var (i := 0) rfl (by first | exact .inl rfl | exact .inr (.inl rfl) | exact .inr (.inr rfl))) (JA.cons (JE.var (i := 1) rfl (by first | exact .inl rfl | exact .inr (.inl rfl) | exact .inr (.inr rfl))) JA.nil)))) (JSs.one (JS.ret (JE.call c.f_cost_of (Nat.le_of_ble_eq_true rfl) rfl rfl (JA.cons (JE.var (i := 0) rfl (by first | exact .inl rfl | exact .inr (.inl rfl) | exact .inr (.inr rfl))) (JA.cons (JE.var (i := 1) rfl (by first | exact .inl rfl | exact .inr (.inl rfl) | exact .inr (.inr rfl))) JA.nil))))))
structure F33 (G : Gc) : Prop extends F32 G where
  f_learned : FnP G 7 "learned" 4 f_learned
theorem w_learned {G : Gc} (c : F32 G) (d : FunT G "learned" (top 42)) : F33 G where
  toF32 := c
  f_learned := FnP.ofSt (N := ["tree", "build", "name", "points"]) (ps := ["tree", "build", "name", "points"]) (k := 6) d rfl ⟨rfl, rfl, rfl, by decide +kernel, rfl, by decide +kernel, by decide +kernel⟩ (fun _ _ _ _ _ _ us hl => match us, hl with | [_, _, _, _], _ => rfl) (JSs.cons (JS.expr (JE.call c.f_need_build (Nat.le_of_ble_eq_true rfl) rfl rfl (JA.cons (JE.var (i := 0) rfl (by first | exact .inl rfl | exact .inr (.inl rfl) | exact .inr (.inr rfl))) (JA.cons (JE.var (i := 1) rfl (by first | exact .inl rfl | exact .inr (.inl rfl) | exact .inr (.inr rfl))) JA.nil)))) (JSs.cons (JS.expr (JE.call c.f_need_name (Nat.le_of_ble_eq_true rfl) rfl rfl (JA.cons (JE.var (i := 0) rfl (by first | exact .inl rfl | exact .inr (.inl rfl) | exact .inr (.inr rfl))) (JA.cons (JE.var (i := 2) rfl (by first | exact .inl rfl | exact .inr (.inl rfl) | exact .inr (.inr rfl))) JA.nil)))) (JSs.cons (JS.expr (JE.call c.f_need_points (Nat.le_of_ble_eq_true rfl) rfl rfl (JA.cons (JE.var (i := 3) rfl (by first | exact .inl rfl | exact .inr (.inl rfl) | exact .inr (.inr rfl))) JA.nil))) (JSs.cons (JS.expr (JE.call c.f_check_up (Nat.le_of_ble_eq_true rfl) rfl rfl (JA.cons (JE.var (i := 0) rfl (by first | exact .inl rfl | exact .inr (.inl rfl) | exact .inr (.inr rfl))) (JA.cons (JE.var (i := 1) rfl (by first | exact .inl rfl | exact .inr (.inl rfl) | exact .inr (.inr rfl))) (JA.cons (JE.var (i := 2) rfl (by first | exact .inl rfl | exact .inr (.inl rfl) | exact .inr (.inr rfl))) (JA.cons (JE.var (i := 3) rfl (by first | exact .inl rfl | exact .inr (.inl rfl) | exact .inr (.inr rfl))) JA.nil)))))) (JSs.one (JS.ret (JE.call c.f_with_level (Nat.le_of_ble_eq_true rfl) rfl rfl (JA.cons (JE.var (i := 0) rfl (by first | exact .inl rfl | exact .inr (.inl rfl) | exact .inr (.inr rfl))) (JA.cons (JE.var (i := 1) rfl (by first | exact .inl rfl | exact .inr (.inl rfl) | exact .inr (.inr rfl))) (JA.cons (JE.var (i := 2) rfl (by first | exact .inl rfl | exact .inr (.inl rfl) | exact .inr (.inr rfl))) (JA.cons JE.int JA.nil)))))))))))
structure F34 (G : Gc) : Prop extends F33 G where
  f_lessened : FnP G 7 "lessened" 3 f_lessened
theorem w_lessened {G : Gc} (c : F33 G) (d : FunT G "lessened" (top 43)) : F34 G where
  toF33 := c
  f_lessened := FnP.ofSt (N := ["tree", "build", "name"]) (ps := ["tree", "build", "name"]) (k := 6) d rfl ⟨rfl, rfl, rfl, by decide +kernel, rfl, by decide +kernel, by decide +kernel⟩ (fun _ _ _ _ _ _ us hl => match us, hl with | [_, _, _], _ => rfl) (JSs.cons (JS.expr (JE.call c.f_need_build (Nat.le_of_ble_eq_true rfl) rfl rfl (JA.cons (JE.var (i := 0) rfl (by first | exact .inl rfl | exact .inr (.inl rfl) | exact .inr (.inr rfl))) (JA.cons (JE.var (i := 1) rfl (by first | exact .inl rfl | exact .inr (.inl rfl) | exact .inr (.inr rfl))) JA.nil)))) (JSs.cons (JS.expr (JE.call c.f_need_name (Nat.le_of_ble_eq_true rfl) rfl rfl (JA.cons (JE.var (i := 0) rfl (by first | exact .inl rfl | exact .inr (.inl rfl) | exact .inr (.inr rfl))) (JA.cons (JE.var (i := 2) rfl (by first | exact .inl rfl | exact .inr (.inl rfl) | exact .inr (.inr rfl))) JA.nil)))) (JSs.cons (JS.expr (JE.call c.f_check_down (Nat.le_of_ble_eq_true rfl) rfl rfl (JA.cons (JE.var (i := 0) rfl (by first | exact .inl rfl | exact .inr (.inl rfl) | exact .inr (.inr rfl))) (JA.cons (JE.var (i := 1) rfl (by first | exact .inl rfl | exact .inr (.inl rfl) | exact .inr (.inr rfl))) (JA.cons (JE.var (i := 2) rfl (by first | exact .inl rfl | exact .inr (.inl rfl) | exact .inr (.inr rfl))) JA.nil))))) (JSs.one (JS.ret (JE.call c.f_with_level (Nat.le_of_ble_eq_true rfl) rfl rfl (JA.cons (JE.var (i := 0) rfl (by first | exact .inl rfl | exact .inr (.inl rfl) | exact .inr (.inr rfl))) (JA.cons (JE.var (i := 1) rfl (by first | exact .inl rfl | exact .inr (.inl rfl) | exact .inr (.inr rfl))) (JA.cons (JE.var (i := 2) rfl (by first | exact .inl rfl | exact .inr (.inl rfl) | exact .inr (.inr rfl))) (JA.cons (JE.neg JE.int) JA.nil))))))))))
structure F35 (G : Gc) : Prop extends F34 G where
  f_way : FnP G 7 "way" 2 f_way
theorem w_way {G : Gc} (c : F34 G) (d : FunT G "way" (top 47)) : F35 G where
  toF34 := c
  f_way := FnP.ofSt (N := ["tree", "build", "here", "found", "name", "level", "goal"]) (ps := ["tree", "build"]) (k := 6) d rfl ⟨rfl, rfl, rfl, by decide +kernel, rfl, by decide +kernel, by decide +kernel⟩ (fun _ _ _ _ _ _ us hl => match us, hl with | [_, _], _ => rfl) (JSs.cons (JS.expr (JE.call c.f_need_build (Nat.le_of_ble_eq_true rfl) rfl rfl (JA.cons (JE.var (i := 0) rfl (by first | exact .inl rfl | exact .inr (.inl rfl) | exact .inr (.inr rfl))) (JA.cons (JE.var (i := 1) rfl (by first | exact .inl rfl | exact .inr (.inl rfl) | exact .inr (.inr rfl))) JA.nil)))) (JSs.cons (JS.parN [] false ⟨rfl, rfl, by decide, rfl, rfl⟩ (JE.mul (JE.tup (JA.cons JE.int JA.nil)) (JE.len rfl c.b_len (JE.var (i := 1) rfl (by first | exact .inl rfl | exact .inr (.inl rfl) | exact .inr (.inr rfl))))) (JF.lst JA.nil) (by intro env h; cases env; cases h; rfl)) (JSs.cons (JS.while 40 (JT.cmp (JC.ne (JE.var (i := 2) rfl (by first | exact .inl rfl | exact .inr (.inl rfl) | exact .inr (.inr rfl))) (JE.var (i := 1) rfl (by first | exact .inl rfl | exact .inr (.inl rfl) | exact .inr (.inr rfl)))) rfl) (JSs.one (JS.for [] (JI.zip3 rfl c.b_zip (JE.call c.f_names_of (Nat.le_of_ble_eq_true rfl) rfl rfl (JA.cons (JE.var (i := 0) rfl (by first | exact .inl rfl | exact .inr (.inl rfl) | exact .inr (.inr rfl))) JA.nil)) (JE.var (i := 2) rfl (by first | exact .inl rfl | exact .inr (.inl rfl) | exact .inr (.inr rfl))) (JE.var (i := 1) rfl (by first | exact .inl rfl | exact .inr (.inl rfl) | exact .inr (.inr rfl)))) (JG.tup (JGs.cons (JG.name rfl (by first | exact .inl rfl | exact .inr rfl) (by first | exact .inl rfl | exact .inr rfl)) (JGs.cons (JG.name rfl (by first | exact .inl rfl | exact .inr rfl) (by first | exact .inl rfl | exact .inr rfl)) (JGs.cons (JG.name rfl (by first | exact .inl rfl | exact .inr rfl) (by first | exact .inl rfl | exact .inr rfl)) JGs.nil)))) (JSs.one (JS.if (JW.jt (JW.and (JT.cmp (JC.lt (JE.var (i := 5) rfl (by first | exact .inl rfl | exact .inr (.inl rfl) | exact .inr (.inr rfl))) (JE.var (i := 6) rfl (by first | exact .inl rfl | exact .inr (.inl rfl) | exact .inr (.inr rfl)))) rfl) (JW.and1 (JT.cmp (JC.eq (JE.call c.f_lacking (Nat.le_of_ble_eq_true rfl) rfl rfl (JA.cons (JE.var (i := 0) rfl (by first | exact .inl rfl | exact .inr (.inl rfl) | exact .inr (.inr rfl))) (JA.cons (JE.call c.f_levels_of (Nat.le_of_ble_eq_true rfl) rfl rfl (JA.cons (JE.var (i := 0) rfl (by first | exact .inl rfl | exact .inr (.inl rfl) | exact .inr (.inr rfl))) (JA.cons (JE.var (i := 2) rfl (by first | exact .inl rfl | exact .inr (.inl rfl) | exact .inr (.inr rfl))) JA.nil))) (JA.cons (JE.var (i := 4) rfl (by first | exact .inl rfl | exact .inr (.inl rfl) | exact .inr (.inr rfl))) JA.nil)))) (JE.lst JA.nil)) rfl)))) (JSs.cons (JS.asg [] false ⟨rfl, (by first | exact .inl rfl | exact .inr rfl), .inl rfl⟩ (JE.call c.f_with_level (Nat.le_of_ble_eq_true rfl) rfl rfl (JA.cons (JE.var (i := 0) rfl (by first | exact .inl rfl | exact .inr (.inl rfl) | exact .inr (.inr rfl))) (JA.cons (JE.var (i := 2) rfl (by first | exact .inl rfl | exact .inr (.inl rfl) | exact .inr (.inr rfl))) (JA.cons (JE.var (i := 4) rfl (by first | exact .inl rfl | exact .inr (.inl rfl) | exact .inr (.inr rfl))) (JA.cons JE.int JA.nil)))))) (JSs.cons (JS.app (i := 3) [] false rfl (by first | exact .inl rfl | exact .inr (.inl rfl) | exact .inr (.inr rfl)) (JE.var (i := 4) rfl (by first | exact .inl rfl | exact .inr (.inl rfl) | exact .inr (.inr rfl)))) (JSs.one JS.brk))) JSs.nil))))) (JSs.one (JS.ret (JE.var (i := 3) rfl (by first | exact .inl rfl | exact .inr (.inl rfl) | exact .inr (.inr rfl))))))))
structure F36 (G : Gc) : Prop extends F35 G where
  f_may_learn : FnP G 9 "may_learn" 3 f_may_learn
theorem w_may_learn {G : Gc} (c : F35 G) {cA cP : Addr} (lt : LamT G cA cP ("may_learn" ++ ".<locals>.")) (d : FunC G "may_learn" (top 45) cA) : F36 G where
  toF35 := c
  f_may_learn := FnP.ofStC (N := ["tree", "build", "points", "name"]) (ps := ["tree", "build", "points"]) (k := 8) d rfl ⟨rfl, rfl, rfl, by decide +kernel, rfl, by decide +kernel, by decide +kernel⟩ (fun _ _ _ _ _ _ us hl => match us, hl with | [_, _, _], _ => rfl) (JSs.cons (JS.expr (JE.call c.f_need_build (Nat.le_of_ble_eq_true rfl) rfl rfl (JA.cons (JE.var (i := 0) rfl (by first | exact .inl rfl | exact .inr (.inl rfl) | exact .inr (.inr rfl))) (JA.cons (JE.var (i := 1) rfl (by first | exact .inl rfl | exact .inr (.inl rfl) | exact .inr (.inr rfl))) JA.nil)))) (JSs.cons (JS.expr (JE.call c.f_need_points (Nat.le_of_ble_eq_true rfl) rfl rfl (JA.cons (JE.var (i := 2) rfl (by first | exact .inl rfl | exact .inr (.inl rfl) | exact .inr (.inr rfl))) JA.nil))) (JSs.one (JS.ret (JE.lc (own := [("name", 3)]) (JI.seq (JE.call c.f_names_of (Nat.le_of_ble_eq_true rfl) rfl rfl (JA.cons (JE.var (i := 0) rfl (by first | exact .inl rfl | exact .inr (.inl rfl) | exact .inr (.inr rfl))) JA.nil))) (by first | decide +kernel | kernel_rfl) (by decide) (JG.name rfl (by first | exact .inl rfl | exact .inr rfl) (by first | exact .inl rfl | exact .inr rfl)) (JTs.one (JT.val (JE.letl (k := 4) c.l_is_let rfl rfl lt (Nat.le_of_ble_eq_true rfl) (by first | decide +kernel | kernel_rfl) (fun _ => rfl) (fun _ _ _ _ _ => rfl) (JE.call c.f_check_up (Nat.le_of_ble_eq_true rfl) rfl rfl (JA.cons (JE.var (i := 0) rfl (by first | exact .inl rfl | exact .inr (.inl rfl) | exact .inr (.inr rfl))) (JA.cons (JE.var (i := 1) rfl (by first | exact .inl rfl | exact .inr (.inl rfl) | exact .inr (.inr rfl))) (JA.cons (JE.var (i := 3) rfl (by first | exact .inl rfl | exact .inr (.inl rfl) | exact .inr (.inr rfl))) (JA.cons (JE.var (i := 2) rfl (by first | exact .inl rfl | exact .inr (.inl rfl) | exact .inr (.inr rfl))) JA.nil)))))) (fun _ _ => rfl))) (JE.var (i := 3) rfl (by first | exact .inl rfl | exact .inr (.inl rfl) | exact .inr (.inr rfl))))))))
structure F37 (G : Gc) : Prop extends F36 G where
  f_may_give : FnP G 9 "may_give" 2 f_may_give
theorem w_may_give {G : Gc} (c : F36 G) {cA cP : Addr} (lt : LamT G cA cP ("may_give" ++ ".<locals>.")) (d : FunC G "may_give" (top 46) cA) : F37 G where
  toF36 := c
  f_may_give := FnP.ofStC (N := ["tree", "build", "name"]) (ps := ["tree", "build"]) (k := 8) d rfl ⟨rfl, rfl, rfl, by decide +kernel, rfl, by decide +kernel, by decide +kernel⟩ (fun _ _ _ _ _ _ us hl => match us, hl with | [_, _], _ => rfl) (JSs.cons (JS.expr (JE.call c.f_need_build (Nat.le_of_ble_eq_true rfl) rfl rfl (JA.cons (JE.var (i := 0) rfl (by first | exact .inl rfl | exact .inr (.inl rfl) | exact .inr (.inr rfl))) (JA.cons (JE.var (i := 1) rfl (by first | exact .inl rfl | exact .inr (.inl rfl) | exact .inr (.inr rfl))) JA.nil)))) (JSs.one (JS.ret (JE.lc (own := [("name", 2)]) (JI.seq (JE.call c.f_names_of (Nat.le_of_ble_eq_true rfl) rfl rfl (JA.cons (JE.var (i := 0) rfl (by first | exact .inl rfl | exact .inr (.inl rfl) | exact .inr (.inr rfl))) JA.nil))) (by first | decide +kernel | kernel_rfl) (by decide) (JG.name rfl (by first | exact .inl rfl | exact .inr rfl) (by first | exact .inl rfl | exact .inr rfl)) (JTs.one (JT.val (JE.letl (k := 4) c.l_is_let rfl rfl lt (Nat.le_of_ble_eq_true rfl) (by first | decide +kernel | kernel_rfl) (fun _ => rfl) (fun _ _ _ _ _ => rfl) (JE.call c.f_check_down (Nat.le_of_ble_eq_true rfl) rfl rfl (JA.cons (JE.var (i := 0) rfl (by first | exact .inl rfl | exact .inr (.inl rfl) | exact .inr (.inr rfl))) (JA.cons (JE.var (i := 1) rfl (by first | exact .inl rfl | exact .inr (.inl rfl) | exact .inr (.inr rfl))) (JA.cons (JE.var (i := 2) rfl (by first | exact .inl rfl | exact .inr (.inl rfl) | exact .inr (.inr rfl))) JA.nil))))) (fun _ _ => rfl))) (JE.var (i := 2) rfl (by first | exact .inl rfl | exact .inr (.inl rfl) | exact .inr (.inr rfl)))))))
structure F38 (G : Gc) : Prop extends F37 G where
  f_is_way : FnP G 9 "is_way" 3 f_is_way
theorem w_is_way {G : Gc} (c : F37 G) {cA cP : Addr} (lt : LamT G cA cP ("is_way" ++ ".<locals>.")) (d : FunC G "is_way" (top 48) cA) : F38 G where
  toF37 := c
  f_is_way := FnP.ofStC (N := ["tree", "build", "row", "here", "name"]) (ps := ["tree", "build", "row"]) (k := 8) d rfl ⟨rfl, rfl, rfl, by decide +kernel, rfl, by decide +kernel, by decide +kernel⟩ (fun _ _ _ _ _ _ us hl => match us, hl with | [_, _, _], _ => rfl) (JSs.cons (JS.expr (JE.call c.f_need_build (Nat.le_of_ble_eq_true rfl) rfl rfl (JA.cons (JE.var (i := 0) rfl (by first | exact .inl rfl | exact .inr (.inl rfl) | exact .inr (.inr rfl))) (JA.cons (JE.var (i := 1) rfl (by first | exact .inl rfl | exact .inr (.inl rfl) | exact .inr (.inr rfl))) JA.nil)))) (JSs.cons (JS.asg [] false ⟨rfl, (by first | exact .inl rfl | exact .inr rfl), .inl rfl⟩ (JE.mul (JE.tup (JA.cons JE.int JA.nil)) (JE.len rfl c.b_len (JE.var (i := 1) rfl (by first | exact .inl rfl | exact .inr (.inl rfl) | exact .inr (.inr rfl)))))) (JSs.cons (JS.if (JW.jt (JW.or (JT.not (JT.val (JE.isi (T := "list") (by decide) rfl c.b_isinstance rfl c.b_list (by decide +kernel) (JE.var (i := 2) rfl (by first | exact .inl rfl | exact .inr (.inl rfl) | exact .inr (.inr rfl)))) (fun _ _ => rfl))) (JW.or1 (JT.not (JT.val (JE.all rfl c.b_all (JE.lc (own := [("name", 4)]) (JI.seq (JE.var (i := 2) rfl (by first | exact .inl rfl | exact .inr (.inl rfl) | exact .inr (.inr rfl)))) (by first | decide +kernel | kernel_rfl) (by decide) (JG.name rfl (by first | exact .inl rfl | exact .inr rfl) (by first | exact .inl rfl | exact .inr rfl)) JTs.nil (JE.and (JE.isi (T := "str") (by decide) rfl c.b_isinstance rfl c.b_str (by decide +kernel) (JE.var (i := 4) rfl (by first | exact .inl rfl | exact .inr (.inl rfl) | exact .inr (.inr rfl)))) (JE.one (JE.cmp (JC.in (JE.var (i := 4) rfl (by first | exact .inl rfl | exact .inr (.inl rfl) | exact .inr (.inr rfl))) (JE.call c.f_names_of (Nat.le_of_ble_eq_true rfl) rfl rfl (JA.cons (JE.var (i := 0) rfl (by first | exact .inl rfl | exact .inr (.inl rfl) | exact .inr (.inr rfl))) JA.nil))) rfl))))) (fun _ _ => rfl)))))) (JSs.one (JS.ret JE.bl)) JSs.nil) (JSs.cons (JS.for [] (JI.seq (JE.var (i := 2) rfl (by first | exact .inl rfl | exact .inr (.inl rfl) | exact .inr (.inr rfl)))) (JG.name rfl (by first | exact .inl rfl | exact .inr rfl) (by first | exact .inl rfl | exact .inr rfl)) (JSs.cons (JS.if (JT.not (JT.val (JE.letl (k := 4) c.l_is_let rfl rfl lt (Nat.le_of_ble_eq_true rfl) (by first | decide +kernel | kernel_rfl) (fun _ => rfl) (fun _ _ _ _ _ => rfl) (JE.call c.f_check_up (Nat.le_of_ble_eq_true rfl) rfl rfl (JA.cons (JE.var (i := 0) rfl (by first | exact .inl rfl | exact .inr (.inl rfl) | exact .inr (.inr rfl))) (JA.cons (JE.var (i := 3) rfl (by first | exact .inl rfl | exact .inr (.inl rfl) | exact .inr (.inr rfl))) (JA.cons (JE.var (i := 4) rfl (by first | exact .inl rfl | exact .inr (.inl rfl) | exact .inr (.inr rfl))) (JA.cons (JE.cst rfl c.c_MOST_POINTS) JA.nil)))))) (fun _ _ => rfl))) (JSs.one (JS.ret JE.bl)) JSs.nil) (JSs.one (JS.asg [] false ⟨rfl, (by first | exact .inl rfl | exact .inr rfl), .inl rfl⟩ (JE.call c.f_with_level (Nat.le_of_ble_eq_true rfl) rfl rfl (JA.cons (JE.var (i := 0) rfl (by first | exact .inl rfl | exact .inr (.inl rfl) | exact .inr (.inr rfl))) (JA.cons (JE.var (i := 3) rfl (by first | exact .inl rfl | exact .inr (.inl rfl) | exact .inr (.inr rfl))) (JA.cons (JE.var (i := 4) rfl (by first | exact .inl rfl | exact .inr (.inl rfl) | exact .inr (.inr rfl))) (JA.cons JE.int JA.nil))))))))) (JSs.one (JS.ret (JE.cmp (JC.eq (JE.var (i := 3) rfl (by first | exact .inl rfl | exact .inr (.inl rfl) | exact .inr (.inr rfl))) (JE.var (i := 1) rfl (by first | exact .inl rfl | exact .inr (.inl rfl) | exact .inr (.inr rfl)))) rfl)))))))
theorem w_law {G : Gc} (c : F38 G) {cA cP : Addr} (lt : LamT G cA cP ("law" ++ ".<locals>.")) {f : Addr} {fd : FuncData} (hc : fd.code = .ref cA) (d : FunD G.K "law" "law" (defArgs (top 59)) (defBody (top 59)) (defScope (top 59)) [] [] f fd) : FnOk G.P G.w G.K G.mg G.base (L2N.CX G.P G.w) 12 f fd ["script"] (spP G 1 f_law) :=
  okStC (N := ["script", "k", "more", "tree", "j", "here", "row", "points", "ups", "downs", "name", "later", "less", "back_here"]) (ps := ["script"]) (k := 11) d rfl hc ⟨rfl, rfl, rfl, by decide +kernel, rfl, by decide +kernel, by decide +kernel⟩ (JSs.cons (JS.for [] (JI.range rfl c.b_range (JE.max2 rfl c.b_max JE.int (JE.min2 rfl c.b_min JE.int (JE.len rfl c.b_len (JE.var (i := 0) rfl (by first | exact .inl rfl | exact .inr (.inl rfl) | exact .inr (.inr rfl))))))) (JG.name rfl (by first | exact .inl rfl | exact .inr rfl) (by first | exact .inl rfl | exact .inr rfl)) (JSs.cons (JS.asg [] false ⟨rfl, (by first | exact .inl rfl | exact .inr rfl), .inl rfl⟩ (JE.call c.f__law_drawn (Nat.le_of_ble_eq_true rfl) rfl rfl (JA.cons (JE.call c.f__law_cell (Nat.le_of_ble_eq_true rfl) rfl rfl (JA.cons (JE.var (i := 0) rfl (by first | exact .inl rfl | exact .inr (.inl rfl) | exact .inr (.inr rfl))) (JA.cons (JE.var (i := 1) rfl (by first | exact .inl rfl | exact .inr (.inl rfl) | exact .inr (.inr rfl))) JA.nil))) (JA.cons (JE.var (i := 1) rfl (by first | exact .inl rfl | exact .inr (.inl rfl) | exact .inr (.inr rfl))) JA.nil)))) (JSs.cons (JS.asg [] false ⟨rfl, (by first | exact .inl rfl | exact .inr rfl), .inl rfl⟩ (JE.call c.f__law_tree (Nat.le_of_ble_eq_true rfl) rfl rfl (JA.cons (JE.div (JE.var (i := 2) rfl (by first | exact .inl rfl | exact .inr (.inl rfl) | exact .inr (.inr rfl))) JE.int) (JA.cons JE.int JA.nil)))) (JSs.one (JS.for [] (JI.range rfl c.b_range JE.int) (JG.name rfl (by first | exact .inl rfl | exact .inr rfl) (by first | exact .inl rfl | exact .inr rfl)) (JSs.cons (JS.asg [] false ⟨rfl, (by first | exact .inl rfl | exact .inr rfl), .inl rfl⟩ (JE.call c.f__law_drawn (Nat.le_of_ble_eq_true rfl) rfl rfl (JA.cons (JE.var (i := 2) rfl (by first | exact .inl rfl | exact .inr (.inl rfl) | exact .inr (.inr rfl))) (JA.cons (JE.add JE.int (JE.var (i := 4) rfl (by first | exact .inl rfl | exact .inr (.inl rfl) | exact .inr (.inr rfl)))) JA.nil)))) (JSs.cons (JS.asg [] false ⟨rfl, (by first | exact .inl rfl | exact .inr rfl), .inl rfl⟩ (JE.call c.f__law_build (Nat.le_of_ble_eq_true rfl) rfl rfl (JA.cons (JE.var (i := 3) rfl (by first | exact .inl rfl | exact .inr (.inl rfl) | exact .inr (.inr rfl))) (JA.cons (JE.var (i := 5) rfl (by first | exact .inl rfl | exact .inr (.inl rfl) | exact .inr (.inr rfl))) JA.nil)))) (JSs.cons (JS.asg [] false ⟨rfl, (by first | exact .inl rfl | exact .inr rfl), .inl rfl⟩ (JE.min2 rfl c.b_min JE.int (JE.add (JE.call c.f_cost (Nat.le_of_ble_eq_true rfl) rfl rfl (JA.cons (JE.var (i := 3) rfl (by first | exact .inl rfl | exact .inr (.inl rfl) | exact .inr (.inr rfl))) (JA.cons (JE.var (i := 6) rfl (by first | exact .inl rfl | exact .inr (.inl rfl) | exact .inr (.inr rfl))) JA.nil))) (JE.mod (JE.div (JE.var (i := 5) rfl (by first | exact .inl rfl | exact .inr (.inl rfl) | exact .inr (.inr rfl))) JE.int) JE.int)))) (JSs.cons (JS.par [] false ⟨rfl, rfl, by decide, rfl, rfl⟩ (JE.call c.f_may_learn (Nat.le_of_ble_eq_true rfl) rfl rfl (JA.cons (JE.var (i := 3) rfl (by first | exact .inl rfl | exact .inr (.inl rfl) | exact .inr (.inr rfl))) (JA.cons (JE.var (i := 6) rfl (by first | exact .inl rfl | exact .inr (.inl rfl) | exact .inr (.inr rfl))) (JA.cons (JE.var (i := 7) rfl (by first | exact .inl rfl | exact .inr (.inl rfl) | exact .inr (.inr rfl))) JA.nil)))) (JE.call c.f_may_give (Nat.le_of_ble_eq_true rfl) rfl rfl (JA.cons (JE.var (i := 3) rfl (by first | exact .inl rfl | exact .inr (.inl rfl) | exact .inr (.inr rfl))) (JA.cons (JE.var (i := 6) rfl (by first | exact .inl rfl | exact .inr (.inl rfl) | exact .inr (.inr rfl))) JA.nil))) (by intro env h; cases env; cases h; rfl)) (JSs.cons (JS.for [] (JI.seq (JE.call c.f__law_names (Nat.le_of_ble_eq_true rfl) rfl rfl (JA.cons (JE.var (i := 3) rfl (by first | exact .inl rfl | exact .inr (.inl rfl) | exact .inr (.inr rfl))) JA.nil))) (JG.name rfl (by first | exact .inl rfl | exact .inr rfl) (by first | exact .inl rfl | exact .inr rfl)) (JSs.cons (JS.asg [] false ⟨rfl, (by first | exact .inl rfl | exact .inr rfl), .inl rfl⟩ (JE.told (k := 7) c.t__law_told cs_ok (Nat.le_of_ble_eq_true rfl) rfl rfl lt (Nat.le_of_ble_eq_true rfl) (by first | decide +kernel | kernel_rfl) (fun _ => rfl) (fun _ _ _ _ _ => rfl) (JE.call c.f_learned (Nat.le_of_ble_eq_true rfl) rfl rfl (JA.cons (JE.var (i := 3) rfl (by first | exact .inl rfl | exact .inr (.inl rfl) | exact .inr (.inr rfl))) (JA.cons (JE.var (i := 6) rfl (by first | exact .inl rfl | exact .inr (.inl rfl) | exact .inr (.inr rfl))) (JA.cons (JE.var (i := 10) rfl (by first | exact .inl rfl | exact .inr (.inl rfl) | exact .inr (.inr rfl))) (JA.cons (JE.var (i := 7) rfl (by first | exact .inl rfl | exact .inr (.inl rfl) | exact .inr (.inr rfl))) JA.nil))))))) (JSs.cons (JS.asg [] false ⟨rfl, (by first | exact .inl rfl | exact .inr rfl), .inl rfl⟩ (JE.told (k := 7) c.t__law_told cs_ok (Nat.le_of_ble_eq_true rfl) rfl rfl lt (Nat.le_of_ble_eq_true rfl) (by first | decide +kernel | kernel_rfl) (fun _ => rfl) (fun _ _ _ _ _ => rfl) (JE.call c.f_lessened (Nat.le_of_ble_eq_true rfl) rfl rfl (JA.cons (JE.var (i := 3) rfl (by first | exact .inl rfl | exact .inr (.inl rfl) | exact .inr (.inr rfl))) (JA.cons (JE.var (i := 6) rfl (by first | exact .inl rfl | exact .inr (.inl rfl) | exact .inr (.inr rfl))) (JA.cons (JE.var (i := 10) rfl (by first | exact .inl rfl | exact .inr (.inl rfl) | exact .inr (.inr rfl))) JA.nil)))))) (JSs.cons (JS.if (JW.jt (JW.or (JT.cmp (JC.ne (JE.cmp (JC.in (JE.var (i := 10) rfl (by first | exact .inl rfl | exact .inr (.inl rfl) | exact .inr (.inr rfl))) (JE.var (i := 8) rfl (by first | exact .inl rfl | exact .inr (.inl rfl) | exact .inr (.inr rfl)))) rfl) (JE.isi (T := "tuple") (by decide) rfl c.b_isinstance rfl c.b_tuple (by decide +kernel) (JE.var (i := 11) rfl (by first | exact .inl rfl | exact .inr (.inl rfl) | exact .inr (.inr rfl))))) rfl) (JW.or1 (JT.cmp (JC.ne (JE.cmp (JC.in (JE.var (i := 10) rfl (by first | exact .inl rfl | exact .inr (.inl rfl) | exact .inr (.inr rfl))) (JE.var (i := 9) rfl (by first | exact .inl rfl | exact .inr (.inl rfl) | exact .inr (.inr rfl)))) rfl) (JE.isi (T := "tuple") (by decide) rfl c.b_isinstance rfl c.b_tuple (by decide +kernel) (JE.var (i := 12) rfl (by first | exact .inl rfl | exact .inr (.inl rfl) | exact .inr (.inr rfl))))) rfl)))) (JSs.one (JS.ret JE.bl)) JSs.nil) (JSs.cons (JS.if (JT.val (JE.isi (T := "tuple") (by decide) rfl c.b_isinstance rfl c.b_tuple (by decide +kernel) (JE.var (i := 11) rfl (by first | exact .inl rfl | exact .inr (.inl rfl) | exact .inr (.inr rfl)))) (fun _ _ => rfl)) (JSs.cons (JS.if (JW.jt (JW.or (JT.not (JT.val (JE.call c.f_is_build (Nat.le_of_ble_eq_true rfl) rfl rfl (JA.cons (JE.var (i := 3) rfl (by first | exact .inl rfl | exact .inr (.inl rfl) | exact .inr (.inr rfl))) (JA.cons (JE.var (i := 11) rfl (by first | exact .inl rfl | exact .inr (.inl rfl) | exact .inr (.inr rfl))) JA.nil))) (fun _ _ => rfl))) (JW.or (JT.cmp (JC.ne (JE.call c.f_lessened (Nat.le_of_ble_eq_true rfl) rfl rfl (JA.cons (JE.var (i := 3) rfl (by first | exact .inl rfl | exact .inr (.inl rfl) | exact .inr (.inr rfl))) (JA.cons (JE.var (i := 11) rfl (by first | exact .inl rfl | exact .inr (.inl rfl) | exact .inr (.inr rfl))) (JA.cons (JE.var (i := 10) rfl (by first | exact .inl rfl | exact .inr (.inl rfl) | exact .inr (.inr rfl))) JA.nil)))) (JE.var (i := 6) rfl (by first | exact .inl rfl | exact .inr (.inl rfl) | exact .inr (.inr rfl)))) rfl) (JW.or1 (JT.cmp (JC.gt (JE.call c.f_cost (Nat.le_of_ble_eq_true rfl) rfl rfl (JA.cons (JE.var (i := 3) rfl (by first | exact .inl rfl | exact .inr (.inl rfl) | exact .inr (.inr rfl))) (JA.cons (JE.var (i := 11) rfl (by first | exact .inl rfl | exact .inr (.inl rfl) | exact .inr (.inr rfl))) JA.nil))) (JE.var (i := 7) rfl (by first | exact .inl rfl | exact .inr (.inl rfl) | exact .inr (.inr rfl)))) rfl))))) (JSs.one (JS.ret JE.bl)) JSs.nil) (JSs.one (JS.if (JT.not (JT.val (JE.call c.f_is_way (Nat.le_of_ble_eq_true rfl) rfl rfl (JA.cons (JE.var (i := 3) rfl (by first | exact .inl rfl | exact .inr (.inl rfl) | exact .inr (.inr rfl))) (JA.cons (JE.var (i := 11) rfl (by first | exact .inl rfl | exact .inr (.inl rfl) | exact .inr (.inr rfl))) (JA.cons (JE.add (JE.call c.f_way (Nat.le_of_ble_eq_true rfl) rfl rfl (JA.cons (JE.var (i := 3) rfl (by first | exact .inl rfl | exact .inr (.inl rfl) | exact .inr (.inr rfl))) (JA.cons (JE.var (i := 6) rfl (by first | exact .inl rfl | exact .inr (.inl rfl) | exact .inr (.inr rfl))) JA.nil))) (JE.lst (JA.cons (JE.var (i := 10) rfl (by first | exact .inl rfl | exact .inr (.inl rfl) | exact .inr (.inr rfl))) JA.nil))) JA.nil)))) (fun _ _ => rfl))) (JSs.one (JS.ret JE.bl)) JSs.nil))) JSs.nil) (JSs.one (JS.if (JT.val (JE.isi (T := "tuple") (by decide) rfl c.b_isinstance rfl c.b_tuple (by decide +kernel) (JE.var (i := 12) rfl (by first | exact .inl rfl | exact .inr (.inl rfl) | exact .inr (.inr rfl)))) (fun _ _ => rfl)) (JSs.cons (JS.asg [] false ⟨rfl, (by first | exact .inl rfl | exact .inr rfl), .inl rfl⟩ (JE.call c.f_learned (Nat.le_of_ble_eq_true rfl) rfl rfl (JA.cons (JE.var (i := 3) rfl (by first | exact .inl rfl | exact .inr (.inl rfl) | exact .inr (.inr rfl))) (JA.cons (JE.var (i := 12) rfl (by first | exact .inl rfl | exact .inr (.inl rfl) | exact .inr (.inr rfl))) (JA.cons (JE.var (i := 10) rfl (by first | exact .inl rfl | exact .inr (.inl rfl) | exact .inr (.inr rfl))) (JA.cons (JE.call c.f_cost (Nat.le_of_ble_eq_true rfl) rfl rfl (JA.cons (JE.var (i := 3) rfl (by first | exact .inl rfl | exact .inr (.inl rfl) | exact .inr (.inr rfl))) (JA.cons (JE.var (i := 6) rfl (by first | exact .inl rfl | exact .inr (.inl rfl) | exact .inr (.inr rfl))) JA.nil))) JA.nil)))))) (JSs.one (JS.if (JW.jt (JW.or (JT.not (JT.val (JE.call c.f_is_build (Nat.le_of_ble_eq_true rfl) rfl rfl (JA.cons (JE.var (i := 3) rfl (by first | exact .inl rfl | exact .inr (.inl rfl) | exact .inr (.inr rfl))) (JA.cons (JE.var (i := 12) rfl (by first | exact .inl rfl | exact .inr (.inl rfl) | exact .inr (.inr rfl))) JA.nil))) (fun _ _ => rfl))) (JW.or1 (JT.cmp (JC.ne (JE.var (i := 13) rfl (by first | exact .inl rfl | exact .inr (.inl rfl) | exact .inr (.inr rfl))) (JE.var (i := 6) rfl (by first | exact .inl rfl | exact .inr (.inl rfl) | exact .inr (.inr rfl)))) rfl)))) (JSs.one (JS.ret JE.bl)) JSs.nil))) JSs.nil))))))) (JSs.one (JS.if (JW.jt (JW.or (JT.cmp (JC.ne (JE.cmp (JC.eq (JE.var (i := 9) rfl (by first | exact .inl rfl | exact .inr (.inl rfl) | exact .inr (.inr rfl))) (JE.lst JA.nil)) rfl) (JE.cmp (JC.eq (JE.sum rfl c.b_sum (JE.var (i := 6) rfl (by first | exact .inl rfl | exact .inr (.inl rfl) | exact .inr (.inr rfl)))) JE.int) rfl)) rfl) (JW.or1 (JT.cmp (JC.ne (JE.call c.f_may_learn (Nat.le_of_ble_eq_true rfl) rfl rfl (JA.cons (JE.var (i := 3) rfl (by first | exact .inl rfl | exact .inr (.inl rfl) | exact .inr (.inr rfl))) (JA.cons (JE.var (i := 6) rfl (by first | exact .inl rfl | exact .inr (.inl rfl) | exact .inr (.inr rfl))) (JA.cons JE.int JA.nil)))) (JE.lst JA.nil)) rfl)))) (JSs.one (JS.ret JE.bl)) JSs.nil)))))))))))) (JSs.one (JS.ret JE.bl)))
end Pv.LW
end
section
set_option Elab.async false
set_option linter.all false
set_option maxRecDepth 100000
set_option maxHeartbeats 0
namespace Pv.LW
open PySem PySem.Spec PyProof.Rows L2 Pv

def d_is_count : He.DefD := ⟨("is_count", none), "is_count", "is_count", defArgs (top 17), defBody (top 17), defScope (top 17), [], []⟩
def d_is_name : He.DefD := ⟨("is_name", none), "is_name", "is_name", defArgs (top 18), defBody (top 18), defScope (top 18), [], []⟩
def d_has_no_ring : He.DefD := ⟨("has_no_ring", none), "has_no_ring", "has_no_ring", defArgs (top 20), defBody (top 20), defScope (top 20), [], []⟩
def d_are_locks : He.DefD := ⟨("are_locks", none), "are_locks", "are_locks", defArgs (top 22), defBody (top 22), defScope (top 22), [], []⟩
def d_names_of : He.DefD := ⟨("names_of", none), "names_of", "names_of", defArgs (top 24), defBody (top 24), defScope (top 24), [], []⟩
def d_lacking : He.DefD := ⟨("lacking", none), "lacking", "lacking", defArgs (top 26), defBody (top 26), defScope (top 26), [], []⟩
def d_clashes : He.DefD := ⟨("clashes", none), "clashes", "clashes", defArgs (top 27), defBody (top 27), defScope (top 27), [], []⟩
def d_cost_of : He.DefD := ⟨("cost_of", none), "cost_of", "cost_of", defArgs (top 33), defBody (top 33), defScope (top 33), [], []⟩
def d_skill_of : He.DefD := ⟨("skill_of", none), "skill_of", "skill_of", defArgs (top 38), defBody (top 38), defScope (top 38), [], []⟩
def d_is_let : He.DefD := ⟨("is_let", none), "is_let", "is_let", defArgs (top 44), defBody (top 44), defScope (top 44), [], []⟩
def d__law_cell : He.DefD := ⟨("_law_cell", none), "_law_cell", "_law_cell", defArgs (top 50), defBody (top 50), defScope (top 50), [], []⟩
def d__law_drawn : He.DefD := ⟨("_law_drawn", none), "_law_drawn", "_law_drawn", defArgs (top 51), defBody (top 51), defScope (top 51), [], []⟩
def d__law_word : He.DefD := ⟨("_law_word", none), "_law_word", "_law_word", defArgs (top 52), defBody (top 52), defScope (top 52), [], []⟩
def d__law_names : He.DefD := ⟨("_law_names", none), "_law_names", "_law_names", defArgs (top 55), defBody (top 55), defScope (top 55), [], []⟩
def d__law_ups : He.DefD := ⟨("_law_ups", none), "_law_ups", "_law_ups", defArgs (top 58), defBody (top 58), defScope (top 58), [], []⟩
def d_is_skill : He.DefD := ⟨("is_skill", none), "is_skill", "is_skill", defArgs (top 19), defBody (top 19), defScope (top 19), [], []⟩
def d_levels_of : He.DefD := ⟨("levels_of", none), "levels_of", "levels_of", defArgs (top 25), defBody (top 25), defScope (top 25), [], []⟩
def d_are_levels : He.DefD := ⟨("are_levels", none), "are_levels", "are_levels", defArgs (top 28), defBody (top 28), defScope (top 28), [], []⟩
def d_need_name : He.DefD := ⟨("need_name", none), "need_name", "need_name", defArgs (top 32), defBody (top 32), defScope (top 32), [], []⟩
def d_need_points : He.DefD := ⟨("need_points", none), "need_points", "need_points", defArgs (top 37), defBody (top 37), defScope (top 37), [], []⟩
def d_with_level : He.DefD := ⟨("with_level", none), "with_level", "with_level", defArgs (top 39), defBody (top 39), defScope (top 39), [], []⟩
def d__law_told : He.DefD := ⟨("_law_told", none), "_law_told", "_law_told", defArgs (top 53), defBody (top 53), defScope (top 53), [], []⟩
def d__law_tree : He.DefD := ⟨("_law_tree", none), "_law_tree", "_law_tree", defArgs (top 54), defBody (top 54), defScope (top 54), [], []⟩
def d__law_wrongs : He.DefD := ⟨("_law_wrongs", none), "_law_wrongs", "_law_wrongs", defArgs (top 56), defBody (top 56), defScope (top 56), [], []⟩
def d_is_tree : He.DefD := ⟨("is_tree", none), "is_tree", "is_tree", defArgs (top 21), defBody (top 21), defScope (top 21), [], []⟩
def d_holds : He.DefD := ⟨("holds", none), "holds", "holds", defArgs (top 29), defBody (top 29), defScope (top 29), [], []⟩
def d__law_build : He.DefD := ⟨("_law_build", none), "_law_build", "_law_build", defArgs (top 57), defBody (top 57), defScope (top 57), [], []⟩
def d_need_tree : He.DefD := ⟨("need_tree", none), "need_tree", "need_tree", defArgs (top 23), defBody (top 23), defScope (top 23), [], []⟩
def d_check_up : He.DefD := ⟨("check_up", none), "check_up", "check_up", defArgs (top 40), defBody (top 40), defScope (top 40), [], []⟩
def d_check_down : He.DefD := ⟨("check_down", none), "check_down", "check_down", defArgs (top 41), defBody (top 41), defScope (top 41), [], []⟩
def d_is_build : He.DefD := ⟨("is_build", none), "is_build", "is_build", defArgs (top 30), defBody (top 30), defScope (top 30), [], []⟩
def d_need_build : He.DefD := ⟨("need_build", none), "need_build", "need_build", defArgs (top 31), defBody (top 31), defScope (top 31), [], []⟩
def d_cost : He.DefD := ⟨("cost", none), "cost", "cost", defArgs (top 34), defBody (top 34), defScope (top 34), [], []⟩
def d_learned : He.DefD := ⟨("learned", none), "learned", "learned", defArgs (top 42), defBody (top 42), defScope (top 42), [], []⟩
def d_lessened : He.DefD := ⟨("lessened", none), "lessened", "lessened", defArgs (top 43), defBody (top 43), defScope (top 43), [], []⟩
def d_way : He.DefD := ⟨("way", none), "way", "way", defArgs (top 47), defBody (top 47), defScope (top 47), [], []⟩
def d_may_learn : He.DefD := ⟨("may_learn", none), "may_learn", "may_learn", defArgs (top 45), defBody (top 45), defScope (top 45), [], []⟩
def d_may_give : He.DefD := ⟨("may_give", none), "may_give", "may_give", defArgs (top 46), defBody (top 46), defScope (top 46), [], []⟩
def d_is_way : He.DefD := ⟨("is_way", none), "is_way", "is_way", defArgs (top 48), defBody (top 48), defScope (top 48), [], []⟩
def d_law : He.DefD := ⟨("law", none), "law", "law", defArgs (top 59), defBody (top 59), defScope (top 59), [], []⟩
def fn : List He.DefD := [d_is_count, d_is_name, d_has_no_ring, d_are_locks, d_names_of, d_lacking, d_clashes, d_cost_of, d_skill_of, d_is_let, d__law_cell, d__law_drawn, d__law_word, d__law_names, d__law_ups, d_is_skill, d_levels_of, d_are_levels, d_need_name, d_need_points, d_with_level, d__law_told, d__law_tree, d__law_wrongs, d_is_tree, d_holds, d__law_build, d_need_tree, d_check_up, d_check_down, d_is_build, d_need_build, d_cost, d_learned, d_lessened, d_way, d_may_learn, d_may_give, d_is_way, d_law]
def fa : List He.Fa := [.glo "is_count", .glo "is_name", .glo "has_no_ring", .glo "are_locks", .glo "names_of", .glo "lacking", .glo "clashes", .glo "cost_of", .glo "skill_of", .glo "is_let", .glo "_law_cell", .glo "_law_drawn", .glo "_law_word", .glo "_law_names", .glo "_law_ups", .glo "is_skill", .glo "levels_of", .glo "are_levels", .glo "need_name", .glo "need_points", .glo "with_level", .glo "_law_told", .glo "_law_tree", .glo "_law_wrongs", .glo "is_tree", .glo "holds", .glo "_law_build", .glo "need_tree", .glo "check_up", .glo "check_down", .glo "is_build", .glo "need_build", .glo "cost", .glo "learned", .glo "lessened", .glo "way", .glo "may_learn", .glo "may_give", .glo "is_way", .glo "law", .free "ValueError", .free "all", .free "bool", .free "dict", .free "enumerate", .free "int", .free "isinstance", .free "len", .free "list", .free "max", .free "min", .free "range", .free "set", .free "sorted", .free "str", .free "sum", .free "tuple", .free "zip", .int "MOST_COST" 9, .int "MOST_LEVEL" 3, .int "MOST_NAME" 6, .int "MOST_POINTS" 999, .int "MOST_SKILLS" 6, .str "SMALL" "abcdefghijklmnopqrstuvwxyz", .glo "BadBuild", .glo "BadName", .glo "BadNumber", .glo "BadTree", .glo "Locked", .glo "Most", .glo "Points", .glo "Wants", .exc "BadBuild", .exc "BadName", .exc "BadNumber", .exc "BadTree", .exc "Locked", .exc "Most", .exc "Points", .exc "Wants", .glo "BadText", .glo "SkillError"] ++ exms cs_is_let
def tf : List He.Defn := [("may_learn", none), ("may_give", none), ("is_way", none), ("law", none)]
def names0 : List PySem.Str := ["is_count", "is_name", "is_skill", "has_no_ring", "is_tree", "are_locks", "need_tree", "names_of", "levels_of", "lacking", "clashes", "are_levels", "holds", "is_build", "need_build", "need_name", "cost_of", "cost", "need_points", "skill_of", "with_level", "check_up", "check_down", "learned", "lessened", "is_let", "may_learn", "may_give", "way", "is_way"]
def names1 : List PySem.Str := ["_law_cell", "_law_drawn", "_law_word", "_law_told", "_law_tree", "_law_names", "_law_wrongs", "_law_build", "_law_ups", "SMALL", "MOST_SKILLS", "MOST_LEVEL", "MOST_COST", "MOST_NAME", "MOST_POINTS", "SkillError", "BadTree", "BadBuild", "BadName", "BadNumber", "Most", "Wants", "Locked", "Points", "BadText"]
def names : List PySem.Str := names0 ++ names1
abbrev R : PySem.W.OpenRow := PySem.W.OpenLaw.row PySem.Challenge.rw_skillwants_k22_whole_there_and_back
def xb : PySem.W.Frag → Bool := xcB "SkillError" cs_word
abbrev hk : PySem.W.Hook := hookX xb 5 fa fn tf
def ob (s : PySem.W.SharedT) : (He.AlD × Bool) × Bool := obsX xb 5 fa fn tf (HandSHeadRun.getT s)
theorem ob_eq (s : PySem.W.SharedT) : ob s = hk.obs s.abs := obsX_eq (HandSHeadRun.getT_eq s)
theorem run (w : World) : HandSHeadRun.RunEq R (PySem.W.view R.prog [59]) hk ob 6000 names w := by
  intro os
  kernel_rfl
theorem facts {P : Program} {w : World} {K : PySem.W.Frag} {h : Heap} {mg : Str → Option Value} {base : Heap} (X : K.In h) (N : h.Ns mainGlobals mg) (c : SaysP fa fn tf h K) (cx : xb K = true) (tb : ∀ p ∈ tf.map (He.cT K), LamX.TabB base mg p.1 p.2) : F38 (gcT P w K mg base tf) := by
  have b : Fb (gcT P w K mg base tf) := {
    b_ValueError := He.free_ok X N (c.d.fact 40 rfl)
    b_all := He.free_ok X N (c.d.fact 41 rfl)
    b_bool := He.free_ok X N (c.d.fact 42 rfl)
    b_dict := He.free_ok X N (c.d.fact 43 rfl)
    b_enumerate := He.free_ok X N (c.d.fact 44 rfl)
    b_int := He.free_ok X N (c.d.fact 45 rfl)
    b_isinstance := He.free_ok X N (c.d.fact 46 rfl)
    b_len := He.free_ok X N (c.d.fact 47 rfl)
    b_list := He.free_ok X N (c.d.fact 48 rfl)
    b_max := He.free_ok X N (c.d.fact 49 rfl)
    b_min := He.free_ok X N (c.d.fact 50 rfl)
    b_range := He.free_ok X N (c.d.fact 51 rfl)
    b_set := He.free_ok X N (c.d.fact 52 rfl)
    b_sorted := He.free_ok X N (c.d.fact 53 rfl)
    b_str := He.free_ok X N (c.d.fact 54 rfl)
    b_sum := He.free_ok X N (c.d.fact 55 rfl)
    b_tuple := He.free_ok X N (c.d.fact 56 rfl)
    b_zip := He.free_ok X N (c.d.fact 57 rfl)
    c_MOST_COST := cstIT_of X N (c.d.fact 58 rfl)
    c_MOST_LEVEL := cstIT_of X N (c.d.fact 59 rfl)
    c_MOST_NAME := cstIT_of X N (c.d.fact 60 rfl)
    c_MOST_POINTS := cstIT_of X N (c.d.fact 61 rfl)
    c_MOST_SKILLS := cstIT_of X N (c.d.fact 62 rfl)
    c_SMALL := cstST_of X N (c.d.fact 63 rfl) (by decide +kernel)
    x_BadBuild := exOkT_of X N (c.d.fact 64 rfl) (c.d.fact 72 rfl)
    x_BadName := exOkT_of X N (c.d.fact 65 rfl) (c.d.fact 73 rfl)
    x_BadNumber := exOkT_of X N (c.d.fact 66 rfl) (c.d.fact 74 rfl)
    x_BadTree := exOkT_of X N (c.d.fact 67 rfl) (c.d.fact 75 rfl)
    x_Locked := exOkT_of X N (c.d.fact 68 rfl) (c.d.fact 76 rfl)
    x_Most := exOkT_of X N (c.d.fact 69 rfl) (c.d.fact 77 rfl)
    x_Points := exOkT_of X N (c.d.fact 70 rfl) (c.d.fact 78 rfl)
    x_Wants := exOkT_of X N (c.d.fact 71 rfl) (c.d.fact 79 rfl)
    let4 := let4_of X N (c.d.fact 69 rfl) (c.d.fact 71 rfl) (c.d.fact 68 rfl) (c.d.fact 70 rfl) (fun f hf => c.d.facts (List.mem_append_right _ hf))
    xc := xcOk_of X N (fun c hc => (by simp only [cs_word, List.mem_cons, List.not_mem_nil, or_false] at hc; rcases hc with rfl | rfl | rfl | rfl | rfl | rfl | rfl | rfl | rfl | rfl <;> first | exact c.d.fact 81 rfl | exact c.d.fact 64 rfl | exact c.d.fact 65 rfl | exact c.d.fact 66 rfl | exact c.d.fact 80 rfl | exact c.d.fact 67 rfl | exact c.d.fact 68 rfl | exact c.d.fact 69 rfl | exact c.d.fact 70 rfl | exact c.d.fact 71 rfl)) cx
  }
  have d0 : FunT (gcT P w K mg base tf) "is_count" (top 17) := let ⟨fd, F⟩ := c.d.def_ 0 (d := d_is_count) rfl; ⟨_, fd, F, He.glo_ok X N (c.d.fact 0 rfl)⟩
  have c0 := w_is_count b d0
  have d1 : FunT (gcT P w K mg base tf) "is_name" (top 18) := let ⟨fd, F⟩ := c.d.def_ 1 (d := d_is_name) rfl; ⟨_, fd, F, He.glo_ok X N (c.d.fact 1 rfl)⟩
  have c1 := w_is_name c0 d1
  have d2 : FunT (gcT P w K mg base tf) "has_no_ring" (top 20) := let ⟨fd, F⟩ := c.d.def_ 2 (d := d_has_no_ring) rfl; ⟨_, fd, F, He.glo_ok X N (c.d.fact 2 rfl)⟩
  have c2 := w_has_no_ring c1 d2
  have d3 : FunT (gcT P w K mg base tf) "are_locks" (top 22) := let ⟨fd, F⟩ := c.d.def_ 3 (d := d_are_locks) rfl; ⟨_, fd, F, He.glo_ok X N (c.d.fact 3 rfl)⟩
  have c3 := w_are_locks c2 d3
  have d4 : FunT (gcT P w K mg base tf) "names_of" (top 24) := let ⟨fd, F⟩ := c.d.def_ 4 (d := d_names_of) rfl; ⟨_, fd, F, He.glo_ok X N (c.d.fact 4 rfl)⟩
  have c4 := w_names_of c3 d4
  have d5 : FunT (gcT P w K mg base tf) "lacking" (top 26) := let ⟨fd, F⟩ := c.d.def_ 5 (d := d_lacking) rfl; ⟨_, fd, F, He.glo_ok X N (c.d.fact 5 rfl)⟩
  have c5 := w_lacking c4 d5
  have d6 : FunT (gcT P w K mg base tf) "clashes" (top 27) := let ⟨fd, F⟩ := c.d.def_ 6 (d := d_clashes) rfl; ⟨_, fd, F, He.glo_ok X N (c.d.fact 6 rfl)⟩
  have c6 := w_clashes c5 d6
  have d7 : FunT (gcT P w K mg base tf) "cost_of" (top 33) := let ⟨fd, F⟩ := c.d.def_ 7 (d := d_cost_of) rfl; ⟨_, fd, F, He.glo_ok X N (c.d.fact 7 rfl)⟩
  have c7 := w_cost_of c6 d7
  have d8 : FunT (gcT P w K mg base tf) "skill_of" (top 38) := let ⟨fd, F⟩ := c.d.def_ 8 (d := d_skill_of) rfl; ⟨_, fd, F, He.glo_ok X N (c.d.fact 8 rfl)⟩
  have c8 := w_skill_of c7 d8
  have d9 : FunT (gcT P w K mg base tf) "is_let" (top 44) := let ⟨fd, F⟩ := c.d.def_ 9 (d := d_is_let) rfl; ⟨_, fd, F, He.glo_ok X N (c.d.fact 9 rfl)⟩
  have c9 := w_is_let c8 d9
  have d10 : FunT (gcT P w K mg base tf) "_law_cell" (top 50) := let ⟨fd, F⟩ := c.d.def_ 10 (d := d__law_cell) rfl; ⟨_, fd, F, He.glo_ok X N (c.d.fact 10 rfl)⟩
  have c10 := w__law_cell c9 d10
  have d11 : FunT (gcT P w K mg base tf) "_law_drawn" (top 51) := let ⟨fd, F⟩ := c.d.def_ 11 (d := d__law_drawn) rfl; ⟨_, fd, F, He.glo_ok X N (c.d.fact 11 rfl)⟩
  have c11 := w__law_drawn c10 d11
  have d12 : FunT (gcT P w K mg base tf) "_law_word" (top 52) := let ⟨fd, F⟩ := c.d.def_ 12 (d := d__law_word) rfl; ⟨_, fd, F, He.glo_ok X N (c.d.fact 12 rfl)⟩
  have c12 := w__law_word c11 d12
  have d13 : FunT (gcT P w K mg base tf) "_law_names" (top 55) := let ⟨fd, F⟩ := c.d.def_ 13 (d := d__law_names) rfl; ⟨_, fd, F, He.glo_ok X N (c.d.fact 13 rfl)⟩
  have c13 := w__law_names c12 d13
  have d14 : FunT (gcT P w K mg base tf) "_law_ups" (top 58) := let ⟨fd, F⟩ := c.d.def_ 14 (d := d__law_ups) rfl; ⟨_, fd, F, He.glo_ok X N (c.d.fact 14 rfl)⟩
  have c14 := w__law_ups c13 d14
  have d15 : FunT (gcT P w K mg base tf) "is_skill" (top 19) := let ⟨fd, F⟩ := c.d.def_ 15 (d := d_is_skill) rfl; ⟨_, fd, F, He.glo_ok X N (c.d.fact 15 rfl)⟩
  have c15 := w_is_skill c14 d15
  have d16 : FunT (gcT P w K mg base tf) "levels_of" (top 25) := let ⟨fd, F⟩ := c.d.def_ 16 (d := d_levels_of) rfl; ⟨_, fd, F, He.glo_ok X N (c.d.fact 16 rfl)⟩
  have c16 := w_levels_of c15 d16
  have d17 : FunT (gcT P w K mg base tf) "are_levels" (top 28) := let ⟨fd, F⟩ := c.d.def_ 17 (d := d_are_levels) rfl; ⟨_, fd, F, He.glo_ok X N (c.d.fact 17 rfl)⟩
  have c17 := w_are_levels c16 d17
  have d18 : FunT (gcT P w K mg base tf) "need_name" (top 32) := let ⟨fd, F⟩ := c.d.def_ 18 (d := d_need_name) rfl; ⟨_, fd, F, He.glo_ok X N (c.d.fact 18 rfl)⟩
  have c18 := w_need_name c17 d18
  have d19 : FunT (gcT P w K mg base tf) "need_points" (top 37) := let ⟨fd, F⟩ := c.d.def_ 19 (d := d_need_points) rfl; ⟨_, fd, F, He.glo_ok X N (c.d.fact 19 rfl)⟩
  have c19 := w_need_points c18 d19
  have d20 : FunT (gcT P w K mg base tf) "with_level" (top 39) := let ⟨fd, F⟩ := c.d.def_ 20 (d := d_with_level) rfl; ⟨_, fd, F, He.glo_ok X N (c.d.fact 20 rfl)⟩
  have c20 := w_with_level c19 d20
  have d21 : FunT (gcT P w K mg base tf) "_law_told" (top 53) := let ⟨fd, F⟩ := c.d.def_ 21 (d := d__law_told) rfl; ⟨_, fd, F, He.glo_ok X N (c.d.fact 21 rfl)⟩
  have c21 := w__law_told c20 d21
  have d22 : FunT (gcT P w K mg base tf) "_law_tree" (top 54) := let ⟨fd, F⟩ := c.d.def_ 22 (d := d__law_tree) rfl; ⟨_, fd, F, He.glo_ok X N (c.d.fact 22 rfl)⟩
  have c22 := w__law_tree c21 d22
  have d23 : FunT (gcT P w K mg base tf) "_law_wrongs" (top 56) := let ⟨fd, F⟩ := c.d.def_ 23 (d := d__law_wrongs) rfl; ⟨_, fd, F, He.glo_ok X N (c.d.fact 23 rfl)⟩
  have c23 := w__law_wrongs c22 d23
  have d24 : FunT (gcT P w K mg base tf) "is_tree" (top 21) := let ⟨fd, F⟩ := c.d.def_ 24 (d := d_is_tree) rfl; ⟨_, fd, F, He.glo_ok X N (c.d.fact 24 rfl)⟩
  have c24 := w_is_tree c23 d24
  have d25 : FunT (gcT P w K mg base tf) "holds" (top 29) := let ⟨fd, F⟩ := c.d.def_ 25 (d := d_holds) rfl; ⟨_, fd, F, He.glo_ok X N (c.d.fact 25 rfl)⟩
  have c25 := w_holds c24 d25
  have d26 : FunT (gcT P w K mg base tf) "_law_build" (top 57) := let ⟨fd, F⟩ := c.d.def_ 26 (d := d__law_build) rfl; ⟨_, fd, F, He.glo_ok X N (c.d.fact 26 rfl)⟩
  have c26 := w__law_build c25 d26
  have d27 : FunT (gcT P w K mg base tf) "need_tree" (top 23) := let ⟨fd, F⟩ := c.d.def_ 27 (d := d_need_tree) rfl; ⟨_, fd, F, He.glo_ok X N (c.d.fact 27 rfl)⟩
  have c27 := w_need_tree c26 d27
  have d28 : FunT (gcT P w K mg base tf) "check_up" (top 40) := let ⟨fd, F⟩ := c.d.def_ 28 (d := d_check_up) rfl; ⟨_, fd, F, He.glo_ok X N (c.d.fact 28 rfl)⟩
  have c28 := w_check_up c27 d28
  have d29 : FunT (gcT P w K mg base tf) "check_down" (top 41) := let ⟨fd, F⟩ := c.d.def_ 29 (d := d_check_down) rfl; ⟨_, fd, F, He.glo_ok X N (c.d.fact 29 rfl)⟩
  have c29 := w_check_down c28 d29
  have d30 : FunT (gcT P w K mg base tf) "is_build" (top 30) := let ⟨fd, F⟩ := c.d.def_ 30 (d := d_is_build) rfl; ⟨_, fd, F, He.glo_ok X N (c.d.fact 30 rfl)⟩
  have c30 := w_is_build c29 d30
  have d31 : FunT (gcT P w K mg base tf) "need_build" (top 31) := let ⟨fd, F⟩ := c.d.def_ 31 (d := d_need_build) rfl; ⟨_, fd, F, He.glo_ok X N (c.d.fact 31 rfl)⟩
  have c31 := w_need_build c30 d31
  have d32 : FunT (gcT P w K mg base tf) "cost" (top 34) := let ⟨fd, F⟩ := c.d.def_ 32 (d := d_cost) rfl; ⟨_, fd, F, He.glo_ok X N (c.d.fact 32 rfl)⟩
  have c32 := w_cost c31 d32
  have d33 : FunT (gcT P w K mg base tf) "learned" (top 42) := let ⟨fd, F⟩ := c.d.def_ 33 (d := d_learned) rfl; ⟨_, fd, F, He.glo_ok X N (c.d.fact 33 rfl)⟩
  have c33 := w_learned c32 d33
  have d34 : FunT (gcT P w K mg base tf) "lessened" (top 43) := let ⟨fd, F⟩ := c.d.def_ 34 (d := d_lessened) rfl; ⟨_, fd, F, He.glo_ok X N (c.d.fact 34 rfl)⟩
  have c34 := w_lessened c33 d34
  have d35 : FunT (gcT P w K mg base tf) "way" (top 47) := let ⟨fd, F⟩ := c.d.def_ 35 (d := d_way) rfl; ⟨_, fd, F, He.glo_ok X N (c.d.fact 35 rfl)⟩
  have c35 := w_way c34 d35
  have d36 : FunC (gcT P w K mg base tf) "may_learn" (top 45) (He.cT K ("may_learn", none)).1 := let ⟨fd, F⟩ := c.d.def_ 36 (d := d_may_learn) rfl; ⟨_, fd, F, He.glo_ok X N (c.d.fact 36 rfl), code_of F⟩
  have c36 := w_may_learn c35 (lamT_of (p := ("may_learn", none)) c.nd tb (by decide)) d36
  have d37 : FunC (gcT P w K mg base tf) "may_give" (top 46) (He.cT K ("may_give", none)).1 := let ⟨fd, F⟩ := c.d.def_ 37 (d := d_may_give) rfl; ⟨_, fd, F, He.glo_ok X N (c.d.fact 37 rfl), code_of F⟩
  have c37 := w_may_give c36 (lamT_of (p := ("may_give", none)) c.nd tb (by decide)) d37
  have d38 : FunC (gcT P w K mg base tf) "is_way" (top 48) (He.cT K ("is_way", none)).1 := let ⟨fd, F⟩ := c.d.def_ 38 (d := d_is_way) rfl; ⟨_, fd, F, He.glo_ok X N (c.d.fact 38 rfl), code_of F⟩
  have c38 := w_is_way c37 (lamT_of (p := ("is_way", none)) c.nd tb (by decide)) d38
  exact c38
theorem lawFn {P : Program} {w : World} {K : PySem.W.Frag} {h : Heap} {mg : Str → Option Value} {f : Addr} (X : K.In h) (N : h.Ns mainGlobals mg) (hfa : mg ("law" : Str) = some (.ref f)) (c : SaysP fa fn tf h K) (cx : xb K = true) :
    ∃ fd : FuncData, (∀ (s : Shared) (v : Value), BindsTo s fd ⟨[v], []⟩ [("script", v)]) ∧ ∀ base : Heap, (∀ p ∈ tf.map (He.cT K), LamX.TabB base mg p.1 p.2) → FnOk P w K mg base (L2N.CX P w) 12 f fd ["script"] (spP (gcT P w K mg base tf) 1 f_law) := by
  obtain ⟨fd, F⟩ := c.d.def_ 39 (d := d_law) rfl
  have e := hfa.symm.trans (He.glo_ok X N (c.d.fact 39 (f := .glo "law") rfl))
  cases e
  have b := FunD.bindsA (ps := ["script"]) F fun _ _ _ _ _ _ us hl => match us, hl with | [_], _ => rfl
  refine ⟨fd, fun s v => b s [v] rfl, fun base tb => ?_⟩
  exact w_law (facts (P := P) (w := w) (base := base) X N c cx tb) (lamT_of (p := ("law", none)) c.nd tb (by decide)) (code_of (p := ("law", none)) F) F
end Pv.LW
end
section
set_option Elab.async false
set_option linter.all false
set_option maxRecDepth 100000
set_option maxHeartbeats 0
open PySem PySem.W PySem.Calls PyProof.Rows

theorem Pv.LW.holds_of (law_true : ∀ ns : List Int, ns.length ≤ 63 → (∀ z ∈ ns, Builtin.Int.intBits z ≤ 1048576) → Pv.LW.f_law [.scr ns] = .ok (.bl true) ∧ Pv.LW.f_law [.lst (ns.map .int)] = .ok (.bl true)) : PySem.Challenge.rw_skillwants_k22_whole_there_and_back.Holds := by
  w_on; o_law
  refine HandSHeadRun.head_any (r := OpenLaw.row PySem.Challenge.rw_skillwants_k22_whole_there_and_back) (q := view (OpenLaw.row PySem.Challenge.rw_skillwants_k22_whole_there_and_back).prog [59]) (H := Pv.LW.hk) (ob := Pv.LW.ob) (M := 6000) (loose := Pv.LW.names) (d := HandSHeadRun.topDef (OpenLaw.row PySem.Challenge.rw_skillwants_k22_whole_there_and_back).prog 59) (kwd := []) Pv.LW.ob_eq
    (by kernel_rfl) (fun s => by kernel_rfl) Pv.LW.run (by kernel_rfl) (by kernel_rfl) (by kernel_rfl) (by rfl) (by first | assumption | decide +kernel) (by decide +kernel) ⟨rfl, rfl, rfl, rfl, rfl, by decide +kernel⟩ ?hw ?hc
  case hw => w_witness2
  case hc =>
    refine LamX.walk_ofTsE (l := PySem.Challenge.rw_skillwants_k22_whole_there_and_back) (n := 63) (k := 12) (x := "script") (CX := fun w => L2N.CX (PySem.Challenge.rw_skillwants_k22_whole_there_and_back).prog w) rfl (by decide) (by kernel_rfl) ⟨rfl, by decide, by decide⟩ ?F (fun w H s e s' hx => Pv.cx_false hx)
    intro w mg fa h Y G hmg0
    obtain ⟨K, KX, c, cx⟩ := Y
    have hmg : mg ("law" : PySem.Str) = some (.ref fa) := by
      have e : (HandSHeadRun.topDef (OpenLaw.row PySem.Challenge.rw_skillwants_k22_whole_there_and_back).prog 59).name = ("law" : PySem.Str) := by kernel_rfl
      rw [← e]
      exact hmg0
    obtain ⟨fd, hb, hF⟩ := Pv.LW.lawFn (P := (PySem.Challenge.rw_skillwants_k22_whole_there_and_back).prog) (w := w) KX G hmg c cx
    refine ⟨K, KX, fd, Pv.LW.tf.map (He.cT K), _, fun p hp => ?_, fun p hp => ?_, fun p hp => ?_, hb, fun H a ns hl hbits hT hS => Pv.sp_scriptT (base := h) (clo := fun _ => none) (P := (PySem.Challenge.rw_skillwants_k22_whole_there_and_back).prog) (w := w) (mg := mg) c.nl hl hT hS (law_true ns hl hbits).1 (law_true ns hl hbits).2, fun base _ _ tb => hF base tb⟩
    · obtain ⟨q, hq, rfl⟩ := List.mem_map.mp hp
      exact c.empty q hq
    · obtain ⟨q, hq, rfl⟩ := List.mem_map.mp hp
      exact c.out q hq
    · obtain ⟨q, hq, rfl⟩ := List.mem_map.mp hp
      exact PySem.W.codeHd_of_K KX (c.hd q hq)
end
set_option maxRecDepth 100000 in
set_option maxHeartbeats 8000000 in
theorem PySem.Challenge.cw_skillwants_k22_whole_there_and_back_holds : PySem.Challenge.rw_skillwants_k22_whole_there_and_back.Holds := by
  exact Pv.LW.holds_of fun ns h _ => Pv.LW.law_true ns h
