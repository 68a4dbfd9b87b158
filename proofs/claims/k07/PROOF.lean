import PyProof.Rows.All
import Wide.All
import OpenK.AllK
import Wide.FinOn
import HandS.ForMost
import HandS.ForExc
import HandS.Nested
import HandS.IsInst
import HandS.CallSlots
import HandS.Style
import HandS.Deep
import HandS.Conv
import HandS.TupLen
import HandS.Lambda
import HandS.Defaults
import KE.GoesEnum
import HandS.Zip
import HandS.ExcInit
import HandS.ExcSuper
import KE.KExcSuper
import HandS.ExcIs
import HandS.ExcField
import HandS.ExcValue
import KE.KExcIs
import HandS.Property
import HandS.Small
import HandS.NoneIn
import HandS.HeadWalk
import HandS.Head0
import HandS.Head1
import HandS.Head2
import HandS.HeadEnd
import HandS.HeadHook1
import HandS.HeadHook2
import HandS.HeadHook3
import HandS.HeadHook4
import HandS.EndTab
import HandS.More
import HandS.ExcOwn
import PySem.Challenge.RW_whyenough_k07_sentences_judged_and_held
set_option Elab.async false
set_option linter.all false
set_option maxRecDepth 100000
namespace WL
open PySem L2

/-! ## plain data -/
inductive D where
  | non | bl (b : Bool) | int (i : Int) | str (s : Str)
  | tup (xs : List D) | kt (xs : List D) | lst (xs : List D) | scr (ns : List Int)
  | dk (kvs : List (Key × D)) | dt (kvs : List (List Key × D))
  | obj (c : Str) (fs : List (Str × D))
  | exc (c : Str) (fs : List (Str × D))
  | reg (i : Nat) | cls (c : Str) | fn (i : Nat)
  deriving Inhabited

/-- the words of a lambda that captures nothing -/
structure LamK where
  qual : Str
  params : Arguments
  body : Expr
  scope : Scope
/-- its object -/
def LamO (f : Addr) (L : LamK) (c : Addr) : HO := .ext fun h => ∃ (od : Option Addr) (sl : Array (Option Value)) (pm ctv : Value),
  h.get? f = some (⟨.type "function", od, .func (PySem.W.kla_fn "<lambda>" L.qual L.params L.body L.scope [] pm (.ref c) ctv), sl⟩ : Obj)
structure Ctx where
  K : PySem.W.Frag
  cn : Str → Option Addr
  T : List NdefX.NTab
  on : List Str
  /-- functions of the text, as values -/
  gf : Nat → Option Addr
  /-- lambdas that capture nothing, as values -/
  lf : Nat → Option LamK
  /-- what is handed in as functions -/
  fp : List Addr
  /-- what surely stands -/
  F0 : Hp
  A0 : List Addr

/-- an exception object that is held -/
def ExH (cls : Value) (d : Option Addr) (a : Addr) : HO := .ext fun h => ∃ (oe : Obj) (vs : Array Value), h.get? a = some oe ∧ Zc cls d oe ∧ oe.data = .fields vs

mutual
def Rp (C : Ctx) (α : List Addr) (F : Hp) : D → V → Prop
  | .non, v => v = .non
  | .bl b, v => v = .bl b
  | .int i, v => v = .int i
  | .str s, v => v = .str s
  | .tup xs, v => ∃ a vs, v = .ref a ∧ F a = some (.tup vs) ∧ RpL C α F xs vs
  | .kt xs, v => ∃ a vs, v = .ref a ∧ SqT C.K F a vs ∧ RpL C α F xs vs
  | .lst xs, v => ∃ a vs, v = .ref a ∧ F a = some (.lst vs) ∧ RpL C α F xs vs
  | .scr ns, v => ∃ a, v = .ref a ∧ SqL C.K F a (ns.map V.int)
  | .dk kvs, v => ∃ a ws, v = .ref a ∧ F a = some (.dK ws) ∧ RpK C α F kvs ws
  | .dt kvs, v => ∃ a ws, v = .ref a ∧ F a = some (.dT ws) ∧ RpT C α F kvs ws
  | .obj c fs, v => ∃ a dx ws Cc, v = .ref a ∧ (c ∈ C.on ∧ C.cn c = some Cc) ∧ F a = some (.ins Cc dx ws) ∧ RpF C α F fs ws
  | .exc c fs, v => ∃ a Cc, v = .ref a ∧ C.cn c = some Cc ∧ ((fs = [] ∧ F a = some (ExH (.ref Cc) none a)) ∨ ∃ d ws, F a = some (ExH (.ref Cc) (some d) a) ∧ F d = some (.xd ws) ∧ RpF C α F fs ws)
  | .reg i, v => ∃ a, v = .ref a ∧ α[i]? = some a
  | .cls c, v => ∃ a, v = .ref a ∧ C.cn c = some a
  | .fn i, v => (∃ a, C.gf i = some a ∧ v = .ref a) ∨ ∃ f c L, C.lf i = some L ∧ v = .ref f ∧ F f = some (LamO f L c) ∧ F c = some (LamX.CodeO c L.qual)
def RpL (C : Ctx) (α : List Addr) (F : Hp) : List D → List V → Prop
  | [], vs => vs = []
  | x :: xs, vs => ∃ v r, vs = v :: r ∧ Rp C α F x v ∧ RpL C α F xs r
def RpK (C : Ctx) (α : List Addr) (F : Hp) : List (Key × D) → List (Key × V) → Prop
  | [], vs => vs = []
  | (k, x) :: xs, vs => ∃ v r, vs = (k, v) :: r ∧ Rp C α F x v ∧ RpK C α F xs r
def RpT (C : Ctx) (α : List Addr) (F : Hp) : List (List Key × D) → List (List Key × V) → Prop
  | [], vs => vs = []
  | (k, x) :: xs, vs => ∃ v r, vs = (k, v) :: r ∧ Rp C α F x v ∧ RpT C α F xs r
def RpF (C : Ctx) (α : List Addr) (F : Hp) : List (Str × D) → List (Str × V) → Prop
  | [], vs => vs = []
  | (k, x) :: xs, vs => ∃ v r, vs = (k, v) :: r ∧ Rp C α F x v ∧ RpF C α F xs r
end

/-- all of F stands in F' -/
def Sub (F F' : Hp) : Prop := ∀ a o, F a = some o → F' a = some o
theorem Sub.refl (F : Hp) : Sub F F := fun _ _ h => h
theorem Sub.trans {F G I : Hp} (h : Sub F G) (k : Sub G I) : Sub F I := fun a o e => k a o (h a o e)
theorem Sub.new {F : Hp} {p : Addr} {o : HO} (h : F p = none) : Sub F (upd F p o) := fun a u e => by
  rw [upd_ne (ne_of_none e h)]; exact e
theorem Sub.none {F G : Hp} (h : Sub F G) {a : Addr} (n : G a = none) : F a = none := by
  cases e : F a with
  | none => rfl
  | some o => rw [h a o e] at n; cases n
theorem Sub.sqT {K : PySem.W.Frag} {F G : Hp} (h : Sub F G) {a : Addr} {vs : List V} (q : SqT K F a vs) : SqT K G a vs := by
  rcases q with (q | ⟨o, q⟩) | q
  · exact .inl (.inl (h _ _ q))
  · exact .inl (.inr ⟨o, h _ _ q⟩)
  · exact .inr q
theorem Sub.sqL {K : PySem.W.Frag} {F G : Hp} (h : Sub F G) {a : Addr} {vs : List V} (q : SqL K F a vs) : SqL K G a vs := by
  rcases q with (q | ⟨o, q⟩) | q
  · exact .inl (.inl (h _ _ q))
  · exact .inl (.inr ⟨o, h _ _ q⟩)
  · exact .inr q
/-- the regions' addresses: more behind -/
def Pre (α α' : List Addr) : Prop := ∀ (i : Nat) (a : Addr), α[i]? = some a → α'[i]? = some a
theorem Pre.refl (α : List Addr) : Pre α α := fun _ _ h => h
theorem Pre.trans {α β γ : List Addr} (h : Pre α β) (k : Pre β γ) : Pre α γ := fun i a e => k i a (h i a e)
theorem Pre.app (α β : List Addr) : Pre α (α ++ β) := fun i a e => by
  rw [List.getElem?_append_left (List.getElem?_eq_some_iff.mp e).1]; exact e

mutual
theorem Rp.mono {C : Ctx} {α α' : List Addr} {F F' : Hp} (p : Pre α α') (s : Sub F F') : ∀ {d : D} {v : V}, Rp C α F d v → Rp C α' F' d v
  | .non, _, h => h
  | .bl _, _, h => h
  | .int _, _, h => h
  | .str _, _, h => h
  | .tup _, _, ⟨a, vs, e, q, r⟩ => ⟨a, vs, e, s _ _ q, RpL.mono p s r⟩
  | .kt _, _, ⟨a, vs, e, q, r⟩ => ⟨a, vs, e, s.sqT q, RpL.mono p s r⟩
  | .lst _, _, ⟨a, vs, e, q, r⟩ => ⟨a, vs, e, s _ _ q, RpL.mono p s r⟩
  | .scr _, _, ⟨a, e, q⟩ => ⟨a, e, s.sqL q⟩
  | .dk _, _, ⟨a, ws, e, q, r⟩ => ⟨a, ws, e, s _ _ q, RpK.mono p s r⟩
  | .dt _, _, ⟨a, ws, e, q, r⟩ => ⟨a, ws, e, s _ _ q, RpT.mono p s r⟩
  | .obj _ _, _, ⟨a, dx, ws, Cc, e, c, q, r⟩ => ⟨a, dx, ws, Cc, e, c, s _ _ q, RpF.mono p s r⟩
  | .exc _ _, _, ⟨a, Cc, e, c, .inl ⟨h1, h2⟩⟩ => ⟨a, Cc, e, c, .inl ⟨h1, s _ _ h2⟩⟩
  | .exc _ _, _, ⟨a, Cc, e, c, .inr ⟨d, ws, q, q2, r⟩⟩ => ⟨a, Cc, e, c, .inr ⟨d, ws, s _ _ q, s _ _ q2, RpF.mono p s r⟩⟩
  | .reg _, _, ⟨a, e, q⟩ => ⟨a, e, p _ _ q⟩
  | .cls _, _, h => h
  | .fn _, _, .inl h => .inl h
  | .fn _, _, .inr ⟨f, c, L, e, v, h1, h2⟩ => .inr ⟨f, c, L, e, v, s _ _ h1, s _ _ h2⟩
theorem RpL.mono {C : Ctx} {α α' : List Addr} {F F' : Hp} (p : Pre α α') (s : Sub F F') : ∀ {d : List D} {v : List V}, RpL C α F d v → RpL C α' F' d v
  | [], _, h => h
  | _ :: _, _, ⟨v, r, e, h, t⟩ => ⟨v, r, e, Rp.mono p s h, RpL.mono p s t⟩
theorem RpK.mono {C : Ctx} {α α' : List Addr} {F F' : Hp} (p : Pre α α') (s : Sub F F') : ∀ {d : List (Key × D)} {v : List (Key × V)}, RpK C α F d v → RpK C α' F' d v
  | [], _, h => h
  | (_, _) :: _, _, ⟨v, r, e, h, t⟩ => ⟨v, r, e, Rp.mono p s h, RpK.mono p s t⟩
theorem RpT.mono {C : Ctx} {α α' : List Addr} {F F' : Hp} (p : Pre α α') (s : Sub F F') : ∀ {d : List (List Key × D)} {v : List (List Key × V)}, RpT C α F d v → RpT C α' F' d v
  | [], _, h => h
  | (_, _) :: _, _, ⟨v, r, e, h, t⟩ => ⟨v, r, e, Rp.mono p s h, RpT.mono p s t⟩
theorem RpF.mono {C : Ctx} {α α' : List Addr} {F F' : Hp} (p : Pre α α') (s : Sub F F') : ∀ {d : List (Str × D)} {v : List (Str × V)}, RpF C α F d v → RpF C α' F' d v
  | [], _, h => h
  | (_, _) :: _, _, ⟨v, r, e, h, t⟩ => ⟨v, r, e, Rp.mono p s h, RpF.mono p s t⟩
end
theorem RpL.length {C : Ctx} {α : List Addr} {F : Hp} : ∀ {ds : List D} {vs : List V}, RpL C α F ds vs → ds.length = vs.length
  | [], _, h => by rw [show _ = [] from h]; rfl
  | _ :: _, _, ⟨_, _, e, _, t⟩ => by rw [e, List.length_cons, List.length_cons, RpL.length t]
theorem RpL.get {C : Ctx} {α : List Addr} {F : Hp} : ∀ {ds : List D} {vs : List V} {i : Nat} {d : D}, RpL C α F ds vs → ds[i]? = some d → ∃ v, vs[i]? = some v ∧ Rp C α F d v
  | [], _, _, _, _, e => by simp at e
  | _ :: _, _, 0, _, ⟨v, r, e, h, _⟩, q => by simp at q; subst q; subst e; exact ⟨v, rfl, h⟩
  | _ :: _, _, i + 1, _, ⟨v, r, e, _, t⟩, q => by
    subst e
    obtain ⟨w, h1, h2⟩ := RpL.get (i := i) t (by simpa using q)
    exact ⟨w, by simpa using h1, h2⟩
theorem RpL.getV {C : Ctx} {α : List Addr} {F : Hp} : ∀ {ds : List D} {vs : List V} {i : Nat} {v : V}, RpL C α F ds vs → vs[i]? = some v → ∃ d, ds[i]? = some d ∧ Rp C α F d v
  | [], _, _, _, h, e => by rw [show _ = [] from h] at e; simp at e
  | d :: _, _, 0, _, ⟨v, r, e, h, _⟩, q => by subst e; simp at q; subst q; exact ⟨d, rfl, h⟩
  | _ :: _, _, i + 1, _, ⟨v, r, e, _, t⟩, q => by
    subst e
    obtain ⟨w, h1, h2⟩ := RpL.getV (i := i) t (by simpa using q)
    exact ⟨w, by simpa using h1, h2⟩
theorem RpL.app {C : Ctx} {α : List Addr} {F : Hp} : ∀ {ds es : List D} {vs ws : List V}, RpL C α F ds vs → RpL C α F es ws → RpL C α F (ds ++ es) (vs ++ ws)
  | [], _, _, _, h, k => by rw [show _ = [] from h]; exact k
  | _ :: _, _, _, _, ⟨v, r, e, h, t⟩, k => ⟨v, r ++ _, by rw [e]; rfl, h, RpL.app t k⟩
theorem RpL.one {C : Ctx} {α : List Addr} {F : Hp} {d : D} {v : V} (h : Rp C α F d v) : RpL C α F [d] [v] := ⟨v, [], rfl, h, rfl⟩
theorem RpL.take {C : Ctx} {α : List Addr} {F : Hp} : ∀ {ds : List D} {vs : List V} (n : Nat), RpL C α F ds vs → RpL C α F (ds.take n) (vs.take n)
  | [], _, _, h => by rw [show _ = [] from h]; simp [RpL]
  | _ :: _, _, 0, _ => by simp [RpL]
  | _ :: _, _, n + 1, ⟨v, r, e, h, t⟩ => by subst e; exact ⟨v, _, rfl, h, RpL.take n t⟩
theorem RpL.drop {C : Ctx} {α : List Addr} {F : Hp} : ∀ {ds : List D} {vs : List V} (n : Nat), RpL C α F ds vs → RpL C α F (ds.drop n) (vs.drop n)
  | [], _, _, h => by rw [show _ = [] from h]; simp [RpL]
  | _ :: _, _, 0, h => h
  | _ :: _, _, n + 1, ⟨v, r, e, h, t⟩ => by subst e; exact RpL.drop n t
theorem RpL.set {C : Ctx} {α : List Addr} {F : Hp} {d : D} {v : V} (q : Rp C α F d v) : ∀ {ds : List D} {vs : List V} (i : Nat), RpL C α F ds vs → RpL C α F (ds.set i d) (vs.set i v)
  | [], _, _, h => by rw [show _ = [] from h]; simp [RpL]
  | _ :: _, _, 0, ⟨w, r, e, h, t⟩ => by subst e; exact ⟨v, r, rfl, q, t⟩
  | _ :: _, _, n + 1, ⟨w, r, e, h, t⟩ => by subst e; exact ⟨w, _, rfl, h, RpL.set q n t⟩
theorem RpL.erase {C : Ctx} {α : List Addr} {F : Hp} : ∀ {ds : List D} {vs : List V} (i : Nat), RpL C α F ds vs → RpL C α F (ds.eraseIdx i) (vs.eraseIdx i)
  | [], _, _, h => by rw [show _ = [] from h]; simp [RpL]
  | _ :: _, _, 0, ⟨w, r, e, h, t⟩ => by subst e; exact t
  | _ :: _, _, n + 1, ⟨w, r, e, h, t⟩ => by subst e; exact ⟨w, _, rfl, h, RpL.erase n t⟩

/-! ## regions, results -/
inductive RO where
  | lst (xs : List D) | dk (kvs : List (Key × D)) | dt (kvs : List (List Key × D)) | ins (c : Str) (fs : List (Str × D))
abbrev Store := List (Option RO)
structure Exn where
  c : Str
  fs : List (Str × D)
inductive Res (α : Type) where
  | ok (a : α) (S : Store) | exc (e : Exn) (S : Store) | stuck
def Res.bind {α β : Type} (r : Res α) (k : α → Store → Res β) : Res β := match r with
  | .ok a S => k a S
  | .exc e S => .exc e S
  | .stuck => .stuck
abbrev M (α : Type) := Store → Res α
inductive Slot where
  | un | d (x : D) | f (j : Nat)
abbrev Env := List Slot
abbrev E := Env → Store → Res D
abbrev ET := Env → Store → Res Bool
abbrev EL := Env → Store → Res (List D)
inductive ResS where
  | next (env : Env) (S : Store) | brk (env : Env) (S : Store) | cont (env : Env) (S : Store)
  | ret (d : D) (S : Store) | exc (e : Exn) (env : Env) (S : Store) | stuck
abbrev SS := Env → Store → ResS

def RpO (C : Ctx) (α : List Addr) (F : Hp) : RO → HO → Prop
  | .lst xs, o => ∃ vs, o = .lst vs ∧ RpL C α F xs vs
  | .dk kvs, o => ∃ ws, o = .dK ws ∧ RpK C α F kvs ws
  | .dt kvs, o => ∃ ws, o = .dT ws ∧ RpT C α F kvs ws
  | .ins c fs, o => ∃ Cc dx ws, o = .ins Cc dx ws ∧ C.cn c = some Cc ∧ RpF C α F fs ws
theorem RpO.mono {C : Ctx} {α α' : List Addr} {F F' : Hp} (p : Pre α α') (s : Sub F F') {r : RO} {o : HO} (h : RpO C α F r o) : RpO C α' F' r o := by
  cases r with
  | lst xs => obtain ⟨vs, e, r⟩ := h; exact ⟨vs, e, r.mono p s⟩
  | dk xs => obtain ⟨vs, e, r⟩ := h; exact ⟨vs, e, r.mono p s⟩
  | dt xs => obtain ⟨vs, e, r⟩ := h; exact ⟨vs, e, r.mono p s⟩
  | ins c fs => obtain ⟨Cc, dx, ws, e, c, r⟩ := h; exact ⟨Cc, dx, ws, e, c, r.mono p s⟩


/-! ## contexts that differ in what is handed in -/
def Ctx.wf (C : Ctx) (fp : List Addr) (F0 : Hp) (A0 : List Addr) : Ctx := { C with fp := fp, F0 := F0, A0 := A0 }
section
variable {C : Ctx} {fp : List Addr} {F0 : Hp} {A0 : List Addr} {α : List Addr} {F : Hp}
mutual
theorem Rp.wf : ∀ {d : D} {v : V}, Rp (C.wf fp F0 A0) α F d v ↔ Rp C α F d v
  | .non, _ => Iff.rfl
  | .bl _, _ => Iff.rfl
  | .int _, _ => Iff.rfl
  | .str _, _ => Iff.rfl
  | .tup xs, _ => ⟨fun ⟨a, vs, e, q, r⟩ => ⟨a, vs, e, q, RpL.wf.mp r⟩, fun ⟨a, vs, e, q, r⟩ => ⟨a, vs, e, q, RpL.wf.mpr r⟩⟩
  | .kt _, _ => ⟨fun ⟨a, vs, e, q, r⟩ => ⟨a, vs, e, q, RpL.wf.mp r⟩, fun ⟨a, vs, e, q, r⟩ => ⟨a, vs, e, q, RpL.wf.mpr r⟩⟩
  | .lst _, _ => ⟨fun ⟨a, vs, e, q, r⟩ => ⟨a, vs, e, q, RpL.wf.mp r⟩, fun ⟨a, vs, e, q, r⟩ => ⟨a, vs, e, q, RpL.wf.mpr r⟩⟩
  | .scr _, _ => Iff.rfl
  | .dk _, _ => ⟨fun ⟨a, vs, e, q, r⟩ => ⟨a, vs, e, q, RpK.wf.mp r⟩, fun ⟨a, vs, e, q, r⟩ => ⟨a, vs, e, q, RpK.wf.mpr r⟩⟩
  | .dt _, _ => ⟨fun ⟨a, vs, e, q, r⟩ => ⟨a, vs, e, q, RpT.wf.mp r⟩, fun ⟨a, vs, e, q, r⟩ => ⟨a, vs, e, q, RpT.wf.mpr r⟩⟩
  | .obj _ _, _ => ⟨fun ⟨a, dx, ws, Cc, e, c, q, r⟩ => ⟨a, dx, ws, Cc, e, c, q, RpF.wf.mp r⟩, fun ⟨a, dx, ws, Cc, e, c, q, r⟩ => ⟨a, dx, ws, Cc, e, c, q, RpF.wf.mpr r⟩⟩
  | .exc _ _, _ => ⟨fun ⟨a, Cc, e, c, h⟩ => ⟨a, Cc, e, c, h.imp id fun ⟨d, ws, q, q2, r⟩ => ⟨d, ws, q, q2, RpF.wf.mp r⟩⟩, fun ⟨a, Cc, e, c, h⟩ => ⟨a, Cc, e, c, h.imp id fun ⟨d, ws, q, q2, r⟩ => ⟨d, ws, q, q2, RpF.wf.mpr r⟩⟩⟩
  | .reg _, _ => Iff.rfl
  | .cls _, _ => Iff.rfl
  | .fn _, _ => Iff.rfl
theorem RpL.wf : ∀ {d : List D} {v : List V}, RpL (C.wf fp F0 A0) α F d v ↔ RpL C α F d v
  | [], _ => Iff.rfl
  | _ :: _, _ => ⟨fun ⟨v, r, e, h, t⟩ => ⟨v, r, e, Rp.wf.mp h, RpL.wf.mp t⟩, fun ⟨v, r, e, h, t⟩ => ⟨v, r, e, Rp.wf.mpr h, RpL.wf.mpr t⟩⟩
theorem RpK.wf : ∀ {d : List (Key × D)} {v : List (Key × V)}, RpK (C.wf fp F0 A0) α F d v ↔ RpK C α F d v
  | [], _ => Iff.rfl
  | (_, _) :: _, _ => ⟨fun ⟨v, r, e, h, t⟩ => ⟨v, r, e, Rp.wf.mp h, RpK.wf.mp t⟩, fun ⟨v, r, e, h, t⟩ => ⟨v, r, e, Rp.wf.mpr h, RpK.wf.mpr t⟩⟩
theorem RpT.wf : ∀ {d : List (List Key × D)} {v : List (List Key × V)}, RpT (C.wf fp F0 A0) α F d v ↔ RpT C α F d v
  | [], _ => Iff.rfl
  | (_, _) :: _, _ => ⟨fun ⟨v, r, e, h, t⟩ => ⟨v, r, e, Rp.wf.mp h, RpT.wf.mp t⟩, fun ⟨v, r, e, h, t⟩ => ⟨v, r, e, Rp.wf.mpr h, RpT.wf.mpr t⟩⟩
theorem RpF.wf : ∀ {d : List (Str × D)} {v : List (Str × V)}, RpF (C.wf fp F0 A0) α F d v ↔ RpF C α F d v
  | [], _ => Iff.rfl
  | (_, _) :: _, _ => ⟨fun ⟨v, r, e, h, t⟩ => ⟨v, r, e, Rp.wf.mp h, RpF.wf.mp t⟩, fun ⟨v, r, e, h, t⟩ => ⟨v, r, e, Rp.wf.mpr h, RpF.wf.mpr t⟩⟩
end
theorem RpO.wf {r : RO} {o : HO} : RpO (C.wf fp F0 A0) α F r o ↔ RpO C α F r o := by
  cases r with
  | lst xs => exact ⟨fun ⟨vs, e, r⟩ => ⟨vs, e, RpL.wf.mp r⟩, fun ⟨vs, e, r⟩ => ⟨vs, e, RpL.wf.mpr r⟩⟩
  | dk xs => exact ⟨fun ⟨vs, e, r⟩ => ⟨vs, e, RpK.wf.mp r⟩, fun ⟨vs, e, r⟩ => ⟨vs, e, RpK.wf.mpr r⟩⟩
  | dt xs => exact ⟨fun ⟨vs, e, r⟩ => ⟨vs, e, RpT.wf.mp r⟩, fun ⟨vs, e, r⟩ => ⟨vs, e, RpT.wf.mpr r⟩⟩
  | ins c fs => exact ⟨fun ⟨Cc, dx, ws, e, c, r⟩ => ⟨Cc, dx, ws, e, c, RpF.wf.mp r⟩, fun ⟨Cc, dx, ws, e, c, r⟩ => ⟨Cc, dx, ws, e, c, RpF.wf.mpr r⟩⟩
end

def notTbl (o : HO) : Prop := ∀ ps, o ≠ .tbl ps
/-- the tables of code objects -/
def TabF (T : List NdefX.NTab) (F H : Hp) : Prop := ∀ p ∈ T, ∃ ps : Array Value, H p.1 = some (.tbl ps) ∧ TriplesOk ps.toList ∧ ∀ (pos : Pos) (cv : Value), codeAmong pos ps.toList = some cv → ∃ c, cv = .ref c ∧ F c = some (LamX.CodeO c (p.2 pos.line pos.col))
theorem TabF.ext {T : List NdefX.NTab} {F H F' H' : Hp} (t : TabF T F H) (s : Sub F F') (e : ∀ b ps, H b = some (.tbl ps) → H' b = some (.tbl ps)) : TabF T F' H' := fun p hp => by
  obtain ⟨ps, h1, h2, h3⟩ := t p hp
  refine ⟨ps, e _ _ h1, h2, fun pos cv hc => ?_⟩
  obtain ⟨c, e1, e2⟩ := h3 pos cv hc
  exact ⟨c, e1, s _ _ e2⟩
theorem TabF.to {T : List NdefX.NTab} {F H : Hp} (t : TabF T F H) (s : Sub F H) : NdefX.TabsN T H := fun p hp => by
  obtain ⟨ps, h1, h2, h3⟩ := t p hp
  refine ⟨ps, h1, h2, fun pos cv hc => ?_⟩
  obtain ⟨c, e1, e2⟩ := h3 pos cv hc
  exact ⟨c, e1, s _ _ e2⟩
structure Rst (C : Ctx) (α : List Addr) (F H : Hp) (S : Store) : Prop where
  sub : Sub F H
  nt : ∀ a o, F a = some o → notTbl o
  nd : α.Nodup
  liv : ∀ a, a ∈ α → ∃ o, H a = some o ∧ notTbl o
  len : S.length = α.length
  reg : ∀ (j : Nat) (r : RO), S[j]? = some (some r) → ∃ a o, α[j]? = some a ∧ F a = none ∧ H a = some o ∧ RpO C α F r o
  tab : TabF C.T F H
  low : Sub C.F0 F
  lowA : Pre C.A0 α

section
variable {C : Ctx} {fp : List Addr} {F0 : Hp} {A0 : List Addr} {α : List Addr} {F H : Hp} {S : Store}
theorem Rst.wf (R : Rst C α F H S) (l : Sub F0 F) (la : Pre A0 α) : Rst (C.wf fp F0 A0) α F H S :=
  ⟨R.sub, R.nt, R.nd, R.liv, R.len, fun j r e => by obtain ⟨a, o, h1, h2, h3, h4⟩ := R.reg j r e; exact ⟨a, o, h1, h2, h3, RpO.wf.mpr h4⟩, R.tab, l, la⟩
theorem Rst.unwf (R : Rst (C.wf fp F0 A0) α F H S) (l : Sub C.F0 F) (la : Pre C.A0 α) : Rst C α F H S :=
  ⟨R.sub, R.nt, R.nd, R.liv, R.len, fun j r e => by obtain ⟨a, o, h1, h2, h3, h4⟩ := R.reg j r e; exact ⟨a, o, h1, h2, h3, RpO.wf.mp h4⟩, R.tab, l, la⟩
end
structure Step (α : List Addr) (F H : Hp) (α' : List Addr) (F' H' : Hp) : Prop where
  pre : Pre α α'
  frz : Sub F F'
  keep : ∀ b o, H b = some o → notTbl o → b ∉ α → H' b = some o ∧ (F b = none → F' b = none) ∧ b ∉ α'
theorem Step.refl (α : List Addr) (F H : Hp) : Step α F H α F H := ⟨Pre.refl α, Sub.refl F, fun _ _ h _ n => ⟨h, fun z => z, n⟩⟩
theorem Step.trans {α β γ : List Addr} {F F1 F2 H H1 H2 : Hp} (h : Step α F H β F1 H1) (k : Step β F1 H1 γ F2 H2) : Step α F H γ F2 H2 :=
  ⟨h.pre.trans k.pre, h.frz.trans k.frz, fun b o e t n => by
    obtain ⟨e1, f1, n1⟩ := h.keep b o e t n
    obtain ⟨e2, f2, n2⟩ := k.keep b o e1 t n1
    exact ⟨e2, fun z => f2 (f1 z), n2⟩⟩
theorem Rp.step {C : Ctx} {α α' : List Addr} {F F' H H' : Hp} {d : D} {v : V} (s : Step α F H α' F' H') (h : Rp C α F d v) : Rp C α' F' d v := h.mono s.pre s.frz
theorem RpL.step {C : Ctx} {α α' : List Addr} {F F' H H' : Hp} {d : List D} {v : List V} (s : Step α F H α' F' H') (h : RpL C α F d v) : RpL C α' F' d v := h.mono s.pre s.frz

def slotOk (C : Ctx) (α : List Addr) (F : Hp) (o : Option (Option V)) : Slot → Prop
  | .un => True
  | .d x => ∃ v, o = some (some v) ∧ Rp C α F x v
  | .f j => ∃ a, o = some (some (.ref a)) ∧ C.fp[j]? = some a
structure Slots (C : Ctx) (α : List Addr) (F : Hp) (σ : L2.St) (env : Env) : Prop where
  len : σ.length = env.length
  at_ : ∀ (i : Nat) (s : Slot), env[i]? = some s → slotOk C α F σ[i]? s
theorem slotOk.mono {C : Ctx} {α α' : List Addr} {F F' : Hp} (p : Pre α α') (s : Sub F F') {o : Option (Option V)} {x : Slot} (h : slotOk C α F o x) : slotOk C α' F' o x := by
  cases x with
  | un => exact h
  | d x => obtain ⟨v, e, r⟩ := h; exact ⟨v, e, r.mono p s⟩
  | f j => exact h
theorem Slots.mono {C : Ctx} {α α' : List Addr} {F F' : Hp} {σ : L2.St} {env : Env} (p : Pre α α') (s : Sub F F') (h : Slots C α F σ env) : Slots C α' F' σ env := ⟨h.len, fun i x e => (h.at_ i x e).mono p s⟩
theorem Slots.step {C : Ctx} {α α' : List Addr} {F F' H H' : Hp} {σ : L2.St} {env : Env} (s : Step α F H α' F' H') (h : Slots C α F σ env) : Slots C α' F' σ env := h.mono s.pre s.frz
theorem Slots.set {C : Ctx} {α : List Addr} {F : Hp} {σ : L2.St} {env : Env} (h : Slots C α F σ env) {i : Nat} {d : D} {v : V} (hi : i < env.length) (r : Rp C α F d v) : Slots C α F (σ.set i (some v)) (env.set i (.d d)) := by
  refine ⟨by rw [List.length_set, List.length_set]; exact h.len, fun j s e => ?_⟩
  by_cases hj : i = j
  · subst hj
    rw [List.getElem?_set_self hi] at e
    cases e
    exact ⟨v, List.getElem?_set_self (by rw [h.len]; exact hi), r⟩
  · rw [List.getElem?_set_ne hj] at e ⊢
    exact h.at_ j s e

/-- how an exception lies -/
def RpX (C : Ctx) (α : List Addr) (F : Hp) (e : Exn) (cls : Value) (d : Option Addr) : Prop :=
  ∃ Cc, C.cn e.c = some Cc ∧ cls = .ref Cc ∧ ((e.fs = [] ∧ d = none) ∨ ∃ dd ws, d = some dd ∧ F dd = some (.xd ws) ∧ RpF C α F e.fs ws)

/-! ## what is wanted behind -/
section
variable (C : Ctx) (W : WX) (α : List Addr) (F H : Hp) (σ : L2.St)
def PostG {β : Type} (r : Res β) (G : β → List Addr → Hp → Hp → Store → Prop) : Prop := match r with
  | .ok d S' => ∀ α' F' H', Step α F H α' F' H' → Rst C α' F' H' S' → G d α' F' H' S'
  | .exc e S' => ∀ cls dx α' F' H', Step α F H α' F' H' → Rst C α' F' H' S' → RpX C α' F' e cls dx → W cls dx σ H'
  | .stuck => False
def PostE (r : Res D) (Q : VK) : Prop := match r with
  | .ok d S' => ∀ v α' F' H', Step α F H α' F' H' → Rst C α' F' H' S' → Rp C α' F' d v → Q v H'
  | .exc e S' => ∀ cls dx α' F' H', Step α F H α' F' H' → Rst C α' F' H' S' → RpX C α' F' e cls dx → W cls dx σ H'
  | .stuck => False
def PostT (r : Res Bool) (Q : Bool → Hp → Prop) : Prop := match r with
  | .ok d S' => ∀ α' F' H', Step α F H α' F' H' → Rst C α' F' H' S' → Q d H'
  | .exc e S' => ∀ cls dx α' F' H', Step α F H α' F' H' → Rst C α' F' H' S' → RpX C α' F' e cls dx → W cls dx σ H'
  | .stuck => False
def PostA (r : Res (List D)) (Q : List V → Hp → Prop) : Prop := match r with
  | .ok d S' => ∀ v α' F' H', Step α F H α' F' H' → Rst C α' F' H' S' → RpL C α' F' d v → Q v H'
  | .exc e S' => ∀ cls dx α' F' H', Step α F H α' F' H' → Rst C α' F' H' S' → RpX C α' F' e cls dx → W cls dx σ H'
  | .stuck => False
def PostS (D : Ends) (r : ResS) : Prop := match r with
  | .next env S' => ∀ σ' α' F' H', Step α F H α' F' H' → Rst C α' F' H' S' → Slots C α' F' σ' env → D.nx σ' H'
  | .brk env S' => ∀ σ' α' F' H', Step α F H α' F' H' → Rst C α' F' H' S' → Slots C α' F' σ' env → D.bk σ' H'
  | .cont env S' => ∀ σ' α' F' H', Step α F H α' F' H' → Rst C α' F' H' S' → Slots C α' F' σ' env → D.ct σ' H'
  | .ret d S' => ∀ v α' F' H', Step α F H α' F' H' → Rst C α' F' H' S' → Rp C α' F' d v → D.rt v H'
  | .exc e env S' => ∀ σ' cls dx α' F' H', Step α F H α' F' H' → Rst C α' F' H' S' → Slots C α' F' σ' env → RpX C α' F' e cls dx → W cls dx σ' H'
  | .stuck => False
end
section
variable {C : Ctx} {W : WX} {α α' : List Addr} {F F' H H' : Hp} {σ : L2.St}
theorem PostE.step (s : Step α F H α' F' H') {r : Res D} {Q : VK} (h : PostE C W α F H σ r Q) : PostE C W α' F' H' σ r Q := by
  cases r with
  | ok d S => exact fun v a f g t => h v a f g (s.trans t)
  | exc e S => exact fun v x a f g t => h v x a f g (s.trans t)
  | stuck => exact h
theorem PostT.step (s : Step α F H α' F' H') {r : Res Bool} {Q : Bool → Hp → Prop} (h : PostT C W α F H σ r Q) : PostT C W α' F' H' σ r Q := by
  cases r with
  | ok d S => exact fun a f g t => h a f g (s.trans t)
  | exc e S => exact fun v x a f g t => h v x a f g (s.trans t)
  | stuck => exact h
theorem PostA.step (s : Step α F H α' F' H') {r : Res (List D)} {Q : List V → Hp → Prop} (h : PostA C W α F H σ r Q) : PostA C W α' F' H' σ r Q := by
  cases r with
  | ok d S => exact fun v a f g t => h v a f g (s.trans t)
  | exc e S => exact fun v x a f g t => h v x a f g (s.trans t)
  | stuck => exact h
theorem PostS.step (s : Step α F H α' F' H') {r : ResS} {D : Ends} (h : PostS C W α F H D r) : PostS C W α' F' H' D r := by
  cases r with
  | next env S => exact fun v a f g t => h v a f g (s.trans t)
  | brk env S => exact fun v a f g t => h v a f g (s.trans t)
  | cont env S => exact fun v a f g t => h v a f g (s.trans t)
  | ret d S => exact fun v a f g t => h v a f g (s.trans t)
  | exc e env S => exact fun σ' v x a f g t => h σ' v x a f g (s.trans t)
  | stuck => exact h
end


section
variable {C : Ctx} {fp : List Addr} {F0 : Hp} {A0 : List Addr} {W : WX} {α : List Addr} {F H : Hp} {σ : L2.St}
theorem RpX.wf {e : Exn} {cls : Value} {dx : Option Addr} : RpX (C.wf fp F0 A0) α F e cls dx ↔ RpX C α F e cls dx :=
  ⟨fun ⟨Cc, h1, h2, h3⟩ => ⟨Cc, h1, h2, h3.imp id fun ⟨d, w, a, b, c⟩ => ⟨d, w, a, b, RpF.wf.mp c⟩⟩, fun ⟨Cc, h1, h2, h3⟩ => ⟨Cc, h1, h2, h3.imp id fun ⟨d, w, a, b, c⟩ => ⟨d, w, a, b, RpF.wf.mpr c⟩⟩⟩
/-- the wish in the greater context -/
theorem PostE.wf {r : Res D} {Q : VK} (l : Sub C.F0 F) (la : Pre C.A0 α) (h : PostE C W α F H σ r Q) : PostE (C.wf fp F0 A0) W α F H σ r Q := by
  cases r with
  | ok d S => exact fun v α' F' H' s R q => h v α' F' H' s (R.unwf (l.trans s.frz) (la.trans s.pre)) (Rp.wf.mp q)
  | exc e S => exact fun cls dx α' F' H' s R q => h cls dx α' F' H' s (R.unwf (l.trans s.frz) (la.trans s.pre)) (RpX.wf.mp q)
  | stuck => exact h
theorem PostE.unwf {r : Res D} {Q : VK} (l : Sub F0 F) (la : Pre A0 α) (h : PostE (C.wf fp F0 A0) W α F H σ r Q) : PostE C W α F H σ r Q := by
  cases r with
  | ok d S => exact fun v α' F' H' s R q => h v α' F' H' s (R.wf (l.trans s.frz) (la.trans s.pre)) (Rp.wf.mpr q)
  | exc e S => exact fun cls dx α' F' H' s R q => h cls dx α' F' H' s (R.wf (l.trans s.frz) (la.trans s.pre)) (RpX.wf.mpr q)
  | stuck => exact h
end

/-! ## the readings -/
def tE (C : Ctx) (W : WX) (m : E) : TE := fun σ H Q => ∃ α F S env, Rst C α F H S ∧ Slots C α F σ env ∧ PostE C W α F H σ (m env S) Q
def tT (C : Ctx) (W : WX) (m : ET) : TT := fun σ H Q => ∃ α F S env, Rst C α F H S ∧ Slots C α F σ env ∧ PostT C W α F H σ (m env S) Q
def tA (C : Ctx) (W : WX) (m : EL) : TA := fun σ H Q => ∃ α F S env, Rst C α F H S ∧ Slots C α F σ env ∧ PostA C W α F H σ (m env S) Q
def tS (C : Ctx) (W : WX) (m : SS) : TS := fun D σ H => ∃ α F S env, Rst C α F H S ∧ Slots C α F σ env ∧ PostS C W α F H D (m env S)

/-- expression e, in the context X, is m -/
structure SE (X : Cx) (C : Ctx) (W : WX) (e : Expr) (m : E) : Prop where
  pe : PE X e (tE C W m)
structure SET (X : Cx) (C : Ctx) (W : WX) (e : Expr) (m : ET) : Prop where
  pt : PT X e (tT C W m)
structure SEA (X : Cx) (C : Ctx) (W : WX) (es : List Expr) (m : EL) : Prop where
  pa : PA X es (tA C W m)
structure SS1 (X : Cx) (C : Ctx) (W : WX) (st : Stmt) (m : SS) : Prop where
  ps : PS X st (tS C W m)
structure SSs (X : Cx) (C : Ctx) (W : WX) (st : List Stmt) (m : SS) : Prop where
  pss : PSs X st (tS C W m)

theorem PE_imp {X : Cx} {e : Expr} {t t' : TE} (h : PE X e t) (k : ∀ σ H Q, t' σ H Q → t σ H Q) : PE X e t' := ⟨fun pins s σ H Q I q => h.run pins s σ H Q I (k σ H Q q)⟩
theorem PT_imp {X : Cx} {e : Expr} {t t' : TT} (h : PT X e t) (k : ∀ σ H Q, t' σ H Q → t σ H Q) : PT X e t' := ⟨fun pins s σ H Q I q => h.run pins s σ H Q I (k σ H Q q)⟩
theorem PW_imp {X : Cx} {e : Expr} {t t' : TT} (h : PW X e t) (k : ∀ σ H Q, t' σ H Q → t σ H Q) : PW X e t' := ⟨fun wh pins s σ H Q I q => h.run wh pins s σ H Q I (k σ H Q q)⟩
theorem PA_imp {X : Cx} {e : List Expr} {t t' : TA} (h : PA X e t) (k : ∀ σ H Q, t' σ H Q → t σ H Q) : PA X e t' := ⟨fun p pins s σ H Q I q => h.run p pins s σ H Q I (k σ H Q q)⟩
theorem PS_imp {X : Cx} {e : Stmt} {t t' : TS} (h : PS X e t) (k : ∀ D σ H, t' D σ H → t D σ H) : PS X e t' := ⟨fun pins s σ H D I q => h.run pins s σ H D I (k D σ H q)⟩
theorem PSs_imp {X : Cx} {e : List Stmt} {t t' : TS} (h : PSs X e t) (k : ∀ D σ H, t' D σ H → t D σ H) : PSs X e t' := ⟨fun pins s σ H D I q => h.run pins s σ H D I (k D σ H q)⟩

/-! ## binding -/
def ResS.bindE {β : Type} (r : Res β) (env : Env) (k : β → Store → ResS) : ResS := match r with
  | .ok d S => k d S
  | .exc e S => .exc e env S
  | .stuck => .stuck
section
variable {C : Ctx} {W : WX} {α : List Addr} {F H : Hp} {σ : L2.St}
theorem postE_E {r : Res (D)} {k : D → Store → Res (D)} {Q : VK} {G : VK} (h : PostE C W α F H σ (r.bind k) Q)
    (g : ∀ d S' v α' F' H', Step α F H α' F' H' → Rst C α' F' H' S' → Rp C α' F' d v → PostE C W α' F' H' σ (k d S') Q → G v H') : PostE C W α F H σ r G := by
  cases r with
  | ok d S' => exact fun v α' F' H' s R' r => g d S' v α' F' H' s R' r (PostE.step s h)
  | exc e S' => exact h
  | stuck => exact h
theorem postE_T {r : Res (Bool)} {k : Bool → Store → Res (D)} {Q : VK} {G : Bool → Hp → Prop} (h : PostE C W α F H σ (r.bind k) Q)
    (g : ∀ d S' α' F' H', Step α F H α' F' H' → Rst C α' F' H' S' → PostE C W α' F' H' σ (k d S') Q → G d H') : PostT C W α F H σ r G := by
  cases r with
  | ok d S' => exact fun α' F' H' s R' => g d S' α' F' H' s R' (PostE.step s h)
  | exc e S' => exact h
  | stuck => exact h
theorem postE_A {r : Res (List D)} {k : (List D) → Store → Res (D)} {Q : VK} {G : List V → Hp → Prop} (h : PostE C W α F H σ (r.bind k) Q)
    (g : ∀ d S' v α' F' H', Step α F H α' F' H' → Rst C α' F' H' S' → RpL C α' F' d v → PostE C W α' F' H' σ (k d S') Q → G v H') : PostA C W α F H σ r G := by
  cases r with
  | ok d S' => exact fun v α' F' H' s R' r => g d S' v α' F' H' s R' r (PostE.step s h)
  | exc e S' => exact h
  | stuck => exact h
theorem postT_E {r : Res (D)} {k : D → Store → Res (Bool)} {Q : Bool → Hp → Prop} {G : VK} (h : PostT C W α F H σ (r.bind k) Q)
    (g : ∀ d S' v α' F' H', Step α F H α' F' H' → Rst C α' F' H' S' → Rp C α' F' d v → PostT C W α' F' H' σ (k d S') Q → G v H') : PostE C W α F H σ r G := by
  cases r with
  | ok d S' => exact fun v α' F' H' s R' r => g d S' v α' F' H' s R' r (PostT.step s h)
  | exc e S' => exact h
  | stuck => exact h
theorem postT_T {r : Res (Bool)} {k : Bool → Store → Res (Bool)} {Q : Bool → Hp → Prop} {G : Bool → Hp → Prop} (h : PostT C W α F H σ (r.bind k) Q)
    (g : ∀ d S' α' F' H', Step α F H α' F' H' → Rst C α' F' H' S' → PostT C W α' F' H' σ (k d S') Q → G d H') : PostT C W α F H σ r G := by
  cases r with
  | ok d S' => exact fun α' F' H' s R' => g d S' α' F' H' s R' (PostT.step s h)
  | exc e S' => exact h
  | stuck => exact h
theorem postT_A {r : Res (List D)} {k : (List D) → Store → Res (Bool)} {Q : Bool → Hp → Prop} {G : List V → Hp → Prop} (h : PostT C W α F H σ (r.bind k) Q)
    (g : ∀ d S' v α' F' H', Step α F H α' F' H' → Rst C α' F' H' S' → RpL C α' F' d v → PostT C W α' F' H' σ (k d S') Q → G v H') : PostA C W α F H σ r G := by
  cases r with
  | ok d S' => exact fun v α' F' H' s R' r => g d S' v α' F' H' s R' r (PostT.step s h)
  | exc e S' => exact h
  | stuck => exact h
theorem postA_E {r : Res (D)} {k : D → Store → Res (List D)} {Q : List V → Hp → Prop} {G : VK} (h : PostA C W α F H σ (r.bind k) Q)
    (g : ∀ d S' v α' F' H', Step α F H α' F' H' → Rst C α' F' H' S' → Rp C α' F' d v → PostA C W α' F' H' σ (k d S') Q → G v H') : PostE C W α F H σ r G := by
  cases r with
  | ok d S' => exact fun v α' F' H' s R' r => g d S' v α' F' H' s R' r (PostA.step s h)
  | exc e S' => exact h
  | stuck => exact h
theorem postA_T {r : Res (Bool)} {k : Bool → Store → Res (List D)} {Q : List V → Hp → Prop} {G : Bool → Hp → Prop} (h : PostA C W α F H σ (r.bind k) Q)
    (g : ∀ d S' α' F' H', Step α F H α' F' H' → Rst C α' F' H' S' → PostA C W α' F' H' σ (k d S') Q → G d H') : PostT C W α F H σ r G := by
  cases r with
  | ok d S' => exact fun α' F' H' s R' => g d S' α' F' H' s R' (PostA.step s h)
  | exc e S' => exact h
  | stuck => exact h
theorem postA_A {r : Res (List D)} {k : (List D) → Store → Res (List D)} {Q : List V → Hp → Prop} {G : List V → Hp → Prop} (h : PostA C W α F H σ (r.bind k) Q)
    (g : ∀ d S' v α' F' H', Step α F H α' F' H' → Rst C α' F' H' S' → RpL C α' F' d v → PostA C W α' F' H' σ (k d S') Q → G v H') : PostA C W α F H σ r G := by
  cases r with
  | ok d S' => exact fun v α' F' H' s R' r => g d S' v α' F' H' s R' r (PostA.step s h)
  | exc e S' => exact h
  | stuck => exact h
theorem postS_E {r : Res (D)} {env : Env} {k : D → Store → ResS} {D : Ends} {G : VK} (Sl : Slots C α F σ env) (h : PostS C W α F H D (ResS.bindE r env k))
    (g : ∀ d S' v α' F' H', Step α F H α' F' H' → Rst C α' F' H' S' → Rp C α' F' d v → PostS C W α' F' H' D (k d S') → G v H') : PostE C W α F H σ r G := by
  cases r with
  | ok d S' => exact fun v α' F' H' s R' r => g d S' v α' F' H' s R' r (PostS.step s h)
  | exc e S' => exact fun cls dx α' F' H' s R' x => h σ cls dx α' F' H' s R' (Sl.step s) x
  | stuck => exact h
theorem postS_T {r : Res (Bool)} {env : Env} {k : Bool → Store → ResS} {D : Ends} {G : Bool → Hp → Prop} (Sl : Slots C α F σ env) (h : PostS C W α F H D (ResS.bindE r env k))
    (g : ∀ d S' α' F' H', Step α F H α' F' H' → Rst C α' F' H' S' → PostS C W α' F' H' D (k d S') → G d H') : PostT C W α F H σ r G := by
  cases r with
  | ok d S' => exact fun α' F' H' s R' => g d S' α' F' H' s R' (PostS.step s h)
  | exc e S' => exact fun cls dx α' F' H' s R' x => h σ cls dx α' F' H' s R' (Sl.step s) x
  | stuck => exact h
theorem postS_A {r : Res (List D)} {env : Env} {k : (List D) → Store → ResS} {D : Ends} {G : List V → Hp → Prop} (Sl : Slots C α F σ env) (h : PostS C W α F H D (ResS.bindE r env k))
    (g : ∀ d S' v α' F' H', Step α F H α' F' H' → Rst C α' F' H' S' → RpL C α' F' d v → PostS C W α' F' H' D (k d S') → G v H') : PostA C W α F H σ r G := by
  cases r with
  | ok d S' => exact fun v α' F' H' s R' r => g d S' v α' F' H' s R' r (PostS.step s h)
  | exc e S' => exact fun cls dx α' F' H' s R' x => h σ cls dx α' F' H' s R' (Sl.step s) x
  | stuck => exact h
end
/-- nothing changes: the value at once -/
theorem PostE.here {C : Ctx} {W : WX} {α : List Addr} {F H : Hp} {σ : L2.St} {S : Store} {d : D} {v : V} {Q : VK} (R : Rst C α F H S) (r : Rp C α F d v) (h : PostE C W α F H σ (.ok d S) Q) : Q v H := h v α F H (Step.refl _ _ _) R r
theorem PostT.here {C : Ctx} {W : WX} {α : List Addr} {F H : Hp} {σ : L2.St} {S : Store} {b : Bool} {Q : Bool → Hp → Prop} (R : Rst C α F H S) (h : PostT C W α F H σ (.ok b S) Q) : Q b H := h α F H (Step.refl _ _ _) R
end WL
set_option Elab.async false
set_option linter.all false
set_option maxRecDepth 100000
namespace WL
open PySem L2

/-! ## expressions: what they are -/
def eC (d : D) : E := fun _ S => .ok d S
def eV (i : Nat) : E := fun env S => match env[i]? with
  | some (.d x) => .ok x S
  | _ => .stuck
def eUn (op : D → M D) (a : E) : E := fun env S => (a env S).bind fun x S => op x S
def eBin (op : D → D → M D) (a b : E) : E := fun env S => (a env S).bind fun x S => (b env S).bind fun y S => op x y S
def eNil : EL := fun _ S => .ok [] S
def eCons (a : E) (l : EL) : EL := fun env S => (a env S).bind fun x S => (l env S).bind fun xs S => .ok (x :: xs) S
def eOfL (op : List D → M D) (l : EL) : E := fun env S => (l env S).bind fun xs S => op xs S
/-- a test of a value -/
def tOf (op : D → M Bool) (a : E) : ET := fun env S => (a env S).bind fun x S => op x S
def isB : D → M Bool := fun d S => match d with
  | .bl b => .ok b S
  | _ => .stuck
def eChain (op op' : D → D → M D) (a b c : E) : E := fun env S => (a env S).bind fun x S => (b env S).bind fun y S => (op x y S).bind fun z S => match z with
  | .bl true => (c env S).bind fun w S => op' y w S
  | .bl false => .ok (.bl false) S
  | _ => .stuck
def eAnd (a b : E) : E := fun env S => (a env S).bind fun x S => match x with
  | .bl true => b env S
  | .bl false => .ok (.bl false) S
  | _ => .stuck
def eOr (a b : E) : E := fun env S => (a env S).bind fun x S => match x with
  | .bl true => .ok (.bl true) S
  | .bl false => b env S
  | _ => .stuck
def eNot (a : E) : E := fun env S => (a env S).bind fun x S => match x with
  | .bl b => .ok (.bl (!b)) S
  | _ => .stuck
def eIf (t : ET) (a b : E) : E := fun env S => (t env S).bind fun c S => if c = true then a env S else b env S
def tAndM (a b : ET) : ET := fun env S => (a env S).bind fun x S => if x = true then b env S else .ok false S
def tOrM (a b : ET) : ET := fun env S => (a env S).bind fun x S => if x = true then .ok true S else b env S
def tNotM (a : ET) : ET := fun env S => (a env S).bind fun x S => .ok (!x) S

/-! ## rules -/
/-- a value-level operation is what the hand layer's reading r says -/
def OpDs (C : Ctx) (op : D → D → M D) (r : R2) : Prop := ∀ (W : WX) (α : List Addr) (F H : Hp) (S : Store) (σ : L2.St) (x y : V) (dx dy : D) (Q : VK),
  Rst C α F H S → Rp C α F dx x → Rp C α F dy y → PostE C W α F H σ (op dx dy S) Q → r x y H Q
def UnDs (C : Ctx) (op : D → M D) (r : V → Hp → VK → Prop) : Prop := ∀ (W : WX) (α : List Addr) (F H : Hp) (S : Store) (σ : L2.St) (x : V) (dx : D) (Q : VK),
  Rst C α F H S → Rp C α F dx x → PostE C W α F H σ (op dx S) Q → r x H Q
def LDs (C : Ctx) (op : List D → M D) (r : List V → Hp → VK → Prop) : Prop := ∀ (W : WX) (α : List Addr) (F H : Hp) (S : Store) (σ : L2.St) (xs : List V) (ds : List D) (Q : VK),
  Rst C α F H S → RpL C α F ds xs → PostE C W α F H σ (op ds S) Q → r xs H Q
def TruDs (C : Ctx) (op : D → M Bool) (K : PySem.W.Frag) : Prop := ∀ (W : WX) (α : List Addr) (F H : Hp) (S : Store) (σ : L2.St) (x : V) (dx : D) (Q : Bool → Hp → Prop),
  Rst C α F H S → Rp C α F dx x → PostT C W α F H σ (op dx S) Q → ∃ k, TruV K x H k ∧ Q k H
section
variable {X : Cx} {C : Ctx} {W : WX} {a b c : Expr} {ma mb mc : E} {pos : Pos} {σ : L2.St} {H : Hp} {Q : VK}
theorem se_of {e : Expr} {t : TE} {m : E} (h : PE X e t) (k : ∀ σ H Q, tE C W m σ H Q → t σ H Q) : SE X C W e m := ⟨PE_imp h k⟩

theorem se_int {i : Int} {j : Nat} : SE X C W (.Constant (.int i) j pos) (eC (.int i)) := se_of pe_int fun σ H Q ⟨α, F, S, env, R, Sl, P⟩ => PostE.here (d := .int i) R rfl P
theorem se_bl {b : Bool} {j : Nat} : SE X C W (.Constant (.bool b) j pos) (eC (.bl b)) := se_of pe_bl fun σ H Q ⟨α, F, S, env, R, Sl, P⟩ => PostE.here (d := .bl b) R rfl P
theorem se_non {j : Nat} : SE X C W (.Constant .none j pos) (eC .non) := se_of pe_non fun σ H Q ⟨α, F, S, env, R, Sl, P⟩ => PostE.here (d := .non) R rfl P
theorem se_str {x : Str} {j : Nat} : SE X C W (.Constant (.str x) j pos) (eC (.str x)) := se_of pe_str fun σ H Q ⟨α, F, S, env, R, Sl, P⟩ => PostE.here (d := .str x) R rfl P
theorem se_var (i : Nat) {x : Str} (hN : X.N[i]? = some x) (hv : Vis X.env.scope x) (hd : (x == ("__debug__" : Str)) = false) (hcd : (x == ("__classdict__" : Str)) = false) : SE X C W (.Name x pos) (eV i) := by
  refine se_of (pe_var hN hv hd hcd) fun σ H Q ⟨α, F, S, env, R, Sl, P⟩ => ?_
  unfold eV at P
  cases e : env[i]? with
  | none => rw [e] at P; exact P.elim
  | some s =>
    rw [e] at P
    cases s with
    | un => exact P.elim
    | f j => exact P.elim
    | d x =>
      obtain ⟨v, hv, r⟩ := Sl.at_ i _ e
      exact ⟨v, hv, PostE.here R r P⟩
/-- a module's constant -/
theorem se_glob {x : Str} {u : Value} {d : D} {v : V} (hg : Gl X x) (hm : X.mg x = some u) (r : RelV v u) (rd : ∀ α F, Rp C α F d v) (hd : (x == ("__debug__" : Str)) = false) : SE X C W (.Name x pos) (eC d) :=
  se_of (pe_glob hg hm r hd) fun σ H Q ⟨α, F, S, env, R, Sl, P⟩ => PostE.here R (rd α F) P

/-! ### two values -/
theorem bin_run {op : D → D → M D} {r : R2} (hop : OpDs C op r) (h : tE C W (eBin op ma mb) σ H Q) : tOp r (tE C W ma) (tE C W mb) σ H Q := by
  obtain ⟨α, F, S, env, R, Sl, P⟩ := h
  refine ⟨α, F, S, env, R, Sl, postE_E P fun dx S1 x α1 F1 H1 s1 R1 rx P1 => ⟨α1, F1, S1, env, R1, Sl.step s1, postE_E P1 fun dy S2 y α2 F2 H2 s2 R2 ry P2 => ?_⟩⟩
  exact hop W α2 F2 H2 S2 σ x y dx dy Q R2 (rx.step s2) ry P2
theorem un_run {op : D → M D} {r : V → Hp → VK → Prop} (hop : UnDs C op r) (h : tE C W (eUn op ma) σ H Q) : tUn r (tE C W ma) σ H Q := by
  obtain ⟨α, F, S, env, R, Sl, P⟩ := h
  exact ⟨α, F, S, env, R, Sl, postE_E P fun dx S1 x α1 F1 H1 s1 R1 rx P1 => hop W α1 F1 H1 S1 σ x dx Q R1 rx P1⟩
theorem se_bin {o : Operator} {op : D → D → M D} {r : R2} (ho : OpR X (binaryOp o) r) (hop : OpDs C op r) (ha : SE X C W a ma) (hb : SE X C W b mb) : SE X C W (.BinOp a o b pos) (eBin op ma mb) :=
  se_of (pe_op ho ha.pe hb.pe) fun _ _ _ h => bin_run hop h
theorem se_un {o : UnaryOp} {op : D → M D} {r : V → Hp → VK → Prop} (ho : UnR X (unaryOp o) r) (hop : UnDs C op r) (ha : SE X C W a ma) : SE X C W (.UnaryOp o a pos) (eUn op ma) :=
  se_of (pe_un ho ha.pe) fun _ _ _ h => un_run hop h
theorem se_cmp {o : CmpOp} {op : D → D → M D} {r : R2} (ho : OpR X (compareOp o) r) (hop : OpDs C op r) (ha : SE X C W a ma) (hb : SE X C W b mb) (hm : behindInMarks o b = false) : SE X C W (.Compare a [o] [b] pos) (eBin op ma mb) :=
  se_of (pe_cmpR ho ha.pe hb.pe hm) fun _ _ _ h => bin_run hop h
theorem test_run {m : E} {t : TE} (k : ∀ σ H Q, tE C W m σ H Q → t σ H Q) {σ : L2.St} {H : Hp} {Q : Bool → Hp → Prop} (h : tT C W (tOf isB m) σ H Q) : t σ H fun x H' => ∃ k, x = .bl k ∧ Q k H' := by
  obtain ⟨α, F, S, env, R, Sl, P⟩ := h
  refine k _ _ _ ⟨α, F, S, env, R, Sl, postT_E P fun d S1 v α1 F1 H1 s1 R1 r P1 => ?_⟩
  cases d <;> first | exact P1.elim | skip
  exact ⟨_, r, PostT.here R1 P1⟩
theorem st_cmp {o : CmpOp} {op : D → D → M D} {r : R2} (ho : OpR X (compareOp o) r) (hop : OpDs C op r) (ha : SE X C W a ma) (hb : SE X C W b mb) (hm : behindInMarks o b = false) : SET X C W (.Compare a [o] [b] pos) (tOf isB (eBin op ma mb)) :=
  ⟨PT_imp (pt_cmpR ho ha.pe hb.pe hm) fun σ H Q h => test_run (fun _ _ _ h => bin_run hop h) h⟩
theorem chain_run {op op' : D → D → M D} {r r' : R2} (hop : OpDs C op r) (hop' : OpDs C op' r') (h : tE C W (eChain op op' ma mb mc) σ H Q) : tChain r r' (tE C W ma) (tE C W mb) (tE C W mc) σ H Q := by
  obtain ⟨α, F, S, env, R, Sl, P⟩ := h
  refine ⟨α, F, S, env, R, Sl, postE_E P fun dx S1 x α1 F1 H1 s1 R1 rx P1 => ⟨α1, F1, S1, env, R1, Sl.step s1, postE_E P1 fun dy S2 y α2 F2 H2 s2 R2 ry P2 => ?_⟩⟩
  refine hop W α2 F2 H2 S2 σ x y dx dy _ R2 (rx.step s2) ry (postE_E P2 fun dz S3 z α3 F3 H3 s3 R3 rz P3 => ?_)
  cases dz <;> first | exact P3.elim | skip
  rename_i k
  refine ⟨k, rz, ?_⟩
  cases k with
  | true => exact ⟨α3, F3, S3, env, R3, ((Sl.step s1).step s2).step s3, postE_E P3 fun dw S4 w' α4 F4 H4 s4 R4 rw' P4 => hop' W α4 F4 H4 S4 σ y w' dy dw Q R4 ((ry.step s3).step s4) rw' P4⟩
  | false => exact PostE.here (d := .bl false) R3 rfl P3
theorem se_chain {o o' : CmpOp} {op op' : D → D → M D} {r r' : R2} (ho : OpR X (compareOp o) r) (hop : OpDs C op r) (ho' : OpR X (compareOp o') r') (hop' : OpDs C op' r') (ha : SE X C W a ma) (hb : SE X C W b mb) (hc : SE X C W c mc)
    (hm : lastMarks [o, o'] [b, c] = false) : SE X C W (.Compare a [o, o'] [b, c] pos) (eChain op op' ma mb mc) :=
  se_of (pe_chain ho ho' ha.pe hb.pe hc.pe hm) fun _ _ _ h => chain_run hop hop' h
theorem st_chain {o o' : CmpOp} {op op' : D → D → M D} {r r' : R2} (ho : OpR X (compareOp o) r) (hop : OpDs C op r) (ho' : OpR X (compareOp o') r') (hop' : OpDs C op' r') (ha : SE X C W a ma) (hb : SE X C W b mb) (hc : SE X C W c mc)
    (hm : lastMarks [o, o'] [b, c] = false) : SET X C W (.Compare a [o, o'] [b, c] pos) (tOf isB (eChain op op' ma mb mc)) :=
  ⟨PT_imp (pt_chain ho ho' ha.pe hb.pe hc.pe hm) fun σ H Q h => test_run (fun _ _ _ h => chain_run hop hop' h) h⟩

/-! ### and, or, not, if -/
variable {rest : List Expr} {ta tb : ET}
theorem se_one {op : BoolOp} (ha : SE X C W a ma) : SE X C W (.BoolOp op [a] pos) ma := ⟨pe_one ha.pe⟩
theorem se_and (ha : SE X C W a ma) (hb : SE X C W (.BoolOp .And (b :: rest) pos) mb) : SE X C W (.BoolOp .And (a :: b :: rest) pos) (eAnd ma mb) := by
  refine se_of (pe_and ha.pe hb.pe) fun σ H Q ⟨α, F, S, env, R, Sl, P⟩ => ⟨α, F, S, env, R, Sl, postE_E P fun d S1 v α1 F1 H1 s1 R1 r P1 => ?_⟩
  cases d <;> first | exact P1.elim | skip
  rename_i k
  refine ⟨k, r, ?_⟩
  cases k with
  | true => exact ⟨α1, F1, S1, env, R1, Sl.step s1, P1⟩
  | false => exact PostE.here (d := .bl false) R1 rfl P1
theorem se_or (ha : SE X C W a ma) (hb : SE X C W (.BoolOp .Or (b :: rest) pos) mb) : SE X C W (.BoolOp .Or (a :: b :: rest) pos) (eOr ma mb) := by
  refine se_of (pe_or ha.pe hb.pe) fun σ H Q ⟨α, F, S, env, R, Sl, P⟩ => ⟨α, F, S, env, R, Sl, postE_E P fun d S1 v α1 F1 H1 s1 R1 r P1 => ?_⟩
  cases d <;> first | exact P1.elim | skip
  rename_i k
  refine ⟨k, r, ?_⟩
  cases k with
  | false => exact ⟨α1, F1, S1, env, R1, Sl.step s1, P1⟩
  | true => exact PostE.here (d := .bl true) R1 rfl P1
theorem se_not (ha : SE X C W a ma) : SE X C W (.UnaryOp .Not a pos) (eNot ma) := by
  refine se_of (pe_not ha.pe) fun σ H Q ⟨α, F, S, env, R, Sl, P⟩ => ⟨α, F, S, env, R, Sl, postE_E P fun d S1 v α1 F1 H1 s1 R1 r P1 => ?_⟩
  cases d <;> first | exact P1.elim | skip
  exact ⟨_, r, PostE.here (d := .bl _) R1 rfl P1⟩
theorem se_if (ht : SET X C W c ta) (ha : SE X C W a ma) (hb : SE X C W b mb) : SE X C W (.IfExp c a b pos) (eIf ta ma mb) := by
  refine se_of (pe_ifExp ht.pt ha.pe hb.pe) fun σ H Q ⟨α, F, S, env, R, Sl, P⟩ => ⟨α, F, S, env, R, Sl, postE_T P fun d S1 α1 F1 H1 s1 R1 P1 => ?_⟩
  cases d with
  | true => exact ⟨α1, F1, S1, env, R1, Sl.step s1, P1⟩
  | false => exact ⟨α1, F1, S1, env, R1, Sl.step s1, P1⟩
/-- tests -/
theorem st_val (ha : SE X C W a ma) (he : ∀ whole, isTrue a X.env whole = (do let v ← whole; standAt a.pos; holding [v] (truthy v))) : SET X C W a (tOf isB ma) :=
  ⟨PT_imp (pt_val ha.pe he) fun σ H Q h => test_run (fun _ _ _ h => h) h⟩
theorem st_tru {op : D → M Bool} (hop : TruDs C op X.K) (ha : SE X C W a ma) (he : ∀ whole, isTrue a X.env whole = (do let v ← whole; standAt a.pos; holding [v] (truthy v))) : SET X C W a (tOf op ma) :=
  ⟨PT_imp (pt_truth ha.pe he) fun σ H Q ⟨α, F, S, env, R, Sl, P⟩ => ⟨α, F, S, env, R, Sl, postT_E P fun d S1 v α1 F1 H1 s1 R1 r P1 => hop W α1 F1 H1 S1 σ v d Q R1 r P1⟩⟩
structure SEW (X : Cx) (C : Ctx) (W : WX) (e : Expr) (m : ET) : Prop where
  pw : PW X e (tT C W m)
theorem st_w (h : SEW X C W a ta) : SET X C W a ta := ⟨h.pw.pt⟩
theorem sw_and1 (ha : SET X C W a ta) : SEW X C W (.BoolOp .And [a] pos) ta := ⟨pw_and1 ha.pt⟩
theorem sw_or1 (ha : SET X C W a ta) : SEW X C W (.BoolOp .Or [a] pos) ta := ⟨pw_or1 ha.pt⟩
theorem sw_and (ha : SET X C W a ta) (hb : SEW X C W (.BoolOp .And (b :: rest) pos) tb) : SEW X C W (.BoolOp .And (a :: b :: rest) pos) (tAndM ta tb) := by
  refine ⟨PW_imp (pw_and ha.pt hb.pw) fun σ H Q ⟨α, F, S, env, R, Sl, P⟩ => ⟨α, F, S, env, R, Sl, postT_T P fun d S1 α1 F1 H1 s1 R1 P1 => ?_⟩⟩
  cases d with
  | true => exact ⟨α1, F1, S1, env, R1, Sl.step s1, P1⟩
  | false => exact PostT.here R1 P1
theorem sw_or (ha : SET X C W a ta) (hb : SEW X C W (.BoolOp .Or (b :: rest) pos) tb) : SEW X C W (.BoolOp .Or (a :: b :: rest) pos) (tOrM ta tb) := by
  refine ⟨PW_imp (pw_or ha.pt hb.pw) fun σ H Q ⟨α, F, S, env, R, Sl, P⟩ => ⟨α, F, S, env, R, Sl, postT_T P fun d S1 α1 F1 H1 s1 R1 P1 => ?_⟩⟩
  cases d with
  | true => exact PostT.here R1 P1
  | false => exact ⟨α1, F1, S1, env, R1, Sl.step s1, P1⟩
theorem st_not (ha : SET X C W a ta) : SET X C W (.UnaryOp .Not a pos) (tNotM ta) :=
  ⟨PT_imp (pt_not ha.pt) fun σ H Q ⟨α, F, S, env, R, Sl, P⟩ => ⟨α, F, S, env, R, Sl, postT_T P fun d S1 α1 F1 H1 s1 R1 P1 => PostT.here R1 P1⟩⟩

/-! ### lists of arguments -/
variable {es : List Expr} {ml : EL}
theorem sa_nil : SEA X C W [] eNil := ⟨PA_imp pa_nil fun σ H Q ⟨α, F, S, env, R, Sl, P⟩ => P [] α F H (Step.refl _ _ _) R rfl⟩
theorem sa_cons (ha : SE X C W a ma) (hl : SEA X C W es ml) (hs : starEach (a :: es) X.env = (false, eval a X.env) :: starEach es X.env) : SEA X C W (a :: es) (eCons ma ml) := by
  refine ⟨PA_imp (pa_cons ha.pe hl.pa hs) fun σ H Q ⟨α, F, S, env, R, Sl, P⟩ => ⟨α, F, S, env, R, Sl, postA_E P fun d S1 v α1 F1 H1 s1 R1 r P1 => ⟨α1, F1, S1, env, R1, Sl.step s1, postA_A P1 fun ds S2 vs α2 F2 H2 s2 R2 rs P2 => ?_⟩⟩⟩
  exact P2 (v :: vs) α2 F2 H2 (Step.refl _ _ _) R2 ⟨v, vs, rfl, r.step s2, rs⟩
end
/-! ## what a new object does -/
theorem nt_lst (xs : List V) : notTbl (.lst xs) := fun _ z => nomatch z
theorem nt_tup (xs : List V) : notTbl (.tup xs) := fun _ z => nomatch z
theorem nt_dK (xs : List (Key × V)) : notTbl (.dK xs) := fun _ z => nomatch z
theorem nt_dT (xs : List (List Key × V)) : notTbl (.dT xs) := fun _ z => nomatch z
section
variable {C : Ctx} {α : List Addr} {F H : Hp} {S : Store} {p : Addr} {o : HO}
theorem Rst.fN (R : Rst C α F H S) (h : H p = none) : F p = none := R.sub.none h
theorem Rst.live (R : Rst C α F H S) {j : Nat} {r : RO} (e : S[j]? = some (some r)) {a : Addr} (ha : α[j]? = some a) : ∃ o, F a = none ∧ H a = some o ∧ RpO C α F r o := by
  obtain ⟨b, o, h1, h2, h3, h4⟩ := R.reg j r e
  rw [ha] at h1; cases h1
  exact ⟨o, h2, h3, h4⟩
/-- an object new and frozen at once. Dead regions stand frozen or not at all -/
theorem Rst.new (R : Rst C α F H S) (h : H p = none) (n : notTbl o) : Rst C α (upd F p o) (upd H p o) S := by
  refine ⟨fun a u e => ?_, fun a u e => ?_, R.nd, fun a m => ?_, R.len, fun j r e => ?_, R.tab.ext (Sub.new (R.fN h)) (fun b u e => by rw [upd_ne (ne_of_none e h)]; exact e), R.low.trans (Sub.new (R.fN h)), R.lowA⟩
  · by_cases q : a = p
    · subst q; rw [upd_same] at e ⊢; exact e
    · rw [upd_ne q] at e ⊢; exact R.sub a u e
  · by_cases q : a = p
    · subst q; rw [upd_same] at e; cases e; exact n
    · rw [upd_ne q] at e; exact R.nt a u e
  · obtain ⟨u, e, t⟩ := R.liv a m
    exact ⟨u, by rw [upd_ne (ne_of_none e h)]; exact e, t⟩
  · obtain ⟨a, u, h1, h2, h3, h4⟩ := R.reg j r e
    have q : a ≠ p := ne_of_none h3 h
    exact ⟨a, u, h1, by rw [upd_ne q]; exact h2, by rw [upd_ne q]; exact h3, h4.mono (Pre.refl _) (Sub.new (R.fN h))⟩
theorem Rst.newStep (R : Rst C α F H S) (h : H p = none) : Step α F H α (upd F p o) (upd H p o) :=
  ⟨Pre.refl _, Sub.new (R.fN h), fun b u e t n => by
    have q : b ≠ p := ne_of_none e h
    exact ⟨by rw [upd_ne q]; exact e, fun z => by rw [upd_ne q]; exact z, n⟩⟩
/-- the wish of a new frozen object -/
theorem PostE.new {W : WX} {σ : L2.St} {d : D} {Q : VK} (R : Rst C α F H S) (h : PostE C W α F H σ (.ok d S) Q) (n : notTbl o) (r : ∀ p, H p = none → Rp C α (upd F p o) d (.ref p)) : ∀ p, H p = none → Q (.ref p) (upd H p o) :=
  fun p hp => h (.ref p) α _ _ (R.newStep hp) (R.new hp n) (r p hp)
end
end WL
set_option Elab.async false
set_option linter.all false
set_option maxRecDepth 100000
namespace WL
open PySem L2
/-- the length of made lists, tuples, texts -/
def big : Nat := 1000000
theorem le_line {n : Nat} (h : n ≤ big) : n ≤ sizeLine := Nat.le_trans h (by decide)
theorem lt_line {n : Nat} (h : n < big) : n < sizeLine := Nat.lt_of_lt_of_le h (by decide)

/-! ## ints -/
def dSub : D → D → M D := fun x y S => match x, y with
  | .int i, .int j => .ok (.int (i - j)) S
  | _, _ => .stuck
def dMod : D → D → M D := fun x y S => match x, y with
  | .int i, .int j => if 0 < j then .ok (.int (i % j)) S else .stuck
  | _, _ => .stuck
def dFdiv : D → D → M D := fun x y S => match x, y with
  | .int i, .int j => if 0 < j ∧ j < 1073741824 then .ok (.int (i / j)) S else .stuck
  | _, _ => .stuck
def dPow : D → D → M D := fun x y S => match x, y with
  | .int i, .int j => if 0 ≤ j ∧ j ≤ 1000000 ∧ i.natAbs < 2 ^ 64 then .ok (.int (i ^ j.toNat)) S else .stuck
  | _, _ => .stuck
def dNeg : D → M D := fun x S => match x with
  | .int i => .ok (.int (-i)) S
  | _ => .stuck
def dRel (g : Int → Int → Bool) : D → D → M D := fun x y S => match x, y with
  | .int i, .int j => .ok (.bl (g i j)) S
  | _, _ => .stuck
abbrev dLt := dRel fun i j => decide (i < j)
abbrev dLe := dRel fun i j => decide (i ≤ j)
abbrev dGt := dRel fun i j => decide (j < i)
abbrev dGe := dRel fun i j => decide (j ≤ i)
section
variable {C : Ctx}
theorem od_sub : OpDs C dSub (rI0 fun i j => .int (i - j)) := by
  intro W α F H S σ x y dx dy Q R rx ry P
  unfold dSub at P
  split at P
  · exact ⟨_, _, rx, ry, PostE.here (d := .int _) R rfl P⟩
  · exact P.elim
theorem od_mod : OpDs C dMod (rI (fun _ j => 0 < j) fun i j => .int (i % j)) := by
  intro W α F H S σ x y dx dy Q R rx ry P
  unfold dMod at P
  split at P
  · split at P
    · rename_i h
      exact ⟨_, _, rx, ry, h, PostE.here (d := .int _) R rfl P⟩
    · exact P.elim
  · exact P.elim
theorem od_fdiv : OpDs C dFdiv (rI CDiv fun i j => .int (i / j)) := by
  intro W α F H S σ x y dx dy Q R rx ry P
  unfold dFdiv at P
  split at P
  · split at P
    · rename_i h
      exact ⟨_, _, rx, ry, h, PostE.here (d := .int _) R rfl P⟩
    · exact P.elim
  · exact P.elim
theorem od_pow : OpDs C dPow (rI CPow fun i j => .int (i ^ j.toNat)) := by
  intro W α F H S σ x y dx dy Q R rx ry P
  unfold dPow at P
  split at P
  · split at P
    · rename_i h
      exact ⟨_, _, rx, ry, h, PostE.here (d := .int _) R rfl P⟩
    · exact P.elim
  · exact P.elim
theorem ud_neg : UnDs C dNeg (rU fun i => .int (-i)) := by
  intro W α F H S σ x dx Q R rx P
  unfold dNeg at P
  split at P
  · exact ⟨_, rx, PostE.here (d := .int _) R rfl P⟩
  · exact P.elim
theorem od_rel (g : Int → Int → Bool) : OpDs C (dRel g) (rI0 fun i j => .bl (g i j)) := by
  intro W α F H S σ x y dx dy Q R rx ry P
  unfold dRel at P
  split at P
  · exact ⟨_, _, rx, ry, PostE.here (d := .bl _) R rfl P⟩
  · exact P.elim

/-! ## + and * -/
def dAdd : D → D → M D := fun x y S => match x, y with
  | .int i, .int j => .ok (.int (i + j)) S
  | .str a, .str b => if a.length + b.length ≤ big then .ok (.str (a ++ b)) S else .stuck
  | .lst xs, .lst ys => if xs.length + ys.length ≤ big then .ok (.lst (xs ++ ys)) S else .stuck
  | .tup xs, .tup ys => if xs ≠ [] ∧ xs.length + ys.length ≤ big then .ok (.tup (xs ++ ys)) S else .stuck
  | _, _ => .stuck
def rAddAll (K : PySem.W.Frag) : R2 := fun x y H Q => (rI0 fun i j => .int (i + j)) x y H Q ∨ (rCat x y H Q ∨ (rCatT K x y H Q ∨ ∃ i j, x = .str i ∧ y = .str j ∧ i.length + j.length ≤ sizeLine ∧ Q (.str (i ++ j)) H))
theorem op_addAll {X : Cx} : OpR X (binaryOp .Add) (rAddAll X.K) := op_add.or (op_cat.or (op_catT.or op_add_str))
theorem od_add : OpDs C dAdd (rAddAll C.K) := by
  intro W α F H S σ x y dx dy Q R rx ry P
  unfold dAdd at P
  split at P
  · exact .inl ⟨_, _, rx, ry, PostE.here (d := .int _) R rfl P⟩
  · split at P
    · rename_i h
      exact .inr (.inr (.inr ⟨_, _, rx, ry, le_line h, PostE.here (d := .str _) R rfl P⟩))
    · exact P.elim
  · split at P
    · rename_i xs ys h
      obtain ⟨a, vs, e1, h1, l1⟩ := rx
      obtain ⟨b, ws, e2, h2, l2⟩ := ry
      have z : vs.length + ws.length ≤ sizeLine := by rw [← l1.length, ← l2.length]; exact le_line h
      refine .inr (.inl ⟨a, b, vs, ws, e1, e2, R.sub _ _ h1, R.sub _ _ h2, z, PostE.new R P (nt_lst _) fun p hp => ?_⟩)
      exact ⟨p, _, rfl, upd_same, (l1.app l2).mono (Pre.refl _) (Sub.new (R.fN hp))⟩
    · exact P.elim
  · split at P
    · rename_i xs ys h
      obtain ⟨a, vs, e1, h1, l1⟩ := rx
      obtain ⟨b, ws, e2, h2, l2⟩ := ry
      have z : vs.length + ws.length ≤ sizeLine := by rw [← l1.length, ← l2.length]; exact le_line h.2
      have nv : vs ≠ [] := fun q => h.1 (List.length_eq_zero_iff.mp (by rw [l1.length, q]; rfl))
      refine .inr (.inr (.inl ⟨a, b, vs, ws, e1, e2, SqT.of (R.sub _ _ h1), SqT.of (R.sub _ _ h2), nv, z, fun q => ?_, fun q => ?_⟩))
      · have e : ys = [] := List.length_eq_zero_iff.mp (by rw [l2.length, q]; rfl)
        rw [e, List.append_nil] at P
        exact PostE.here (d := .tup xs) R ⟨a, vs, rfl, h1, l1⟩ P
      · exact PostE.new R P (nt_tup _) fun p hp => ⟨p, _, rfl, upd_same, (l1.app l2).mono (Pre.refl _) (Sub.new (R.fN hp))⟩
    · exact P.elim
  · exact P.elim
def repL {β : Type} (k : Nat) (xs : List β) : List β := (List.replicate k xs).flatten
theorem RpL.rep {α : List Addr} {F : Hp} {ds : List D} {vs : List V} (h : RpL C α F ds vs) : ∀ k, RpL C α F (repL k ds) (repL k vs)
  | 0 => rfl
  | k + 1 => by
    have e : ∀ {β : Type} (l : List β), repL (k + 1) l = l ++ repL k l := fun l => by unfold repL; rw [List.replicate_succ, List.flatten_cons]
    rw [e, e]; exact h.app (RpL.rep h k)
def dMul : D → D → M D := fun x y S => match x, y with
  | .int i, .int j => if (-(2 ^ 64) < i ∧ i < 2 ^ 64) ∨ (-(2 ^ 64) < j ∧ j < 2 ^ 64) then .ok (.int (i * j)) S else .stuck
  | .lst xs, .int k => if k < 1000000 ∧ -1000000 < k ∧ xs.length * k.toNat ≤ big then .ok (.lst (repL k.toNat xs)) S else .stuck
  | _, _ => .stuck
def rMulAll : R2 := fun x y H Q => rI CMul (fun i j => .int (i * j)) x y H Q ∨ rRep x y H Q
theorem op_mulAll {X : Cx} : OpR X (binaryOp .Mult) rMulAll := op_mul.or op_rep
theorem od_mul : OpDs C dMul rMulAll := by
  intro W α F H S σ x y dx dy Q R rx ry P
  unfold dMul at P
  split at P
  · split at P
    · rename_i h
      exact .inl ⟨_, _, rx, ry, h, PostE.here (d := .int _) R rfl P⟩
    · exact P.elim
  · split at P
    · rename_i xs k h
      obtain ⟨a, vs, e1, h1, l1⟩ := rx
      have z : vs.length * k.toNat ≤ sizeLine := by rw [← l1.length]; exact le_line h.2.2
      refine .inr ⟨a, k, vs, e1, ry, R.sub _ _ h1, by omega, by omega, z, PostE.new R P (nt_lst _) fun p hp => ?_⟩
      exact ⟨p, _, rfl, upd_same, (l1.rep k.toNat).mono (Pre.refl _) (Sub.new (R.fN hp))⟩
    · exact P.elim
  · exact P.elim

/-! ## == and != -/
mutual
def toPy (S : Store) : D → Option PyData
  | .non => some .none
  | .bl b => some (.bool b)
  | .int i => some (.int i)
  | .str s => some (.str s)
  | .tup xs => (toPyL S xs).map .tuple
  | .kt xs => (toPyL S xs).map .tuple
  | .lst xs => (toPyL S xs).map .list
  | _ => none
def toPyL (S : Store) : List D → Option (List PyData)
  | [] => some []
  | x :: xs => (toPy S x).bind fun d => (toPyL S xs).map fun ds => d :: ds
end
/-- a region's list, or a plain value -/
def toPyR (S : Store) (d : D) : Option PyData := match d with
  | .reg j => match S[j]? with
    | some (some (.lst xs)) => (toPyL S xs).map .list
    | _ => none
  | d => toPy S d
section
variable {α : List Addr} {F H : Hp} {S : Store}
mutual
theorem dp_of (s : Sub F H) : ∀ (d : D) (v : V) (p : PyData), Rp C α F d v → toPy S d = some p → Dp C.K H v p
  | .non, v, p, r, e => by
    rw [show v = V.non from r]; rw [toPy] at e; cases e; exact .non
  | .bl b, v, p, r, e => by
    rw [show v = V.bl b from r]; rw [toPy] at e; cases e; exact .bl b
  | .int i, v, p, r, e => by
    rw [show v = V.int i from r]; rw [toPy] at e; cases e; exact .int i
  | .str i, v, p, r, e => by
    rw [show v = V.str i from r]; rw [toPy] at e; cases e; exact .str i
  | .tup xs, v, p, ⟨a, vs, ev, h, l⟩, e => by
    subst ev
    rw [toPy] at e
    obtain ⟨ds, h1, h2⟩ := Option.map_eq_some_iff.mp e
    subst h2
    exact .tup (SqT.of (s _ _ h)) (dpl_of s xs vs ds l h1)
  | .kt xs, v, p, ⟨a, vs, ev, h, l⟩, e => by
    subst ev
    rw [toPy] at e
    obtain ⟨ds, h1, h2⟩ := Option.map_eq_some_iff.mp e
    subst h2
    exact .tup (s.sqT h) (dpl_of s xs vs ds l h1)
  | .lst xs, v, p, ⟨a, vs, ev, h, l⟩, e => by
    subst ev
    rw [toPy] at e
    obtain ⟨ds, h1, h2⟩ := Option.map_eq_some_iff.mp e
    subst h2
    exact .lst (SqL.of (s _ _ h)) (dpl_of s xs vs ds l h1)
  | .scr _, _, _, _, e => by rw [toPy] at e <;> first | cases e | (intros; simp_all)
  | .dk _, _, _, _, e => by rw [toPy] at e <;> first | cases e | (intros; simp_all)
  | .dt _, _, _, _, e => by rw [toPy] at e <;> first | cases e | (intros; simp_all)
  | .obj _ _, _, _, _, e => by rw [toPy] at e <;> first | cases e | (intros; simp_all)
  | .exc _ _, _, _, _, e => by rw [toPy] at e <;> first | cases e | (intros; simp_all)
  | .reg _, _, _, _, e => by rw [toPy] at e <;> first | cases e | (intros; simp_all)
  | .cls _, _, _, _, e => by rw [toPy] at e <;> first | cases e | (intros; simp_all)
  | .fn _, _, _, _, e => by rw [toPy] at e <;> first | cases e | (intros; simp_all)
theorem dpl_of (s : Sub F H) : ∀ (d : List D) (v : List V) (p : List PyData), RpL C α F d v → toPyL S d = some p → DpAll C.K H v p
  | [], v, p, r, e => by rw [show v = [] from r]; rw [toPyL] at e; cases e; exact .nil
  | x :: xs, v, p, ⟨w, t, ev, h, l⟩, e => by
    subst ev
    rw [toPyL] at e
    obtain ⟨d, h1, h2⟩ := Option.bind_eq_some_iff.mp e
    obtain ⟨ds, h3, h4⟩ := Option.map_eq_some_iff.mp h2
    subst h4
    exact .cons (dp_of s x w d h h1) (dpl_of s xs t ds l h3)
end
theorem dpr_of (R : Rst C α F H S) {d : D} {v : V} {p : PyData} (r : Rp C α F d v) (e : toPyR S d = some p) : Dp C.K H v p := by
  unfold toPyR at e
  split at e
  · split at e
    · rename_i j xs hj
      obtain ⟨ds, h1, h2⟩ := Option.map_eq_some_iff.mp e
      subst h2
      obtain ⟨a, ev, ha⟩ := r
      obtain ⟨o, _, h3, vs, h4, l⟩ := R.live hj ha
      subst ev; subst h4
      exact .lst (SqL.of h3) (dpl_of R.sub xs vs ds l h1)
    · cases e
  · exact dp_of R.sub _ _ _ r e
end
def dEqB (neg : Bool) : D → D → M D := fun x y S => match toPyR S x, toPyR S y with
  | some d, some e => if SeqAt.shaped d = true ∧ SeqAt.shaped e = true then .ok (.bl (if neg then !PyData.eqv d e else PyData.eqv d e)) S else .stuck
  | _, _ => .stuck
abbrev dEq := dEqB false
abbrev dNe := dEqB true
theorem od_eq : OpDs C dEq (rEqD C.K) := by
  intro W α F H S σ x y dx dy Q R rx ry P
  unfold dEq dEqB at P
  split at P
  · rename_i d e h1 h2
    split at P
    · rename_i h
      exact ⟨d, e, dpr_of R rx h1, dpr_of R ry h2, h.1, h.2, PostE.here (d := .bl _) R rfl P⟩
    · exact P.elim
  · exact P.elim
theorem od_ne : OpDs C dNe (rNeD C.K) := by
  intro W α F H S σ x y dx dy Q R rx ry P
  unfold dNe dEqB at P
  split at P
  · rename_i d e h1 h2
    split at P
    · rename_i h
      exact ⟨d, e, dpr_of R rx h1, dpr_of R ry h2, h.1, h.2, PostE.here (d := .bl _) R rfl P⟩
    · exact P.elim
  · exact P.elim

/-! ## is -/
def isNonD : D → Bool
  | .non => true
  | _ => false
theorem non_iff {α : List Addr} {F : Hp} {d : D} {v : V} (r : Rp C α F d v) : decide (v = .non) = isNonD d := by
  cases d with
  | non => rw [show v = V.non from r]; rfl
  | bl b => rw [show v = V.bl b from r]; rfl
  | int b => rw [show v = V.int b from r]; rfl
  | str b => rw [show v = V.str b from r]; rfl
  | fn i => rcases r with ⟨a, _, e⟩ | ⟨a, _, _, _, e, _⟩ <;> (rw [e]; rfl)
  | tup xs => obtain ⟨a, _, e, _⟩ := r; rw [e]; rfl
  | kt xs => obtain ⟨a, _, e, _⟩ := r; rw [e]; rfl
  | lst xs => obtain ⟨a, _, e, _⟩ := r; rw [e]; rfl
  | scr xs => obtain ⟨a, e, _⟩ := r; rw [e]; rfl
  | dk xs => obtain ⟨a, _, e, _⟩ := r; rw [e]; rfl
  | dt xs => obtain ⟨a, _, e, _⟩ := r; rw [e]; rfl
  | obj c fs => obtain ⟨a, _, _, _, e, _⟩ := r; rw [e]; rfl
  | exc c fs => obtain ⟨a, _, e, _⟩ := r; rw [e]; rfl
  | reg i => obtain ⟨a, e, _⟩ := r; rw [e]; rfl
  | cls i => obtain ⟨a, e, _⟩ := r; rw [e]; rfl
/-- is (neg: is not) None, True, False -/
def dIsB (neg : Bool) : D → D → M D := fun x y S => match y with
  | .non => .ok (.bl (if neg then !isNonD x else isNonD x)) S
  | .bl b => match x with
    | .bl a => .ok (.bl (if neg then !decide (a = b) else decide (a = b))) S
    | _ => .stuck
  | _ => .stuck
abbrev dIs := dIsB false
abbrev dIsNot := dIsB true
def rIsAll : R2 := fun x y H Q => (y = .non ∧ Q (.bl (decide (x = .non))) H) ∨ rIsB x y H Q
def rNotAll : R2 := fun x y H Q => (y = .non ∧ Q (.bl (!decide (x = .non))) H) ∨ rNotB x y H Q
theorem op_isAll {X : Cx} : OpR X (compareOp .Is) rIsAll := op_isN.or op_isBl
theorem op_notAll {X : Cx} : OpR X (compareOp .IsNot) rNotAll := op_notN.or op_notBl
theorem od_is : OpDs C dIs rIsAll := by
  intro W α F H S σ x y dx dy Q R rx ry P
  unfold dIs dIsB at P
  split at P
  · refine .inl ⟨ry, ?_⟩
    rw [non_iff rx]
    exact PostE.here (d := .bl _) R rfl P
  · split at P
    · exact .inr ⟨_, _, rx, ry, PostE.here (d := .bl _) R rfl P⟩
    · exact P.elim
  · exact P.elim
theorem od_isnot : OpDs C dIsNot rNotAll := by
  intro W α F H S σ x y dx dy Q R rx ry P
  unfold dIsNot dIsB at P
  split at P
  · refine .inl ⟨ry, ?_⟩
    rw [non_iff rx]
    exact PostE.here (d := .bl _) R rfl P
  · split at P
    · exact .inr ⟨_, _, rx, ry, PostE.here (d := .bl _) R rfl P⟩
    · exact P.elim
  · exact P.elim

/-! ## displays -/
def dTup : List D → M D := fun ds S => if ds.length ≤ big then .ok (.tup ds) S else .stuck
def dLst : List D → M D := fun ds S => if ds.length ≤ big then .ok (.lst ds) S else .stuck
section
variable {X : Cx} {W : WX} {es : List Expr} {ml : EL} {pos : Pos}
theorem se_tup {k : Nat} (h : SEA X C W es ml) : SE X C W (.Tuple es k pos) (eOfL dTup ml) := by
  refine se_of (pe_tup h.pa) fun σ H Q ⟨α, F, S, env, R, Sl, P⟩ => ⟨α, F, S, env, R, Sl, postE_A P fun ds S1 vs α1 F1 H1 s1 R1 r P1 => ?_⟩
  unfold dTup at P1
  split at P1
  · rename_i h
    refine ⟨by rw [← r.length]; exact le_line h, PostE.new R1 P1 (nt_tup _) fun p hp => ?_⟩
    exact ⟨p, vs, rfl, upd_same, r.mono (Pre.refl _) (Sub.new (R1.fN hp))⟩
  · exact P1.elim
theorem se_lst (h : SEA X C W es ml) : SE X C W (.List es pos) (eOfL dLst ml) := by
  refine se_of (pe_lst h.pa) fun σ H Q ⟨α, F, S, env, R, Sl, P⟩ => ⟨α, F, S, env, R, Sl, postE_A P fun ds S1 vs α1 F1 H1 s1 R1 r P1 => ?_⟩
  unfold dLst at P1
  split at P1
  · rename_i h
    refine ⟨by rw [← r.length]; exact le_line h, PostE.new R1 P1 (nt_lst _) fun p hp => ?_⟩
    exact ⟨p, vs, rfl, upd_same, r.mono (Pre.refl _) (Sub.new (R1.fN hp))⟩
  · exact P1.elim
end
end
end WL
set_option Elab.async false
set_option linter.all false
set_option maxRecDepth 100000
namespace WL
open PySem L2

/-! ## regions: laid, changed, frozen -/
theorem nt_ins {Cc dx : Addr} {fs : List (Str × V)} : notTbl (.ins Cc dx fs) := fun _ z => nomatch z
theorem RpO.nt {C : Ctx} {α : List Addr} {F : Hp} {r : RO} {o : HO} (h : RpO C α F r o) : notTbl o := by
  cases r with
  | lst xs => obtain ⟨_, e, _⟩ := h; rw [e]; exact nt_lst _
  | dk xs => obtain ⟨_, e, _⟩ := h; rw [e]; exact nt_dK _
  | dt xs => obtain ⟨_, e, _⟩ := h; rw [e]; exact nt_dT _
  | ins c fs => obtain ⟨_, _, _, e, _⟩ := h; rw [e]; exact nt_ins
theorem tabs_upd {T : List NdefX.NTab} {F H : Hp} {a : Addr} {o u : HO} (t : TabF T F H) (e : H a = some u) (n : notTbl u) : TabF T F (upd H a o) :=
  t.ext (Sub.refl F) fun b ps q => by rw [upd_ne fun z => n ps (Option.some.inj (e.symm.trans (by rw [← z]; exact q)))]; exact q
theorem RpO.nc {C : Ctx} {α : List Addr} {F : Hp} {r : RO} {o : HO} (h : RpO C α F r o) (c : Addr) (q : Str) : o ≠ LamX.CodeO c q := by
  unfold LamX.CodeO
  cases r with
  | lst xs => obtain ⟨_, e, _⟩ := h; rw [e]; exact fun z => nomatch z
  | dk xs => obtain ⟨_, e, _⟩ := h; rw [e]; exact fun z => nomatch z
  | dt xs => obtain ⟨_, e, _⟩ := h; rw [e]; exact fun z => nomatch z
  | ins c fs => obtain ⟨_, _, _, e, _⟩ := h; rw [e]; exact fun z => nomatch z
section
variable {C : Ctx} {α : List Addr} {F H : Hp} {S : Store} {p a : Addr} {o o' : HO} {r r' : RO} {j : Nat}
theorem Rst.lay (R : Rst C α F H S) (h : H p = none) (r0 : RpO C α F r o) : Rst C (α ++ [p]) F (upd H p o) (S ++ [some r]) := by
  have pn : p ∉ α := fun m => by
    obtain ⟨u, e, _⟩ := R.liv p m
    rw [h] at e; cases e
  refine ⟨fun b u e => ?_, R.nt, ?_, fun b m => ?_, ?_, fun i q e => ?_, R.tab.ext (Sub.refl F) (fun b u e => by rw [upd_ne (ne_of_none e h)]; exact e), R.low, R.lowA.trans (Pre.app α _)⟩
  · have q := R.sub b u e
    rw [upd_ne (ne_of_none q h)]; exact q
  · rw [List.nodup_append]
    refine ⟨R.nd, by simp, fun x hx y hy => ?_⟩
    rw [List.mem_singleton.mp hy]
    exact fun z => pn (z ▸ hx)
  · rcases List.mem_append.mp m with m | m
    · obtain ⟨u, e, t⟩ := R.liv b m
      exact ⟨u, by rw [upd_ne (ne_of_none e h)]; exact e, t⟩
    · rw [List.mem_singleton.mp m]
      exact ⟨o, upd_same, r0.nt⟩
  · rw [List.length_append, List.length_append, R.len]; rfl
  · by_cases hi : i < S.length
    · rw [List.getElem?_append_left hi] at e
      obtain ⟨b, u, h1, h2, h3, h4⟩ := R.reg i q e
      exact ⟨b, u, Pre.app α _ i b h1, h2, by rw [upd_ne (ne_of_none h3 h)]; exact h3, h4.mono (Pre.app α _) (Sub.refl F)⟩
    · rw [List.getElem?_append_right (by omega)] at e
      have hz : i - S.length = 0 := by
        cases q2 : i - S.length with
        | zero => rfl
        | succ n => rw [q2] at e; simp at e
      rw [hz] at e
      simp at e
      subst e
      have hi2 : i = α.length := by rw [← R.len]; omega
      exact ⟨p, o, by rw [hi2]; simp, R.fN h, upd_same, r0.mono (Pre.app α _) (Sub.refl F)⟩
theorem Rst.layStep (R : Rst C α F H S) (h : H p = none) : Step α F H (α ++ [p]) F (upd H p o) :=
  ⟨Pre.app α _, Sub.refl F, fun b u e t n => by
    have q : b ≠ p := ne_of_none e h
    refine ⟨by rw [upd_ne q]; exact e, fun z => z, fun m => ?_⟩
    rcases List.mem_append.mp m with m | m
    · exact n m
    · exact q (List.mem_singleton.mp m)⟩
theorem ix_inj {β : Type} {l : List β} (nd : l.Nodup) {i k : Nat} {x : β} (h1 : l[i]? = some x) (h2 : l[k]? = some x) : i = k := by
  obtain ⟨l1, e1⟩ := List.getElem?_eq_some_iff.mp h1
  obtain ⟨l2, e2⟩ := List.getElem?_eq_some_iff.mp h2
  exact (List.getElem_inj nd).mp (e1.trans e2.symm)
theorem Rst.put (R : Rst C α F H S) (e : S[j]? = some (some r)) (ha : α[j]? = some a) (r1 : RpO C α F r' o') : Rst C α F (upd H a o') (S.set j (some r')) := by
  obtain ⟨o, h2, h3, h4⟩ := R.live e ha
  have hj : j < S.length := (List.getElem?_eq_some_iff.mp e).1
  refine ⟨fun b u q => ?_, R.nt, R.nd, fun b m => ?_, by rw [List.length_set]; exact R.len, fun i q z => ?_, tabs_upd R.tab h3 h4.nt, R.low, R.lowA⟩
  · rw [upd_ne (fun z => by rw [z, h2] at q; cases q)]; exact R.sub b u q
  · by_cases q : b = a
    · rw [q]; exact ⟨o', upd_same, r1.nt⟩
    · rw [upd_ne q]; exact R.liv b m
  · by_cases hi : j = i
    · subst hi
      rw [List.getElem?_set_self hj] at z
      cases z
      exact ⟨a, o', ha, h2, upd_same, r1⟩
    · rw [List.getElem?_set_ne hi] at z
      obtain ⟨b, u, k1, k2, k3, k4⟩ := R.reg i q z
      exact ⟨b, u, k1, k2, by rw [upd_ne (show b ≠ a from fun y => hi (ix_inj R.nd ha (by rw [← y]; exact k1)))]; exact k3, k4⟩
theorem Rst.putStep (R : Rst C α F H S) (ha : α[j]? = some a) : Step α F H α F (upd H a o') :=
  ⟨Pre.refl _, Sub.refl F, fun b u e t n => ⟨by rw [upd_ne (show b ≠ a from fun z => n (by rw [z]; exact List.mem_of_getElem? ha))]; exact e, fun z => z, n⟩⟩
theorem Rst.freeze (R : Rst C α F H S) (e : S[j]? = some (some r)) (ha : α[j]? = some a) (ho : H a = some o) (n : notTbl o) : Rst C α (upd F a o) H (S.set j none) := by
  obtain ⟨o2, h2, h3, h4⟩ := R.live e ha
  refine ⟨fun b u q => ?_, fun b u q => ?_, R.nd, R.liv, by rw [List.length_set]; exact R.len, fun i q z => ?_, R.tab.ext (Sub.new h2) (fun _ _ e => e), R.low.trans (Sub.new h2), R.lowA⟩
  · by_cases y : b = a
    · rw [y] at q ⊢; rw [upd_same] at q; rw [ho]; exact q
    · rw [upd_ne y] at q; exact R.sub b u q
  · by_cases y : b = a
    · rw [y, upd_same] at q; cases q; exact n
    · rw [upd_ne y] at q; exact R.nt b u q
  · by_cases hi : j = i
    · subst hi
      rw [List.getElem?_set_self (List.getElem?_eq_some_iff.mp e).1] at z
      cases z
    · rw [List.getElem?_set_ne hi] at z
      obtain ⟨b, u, k1, k2, k3, k4⟩ := R.reg i q z
      exact ⟨b, u, k1, by rw [upd_ne (show b ≠ a from fun y => hi (ix_inj R.nd ha (by rw [← y]; exact k1)))]; exact k2, k3, k4.mono (Pre.refl _) (Sub.new h2)⟩
theorem Rst.freezeStep (R : Rst C α F H S) (h2 : F a = none) (ha : α[j]? = some a) : Step α F H α (upd F a o) H :=
  ⟨Pre.refl _, Sub.new h2, fun b u e t n => ⟨e, fun z => by rw [upd_ne (show b ≠ a from fun y => n (by rw [y]; exact List.mem_of_getElem? ha))]; exact z, n⟩⟩
/-- a new region's wish -/
theorem PostE.lay {W : WX} {σ : L2.St} {Q : VK} (R : Rst C α F H S) (h : PostE C W α F H σ (.ok (.reg S.length) (S ++ [some r])) Q) (r0 : RpO C α F r o) : ∀ p, H p = none → Q (.ref p) (upd H p o) :=
  fun p hp => h (.ref p) _ _ _ (R.layStep hp) (R.lay hp r0) ⟨p, rfl, by rw [R.len]; simp⟩
/-- a region changed -/
theorem PostE.put {W : WX} {σ : L2.St} {Q : VK} {d : D} {v : V} (R : Rst C α F H S) (e : S[j]? = some (some r)) (ha : α[j]? = some a) (r1 : RpO C α F r' o') (h : PostE C W α F H σ (.ok d (S.set j (some r'))) Q)
    (rv : Rp C α F d v) : Q v (upd H a o') := h v _ _ _ (R.putStep ha) (R.put e ha r1) rv
end

/-! ## lists as regions -/
def dNewL : List D → M D := fun ds S => if ds.length ≤ big then .ok (.reg S.length) (S ++ [some (.lst ds)]) else .stuck
def dAppend : D → D → M D := fun x y S => match x with
  | .reg j => match S[j]? with
    | some (some (.lst xs)) => if xs.length < big then .ok .non (S.set j (some (.lst (xs ++ [y])))) else .stuck
    | _ => .stuck
  | _ => .stuck
def dPop : D → M D := fun x S => match x with
  | .reg j => match S[j]? with
    | some (some (.lst xs)) => match xs[xs.length - 1]? with
      | some y => .ok y (S.set j (some (.lst xs.dropLast)))
      | none => .stuck
    | _ => .stuck
  | _ => .stuck
def dPopAt : D → D → M D := fun x y S => match x, y with
  | .reg j, .int i => match S[j]? with
    | some (some (.lst xs)) => match xs[i.toNat]? with
      | some y => if 0 ≤ i ∧ i < 1000000000 then .ok y (S.set j (some (.lst (xs.eraseIdx i.toNat)))) else .stuck
      | none => .stuck
    | _ => .stuck
  | _, _ => .stuck
/-- the items of a value that can be walked and does not change -/
def itemsOf (S : Store) : D → Option (List D)
  | .lst xs => some xs
  | .tup xs => some xs
  | .kt xs => some xs
  | .scr ns => some (ns.map .int)
  | .reg j => match S[j]? with
    | some (some (.lst xs)) => some xs
    | _ => none
  | _ => none
section
variable {C : Ctx} {X : Cx} {W : WX} {es : List Expr} {ml : EL} {pos : Pos}
theorem se_newL (h : SEA X C W es ml) : SE X C W (.List es pos) (eOfL dNewL ml) := by
  refine se_of (pe_lst h.pa) fun σ H Q ⟨α, F, S, env, R, Sl, P⟩ => ⟨α, F, S, env, R, Sl, postE_A P fun ds S1 vs α1 F1 H1 s1 R1 r P1 => ?_⟩
  unfold dNewL at P1
  split at P1
  · rename_i h
    exact ⟨by rw [← r.length]; exact le_line h, PostE.lay R1 P1 ⟨vs, rfl, r⟩⟩
  · exact P1.elim
/-- methods: the receiver is looked at ahead of the arguments -/
def eMet0 (chk : Store → D → Bool) (op : D → M D) (a : E) : E := fun env S => (a env S).bind fun x S => if chk S x = true then op x S else .stuck
def eMet (chk : Store → D → Bool) (op : D → List D → M D) (a : E) (l : EL) : E := fun env S => (a env S).bind fun x S => if chk S x = true then (l env S).bind fun ys S => op x ys S else .stuck
def isLst (S : Store) : D → Bool
  | .reg j => match S[j]? with
    | some (some (.lst _)) => true
    | _ => false
  | .lst _ => true
  | _ => false
theorem lst_tyV {α : List Addr} {F H : Hp} {S : Store} {d : D} {v : V} (R : Rst C α F H S) (e : isLst S d = true) (r : Rp C α F d v) : tyV C.K "list" v H := by
  unfold isLst at e
  split at e
  · split at e
    · rename_i j _ xs hj
      obtain ⟨a, ev, ha⟩ := r
      obtain ⟨o, _, h3, vs, h4, _⟩ := R.live hj ha
      subst ev; subst h4
      exact .inl ⟨rfl, vs, SqL.of h3⟩
    · cases e
  · obtain ⟨a, vs, ev, h, _⟩ := r
    subst ev
    exact .inl ⟨rfl, vs, SqL.of (R.sub _ _ h)⟩
  · cases e
def MtD (C : Ctx) (op : D → List D → M D) (r : V → List V → Hp → VK → Prop) : Prop := ∀ (W : WX) (α : List Addr) (F H : Hp) (S : Store) (σ : L2.St) (x : V) (ys : List V) (dx : D) (dys : List D) (Q : VK),
  Rst C α F H S → Rp C α F dx x → RpL C α F dys ys → PostE C W α F H σ (op dx dys S) Q → r x ys H Q
variable {o e : Expr} {mo : E} {T id : String} {name : Str} {apos cpos : Pos} {r : V → List V → Hp → VK → Prop} {chk : Store → D → Bool}
theorem se_met {op : D → List D → M D} (hX : X.K = C.K) (pa : PlainAttrs T) (slot : PySem.Slot T name id) (hty : typeOf (.builtin id) = pure (.type "method_descriptor")) (hm : MtR X id r)
    (hc : ∀ {α : List Addr} {F H : Hp} {S : Store} {d : D} {v : V}, Rst C α F H S → chk S d = true → Rp C α F d v → tyV C.K T v H) (hop : MtD C op r) (ho : SE X C W o mo) (ha : SEA X C W (e :: es) ml)
    (hbase : attributeBase o name X.env (eval o X.env) = eval o X.env)
    (hfew : ((backTo cpos (starEach (e :: es) X.env)).all (fun x => !x.1) && (backToKw cpos (keywordEach [] X.env)).all (fun x => x.1.isSome)
      && decide ((e :: es).length + ([] : List Keyword).length + (if ([] : List Keyword).isEmpty then 0 else 1) < 30)) = true)
    (hline : (apos.endLine == cpos.line) = true) (hs : starEach (e :: es) X.env = (false, eval e X.env) :: starEach es X.env) (hplain : (backTo cpos (starEach es X.env)).any (·.1) = false) :
    SE X C W (.Call (.Attribute o name apos) (e :: es) [] cpos) (eMet chk op mo ml) := by
  refine se_of (pe_bm pa slot hty hm ho.pe ha.pa hbase hfew hline hs hplain) fun σ H Q ⟨α, F, S, env, R, Sl, P⟩ => ⟨α, F, S, env, R, Sl, postE_E P fun d S1 v α1 F1 H1 s1 R1 r P1 => ?_⟩
  split at P1
  · rename_i h
    refine ⟨by rw [hX]; exact hc R1 h r, α1, F1, S1, env, R1, Sl.step s1, postE_A P1 fun ds S2 vs α2 F2 H2 s2 R2 rs P2 => ?_⟩
    exact hop W α2 F2 H2 S2 σ v vs d ds Q R2 (r.step s2) rs P2
  · exact P1.elim
theorem se_met0 {op : D → List D → M D} (hX : X.K = C.K) (pa : PlainAttrs T) (slot : PySem.Slot T name id) (hty : typeOf (.builtin id) = pure (.type "method_descriptor")) (hm : MtR X id r)
    (hc : ∀ {α : List Addr} {F H : Hp} {S : Store} {d : D} {v : V}, Rst C α F H S → chk S d = true → Rp C α F d v → tyV C.K T v H) (hop : MtD C op r) (ho : SE X C W o mo)
    (hbase : attributeBase o name X.env (eval o X.env) = eval o X.env) (hline : (apos.endLine == cpos.line) = true) :
    SE X C W (.Call (.Attribute o name apos) [] [] cpos) (eMet0 chk (fun x => op x []) mo) := by
  refine se_of (pe_bm0 pa slot hty hm ho.pe hbase hline) fun σ H Q ⟨α, F, S, env, R, Sl, P⟩ => ⟨α, F, S, env, R, Sl, postE_E P fun d S1 v α1 F1 H1 s1 R1 r P1 => ?_⟩
  split at P1
  · rename_i h
    exact ⟨by rw [hX]; exact hc R1 h r, hop W α1 F1 H1 S1 σ v [] d [] Q R1 r rfl P1⟩
  · exact P1.elim
theorem lastV {α : List Addr} {F : Hp} {ds : List D} {vs : List V} (h : RpL C α F ds vs) : RpL C α F ds.dropLast vs.dropLast := by
  rw [List.dropLast_eq_take, List.dropLast_eq_take, h.length]
  exact h.take _
/-! ### append, pop, extend, insert .. -/
def mAppend : D → List D → M D := fun x ys S => match x, ys with
  | .reg j, [y] => match S[j]? with
    | some (some (.lst xs)) => if xs.length < big then .ok .non (S.set j (some (.lst (xs ++ [y])))) else .stuck
    | _ => .stuck
  | _, _ => .stuck
theorem RpL.one_inv {α : List Addr} {F : Hp} {d : D} {vs : List V} (h : RpL C α F [d] vs) : ∃ v, vs = [v] ∧ Rp C α F d v := by
  obtain ⟨v, r, e, h1, h2⟩ := h
  rw [show r = [] from h2] at e
  exact ⟨v, e, h1⟩
theorem RpL.two_inv {α : List Addr} {F : Hp} {d d' : D} {vs : List V} (h : RpL C α F [d, d'] vs) : ∃ v v', vs = [v, v'] ∧ Rp C α F d v ∧ Rp C α F d' v' := by
  obtain ⟨v, r, e, h1, h2⟩ := h
  obtain ⟨v', e', h3⟩ := RpL.one_inv h2
  exact ⟨v, v', by rw [e, e'], h1, h3⟩
theorem md_append : MtD C mAppend rAppend := by
  intro W α F H S σ x ys dx dys Q R rx rys P
  unfold mAppend at P
  split at P
  · split at P
    · split at P
      · rename_i j y _ xs hj hl
        obtain ⟨w, ew, ry⟩ := rys.one_inv
        obtain ⟨a, ev, ha⟩ := rx
        obtain ⟨o, h2, h3, vs, h4, l⟩ := R.live hj ha
        subst ev; subst h4; subst ew
        exact ⟨a, vs, w, rfl, rfl, h3, by rw [← l.length]; exact lt_line hl, PostE.put (d := .non) (r' := .lst (xs ++ [y])) R hj ha ⟨_, rfl, l.app (RpL.one ry)⟩ P rfl⟩
      · exact P.elim
    · exact P.elim
  · exact P.elim
def mPop : D → List D → M D := fun x ys S => match x, ys with
  | .reg j, [] => match S[j]? with
    | some (some (.lst xs)) => match xs[xs.length - 1]? with
      | some y => .ok y (S.set j (some (.lst xs.dropLast)))
      | none => .stuck
    | _ => .stuck
  | _, _ => .stuck
theorem md_pop : MtD C mPop rPop := by
  intro W α F H S σ x ys dx dys Q R rx rys P
  unfold mPop at P
  split at P
  · split at P
    · split at P
      · rename_i j _ xs hj _ y hy
        obtain ⟨a, ev, ha⟩ := rx
        obtain ⟨o, h2, h3, vs, h4, l⟩ := R.live hj ha
        subst ev; subst h4
        obtain ⟨w, hw, rw'⟩ := l.get hy
        exact ⟨a, vs, w, rfl, rys, h3, by rw [← l.length]; exact hw, PostE.put (r' := .lst xs.dropLast) R hj ha ⟨_, rfl, lastV l⟩ P rw'⟩
      · exact P.elim
    · exact P.elim
  · exact P.elim
def mPopAt : D → List D → M D := fun x ys S => match x, ys with
  | .reg j, [.int i] => match S[j]? with
    | some (some (.lst xs)) => if 0 ≤ i ∧ i < 1000000000 then match xs[i.toNat]? with
      | some y => .ok y (S.set j (some (.lst (xs.eraseIdx i.toNat))))
      | none => .stuck
      else .stuck
    | _ => .stuck
  | _, _ => .stuck
theorem md_popAt : MtD C mPopAt rPopAt := by
  intro W α F H S σ x ys dx dys Q R rx rys P
  unfold mPopAt at P
  split at P
  · split at P
    · split at P
      · split at P
        · rename_i j i _ xs hj hi _ y hy
          obtain ⟨w0, ew, rw0⟩ := rys.one_inv
          obtain ⟨a, ev, ha⟩ := rx
          obtain ⟨o, h2, h3, vs, h4, l⟩ := R.live hj ha
          subst ev; subst h4; subst ew
          rw [show w0 = V.int i from rw0]
          obtain ⟨w, hw, rw'⟩ := l.get hy
          have hlt : i.toNat < vs.length := (List.getElem?_eq_some_iff.mp hw).1
          have e : seqIndex? i vs.length = some i.toNat := PySem.StrLaws.seqIndex_nonneg hi.1 (by omega)
          exact ⟨a, vs, i, i.toNat, w, rfl, rfl, h3, by omega, by omega, e, hw, PostE.put (r' := .lst (xs.eraseIdx i.toNat)) R hj ha ⟨_, rfl, l.erase _⟩ P rw'⟩
        · exact P.elim
      · exact P.elim
    · exact P.elim
  · exact P.elim
/-- one more list's items behind -/
def mExtend : D → List D → M D := fun x ys S => match x, ys with
  | .reg j, [.lst zs] => match S[j]? with
    | some (some (.lst xs)) => if xs.length + zs.length ≤ big then .ok .non (S.set j (some (.lst (xs ++ zs)))) else .stuck
    | _ => .stuck
  | _, _ => .stuck
theorem md_extend : MtD C mExtend rExtend := by
  intro W α F H S σ x ys dx dys Q R rx rys P
  unfold mExtend at P
  split at P
  · split at P
    · split at P
      · rename_i j zs _ xs hj hl
        obtain ⟨w, ew, b, us, eb, hb, lb⟩ := rys.one_inv
        obtain ⟨a, ev, ha⟩ := rx
        obtain ⟨o, h2, h3, vs, h4, l⟩ := R.live hj ha
        subst ev; subst h4; subst ew; subst eb
        exact ⟨a, b, vs, us, rfl, rfl, h3, R.sub _ _ hb, by rw [← l.length, ← lb.length]; exact le_line hl, PostE.put (d := .non) (r' := .lst (xs ++ zs)) R hj ha ⟨_, rfl, l.app lb⟩ P rfl⟩
      · exact P.elim
    · exact P.elim
  · exact P.elim

/-! ## o[i] -/
def dIdxN (n : Nat) (i : Int) : Option Nat := if 0 ≤ i then (if i < n then some i.toNat else none) else if -(n : Int) ≤ i then some (i + n).toNat else none
/-- a key of a dict: a number or a text; several in a tuple -/
def keyD : D → Option Key
  | .int i => some (.inl i)
  | .str s => some (.inr s)
  | _ => none
def keysD : D → Option (List Key)
  | .tup xs => xs.mapM keyD
  | _ => none
def lookD {κ : Type} [DecidableEq κ] (kvs : List (κ × D)) (k : κ) : Option D := (kvs.find? fun kv => decide (kv.1 = k)).map (·.2)
def orStuck {β : Type} (o : Option β) (S : Store) : Res β := match o with
  | some d => .ok d S
  | none => .stuck
def listOf (S : Store) : D → Option (List D)
  | .lst xs => some xs
  | .tup xs => some xs
  | .kt xs => some xs
  | .reg j => match S[j]? with
    | some (some (.lst xs)) => some xs
    | _ => none
  | _ => none
def dkOf (S : Store) : D → Option (List (Key × D))
  | .dk xs => some xs
  | .reg j => match S[j]? with
    | some (some (.dk xs)) => some xs
    | _ => none
  | _ => none
def dtOf (S : Store) : D → Option (List (List Key × D))
  | .dt xs => some xs
  | .reg j => match S[j]? with
    | some (some (.dt xs)) => some xs
    | _ => none
  | _ => none
def dIdx : D → D → M D := fun x y S => match listOf S x with
  | some xs => match y with
    | .int i => orStuck ((ixN xs.length i).bind fun j => xs[j]?) S
    | _ => .stuck
  | none => match dkOf S x with
    | some kvs => orStuck ((keyD y).bind fun k => lookD kvs k) S
    | none => match dtOf S x with
      | some kvs => orStuck ((keysD y).bind fun k => lookD kvs k) S
      | none => .stuck
theorem listOf_of {α : List Addr} {F H : Hp} {S : Store} {d : D} {v : V} {xs : List D} (R : Rst C α F H S) (r : Rp C α F d v) (e : listOf S d = some xs) : ∃ a vs, v = .ref a ∧ (SqL C.K H a vs ∨ SqT C.K H a vs) ∧ RpL C α F xs vs := by
  unfold listOf at e
  split at e
  · cases e
    obtain ⟨a, vs, ev, h, l⟩ := r
    exact ⟨a, vs, ev, .inl (SqL.of (R.sub _ _ h)), l⟩
  · cases e
    obtain ⟨a, vs, ev, h, l⟩ := r
    exact ⟨a, vs, ev, .inr (SqT.of (R.sub _ _ h)), l⟩
  · cases e
    obtain ⟨a, vs, ev, h, l⟩ := r
    exact ⟨a, vs, ev, .inr (R.sub.sqT h), l⟩
  · split at e
    · rename_i j _ ys hj
      cases e
      obtain ⟨a, ev, ha⟩ := r
      obtain ⟨o, h2, h3, vs, h4, l⟩ := R.live hj ha
      subst h4
      exact ⟨a, vs, ev, .inl (SqL.of h3), l⟩
    · cases e
  · cases e
theorem dkOf_of {α : List Addr} {F H : Hp} {S : Store} {d : D} {v : V} {xs : List (Key × D)} (R : Rst C α F H S) (r : Rp C α F d v) (e : dkOf S d = some xs) : ∃ a vs, v = .ref a ∧ H a = some (.dK vs) ∧ RpK C α F xs vs := by
  unfold dkOf at e
  split at e
  · cases e
    obtain ⟨a, vs, ev, h, l⟩ := r
    exact ⟨a, vs, ev, R.sub _ _ h, l⟩
  · split at e
    · rename_i j _ ys hj
      cases e
      obtain ⟨a, ev, ha⟩ := r
      obtain ⟨o, h2, h3, vs, h4, l⟩ := R.live hj ha
      subst h4
      exact ⟨a, vs, ev, h3, l⟩
    · cases e
  · cases e
theorem dtOf_of {α : List Addr} {F H : Hp} {S : Store} {d : D} {v : V} {xs : List (List Key × D)} (R : Rst C α F H S) (r : Rp C α F d v) (e : dtOf S d = some xs) : ∃ a vs, v = .ref a ∧ H a = some (.dT vs) ∧ RpT C α F xs vs := by
  unfold dtOf at e
  split at e
  · cases e
    obtain ⟨a, vs, ev, h, l⟩ := r
    exact ⟨a, vs, ev, R.sub _ _ h, l⟩
  · split at e
    · rename_i j _ ys hj
      cases e
      obtain ⟨a, ev, ha⟩ := r
      obtain ⟨o, h2, h3, vs, h4, l⟩ := R.live hj ha
      subst h4
      exact ⟨a, vs, ev, h3, l⟩
    · cases e
  · cases e
theorem valV_of {α : List Addr} {F : Hp} {k : Key} : ∀ {kvs : List (Key × D)} {ws : List (Key × V)}, RpK C α F kvs ws → (lookD kvs k = none → valV ws k = none) ∧ ∀ d, lookD kvs k = some d → ∃ v, valV ws k = some v ∧ Rp C α F d v
  | [], _, h => by rw [show _ = [] from h]; exact ⟨fun _ => rfl, fun d e => by cases e⟩
  | (k', d') :: r, _, ⟨v, t, e, h, l⟩ => by
    subst e
    by_cases q : k' = k
    · rw [valV_pos (p := (k', v)) q]
      have z : lookD ((k', d') :: r) k = some d' := by simp [lookD, List.find?_cons, q]
      rw [z]
      exact ⟨fun e => (by cases e), fun d e => (by cases e; exact ⟨v, rfl, h⟩)⟩
    · rw [valV_neg (p := (k', v)) q]
      have z : lookD ((k', d') :: r) k = lookD r k := by simp [lookD, List.find?_cons, q]
      rw [z]
      exact valV_of l
theorem valT_of {α : List Addr} {F : Hp} {k : List Key} : ∀ {kvs : List (List Key × D)} {ws : List (List Key × V)}, RpT C α F kvs ws → (lookD kvs k = none → valV ws k = none) ∧ ∀ d, lookD kvs k = some d → ∃ v, valV ws k = some v ∧ Rp C α F d v
  | [], _, h => by rw [show _ = [] from h]; exact ⟨fun _ => rfl, fun d e => by cases e⟩
  | (k', d') :: r, _, ⟨v, t, e, h, l⟩ => by
    subst e
    by_cases q : k' = k
    · rw [valV_pos (p := (k', v)) q]
      have z : lookD ((k', d') :: r) k = some d' := by simp [lookD, List.find?_cons, q]
      rw [z]
      exact ⟨fun e => (by cases e), fun d e => (by cases e; exact ⟨v, rfl, h⟩)⟩
    · rw [valV_neg (p := (k', v)) q]
      have z : lookD ((k', d') :: r) k = lookD r k := by simp [lookD, List.find?_cons, q]
      rw [z]
      exact valT_of l
theorem keyD_of {α : List Addr} {F : Hp} {d : D} {v : V} {k : Key} (r : Rp C α F d v) (e : keyD d = some k) : v = kV k := by
  cases d <;> first | (unfold keyD at e; cases e; exact r) | cases e
theorem keysD_l {α : List Addr} {F : Hp} : ∀ {ds : List D} {vs : List V} {ks : List Key}, RpL C α F ds vs → ds.mapM keyD = some ks → vs = ks.map kV
  | [], _, _, h, e => by
    rw [show _ = [] from h]
    simp at e
    subst e; rfl
  | d :: ds, _, ks, ⟨v, t, ev, h, l⟩, e => by
    subst ev
    simp only [List.mapM_cons, Option.bind_eq_bind, Option.bind_eq_some_iff, Option.pure_def, Option.some.injEq] at e
    obtain ⟨k, h1, ks', h2, h3⟩ := e
    subst h3
    rw [List.map_cons, keyD_of h h1, keysD_l l h2]
/-- a tuple that is a key must be a tracked tuple -/
theorem keysD_of {α : List Addr} {F : Hp} {d : D} {v : V} {ks : List Key} (r : Rp C α F d v) (e : keysD d = some ks) : ∃ a vs, v = .ref a ∧ F a = some (.tup vs) ∧ vs = ks.map kV := by
  cases d <;> first | cases e | skip
  obtain ⟨a, vs, ev, h, l⟩ := r
  exact ⟨a, vs, ev, h, keysD_l l e⟩
end
end WL
set_option Elab.async false
set_option linter.all false
set_option maxRecDepth 100000
namespace WL
open PySem L2
section
variable {C : Ctx} {X : Cx} {W : WX} {es : List Expr} {ml : EL} {pos : Pos} {a b : Expr} {ma mb : E}

/-! ## o[i] -/
def rIxD : R2 := fun x y H Q => ∃ a v, x = .ref a ∧ DGet H a y (some v) ∧ Q v H
theorem ix_dct (hu : X.A.units + 1 < cLine) : IxR X rIxD := by
  intro value slice pins s σ H x y v u Q I rx ry h hs
  obtain ⟨d, w, ex, g, q⟩ := h
  subst ex
  obtain rfl : v = Value.ref d := rx
  exact PyProof.Rows.tail_any (dict_typeIs I g) PySem.F.slot_dict_getitem.lookup (d_getItem hu I g ry fun w' s3 I3 rw' => ⟨w, H, I3, rw', q⟩) hs
def rIxAll (K : PySem.W.Frag) : R2 := fun x y H Q => rIxL K x y H Q ∨ (rIxT K x y H Q ∨ rIxD x y H Q)
theorem ix_all (hu : X.A.units + 1 < cLine) : IxR X (rIxAll X.K) := ix_list.or (ix_tup.or (ix_dct hu))
theorem od_idx : OpDs C dIdx (rIxAll C.K) := by
  intro W α F H S σ x y dx dy Q R rx ry P
  unfold dIdx orStuck at P
  split at P
  · rename_i xs hx
    obtain ⟨p, vs, ev, hq, l⟩ := listOf_of R rx hx
    split at P
    · split at P
      · rename_i i _ d hd
        obtain ⟨j, h1, h2⟩ := Option.bind_eq_some_iff.mp hd
        obtain ⟨v, h3, r⟩ := l.get h2
        have at_ : atI vs i = some v := by
          unfold atI
          rw [← l.length, h1]; exact h3
        rcases hq with hq | hq
        · exact .inl ⟨p, vs, i, v, ev, ry, hq, at_, PostE.here R r P⟩
        · exact .inr (.inl ⟨p, vs, i, v, ev, ry, hq, at_, PostE.here R r P⟩)
      · exact P.elim
    · exact P.elim
  · split at P
    · rename_i kvs hk
      obtain ⟨p, ws, ev, hq, l⟩ := dkOf_of R rx hk
      split at P
      · rename_i d hd
        obtain ⟨k, h1, h2⟩ := Option.bind_eq_some_iff.mp hd
        obtain ⟨v, h3, r⟩ := (valV_of l).2 d h2
        refine .inr (.inr ⟨p, v, ev, ?_, PostE.here R r P⟩)
        rw [keyD_of ry h1, ← h3]
        exact DGet.k hq
      · exact P.elim
    · split at P
      · rename_i kvs hk
        obtain ⟨p, ws, ev, hq, l⟩ := dtOf_of R rx hk
        split at P
        · rename_i d hd
          obtain ⟨k, h1, h2⟩ := Option.bind_eq_some_iff.mp hd
          obtain ⟨v, h3, r⟩ := (valT_of l).2 d h2
          obtain ⟨q, ts, eq, ht, et⟩ := keysD_of ry h1
          subst et
          refine .inr (.inr ⟨p, v, ev, ?_, PostE.here R r P⟩)
          rw [eq, ← h3]
          exact DGet.t hq (R.sub _ _ ht)
        · exact P.elim
      · exact P.elim
theorem se_ix (hX : X.K = C.K) (hu : X.A.units + 1 < cLine) (ha : SE X C W a ma) (hb : SE X C W b mb) (hs : PlainIx b) : SE X C W (.Subscript a b pos) (eBin dIdx ma mb) :=
  se_of (pe_ix (ix_all hu) ha.pe hb.pe hs) fun _ _ _ h => by rw [hX]; exact bin_run od_idx h

/-! ## slices of lists and tuples -/
structure SEO (X : Cx) (C : Ctx) (W : WX) (e : Option Expr) (m : Env → Store → Res (Option Int)) : Prop where
  po : PO X e (fun σ H Q => ∃ α F S env, Rst C α F H S ∧ Slots C α F σ env ∧ PostG C W α F H σ (m env S) fun o _ _ H' _ => Q o H')
def oNone : Env → Store → Res (Option Int) := fun _ S => .ok none S
def oSome (a : E) : Env → Store → Res (Option Int) := fun env S => (a env S).bind fun d S => match d with
  | .int i => .ok (some i) S
  | _ => .stuck
theorem PO_imp {e : Option Expr} {t t' : TO} (h : PO X e t) (k : ∀ σ H Q, t' σ H Q → t σ H Q) : PO X e t' := ⟨fun pins s σ H Q I q => h.run pins s σ H Q I (k σ H Q q)⟩
theorem so_none : SEO X C W none oNone := ⟨PO_imp po_none fun σ H Q ⟨α, F, S, env, R, Sl, P⟩ => P α F H (Step.refl _ _ _) R⟩
theorem so_some (h : SE X C W a ma) : SEO X C W (some a) (oSome ma) := by
  refine ⟨PO_imp (po_some h.pe) fun σ H Q ⟨α, F, S, env, R, Sl, P⟩ => ⟨α, F, S, env, R, Sl, ?_⟩⟩
  unfold oSome at P
  cases e : ma env S with
  | ok d S1 =>
    rw [e] at P
    intro v α1 F1 H1 s1 R1 r1
    cases d <;> first | exact P.elim | skip
    exact ⟨_, r1, P α1 F1 H1 s1 R1⟩
  | exc x S1 => rw [e] at P; exact P
  | stuck => rw [e] at P; exact P
def cutD (xs : List D) (lo hi : Option Int) : List D := (xs.drop (HT.sIx xs.length 0 lo)).take (HT.sIx xs.length xs.length hi - HT.sIx xs.length 0 lo)
theorem cut_rp {α : List Addr} {F : Hp} {ds : List D} {vs : List V} (h : RpL C α F ds vs) (lo hi : Option Int) : RpL C α F (cutD ds lo hi) (cutV vs lo hi) := by
  unfold cutD cutV
  rw [h.length]
  exact (h.drop _).take _
/-- the whole of a tuple is not asked for here -/
def dSlice (x : D) (lo hi : Option Int) : M D := fun S => match x with
  | .lst xs => .ok (.lst (cutD xs lo hi)) S
  | .tup xs => if HT.sIx xs.length 0 lo = 0 ∧ HT.sIx xs.length xs.length hi = xs.length then .stuck else .ok (.tup (cutD xs lo hi)) S
  | .reg j => match S[j]? with
    | some (some (.lst xs)) => .ok (.lst (cutD xs lo hi)) S
    | _ => .stuck
  | _ => .stuck
def eSlice (a : E) (lo hi : Env → Store → Res (Option Int)) : E := fun env S => (a env S).bind fun x S => (lo env S).bind fun l S => (hi env S).bind fun h S => dSlice x l h S
def rSlAll (K : PySem.W.Frag) : V → Option Int → Option Int → Hp → VK → Prop := fun x lo hi H Q => rSlL K x lo hi H Q ∨ rSlT K x lo hi H Q
theorem postG_bind {β γ : Type} {r : Res β} {k : β → Store → Res γ} {α : List Addr} {F H : Hp} {σ : L2.St} {G : γ → List Addr → Hp → Hp → Store → Prop} {G' : β → List Addr → Hp → Hp → Store → Prop} (h : PostG C W α F H σ (r.bind k) G)
    (g : ∀ d S' α' F' H', Step α F H α' F' H' → Rst C α' F' H' S' → PostG C W α F H σ (k d S') G → G' d α' F' H' S') : PostG C W α F H σ r G' := by
  cases r with
  | ok d S' => exact fun α' F' H' s R' => g d S' α' F' H' s R' h
  | exc e S' => exact h
  | stuck => exact h
theorem sl_rule {α : List Addr} {F H : Hp} {S : Store} {σ : L2.St} {x : V} {dx : D} {lo hi : Option Int} {Q : VK} (R : Rst C α F H S) (rx : Rp C α F dx x) (P : PostE C W α F H σ (dSlice dx lo hi S) Q) : rSlAll C.K x lo hi H Q := by
  unfold dSlice at P
  split at P
  · rename_i xs
    obtain ⟨p, vs, ev, h, l⟩ := rx
    exact .inl ⟨p, vs, ev, SqL.of (R.sub _ _ h), PostE.new R P (nt_lst _) fun q hq => ⟨q, _, rfl, upd_same, (cut_rp l lo hi).mono (Pre.refl _) (Sub.new (R.fN hq))⟩⟩
  · rename_i xs
    split at P
    · exact P.elim
    · rename_i hn
      obtain ⟨p, vs, ev, h, l⟩ := rx
      exact .inr ⟨p, vs, ev, SqT.of (R.sub _ _ h), by rw [← l.length]; exact hn, PostE.new R P (nt_tup _) fun q hq => ⟨q, _, rfl, upd_same, (cut_rp l lo hi).mono (Pre.refl _) (Sub.new (R.fN hq))⟩⟩
  · split at P
    · rename_i j _ xs hj
      obtain ⟨p, ev, ha⟩ := rx
      obtain ⟨o, h2, h3, vs, h4, l⟩ := R.live hj ha
      subst h4
      exact .inl ⟨p, vs, ev, SqL.of h3, PostE.new R P (nt_lst _) fun q hq => ⟨q, _, rfl, upd_same, (cut_rp l lo hi).mono (Pre.refl _) (Sub.new (R.fN hq))⟩⟩
    · exact P.elim
  · exact P.elim
theorem se_slice {lo hi : Option Expr} {mlo mhi : Env → Store → Res (Option Int)} {p2 : Pos} (hX : X.K = C.K) (ha : SE X C W a ma) (hl : SEO X C W lo mlo) (hh : SEO X C W hi mhi) : SE X C W (.Subscript a (.Slice lo hi none p2) pos) (eSlice ma mlo mhi) := by
  refine se_of (pe_slice (sl_list.or sl_tup) ha.pe hl.po hh.po) fun σ H Q ⟨α, F, S, env, R, Sl, P⟩ => ⟨α, F, S, env, R, Sl, postE_E P fun d S1 v α1 F1 H1 s1 R1 r P1 => ⟨α1, F1, S1, env, R1, Sl.step s1, ?_⟩⟩
  cases e : mlo env S1 with
  | ok l S2 =>
    rw [e] at P1
    intro α2 F2 H2 s2 R2
    refine ⟨α2, F2, S2, env, R2, (Sl.step s1).step s2, ?_⟩
    have P2 := PostE.step s2 P1
    cases e2 : mhi env S2 with
    | ok h S3 =>
      simp only [Res.bind, e2] at P2
      intro α3 F3 H3 s3 R3
      rw [hX]
      exact sl_rule R3 ((r.step s2).step s3) (PostE.step s3 P2)
    | exc x S3 => simp only [Res.bind, e2] at P2; exact P2
    | stuck => simp only [Res.bind, e2] at P2; exact P2
  | exc x S2 => rw [e] at P1; exact P1
  | stuck => rw [e] at P1; exact P1
end
end WL
set_option Elab.async false
set_option linter.all false
set_option maxRecDepth 100000
namespace WL
open PySem L2
section
variable {C : Ctx} {X : Cx} {W : WX} {e : Expr} {es : List Expr} {ml : EL} {p pos : Pos} {a b : Expr} {ma mb : E} {x : Str} {id T : String} {r : List V → Hp → VK → Prop}
/-! ## built-ins by their names -/
theorem se_callB {op : List D → M D} (hc : CallR X (.builtin id) r) (hop : LDs C op r) (hg : Gl X x) (hm : X.mg x = none) (hv : bootBuiltins x = some (.builtin id)) (ha : SEA X C W (e :: es) ml) (hn : x ≠ "__name__") (hdb : (x == ("__debug__" : Str)) = false)
    (he : starEach (e :: es) X.env = (false, eval e X.env) :: starEach es X.env) (hpl : (backTo pos (starEach es X.env)).any (·.1) = false) : SE X C W (.Call (.Name x p) (e :: es) [] pos) (eOfL op ml) :=
  se_of (pe_callB hc hg hm hv ha.pa hn hdb he hpl) fun σ H Q ⟨α, F, S, env, R, Sl, P⟩ => ⟨α, F, S, env, R, Sl, postE_A P fun ds S1 vs α1 F1 H1 s1 R1 r P1 => hop W α1 F1 H1 S1 σ vs ds Q R1 r P1⟩
theorem se_callT {op : List D → M D} (hc : CallR X (.type T) r) (hop : LDs C op r) (hg : Gl X x) (hm : X.mg x = none) (hv : bootBuiltins x = some (.type T)) (ha : SEA X C W (e :: es) ml) (hn : x ≠ "__name__") (hdb : (x == ("__debug__" : Str)) = false)
    (he : starEach (e :: es) X.env = (false, eval e X.env) :: starEach es X.env) (hpl : (backTo pos (starEach es X.env)).any (·.1) = false) : SE X C W (.Call (.Name x p) (e :: es) [] pos) (eOfL op ml) :=
  se_of (pe_callTy hc hg hm hv ha.pa hn hdb he hpl) fun σ H Q ⟨α, F, S, env, R, Sl, P⟩ => ⟨α, F, S, env, R, Sl, postE_A P fun ds S1 vs α1 F1 H1 s1 R1 r P1 => hop W α1 F1 H1 S1 σ vs ds Q R1 r P1⟩
/-- len -/
def lenOf (S : Store) (d : D) : Option Nat := match d with
  | .str s => if s.length ≤ big then some s.length else none
  | .scr ns => some ns.length
  | d => match listOf S d with
    | some xs => some xs.length
    | none => match dkOf S d with
      | some kvs => some kvs.length
      | none => match dtOf S d with
        | some kvs => some kvs.length
        | none => none
def bLen : List D → M D := fun ds S => match ds with
  | [d] => match lenOf S d with
    | some n => .ok (.int n) S
    | none => .stuck
  | _ => .stuck
def rLenD : List V → Hp → VK → Prop := fun xs H Q => ∃ a kvs, xs = [.ref a] ∧ H a = some (.dK kvs) ∧ Q (.int kvs.length) H
theorem call_lenDct : CallR X (.builtin "len") rLenD := by
  intro pins s σ H xs us Q I r h
  obtain ⟨d, kvs, rfl, hd, q⟩ := h
  obtain ⟨u, rfl, r1⟩ := vals1 r
  obtain rfl : u = Value.ref d := r1
  exact d_len I (.inl hd) fun t s' J => ⟨.int kvs.length, H, J, ⟨t, rfl⟩, q⟩
def rLenAll (K : PySem.W.Frag) : List V → Hp → VK → Prop := fun xs H Q => (∃ x n, xs = [x] ∧ LenV K x H n ∧ Q (.int n) H) ∨ (rLenD xs H Q ∨ rLenT xs H Q)
theorem call_lenAll : CallR X (.builtin "len") (rLenAll X.K) := call_len.or (call_lenDct.or call_len_dT)
theorem RpK.length {α : List Addr} {F : Hp} : ∀ {ds : List (Key × D)} {vs : List (Key × V)}, RpK C α F ds vs → ds.length = vs.length
  | [], _, h => by rw [show _ = [] from h]; rfl
  | (_, _) :: _, _, ⟨_, _, e, _, t⟩ => by rw [e, List.length_cons, List.length_cons, RpK.length t]
theorem RpT.length {α : List Addr} {F : Hp} : ∀ {ds : List (List Key × D)} {vs : List (List Key × V)}, RpT C α F ds vs → ds.length = vs.length
  | [], _, h => by rw [show _ = [] from h]; rfl
  | (_, _) :: _, _, ⟨_, _, e, _, t⟩ => by rw [e, List.length_cons, List.length_cons, RpT.length t]
theorem ld_len : LDs C bLen (rLenAll C.K) := by
  intro W α F H S σ xs ds Q R rs P
  unfold bLen at P
  split at P
  · rename_i d
    obtain ⟨v, ev, rd⟩ := rs.one_inv
    subst ev
    split at P
    · rename_i _ n hn
      unfold lenOf at hn
      split at hn
      · split at hn
        · rename_i h
          cases hn
          rw [show v = V.str _ from rd]
          exact .inl ⟨_, _, rfl, ⟨le_line h, rfl⟩, PostE.here (d := .int _) R rfl P⟩
        · cases hn
      · rename_i ns
        cases hn
        obtain ⟨a, ev, h⟩ := rd
        subst ev
        exact .inl ⟨_, _, rfl, .inl ⟨_, R.sub.sqL h, by rw [List.length_map]⟩, PostE.here (d := .int _) R rfl P⟩
      · split at hn
        · rename_i ys hy
          cases hn
          obtain ⟨a, vs, ev, hq, l⟩ := listOf_of R rd hy
          subst ev
          exact .inl ⟨_, _, rfl, hq.elim (fun h => .inl ⟨vs, h, l.length⟩) fun h => .inr ⟨vs, h, l.length⟩, PostE.here (d := .int _) R rfl P⟩
        · split at hn
          · rename_i ks hk
            cases hn
            obtain ⟨a, vs, ev, hq, l⟩ := dkOf_of R rd hk
            subst ev
            exact .inr (.inl ⟨a, vs, rfl, hq, by rw [← l.length]; exact PostE.here (d := .int _) R rfl P⟩)
          · split at hn
            · rename_i ks hk
              cases hn
              obtain ⟨a, vs, ev, hq, l⟩ := dtOf_of R rd hk
              subst ev
              exact .inr (.inr ⟨a, vs, rfl, hq, by rw [← l.length]; exact PostE.here (d := .int _) R rfl P⟩)
            · cases hn
    · exact P.elim
  · exact P.elim
/-- abs, min, max of two, int -/
def bAbs : List D → M D := fun ds S => match ds with
  | [.int i] => .ok (.int (if i < 0 then -i else i)) S
  | _ => .stuck
theorem ld_abs : LDs C bAbs (fun xs H Q => ∃ i, xs = [.int i] ∧ Q (.int (if i < 0 then -i else i)) H) := by
  intro W α F H S σ xs ds Q R rs P
  unfold bAbs at P
  split at P
  · obtain ⟨v, ev, rd⟩ := rs.one_inv
    subst ev
    exact ⟨_, by rw [show v = V.int _ from rd], PostE.here (d := .int _) R rfl P⟩
  · exact P.elim
def bMax2 : List D → M D := fun ds S => match ds with
  | [.int i, .int j] => .ok (.int (if j > i then j else i)) S
  | _ => .stuck
theorem ld_max2 : LDs C bMax2 (fun xs H Q => ∃ i j, xs = [.int i, .int j] ∧ Q (.int (if j > i then j else i)) H) := by
  intro W α F H S σ xs ds Q R rs P
  unfold bMax2 at P
  split at P
  · obtain ⟨v, w, ev, rd, re⟩ := rs.two_inv
    subst ev
    exact ⟨_, _, by rw [show v = V.int _ from rd, show w = V.int _ from re], PostE.here (d := .int _) R rfl P⟩
  · exact P.elim
def bMin2 : List D → M D := fun ds S => match ds with
  | [.int i, .int j] => .ok (.int (if j < i then j else i)) S
  | _ => .stuck
theorem ld_min2 : LDs C bMin2 (fun xs H Q => ∃ i j, xs = [.int i, .int j] ∧ Q (.int (if j < i then j else i)) H) := by
  intro W α F H S σ xs ds Q R rs P
  unfold bMin2 at P
  split at P
  · obtain ⟨v, w, ev, rd, re⟩ := rs.two_inv
    subst ev
    exact ⟨_, _, by rw [show v = V.int _ from rd, show w = V.int _ from re], PostE.here (d := .int _) R rfl P⟩
  · exact P.elim
def bInt : List D → M D := fun ds S => match ds with
  | [.int i] => .ok (.int i) S
  | [.bl k] => .ok (.int (if k then 1 else 0)) S
  | _ => .stuck
theorem ld_int : LDs C bInt (fun xs H Q => (∃ i, xs = [.int i] ∧ Q (.int i) H) ∨ ∃ k, xs = [.bl k] ∧ Q (.int (if k then 1 else 0)) H) := by
  intro W α F H S σ xs ds Q R rs P
  unfold bInt at P
  split at P
  · obtain ⟨v, ev, rd⟩ := rs.one_inv
    subst ev
    exact .inl ⟨_, by rw [show v = V.int _ from rd], PostE.here (d := .int _) R rfl P⟩
  · obtain ⟨v, ev, rd⟩ := rs.one_inv
    subst ev
    exact .inr ⟨_, by rw [show v = V.bl _ from rd], PostE.here (d := .int _) R rfl P⟩
  · exact P.elim
/-- tuple(xs), list(xs) -/
def bTuple : List D → M D := fun ds S => match ds with
  | [.tup xs] => .ok (.tup xs) S
  | [.kt xs] => .ok (.kt xs) S
  | [d] => match listOf S d with
    | some xs => .ok (.tup xs) S
    | none => .stuck
  | _ => .stuck
def rTupleOf (K : PySem.W.Frag) : List V → Hp → VK → Prop := fun xs H Q => ∃ p ys, xs = [.ref p] ∧ ((SqL K H p ys ∧ ∀ l, H l = none → Q (.ref l) (upd H l (.tup ys))) ∨ (SqT K H p ys ∧ Q (.ref p) H))
theorem ld_tuple : LDs C bTuple (rTupleOf C.K) := by
  intro W α F H S σ xs ds Q R rs P
  unfold bTuple at P
  split at P
  · obtain ⟨v, ev, a, vs, ea, h, l⟩ := rs.one_inv
    subst ev; subst ea
    exact ⟨a, vs, rfl, .inr ⟨SqT.of (R.sub _ _ h), PostE.here (d := .tup _) R ⟨a, vs, rfl, h, l⟩ P⟩⟩
  · obtain ⟨v, ev, a, vs, ea, h, l⟩ := rs.one_inv
    subst ev; subst ea
    exact ⟨a, vs, rfl, .inr ⟨R.sub.sqT h, PostE.here (d := .kt _) R ⟨a, vs, rfl, h, l⟩ P⟩⟩
  · rename_i d n1 n2
    obtain ⟨v, ev, rd⟩ := rs.one_inv
    subst ev
    split at P
    · rename_i _ ys hy
      obtain ⟨a, vs, ev, hq, l⟩ := listOf_of R rd hy
      subst ev
      have new := PostE.new R P (nt_tup vs) fun q hq => ⟨q, _, rfl, upd_same, l.mono (Pre.refl _) (Sub.new (R.fN hq))⟩
      rcases hq with hq | hq
      · exact ⟨a, vs, rfl, .inl ⟨hq, new⟩⟩
      · unfold listOf at hy
        split at hy
        · obtain ⟨a', vs', e', h', l'⟩ := rd
          cases e'
          cases hy
          exact ⟨a, vs', rfl, .inl ⟨SqL.of (R.sub _ _ h'), PostE.new R P (nt_tup _) fun q hq => ⟨q, _, rfl, upd_same, l'.mono (Pre.refl _) (Sub.new (R.fN hq))⟩⟩⟩
        · exact (n1 _ rfl).elim
        · exact (n2 _ rfl).elim
        · split at hy
          · rename_i j _ zs hj
            cases hy
            obtain ⟨a', e', ha⟩ := rd
            cases e'
            obtain ⟨o, h2, h3, vs', h4, l'⟩ := R.live hj ha
            subst h4
            exact ⟨a, vs', rfl, .inl ⟨SqL.of h3, PostE.new R P (nt_tup _) fun q hq => ⟨q, _, rfl, upd_same, l'.mono (Pre.refl _) (Sub.new (R.fN hq))⟩⟩⟩
          · cases hy
        · cases hy
    · exact P.elim
  · exact P.elim
def bList : List D → M D := fun ds S => match ds with
  | [d] => match listOf S d with
    | some xs => .ok (.lst xs) S
    | none => .stuck
  | _ => .stuck
/-- .. as a region -/
def bListR : List D → M D := fun ds S => match ds with
  | [d] => match listOf S d with
    | some xs => .ok (.reg S.length) (S ++ [some (.lst xs)])
    | none => .stuck
  | _ => .stuck
def rListOf (K : PySem.W.Frag) : List V → Hp → VK → Prop := fun xs H Q => ∃ p ys, xs = [.ref p] ∧ (SqL K H p ys ∨ SqT K H p ys) ∧ ∀ l, H l = none → Q (.ref l) (upd H l (.lst ys))
theorem ld_list : LDs C bList (rListOf C.K) := by
  intro W α F H S σ xs ds Q R rs P
  unfold bList at P
  split at P
  · obtain ⟨v, ev, rd⟩ := rs.one_inv
    subst ev
    split at P
    · rename_i _ ys hy
      obtain ⟨a, vs, ev, hq, l⟩ := listOf_of R rd hy
      exact ⟨a, vs, by rw [ev], hq, PostE.new R P (nt_lst vs) fun q hq => ⟨q, _, rfl, upd_same, l.mono (Pre.refl _) (Sub.new (R.fN hq))⟩⟩
    · exact P.elim
  · exact P.elim
theorem ld_listR : LDs C bListR (rListOf C.K) := by
  intro W α F H S σ xs ds Q R rs P
  unfold bListR at P
  split at P
  · obtain ⟨v, ev, rd⟩ := rs.one_inv
    subst ev
    split at P
    · rename_i _ ys hy
      obtain ⟨a, vs, ev, hq, l⟩ := listOf_of R rd hy
      exact ⟨a, vs, by rw [ev], hq, PostE.lay (r := .lst ys) R P ⟨vs, rfl, l⟩⟩
    · exact P.elim
  · exact P.elim
/-- all, any of a list of bools -/
def blsOf : List D → Option (List Bool)
  | [] => some []
  | .bl b :: r => (blsOf r).map fun bs => b :: bs
  | _ => none
def bAll : List D → M D := fun ds S => match ds with
  | [.lst xs] => match blsOf xs with
    | some bs => .ok (.bl (bs.all fun b => b)) S
    | none => .stuck
  | _ => .stuck
def bAny : List D → M D := fun ds S => match ds with
  | [.lst xs] => match blsOf xs with
    | some bs => .ok (.bl (bs.any fun b => b)) S
    | none => .stuck
  | _ => .stuck
theorem bls_of {α : List Addr} {F : Hp} : ∀ {ds : List D} {vs : List V} {bs : List Bool}, RpL C α F ds vs → blsOf ds = some bs → vs = bs.map V.bl
  | [], _, _, h, e => by rw [show _ = [] from h]; cases e; rfl
  | d :: ds, _, bs, ⟨v, t, ev, h, l⟩, e => by
    subst ev
    cases d <;> first | cases e | skip
    rw [blsOf] at e
    obtain ⟨bs', h1, h2⟩ := Option.map_eq_some_iff.mp e
    subst h2
    rw [show v = V.bl _ from h, bls_of l h1]; rfl
theorem ld_all : LDs C bAll (rAll C.K) := by
  intro W α F H S σ xs ds Q R rs P
  unfold bAll at P
  split at P
  · obtain ⟨v, ev, a, vs, ea, h, l⟩ := rs.one_inv
    subst ev; subst ea
    split at P
    · rename_i _ bs hb
      have e := bls_of l hb
      subst e
      exact ⟨a, bs, rfl, SqL.of (R.sub _ _ h), PostE.here (d := .bl _) R rfl P⟩
    · exact P.elim
  · exact P.elim
theorem ld_any : LDs C bAny (rAny C.K) := by
  intro W α F H S σ xs ds Q R rs P
  unfold bAny at P
  split at P
  · obtain ⟨v, ev, a, vs, ea, h, l⟩ := rs.one_inv
    subst ev; subst ea
    split at P
    · rename_i _ bs hb
      have e := bls_of l hb
      subst e
      exact ⟨a, bs, rfl, SqL.of (R.sub _ _ h), PostE.here (d := .bl _) R rfl P⟩
    · exact P.elim
  · exact P.elim

/-! ## isinstance -/
def tyD (S : Store) : D → Option String
  | .non => some "NoneType"
  | .bl _ => some "bool"
  | .int _ => some "int"
  | .str _ => some "str"
  | .tup _ => some "tuple"
  | .kt _ => some "tuple"
  | .lst _ => some "list"
  | .scr _ => some "list"
  | .dk _ => some "dict"
  | .dt _ => some "dict"
  | .reg j => match S[j]? with
    | some (some (.lst _)) => some "list"
    | some (some (.dk _)) => some "dict"
    | some (some (.dt _)) => some "dict"
    | _ => none
  | _ => none
theorem tyX_of {α : List Addr} {F H : Hp} {S : Store} {d : D} {v : V} {t : String} (R : Rst C α F H S) (r : Rp C α F d v) (e : tyD S d = some t) : TyX C.K H v (.type t) := by
  cases d with
  | non => cases e; rw [show v = V.non from r]; exact .base .non
  | bl b => cases e; rw [show v = V.bl _ from r]; exact .base (.bl b)
  | int b => cases e; rw [show v = V.int _ from r]; exact .base (.int b)
  | str b => cases e; rw [show v = V.str _ from r]; exact .base (.str b)
  | tup xs => cases e; obtain ⟨a, vs, ev, h, l⟩ := r; rw [ev]; exact .base (.tup (R.sub _ _ h))
  | lst xs => cases e; obtain ⟨a, vs, ev, h, l⟩ := r; rw [ev]; exact .base (.lst (R.sub _ _ h))
  | kt xs =>
    cases e
    obtain ⟨a, vs, ev, h, l⟩ := r
    rw [ev]
    rcases R.sub.sqT h with (h | ⟨o, h⟩) | ⟨o, its, n, h, c, _⟩
    · exact .base (.tup h)
    · exact .fTuple h
    · exact .kTuple h c
  | scr xs =>
    cases e
    obtain ⟨a, ev, h⟩ := r
    rw [ev]
    rcases R.sub.sqL h with (h | ⟨o, h⟩) | ⟨o, its, n, h, c, _⟩
    · exact .base (.lst h)
    · exact .base (.frz h)
    · exact .kList h c
  | dk xs => cases e; obtain ⟨a, vs, ev, h, l⟩ := r; rw [ev]; exact .base (.dK (R.sub _ _ h))
  | dt xs => cases e; obtain ⟨a, vs, ev, h, l⟩ := r; rw [ev]; exact .base (.dT (R.sub _ _ h))
  | reg j =>
    obtain ⟨a, ev, ha⟩ := r
    rw [ev]
    unfold tyD at e
    dsimp only at e
    split at e
    · rename_i hj
      cases e
      obtain ⟨o, h2, h3, vs, h4, l⟩ := R.live hj ha
      subst h4; exact .base (.lst h3)
    · rename_i hj
      cases e
      obtain ⟨o, h2, h3, vs, h4, l⟩ := R.live hj ha
      subst h4; exact .base (.dK h3)
    · rename_i hj
      cases e
      obtain ⟨o, h2, h3, vs, h4, l⟩ := R.live hj ha
      subst h4; exact .base (.dT h3)
    · cases e
  | obj _ _ => cases e
  | exc _ _ => cases e
  | cls _ => cases e
  | fn _ => cases e
def isT (t T : String) : Bool := t == T || (t == "bool" && T == "int")
def tyNames : List String := ["NoneType", "bool", "int", "str", "tuple", "list", "dict"]
def tyAsked : List String := ["bool", "int", "str", "tuple", "list", "dict"]
theorem kitB_tab : ∀ t ∈ tyNames, ∀ T ∈ tyAsked, kitB t T = some (isT t T) := by decide +kernel
theorem tyD_in {S : Store} {d : D} {t : String} (e : tyD S d = some t) : t ∈ tyNames := by
  unfold tyD at e
  split at e <;> first | (cases e; done) | (cases e; decide +kernel) | skip
  all_goals (split at e <;> first | (cases e; done) | (cases e; decide +kernel))
/-- what an object's class must say -/
structure OcOk (C : Ctx) : Prop where
  cl : ∀ c ∈ C.on, ∀ Cc, C.cn c = some Cc → Cls C.K Cc ∧ PySem.W.findIn C.K (.ref Cc) "__class__" = some (some (.builtin "object.__class__")) ∧
    PySem.W.specialIn C.K (.builtin "object.__class__") "__get__" = some (some (.builtin "getset_descriptor.__get__")) ∧ PySem.W.takesIn C.K (.builtin "object.__class__") = some true ∧ PySem.W.mroIn C.K Cc (.type "object") = some true
  bt : ∀ c ∈ C.on, ∀ Cc, C.cn c = some Cc → ∀ T ∈ tyAsked, PySem.W.kitOne C.K (.ref Cc) (.type T) = some false
  bo : ∀ c ∈ C.on, ∀ Cc, C.cn c = some Cc → ∀ t ∈ tyNames, PySem.W.kitOne C.K (.type t) (.ref Cc) = some false
  oo : ∀ c ∈ C.on, ∀ Cc, C.cn c = some Cc → ∀ c' ∈ C.on, ∀ Cc', C.cn c' = some Cc' → PySem.W.kitOne C.K (.ref Cc) (.ref Cc') = some (decide (c = c'))
def clsOf (S : Store) : D → Option Str
  | .obj c _ => some c
  | .reg j => match S[j]? with
    | some (some (.ins c _)) => some c
    | _ => none
  | _ => none
theorem ty_obj (O : OcOk C) {α : List Addr} {F H : Hp} {S : Store} {c : Str} {fs : List (Str × D)} {v : V} (R : Rst C α F H S) (r : Rp C α F (.obj c fs) v) : ∃ Cc, c ∈ C.on ∧ C.cn c = some Cc ∧ TyX C.K H v (.ref Cc) := by
  obtain ⟨a, dx, ws, Cc, ev, ⟨on, cn⟩, h, l⟩ := r
  obtain ⟨h1, h2, h3, h4, h5⟩ := O.cl c on Cc cn
  rw [ev]
  exact ⟨Cc, on, cn, .base (.ins (R.sub _ _ h) h1 h2 h3 h4 h5)⟩
/-- isinstance(x, T), T a built-in class -/
def dIsi (T : String) : D → M D := fun x S => match tyD S x with
  | some t => .ok (.bl (isT t T)) S
  | none => match x with
    | .obj _ _ => .ok (.bl false) S
    | _ => .stuck
theorem se_isi {T : String} {y : Str} {p1 p2 : Pos} (O : OcOk C) (hX : X.K = C.K) (hT : T ∈ tyAsked) (hg : Gl X "isinstance") (hm : X.mg "isinstance" = none) (hgy : Gl X y) (hmy : X.mg y = none) (hvy : bootBuiltins y = some (.type T)) (hny : y ≠ "__name__") (hdy : (y == ("__debug__" : Str)) = false)
    (ha : SE X C W a ma) (he : starEach [a, .Name y p2] X.env = (false, eval a X.env) :: starEach [.Name y p2] X.env) (he2 : starEach [.Name y p2] X.env = (false, eval (.Name y p2) X.env) :: starEach [] X.env) (hpl : (backTo pos (starEach [.Name y p2] X.env)).any (·.1) = false) :
    SE X C W (.Call (.Name "isinstance" p1) [a, .Name y p2] [] pos) (eUn (dIsi T) ma) := by
  refine se_of (pe_callB call_isi hg hm (by decide +kernel) (pa_cons ha.pe (pa_cons (pe_bltn (v := .ty T) hgy hmy hvy rfl hny hdy) pa_nil he2) he) (by decide) (by decide) he hpl) fun σ H Q ⟨α, F, S, env, R, Sl, P⟩ => ⟨α, F, S, env, R, Sl, postE_E P fun d S1 v α1 F1 H1 s1 R1 r P1 => ?_⟩
  unfold dIsi at P1
  split at P1
  · rename_i t ht
    exact ⟨v, .ty T, .type t, .type T, isT t T, rfl, .ty T, by rw [hX]; exact tyX_of R1 r ht, kit_ty (kitB_tab t (tyD_in ht) T hT), PostE.here (d := .bl _) R1 rfl P1⟩
  · split at P1
    · obtain ⟨Cc, on, cn, ty⟩ := ty_obj O R1 r
      exact ⟨v, .ty T, .ref Cc, .type T, false, rfl, .ty T, by rw [hX]; exact ty, by rw [hX]; exact O.bt _ on Cc cn T hT, PostE.here (d := .bl _) R1 rfl P1⟩
    · exact P1.elim
/-- isinstance(x, c), c an own class of objects -/
def dIso (c : Str) : D → M D := fun x S => match tyD S x with
  | some _ => .ok (.bl false) S
  | none => match x with
    | .obj c' _ => .ok (.bl (decide (c' = c))) S
    | _ => .stuck
theorem se_iso {c : Str} {Cc : Addr} {p1 p2 : Pos} (O : OcOk C) (hX : X.K = C.K) (on : c ∈ C.on) (cn : C.cn c = some Cc) (hg : Gl X "isinstance") (hm : X.mg "isinstance" = none) (hgy : Gl X c) (hmy : X.mg c = some (.ref Cc)) (hdy : (c == ("__debug__" : Str)) = false)
    (ha : SE X C W a ma) (he : starEach [a, .Name c p2] X.env = (false, eval a X.env) :: starEach [.Name c p2] X.env) (he2 : starEach [.Name c p2] X.env = (false, eval (.Name c p2) X.env) :: starEach [] X.env) (hpl : (backTo pos (starEach [.Name c p2] X.env)).any (·.1) = false) :
    SE X C W (.Call (.Name "isinstance" p1) [a, .Name c p2] [] pos) (eUn (dIso c) ma) := by
  refine se_of (pe_callB call_isi hg hm (by decide +kernel) (pa_cons ha.pe (pa_cons (pe_glob (v := .ref Cc) hgy hmy rfl hdy) pa_nil he2) he) (by decide) (by decide) he hpl) fun σ H Q ⟨α, F, S, env, R, Sl, P⟩ => ⟨α, F, S, env, R, Sl, postE_E P fun d S1 v α1 F1 H1 s1 R1 r P1 => ?_⟩
  unfold dIso at P1
  split at P1
  · rename_i t ht
    exact ⟨v, .ref Cc, .type t, .ref Cc, false, rfl, .own Cc, by rw [hX]; exact tyX_of R1 r ht, by rw [hX]; exact O.bo c on Cc cn t (tyD_in ht), PostE.here (d := .bl _) R1 rfl P1⟩
  · split at P1
    · obtain ⟨Cd, on', cn', ty⟩ := ty_obj O R1 r
      exact ⟨v, .ref Cc, .ref Cd, .ref Cc, _, rfl, .own Cc, by rw [hX]; exact ty, by rw [hX]; exact O.oo _ on' Cd cn' c on Cc cn, PostE.here (d := .bl _) R1 rfl P1⟩
    · exact P1.elim
/-- isinstance(x, (T1, T2)) -/
def dIsi2 (T1 T2 : String) : D → M D := fun x S => match tyD S x with
  | some t => .ok (.bl (isT t T1 || isT t T2)) S
  | none => match x with
    | .obj _ _ => .ok (.bl false) S
    | _ => .stuck
theorem se_isi2 {T1 T2 : String} {y1 y2 : Str} {p1 p2 p3 p4 : Pos} {k : Nat} (O : OcOk C) (hX : X.K = C.K) (hT1 : T1 ∈ tyAsked) (hT2 : T2 ∈ tyAsked) (hg : Gl X "isinstance") (hm : X.mg "isinstance" = none)
    (hgy1 : Gl X y1) (hmy1 : X.mg y1 = none) (hvy1 : bootBuiltins y1 = some (.type T1)) (hny1 : y1 ≠ "__name__") (hdy1 : (y1 == ("__debug__" : Str)) = false)
    (hgy2 : Gl X y2) (hmy2 : X.mg y2 = none) (hvy2 : bootBuiltins y2 = some (.type T2)) (hny2 : y2 ≠ "__name__") (hdy2 : (y2 == ("__debug__" : Str)) = false)
    (ha : SE X C W a ma) (he : starEach [a, .Tuple [.Name y1 p2, .Name y2 p3] k p4] X.env = (false, eval a X.env) :: starEach [.Tuple [.Name y1 p2, .Name y2 p3] k p4] X.env)
    (he2 : starEach [.Tuple [.Name y1 p2, .Name y2 p3] k p4] X.env = (false, eval (.Tuple [.Name y1 p2, .Name y2 p3] k p4) X.env) :: starEach [] X.env) (hpl : (backTo pos (starEach [.Tuple [.Name y1 p2, .Name y2 p3] k p4] X.env)).any (·.1) = false)
    (he3 : starEach [.Name y1 p2, .Name y2 p3] X.env = (false, eval (.Name y1 p2) X.env) :: starEach [.Name y2 p3] X.env) (he4 : starEach [.Name y2 p3] X.env = (false, eval (.Name y2 p3) X.env) :: starEach [] X.env) :
    SE X C W (.Call (.Name "isinstance" p1) [a, .Tuple [.Name y1 p2, .Name y2 p3] k p4] [] pos) (eUn (dIsi2 T1 T2) ma) := by
  refine se_of (pe_callB call_isiT hg hm (by decide +kernel) (pa_cons ha.pe (pa_cons (pe_tup (pa_cons (pe_bltn (v := .ty T1) hgy1 hmy1 hvy1 rfl hny1 hdy1) (pa_cons (pe_bltn (v := .ty T2) hgy2 hmy2 hvy2 rfl hny2 hdy2) pa_nil he4) he3)) pa_nil he2) he) (by decide) (by decide) he hpl)
    fun σ H Q ⟨α, F, S, env, R, Sl, P⟩ => ⟨α, F, S, env, R, Sl, postE_E P fun d S1 v α1 F1 H1 s1 R1 r P1 => ⟨by show 2 ≤ sizeLine; decide, fun q hq => ?_⟩⟩
  have R2 := R1.new (o := .tup [.ty T1, .ty T2]) hq (nt_tup _)
  have S2 := R1.newStep (o := .tup [.ty T1, .ty T2]) hq
  have prs : Paired ClsV [V.ty T1, V.ty T2] [Value.type T1, Value.type T2] := .cons (.ty T1) (.cons (.ty T2) .nil)
  unfold dIsi2 at P1
  split at P1
  · rename_i t ht
    refine ⟨v, q, [.ty T1, .ty T2], .type t, [.type T1, .type T2], _, rfl, upd_same, prs, by rw [hX]; exact tyX_of R2 (r.step S2) ht, ?_, PostE.here (d := .bl _) R2 rfl (PostE.step S2 P1)⟩
    have k1 := kit_ty (K := X.K) (kitB_tab t (tyD_in ht) T1 hT1)
    have k2 := kit_ty (K := X.K) (kitB_tab t (tyD_in ht) T2 hT2)
    refine kitAny_cons k1 (fun h1 => ?_) fun h1 => by rw [h1]; rfl
    rw [h1]
    exact kitAny_cons k2 (fun h2 => by rw [h2]; exact kitAny_nil) fun h2 => by rw [h2]; rfl
  · split at P1
    · obtain ⟨Cc, on, cn, ty⟩ := ty_obj O R2 (r.step S2)
      refine ⟨v, q, [.ty T1, .ty T2], .ref Cc, [.type T1, .type T2], false, rfl, upd_same, prs, by rw [hX]; exact ty, ?_, PostE.here (d := .bl _) R2 rfl (PostE.step S2 P1)⟩
      rw [hX]
      exact kitAny_cons (O.bt _ on Cc cn T1 hT1) (fun _ => kitAny_cons (O.bt _ on Cc cn T2 hT2) (fun _ => kitAny_nil) fun z => by cases z) fun z => by cases z
    · exact P1.elim
end
end WL
set_option Elab.async false
set_option linter.all false
set_option maxRecDepth 100000
namespace WL
open PySem L2 PyProof.Rows

/-! ## a def's end: its own regions go, what is told is frozen -/
mutual
def clean (n : Nat) : D → Bool
  | .tup xs => cleanL n xs
  | .kt xs => cleanL n xs
  | .lst xs => cleanL n xs
  | .dk kvs => cleanK n kvs
  | .dt kvs => cleanT n kvs
  | .obj _ fs => cleanF n fs
  | .exc _ fs => cleanF n fs
  | .reg i => decide (i < n)
  | .non => true
  | .bl _ => true
  | .int _ => true
  | .str _ => true
  | .scr _ => true
  | .cls _ => true
  | .fn _ => true
def cleanL (n : Nat) : List D → Bool
  | [] => true
  | x :: xs => clean n x && cleanL n xs
def cleanK (n : Nat) : List (Key × D) → Bool
  | [] => true
  | (_, x) :: xs => clean n x && cleanK n xs
def cleanT (n : Nat) : List (List Key × D) → Bool
  | [] => true
  | (_, x) :: xs => clean n x && cleanT n xs
def cleanF (n : Nat) : List (Str × D) → Bool
  | [] => true
  | (_, x) :: xs => clean n x && cleanF n xs
end
def cleanO (n : Nat) : Option RO → Bool
  | none => true
  | some (.lst xs) => cleanL n xs
  | some (.dk xs) => cleanK n xs
  | some (.dt xs) => cleanT n xs
  | some (.ins _ fs) => cleanF n fs
def cleanS (n : Nat) (S : Store) : Bool := (S.take n).all (cleanO n)
/-- a region's frozen value -/
def frzD (n : Nat) (on : List Str) : RO → Option D
  | .lst xs => if cleanL n xs then some (.lst xs) else none
  | .dk xs => if cleanK n xs then some (.dk xs) else none
  | .dt xs => if cleanT n xs then some (.dt xs) else none
  | .ins c fs => if cleanF n fs && decide (c ∈ on) then some (.obj c fs) else none
def sealD (n : Nat) (on : List Str) (d : D) (S : Store) : Res D :=
  if cleanS n S then (if clean n d then .ok d (S.take n) else match d with
    | .reg j => match S[j]? with
      | some (some r) => match frzD n on r with
        | some d' => .ok d' (S.take n)
        | none => .stuck
      | _ => .stuck
    | _ => .stuck) else .stuck
def sealR (n : Nat) (on : List Str) : Res D → Res D
  | .ok d S => if S.length ≤ n then .ok d S else sealD n on d S
  | .exc e S => if S.length ≤ n then .exc e S else if cleanS n S && cleanF n e.fs then .exc e (S.take n) else .stuck
  | .stuck => .stuck
section
variable {C : Ctx} {α α' : List Addr} {F F' H H' : Hp} {n : Nat}
/-- the first n regions lie alike -/
theorem pre_back (p : Pre α α') (hn : n ≤ α.length) {i : Nat} {a : Addr} (hi : i < n) (e : α'[i]? = some a) : α[i]? = some a := by
  have h := p i _ (List.getElem?_eq_getElem (show i < α.length by omega))
  rw [h] at e
  cases e
  exact List.getElem?_eq_getElem _
mutual
theorem Rp.cut (p : Pre α α') (hn : n ≤ α.length) : ∀ {d : D} {v : V}, clean n d = true → Rp C α' F d v → Rp C α F d v
  | .non, _, _, h => h
  | .bl _, _, _, h => h
  | .int _, _, _, h => h
  | .str _, _, _, h => h
  | .tup _, _, c, ⟨a, vs, e, q, r⟩ => ⟨a, vs, e, q, RpL.cut p hn (by simpa only [clean] using c) r⟩
  | .kt _, _, c, ⟨a, vs, e, q, r⟩ => ⟨a, vs, e, q, RpL.cut p hn (by simpa only [clean] using c) r⟩
  | .lst _, _, c, ⟨a, vs, e, q, r⟩ => ⟨a, vs, e, q, RpL.cut p hn (by simpa only [clean] using c) r⟩
  | .scr _, _, _, h => h
  | .dk _, _, c, ⟨a, ws, e, q, r⟩ => ⟨a, ws, e, q, RpK.cut p hn (by simpa only [clean] using c) r⟩
  | .dt _, _, c, ⟨a, ws, e, q, r⟩ => ⟨a, ws, e, q, RpT.cut p hn (by simpa only [clean] using c) r⟩
  | .obj _ _, _, k, ⟨a, dx, ws, Cc, e, c, q, r⟩ => ⟨a, dx, ws, Cc, e, c, q, RpF.cut p hn (by simpa only [clean] using k) r⟩
  | .exc _ _, _, k, ⟨a, Cc, e, c, h⟩ => ⟨a, Cc, e, c, h.imp id fun ⟨d, ws, q, q2, r⟩ => ⟨d, ws, q, q2, RpF.cut p hn (by simpa only [clean] using k) r⟩⟩
  | .reg i, _, k, ⟨a, e, q⟩ => ⟨a, e, pre_back p hn (by simpa [clean] using k) q⟩
  | .cls _, _, _, h => h
  | .fn _, _, _, h => h
theorem RpL.cut (p : Pre α α') (hn : n ≤ α.length) : ∀ {d : List D} {v : List V}, cleanL n d = true → RpL C α' F d v → RpL C α F d v
  | [], _, _, h => h
  | _ :: _, _, k, ⟨v, r, e, h, t⟩ => by
    simp only [cleanL, Bool.and_eq_true] at k
    exact ⟨v, r, e, Rp.cut p hn k.1 h, RpL.cut p hn k.2 t⟩
theorem RpK.cut (p : Pre α α') (hn : n ≤ α.length) : ∀ {d : List (Key × D)} {v : List (Key × V)}, cleanK n d = true → RpK C α' F d v → RpK C α F d v
  | [], _, _, h => h
  | (_, _) :: _, _, k, ⟨v, r, e, h, t⟩ => by
    simp only [cleanK, Bool.and_eq_true] at k
    exact ⟨v, r, e, Rp.cut p hn k.1 h, RpK.cut p hn k.2 t⟩
theorem RpT.cut (p : Pre α α') (hn : n ≤ α.length) : ∀ {d : List (List Key × D)} {v : List (List Key × V)}, cleanT n d = true → RpT C α' F d v → RpT C α F d v
  | [], _, _, h => h
  | (_, _) :: _, _, k, ⟨v, r, e, h, t⟩ => by
    simp only [cleanT, Bool.and_eq_true] at k
    exact ⟨v, r, e, Rp.cut p hn k.1 h, RpT.cut p hn k.2 t⟩
theorem RpF.cut (p : Pre α α') (hn : n ≤ α.length) : ∀ {d : List (Str × D)} {v : List (Str × V)}, cleanF n d = true → RpF C α' F d v → RpF C α F d v
  | [], _, _, h => h
  | (_, _) :: _, _, k, ⟨v, r, e, h, t⟩ => by
    simp only [cleanF, Bool.and_eq_true] at k
    exact ⟨v, r, e, Rp.cut p hn k.1 h, RpF.cut p hn k.2 t⟩
end
theorem RpO.cut (p : Pre α α') (hn : n ≤ α.length) {r : RO} {o : HO} (c : cleanO n (some r) = true) (h : RpO C α' F r o) : RpO C α F r o := by
  cases r with
  | lst xs => obtain ⟨vs, e, r⟩ := h; exact ⟨vs, e, r.cut p hn c⟩
  | dk xs => obtain ⟨vs, e, r⟩ := h; exact ⟨vs, e, r.cut p hn c⟩
  | dt xs => obtain ⟨vs, e, r⟩ := h; exact ⟨vs, e, r.cut p hn c⟩
  | ins c fs => obtain ⟨Cc, dx, ws, e, k, r⟩ := h; exact ⟨Cc, dx, ws, e, k, r.cut p hn c⟩
variable {S S' : Store}
theorem Rst.cut (R : Rst C α F H S) (s : Step α F H α' F' H') (R' : Rst C α' F' H' S') (c : cleanS S.length S' = true) (hl : S.length ≤ S'.length) : Rst C α F' H' (S'.take S.length) ∧ Step α F H α F' H' := by
  refine ⟨⟨R'.sub, R'.nt, R.nd, fun a m => ?_, ?_, fun j r e => ?_, R'.tab, R'.low, R.lowA⟩, ⟨Pre.refl _, s.frz, fun b o h1 h2 n => ?_⟩⟩
  · obtain ⟨i, hi⟩ := List.mem_iff_getElem?.mp m
    exact R'.liv a (List.mem_of_getElem? (s.pre i a hi))
  · rw [List.length_take, ← R.len]; omega
  · have hj : j < S.length := by
      have z := (List.getElem?_eq_some_iff.mp e).1
      rw [List.length_take] at z; omega
    have e2 : S'[j]? = some (some r) := by rw [← e, List.getElem?_take_of_lt hj]
    obtain ⟨a, o, h1, h2, h3, h4⟩ := R'.reg j r e2
    refine ⟨a, o, pre_back (n := S.length) s.pre (by rw [R.len]; exact Nat.le_refl _) hj h1, h2, h3, h4.cut (n := S.length) s.pre (by rw [R.len]; exact Nat.le_refl _) ?_⟩
    unfold cleanS at c
    rw [List.all_eq_true] at c
    exact c _ (List.mem_of_getElem? e)
  · obtain ⟨h3, h4, _⟩ := s.keep b o h1 h2 n
    exact ⟨h3, h4, n⟩
/-- a region is frozen behind the end -/
theorem Rst.frzEnd (R : Rst C α F H S) (s : Step α F H α' F' H') (R' : Rst C α' F' H' S') (c : cleanS S.length S' = true) {j : Nat} {r : RO} {d : D} {v : V} (hj : S.length ≤ j) (e : S'[j]? = some (some r)) (hd : frzD S.length C.on r = some d) (rv : Rp C α' F' (.reg j) v) :
    ∃ F'', Rst C α F'' H' (S'.take S.length) ∧ Step α F H α F'' H' ∧ Rp C α F'' d v := by
  obtain ⟨a, ev, ha⟩ := rv
  obtain ⟨o, h2, h3, h4⟩ := R'.live e ha
  have hl : S.length ≤ S'.length := by have := (List.getElem?_eq_some_iff.mp e).1; omega
  have R2 := R'.freeze (o := o) e ha h3 h4.nt
  have s2 := R'.freezeStep (o := o) h2 ha
  have c2 : cleanS S.length (S'.set j none) = true := by
    unfold cleanS at c ⊢
    rw [List.take_set_of_le (by omega)]
    exact c
  have hl2 : S.length ≤ (S'.set j none).length := by rw [List.length_set]; exact hl
  obtain ⟨R3, s3⟩ := R.cut (s.trans s2) R2 c2 hl2
  rw [List.take_set_of_le (by omega)] at R3
  refine ⟨_, R3, s3, ?_⟩
  have pp : Pre α α' := s.pre
  have hn : S.length ≤ α.length := by rw [R.len]; exact Nat.le_refl _
  have sb : Sub F' (upd F' a o) := Sub.new h2
  subst ev
  cases r with
  | lst xs =>
    dsimp only [frzD] at hd
    split at hd <;> cases hd
    rename_i k
    obtain ⟨vs, eo, l⟩ := h4
    subst eo
    exact ⟨a, vs, rfl, upd_same, (l.mono (Pre.refl _) sb).cut pp hn k⟩
  | dk xs =>
    dsimp only [frzD] at hd
    split at hd <;> cases hd
    rename_i k
    obtain ⟨vs, eo, l⟩ := h4
    subst eo
    exact ⟨a, vs, rfl, upd_same, (l.mono (Pre.refl _) sb).cut pp hn k⟩
  | dt xs =>
    dsimp only [frzD] at hd
    split at hd <;> cases hd
    rename_i k
    obtain ⟨vs, eo, l⟩ := h4
    subst eo
    exact ⟨a, vs, rfl, upd_same, (l.mono (Pre.refl _) sb).cut pp hn k⟩
  | ins cc fs =>
    dsimp only [frzD] at hd
    split at hd <;> cases hd
    rename_i k
    simp only [Bool.and_eq_true, decide_eq_true_eq] at k
    obtain ⟨Cc, dx, vs, eo, cn, l⟩ := h4
    subst eo
    exact ⟨a, dx, vs, Cc, rfl, ⟨k.2, cn⟩, upd_same, (l.mono (Pre.refl _) sb).cut pp hn k.1⟩
variable {W : WX} {σ : L2.St} {Q : VK}
theorem sealD_run (R : Rst C α F H S) {d : D} (hlen : ¬ S'.length ≤ S.length) (h : PostE C W α F H σ (sealD S.length C.on d S') Q) {v : V} (s : Step α F H α' F' H') (R' : Rst C α' F' H' S') (r : Rp C α' F' d v) : Q v H' := by
  unfold sealD at h
  split at h
  · rename_i c
    split at h
    · rename_i k
      obtain ⟨R2, s2⟩ := R.cut s R' c (by omega)
      exact h v α F' H' s2 R2 (r.cut s.pre (by rw [R.len]; exact Nat.le_refl _) k)
    · rename_i k
      split at h
      · rename_i j
        split at h
        · rename_i _ r1 e
          split at h
          · rename_i _ d' hd
            have hj : S.length ≤ j := by
              simp only [clean, decide_eq_true_eq] at k
              omega
            obtain ⟨F'', R2, s2, r2⟩ := R.frzEnd s R' c hj e hd r
            exact h v α F'' H' s2 R2 r2
          · exact h.elim
        · exact h.elim
      · exact h.elim
  · exact h.elim
theorem sealX_run {e : Exn} (R : Rst C α F H S) (h : PostE C W α F H σ (sealR S.length C.on (.exc e S')) Q) {cls : Value} {dx : Option Addr} (s : Step α F H α' F' H') (R' : Rst C α' F' H' S') (x : RpX C α' F' e cls dx) : W cls dx σ H' := by
  dsimp only [sealR] at h
  split at h
  · exact h cls dx α' F' H' s R' x
  · rename_i hlen
    split at h
    · rename_i k
      simp only [Bool.and_eq_true] at k
      obtain ⟨R2, s2⟩ := R.cut s R' k.1 (by omega)
      obtain ⟨Cc, h1, h2, h3⟩ := x
      refine h cls dx α F' H' s2 R2 ⟨Cc, h1, h2, h3.imp id fun ⟨d, w, a, b, c⟩ => ⟨d, w, a, b, c.cut s.pre (by rw [R.len]; exact Nat.le_refl _) k.2⟩⟩
    · exact h.elim
theorem sealO_run (R : Rst C α F H S) {d : D} (h : PostE C W α F H σ (sealR S.length C.on (.ok d S')) Q) {v : V} (s : Step α F H α' F' H') (R' : Rst C α' F' H' S') (r : Rp C α' F' d v) : Q v H' := by
  dsimp only [sealR] at h
  split at h
  · exact h v α' F' H' s R' r
  · rename_i hlen
    exact sealD_run R hlen h s R' r
end

/-! ## a def, from its body -/
def retOf : ResS → Res D
  | .next _ S => .ok .non S
  | .ret d S => .ok d S
  | .exc e _ S => .exc e S
  | .brk _ _ => .stuck
  | .cont _ _ => .stuck
  | .stuck => .stuck
def env0 (nN : Nat) (ds : List D) : Env := ds.map .d ++ List.replicate (nN - ds.length) .un
def mkFn (on : List Str) (np nN : Nat) (mb : SS) : List D → M D := fun ds S => if ds.length = np then sealR S.length on (retOf (mb (env0 nN ds) S)) else .stuck
/-- a def's promise: it does m -/
def spM (C : Ctx) (np : Nat) (m : List D → M D) : Sp := fun vs H Q E => vs.length = np ∧ ∃ α F S ds, Rst C α F H S ∧ RpL C α F ds vs ∧ PostE C (fun cls d _ H => E cls d H) α F H [] (m ds S) Q
section
variable {C : Ctx} {α : List Addr} {F H : Hp} {S : Store} {Q : VK} {E : XK}
/-- the body's wish, of the def's -/
theorem ends_of (R : Rst C α F H S) {r : ResS} (h : PostE C (fun cls d _ H => E cls d H) α F H [] (sealR S.length C.on (retOf r)) Q) : PostS C (fun cls d _ H => E cls d H) α F H { nx := fun _ H' => Q .non H', rt := Q } r := by
  cases r with
  | next env S' => exact fun σ' α' F' H' s R' _ => sealO_run R h s R' (d := .non) rfl
  | ret d S' => exact fun v α' F' H' s R' r => sealO_run R h s R' r
  | exc e env S' => exact fun σ' cls dx α' F' H' s R' _ x => sealX_run R h s R' x
  | brk env S' => exact (show False from h).elim
  | cont env S' => exact (show False from h).elim
  | stuck => exact h
theorem slots_start {nN : Nat} {N : List Str} {ds : List D} {vs : List V} (hN : N.length = nN) (hl : vs.length ≤ nN) (r : RpL C α F ds vs) : Slots C α F (L2.start N vs) (env0 nN ds) := by
  have hd := r.length
  refine ⟨?_, fun i s e => ?_⟩
  · unfold L2.start env0
    rw [List.length_append, List.length_append, List.length_map, List.length_map, List.length_replicate, List.length_replicate, hd, hN]
  · unfold env0 at e
    by_cases hi : i < ds.length
    · rw [List.getElem?_append_left (by simpa using hi), List.getElem?_map] at e
      cases q : ds[i]? with
      | none => rw [q] at e; cases e
      | some d =>
        rw [q] at e
        cases e
        obtain ⟨v, hv, rv⟩ := r.get q
        refine ⟨v, ?_, rv⟩
        unfold L2.start
        rw [List.getElem?_append_left (by rw [List.length_map]; omega), List.getElem?_map, hv] <;> rfl
    · rw [List.getElem?_append_right (by simpa using hi), List.getElem?_replicate] at e
      split at e <;> cases e
      exact True.intro
end
theorem fn_mir {C : Ctx} {P : Program} {w : World} {K : PySem.W.Frag} {mg : Str → Option Value} {base : Heap} {k nN : Nat} {f : Addr} {name qual : Str} {params : Arguments} {body : List Stmt} {scope : Scope} {dV kV doc pm cdv ct oc : Value} {an od : Option Addr}
    {osl : Array (Option Value)} {N ps : List Str} {mb : SS} (lk : K.lookup f = some ⟨oc, od, .func (PySem.W.fnOf name qual params body scope dV kV doc pm an cdv ct), osl⟩) (hcd : PySem.W.codeIn K cdv qual = true) (S : FnScope N ps scope) (hN : N.length = nN)
    (hbody : ∀ (A : Around) (outer : List PySem.Env) (s : Shared) (H : Hp) (E : XK), Room k (A.deeper (envOfC qual scope s.heap.objs.size f cdv)) →
      SSs (cxOf (L2.CX P w) P w K mg base N qual scope f cdv A outer s H E) C (fun cls d _ H => E cls d H) body mb) :
    FnOk P w K mg base (L2.CX P w) (k + 1) f (PySem.W.fnOf name qual params body scope dV kV doc pm an cdv ct) ps (spM C ps.length (mkFn C.on ps.length nN mb)) := by
  refine fn_of lk hcd S (fun vs H Q E h => h.1) fun A outer s H vs Q E hr h => ?_
  obtain ⟨hl, α, F, St, ds, R, rp, P⟩ := h
  refine ⟨_, (hbody A outer s H E hr).pss, α, F, St, env0 nN ds, R, slots_start hN ?_ rp, ?_⟩
  · have := congrArg List.length S.pre
    rw [List.length_take] at this
    rw [hl, ← hN]; omega
  · unfold mkFn at P
    split at P
    · exact ends_of R P
    · exact P.elim
end WL
set_option Elab.async false
set_option linter.all false
set_option maxRecDepth 100000
namespace WL
open PySem L2 PyProof.Rows

/-- the ground context: nothing is handed in -/
structure Grd (C : Ctx) : Prop where
  f0 : ∀ a, C.F0 a = none
  a0 : C.A0 = []
theorem Grd.low {C : Ctx} (B : Grd C) (F : Hp) : Sub C.F0 F := fun a o e => by rw [B.f0] at e; cases e
theorem Grd.lowA {C : Ctx} (B : Grd C) (α : List Addr) : Pre C.A0 α := fun i a e => by rw [B.a0] at e; simp at e
/-- C is C0 and what is handed in -/
structure Over (C C0 : Ctx) : Prop where
  g : Grd C0
  eq : ∃ fp F0 A0, C = C0.wf fp F0 A0
theorem Over.rst {C C0 : Ctx} (O : Over C C0) {α : List Addr} {F H : Hp} {S : Store} (R : Rst C α F H S) : Rst C0 α F H S := by
  obtain ⟨fp, F0, A0, rfl⟩ := O.eq
  exact R.unwf (O.g.low F) (O.g.lowA α)
theorem Over.rpl {C C0 : Ctx} (O : Over C C0) {α : List Addr} {F : Hp} {d : List D} {v : List V} : RpL C α F d v ↔ RpL C0 α F d v := by
  obtain ⟨fp, F0, A0, rfl⟩ := O.eq
  exact RpL.wf
theorem Over.rp {C C0 : Ctx} (O : Over C C0) {α : List Addr} {F : Hp} {d : D} {v : V} : Rp C α F d v ↔ Rp C0 α F d v := by
  obtain ⟨fp, F0, A0, rfl⟩ := O.eq
  exact Rp.wf
theorem Over.post {C C0 : Ctx} (O : Over C C0) {W : WX} {α : List Addr} {F H : Hp} {S : Store} {σ : L2.St} (R : Rst C α F H S) {r : Res D} {Q : VK} (h : PostE C W α F H σ r Q) : PostE C0 (fun cls d _ H => W cls d σ H) α F H [] r Q := by
  obtain ⟨fp, F0, A0, rfl⟩ := O.eq
  have k := PostE.unwf R.low R.lowA h
  cases r with
  | ok d S => exact k
  | exc e S => exact k
  | stuck => exact k
/-- a def's promise from a call's wish -/
theorem Over.call {C C0 : Ctx} (O : Over C C0) {W : WX} {α : List Addr} {F H : Hp} {S : Store} {σ : L2.St} {np : Nat} {m : List D → M D} {ds : List D} {vs : List V} {Q : VK} (hl : vs.length = np) (R : Rst C α F H S) (r : RpL C α F ds vs) (h : PostE C W α F H σ (m ds S) Q) :
    spM C0 np m vs H Q (WE W σ) := ⟨hl, α, F, S, ds, O.rst R, O.rpl.mp r, O.post R h⟩
section
variable {C C0 : Ctx} {X : Cx} {W : WX} {k j np n : Nat} {f : Addr} {fd : FuncData} {ps ks : List Str} {m : List D → M D} {dvs : List V} {dds : List D} {dfs : List Value} {x : Str} {p pos : Pos} {e : Expr} {es : List Expr} {ml mk : EL}
/-- arguments, then the defaults -/
def eCall (np : Nat) (m : List D → M D) (dds : List D) (ml : EL) : E := fun env S => (ml env S).bind fun ds S => if (ds ++ dds).length = np then m (ds ++ dds) S else .stuck
theorem se_call (O : Over C C0) (Fn : FnOk X.prog X.w X.K X.mg X.base (L2.CX X.prog X.w) k f fd ps (spM C0 np m)) (hr : Room j X.A) (hkj : k ≤ j) (hg : Gl X x) (hm : X.mg x = some (.ref f)) (hk : PySem.W.keepIn X.K (.ref f) = true) (hb : Binds X.K fd ps dfs) (hd : Vals dvs dfs)
    (hdv : ∀ α F, RpL C0 α F dds dvs) (tk : Takes X W) (ha : SEA X C W (e :: es) ml) (hdb : (x == ("__debug__" : Str)) = false) (he : starEach (e :: es) X.env = (false, eval e X.env) :: starEach es X.env) (hpl : (backTo pos (starEach es X.env)).any (·.1) = false) :
    SE X C W (.Call (.Name x p) (e :: es) [] pos) (eCall np m dds ml) := by
  refine se_of (pe_callSD (E := WE W) Fn (hr.mono hkj) hg hm hk hb hd (passAt tk) ha.pa hdb he hpl) fun σ H Q ⟨α, F, S, env, R, Sl, P⟩ => ⟨α, F, S, env, R, Sl, postE_A P fun ds S1 vs α1 F1 H1 s1 R1 r P1 => ?_⟩
  have ra : RpL C α1 F1 (ds ++ dds) (vs ++ dvs) := r.app (O.rpl.mpr (hdv _ _))
  split at P1
  · rename_i hl
    exact O.call (by rw [← ra.length]; exact hl) R1 ra P1
  · exact P1.elim
/-- f() -/
theorem se_call0 (O : Over C C0) (Fn : FnOk X.prog X.w X.K X.mg X.base (L2.CX X.prog X.w) k f fd ps (spM C0 np m)) (hr : Room j X.A) (hkj : k ≤ j) (hg : Gl X x) (hm : X.mg x = some (.ref f)) (hk : PySem.W.keepIn X.K (.ref f) = true) (hb : Binds X.K fd ps dfs) (hd : Vals dvs dfs)
    (hdv : ∀ α F, RpL C0 α F dds dvs) (tk : Takes X W) (hdb : (x == ("__debug__" : Str)) = false) : SE X C W (.Call (.Name x p) [] [] pos) (eCall np m dds eNil) := by
  refine ⟨⟨fun pins s σ H Q I ⟨α, F, S, env, R, Sl, P⟩ => ?_⟩⟩
  refine wpAny_Call_Name_kw (ld_glob I hg hm ?_ hdb)
  refine PySem.W.callWith_K0 I.kIn hk (run_fnSD (us := []) (vs := []) (E := WE W) Fn (hr.mono hkj) hb hd (passAt tk σ) I .nil ?_)
  have ra : RpL C α F dds dvs := O.rpl.mpr (hdv _ _)
  simp only [eCall, eNil, Res.bind, List.nil_append] at P
  split at P
  · rename_i hl
    exact O.call (by rw [List.nil_append, ← ra.length]; exact hl) R ra P
  · exact P.elim
/-- keywords -/
structure SK (X : Cx) (C : Ctx) (W : WX) (kws : List Keyword) (m : EL) : Prop where
  pk : PK X kws (tA C W m)
theorem sk_nil : SK X C W [] eNil := by
  refine ⟨⟨fun pos pins s σ H Q I ⟨α, F, S, env, R, Sl, P⟩ => pk_nil.run pos pins s σ H Q I ?_⟩⟩
  exact P [] α F H (Step.refl _ _ _) R rfl
theorem sk_cons {nm : Option Str} {kp : Pos} {kws : List Keyword} {ma : E} (ha : SE X C W e ma) (hl : SK X C W kws ml) : SK X C W (⟨nm, e, kp⟩ :: kws) (eCons ma ml) := by
  refine ⟨⟨fun pos pins s σ H Q I ⟨α, F, S, env, R, Sl, P⟩ => (pk_cons ha.pe hl.pk).run pos pins s σ H Q I ?_⟩⟩
  refine ⟨α, F, S, env, R, Sl, postA_E P fun d S1 v α1 F1 H1 s1 R1 r P1 => ⟨α1, F1, S1, env, R1, Sl.step s1, postA_A P1 fun ds S2 vs α2 F2 H2 s2 R2 rs P2 => ?_⟩⟩
  exact P2 (v :: vs) α2 F2 H2 (Step.refl _ _ _) R2 ⟨v, vs, rfl, r.step s2, rs⟩
/-- f(e, .., k = v, ..); g puts the values in the parameters' order -/
structure KBd (C0 : Ctx) (K : PySem.W.Frag) (fd : FuncData) (ps : List Str) (n : Nat) (ks : List Str) (g : List D → List D → List D) : Prop where
  ex : ∃ gU gV, KBn K fd ps n ks gU gV ∧ ∀ α F ds vs es ws, RpL C0 α F ds vs → RpL C0 α F es ws → ds.length = n → es.length = ks.length → RpL C0 α F (g ds es) (gV vs ws)
def eCallK (np n nk : Nat) (m : List D → M D) (g : List D → List D → List D) (ml mk : EL) : E := fun env S => (ml env S).bind fun ds S => (mk env S).bind fun es S => if ds.length = n ∧ es.length = nk ∧ (g ds es).length = np then m (g ds es) S else .stuck
theorem run_k {pins : List (Addr × Obj)} {σ : L2.St} {H : Hp} {s : Shared} {Q : VK} {us ws : List Value} {vs zs : List V} {gU : List Value → List Value → List Value} {gV : List V → List V → List V} {sp : Sp} {E : XK} (Fn : FnOk X.prog X.w X.K X.mg X.base (L2.CX X.prog X.w) k f fd ps sp) (hr : Room k X.A)
    (hb : KBn X.K fd ps n ks gU gV) (hx : PassesAt (L2.CX X.prog X.w) X σ E) (I : Inv X pins σ H s) (r : Vals vs us) (rz : Vals zs ws) (l1 : vs.length = n) (l2 : zs.length = ks.length) (h : sp (gV vs zs) H Q E) :
    wpAny (model X.prog X.w) X.A (call (.ref f) us (ks.zip ws)) (EP X pins σ Q) X.xe s := by
  have rr := hb.rel r rz
  have bt := hb.to s us ws I.kIn (r.length.symm.trans l1) (rz.length.symm.trans l2)
  refine wpAny_call (codeAny_mono (Fn.run X.A X.stack s H ⟨us, ks.zip ws⟩ (gU us ws) (gV vs zs) Q E hr I.env0 bt rr h) ?_)
  rintro (e | fl) s' hq
  · exact hx pins H s e s' I hq
  · cases fl with
    | ret u => exact I.after hq
    | next => exact hq.elim
    | brk => exact hq.elim
    | cont => exact hq.elim
theorem se_callK {kws : List Keyword} {g : List D → List D → List D} (O : Over C C0) (Fn : FnOk X.prog X.w X.K X.mg X.base (L2.CX X.prog X.w) k f fd ps (spM C0 np m)) (hr : Room j X.A) (hkj : k ≤ j) (hg : Gl X x) (hm : X.mg x = some (.ref f)) (hk : PySem.W.keepIn X.K (.ref f) = true) (hb : KBd C0 X.K fd ps n ks g)
    (tk : Takes X W) (ha : SEA X C W (e :: es) ml) (hkw : SK X C W kws mk) (hall : (backToKw pos (keywordEach kws X.env)).all (·.1.isSome) = true) (hks : (backToKw pos (keywordEach kws X.env)).filterMap (·.1) = ks)
    (hdb : (x == ("__debug__" : Str)) = false) (he : starEach (e :: es) X.env = (false, eval e X.env) :: starEach es X.env) (hpl : ((backTo pos (starEach (e :: es) X.env)).any (·.1) || (backToKw pos (keywordEach kws X.env)).any (·.1.isNone)) = false) :
    SE X C W (.Call (.Name x p) (e :: es) kws pos) (eCallK np n ks.length m g ml mk) := by
  obtain ⟨gU, gV, hb, hrel⟩ := hb.ex
  refine ⟨⟨fun pins s σ H Q I ⟨α, F, S, env, R, Sl, P⟩ => ?_⟩⟩
  refine wpAny_Call_Name_kw (ld_glob I hg hm ?_ hdb)
  refine PySem.W.callWith_KW (h₀ := X.base) I.ok.mod.kin hk hall (thn (ha.pa.run pos pins s σ H (fun vs H1 => ∃ α1 F1 S1 ds, Rst C α1 F1 H1 S1 ∧ Slots C α1 F1 σ env ∧ RpL C α1 F1 ds vs ∧ PostE C W α1 F1 H1 σ _ Q) I
    ⟨α, F, S, env, R, Sl, postE_A P fun ds S1 vs α1 F1 H1 s1 R1 r P1 => ⟨α1, F1, S1, ds, R1, Sl.step s1, r, P1⟩⟩) fun us s1 ⟨vs, H1, I1, r1, α1, F1, S1, ds, R1, Sl1, rd, P1⟩ => ?_) hpl he
  refine thn (hkw.pk.run pos pins s1 σ H1 (fun zs H2 => ∃ α2 F2 S2 fs, Rst C α2 F2 H2 S2 ∧ RpL C α2 F2 ds vs ∧ RpL C α2 F2 fs zs ∧ PostE C W α2 F2 H2 σ _ Q) I1
    ⟨α1, F1, S1, env, R1, Sl1, postE_A P1 fun fs S2 zs α2 F2 H2 s2 R2 rz P2 => ⟨α2, F2, S2, fs, R2, rd.step s2, rz, P2⟩⟩) fun ws s2 ⟨zs, H2, I2, r2, α2, F2, S2, fs, R2, rd2, rz, P2⟩ => ⟨I2.kIn, ?_⟩
  rw [hks]
  split at P2
  · rename_i hl
    have rr := hrel α2 F2 ds vs fs zs (O.rpl.mp rd2) (O.rpl.mp rz) hl.1 hl.2.1
    refine run_k (E := WE W σ) Fn (hr.mono hkj) hb (passAt tk σ) I2 r1 r2 (by rw [← rd2.length]; exact hl.1) (by rw [← rz.length]; exact hl.2.1) ?_
    exact O.call (by rw [← rr.length]; exact hl.2.2) R2 (O.rpl.mpr rr) P2
  · exact P2.elim
/-- f(k = v, ..) -/
theorem se_callK0 {kws : List Keyword} {g : List D → List D → List D} (O : Over C C0) (Fn : FnOk X.prog X.w X.K X.mg X.base (L2.CX X.prog X.w) k f fd ps (spM C0 np m)) (hr : Room j X.A) (hkj : k ≤ j) (hg : Gl X x) (hm : X.mg x = some (.ref f)) (hk : PySem.W.keepIn X.K (.ref f) = true) (hb : KBd C0 X.K fd ps 0 ks g)
    (tk : Takes X W) (hkw : SK X C W kws mk) (hall : (backToKw pos (keywordEach kws X.env)).all (·.1.isSome) = true) (hks : (backToKw pos (keywordEach kws X.env)).filterMap (·.1) = ks)
    (hdb : (x == ("__debug__" : Str)) = false) (hpl : ((backTo pos (starEach [] X.env)).any (·.1) || (backToKw pos (keywordEach kws X.env)).any (·.1.isNone)) = false) :
    SE X C W (.Call (.Name x p) [] kws pos) (eCallK np 0 ks.length m g eNil mk) := by
  obtain ⟨gU, gV, hb, hrel⟩ := hb.ex
  refine ⟨⟨fun pins s σ H Q I ⟨α, F, S, env, R, Sl, P⟩ => ?_⟩⟩
  refine wpAny_Call_Name_kw (ld_glob I hg hm ?_ hdb)
  refine PySem.W.callWith_KW0 (h₀ := X.base) I.ok.mod.kin hk hall ?_ hpl
  simp only [eCallK, eNil, Res.bind] at P
  refine thn (hkw.pk.run pos pins s σ H (fun zs H2 => ∃ α2 F2 S2 fs, Rst C α2 F2 H2 S2 ∧ RpL C α2 F2 fs zs ∧ PostE C W α2 F2 H2 σ _ Q) I
    ⟨α, F, S, env, R, Sl, postE_A P fun fs S2 zs α2 F2 H2 s2 R2 rz P2 => ⟨α2, F2, S2, fs, R2, rz, P2⟩⟩) fun ws s2 ⟨zs, H2, I2, r2, α2, F2, S2, fs, R2, rz, P2⟩ => ⟨I2.kIn, ?_⟩
  rw [hks]
  split at P2
  · rename_i hl
    have rr := hrel α2 F2 [] [] fs zs rfl (O.rpl.mp rz) rfl hl.2.1
    refine run_k (us := []) (vs := []) (E := WE W σ) Fn (hr.mono hkj) hb (passAt tk σ) I2 .nil r2 rfl (by rw [← rz.length]; exact hl.2.1) ?_
    exact O.call (by rw [← rr.length]; exact hl.2.2) R2 (O.rpl.mpr rr) P2
  · exact P2.elim
end
end WL
set_option Elab.async false
set_option linter.all false
set_option maxRecDepth 100000
namespace WL
open PySem PySem.Spec L2 PyProof.Rows

/-! ## lambdas: the making -/
section
variable {X : Cx} {C : Ctx} {pins : List (Addr × Obj)} {σ : L2.St} {F H : Hp} {s : Shared} {α : List Addr} {S : Store}
theorem codeO_nt {c : Addr} {q : Str} : notTbl (LamX.CodeO c q) := fun ps => LamX.codeO_ne ps
/-- a code object is new, its table longer -/
theorem Rst.code (R : Rst C α F H S) {P c : Addr} {nm : Nat → Nat → Str} {ps : Array Value} {pos : Pos} (hm : (P, nm) ∈ C.T) (hu : ∀ p ∈ C.T, p.1 = P → p.2 = nm) (hP : H P = some (.tbl ps)) (nC : H c = none) :
    Rst C α (upd F c (LamX.CodeO c (nm pos.line pos.col))) (upd (upd H P (.tbl (ps ++ #[rawInt pos.line, rawInt pos.col, .ref c]))) c (LamX.CodeO c (nm pos.line pos.col))) S ∧
    Step α F H α (upd F c (LamX.CodeO c (nm pos.line pos.col))) (upd (upd H P (.tbl (ps ++ #[rawInt pos.line, rawInt pos.col, .ref c]))) c (LamX.CodeO c (nm pos.line pos.col))) := by
  have fC : F c = none := R.fN nC
  have st : ∀ b o, H b = some o → notTbl o → upd (upd H P (.tbl (ps ++ #[rawInt pos.line, rawInt pos.col, .ref c]))) c (LamX.CodeO c (nm pos.line pos.col)) b = some o := fun b o e n => by
    rw [upd_ne (ne_of_none e nC), upd_ne fun z => n ps (Option.some.inj (e.symm.trans (by rw [z]; exact hP)))]
    exact e
  have sf : Sub F (upd F c (LamX.CodeO c (nm pos.line pos.col))) := Sub.new fC
  refine ⟨⟨fun a o e => ?_, fun a o e => ?_, R.nd, fun a m => ?_, R.len, fun j r e => ?_, fun p hp => ?_, R.low.trans sf, R.lowA⟩, Pre.refl _, sf, fun b o e n na => ⟨st b o e n, fun z => by rw [upd_ne (ne_of_none e nC)]; exact z, na⟩⟩
  · by_cases q : a = c
    · subst q; rw [upd_same] at e ⊢; exact e
    · rw [upd_ne q] at e; exact st a o (R.sub a o e) (R.nt a o e)
  · by_cases q : a = c
    · subst q; rw [upd_same] at e; cases e; exact codeO_nt
    · rw [upd_ne q] at e; exact R.nt a o e
  · obtain ⟨o, e, n⟩ := R.liv a m
    exact ⟨o, st a o e n, n⟩
  · obtain ⟨a, o, h1, h2, h3, h4⟩ := R.reg j r e
    exact ⟨a, o, h1, by rw [upd_ne (ne_of_none h3 nC)]; exact h2, st a o h3 h4.nt, h4.mono (Pre.refl _) sf⟩
  · by_cases hb : p.1 = P
    · obtain ⟨ps2, e1, e2, e3⟩ := R.tab p hp
      rw [hb, hP] at e1
      cases e1
      have eL : (ps ++ #[rawInt pos.line, rawInt pos.col, .ref c]).toList = ps.toList ++ [rawInt pos.line, rawInt pos.col, .ref c] := by simp
      refine ⟨_, by rw [hb, upd_ne (ne_of_none hP nC), upd_same], by rw [eL]; exact PySem.TriplesOk_snoc _ _ _ _ e2, fun p' cv hc => ?_⟩
      rw [eL] at hc
      rcases NdefX.among_app2 _ e2 hc with z | ⟨z, z1, z2⟩
      · obtain ⟨c0, k1, k2⟩ := e3 p' cv z
        exact ⟨c0, k1, sf _ _ k2⟩
      · refine ⟨c, z, ?_⟩
        rw [hu p hp hb, ← z1, ← z2]
        exact upd_same
    · obtain ⟨ps2, e1, e2, e3⟩ := R.tab p hp
      refine ⟨ps2, by rw [upd_ne (ne_of_none e1 nC), upd_ne hb]; exact e1, e2, fun p' cv hc => ?_⟩
      obtain ⟨c0, k1, k2⟩ := e3 p' cv hc
      exact ⟨c0, k1, sf _ _ k2⟩
/-- how a lambda's maker stands: its code object, its table -/
structure LamAt (X : Cx) (C : Ctx) (pos : Pos) : Prop where
  ex : ∃ c P nm, LamX.TabB X.base X.mg c P ∧ X.env.code = .ref c ∧ (P, nm) ∈ C.T ∧ nm pos.line pos.col = X.env.qual ++ "<lambda>" ∧ ∀ p ∈ C.T, p.1 = P → p.2 = nm
theorem lam_run {params : Arguments} {body : Expr} {scope : Scope} {pos : Pos} {E : Value → Shared → Prop} {Q : Value → Shared → Prop} (I : Inv X pins σ H s) (R : Rst C α F H S) (L : LamAt X C pos) (hdef : defaultsOf params X.env = ([], [])) (hfree : ∀ y ∈ scope.names, y.2 = .free → ∃ c, X.env.cells.lookup y.1 = some c)
    (h : ∀ (f c' : Addr) (pm ctv : Value) (F1 H1 : Hp) (s' : Shared), Inv X pins σ H1 s' → Step α F H α F1 H1 → Rst C α F1 H1 S → F1 c' = some (LamX.CodeO c' (X.env.qual ++ "<lambda>")) →
      s'.heap.get? f = some (PySem.W.kla_obj "<lambda>" (X.env.qual ++ "<lambda>") params body scope (cloFrom X.env.cells scope.names []) pm c' ctv) → H1 f = none → f ∉ frs X.stack → s.heap.objs.size ≤ f → Q (.ref f) s') :
    wpAny (model X.prog X.w) X.A (eval (.Lambda params body scope pos) X.env) Q E s := by
  obtain ⟨c, P, nm, TB, hcode, hm, hn, hu⟩ := L.ex
  obtain ⟨ps, hP, ht, ha⟩ := R.tab _ hm
  refine PySem.W.kla_eval hdef ?_
  have bP : s.heap.BuiltinsAt X.mg P := TB.bm.keeps I.bk
  have hP' : s.heap.get? P = some { cls := .none, data := .fields ps } := I.hok P _ hP
  have away : ∀ f, s.heap.objs.size ≤ f → f ∉ frs X.stack := fun f hf z => by
    rcases List.mem_cons.mp (I.stkSub _ z) with e | e
    · have h1 := I.lt
      rw [← e] at h1
      exact Nat.lt_irrefl _ (Nat.lt_of_lt_of_le h1 hf)
    · exact I.nofs hf e
  cases hc : codeAmong pos ps.toList with
  | none =>
    refine PySem.W.kla_makeFunction (mg := X.mg) (c := c) (P := P) (ps := ps) (closure_ok hfree) I.ok.glob (I.mod.glob.keeps I.bk) hcode (TB.code.keeps I.bk) hP' ht hc TB.gP bP fun c' ctv h' tk hx hge hlt hrec htb => ?_
    obtain ⟨c2, oc, vs, t, e2, hoc, hd, hv⟩ := hrec
    cases e2
    have big : s.heap.objs.size ≤ h'.objs.size := Nat.le_trans hge (Nat.le_of_lt hlt)
    have nC : H c' = none := I.hok.fresh hge
    have I1 := LamX.inv_table (t' := tk) (more := #[rawInt pos.line, rawInt pos.col, .ref c']) (h' := h'.push (PySem.W.kla_obj "<lambda>" (X.env.qual ++ "<lambda>") params body scope (cloFrom X.env.cells scope.names []) ((X.mg "__name__").getD .none) c' ctv)) I hP
      (fun b o hb e => Heap.get?_push_of_some _ (hx b o hb e)) (Heap.get?_push_of_some _ htb) hge ⟨oc, vs, t, Heap.get?_push_of_some _ hoc, hd, hv⟩
    obtain ⟨R1, s1⟩ := R.code (pos := pos) hm hu hP nC
    rw [hn] at R1 s1
    refine h h'.objs.size c' ((X.mg "__name__").getD .none) ctv _ _ _ I1 s1 R1 upd_same (Heap.get?_push_size _ rfl) ?_ (away _ big) big
    rw [upd_ne (Nat.ne_of_gt hlt), upd_ne (Nat.ne_of_gt (Nat.lt_of_lt_of_le (Heap.lt_size hP') big))]
    exact I.hok.fresh big
  | some cv =>
    obtain ⟨c', e, hco⟩ := ha pos cv hc
    subst e
    rw [show (P, nm).snd pos.line pos.col = _ from hn] at hco
    refine PySem.W.kla_makeFunctionHit (mg := X.mg) (c := c) (P := P) (ps := ps) (closure_ok hfree) I.ok.glob (I.mod.glob.keeps I.bk) hcode (TB.code.keeps I.bk) hP' ht hc bP fun ctv h' tk hx hsz => ?_
    have I1 : Inv X pins σ H { s with heap := h'.push (PySem.W.kla_obj "<lambda>" (X.env.qual ++ "<lambda>") params body scope (cloFrom X.env.cells scope.names []) ((X.mg "__name__").getD .none) c' ctv), toks := tk } := I.kept fun b o e => Heap.get?_push_of_some _ (hx b o e)
    exact h h'.objs.size c' ((X.mg "__name__").getD .none) ctv F H _ I1 (Step.refl _ _ _) R hco (Heap.get?_push_size _ rfl) (I.hok.fresh hsz) (away _ hsz) hsz
end
end WL
set_option Elab.async false
set_option linter.all false
set_option maxRecDepth 100000
namespace WL
open PySem PySem.Spec L2 PyProof.Rows

/-! ## what is handed in and called -/
theorem un_through {fs fs' : List Addr} {H0 H H' : Hp} {h0 h h' : Heap} (a : Un fs [] H0 H h0 h) (b : Un fs' [] H H' h h') (hs : ∀ x ∈ fs', (∃ o, h0.get? x = some o) → x ∈ fs) : Un fs [] H0 H' h0 h' where
  keep := fun c o q n hc hx => b.keep c o (a.keep c o q n hc hx) (a.free c o q n hx) (fun z => hc (hs c z ⟨o, q⟩)) hx
  slot := fun c o q n hc hx => by
    obtain ⟨sl, e1⟩ := a.slot c o q n hc hx
    obtain ⟨sl', e2⟩ := b.any e1 (a.free c o q n hx) hx
    exact ⟨sl', e2⟩
  free := fun c o q n hx => by
    obtain ⟨o1, e1⟩ := a.there c o q hx
    exact b.free c o1 e1 (a.free c o q n hx) hx
  there := fun c o q hx => by
    obtain ⟨o1, e1⟩ := a.there c o q hx
    exact b.there c o1 e1 hx
  tups := fun c xs e => b.tups c xs (a.tups c xs e)
  frzs := fun c o u e => b.frzs c o u (a.frzs c o u e)
  tbls := fun c ps e => by
    obtain ⟨m1, e1⟩ := a.tbls c ps e
    obtain ⟨m2, e2⟩ := b.tbls c _ e1
    exact ⟨m1 ++ m2, by rw [e2, Array.append_assoc]⟩
/-- from now on (the frames outer, the state s, the heap H) the function at f does op -/
structure Callb (P : Program) (w : World) (K : PySem.W.Frag) (mg : Str → Option Value) (base : Heap) (C : Ctx) (k np : Nat) (outer : List PySem.Env) (s : Shared) (H : Hp) (f : Addr) (op : List D → M D) : Prop where
  at_ : ∀ (s' : Shared) (H' : Hp), (∀ b o, base.get? b = some o → s'.heap.get? b = some o) → Un (frs outer) [] H H' s.heap s'.heap → PySem.W.FnAt f s'.heap
  run : ∀ (A' : Around) (outer' : List PySem.Env) (s' : Shared) (H' : Hp) (us : List Value) (vs : List V) (Q : VK) (E : XK), Room k A' → Env0 P w K mg base A' outer' s' H' → Un (frs outer) [] H H' s.heap s'.heap → Vals vs us → spM C np op vs H' Q E →
    codeAny (model P w) A' (.call (.ref f) ⟨us, []⟩) (CR (L2.CX P w) outer' P w H' s' Q E) s'
theorem Callb.deeper {X : Cx} {C : Ctx} {k np : Nat} {f : Addr} {op : List D → M D} {pins : List (Addr × Obj)} {σ : L2.St} {s : Shared} {H : Hp} (c : Callb X.prog X.w X.K X.mg X.base C k np X.outer X.s_0 X.H_0 f op) (I : Inv X pins σ H s) (hex : X.ex = []) :
    Callb X.prog X.w X.K X.mg X.base C k np X.stack s H f op := by
  have b : Un (frs X.outer) [] X.H_0 H X.s_0.heap s.heap := by
    have b := I.base
    rw [hex] at b
    exact b
  have hs : ∀ x ∈ frs X.stack, (∃ o, X.s_0.heap.get? x = some o) → x ∈ frs X.outer := fun x hx ⟨o, e⟩ => by
    rcases List.mem_cons.mp (I.stkSub _ hx) with z | z
    · have h1 := I.ok.above
      have h2 := Heap.lt_size e
      rw [z] at h2
      exact absurd (Nat.lt_of_lt_of_le h2 h1) (Nat.lt_irrefl _)
    · exact z
  exact ⟨fun s' H' hb u => c.at_ s' H' hb (un_through b u hs), fun A' outer' s' H' us vs Q E hr e0 u => c.run A' outer' s' H' us vs Q E hr e0 (un_through b u hs)⟩
theorem PostE.sig {C : Ctx} {E : XK} {α : List Addr} {F H : Hp} {σ σ' : L2.St} {r : Res D} {Q : VK} (h : PostE C (fun cls d _ H => E cls d H) α F H σ r Q) : PostE C (fun cls d _ H => E cls d H) α F H σ' r Q := by
  cases r with
  | ok d S => exact h
  | exc e S => exact h
  | stuck => exact h

/-! ### a lambda -/
def capOf (o : Option Slot) : Slot := match o with
  | some (.d x) => .d x
  | _ => .un
def capsOf (env : Env) (js : List Nat) : Env := js.map fun j => capOf env[j]?
def opLam (np : Nat) (mb : E) (caps : Env) : List D → M D := fun ds S => if ds.length = np then mb (ds.map .d ++ caps) S else .stuck
section
variable {X : Cx} {C C0 : Ctx} {pins : List (Addr × Obj)} {σ : L2.St} {F H : Hp} {s : Shared} {α : List Addr} {S : Store} {env : Env}
abbrev lamF (X : Cx) (params : Arguments) (scope : Scope) (c' : Addr) : NdefX.NF := ⟨"<lambda>", X.env.qual ++ "<lambda>", params, [], scope, cloFrom X.env.cells scope.names [], c'⟩
/-- a lambda's body -/
def LamBody (X : Cx) (C : Ctx) (kb : Nat) (N : List Str) (params : Arguments) (scope : Scope) (body : Expr) (mb : E) : Prop :=
  ∀ (c' f : Addr) (F0 : Hp) (A0 : List Addr) (A : Around) (outer : List PySem.Env) (s : Shared) (H : Hp) (E : XK), Room kb (A.deeper (NdefX.envF (lamF X params scope c') f s.heap.objs.size)) →
    SE (NdefX.ncx (L2.CX X.prog X.w) X.prog X.w X.K X.mg X.base N (lamF X params scope c') f A outer s H E) (C.wf [] F0 A0) (fun cls d _ H => E cls d H) body mb
theorem callb_lam {ps fr : List Str} {js : List Nat} {params : Arguments} {body : Expr} {scope : Scope} {pm ctv : Value} {f c' : Addr} {kb : Nat} {mb : E} (O : Over C C0) (I : Inv X pins σ H s) (R : Rst C α F H S) (Sl : Slots C α F σ env)
    (NS : NdefX.NScope (ps ++ fr) ps fr scope) (cp : NdefX.Caps X (cloFrom X.env.cells scope.names []) fr js) (hf : s.heap.get? f = some (PySem.W.kla_obj "<lambda>" (X.env.qual ++ "<lambda>") params body scope (cloFrom X.env.cells scope.names []) pm c' ctv))
    (hfn : H f = none) (hfr : f ∉ frs X.stack) (hco : F c' = some (LamX.CodeO c' (X.env.qual ++ "<lambda>")))
    (hbind : ∀ (q : Str) (cl : List (Str × Addr)) (pm cv ctv : Value) (us : List Value), us.length = ps.length → bindArgs (PySem.W.kla_fn "<lambda>" q params body scope cl pm cv ctv) ⟨us, []⟩ = pure (ps.zip us))
    (hbody : LamBody X C0 kb (ps ++ fr) params scope body mb) :
    Callb X.prog X.w X.K X.mg X.base (C0.wf [] F α) (kb + 1) ps.length X.stack s H f (opLam ps.length mb (capsOf env js)) := by
  have ne : f ∉ ([] : List Addr) := by simp
  have C1 : NdefX.CellsAt (cloFrom X.env.cells scope.names []) fr (js.map (NdefX.slotAt σ)) s.heap H := NdefX.cells_of I cp
  refine ⟨fun s' H' _ u => ⟨_, _, _, _, u.keep f _ hf hfn hfr ne⟩, fun A' outer' s' H' us vs Q E hr e0 u r sp => ?_⟩
  obtain ⟨hl, α', F', S', ds, R', rp, P⟩ := sp
  have of1 := u.keep f _ hf hfn hfr ne
  have hc' : H' c' = some (LamX.CodeO c' (X.env.qual ++ "<lambda>")) := R'.sub _ _ (R'.low _ _ hco)
  have hrec := NdefX.codeO_at e0.hok hc'
  have cellK : ∀ {c : Addr} {v : Option Value}, H c = none → s.heap.IsCell c v → s'.heap.IsCell c v := fun {c v} n ⟨o, ho, hd⟩ => by
    obtain ⟨sl, q⟩ := u.any ho n (by simp)
    exact ⟨_, q, hd⟩
  have C2 : NdefX.CellsAt (lamF X params scope c').cl fr (js.map (NdefX.slotAt σ)) s'.heap H' := ⟨C1.len, fun y c e => by
      obtain ⟨n, v, z⟩ := C1.all y c e
      refine ⟨?_, v, cellK n z⟩
      obtain ⟨o, ho, _⟩ := z
      exact u.free c o ho n (by simp), C1.inj, fun i y e => by
      obtain ⟨c, hc, hv⟩ := C1.has i y e
      refine ⟨c, hc, fun v ev => ?_⟩
      obtain ⟨w', rw', z⟩ := hv v ev
      exact ⟨w', rw', cellK (C1.all y c hc).1 z⟩⟩
  have lim : s'.heap.NoLimit := e0.mod.nolimit.keeps fun b o e => (e0.bs b o e).1
  refine PySem.W.kla_callFunE hr.depth of1 rfl NS.co NS.gen rfl hrec ?_
  rw [hbind _ _ _ _ _ us (by rw [← r.length]; exact hl)]
  refine wpAny_pure (wpAny_newFunctionEnv NS.nocell (fun ⟨n, _⟩ hy => NS.par n (List.of_mem_zip hy).1) (fun h₁ hns hsb => ⟨lim.fresh _ hsb, ?_⟩) NS.kind)
  have kp : ∀ b o, s'.heap.get? b = some o → h₁.get? b = some o := fun b o e => hsb.extBut b o (Nat.ne_of_lt (Heap.lt_size e)) (Heap.get?_push_of_some _ e)
  have J := NdefX.inv_startN (CX := L2.CX X.prog X.w) (E := E) (f := f) (F := lamF X params scope c') (h₁ := h₁) (tk := s'.toks + (ps.zip us).length) NS hr.hd e0 hl r C2 hns kp
  refine PySem.W.kla_codeExpr (wpAny_mono ((hbody c' f F α A' outer' s' H' E (hr.deeper _)).pe.run [] _ _ H' Q J ⟨α', F', S', ds.map .d ++ capsOf env js, R', ?_, ?_⟩) (fun v s1 hq => ?_) fun e s1 hq => hq)
  · have hdl := rp.length
    have cl : (js.map (NdefX.slotAt σ)).length = fr.length := C1.len
    have jl : js.length = fr.length := by rw [← cl, List.length_map]
    refine ⟨?_, fun i sl e => ?_⟩
    · unfold NdefX.startF capsOf
      simp only [List.length_append, List.length_map, List.length_replicate]
      omega
    · unfold NdefX.startF
      by_cases hi : i < ds.length
      · rw [List.getElem?_append_left (by simpa using hi), List.getElem?_map] at e
        cases q : ds[i]? with
        | none => rw [q] at e; cases e
        | some d =>
          rw [q] at e
          cases e
          obtain ⟨v, hv, rv⟩ := rp.get q
          refine ⟨v, ?_, rv⟩
          rw [List.getElem?_append_left (by rw [List.length_map]; omega), List.getElem?_map, hv] <;> rfl
      · rw [List.getElem?_append_right (by simpa using hi), List.length_map] at e
        unfold capsOf at e
        rw [List.getElem?_map] at e
        cases q : js[i - ds.length]? with
        | none => rw [q] at e; cases e
        | some j =>
          rw [q] at e
          simp only [Option.map_some, Option.some.injEq] at e
          subst e
          cases q2 : env[j]? with
          | none => exact True.intro
          | some sl =>
            cases sl with
            | un => exact True.intro
            | f _ => exact True.intro
            | d x =>
              obtain ⟨v, hv, rv⟩ := Sl.at_ j _ q2
              refine ⟨v, ?_, ?_⟩
              · have hj : i - ds.length < js.length := (List.getElem?_eq_some_iff.mp q).1
                have hv2 : (List.map some vs).length = ds.length := by rw [List.length_map]; exact hdl.symm
                rw [List.getElem?_append_right (by rw [hv2]; omega), hv2, List.getElem?_append_left (by rw [List.length_map]; exact hj), List.getElem?_map, q]
                simp only [Option.map_some]
                rw [NdefX.slotAt_of hv]
              · exact Rp.wf.mpr ((O.rp.mp rv).mono R'.lowA R'.low)
  · unfold opLam at P
    split at P
    · exact P.sig
    · exact P.elim
  · obtain ⟨w', H2, J', rv, q⟩ := hq
    exact ⟨w', H2, J'.os, J'.bare, J'.base, J'.hok, rv, q⟩

/-! ### function arguments -/
/-- e is a function that does mo -/
structure FAr (X : Cx) (C C0 : Ctx) (kf npf : Nat) (e : Expr) (mo : Env → Option (List D → M D)) : Prop where
  run : ∀ (pins : List (Addr × Obj)) (s : Shared) (σ : L2.St) (H : Hp) (α : List Addr) (F : Hp) (S : Store) (env : Env) (op : List D → M D) (Q : Value → Shared → Prop), mo env = some op → Inv X pins σ H s → Rst C α F H S → Slots C α F σ env →
    (∀ (g : Addr) (F' H' : Hp) (s' : Shared), Inv X pins σ H' s' → Step α F H α F' H' → Rst C α F' H' S → Callb X.prog X.w X.K X.mg X.base (C0.wf [] F' α) kf npf X.stack s' H' g op → Q (.ref g) s') → wpAny (model X.prog X.w) X.A (eval e X.env) Q X.xe s
theorem far_lam {ps fr : List Str} {js : List Nat} {params : Arguments} {body : Expr} {scope : Scope} {pos : Pos} {kb : Nat} {mb : E} (O : Over C C0) (L : LamAt X C pos) (NS : NdefX.NScope (ps ++ fr) ps fr scope)
    (hfree : ∀ y ∈ scope.names, y.2 = .free → X.env.scope.names.lookup y.1 = some .cell ∨ X.env.scope.names.lookup y.1 = some .free) (hjs : js.map (fun j => X.N[j]?) = fr.map some) (hdef : defaultsOf params X.env = ([], []))
    (hbind : ∀ (q : Str) (cl : List (Str × Addr)) (pm cv ctv : Value) (us : List Value), us.length = ps.length → bindArgs (PySem.W.kla_fn "<lambda>" q params body scope cl pm cv ctv) ⟨us, []⟩ = pure (ps.zip us))
    (hbody : LamBody X C0 kb (ps ++ fr) params scope body mb) : FAr X C C0 (kb + 1) ps.length (.Lambda params body scope pos) fun env => some (opLam ps.length mb (capsOf env js)) := by
  refine ⟨fun pins s σ H α F S env op Q eo I R Sl h => ?_⟩
  cases eo
  have hfr : ∀ y ∈ fr, (y, NameKind.free) ∈ scope.names := fun y hy => PySem.mem_of_lookup (NS.frk y hy)
  have hcl : ∀ y ∈ scope.names, y.2 = .free → ∃ c, X.env.cells.lookup y.1 = some c := fun y hy e => (hfree y hy e).elim (fun z => I.ok.has _ (.inl z)) fun z => I.ok.has _ (.inr z)
  refine lam_run I R L hdef hcl fun f c' pm ctv F1 H1 s' I1 s1 R1 hco hf hfn hfs _ => ?_
  exact h f F1 H1 s' I1 s1 R1 (callb_lam O I1 R1 (Sl.step s1) NS (NdefX.Caps.made I1.ok hfree hfr hjs) hf hfn hfs hco hbind hbody)
/-- a def of the text -/
theorem far_def {k np : Nat} {f : Addr} {fd : FuncData} {ps : List Str} {m : List D → M D} {x : Str} {pos : Pos} {oc : Value} {od : Option Addr} {osl : Array (Option Value)} (O : Over C C0) (Fn : FnOk X.prog X.w X.K X.mg X.base (L2.CX X.prog X.w) k f fd ps (spM C0 np m)) (hg : Gl X x) (hm : X.mg x = some (.ref f))
    (lk : X.K.lookup f = some ⟨oc, od, .func fd, osl⟩) (hb : Binds X.K fd ps []) (hps : ps.length = np) (hdb : (x == ("__debug__" : Str)) = false) : FAr X C C0 k np (.Name x pos) fun _ => some m := by
  refine ⟨fun pins s σ H α F S env op Q eo I R Sl h => ld_glob I hg hm ?_ hdb⟩
  cases eo
  refine h f F H s I (Step.refl _ _ _) R ⟨fun s' H' hb' u => ⟨oc, od, fd, osl, (I.ok.mod.kin.keeps hb') _ _ lk⟩, fun A' outer' s' H' us vs Q E hr e0 u r sp => ?_⟩
  obtain ⟨hl, α', F', S', ds, R', rp, P⟩ := sp
  have KX : X.K.In s'.heap := e0.mod.kin.keeps fun b o e => (e0.bs b o e).1
  have hul : (us ++ ([] : List Value)).length = ps.length := by rw [List.append_nil, ← r.length, hl, hps]
  have bt := hb s' us KX hul
  rw [List.append_nil] at bt
  have O2 : Over (C0.wf [] F α) C0 := ⟨O.g, [], F, α, rfl⟩
  exact Fn.run A' outer' s' H' ⟨us, []⟩ us vs Q E hr e0 bt r ⟨hl, α', F', S', ds, O2.rst R', O2.rpl.mp rp, (O2.post R' P).sig⟩
theorem Callb.low {P : Program} {w : World} {K : PySem.W.Frag} {mg : Str → Option Value} {base : Heap} {k np : Nat} {outer : List PySem.Env} {f : Addr} {op : List D → M D} {F0 : Hp} {A0 : List Addr} (cb : Callb P w K mg base (C0.wf [] F0 A0) k np outer s H f op) (l : Sub F0 F) (la : Pre A0 α) :
    Callb P w K mg base (C0.wf [] F α) k np outer s H f op := by
  refine ⟨cb.at_, fun A' outer' s' H' us vs Q E hr e0 u r sp => ?_⟩
  obtain ⟨hl, α', F', S', ds, R', rp, P⟩ := sp
  refine cb.run A' outer' s' H' us vs Q E hr e0 u r ⟨hl, α', F', S', ds, ?_, RpL.wf.mpr (RpL.wf.mp rp), ?_⟩
  · exact Rst.unwf (C := C0.wf [] F0 A0) (fp := []) (F0 := F) (A0 := α) R' (l.trans R'.low) (la.trans R'.lowA)
  · exact PostE.unwf (C := C0.wf [] F0 A0) (fp := []) (F0 := F) (A0 := α) R'.low R'.lowA P
/-- what was handed in, handed on -/
def moVar (i : Nat) (op : List D → M D) : Env → Option (List D → M D) := fun env => match env[i]? with
  | some (.f _) => some op
  | _ => none
theorem far_var {k np i : Nat} {g : Addr} {F0 : Hp} {A0 : List Addr} {x : Str} {pos : Pos} {op : List D → M D} (hC : C = C0.wf [g] F0 A0) (cb : Callb X.prog X.w X.K X.mg X.base (C0.wf [] F0 A0) k np X.outer X.s_0 X.H_0 g op) (hex : X.ex = [])
    (hN : X.N[i]? = some x) (hv : Vis X.env.scope x) (hd : (x == ("__debug__" : Str)) = false) (hcd : (x == ("__classdict__" : Str)) = false) : FAr X C C0 k np (.Name x pos) (moVar i op) := by
  subst hC
  refine ⟨fun pins s σ H α F S env op' Q eo I R Sl h => ?_⟩
  unfold moVar at eo
  split at eo
  · rename_i j q
    cases eo
    obtain ⟨a, ha, hg⟩ := Sl.at_ i _ q
    have e : a = g := by
      cases j with
      | zero => exact (Option.some.inj hg).symm
      | succ n => exact absurd hg (by simp [Ctx.wf])
    subst e
    refine thn ((pe_var (pos := pos) hN hv hd hcd).run pins s σ H (fun v H1 => v = .ref a ∧ H1 = H) I ⟨.ref a, ha, rfl, rfl⟩) fun u s1 ⟨v, H1, I1, r1, q1, q2⟩ => ?_
    subst q1; subst q2
    obtain rfl : u = Value.ref a := r1
    exact h a F H1 s1 I1 (Step.refl _ _ _) R ((cb.deeper I1 hex).low R.low R.lowA)
  · cases eo

/-! ### f(e, .., g), g a function -/
/-- the arguments: data, then one function -/
structure SAF (X : Cx) (C C0 : Ctx) (W : WX) (kf npf : Nat) (es : List Expr) (ml : EL) (mo : Env → Option (List D → M D)) : Prop where
  run : ∀ (pos : Pos) (pins : List (Addr × Obj)) (s : Shared) (σ : L2.St) (H : Hp) (α : List Addr) (F : Hp) (S : Store) (env : Env) (op : List D → M D) (Q : List Value → Shared → Prop), mo env = some op → Inv X pins σ H s → Rst C α F H S → Slots C α F σ env →
    (match ml env S with
      | .ok ds S' => ∀ us vs g α' F' H' s', Inv X pins σ H' s' → Step α F H α' F' H' → Rst C α' F' H' S' → RpL C α' F' ds vs → Vals vs us → Callb X.prog X.w X.K X.mg X.base (C0.wf [] F' α') kf npf X.stack s' H' g op → Q (us ++ [.ref g]) s'
      | .exc e S' => ∀ cls dx α' F' H', Step α F H α' F' H' → Rst C α' F' H' S' → RpX C α' F' e cls dx → W cls dx σ H'
      | .stuck => False) → wpAny (model X.prog X.w) X.A (spliced (backTo pos (starEach es X.env))) Q X.xe s
variable {W : WX} {kf npf : Nat} {a e : Expr} {es : List Expr} {ml : EL} {ma : E} {mo : Env → Option (List D → M D)}
theorem saf_last (h : FAr X C C0 kf npf e mo) (hs : starEach [e] X.env = (false, eval e X.env) :: starEach [] X.env) : SAF X C C0 W kf npf [e] eNil mo := by
  refine ⟨fun pos pins s σ H α F S env op Q eo I R Sl P => ?_⟩
  rw [hs]
  show wpAny _ _ (spliced ((false, eval e X.env) :: backTo pos (starEach [] X.env))) _ _ s
  refine Calls.spliced_cons (h.run pins s σ H α F S env op _ eo I R Sl fun g F' H' s' I' s1 R' cb => Calls.spliced_nil ?_)
  exact P [] [] g α F' H' s' I' s1 R' rfl .nil cb
theorem saf_cons (ha : SE X C W a ma) (h : SAF X C C0 W kf npf es ml mo) (hs : starEach (a :: es) X.env = (false, eval a X.env) :: starEach es X.env) : SAF X C C0 W kf npf (a :: es) (eCons ma ml) mo := by
  refine ⟨fun pos pins s σ H α F S env op Q eo I R Sl P => ?_⟩
  rw [hs]
  show wpAny _ _ (spliced ((false, eval a X.env) :: backTo pos (starEach es X.env))) _ _ s
  unfold eCons at P
  have key : PostE C W α F H σ (ma env S) fun v H1 => ∃ d S1 α1 F1, ma env S = .ok d S1 ∧ Step α F H α1 F1 H1 ∧ Rst C α1 F1 H1 S1 ∧ Rp C α1 F1 d v := by
    cases q : ma env S with
    | ok d S1 => exact fun v α1 F1 H1 s1 R1 r => ⟨d, S1, α1, F1, rfl, s1, R1, r⟩
    | exc x S1 => rw [q] at P; exact P
    | stuck => rw [q] at P; exact P
  refine Calls.spliced_cons (thn (ha.pe.run pins s σ H _ I ⟨α, F, S, env, R, Sl, key⟩) fun u s1 ⟨v, H1, I1, r1, d, S1, α1, F1, q, st1, R1, rd⟩ => ?_)
  rw [q] at P
  simp only [Res.bind] at P
  refine h.run pos pins s1 σ H1 α1 F1 S1 env op _ eo I1 R1 (Sl.step st1) ?_
  cases q2 : ml env S1 with
  | ok ds S2 =>
    rw [q2] at P
    intro us vs g α' F' H' s' I' st2 R' rl rv cb
    exact P (u :: us) (v :: vs) g α' F' H' s' I' (st1.trans st2) R' ⟨v, vs, rfl, rd.step st2, rl⟩ (.cons r1 rv) cb
  | exc x S2 =>
    rw [q2] at P
    intro cls dx α' F' H' st2
    exact P cls dx α' F' H' (st1.trans st2)
  | stuck => rw [q2] at P; exact P
/-- a def's promise, its last parameter a function -/
structure FnF (P : Program) (w : World) (K : PySem.W.Frag) (mg : Str → Option Value) (base : Heap) (C0 : Ctx) (k kf npf : Nat) (f : Addr) (fd : FuncData) (ps : List Str) (m : (List D → M D) → List D → M D) : Prop where
  run : ∀ (A : Around) (outer : List PySem.Env) (s : Shared) (H : Hp) (args : Args) (us : List Value) (vs : List V) (Q : VK) (E : XK) (g : Addr) (op : List D → M D) (F : Hp) (α : List Addr) (S : Store) (ds : List D), Room k A → Env0 P w K mg base A outer s H → BindsTo s fd args (ps.zip (us ++ [.ref g])) → Vals vs us → vs.length + 1 = ps.length →
    Callb P w K mg base (C0.wf [] F α) kf npf outer s H g op → Rst C0 α F H S → RpL C0 α F ds vs → PostE C0 (fun cls d _ H => E cls d H) α F H [] (m op ds S) Q → codeAny (model P w) A (.call (.ref f) args) (CR (L2.CX P w) outer P w H s Q E) s
def env0F (nN : Nat) (ds : List D) : Env := ds.map .d ++ .f 0 :: List.replicate (nN - ds.length - 1) .un
def mkFnF (on : List Str) (np nN : Nat) (mb : (List D → M D) → SS) : (List D → M D) → List D → M D := fun op ds S => if ds.length + 1 = np then sealR S.length on (retOf (mb op (env0F nN ds) S)) else .stuck
theorem fnF_mir {P : Program} {w : World} {K : PySem.W.Frag} {mg : Str → Option Value} {base : Heap} {k kf npf nN : Nat} {f : Addr} {name qual : Str} {params : Arguments} {body : List Stmt} {scope : Scope} {dV kV doc pm cdv ct oc : Value} {an od : Option Addr}
    {osl : Array (Option Value)} {N ps : List Str} {mb : (List D → M D) → SS} (B : Grd C0) (lk : K.lookup f = some ⟨oc, od, .func (PySem.W.fnOf name qual params body scope dV kV doc pm an cdv ct), osl⟩) (hcd : PySem.W.codeIn K cdv qual = true) (FS : FnScope N ps scope) (hN : N.length = nN)
    (hbody : ∀ (A : Around) (outer : List PySem.Env) (s : Shared) (H : Hp) (E : XK) (g : Addr) (F0 : Hp) (A0 : List Addr) (op : List D → M D), Room k (A.deeper (envOfC qual scope s.heap.objs.size f cdv)) → Callb P w K mg base (C0.wf [] F0 A0) kf npf outer s H g op →
      SSs (cxOf (L2.CX P w) P w K mg base N qual scope f cdv A outer s H E) (C0.wf [g] F0 A0) (fun cls d _ H => E cls d H) body (mb op)) :
    FnF P w K mg base C0 (k + 1) kf npf f (PySem.W.fnOf name qual params body scope dV kV doc pm an cdv ct) ps (mkFnF C0.on ps.length nN mb) := by
  refine ⟨fun A outer s H args us vs Q E g op F α St ds hr e0 hb r hl cb R rp Pp => ?_⟩
  have rr : Vals (vs ++ [V.ref g]) (us ++ [.ref g]) := r.append (.cons rfl .nil)
  refine LamX.run_ofS (N := N) lk hcd FS hr e0 hb rr (by rw [List.length_append]; exact hl) fun hr' => ?_
  have R1 : Rst (C0.wf [g] F α) α F H St := R.wf (Sub.refl F) (Pre.refl α)
  refine ⟨_, (hbody A outer s H E g F α op hr' cb).pss, α, F, St, env0F nN ds, R1, ?_, ?_⟩
  · have hd := rp.length
    have hpl : ps.length ≤ nN := by
      have := congrArg List.length FS.pre
      rw [List.length_take] at this
      omega
    refine ⟨?_, fun i sl e => ?_⟩
    · unfold L2.start env0F
      simp only [List.length_append, List.length_map, List.length_replicate, List.length_cons, List.length_nil]
      omega
    · unfold env0F at e
      unfold L2.start
      by_cases hi : i < ds.length
      · rw [List.getElem?_append_left (by simpa using hi), List.getElem?_map] at e
        cases q : ds[i]? with
        | none => rw [q] at e; cases e
        | some d =>
          rw [q] at e
          cases e
          obtain ⟨v, hv, rv⟩ := rp.get q
          refine ⟨v, ?_, Rp.wf.mpr rv⟩
          rw [List.getElem?_append_left (by rw [List.length_map, List.length_append]; omega), List.getElem?_map, List.getElem?_append_left (by omega), hv] <;> rfl
      · rw [List.getElem?_append_right (by simpa using hi), List.length_map] at e
        cases q : i - ds.length with
        | zero =>
          rw [q] at e
          cases e
          refine ⟨g, ?_, rfl⟩
          have hi2 : i = vs.length := by omega
          rw [List.getElem?_append_left (by rw [List.length_map, List.length_append]; simp; omega), List.getElem?_map, hi2, List.getElem?_append_right (Nat.le_refl _), Nat.sub_self] <;> rfl
        | succ n =>
          rw [q, List.getElem?_cons_succ, List.getElem?_replicate] at e
          split at e <;> cases e
          exact True.intro
  · unfold mkFnF at Pp
    split at Pp
    · exact ends_of R1 (PostE.wf (B.low F) (B.lowA α) Pp)
    · exact Pp.elim
def eCallL (m : (List D → M D) → List D → M D) (np : Nat) (ml : EL) (mo : Env → Option (List D → M D)) : E := fun env S => match mo env with
  | some op => (ml env S).bind fun ds S => if ds.length + 1 = np then m op ds S else .stuck
  | none => .stuck
theorem se_callL {k j : Nat} {f : Addr} {fd : FuncData} {ps : List Str} {m : (List D → M D) → List D → M D} {x : Str} {p pos : Pos} (O : Over C C0) (Fn : FnF X.prog X.w X.K X.mg X.base C0 k kf npf f fd ps m) (hr : Room j X.A) (hkj : k ≤ j) (hg : Gl X x) (hm : X.mg x = some (.ref f)) (hk : PySem.W.keepIn X.K (.ref f) = true)
    (hb : Binds X.K fd ps []) (tk : Takes X W) (h : SAF X C C0 W kf npf (e :: es) ml mo) (hdb : (x == ("__debug__" : Str)) = false) (he : starEach (e :: es) X.env = (false, eval e X.env) :: starEach es X.env) (hpl : (backTo pos (starEach es X.env)).any (·.1) = false) :
    SE X C W (.Call (.Name x p) (e :: es) [] pos) (eCallL m ps.length ml mo) := by
  refine ⟨⟨fun pins s σ H Q I ⟨α, F, S, env, R, Sl, P⟩ => ?_⟩⟩
  refine wpAny_Call_Name_kw (ld_glob I hg hm ?_ hdb)
  unfold eCallL at P
  cases eo : mo env with
  | none => rw [eo] at P; exact P.elim
  | some op =>
    rw [eo] at P
    simp only at P
    refine PySem.W.callWith_K (h₀ := X.base) I.ok.mod.kin hk (h.run pos pins s σ H α F S env op _ eo I R Sl ?_) he hpl
    cases q : ml env S with
    | stuck => rw [q] at P; exact P
    | exc x S1 => rw [q] at P; exact P
    | ok ds S1 =>
      rw [q] at P
      simp only [Res.bind] at P
      intro us vs g α' F' H' s' I' st R' rl rv cb
      refine ⟨I'.kIn, ?_⟩
      split at P
      · rename_i hl
        have hl2 : vs.length + 1 = ps.length := by rw [← rl.length]; exact hl
        have bt := hb s' (us ++ [.ref g]) I'.kIn (by rw [List.append_nil, List.length_append, ← rv.length]; exact hl2)
        rw [List.append_nil] at bt
        refine wpAny_call (codeAny_mono (Fn.run X.A X.stack s' H' ⟨us ++ [.ref g], []⟩ us vs Q (WE W σ) g op F' α' S1 ds (hr.mono hkj) I'.env0 bt rv hl2 cb (O.rst R') (O.rpl.mp rl) (O.post R' (PostE.step st P))) ?_)
        rintro (e | fl) s2 hq
        · exact passAt tk σ pins H' s' e s2 I' hq
        · cases fl with
          | ret u => exact I'.after hq
          | next => exact hq.elim
          | brk => exact hq.elim
          | cont => exact hq.elim
      · exact P.elim
/-- g(e, ..), g what was handed in -/
def eCallF (i : Nat) (npf : Nat) (op : List D → M D) (ml : EL) : E := fun env S => match env[i]? with
  | some (.f _) => (ml env S).bind fun ds S => if ds.length = npf then op ds S else .stuck
  | _ => .stuck
theorem slot_f {g a : Addr} {F0 : Hp} {A0 : List Addr} {j : Nat} (h : (C0.wf [g] F0 A0).fp[j]? = some a) : a = g := by
  cases j with
  | zero => exact (Option.some.inj h).symm
  | succ n => exact absurd h (by simp [Ctx.wf])
theorem se_callFv {k j i np : Nat} {g : Addr} {F0 : Hp} {A0 : List Addr} {x : Str} {p pos : Pos} {op : List D → M D} (hC : C = C0.wf [g] F0 A0) (B : Grd C0) (cb : Callb X.prog X.w X.K X.mg X.base (C0.wf [] F0 A0) k np X.outer X.s_0 X.H_0 g op) (hex : X.ex = []) (hr : Room j X.A) (hkj : k ≤ j)
    (tk : Takes X W) (hN : X.N[i]? = some x) (hv : Vis X.env.scope x) (hd : (x == ("__debug__" : Str)) = false) (hcd : (x == ("__classdict__" : Str)) = false) (ha : SEA X C W (e :: es) ml)
    (he : starEach (e :: es) X.env = (false, eval e X.env) :: starEach es X.env) (hpl : (backTo pos (starEach es X.env)).any (·.1) = false) : SE X C W (.Call (.Name x p) (e :: es) [] pos) (eCallF i np op ml) := by
  subst hC
  have O : Over (C0.wf [g] F0 A0) C0 := ⟨B, [g], F0, A0, rfl⟩
  refine ⟨⟨fun pins s σ H Q I ⟨α, F, S, env, R, Sl, P⟩ => ?_⟩⟩
  unfold eCallF at P
  split at P
  · rename_i jf q
    obtain ⟨a, ha', hgf⟩ := Sl.at_ i _ q
    have e := slot_f hgf
    subst e
    refine wpAny_Call_Name_kw (thn ((pe_var (pos := p) hN hv hd hcd).run pins s σ H (fun v H1 => v = .ref a ∧ H1 = H) I ⟨.ref a, ha', rfl, rfl⟩) fun u s1 ⟨v, H1, I1, r1, q1, q2⟩ => ?_)
    subst q1; subst q2
    obtain rfl : u = Value.ref a := r1
    have cb1 := cb.deeper I1 hex
    refine PySem.W.callWith_F (first := []) (cb1.at_ s1 H1 I1.bk Un.refl) (thn (ha.pa.run pos pins s1 σ H1 (fun vs H2 => ∃ α1 F1 S1 ds, Step α F H1 α1 F1 H2 ∧ Rst (C0.wf [a] F0 A0) α1 F1 H2 S1 ∧ RpL (C0.wf [a] F0 A0) α1 F1 ds vs ∧ PostE (C0.wf [a] F0 A0) W α1 F1 H2 σ _ Q) I1
      ⟨α, F, S, env, R, Sl, postE_A P fun ds S1 vs α1 F1 H2 st R1 r P1 => ⟨α1, F1, S1, ds, st, R1, r, P1⟩⟩) fun us s2 ⟨vs, H2, I2, rv, α1, F1, S1, ds, st, R1, rl, P1⟩ => ?_) he hpl
    have cb2 := (cb.deeper I2 hex).low R1.low R1.lowA
    refine ⟨cb2.at_ s2 H2 I2.bk Un.refl, ?_⟩
    show wpAny _ _ (call (.ref a) us) _ _ _
    split at P1
    · rename_i hl
      refine wpAny_call (codeAny_mono (cb2.run X.A X.stack s2 H2 us vs Q (WE W σ) (hr.mono hkj) I2.env0 Un.refl rv ⟨by rw [← rl.length]; exact hl, α1, F1, S1, ds, (O.rst R1).wf (Sub.refl _) (Pre.refl _), RpL.wf.mpr (O.rpl.mp rl), PostE.wf (B.low F1) (B.lowA α1) (O.post R1 P1)⟩) ?_)
      rintro (e | fl) s3 hq
      · exact passAt tk σ pins H2 s2 e s3 I2 hq
      · cases fl with
        | ret u => exact I2.after hq
        | next => exact hq.elim
        | brk => exact hq.elim
        | cont => exact hq.elim
    · exact P1.elim
  · exact P.elim
/-- g() -/
theorem se_callFv0 {k j i : Nat} {g : Addr} {F0 : Hp} {A0 : List Addr} {x : Str} {p pos : Pos} {op : List D → M D} (hC : C = C0.wf [g] F0 A0) (B : Grd C0) (cb : Callb X.prog X.w X.K X.mg X.base (C0.wf [] F0 A0) k 0 X.outer X.s_0 X.H_0 g op) (hex : X.ex = []) (hr : Room j X.A) (hkj : k ≤ j)
    (tk : Takes X W) (hN : X.N[i]? = some x) (hv : Vis X.env.scope x) (hd : (x == ("__debug__" : Str)) = false) (hcd : (x == ("__classdict__" : Str)) = false) : SE X C W (.Call (.Name x p) [] [] pos) (eCallF i 0 op eNil) := by
  subst hC
  have O : Over (C0.wf [g] F0 A0) C0 := ⟨B, [g], F0, A0, rfl⟩
  refine ⟨⟨fun pins s σ H Q I ⟨α, F, S, env, R, Sl, P⟩ => ?_⟩⟩
  unfold eCallF at P
  split at P
  · rename_i jf q
    obtain ⟨a, ha', hgf⟩ := Sl.at_ i _ q
    have e := slot_f hgf
    subst e
    simp only [eNil, Res.bind, List.length_nil, if_true] at P
    refine wpAny_Call_Name_kw (thn ((pe_var (pos := p) hN hv hd hcd).run pins s σ H (fun v H1 => v = .ref a ∧ H1 = H) I ⟨.ref a, ha', rfl, rfl⟩) fun u s1 ⟨v, H1, I1, r1, q1, q2⟩ => ?_)
    subst q1; subst q2
    obtain rfl : u = Value.ref a := r1
    have cb2 := (cb.deeper I1 hex).low R.low R.lowA
    refine PySem.W.callWith_F0 (first := []) (cb2.at_ s1 H1 I1.bk Un.refl) ?_
    show wpAny _ _ (call (.ref a) []) _ _ _
    refine wpAny_call (codeAny_mono (cb2.run X.A X.stack s1 H1 [] [] Q (WE W σ) (hr.mono hkj) I1.env0 Un.refl .nil ⟨rfl, α, F, S, [], (O.rst R).wf (Sub.refl _) (Pre.refl _), rfl, PostE.wf (B.low F) (B.lowA α) (O.post R P)⟩) ?_)
    rintro (e | fl) s3 hq
    · exact passAt tk σ pins H1 s1 e s3 I1 hq
    · cases fl with
      | ret u => exact I1.after hq
      | next => exact hq.elim
      | brk => exact hq.elim
      | cont => exact hq.elim
  · exact P.elim
end
end WL
set_option Elab.async false
set_option linter.all false
set_option maxRecDepth 100000
namespace WL
open PySem PySem.Spec L2 PyProof.Rows

/-! ## statements: what they are -/
def sNil : SS := fun env S => .next env S
def sSeq (a b : SS) : SS := fun env S => match a env S with
  | .next env S => b env S
  | r => r
def sSet (i : Nat) (e : E) : SS := fun env S => ResS.bindE (e env S) env fun d S => .next (env.set i (.d d)) S
def sExpr (e : E) : SS := fun env S => ResS.bindE (e env S) env fun _ S => .next env S
def sRet (e : E) : SS := fun env S => ResS.bindE (e env S) env fun d S => .ret d S
def sRetN : SS := fun _ S => .ret .non S
def sIf (t : ET) (a b : SS) : SS := fun env S => ResS.bindE (t env S) env fun c S => if c = true then a env S else b env S
def sBreak : SS := fun env S => .brk env S
def sCont : SS := fun env S => .cont env S
abbrev TgM := D → Env → Option Env
def gN (i : Nat) : TgM := fun d env => some (env.set i (.d d))
def gL : List TgM → List D → Env → Option Env
  | [], [], env => some env
  | t :: ts, d :: ds, env => (t d env).bind fun env => gL ts ds env
  | _, _, _ => none
def gT (ts : List TgM) : TgM := fun d env => match d with
  | .tup xs => gL ts xs env
  | .kt xs => gL ts xs env
  | _ => none
def sAsg (e : E) (t : TgM) : SS := fun env S => ResS.bindE (e env S) env fun d S => match t d env with
  | some env => .next env S
  | none => .stuck
def sPar (is : List Nat) (l : EL) : SS := fun env S => ResS.bindE (l env S) env fun ds S => if ds.length = is.length then .next ((is.zip ds).foldl (fun env p => env.set p.1 (.d p.2)) env) S else .stuck

section
variable {X : Cx} {C : Ctx} {W : WX} {a b e : Expr} {ma mb m : E} {t : ET} {pos pos' : Pos} {st : Stmt} {sts : List Stmt} {u v w : SS}
theorem Slots.put {α : List Addr} {F : Hp} {σ : L2.St} {env : Env} (h : Slots C α F σ env) (i : Nat) {d : D} {v : V} (r : Rp C α F d v) : Slots C α F (σ.set i (some v)) (env.set i (.d d)) := by
  by_cases hi : i < env.length
  · exact h.set hi r
  · rw [List.set_eq_of_length_le (by rw [h.len]; omega), List.set_eq_of_length_le (by omega)]
    exact h
theorem ss_nil : SSs X C W [] sNil := ⟨PSs_imp pss_nil fun D σ H ⟨α, F, S, env, R, Sl, P⟩ => P σ α F H (Step.refl _ _ _) R Sl⟩
theorem ss_one (h : SS1 X C W st u) : SSs X C W [st] u := ⟨pss_one h.ps⟩
theorem ss_cons (h : SS1 X C W st u) (k : SSs X C W sts v) : SSs X C W (st :: sts) (sSeq u v) := by
  refine ⟨PSs_imp (pss_cons h.ps k.pss) fun D σ H ⟨α, F, S, env, R, Sl, P⟩ => ⟨α, F, S, env, R, Sl, ?_⟩⟩
  unfold sSeq at P
  cases q : u env S with
  | next env' S' =>
    rw [q] at P
    intro σ' α' F' H' s R' Sl'
    exact ⟨α', F', S', env', R', Sl', PostS.step s P⟩
  | brk env' S' => rw [q] at P; exact P
  | cont env' S' => rw [q] at P; exact P
  | ret d S' => rw [q] at P; exact P
  | exc x env' S' => rw [q] at P; exact P
  | stuck => rw [q] at P; exact P
theorem ss_pass : SS1 X C W (.Pass pos) sNil := ⟨PS_imp ps_pass fun D σ H ⟨α, F, S, env, R, Sl, P⟩ => P σ α F H (Step.refl _ _ _) R Sl⟩
theorem ss_doc {x : Str} {j : Nat} : SS1 X C W (.Expr (.Constant (.str x) j pos) pos') sNil := ⟨PS_imp ps_doc fun D σ H ⟨α, F, S, env, R, Sl, P⟩ => P σ α F H (Step.refl _ _ _) R Sl⟩
theorem ss_break : SS1 X C W (.Break pos) sBreak := ⟨PS_imp ps_break fun D σ H ⟨α, F, S, env, R, Sl, P⟩ => P σ α F H (Step.refl _ _ _) R Sl⟩
theorem ss_cont : SS1 X C W (.Continue pos) sCont := ⟨PS_imp ps_continue fun D σ H ⟨α, F, S, env, R, Sl, P⟩ => P σ α F H (Step.refl _ _ _) R Sl⟩
theorem ss_retN : SS1 X C W (.Return none pos) sRetN := ⟨PS_imp ps_retN fun D σ H ⟨α, F, S, env, R, Sl, P⟩ => P .non α F H (Step.refl _ _ _) R rfl⟩
theorem ss_ret (h : SE X C W e m) : SS1 X C W (.Return (some e) pos) (sRet m) :=
  ⟨PS_imp (ps_ret h.pe) fun D σ H ⟨α, F, S, env, R, Sl, P⟩ => ⟨α, F, S, env, R, Sl, postS_E Sl P fun d S1 v α1 F1 H1 s1 R1 r P1 => P1 v α1 F1 H1 (Step.refl _ _ _) R1 r⟩⟩
theorem ss_expr (h : SE X C W e m) (hs : swapsWith e none pos.line X.env = pure false) : SS1 X C W (.Expr e pos) (sExpr m) :=
  ⟨PS_imp (ps_expr h.pe hs) fun D σ H ⟨α, F, S, env, R, Sl, P⟩ => ⟨α, F, S, env, R, Sl, postS_E Sl P fun d S1 v α1 F1 H1 s1 R1 r P1 => P1 σ α1 F1 H1 (Step.refl _ _ _) R1 (Sl.step s1)⟩⟩
theorem ss_if {c : Expr} {p q : List Stmt} (hc : SET X C W c t) (ha : SSs X C W p u) (hb : SSs X C W q v) : SS1 X C W (.If c p q pos) (sIf t u v) := by
  refine ⟨PS_imp (ps_if hc.pt ha.pss hb.pss) fun D σ H ⟨α, F, S, env, R, Sl, P⟩ => ⟨α, F, S, env, R, Sl, postS_T Sl P fun d S1 α1 F1 H1 s1 R1 P1 => ?_⟩⟩
  cases d with
  | true => exact ⟨α1, F1, S1, env, R1, Sl.step s1, P1⟩
  | false => exact ⟨α1, F1, S1, env, R1, Sl.step s1, P1⟩
theorem ss_set {i : Nat} {x : Str} (hN : X.N.Nodup) (hi : X.N[i]? = some x) (hx : Loc X.env.scope x) (hf : X.fn x = true ∨ X.env.scope.names.lookup x = some .local) (h : SE X C W e m) (hs : swapsWith e (some (.Name x pos')) pos.line X.env = pure false) :
    SS1 X C W (.Assign [.Name x pos'] e pos) (sSet i m) :=
  ⟨PS_imp (ps_set hN hi hx h.pe hs hf) fun D σ H ⟨α, F, S, env, R, Sl, P⟩ => ⟨α, F, S, env, R, Sl, postS_E Sl P fun d S1 v α1 F1 H1 s1 R1 r P1 => P1 _ α1 F1 H1 (Step.refl _ _ _) R1 ((Sl.step s1).put i r)⟩⟩

/-! ### targets -/
/-- only the slots vs are others -/
def Only (vs : List Nat) (σ σ' : L2.St) : Prop := σ'.length = σ.length ∧ ∀ i, i ∉ vs → σ'[i]? = σ[i]?
theorem Only.refl (σ : L2.St) : Only [] σ σ := ⟨rfl, fun _ _ => rfl⟩
theorem Only.trans {vs ws : List Nat} {a b c : L2.St} (h : Only vs a b) (k : Only ws b c) : Only (vs ++ ws) a c :=
  ⟨k.1.trans h.1, fun i hi => by rw [List.mem_append, not_or] at hi; exact (k.2 i hi.2).trans (h.2 i hi.1)⟩
def tG (C : Ctx) (tm : TgM) (vs : List Nat) : TG := fun v σ H Q => ∃ α F S env d, Rst C α F H S ∧ Slots C α F σ env ∧ Rp C α F d v ∧ ∃ env', tm d env = some env' ∧ ∀ σ', Slots C α F σ' env' → Only vs σ σ' → Q σ' H
def tGs (C : Ctx) (tm : List D → Env → Option Env) (vs : List Nat) : TGs := fun us σ H Q => ∃ α F S env ds, Rst C α F H S ∧ Slots C α F σ env ∧ RpL C α F ds us ∧ ∃ env', tm ds env = some env' ∧ ∀ σ', Slots C α F σ' env' → Only vs σ σ' → Q σ' H
structure SG (X : Cx) (C : Ctx) (tg : Expr) (tm : TgM) (vs : List Nat) : Prop where
  pg : PG X tg (tG C tm vs)
structure SGs (X : Cx) (C : Ctx) (tgs : List Expr) (tm : List TgM) (vs : List Nat) : Prop where
  pgs : PGs X tgs (tGs C (gL tm) vs)
theorem PG_imp {tg : Expr} {t t' : TG} (h : PG X tg t) (k : ∀ v σ H Q, t' v σ H Q → t v σ H Q) : PG X tg t' := ⟨fun pins s σ H v u Q I r q => h.run pins s σ H v u Q I r (k _ _ _ _ q)⟩
theorem PGs_imp {tg : List Expr} {t t' : TGs} (h : PGs X tg t) (k : ∀ v σ H Q, t' v σ H Q → t v σ H Q) : PGs X tg t' := ⟨fun pins s σ H v u Q I r q => h.run pins s σ H v u Q I r (k _ _ _ _ q)⟩
theorem sg_name {i : Nat} {x : Str} (hN : X.N.Nodup) (hi : X.N[i]? = some x) (hx : Loc X.env.scope x) (hf : X.fn x = true ∨ X.env.scope.names.lookup x = some .local) : SG X C (.Name x pos) (gN i) [i] := by
  refine ⟨PG_imp (pg_name hN hi hx hf) fun v σ H Q ⟨α, F, S, env, d, R, Sl, r, env', e, q⟩ => ?_⟩
  cases e
  exact q _ (Sl.put i r) ⟨List.length_set .., fun j hj => List.getElem?_set_ne fun z => hj (by rw [z]; exact List.mem_cons_self ..)⟩
theorem sgs_nil : SGs X C [] [] [] := by
  refine ⟨PGs_imp pgs_nil fun v σ H Q ⟨α, F, S, env, ds, R, Sl, r, env', e, q⟩ => ?_⟩
  cases ds with
  | nil => cases e; exact ⟨r, q _ Sl (Only.refl _)⟩
  | cons d ds => cases e
theorem sgs_cons {tg : Expr} {tgs : List Expr} {tm : TgM} {tms : List TgM} {vs ws : List Nat} (h : SG X C tg tm vs) (k : SGs X C tgs tms ws) (hs : (assignEach (tg :: tgs) X.env).map (·.2) = assign tg X.env :: (assignEach tgs X.env).map (·.2)) : SGs X C (tg :: tgs) (tm :: tms) (vs ++ ws) := by
  refine ⟨PGs_imp (pgs_cons h.pg k.pgs hs) fun us σ H Q ⟨α, F, S, env, ds, R, Sl, r, env', e, q⟩ => ?_⟩
  cases ds with
  | nil => cases e
  | cons d ds =>
    obtain ⟨v, rest, ev, r1, r2⟩ := r
    obtain ⟨env1, e1, e2⟩ := Option.bind_eq_some_iff.mp e
    exact ⟨v, rest, ev, α, F, S, env, d, R, Sl, r1, env1, e1, fun σ1 Sl1 o1 => ⟨α, F, S, env1, ds, R, Sl1, r2, env', e2, fun σ2 Sl2 o2 => q σ2 Sl2 (o1.trans o2)⟩⟩
theorem gL_len : ∀ {ts : List TgM} {ds : List D} {env env' : Env}, gL ts ds env = some env' → ds.length = ts.length
  | [], [], _, _, _ => rfl
  | [], _ :: _, _, _, e => by cases e
  | _ :: _, [], _, _, e => by cases e
  | _ :: ts, _ :: ds, env, env', e => by
    obtain ⟨env1, e1, e2⟩ := Option.bind_eq_some_iff.mp e
    rw [List.length_cons, List.length_cons, gL_len e2]
theorem sg_tup {es : List Expr} {tms : List TgM} {k : Nat} {ws : List Nat} (hX : X.K = C.K) (hc : X.calm = true) (h : SGs X C es tms ws) (hn : (assignEach es X.env).length = tms.length) (hst : (assignEach es X.env).findIdx? (·.1) = none) : SG X C (.Tuple es k pos) (gT tms) ws := by
  refine ⟨PG_imp (pg_tup hc h.pgs hn hst) fun v σ H Q ⟨α, F, S, env, d, R, Sl, r, env', e, q⟩ => ?_⟩
  unfold gT at e
  split at e
  · obtain ⟨p, vs, ev, hq, l⟩ := r
    exact ⟨p, vs, ev, SqT.of (R.sub _ _ hq), by rw [← l.length]; exact gL_len e, α, F, S, env, _, R, Sl, l, env', e, q⟩
  · obtain ⟨p, vs, ev, hq, l⟩ := r
    exact ⟨p, vs, ev, by rw [hX]; exact R.sub.sqT hq, by rw [← l.length]; exact gL_len e, α, F, S, env, _, R, Sl, l, env', e, q⟩
  · cases e
theorem ss_asg {tg : Expr} {tm : TgM} {ws : List Nat} (h : SE X C W e m) (g : SG X C tg tm ws) (hs : swapsWithSole [tg] e pos.line X.env = pure false) (hw : swappedStores [tg] e X.env = pure none) (h1 : (assignEach [tg] X.env).map (·.2) = [assign tg X.env]) : SS1 X C W (.Assign [tg] e pos) (sAsg m tm) := by
  refine ⟨PS_imp (ps_asg h.pe g.pg hs hw h1) fun D σ H ⟨α, F, S, env, R, Sl, P⟩ => ⟨α, F, S, env, R, Sl, postS_E Sl P fun d S1 v α1 F1 H1 s1 R1 r P1 => ?_⟩⟩
  cases q : tm d env with
  | none => rw [q] at P1; exact P1.elim
  | some env' =>
    rw [q] at P1
    exact ⟨α1, F1, S1, env, d, R1, Sl.step s1, r, env', q, fun σ' Sl' _ => P1 σ' α1 F1 H1 (Step.refl _ _ _) R1 Sl'⟩
theorem ss_par {i j : Nat} {x y : Str} {ml : EL} {px py pt : Pos} {kt k2 : Nat} {pt2 : Pos} (hc : X.calm = true) (hN : X.N.Nodup) (hi : X.N[i]? = some x) (hj : X.N[j]? = some y) (hij : i ≠ j) (hx : X.env.scope.names.lookup x = some .local) (hy : X.env.scope.names.lookup y = some .local)
    (h : SEA X C W [a, b] ml) (hw : swappedStores [.Tuple [.Name x px, .Name y py] kt pt] (.Tuple [a, b] k2 pt2) X.env = pure (some [x, y])) (hs : swapsWithSole [.Tuple [.Name x px, .Name y py] kt pt] (.Tuple [a, b] k2 pt2) pos.line X.env = pure false) :
    SS1 X C W (.Assign [.Tuple [.Name x px, .Name y py] kt pt] (.Tuple [a, b] k2 pt2) pos) (sPar [i, j] ml) := by
  refine ⟨PS_imp (ps_par hc hN hi hj hij hx hy h.pa hw hs) fun D σ H ⟨α, F, S, env, R, Sl, P⟩ => ⟨α, F, S, env, R, Sl, postS_A Sl P fun ds S1 vs α1 F1 H1 s1 R1 r P1 => ?_⟩⟩
  split at P1
  · rename_i hl
    have hl2 : ds.length = 2 := hl
    obtain ⟨d, d', rfl⟩ : ∃ d d', ds = [d, d'] := by
      match ds, hl2 with
      | [d, d'], _ => exact ⟨d, d', rfl⟩
    obtain ⟨v, v', ev, r1, r2⟩ := r.two_inv
    exact ⟨v, v', ev, P1 _ α1 F1 H1 (Step.refl _ _ _) R1 (((Sl.step s1).put i r1).put j r2)⟩
  · exact P1.elim
end
end WL
set_option Elab.async false
set_option linter.all false
set_option maxRecDepth 100000
namespace WL
open PySem PySem.Spec L2 PyProof.Rows

/-! ## enumerate(t), t a tuple -/
set_option maxHeartbeats 1000000 in
theorem enum1_meets {v : Value} {o : Obj} {Hv : Heap → Prop} (B : Begins v o Hv) : Meets (Builtin.«enumerate.__new__» ⟨[.type "enumerate", v], []⟩) (fun _ R s => Hv s.heap ∧
    R (.ok (.ret (.ref (s.heap.push o).objs.size))) { s with heap := (s.heap.push o).push { cls := .type "enumerate", data := .fields #[.none, .bool false, .ref s.heap.objs.size, rawInt 0, .none, .none] } }) :=
  .of_wp fun prog w A R s h => by
    obtain ⟨hp, gg, dd, tt, oo⟩ := s
    obtain ⟨hv, hR⟩ := h
    have sb := sub_enumerate
    have beg : ∀ {A' : Around} {E : Value → Shared → Prop} {Q : Value → Shared → Prop}, Q (.ref hp.objs.size) ⟨hp.push o, gg, dd, tt, oo⟩ → wpAny (model prog w) A' (pyIter v) Q E ⟨hp, gg, dd, tt, oo⟩ := fun z => B.iter prog w _ _ ⟨hp, gg, dd, tt, oo⟩ _ hv z
    wp_walk using beg
    refine wpAny_stack_any fun frames => wpAny_pure ?_
    split
    · rename_i c _ _ _ _ _
      cases (c == Value.type "enumerate") <;> (wp_walk using beg; exact ⟨_, rfl, hR⟩)
    · wp_walk using beg
      exact ⟨_, rfl, hR⟩
theorem enum1_call {prog : Program} {w : World} {A : Around} {E : Value → Shared → Prop} {s : Shared} {v : Value} {o : Obj} {Hv : Heap → Prop} {Q : Value → Shared → Prop} (B : Begins v o Hv) (h1 : Hv s.heap)
    (h : ∀ h', IsEnum h' (s.heap.objs.size + 1) s.heap.objs.size 0 .none → h'.get? s.heap.objs.size = some o → h'.objs.size = s.heap.objs.size + 2 → (∀ b o, s.heap.get? b = some o → h'.get? b = some o) → Q (.ref (s.heap.objs.size + 1)) { s with heap := h' }) :
    wpAny (model prog w) A (call (.type "enumerate") [v]) Q E s := by
  refine callType_new F.called_enumerate (by decide) (F.typeCall_enumerate_1 _) (F.newCall_enumerate_1 _) (fun obj => F.args_object_init_2 obj _) F.entry_enumerate_new (enum1_meets B) ⟨h1, ?_⟩
  have sz : (s.heap.push o).objs.size = s.heap.objs.size + 1 := Heap.size_push ..
  have en : IsEnum ((s.heap.push o).push { cls := .type "enumerate", data := .fields #[.none, .bool false, .ref s.heap.objs.size, rawInt 0, .none, .none] }) (s.heap.objs.size + 1) s.heap.objs.size 0 .none := by
    have z := Heap.get?_push_size (s.heap.push o) (o := { cls := .type "enumerate", data := .fields #[.none, .bool false, .ref s.heap.objs.size, rawInt 0, .none, .none] }) rfl
    rw [sz] at z
    exact z
  show _ ∧ _
  rw [sz]
  exact ⟨⟨_, en, rfl⟩, h _ en (Heap.get?_push_of_some _ (Heap.get?_push_size _ B.free)) (by rw [Heap.size_push, sz]) fun b u x => Heap.get?_push_of_some _ (Heap.get?_push_of_some _ x)⟩
/-- the tuple at a, each item in a new pair -/
def IteT (K : PySem.W.Frag) (a : Addr) : It :=
  ⟨fun i H => ∃ (xs : List V) (x : V), SqT K H a xs ∧ xs[i]? = some x, fun i H v H' => ∃ T x, v = .ref T ∧ H T = none ∧ H' = upd H T (.tup [.int (i : Nat), x]) ∧ ∀ xs, SqT K H a xs → xs[i]? = some x, fun i H => ∃ xs : List V, SqT K H a xs ∧ xs.length ≤ i⟩
theorem turn_enumT {P : Program} {w : World} {K : PySem.W.Frag} {elts : List Expr} {kk : Nat} {tpos : Pos} (a e it : Addr) (hae : a ≠ e) (hai : a ≠ it) (hei : e ≠ it) :
    Turn P w K (.Tuple elts kk tpos) (IteT K a) [e, it] e (fun i h => (∃ old, IsEnum h e it ((i : Nat) : Int) old) ∧ h.IsTupleIter it a i) where
  mem := List.mem_cons_self ..
  obj := fun i h ⟨⟨old, he⟩, ⟨o, ho, hc, hd⟩⟩ b hb => by
    rcases (show b = e ∨ b = it by simpa using hb) with z | z
    · rw [z]; exact ⟨_, he, fun v q => nomatch q⟩
    · rw [z]; exact ⟨o, ho, fun v q => by rw [hd] at q; cases q⟩
  keep := fun i h h' ⟨⟨old, he⟩, hi⟩ k => ⟨⟨old, k e (by simp) _ he⟩, hi.at fun o q => k it (by simp) o q⟩
  item := fun X hP hw hK hc i pins s σ H E I hf st hg => by
    subst hP hw hK
    obtain ⟨⟨old, he⟩, hit⟩ := st
    obtain ⟨xs, x, hq, hx⟩ := hg
    obtain ⟨its, rv, p, _⟩ := I.tuple hq
    obtain ⟨u, hu, ru⟩ := rv.get hx
    have lte : e < s.heap.objs.size := Heap.lt_size he
    have lti : it < s.heap.objs.size := by obtain ⟨_, q, _⟩ := hit; exact Heap.lt_size q
    have DT := Draws.tuple (prog := X.prog) (w := X.w) (A := X.A.in1) (show X.A.in1.handled = none from I.ok.hd hc) it a hai its.toArray
    have iu : its.toArray[i]? = some u := by simpa using hu
    refine wpAny_pyNext_enum_itemD DT he ⟨hit, show s.heap.IsTuple a its.toArray from p⟩ (Array.getElem?_eq_some_iff.mp iu).1 hei (by simp [hei, Ne.symm hae]) fun x' h' tk hP ho st' hT hsz hk => ?_
    obtain rfl : x' = u := by
      have z : its.toArray[i]? = some x' := hP
      rw [iu] at z
      exact (Option.some.inj z).symm
    refine ⟨_, rfl, wpAny_letOwnedTupleGo_enum (s := { s with heap := h', toks := tk + 1 }) ho fun h'' he' sb => ?_⟩
    have hT2 : h''.get? s.heap.objs.size = some { cls := .type "tuple", data := .seq #[.int i tk, x'] } := (sb.2 _ (Nat.ne_of_gt lte)).trans hT
    have nw : ObjOk X.prog X.w (upd H s.heap.objs.size (.tup [.int (i : Nat), x])) h'' s.heap.objs.size (.tup [.int (i : Nat), x]) :=
      ⟨by show 2 ≤ sizeLine; decide, [.int i tk, x'], .cons ⟨_, rfl⟩ (.cons ru .nil), _, hT2, rfl, _, rfl⟩
    have I1 : Inv X pins σ (upd H s.heap.objs.size (.tup [.int (i : Nat), x])) { s with heap := h'', toks := tk + 1 } :=
      I.turnedNew (ch := [e, it]) (fun b ob hb q => (sb.2 b (fun z => hb (by simp [z]))).trans (hk b ob (fun z => hb (by simp [z])) (fun z => hb (by simp [z])) q)) hf (Nat.le_refl _) nw
    refine ⟨.ref s.heap.objs.size, _, I1, rfl, ⟨_, x, rfl, I.hok.fresh (Nat.le_refl _), rfl, fun ys hy => by rw [I.tuple_inj hy hq]; exact hx⟩, ⟨⟨x', ?_⟩, st'.1.at fun o q => (sb.2 it (Ne.symm hei)).trans q⟩, fun b hb => ?_⟩
    · rw [show ((i + 1 : Nat) : Int) = (i : Int) + 1 by omega]; exact he'
    · have lb : b < s.heap.objs.size := by
        rcases (show b = e ∨ b = it by simpa using hb) with z | z <;> (rw [z]; assumption)
      rw [upd_ne (Nat.ne_of_lt lb)]
      exact (hf b hb).1
  done := fun X hP hw hK hc i pins s σ H E I hf st hg => by
    subst hP hw hK
    obtain ⟨⟨old, he⟩, hit⟩ := st
    obtain ⟨xs, hq, hx⟩ := hg
    obtain ⟨its, rv, p, _⟩ := I.tuple hq
    obtain ⟨f0, f1, f2, f3, f4, f5⟩ := hf it (by simp)
    have hT : s.TypeIs (.ref e) "enumerate" := ⟨_, he, rfl⟩
    have ln := rv.length
    unfold pyNext
    refine wpAny_bind (wpAny_attempt (wpAny_callSpecial?_slot (name := Str.ofString "__next__") hT F.slot_enumerate_next (wpAny_call_entry F.slot_enumerate_next hT F.entry_enumerate_next ?_ (F.args_enumerate_next_1 _))))
    show wpAny _ _ (field (.ref e) 2 >>= _) _ _ _
    refine wpAny_bind (wpAny_field he rfl (x := .ref it) rfl (wpAny_bind (wpAny_nextOf_tuple_end (show X.A.in1.handled = none from I.ok.hd hc) hit (show s.heap.IsTuple a its.toArray from p) (by simp; omega) fun h' x eb ⟨o, ho, hcl⟩ => ?_)))
    refine wpAny_bind (wpAny_isInstance (T := "StopIteration") (b := true) ⟨o, ho, hcl⟩ isSubtype_stop (wpAny_pure ?_))
    exact ⟨rfl, I.turned (t' := s.toks) (fun b o hb q => eb b o hb q) f0 f1 f3 f4 f5⟩
  self := fun A i s Q E ⟨⟨_, he⟩, _⟩ h => wpAny_pyIter_enum he h

/-! ## what a loop goes through -/
/-- the item of the turn i: none where it can't be told, some none at the end -/
abbrev ItM := Nat → Store → Option (Option D)
def itL (xs : List D) : ItM := fun i _ => some xs[i]?
def itR (j : Nat) : ItM := fun i S => match S[j]? with
  | some (some (.lst xs)) => some xs[i]?
  | _ => none
def itN (lo : Int) (n : Nat) : ItM := fun i _ => some (if i < n then some (.int (lo + i)) else none)
def itE (it : ItM) : ItM := fun i S => (it i S).map fun o => o.map fun d => .tup [.int i, d]
def ItOk (C : Ctx) (J : It) (it : ItM) (α0 : List Addr) (F0 : Hp) : Prop := ∀ (α : List Addr) (F H : Hp) (S : Store) (i : Nat), Pre α0 α → Sub F0 F → Rst C α F H S →
  (it i S = some none → J.stop i H) ∧ ∀ d, it i S = some (some d) → J.go i H ∧ ∀ x H', J.yld i H x H' → ∃ F', Step α F H α F' H' ∧ Rst C α F' H' S ∧ Rp C α F' d x
abbrev EI := Env → Store → Res (ItM × Nat)
def tI (C : Ctx) (W : WX) (m : EI) : TI := fun σ H R => ∃ α F S env, Rst C α F H S ∧ Slots C α F σ env ∧ PostG C W α F H σ (m env S) fun p α' F' H' _ => ∀ J, ItOk C J p.1 α' F' → R J H'
structure SI (X : Cx) (C : Ctx) (W : WX) (tg iter : Expr) (m : EI) : Prop where
  pi : PI X tg iter (tI C W m)
def forGo (it : ItM) (tm : TgM) (mb : SS) : Nat → Nat → SS
  | 0, _ => fun _ _ => .stuck
  | n + 1, i => fun env S => match it i S with
    | none => .stuck
    | some none => .next env S
    | some (some d) => match tm d env with
      | none => .stuck
      | some env1 => match mb env1 S with
        | .next e S => forGo it tm mb n (i + 1) e S
        | .cont e S => forGo it tm mb n (i + 1) e S
        | .brk e S => .next e S
        | .ret d S => .ret d S
        | .exc x e S => .exc x e S
        | .stuck => .stuck
def sFor (mi : EI) (tm : TgM) (mb : SS) : SS := fun env S => ResS.bindE (mi env S) env fun p S => forGo p.1 tm mb p.2 0 env S
section
variable {X : Cx} {C : Ctx} {W : WX} {tg iter : Expr} {m : EI} {tm : TgM} {mb : SS} {body : List Stmt} {pos : Pos} {ws : List Nat}
theorem ss_for (hp : PassesOwn (model X.prog X.w) X.A X.env X.xe) (hc : X.calm = true) (hi : SI X C W tg iter m) (hg : SG X C tg tm ws) (hb : SSs X C W body mb) (hs : ∀ x, foldedSetIterable iter X.env x = pure x) : SS1 X C W (.For tg iter body [] pos) (sFor m tm mb) := by
  refine ⟨PS_imp (ps_for hp hc hi.pi hg.pg hb.pss hs) fun D σ H ⟨α, F, S, env, R, Sl, P⟩ => ⟨α, F, S, env, R, Sl, ?_⟩⟩
  unfold sFor at P
  cases q : m env S with
  | stuck => rw [q] at P; exact P
  | exc x S1 =>
    rw [q] at P
    exact fun cls dx α' F' H' s R' xx => P σ cls dx α' F' H' s R' (Sl.step s) xx
  | ok p S1 =>
    rw [q] at P
    intro α1 F1 H1 s1 R1 J io
    have P1 : PostS C W α1 F1 H1 D (forGo p.1 tm mb p.2 0 env S1) := PostS.step s1 P
    refine ⟨fun i n σ H => ∃ α F S env, Pre α1 α ∧ Sub F1 F ∧ Rst C α F H S ∧ Slots C α F σ env ∧ PostS C W α F H D (forGo p.1 tm mb n i env S), ⟨p.2, α1, F1, S1, env, Pre.refl _, Sub.refl _, R1, Sl.step s1, P1⟩, fun i n σ2 H2 ⟨α2, F2, S2, env2, pp, sf, R2, Sl2, P2⟩ => ?_⟩
    cases n with
    | zero => exact (show False from P2).elim
    | succ n =>
      have io2 := io α2 F2 H2 S2 i pp sf R2
      unfold forGo at P2
      cases qi : p.1 i S2 with
      | none => rw [qi] at P2; exact (show False from P2).elim
      | some o =>
        cases o with
        | none =>
          rw [qi] at P2
          exact .inl ⟨io2.1 qi, P2 σ2 α2 F2 H2 (Step.refl _ _ _) R2 Sl2⟩
        | some d =>
          rw [qi] at P2
          simp only at P2
          obtain ⟨go, yl⟩ := io2.2 d qi
          refine .inr ⟨go, fun σ' H' => ∃ α F S env, Pre α1 α ∧ Sub F1 F ∧ Rst C α F H' S ∧ Slots C α F σ' env ∧ PostS C W α F H' D (forGo p.1 tm mb n (i + 1) env S), fun σ' H' h => ⟨n, Nat.lt_succ_self n, h⟩, fun x H' y => ?_⟩
          obtain ⟨F', s', R', r'⟩ := yl x H' y
          cases qt : tm d env2 with
          | none => rw [qt] at P2; exact (show False from P2).elim
          | some env3 =>
            rw [qt] at P2
            simp only at P2
            refine ⟨α2, F', S2, env2, d, R', Sl2.step s', r', env3, qt, fun σ3 Sl3 _ => ⟨α2, F', S2, env3, R', Sl3, ?_⟩⟩
            have P3 := PostS.step s' P2
            cases qb : mb env3 S2 with
            | next e S3 =>
              rw [qb] at P3
              exact fun σ4 α4 F4 H4 s4 R4 Sl4 => ⟨α4, F4, S3, e, pp.trans (s'.pre.trans s4.pre), sf.trans (s'.frz.trans s4.frz), R4, Sl4, PostS.step s4 P3⟩
            | cont e S3 =>
              rw [qb] at P3
              exact fun σ4 α4 F4 H4 s4 R4 Sl4 => ⟨α4, F4, S3, e, pp.trans (s'.pre.trans s4.pre), sf.trans (s'.frz.trans s4.frz), R4, Sl4, PostS.step s4 P3⟩
            | brk e S3 => rw [qb] at P3; exact P3
            | ret v S3 => rw [qb] at P3; exact P3
            | exc x e S3 => rw [qb] at P3; exact P3
            | stuck => rw [qb] at P3; exact (show False from P3).elim
end
end WL
set_option Elab.async false
set_option linter.all false
set_option maxRecDepth 100000
namespace WL
open PySem PySem.Spec L2 PyProof.Rows
section
variable {X : Cx} {C : Ctx} {W : WX} {tg e e2 iter : Expr} {es : List Expr} {ma : E} {ml : EL} {pos p : Pos}
theorem PI_imp {wi wi' : TI} (h : PI X tg iter wi) (k : ∀ σ H R, wi' σ H R → wi σ H R) : PI X tg iter wi' := ⟨fun pins s σ H R I q => h.run pins s σ H R I (k σ H R q)⟩
/-- what the value is -/
def GotE {β : Type} (C : Ctx) (W : WX) (α : List Addr) (F H : Hp) (σ : L2.St) (r : Res D) (k : D → Store → Res β) (G : β → List Addr → Hp → Hp → Store → Prop) : VK := fun v H1 =>
  ∃ d S1 α1 F1, r = .ok d S1 ∧ Step α F H α1 F1 H1 ∧ Rst C α1 F1 H1 S1 ∧ Rp C α1 F1 d v ∧ PostG C W α F H σ (k d S1) G
theorem postE_get {α : List Addr} {F H : Hp} {σ : L2.St} {r : Res D} {β : Type} {k : D → Store → Res β} {G : β → List Addr → Hp → Hp → Store → Prop} (h : PostG C W α F H σ (r.bind k) G) :
    PostE C W α F H σ r (GotE C W α F H σ r k G) := by
  cases r with
  | ok d S1 => exact fun v α1 F1 H1 s1 R1 r1 => ⟨d, S1, α1, F1, rfl, s1, R1, r1, h⟩
  | exc x S1 => exact h
  | stuck => exact h
theorem postA_get {α : List Addr} {F H : Hp} {σ : L2.St} {r : Res (List D)} {β : Type} {k : List D → Store → Res β} {G : β → List Addr → Hp → Hp → Store → Prop} (h : PostG C W α F H σ (r.bind k) G) :
    PostA C W α F H σ r fun v H1 => ∃ d S1 α1 F1, r = .ok d S1 ∧ Step α F H α1 F1 H1 ∧ Rst C α1 F1 H1 S1 ∧ RpL C α1 F1 d v ∧ PostG C W α F H σ (k d S1) G := by
  cases r with
  | ok d S1 => exact fun v α1 F1 H1 s1 R1 r1 => ⟨d, S1, α1, F1, rfl, s1, R1, r1, h⟩
  | exc x S1 => exact h
  | stuck => exact h

theorem PostE.imp {α : List Addr} {F H : Hp} {σ : L2.St} {r : Res D} {Q Q' : VK} (h : PostE C W α F H σ r Q) (k : ∀ v H, Q v H → Q' v H) : PostE C W α F H σ r Q' := by
  cases r with
  | ok d S1 => exact fun v α1 F1 H1 s1 R1 r1 => k _ _ (h v α1 F1 H1 s1 R1 r1)
  | exc x S1 => exact h
  | stuck => exact h
/-! ### lists, tuples -/
theorem it_stay {α : List Addr} {F H : Hp} {S : Store} (R : Rst C α F H S) {d : D} {x : V} (r : Rp C α F d x) : ∃ F', Step α F H α F' H ∧ Rst C α F' H S ∧ Rp C α F' d x := ⟨F, Step.refl _ _ _, R, r⟩
theorem itok_list {α : List Addr} {F : Hp} {a : Addr} {vs : List V} {xs : List D} (q : SqL C.K F a vs) (l : RpL C α F xs vs) : ItOk C (Itl C.K a) (itL xs) α F := by
  intro α' F' H' S' i pp sf R
  have q' : SqL C.K H' a vs := R.sub.sqL (sf.sqL q)
  refine ⟨fun e => ⟨vs, q', ?_⟩, fun d e => ?_⟩
  · have e' : xs[i]? = none := by simpa [itL] using e
    rw [← l.length]; exact List.getElem?_eq_none_iff.mp e'
  · have e' : xs[i]? = some d := by simpa [itL] using e
    obtain ⟨v, hv, rv⟩ := l.get e'
    refine ⟨⟨vs, v, q', hv⟩, fun x H2 ⟨hh, y⟩ => ?_⟩
    subst hh
    have z := y vs q'
    rw [hv] at z
    cases z
    exact it_stay R (rv.mono pp sf)
theorem itok_tup {α : List Addr} {F : Hp} {a : Addr} {vs : List V} {xs : List D} (q : SqT C.K F a vs) (l : RpL C α F xs vs) : ItOk C (Itt C.K a) (itL xs) α F := by
  intro α' F' H' S' i pp sf R
  have q' : SqT C.K H' a vs := R.sub.sqT (sf.sqT q)
  refine ⟨fun e => ⟨vs, q', ?_⟩, fun d e => ?_⟩
  · have e' : xs[i]? = none := by simpa [itL] using e
    rw [← l.length]; exact List.getElem?_eq_none_iff.mp e'
  · have e' : xs[i]? = some d := by simpa [itL] using e
    obtain ⟨v, hv, rv⟩ := l.get e'
    refine ⟨⟨vs, v, q', hv⟩, fun x H2 ⟨hh, y⟩ => ?_⟩
    subst hh
    have z := y vs q'
    rw [hv] at z
    cases z
    exact it_stay R (rv.mono pp sf)
theorem itok_reg {α : List Addr} {F : Hp} {a : Addr} {j : Nat} (ha : α[j]? = some a) : ItOk C (Itl C.K a) (itR j) α F := by
  intro α' F' H' S' i pp sf R
  have key : ∀ xs, S'[j]? = some (some (.lst xs)) → ∃ vs, SqL C.K H' a vs ∧ RpL C α' F' xs vs := fun xs hj => by
    obtain ⟨o, h2, h3, vs, h4, l⟩ := R.live hj (pp _ _ ha)
    subst h4
    exact ⟨vs, SqL.of h3, l⟩
  unfold itR
  constructor
  · intro e
    split at e
    · rename_i _ xs hj
      obtain ⟨vs, q, l⟩ := key xs hj
      exact ⟨vs, q, by rw [← l.length]; exact List.getElem?_eq_none_iff.mp (Option.some.inj e)⟩
    · cases e
  · intro d e
    split at e
    · rename_i _ xs hj
      obtain ⟨vs, q, l⟩ := key xs hj
      obtain ⟨v, hv, rv⟩ := l.get (Option.some.inj e)
      refine ⟨⟨vs, v, q, hv⟩, fun x H2 ⟨hh, y⟩ => ?_⟩
      subst hh
      have z := y vs q
      rw [hv] at z
      cases z
      exact it_stay R rv
    · cases e
/-- how a value is gone through: a list, or a tuple -/
inductive SeqK where
  | l (it : ItM) (n : Nat) | t (it : ItM) (n : Nat)
def seqIt (S : Store) : D → Option SeqK
  | .reg j => match S[j]? with
    | some (some (.lst xs)) => some (.l (itR j) (xs.length + 1))
    | _ => none
  | .lst xs => some (.l (itL xs) (xs.length + 1))
  | .scr ns => some (.l (itL (ns.map .int)) (ns.length + 1))
  | .tup xs => some (.t (itL xs) (xs.length + 1))
  | .kt xs => some (.t (itL xs) (xs.length + 1))
  | _ => none
theorem RpL.ints {α : List Addr} {F : Hp} : ∀ (ns : List Int), RpL C α F (ns.map .int) (ns.map V.int)
  | [] => rfl
  | n :: ns => ⟨.int n, _, rfl, rfl, RpL.ints ns⟩
def SeqK.Ok (C : Ctx) (α : List Addr) (F H : Hp) (a : Addr) : SeqK → Prop
  | .l it _ => (∃ vs, SqL C.K H a vs) ∧ ItOk C (Itl C.K a) it α F
  | .t it _ => (∃ vs, SqT C.K H a vs) ∧ ItOk C (Itt C.K a) it α F
theorem seqIt_of {α : List Addr} {F H : Hp} {S : Store} {d : D} {v : V} {k : SeqK} (R : Rst C α F H S) (r : Rp C α F d v) (e : seqIt S d = some k) : ∃ a, v = .ref a ∧ k.Ok C α F H a := by
  cases d <;> dsimp only [seqIt] at e <;> first | (cases e; done) | skip
  · cases e
    obtain ⟨a, vs, ev, h, l⟩ := r
    exact ⟨a, ev, ⟨vs, SqT.of (R.sub _ _ h)⟩, itok_tup (SqT.of h) l⟩
  · cases e
    obtain ⟨a, vs, ev, h, l⟩ := r
    exact ⟨a, ev, ⟨vs, R.sub.sqT h⟩, itok_tup h l⟩
  · cases e
    obtain ⟨a, vs, ev, h, l⟩ := r
    exact ⟨a, ev, ⟨vs, SqL.of (R.sub _ _ h)⟩, itok_list (SqL.of h) l⟩
  · rename_i ns
    cases e
    obtain ⟨a, ev, h⟩ := r
    exact ⟨a, ev, ⟨_, R.sub.sqL h⟩, itok_list h (RpL.ints ns)⟩
  · split at e
    · rename_i _ xs hj
      cases e
      obtain ⟨a, ev, ha⟩ := r
      obtain ⟨o, h2, h3, vs, h4, l⟩ := R.live hj ha
      subst h4
      exact ⟨a, ev, ⟨vs, SqL.of h3⟩, itok_reg ha⟩
    · cases e
def SeqK.pr : SeqK → ItM × Nat
  | .l it n => (it, n)
  | .t it n => (it, n)
def iSeq (ma : E) : EI := fun env S => (ma env S).bind fun d S => match seqIt S d with
  | some k => .ok k.pr S
  | none => .stuck
theorem si_seq (hX : X.K = C.K) (ha : SE X C W e ma) : SI X C W tg e (iSeq ma) := by
  refine ⟨⟨fun pins s σ H RR I ⟨α, F, S, env, R, Sl, P⟩ => ?_⟩⟩
  refine thn (ha.pe.run pins s σ H _ I ⟨α, F, S, env, R, Sl, postE_get P⟩) fun u s1 ⟨v, H1, I1, r1, d, S1, α1, F1, qe, st, R1, rd, P1⟩ => ?_
  simp only at P1
  cases q : seqIt S1 d with
  | none => rw [q] at P1; exact P1.elim
  | some k =>
    rw [q] at P1
    have P2 := P1 α1 F1 H1 st R1
    obtain ⟨a, ev, hk⟩ := seqIt_of R1 rd q
    subst ev
    obtain rfl : u = Value.ref a := r1
    have fr1 : ∀ b ∈ [s1.heap.objs.size], FpOk X pins H1 b := fun b hb => by
      obtain rfl : b = s1.heap.objs.size := by simpa using hb
      exact I1.fpOk (Nat.le_refl _) (I1.hok.fresh (Nat.le_refl _))
    cases k with
    | l it n =>
      obtain ⟨⟨vs, hv⟩, ok⟩ := hk
      rw [← hX] at hv ok
      obtain ⟨its, rv, pl, _⟩ := I1.list hv
      exact wpAny_pyIter_list pl.isList ⟨s1.heap.objs.size, [s1.heap.objs.size], _, _, H1, rfl, I1.kept (t' := s1.toks) fun b o e => Heap.get?_push_of_some _ e, turn_list a _, ⟨_, Heap.get?_push_size _ rfl, rfl, rfl⟩, fr1, P2 _ ok⟩
    | t it n =>
      obtain ⟨⟨vs, hv⟩, ok⟩ := hk
      rw [← hX] at hv ok
      obtain ⟨its, rv, pl, _⟩ := I1.tuple hv
      exact wpAny_pyIter_tuple (show s1.heap.IsTuple a its.toArray from pl) ⟨s1.heap.objs.size, [s1.heap.objs.size], _, _, H1, rfl, I1.kept (t' := s1.toks) fun b o e => Heap.get?_push_of_some _ e, turn_tuple a _, ⟨_, Heap.get?_push_size _ rfl, rfl, rfl⟩, fr1, P2 _ ok⟩

/-! ### range -/
def rng1 : List D → Option (Int × Nat)
  | [.int j] => if j.natAbs < 2 ^ 62 then some (0, j.toNat) else none
  | _ => none
def rng2 : List D → Option (Int × Nat)
  | [.int i, .int j] => if i.natAbs < 2 ^ 62 ∧ j.natAbs < 2 ^ 62 then some (i, (j - i).toNat) else none
  | _ => none
def iRng (f : List D → Option (Int × Nat)) (ml : EL) : EI := fun env S => (ml env S).bind fun ds S => match f ds with
  | some p => .ok (itN p.1 p.2, p.2 + 1) S
  | none => .stuck
theorem postG_rng {α : List Addr} {F H : Hp} {σ : L2.St} {f : List D → Option (Int × Nat)} {r : Res (List D)} {RR : It → Hp → Prop} (P : PostG C W α F H σ (r.bind fun ds S => match f ds with
      | some p => .ok (itN p.1 p.2, p.2 + 1) S
      | none => .stuck) fun p α' F' H' _ => ∀ J, ItOk C J p.1 α' F' → RR J H') (itk : ∀ lo n α F, ItOk C (Itr lo n) (itN lo n) α F) :
    PostA C W α F H σ r fun vs H1 => ∃ ds p α1 F1, f ds = some p ∧ RpL C α1 F1 ds vs ∧ RR (Itr p.1 p.2) H1 := by
  cases r with
  | stuck => exact P
  | exc x S1 => exact P
  | ok ds S1 =>
    intro vs α1 F1 H1 st R1 rl
    simp only [Res.bind] at P
    cases q : f ds with
    | none => rw [q] at P; exact P.elim
    | some p =>
      rw [q] at P
      exact ⟨ds, p, α1, F1, q, rl, P α1 F1 H1 st R1 _ (itk _ _ _ _)⟩
theorem itok_range {lo : Int} {n : Nat} {α : List Addr} {F : Hp} : ItOk C (Itr lo n) (itN lo n) α F := by
  intro α' F' H' S' i pp sf R
  unfold itN
  by_cases h : i < n
  · rw [if_pos h]
    exact ⟨fun e => (by cases e), fun d e => (by cases e; exact ⟨h, fun x H2 ⟨hh, y⟩ => (by subst hh; subst y; exact it_stay R rfl)⟩)⟩
  · rw [if_neg h]
    exact ⟨fun _ => (show n ≤ i by omega), fun d e => (by cases e)⟩
theorem si_range1 {a : Expr} (hg : Gl X "range") (hm : X.mg "range" = none) (ha : SEA X C W [a] ml) (hs : starEach [a] X.env = [(false, eval a X.env)]) : SI X C W tg (.Call (.Name "range" p) [a] [] pos) (iRng rng1 ml) := by
  refine ⟨PI_imp (pi_range1 hg hm ha.pa hs) fun σ H RR ⟨α, F, S, env, R, Sl, P⟩ => ⟨α, F, S, env, R, Sl, ?_⟩⟩
  have K := postG_rng P fun _ _ _ _ => itok_range
  cases q : ml env S with
  | stuck => rw [q] at K; exact K
  | exc x S1 => rw [q] at K; exact K
  | ok ds S1 =>
    rw [q] at K
    intro vs α1 F1 H1 st R1 rl
    obtain ⟨ds', pr, α2, F2, e, rl2, RR2⟩ := K vs α1 F1 H1 st R1 rl
    unfold rng1 at e
    split at e
    · split at e
      · rename_i j hj
        cases e
        obtain ⟨v, ev, rv⟩ := rl2.one_inv
        have rv : v = V.int j := rv
        exact ⟨j, by rw [ev, rv], by omega, by omega, RR2⟩
      · cases e
    · cases e
theorem si_range2 {a b : Expr} (hg : Gl X "range") (hm : X.mg "range" = none) (ha : SEA X C W [a, b] ml) (hs : starEach [a, b] X.env = [(false, eval a X.env), (false, eval b X.env)]) (hs2 : starEach [b] X.env = [(false, eval b X.env)]) : SI X C W tg (.Call (.Name "range" p) [a, b] [] pos) (iRng rng2 ml) := by
  refine ⟨PI_imp (pi_range2 hg hm ha.pa hs hs2) fun σ H RR ⟨α, F, S, env, R, Sl, P⟩ => ⟨α, F, S, env, R, Sl, ?_⟩⟩
  have K := postG_rng P fun _ _ _ _ => itok_range
  cases q : ml env S with
  | stuck => rw [q] at K; exact K
  | exc x S1 => rw [q] at K; exact K
  | ok ds S1 =>
    rw [q] at K
    intro vs α1 F1 H1 st R1 rl
    obtain ⟨ds', pr, α2, F2, e, rl2, RR2⟩ := K vs α1 F1 H1 st R1 rl
    unfold rng2 at e
    split at e
    · split at e
      · rename_i i j hj
        cases e
        obtain ⟨v, v', ev, rv, rv'⟩ := rl2.two_inv
        have rv : v = V.int i := rv
        have rv' : v' = V.int j := rv'
        exact ⟨i, j, by rw [ev, rv, rv'], ⟨by omega, by omega, by omega, by omega⟩, RR2⟩
      · cases e
    · cases e

/-! ### enumerate -/
theorem nt_pair {i : Int} {x : V} : notTbl (.tup [.int i, x]) := nt_tup _
theorem itok_enum {α : List Addr} {F : Hp} {a : Addr} {it : ItM} (h : ItOk C (Itl C.K a) it α F) : ItOk C (Ite C.K a) (itE it) α F := by
  intro α' F' H' S' i pp sf R
  obtain ⟨h1, h2⟩ := h α' F' H' S' i pp sf R
  unfold itE
  cases q : it i S' with
  | none => exact ⟨fun e => (by cases e), fun d e => (by cases e)⟩
  | some o =>
    cases o with
    | none => exact ⟨fun _ => h1 q, fun d e => (by cases e)⟩
    | some d0 =>
      refine ⟨fun e => (by cases e), fun d e => ?_⟩
      cases e
      obtain ⟨⟨xs, x0, g1, g2⟩, yl⟩ := h2 d0 q
      refine ⟨⟨xs, x0, g1, g2⟩, fun v H2 ⟨T, x, ev, nT, eH, ei⟩ => ?_⟩
      obtain ⟨F2, s2, R2, r2⟩ := yl x H' ⟨rfl, ei⟩
      subst eH; subst ev
      refine ⟨_, s2.trans (R2.newStep nT), R2.new nT nt_pair, T, [.int (i : Nat), x], rfl, upd_same, .int i, [x], rfl, rfl, x, [], rfl, r2.mono (Pre.refl _) (Sub.new (R2.fN nT)), rfl⟩
theorem itok_enumT {α : List Addr} {F : Hp} {a : Addr} {it : ItM} (h : ItOk C (Itt C.K a) it α F) : ItOk C (IteT C.K a) (itE it) α F := by
  intro α' F' H' S' i pp sf R
  obtain ⟨h1, h2⟩ := h α' F' H' S' i pp sf R
  unfold itE
  cases q : it i S' with
  | none => exact ⟨fun e => (by cases e), fun d e => (by cases e)⟩
  | some o =>
    cases o with
    | none => exact ⟨fun _ => h1 q, fun d e => (by cases e)⟩
    | some d0 =>
      refine ⟨fun e => (by cases e), fun d e => ?_⟩
      cases e
      obtain ⟨⟨xs, x0, g1, g2⟩, yl⟩ := h2 d0 q
      refine ⟨⟨xs, x0, g1, g2⟩, fun v H2 ⟨T, x, ev, nT, eH, ei⟩ => ?_⟩
      obtain ⟨F2, s2, R2, r2⟩ := yl x H' ⟨rfl, ei⟩
      subst eH; subst ev
      refine ⟨_, s2.trans (R2.newStep nT), R2.new nT nt_pair, T, [.int (i : Nat), x], rfl, upd_same, .int i, [x], rfl, rfl, x, [], rfl, r2.mono (Pre.refl _) (Sub.new (R2.fN nT)), rfl⟩
def iEnu (ma : E) : EI := fun env S => (ma env S).bind fun d S => match seqIt S d with
  | some k => .ok (itE k.pr.1, k.pr.2) S
  | none => .stuck
theorem si_enum {elts : List Expr} {kk : Nat} {tpos : Pos} (hX : X.K = C.K) (hg : Gl X "enumerate") (hm : X.mg "enumerate" = none) (ha : SE X C W e ma) (hs : starEach [e] X.env = [(false, eval e X.env)]) :
    SI X C W (.Tuple elts kk tpos) (.Call (.Name "enumerate" p) [e] [] pos) (iEnu ma) := by
  refine ⟨⟨fun pins s σ H RR I ⟨α, F, S, env, R, Sl, P⟩ => ?_⟩⟩
  have pa1 : PA X [e] (tCons (tE C W ma) tNil) := pa_cons ha.pe pa_nil hs
  refine Call_ (ld_blt I hg hm boot_enumerate (PyProof.Rows.callWith_type1 (thn (pa1.run pos pins s σ H (fun vs H1 => ∃ v, vs = [v] ∧ GotE C W α F H σ (ma env S) _ _ v H1) I ⟨α, F, S, env, R, Sl, PostE.imp (postE_get P) fun v H1 q => ⟨v, rfl, q⟩⟩) fun us s1 ⟨vs, H1, I1, r1, v, evs, d, S1, α1, F1, qe, st, R1, rd, P1⟩ => ?_) hs rfl))
  subst evs
  obtain ⟨u, rfl, ru⟩ := vals1 r1
  simp only at P1
  cases q : seqIt S1 d with
  | none => rw [q] at P1; exact P1.elim
  | some k =>
    rw [q] at P1
    have P2 := P1 α1 F1 H1 st R1
    obtain ⟨a, ev, hk⟩ := seqIt_of R1 rd q
    subst ev
    obtain rfl : u = Value.ref a := ru
    have fr1 : ∀ b ∈ [s1.heap.objs.size + 1, s1.heap.objs.size], FpOk X pins H1 b := fun b hb => by
      have hle : s1.heap.objs.size ≤ b := by
        rcases (show b = s1.heap.objs.size + 1 ∨ b = s1.heap.objs.size by simpa using hb) with z | z <;> rw [z]
        · exact Nat.le_succ _
        · exact Nat.le_refl _
      exact I1.fpOk hle (I1.hok.fresh hle)
    cases k with
    | l it n =>
      obtain ⟨⟨ws, hv⟩, ok⟩ := hk
      have ok2 := itok_enum ok
      rw [← hX] at hv ok2
      obtain ⟨its, rv, pl, _⟩ := I1.list hv
      refine call_enumerate_list pl.isList fun h' he hit hsz hk => wpAny_pyIter_enum he ?_
      exact ⟨s1.heap.objs.size + 1, [s1.heap.objs.size + 1, s1.heap.objs.size], _, _, H1, rfl, I1.kept (t' := s1.toks) hk, turn_enum a (s1.heap.objs.size + 1) s1.heap.objs.size, ⟨⟨.none, he⟩, hit, Nat.succ_ne_self _⟩, fr1, P2 _ ok2⟩
    | t it n =>
      obtain ⟨⟨ws, hv⟩, ok⟩ := hk
      have ok2 := itok_enumT ok
      rw [← hX] at hv ok2
      obtain ⟨its, rv, pl, _⟩ := I1.tuple hv
      have pt : s1.heap.IsTuple a its.toArray := pl
      have la : a < s1.heap.objs.size := by obtain ⟨o, ho, _⟩ := id pt; exact Heap.lt_size ho
      refine enum1_call (begins_tuple a its.toArray) pt fun h' he hit hsz hk => wpAny_pyIter_enum he ?_
      exact ⟨s1.heap.objs.size + 1, [s1.heap.objs.size + 1, s1.heap.objs.size], _, _, H1, rfl, I1.kept (t' := s1.toks) hk, turn_enumT a (s1.heap.objs.size + 1) s1.heap.objs.size (Nat.ne_of_lt (Nat.lt_succ_of_lt la)) (Nat.ne_of_lt la) (Nat.succ_ne_self _),
        ⟨⟨.none, he⟩, ⟨_, hit, rfl, rfl⟩⟩, fr1, P2 _ ok2⟩
end
end WL
set_option Elab.async false
set_option linter.all false
set_option maxRecDepth 100000
namespace WL
open PySem PySem.Spec L2 PyProof.Rows

/-! ## [e for t in i if c] -/
def wipeE (env : Env) : List Nat → Env
  | [] => env
  | v :: vs => (wipeE env vs).set v .un
def lcGo (it : ItM) (tm : TgM) (tt : ET) (te : E) (env0 : Env) : Nat → Nat → List D → Store → Res (List D)
  | 0, _, _, _ => .stuck
  | n + 1, i, acc, S => match it i S with
    | none => .stuck
    | some none => .ok acc S
    | some (some d) => match tm d env0 with
      | none => .stuck
      | some env1 => match tt env1 S with
        | .ok true S1 => match te env1 S1 with
          | .ok y S2 => if acc.length < big then lcGo it tm tt te env0 n (i + 1) (acc ++ [y]) S2 else .stuck
          | _ => .stuck
        | .ok false S1 => lcGo it tm tt te env0 n (i + 1) acc S1
        | _ => .stuck
def tYesM : ET := fun _ S => .ok true S
def Res.only {β γ : Type} (r : Res β) (k : β → Store → Res γ) : Res γ := match r with
  | .ok a S => k a S
  | _ => .stuck
def eLc (mi : EI) (tm : TgM) (tt : ET) (te : E) (vs : List Nat) : E := fun env S => (mi env S).bind fun p S => (lcGo p.1 tm tt te (wipeE env vs) p.2 0 [] S).only fun acc S => .ok (.lst acc) S
/-- the new list as a region -/
def eLcR (mi : EI) (tm : TgM) (tt : ET) (te : E) (vs : List Nat) : E := fun env S => (mi env S).bind fun p S => (lcGo p.1 tm tt te (wipeE env vs) p.2 0 [] S).only fun acc S => .ok (.reg S.length) (S ++ [some (.lst acc)])
section
variable {C : Ctx} {α : List Addr} {F H : Hp} {S : Store} {σ σ' : L2.St} {env : Env}
theorem Slots.wipe (h : Slots C α F σ env) : ∀ vs : List Nat, Slots C α F (wipe σ vs) (wipeE env vs)
  | [] => h
  | v :: vs => by
    have k := Slots.wipe h vs
    refine ⟨by unfold L2.wipe wipeE; rw [List.length_set, List.length_set]; exact k.len, fun i s e => ?_⟩
    unfold wipeE at e
    by_cases hv : v = i
    · subst hv
      rw [List.getElem?_set] at e
      split at e
      · split at e
        · cases e; exact True.intro
        · cases e
      · rename_i z; exact absurd rfl z
    · rw [List.getElem?_set_ne hv] at e
      unfold L2.wipe
      rw [List.getElem?_set_ne hv]
      exact k.at_ i s e
theorem wipe_at {i : Nat} : ∀ {vs : List Nat}, i ∈ vs → (wipe σ vs)[i]? = if i < σ.length then some none else none
  | v :: vs, h => by
    unfold L2.wipe
    by_cases hv : v = i
    · subst hv
      rw [List.getElem?_set, if_pos rfl, wipe_length]
    · rw [List.getElem?_set_ne hv]
      rcases List.mem_cons.mp h with z | z
      · exact absurd z.symm hv
      · exact wipe_at z
theorem only_wipe {vs ws : List Nat} (o : Only vs (wipe σ ws) σ') (hs : ∀ i ∈ vs, i ∈ ws) : wipe σ' ws = wipe σ ws := by
  refine List.ext_getElem? fun i => ?_
  have ol := o.1
  rw [wipe_length] at ol
  by_cases hi : i ∈ ws
  · rw [wipe_at hi, wipe_at hi, ol]
  · rw [wipe_out hi, o.2 i fun z => hi (hs i z)]
/-- a list of nobody's is now frozen -/
theorem Rst.adoptF (R : Rst C α F H S) {a : Addr} {o : HO} (hH : H a = some o) (n : notTbl o) (hF : F a = none) (ha : a ∉ α) : Rst C α (upd F a o) H S := by
  have sf : Sub F (upd F a o) := Sub.new hF
  refine ⟨fun b u e => ?_, fun b u e => ?_, R.nd, R.liv, R.len, fun j r e => ?_, R.tab.ext sf fun _ _ e => e, R.low.trans sf, R.lowA⟩
  · by_cases q : b = a
    · subst q; rw [upd_same] at e; cases e; exact hH
    · rw [upd_ne q] at e; exact R.sub b u e
  · by_cases q : b = a
    · subst q; rw [upd_same] at e; cases e; exact n
    · rw [upd_ne q] at e; exact R.nt b u e
  · obtain ⟨b, u, h1, h2, h3, h4⟩ := R.reg j r e
    exact ⟨b, u, h1, by rw [upd_ne fun z => ha (by rw [← z]; exact List.mem_of_getElem? h1)]; exact h2, h3, h4.mono (Pre.refl _) sf⟩
/-- .. is a region -/
theorem Rst.adoptR (R : Rst C α F H S) {a : Addr} {o : HO} {r : RO} (hH : H a = some o) (hF : F a = none) (ha : a ∉ α) (ro : RpO C α F r o) : Rst C (α ++ [a]) F H (S ++ [some r]) := by
  refine ⟨R.sub, R.nt, ?_, fun b m => ?_, by rw [List.length_append, List.length_append, R.len]; rfl, fun j q e => ?_, R.tab, R.low, R.lowA.trans (Pre.app α _)⟩
  · rw [List.nodup_append]
    refine ⟨R.nd, by simp, fun x hx y hy => ?_⟩
    rw [List.mem_singleton.mp hy]
    exact fun z => ha (z ▸ hx)
  · rcases List.mem_append.mp m with m | m
    · exact R.liv b m
    · rw [List.mem_singleton.mp m]
      exact ⟨o, hH, ro.nt⟩
  · by_cases hi : j < S.length
    · rw [List.getElem?_append_left hi] at e
      obtain ⟨b, u, h1, h2, h3, h4⟩ := R.reg j q e
      exact ⟨b, u, Pre.app α _ j b h1, h2, h3, h4.mono (Pre.app α _) (Sub.refl F)⟩
    · rw [List.getElem?_append_right (by omega)] at e
      have hz : j - S.length = 0 := by
        cases q2 : j - S.length with
        | zero => rfl
        | succ n => rw [q2] at e; simp at e
      rw [hz] at e
      simp at e
      subst e
      have hi2 : j = α.length := by rw [← R.len]; omega
      exact ⟨a, o, by rw [hi2]; simp, hF, hH, ro.mono (Pre.app α _) (Sub.refl F)⟩
/-- something of nobody's is changed -/
theorem Rst.off (R : Rst C α F H S) {a : Addr} {u o : HO} (hH : H a = some u) (nu : notTbl u) (hF : F a = none) (ha : a ∉ α) : Rst C α F (upd H a o) S := by
  refine ⟨fun b w e => by rw [upd_ne fun z => (by rw [z, hF] at e; cases e)]; exact R.sub b w e, R.nt, R.nd, fun b m => ?_, R.len, fun j r e => ?_, R.tab.ext (Sub.refl F) fun b ps e => ?_, R.low, R.lowA⟩
  · rw [upd_ne fun z => ha (by rw [← z]; exact m)]; exact R.liv b m
  · obtain ⟨b, w, h1, h2, h3, h4⟩ := R.reg j r e
    exact ⟨b, w, h1, h2, by rw [upd_ne fun z => ha (by rw [← z]; exact List.mem_of_getElem? h1)]; exact h3, h4⟩
  · rw [upd_ne fun z => nu ps (Option.some.inj (hH.symm.trans (by rw [← z]; exact e)))]
    exact e
/-- .. and is new to the start -/
theorem Step.off {α' : List Addr} {F' H' : Hp} (s : Step α F H α' F' H') {a : Addr} {o : HO} (hn : H a = none) : Step α F H α' F' (upd H' a o) :=
  ⟨s.pre, s.frz, fun b u e n na => by
    obtain ⟨h1, h2, h3⟩ := s.keep b u e n na
    exact ⟨by rw [upd_ne (ne_of_none e hn)]; exact h1, h2, h3⟩⟩
end
section
variable {X : Cx} {C : Ctx} {W : WX} {tg iter elt c : Expr} {ifs : List Expr} {mi : EI} {tm : TgM} {tt : ET} {te : E} {pos : Pos} {ws vs : List Nat} {scope : Scope}
structure STs (X : Cx) (C : Ctx) (W : WX) (ifs : List Expr) (m : ET) : Prop where
  pts : PTs X ifs (tT C W m)
theorem PTs_imp {t t' : TT} (h : PTs X ifs t) (k : ∀ σ H Q, t' σ H Q → t σ H Q) : PTs X ifs t' := ⟨fun pins s σ H Q I q => h.run pins s σ H Q I (k σ H Q q)⟩
theorem sts_nil : STs X C W [] tYesM := ⟨PTs_imp pts_nil fun σ H Q ⟨α, F, S, env, R, Sl, P⟩ => P α F H (Step.refl _ _ _) R⟩
theorem sts_one (h : SET X C W c tt) : STs X C W [c] tt := ⟨pts_one h.pt⟩
def noW : WX := fun _ _ _ _ => False
/-- the loop, with its new list at D -/
def LcPost (C : Ctx) (W : WX) (α : List Addr) (F H1 : Hp) (σ : L2.St) (r : Res (List D)) (D : Addr) (Qd : Hp → Prop) : Prop := match r with
  | .ok acc S' => ∀ α' F' H', Step α F H1 α' F' H' → Rst C α' F' H' S' → (∃ accV, H' D = some (.lst accV) ∧ F' D = none ∧ D ∉ α' ∧ RpL C α' F' acc accV) → Qd H'
  | .exc _ _ => False
  | .stuck => False
theorem LcPost.step {α α' : List Addr} {F H1 F' H' : Hp} {σ : L2.St} {r : Res (List D)} {D : Addr} {Qd : Hp → Prop} (s : Step α F H1 α' F' H') (h : LcPost C W α F H1 σ r D Qd) : LcPost C W α' F' H' σ r D Qd := by
  cases r with
  | ok acc S => exact fun a f g t => h a f g (s.trans t)
  | exc e S => exact h
  | stuck => exact h
/-- the loop's invariant serves the reading -/
theorem lc_go {wi : TI} {J : It} {it : ItM} {α1 : List Addr} {F1 H1 : Hp} {S1 : Store} {σ : L2.St} {env : Env} {D : Addr} {n : Nat} {Qd : Hp → Prop} (io : ItOk C J it α1 F1) (R1 : Rst C α1 F1 H1 S1) (Sl : Slots C α1 F1 σ env) (hD : H1 D = none) (hsub : ∀ i ∈ ws, i ∈ vs)
    (P : LcPost C W α1 F1 H1 σ (lcGo it tm tt te (wipeE env vs) n 0 [] S1) D Qd) :
    ∃ Wf : Nat → Nat → Hp → Prop, (∃ m, Wf 0 m (upd H1 D (.lst []))) ∧ ∀ i m H, Wf i m H → (J.stop i H ∧ Qd H) ∨ (J.go i H ∧ ∃ Nx : Hp → Prop, (∀ H', Nx H' → ∃ m', m' < m ∧ Wf (i + 1) m' H') ∧ ∀ x H', J.yld i H x H' →
      tG C tm ws x (wipe σ vs) H' fun σ2 H2 => wipe σ2 vs = wipe σ vs ∧ tT C noW tt σ2 H2 fun b H3 => if b = true then tE C noW te σ2 H3 fun y H4 => ∃ acc, H4 D = some (.lst acc) ∧ acc.length < sizeLine ∧ Nx (upd H4 D (.lst (acc ++ [y]))) else Nx H3) := by
  have ntD : ∀ l : List V, notTbl (.lst l) := nt_lst
  refine ⟨fun i m H => ∃ α F S acc accV, Step α1 F1 H1 α F H ∧ Rst C α F H S ∧ (H D = some (.lst accV) ∧ F D = none ∧ D ∉ α ∧ RpL C α F acc accV) ∧ LcPost C W α1 F1 H1 σ (lcGo it tm tt te (wipeE env vs) m i acc S) D Qd, ⟨n, α1, F1, S1, [], [], ?_, ?_, ⟨upd_same, R1.fN hD, ?_, rfl⟩, P⟩, fun i m H ⟨α, F, S, acc, accV, st, R, ⟨d1, d2, d3, d4⟩, P⟩ => ?_⟩
  · exact (Step.refl α1 F1 H1).off hD
  · -- the new list is nobody's
    refine ⟨fun b w e => by rw [upd_ne fun z => (by rw [z, R1.fN hD] at e; cases e)]; exact R1.sub b w e, R1.nt, R1.nd, fun b m => ?_, R1.len, fun j r e => ?_, R1.tab.ext (Sub.refl _) fun b ps e => by rw [upd_ne (ne_of_none e hD)]; exact e, R1.low, R1.lowA⟩
    · obtain ⟨o, e, t⟩ := R1.liv b m
      exact ⟨o, by rw [upd_ne (ne_of_none e hD)]; exact e, t⟩
    · obtain ⟨b, w, h1, h2, h3, h4⟩ := R1.reg j r e
      exact ⟨b, w, h1, h2, by rw [upd_ne (ne_of_none h3 hD)]; exact h3, h4⟩
  · intro m
    obtain ⟨o, e, _⟩ := R1.liv D m
    rw [hD] at e; cases e
  · cases m with
    | zero => exact (show False from P).elim
    | succ m =>
      have io2 := io α F H S i st.pre st.frz R
      unfold lcGo at P
      cases qi : it i S with
      | none => rw [qi] at P; exact (show False from P).elim
      | some o =>
        cases o with
        | none =>
          rw [qi] at P
          exact .inl ⟨io2.1 qi, P α F H st R ⟨accV, d1, d2, d3, d4⟩⟩
        | some d =>
          rw [qi] at P
          simp only at P
          obtain ⟨go, yl⟩ := io2.2 d qi
          refine .inr ⟨go, fun H' => ∃ α F S acc accV, Step α1 F1 H1 α F H' ∧ Rst C α F H' S ∧ (H' D = some (.lst accV) ∧ F D = none ∧ D ∉ α ∧ RpL C α F acc accV) ∧ LcPost C W α1 F1 H1 σ (lcGo it tm tt te (wipeE env vs) m (i + 1) acc S) D Qd, fun H' h => ⟨m, Nat.lt_succ_self m, h⟩, fun x H' y => ?_⟩
          obtain ⟨F', s', R', r'⟩ := yl x H' y
          obtain ⟨k1, k2, k3⟩ := s'.keep D _ d1 (ntD _) d3
          cases qt : tm d (wipeE env vs) with
          | none => rw [qt] at P; exact (show False from P).elim
          | some env1 =>
            rw [qt] at P
            simp only at P
            refine ⟨α, F', S, wipeE env vs, d, R', (((Sl.step st).step s').wipe vs), r', env1, qt, fun σ2 Sl2 o2 => ⟨only_wipe o2 hsub, α, F', S, env1, R', Sl2, ?_⟩⟩
            cases qc : tt env1 S with
            | stuck => rw [qc] at P; exact (show False from P).elim
            | exc z z2 => rw [qc] at P; exact (show False from P).elim
            | ok b S2 =>
              rw [qc] at P
              intro α2 F2 H2 st2 R2
              obtain ⟨l1, l2, l3⟩ := st2.keep D _ k1 (ntD _) k3
              have dd : RpL C α2 F2 acc accV := (d4.step s').step st2
              cases b with
              | false =>
                rw [if_neg (by decide)]
                exact ⟨α2, F2, S2, acc, accV, (st.trans s').trans st2, R2, ⟨l1, l2 (k2 d2), l3, dd⟩, P⟩
              | true =>
                simp only at P
                rw [if_pos rfl]
                refine ⟨α2, F2, S2, env1, R2, Sl2.step st2, ?_⟩
                cases qe : te env1 S2 with
                | stuck => rw [qe] at P; exact (show False from P).elim
                | exc z z2 => rw [qe] at P; exact (show False from P).elim
                | ok y S3 =>
                  rw [qe] at P
                  simp only at P
                  intro yv α3 F3 H3 st3 R3 ry
                  obtain ⟨p1, p2, p3⟩ := st3.keep D _ l1 (ntD _) l3
                  split at P
                  · rename_i hl
                    have dd3 := dd.step st3
                    refine ⟨accV, p1, by rw [← dd3.length]; exact lt_line hl, α3, F3, S3, acc ++ [y], accV ++ [yv], (((st.trans s').trans st2).trans st3).off hD, R3.off p1 (ntD _) (p2 (l2 (k2 d2))) p3, ⟨upd_same, p2 (l2 (k2 d2)), p3, dd3.app (RpL.one ry)⟩, P⟩
                  · exact (show False from P).elim
/-- contexts of the block -/
abbrev Blk (X : Cx) (scope : Scope) (s : Shared) (H : Hp) (Ca : Addr) (cl : List (Str × Addr)) (fp : List Addr) : Cx := X.blk s H scope (compEnvC scope cl Ca X.env) fp
theorem Step.offF {α α' : List Addr} {F F' H H' : Hp} (s : Step α F H α' F' H') {a : Addr} {o : HO} (hn : H a = none) (hF : F' a = none) : Step α F H α' (upd F' a o) H' :=
  ⟨s.pre, s.frz.trans (Sub.new hF), fun b u e n na => by
    obtain ⟨h1, h2, h3⟩ := s.keep b u e n na
    exact ⟨h1, fun z => by rw [upd_ne (ne_of_none e hn)]; exact h2 z, h3⟩⟩
theorem Step.offR {α α' : List Addr} {F F' H H' : Hp} (s : Step α F H α' F' H') {a : Addr} (hn : H a = none) : Step α F H (α' ++ [a]) F' H' :=
  ⟨s.pre.trans (Pre.app _ _), s.frz, fun b u e n na => by
    obtain ⟨h1, h2, h3⟩ := s.keep b u e n na
    refine ⟨h1, h2, fun m => ?_⟩
    rcases List.mem_append.mp m with m | m
    · exact h3 m
    · exact (ne_of_none e hn) (List.mem_singleton.mp m)⟩
theorem lc_read {σ : L2.St} {H : Hp} {Q : VK} (hsub : ∀ i ∈ ws, i ∈ vs) (h : tE C W (eLc mi tm tt te vs) σ H Q) : tLc (tI C W mi) (tG C tm ws) (tT C noW tt) (tE C noW te) vs σ H Q := by
  obtain ⟨α, F, S, env, R, Sl, P⟩ := h
  refine ⟨α, F, S, env, R, Sl, ?_⟩
  unfold eLc at P
  cases q : mi env S with
  | stuck => rw [q] at P; exact P
  | exc x S1 => rw [q] at P; exact P
  | ok p S1 =>
    rw [q] at P
    simp only [Res.bind] at P
    intro α1 F1 H1 st R1 J io D hD
    refine lc_go (W := W) (wi := tI C W mi) (n := p.2) io R1 (Sl.step st) hD hsub ?_
    cases q2 : lcGo p.1 tm tt te (wipeE env vs) p.2 0 [] S1 with
    | stuck => rw [q2] at P; exact P
    | exc x S2 => rw [q2] at P; exact P
    | ok acc S2 =>
      rw [q2] at P
      intro α2 F2 H2 st2 R2 ⟨accV, h1, h2, h3, h4⟩
      exact P (.ref D) α2 (upd F2 D (.lst accV)) H2 (st.trans (st2.offF hD h2)) (R2.adoptF h1 (nt_lst _) h2 h3) ⟨D, accV, rfl, upd_same, h4.mono (Pre.refl _) (Sub.new h2)⟩
theorem lc_readR {σ : L2.St} {H : Hp} {Q : VK} (hsub : ∀ i ∈ ws, i ∈ vs) (h : tE C W (eLcR mi tm tt te vs) σ H Q) : tLc (tI C W mi) (tG C tm ws) (tT C noW tt) (tE C noW te) vs σ H Q := by
  obtain ⟨α, F, S, env, R, Sl, P⟩ := h
  refine ⟨α, F, S, env, R, Sl, ?_⟩
  unfold eLcR at P
  cases q : mi env S with
  | stuck => rw [q] at P; exact P
  | exc x S1 => rw [q] at P; exact P
  | ok p S1 =>
    rw [q] at P
    simp only [Res.bind] at P
    intro α1 F1 H1 st R1 J io D hD
    refine lc_go (W := W) (wi := tI C W mi) (n := p.2) io R1 (Sl.step st) hD hsub ?_
    cases q2 : lcGo p.1 tm tt te (wipeE env vs) p.2 0 [] S1 with
    | stuck => rw [q2] at P; exact P
    | exc x S2 => rw [q2] at P; exact P
    | ok acc S2 =>
      rw [q2] at P
      intro α2 F2 H2 st2 R2 ⟨accV, h1, h2, h3, h4⟩
      exact P (.ref D) (α2 ++ [D]) F2 H2 (st.trans (st2.offR hD)) (R2.adoptR h1 h2 h3 ⟨accV, rfl, h4⟩) ⟨D, rfl, by rw [R2.len]; simp⟩
variable {own : List (Str × Nat)}
theorem se_lc (hc : X.calm = true) (hN : X.N.Nodup) (hi : SI X C W tg iter mi) (ok : BlkOk X.N X.env.scope scope own) (hsub : ∀ i ∈ ws, i ∈ own.map (·.2)) (hg : ∀ s H Ca cl fp, SG (Blk X scope s H Ca cl fp) C tg tm ws) (ht : ∀ s H Ca cl fp, STs (Blk X scope s H Ca cl fp) C noW ifs tt)
    (he : ∀ s H Ca cl fp, SE (Blk X scope s H Ca cl fp) C noW elt te) (hs : ∀ x, foldedSetIterable iter X.env x = pure x) : SE X C W (.ListComp elt [⟨tg, iter, ifs, 0⟩] scope pos) (eLc mi tm tt te (own.map (·.2))) :=
  se_of (pe_lc hc hN hi.pi ok (fun s H Ca cl fp => (hg s H Ca cl fp).pg) (fun s H Ca cl fp => (ht s H Ca cl fp).pts) (fun s H Ca cl fp => (he s H Ca cl fp).pe) hs) fun _ _ _ h => lc_read hsub h
theorem se_lcR (hc : X.calm = true) (hN : X.N.Nodup) (hi : SI X C W tg iter mi) (ok : BlkOk X.N X.env.scope scope own) (hsub : ∀ i ∈ ws, i ∈ own.map (·.2)) (hg : ∀ s H Ca cl fp, SG (Blk X scope s H Ca cl fp) C tg tm ws) (ht : ∀ s H Ca cl fp, STs (Blk X scope s H Ca cl fp) C noW ifs tt)
    (he : ∀ s H Ca cl fp, SE (Blk X scope s H Ca cl fp) C noW elt te) (hs : ∀ x, foldedSetIterable iter X.env x = pure x) : SE X C W (.ListComp elt [⟨tg, iter, ifs, 0⟩] scope pos) (eLcR mi tm tt te (own.map (·.2))) :=
  se_of (pe_lc hc hN hi.pi ok (fun s H Ca cl fp => (hg s H Ca cl fp).pg) (fun s H Ca cl fp => (ht s H Ca cl fp).pts) (fun s H Ca cl fp => (he s H Ca cl fp).pe) hs) fun _ _ _ h => lc_readR hsub h
/-- name = [..] on one line -/
theorem set_read {m : E} {t : TE} {i : Nat} {Dd : Ends} {σ : L2.St} {H : Hp} (k : ∀ σ H Q, tE C W m σ H Q → t σ H Q) (h : tS C W (sSet i m) Dd σ H) : tAsg t (gName i) Dd σ H := by
  obtain ⟨α, F, S, env, R, Sl, P⟩ := h
  exact k σ H _ ⟨α, F, S, env, R, Sl, postS_E Sl P fun d S1 v α1 F1 H1 s1 R1 r P1 => P1 _ α1 F1 H1 (Step.refl _ _ _) R1 ((Sl.step s1).put i r)⟩
theorem ss_setLc {i : Nat} {y : Str} {py spos : Pos} (hc : X.calm = true) (hN : X.N.Nodup) (hy : X.N[i]? = some y) (hyl : X.env.scope.names.lookup y = some .local) (hsw : swapsWith (.ListComp elt [⟨tg, iter, ifs, 0⟩] scope pos) (some (.Name y py)) spos.line X.env = pure true)
    (hi : SI X C W tg iter mi) (ok : BlkOk X.N X.env.scope scope own) (hsub : ∀ i ∈ ws, i ∈ own.map (·.2)) (hg : ∀ s H Ca cl fp, SG (Blk X scope s H Ca cl fp) C tg tm ws) (ht : ∀ s H Ca cl fp, STs (Blk X scope s H Ca cl fp) C noW ifs tt)
    (he : ∀ s H Ca cl fp, SE (Blk X scope s H Ca cl fp) C noW elt te) (hs : ∀ x, foldedSetIterable iter X.env x = pure x) : SS1 X C W (.Assign [.Name y py] (.ListComp elt [⟨tg, iter, ifs, 0⟩] scope pos) spos) (sSet i (eLc mi tm tt te (own.map (·.2)))) :=
  ⟨PS_imp (ps_setLc hc hN hy hyl hsw hi.pi ok (fun s H Ca cl fp => (hg s H Ca cl fp).pg) (fun s H Ca cl fp => (ht s H Ca cl fp).pts) (fun s H Ca cl fp => (he s H Ca cl fp).pe) hs) fun _ _ _ h => set_read (fun _ _ _ h => lc_read hsub h) h⟩
theorem ss_setLcR {i : Nat} {y : Str} {py spos : Pos} (hc : X.calm = true) (hN : X.N.Nodup) (hy : X.N[i]? = some y) (hyl : X.env.scope.names.lookup y = some .local) (hsw : swapsWith (.ListComp elt [⟨tg, iter, ifs, 0⟩] scope pos) (some (.Name y py)) spos.line X.env = pure true)
    (hi : SI X C W tg iter mi) (ok : BlkOk X.N X.env.scope scope own) (hsub : ∀ i ∈ ws, i ∈ own.map (·.2)) (hg : ∀ s H Ca cl fp, SG (Blk X scope s H Ca cl fp) C tg tm ws) (ht : ∀ s H Ca cl fp, STs (Blk X scope s H Ca cl fp) C noW ifs tt)
    (he : ∀ s H Ca cl fp, SE (Blk X scope s H Ca cl fp) C noW elt te) (hs : ∀ x, foldedSetIterable iter X.env x = pure x) : SS1 X C W (.Assign [.Name y py] (.ListComp elt [⟨tg, iter, ifs, 0⟩] scope pos) spos) (sSet i (eLcR mi tm tt te (own.map (·.2)))) :=
  ⟨PS_imp (ps_setLc hc hN hy hyl hsw hi.pi ok (fun s H Ca cl fp => (hg s H Ca cl fp).pg) (fun s H Ca cl fp => (ht s H Ca cl fp).pts) (fun s H Ca cl fp => (he s H Ca cl fp).pe) hs) fun _ _ _ h => set_read (fun _ _ _ h => lc_readR hsub h) h⟩
end
end WL
set_option Elab.async false
set_option linter.all false
set_option maxRecDepth 100000
namespace WL
open PySem PySem.Spec L2 PyProof.Rows

/-! ## own exceptions whose __init__ says super().__init__(text); self.f = v -/
/-- the body of such an __init__ -/
abbrev supBody (txt fld par : Str) (j : Nat) (p0 p1 p2 p3 p4 p5 p6 p7 p8 p9 : Pos) : List Stmt :=
  [.Expr (.Call (.Attribute (.Call (.Name "super" p0) [] [] p1) "__init__" p2) [.Constant (.str txt) j p3] [] p4) p5, .Assign [.Attribute (.Name "self" p6) fld p7] (.Name par p8) p9]
/-- what the text's part says of the __init__ at fI, written in the class at D -/
structure SupF (K : PySem.W.Frag) (prog : Program) (fI D : Addr) (fld par : Str) : Prop where
  ex : ∃ (oc : Value) (od : Option Addr) (osl : Array (Option Value)) (name qual : Str) (params : Arguments) (scope : Scope) (dV kV doc pm ct : Value) (an : Option Addr) (cda cc : Addr) (txt : Str) (j : Nat) (p0 p1 p2 p3 p4 p5 p6 p7 p8 p9 : Pos) (ar : Arg) (vs : Array Value) (file : Str) (tf : Tok)
      (ccl : Value) (cdd : Option Addr) (ccs : Array (Option Value)) (cl : Value) (cld : Option Addr) (csl : Array (Option Value)) (cdD : ClassData),
    K.lookup fI = some ⟨oc, od, .func (PySem.W.ksFn name qual params (supBody txt fld par j p0 p1 p2 p3 p4 p5 p6 p7 p8 p9) scope dV kV doc pm an (.ref cda) ct cc), osl⟩ ∧ PySem.W.codeIn K (.ref cda) qual = true ∧
    (∀ x u : Value, bindArgs (PySem.W.ksFn name qual params (supBody txt fld par j p0 p1 p2 p3 p4 p5 p6 p7 p8 p9) scope dV kV doc pm an (.ref cda) ct cc) ⟨[x, u], []⟩ = pure [(("self" : Str), x), (par, u)]) ∧
    (scope.kind = .function ∧ scope.isCoroutine = false ∧ scope.isGenerator = false ∧ (∀ x ∈ scope.names, x.2 ≠ .cell) ∧ scope.names.lookup ("self" : Str) = some .local ∧ scope.names.lookup par = some .local ∧ scope.names.lookup ("super" : Str) = some .globalImplicit ∧ scope.names.lookup ("__class__" : Str) = some .free) ∧
    ((params.posonlyargs ++ params.args).head? = some ar ∧ ar.arg = "self" ∧ par ≠ "self" ∧ (par == ("__debug__" : Str)) = false) ∧
    (K.lookup cda = some ⟨ccl, cdd, .fields vs, ccs⟩ ∧ vs[2]? = some (.str file tf) ∧ ((prog.main.file : Str) == file) = true) ∧
    (K.lookup cc = some ⟨cl, cld, .cell (some (.ref D)), csl⟩ ∧ PySem.W.clsIn K D = some cdD) ∧ (prog.main.scope.names.lookup ("super" : Str)).isSome = false ∧ PySem.W.nsIn K cStatics "thirdparty.any" = some none ∧ txt.length ≤ 1000 ∧
    (∀ env : PySem.Env, ∃ pl, eval (.Call (.Attribute (.Call (.Name "super" p0) [] [] p1) "__init__" p2) [.Constant (.str txt) j p3] [] p4) env = (do
      let ov ← attributeBase (.Call (.Name "super" p0) [] [] p1) "__init__" env (eval (.Call (.Name "super" p0) [] [] p1) env)
      standAt p2.atName
      let (f, first) ← holding [ov] (getMethod ov "__init__" pl)
      callWith p4 f first (backTo p4 (starEach [.Constant (.str txt) j p3] env)) []))
/-- .. of an exception class at C below -/
structure SupC (K : PySem.W.Frag) (C D : Addr) (fld : Str) : Prop where
  o : OexC K C
  mro : PySem.W.mroIn K C (.ref D) = some true
  sup : PySem.W.ks_superIn K C D "__init__" = some (some (.builtin "ValueError.__init__"))
  ve : PySem.W.subIn K (.ref C) (.type "ValueError") = some true
  fld : PySem.W.findIn K (.ref C) fld = some none
section
variable {prog : Program} {w : World} {A : Around} {R : Result → Shared → Prop} {K : PySem.W.Frag} {mg : Str → Option Value} {base : Heap} {s : Shared} {fI C D x t0 : Addr} {fld par : Str} {u : Value}
theorem sup_init (Md : Mod K mg base) (bk : ∀ b o, base.get? b = some o → s.heap.get? b = some o) (hms : mg "super" = none) (SF : SupF K prog fI D fld par) (SC : SupC K C D fld) (hroom : A.depth < recursionLimit) (hx : s.heap.get? x = some (PySem.HandSPX.excO C t0)) (hxb : base.get? x = none)
    (h : ∀ h' tk' dx t1, (∀ b o, b ≠ x → s.heap.get? b = some o → h'.get? b = some o) → s.heap.objs.size ≤ dx → dx ≠ x → h'.get? x = some ({ cls := .ref C, dict := some dx, data := .fields #[.ref t1, .none, .none, .none, .bool false, .none] } : Obj) →
      h'.Ns1 dx (fun y => if y = fld then some u else none) → R (.ok (.ret .none)) { s with heap := h', toks := tk' }) : codeAny (model prog w) A (.call (.ref fI) ⟨[.ref x, u], []⟩) R s := by
  obtain ⟨oc, od, osl, name, qual, params, scope, dV, kV, doc, pm, ct, an, cda, cc, txt, j, p0, p1, p2, p3, p4, p5, p6, p7, p8, p9, ar, vs, file, tf, ccl, cdd, ccs, cl, cld, csl, cdD, lk, hcd, hbind, ⟨hk, hco, hgen, hcell, hself, hpar, hsup, hcls⟩, ⟨hp, har, hne, hdb⟩, ⟨hcode, hvs, hfile⟩, ⟨hcc, hD⟩, htop, hop, htx, hev⟩ := SF.ex
  obtain ⟨nm, q, N, bs, bm, sn, sub, ab, col, dd, k0, k1, k2, k3, k5, hC, hbm⟩ := SC.o.cls
  have X : K.In s.heap := Md.kin.keeps bk
  have hclC : PySem.W.clsIn K C = some { name := nm, bases := bs, mro := .ref C :: bm, ns := N, qualname := q, hasDict := true, slotNames := sn, subclasses := sub, abstract := ab, collection := col, hasDel := false } := by unfold PySem.W.clsIn; rw [hC] <;> rfl
  refine ks_codeAny_call_defAt (fd := PySem.W.ksFn name qual params (supBody txt fld par j p0 p1 p2 p3 p4 p5 p6 p7 p8 p9) scope dV kV doc pm an (.ref cda) ct cc) (body := supBody txt fld par j p0 p1 p2 p3 p4 p5 p6 p7 p8 p9) (binds := [("self", .ref x), (par, u)]) hroom (X _ _ lk) rfl (Md.nolimit.keeps bk) (PySem.W.codeRec_of X hcd) rfl
    (BindsTo.of_eq (hbind _ _)) hcell (fun y hy => ?_) (fun h₁ hns hk₁ => ?_) hco hgen hk
  · rcases List.mem_cons.mp hy with rfl | hy
    · exact hself
    · rw [List.mem_singleton.mp hy]; exact hpar
  have X1 : K.In h₁ := X.keeps hk₁
  have bk1 : ∀ b o, base.get? b = some o → h₁.get? b = some o := fun b o e => hk₁ b o (bk b o e)
  have vself : (fun y => [(("self" : Str), (Value.ref x)), (par, u)].reverse.lookup y) "self" = some (.ref x) := by
    have z : (("self" : Str) == par) = false := by simpa using Ne.symm hne
    simp [List.lookup, z]
  have vpar : (fun y => [(("self" : Str), (Value.ref x)), (par, u)].reverse.lookup y) par = some u := by simp [List.lookup]
  obtain ⟨mb, hmb, hbt⟩ := Md.blt
  obtain ⟨oD, hD1, hD2⟩ : ∃ oD, h₁.get? D = some oD ∧ oD.data = .cls cdD := by
    unfold PySem.W.clsIn at hD
    split at hD
    · rename_i c d cd' sl ho
      cases hD
      exact ⟨_, X1 _ _ ho, rfl⟩
    · cases hD
  have I0 : PySem.W.InstAt h₁ x (PySem.HandSPX.excO C t0) C none := ⟨hk₁ _ _ hx, rfl, rfl, trivial⟩
  have xC : x ≠ C := PySem.W.ks_ne X1 I0 hclC
  have x0 : x < s.heap.objs.size := Heap.lt_size hx
  obtain ⟨pl, hev⟩ := hev (callEnv (PySem.W.ksFn name qual params (supBody txt fld par j p0 p1 p2 p3 p4 p5 p6 p7 p8 p9) scope dV kV doc pm an (.ref cda) ct cc) s.heap.objs.size fI)
  refine ks_wpAt_execs_cons (ks_wpAt_Expr_any (ks_wpAt_MethodCall ?_ hev) (by
    have hk2 : (callEnv (PySem.W.ksFn name qual params (supBody txt fld par j p0 p1 p2 p3 p4 p5 p6 p7 p8 p9) scope dV kV doc pm an (.ref cda) ct cc) s.heap.objs.size fI).scope.kind = .function := hk
    simp [interactive, hk2]) rfl)
  refine ks_wpAt_super_base (f := fI) (cc := cda) (ar := ar) hsup hcls (by decide) rfl (X1 _ _ lk) rfl hp rfl (X1 _ _ hcode) rfl hvs hfile htop ?_
  refine PySem.W.ks_loadName_global hk hsup (Calls.loadGlobal_builtin (Md.glob.keeps bk1) hms (hmb.keeps bk1) ((hbt _ (by decide)).trans (by decide +kernel)) ⟨rfl, ?_⟩)
  refine wpAny_loadName_free hk hcls rfl ⟨_, X1 _ _ hcc, rfl⟩ ?_
  rw [har]
  refine wpAny_loadName_local hk hself hns vself ?_
  refine ks_wpAny_isType_cls hD1 hD2 ⟨rfl, ?_⟩
  refine ks_wpAny_call_super hD1 hD2 I0.at_ I0.cls (fun c e => by cases e) (PySem.W.looks_mroIn X1 SC.mro) fun h2 e2 k2 => ?_
  have X2 : K.In h2 := X1.keeps k2
  have I2 : PySem.W.InstAt h2 x (PySem.HandSPX.excO C t0) C none := ⟨k2 _ _ I0.at_, rfl, rfl, trivial⟩
  have hse := SC.sup
  unfold PySem.W.ks_superIn at hse
  rw [hclC] at hse
  refine PySem.W.kxs_getMethod PySem.W.kxs_ValueError e2 (PySem.W.looks_opaque X2 hop) (l₀ := .ref C :: bm) (fun A Q E s k q => wpAny_bind ((PySem.W.looks_clsIn X2 hclC) A _ E s k (wpAny_pure q))) rfl X2 hse (I2.type.andThen (PySem.W.looks_subIn X2 SC.ve)) xC (by decide) ?_
  have hu : (h2.push (PySem.W.kxs_mw "ValueError.__init__" x)).get? h2.objs.size = some (PySem.W.kxs_mw "ValueError.__init__" x) := Heap.get?_push_at rfl rfl
  have k3 : ∀ b o, h₁.get? b = some o → (h2.push (PySem.W.kxs_mw "ValueError.__init__" x)).get? b = some o := fun b o e => Heap.get?_push_of_some _ (k2 b o e)
  have xh : (h2.push (PySem.W.kxs_mw "ValueError.__init__" x)).get? x = some (PySem.HandSPX.excO C t0) := k3 _ _ I0.at_
  have Ch := (X1.keeps k3) _ _ hC
  refine PySem.W.kxs_callWith (i := "ValueError.__init__") (x := x) (by rfl) ?_
  refine Calls.evalArgs_plain ?_
  show wpAny _ _ (spliced [(false, eval (.Constant (.str txt) j p3) (callEnv (PySem.W.ksFn name qual params (supBody txt fld par j p0 p1 p2 p3 p4 p5 p6 p7 p8 p9) scope dV kV doc pm an (.ref cda) ct cc) s.heap.objs.size fI))]) _ _ _
  refine Calls.spliced_cons (Calls.Constant_str (Calls.spliced_nil ⟨hu, ?_⟩))
  show wpAny _ _ (call (.ref h2.objs.size) [_]) _ _ _
  -- the built-in __init__ lays the args anew
  have done1 : ∀ (Q : Value → Shared → Prop) (E : Value → Shared → Prop) (A' : Around) (tk : Tok) (v : Value), (∀ h4 t1, (∀ b o, b ≠ x → (h2.push (PySem.W.kxs_mw "ValueError.__init__" x)).get? b = some o → h4.get? b = some o) → h4.get? x = some (PySem.HandSPX.excO C t1) → Q .none { s with heap := h4, toks := tk }) →
      wpAny (model prog w) A' (call (.ref h2.objs.size) [v]) Q E { s with heap := h2.push (PySem.W.kxs_mw "ValueError.__init__" x), toks := tk } := fun Q E A' tk v hq => by
    refine wpAny_call (codeAny_of_tree ?_)
    show wpAny _ A'.in1 (callAny (.ref h2.objs.size) ⟨[v], []⟩) _ _ _
    simp only [callAny]
    refine wpAny_bind (wpAny_load hu ?_)
    simp only [PySem.W.kxs_mw, show (Value.type "method-wrapper" == Value.type "method" || Value.type "method-wrapper" == Value.type "builtin_function_or_method" || Value.type "method-wrapper" == Value.type "method-wrapper") = true by decide, if_true]
    refine PySem.W.KFB.if_so (by decide) ?_
    refine wpAny_bind (PySem.W.check_bound_init F.excBase_ValueError.toExcCallFacts Ch xh rfl ?_)
    refine wpAny_bind (wpAny_pure (wpAny_pure ?_))
    refine ⟨plainId_quiet F.excBase_ValueError.init.plain _, codeAny_builtin F.excBase_ValueError.initEntry ?_⟩
    exact PySem.W.exc_init_tree (cls := .ref C) (t0 := t0) (dv := none) (c2 := .none) (c3 := .none) (b4 := .bool false) xh (by show 1 ≤ sizeLine; decide) fun h' k' e' _ => hq h' _ k' e'
  refine done1 _ _ _ _ _ fun h4 t1 k4 x4 => ?_
  have k14 : ∀ b o, b ≠ x → h₁.get? b = some o → h4.get? b = some o := fun b o hb e => k4 b o hb (k3 b o e)
  have hL : s.heap.objs.size ≠ x := Nat.ne_of_gt x0
  have hns4 : h4.Ns s.heap.objs.size (fun y => [(("self" : Str), (Value.ref x)), (par, u)].reverse.lookup y) := by
    obtain ⟨oL, es, ep, e1, e2⟩ := hns
    exact ⟨oL, es, ep, k14 _ _ hL e1, e2⟩
  -- self.f = v
  show _root_.PySem.wpAt _ _ _ (execs [.Assign [.Attribute (.Name "self" p6) fld p7] (.Name par p8) p9] _) _ _ _
  refine _root_.PySem.wpAt_of_wpAny (wpAny_execs_cons (plainObj_wpAny_Assign_Attribute ?_ (by rfl)))
  refine wpAny_Name (wpAny_loadName_local hk hpar hns4 vpar ?_) hdb
  refine wpAny_Name (wpAny_loadName_local hk hself hns4 vself ?_) (by decide)
  have X4 : K.In h4 := Md.kin.keeps fun b o e => k14 b o (fun z => by rw [z, hxb] at e; cases e) (bk1 b o e)
  have I4 : PySem.W.InstAt h4 x (PySem.HandSPX.excO C t1) C none := ⟨x4, rfl, rfl, trivial⟩
  refine PySem.W.set_plain X4 I4 SC.o.sa ?_
  refine PySem.HandSPX.exc_osa X4 x4 hclC (show PySem.HandSPX.refsVE (.ref C :: bm) = true from hbm) rfl SC.fld fun h5 tk5 dx k5 dn dne hx5 hn5 => ?_
  have grow : s.heap.objs.size ≤ h4.objs.size := by
    obtain ⟨oL, es, ep, e1, e2⟩ := hns
    exact Nat.le_of_lt (Heap.lt_size (k14 _ _ hL e1))
  refine wpAny_execs_nil (h h5 tk5 dx t1 (fun b o hb e => k5 b o hb (k14 b o hb (hk₁ b o e))) (Nat.le_trans grow dn) dne hx5 hn5)
end
/-- raise C(v): the exception's class and dict -/
def tMkS (C : Addr) (fld : Str) (te : TE) : L2.St → Hp → XK → Prop := fun σ H Q => te σ H fun v0 H1 => ∃ v, [v0] = [v] ∧ ∀ dx, H1 dx = none → Q (.ref C) (some dx) (upd H1 dx (.xd [(fld, v)]))
theorem pmk_sup {X : Cx} {x fld par : Str} {C D fI : Addr} {e : Expr} {te : TE} {p pos : Pos} (SF : SupF X.K X.prog fI D fld par) (SC : SupC X.K C D fld) (iC : PySem.W.findIn X.K (.ref C) "__init__" = some (some (.ref fI))) (tI : PySem.W.typeIn X.K (.ref fI) = some (.type "function"))
    (hr : X.A.depth + 2 < recursionLimit) (hms : X.mg "super" = none) (hg : Gl X x) (hm : X.mg x = some (.ref C)) (he : PE X e te) (hdb : (x == ("__debug__" : Str)) = false) (hs : starEach [e] X.env = (false, eval e X.env) :: starEach [] X.env) (hpl : (backTo pos (starEach [] X.env)).any (·.1) = false) :
    PMk X (.Call (.Name x p) [e] [] pos) (tMkS C fld te) := by
  intro pins s σ H Q I h
  obtain ⟨nm, q, N, bs, bm, sn, sub, ab, col, dd, k0, k1, k2, k3, k5, hC, hbm⟩ := SC.o.cls
  refine wpAny_Call_Name_kw (ld_glob I hg hm ?_ hdb)
  refine PySem.W.callWith_K (h₀ := X.base) I.ok.mod.kin SC.o.kC (thn ((pa_cons he pa_nil hs).run pos pins s σ H (fun vs H1 => ∃ v, vs = [v] ∧ ∀ dx, H1 dx = none → Q (.ref C) (some dx) (upd H1 dx (.xd [(fld, v)]))) I h) fun us s1 ⟨vs, H1, I1, r1, v, ev, q1⟩ => ⟨I1.kIn, ?_⟩) hs hpl
  subst ev
  obtain ⟨u, rfl, ru⟩ := vals1 r1
  show wpAny _ _ (call (.ref C) [u]) _ _ _
  obtain ⟨hp, g, dr, tk, os⟩ := s1
  have hsz : hp.objs.size ≤ hp.objs.size + 1 := Nat.le_succ _
  have hn : H1 (hp.objs.size + 1) = none := I1.hok.fresh hsz
  have kk : ∀ b o, hp.get? b = some o → ((hp.push (PySem.W.kdv_tup [u])).push (PySem.HandSPX.excO C hp.objs.size)).get? b = some o := fun b o e => Heap.get?_push_of_some _ (Heap.get?_push_of_some _ e)
  have hget : ((hp.push (PySem.W.kdv_tup [u])).push (PySem.HandSPX.excO C hp.objs.size)).get? (hp.objs.size + 1) = some (PySem.HandSPX.excO C hp.objs.size) := by heap_get
  have I2 : Inv X pins σ (upd H1 (hp.objs.size + 1) (exo (hp.objs.size + 1) C none)) ⟨(hp.push (PySem.W.kdv_tup [u])).push (PySem.HandSPX.excO C hp.objs.size), g, dr, tk, os⟩ :=
    I1.laid (t' := tk) (a := hp.objs.size + 1) (o := exo (hp.objs.size + 1) C none) (h' := (hp.push (PySem.W.kdv_tup [u])).push (PySem.HandSPX.excO C hp.objs.size)) kk hsz (exo_ok hget)
  have hxb : X.base.get? (hp.objs.size + 1) = none := by
    cases z : X.base.get? (hp.objs.size + 1) with
    | none => rfl
    | some o => exact absurd (Heap.lt_size (I1.bk _ _ z)) (by show ¬ hp.objs.size + 1 < hp.objs.size; omega)
  refine wpAny_call (PySem.HandSPX.call_own F.excBase_ValueError (fun Y => PySem.HandSPX.refsVE_contains Y bm hbm) (I1.kIn _ _ hC) (PySem.W.looks_findIn I1.kIn iC) (fun self => PySem.W.bind_fn I1.kIn self tI) (by show 1 ≤ sizeLine; decide)
    (sup_init I1.ok.mod I2.bk hms SF SC (by rw [make_depth]; omega) hget hxb fun h' tk' dx t1 kh dn dne hx hns => ⟨rfl, ?_⟩))
  have ea : upd H1 (hp.objs.size + 1) (exo (hp.objs.size + 1) C none) (hp.objs.size + 1) = some (exo (hp.objs.size + 1) C none) := upd_same
  generalize ha : hp.objs.size + 1 = a at *
  generalize hH : upd H1 a (exo a C none) = HA at *
  have hnd : HA dx = none := I2.hok.fresh dn
  have nda : dx ≠ a := dne
  have kb : ∀ b o, b ≠ a → ((hp.push (PySem.W.kdv_tup [u])).push (PySem.HandSPX.excO C hp.objs.size)).get? b = some o → h'.get? b = some o := kh
  have nd : ∀ {b : Addr} {o : Obj}, ((hp.push (PySem.W.kdv_tup [u])).push (PySem.HandSPX.excO C hp.objs.size)).get? b = some o → b ≠ dx := fun {b o} z => Nat.ne_of_lt (Nat.lt_of_lt_of_le (Heap.lt_size z) dn)
  have na : ∀ {b : Addr}, HA b = none → b ≠ a := fun {b} n z => by rw [z, ea] at n; cases n
  have UU : Un (frs X.stack) [] HA (upd (upd HA dx (exd dx [(fld, v)])) a (exo a C (some dx))) ((hp.push (PySem.W.kdv_tup [u])).push (PySem.HandSPX.excO C hp.objs.size)) h' :=
    ⟨fun b o z n _ _ => kb b o (na n) z, fun b o z n _ _ => ⟨o.slots, kb b o (na n) z⟩, fun b o z n _ => by rw [upd_ne (na n), upd_ne (nd z)]; exact n, fun b o z _ => by
      by_cases hb : b = a
      · exact ⟨_, by rw [hb]; exact hx⟩
      · exact ⟨o, kb b o hb z⟩, fun b xs z => by rw [upd_ne (at_ne ea z exo_tup), upd_ne (ne_of_none z hnd)]; exact z, fun b o f z => by rw [upd_ne (at_ne ea z exo_frz), upd_ne (ne_of_none z hnd)]; exact z,
      fun b ps z => ⟨#[], by rw [upd_ne (at_ne ea z exo_tbl), upd_ne (ne_of_none z hnd), z]; simp⟩⟩
  have hok2 : HOk X.prog X.w (upd (upd HA dx (exd dx [(fld, v)])) a (exo a C (some dx))) h' := fun b o z => by
    by_cases hb : b = a
    · subst hb
      rw [upd_same] at z
      cases z
      exact exo_ok hx
    · rw [upd_ne hb] at z
      by_cases hd : b = dx
      · subst hd
        rw [upd_same] at z
        cases z
        exact exd_ok hns (relO_put (fs := []) ru fun _ => True.intro)
      · rw [upd_ne hd] at z
        exact (I2.hok b o z).stay (fun c y hc q => kb c y (by
            rcases hc with hc | hc
            · rw [hc]; exact hb
            · exact at_ne ea hc exo_own) q)
          (fun c hc => by rw [upd_ne (at_ne ea hc exo_own), upd_ne (ne_of_none hc hnd)]; exact hc) (fun c xs hc => by rw [upd_ne (at_ne ea hc exo_tup), upd_ne (ne_of_none hc hnd)]; exact hc)
  have hd1 : H1 dx = none := by
    have z := hnd
    rw [← hH, upd_ne nda] at z
    exact z
  have eqH : upd (del (upd (upd HA dx (exd dx [(fld, v)])) a (exo a C (some dx))) a) dx (.xd [(fld, v)]) = upd H1 dx (.xd [(fld, v)]) := by
    funext b
    by_cases hb : b = dx
    · rw [hb, upd_same, upd_same]
    · rw [upd_ne hb, upd_ne hb]
      by_cases hb2 : b = a
      · rw [hb2, del_same, hn]
      · rw [del_ne hb2, upd_ne hb2, upd_ne hb, ← hH, upd_ne hb2]
  subst hH
  refine mk_end (raises_own SC.o.exC SC.o.tyC) I1 hsz kk UU hok2 rfl I1.bare upd_same (by rw [upd_ne nda, upd_same]) hd1 ?_
  rw [eqH]
  exact q1 dx hd1
end WL
set_option Elab.async false
set_option linter.all false
set_option maxRecDepth 100000
namespace WL
open PySem PySem.Spec L2 PyProof.Rows

/-! ## raise -/
def sRaise (c : Str) (fld : Str) (e : E) : SS := fun env S => ResS.bindE (e env S) env fun d S => .exc ⟨c, [(fld, d)]⟩ env S
theorem nt_xd (ws : List (Str × V)) : notTbl (.xd ws) := fun _ z => nomatch z
section
variable {X : Cx} {C : Ctx} {W : WX} {e : Expr} {m : E} {p pos rpos : Pos}
theorem ss_raise {x fld par : Str} {Cc D fI : Addr} (hc : X.calm = true) (tk : Takes X W) (cn : C.cn x = some Cc) (SF : SupF X.K X.prog fI D fld par) (SC : SupC X.K Cc D fld) (iC : PySem.W.findIn X.K (.ref Cc) "__init__" = some (some (.ref fI))) (tI : PySem.W.typeIn X.K (.ref fI) = some (.type "function"))
    (hr : X.A.depth + 2 < recursionLimit) (hms : X.mg "super" = none) (hg : Gl X x) (hm : X.mg x = some (.ref Cc)) (h : SE X C W e m) (hdb : (x == ("__debug__" : Str)) = false) (hs : starEach [e] X.env = (false, eval e X.env) :: starEach [] X.env) (hpl : (backTo pos (starEach [] X.env)).any (·.1) = false) :
    SS1 X C W (.Raise (some (.Call (.Name x p) [e] [] pos)) none rpos) (sRaise x fld m) := by
  refine ⟨PS_imp (ps_raise hc tk (pmk_sup SF SC iC tI hr hms hg hm h.pe hdb hs hpl)) fun D σ H ⟨α, F, S, env, R, Sl, P⟩ => ⟨α, F, S, env, R, Sl, postS_E Sl P fun d S1 v α1 F1 H1 s1 R1 r P1 => ⟨v, rfl, fun dx hdx => ?_⟩⟩⟩
  have R2 := R1.new (o := .xd [(fld, v)]) hdx (nt_xd _)
  have s2 := R1.newStep (o := .xd [(fld, v)]) hdx
  exact P1 σ (.ref Cc) (some dx) α1 _ _ s2 R2 ((Sl.step s1).step s2) ⟨Cc, cn, rfl, .inr ⟨dx, _, rfl, upd_same, v, [], rfl, r.step s2, rfl⟩⟩

/-! ## try: .. except c as n: y = n -/
theorem exH_ok {P : Program} {w : World} {H : Hp} {h : Heap} {a : Addr} {cls : Value} {d : Option Addr} {oe : Obj} {vs : Array Value} (e : h.get? a = some oe) (z : Zc cls d oe) (dd : oe.data = .fields vs) : ObjOk P w H h a (ExH cls d a) :=
  ⟨⟨oe, vs, e, z, dd⟩, ⟨oe, e⟩, fun _ _ ⟨o, v, q, r⟩ k => ⟨o, v, k o q, r⟩⟩
theorem nt_exH {cls : Value} {d : Option Addr} {a : Addr} : notTbl (ExH cls d a) := fun ps z => by
  unfold ExH at z
  cases z
/-- an object of ours is tracked from now on -/
theorem inv_track {X : Cx} {pins : List (Addr × Obj)} {σ : L2.St} {H : Hp} {s : Shared} {a : Addr} {o : HO} (I : Inv X pins σ H s) (hn : H a = none) (h0 : X.s_0.heap.get? a = none) (hL : a ≠ X.env.locals) (hc : ∀ v, ¬ s.heap.IsCell a v) (hp : ∀ p ∈ X.pn ++ pins, p.1 ≠ a) (new : ObjOk X.prog X.w (upd H a o) s.heap a o) :
    Inv X pins σ (upd H a o) s := by
  have cl : ∀ x c, X.env.cells.lookup x = some c → c ≠ a := fun x c e z => by
    obtain ⟨v, q⟩ := I.cell x c e
    rw [z] at q
    exact hc v q
  refine ⟨I.ok, I.os, I.bare, ⟨I.base.keep, I.base.slot, fun b u e n hx => ?_, I.base.there, fun b xs e => ?_, fun b u v e => ?_, fun b ps e => ?_⟩, I.loc, I.cell, ?_, fun x c e => ?_, fun q hq => ?_, fun b u e => ?_, I.len⟩
  · rw [upd_ne fun z => by rw [z, h0] at e; cases e]; exact I.base.free b u e n hx
  · have q := I.base.tups b xs e
    rw [upd_ne (ne_of_none q hn)]; exact q
  · have q := I.base.frzs b u v e
    rw [upd_ne (ne_of_none q hn)]; exact q
  · obtain ⟨m, q⟩ := I.base.tbls b ps e
    exact ⟨m, by rw [upd_ne (ne_of_none q hn)]; exact q⟩
  · rw [upd_ne (Ne.symm hL)]; exact I.free
  · rw [upd_ne (cl x c e)]; exact I.freeC x c e
  · obtain ⟨e, n, ne, nf, d⟩ := I.pin q hq
    exact ⟨e, by rw [upd_ne (hp q hq)]; exact n, ne, nf, d⟩
  · by_cases hb : b = a
    · subst hb
      rw [upd_same] at e
      cases e
      exact new
    · rw [upd_ne hb] at e
      exact (I.hok b u e).stay (fun c v _ q => q) (fun c q => by rw [upd_ne (ne_of_none q hn)]; exact q) fun c xs q => by rw [upd_ne (ne_of_none q hn)]; exact q
/-- the wish of the suite: the exception is held behind it -/
def wHeld (K : PySem.W.Frag) (c : Value) (i j : Nat) (Wout : WX) (D : Ends) : WX := fun cls d σ H =>
  ∃ b, PySem.W.exmOne K cls c = some b ∧ (b = true → ∀ a, H a = none → D.nx (((σ.set i (some (.ref a))).set j (some (.ref a))).set i none) (upd H a (ExH cls d a))) ∧ (b = false → Wout cls d σ H)
theorem ps_try_held {x n y : Str} {c : Value} {i j : Nat} {body : List Stmt} {np pos pos' yp npp spos : Pos} {tb : WX → TS} {Wout : WX} (hs : X.stack = X.env :: X.outer) (hf : X.env.frame = some X.env.locals) (hex : X.ex = []) (hN : X.N.Nodup) (hi : X.N[i]? = some n) (hln : X.env.kindOf n = some .local) (hj : X.N[j]? = some y) (hyl : X.env.scope.names.lookup y = some .local) (hij : i ≠ j)
    (hdn : (n == ("__debug__" : Str)) = false) (hcn : (n == ("__classdict__" : Str)) = false) (hsw : swapsWith (.Name n npp) (some (.Name y yp)) spos.line X.env = pure false) (hc : Names X x c) (tk : Takes X Wout)
    (hb : ∀ (W : WX) (pn : List (Addr × Obj)) (xe : Value → Shared → Prop), Takes (X.tr pn xe) W → PassesOwn (model X.prog X.w) X.A X.env xe → PSs (X.tr pn xe) body (tb W)) :
    PS X (.Try body [.ExceptHandler (some (.Name x np)) (some n) [.Assign [.Name y yp] (.Name n npp) spos] pos'] [] [] pos) (fun D σ H => tb (wHeld X.K c i j Wout D) D σ H) := by
  refine ⟨fun pins st σ H D I hyp => ?_⟩
  have okX := I.ok
  have frX : X.A.frames = some (X.env :: X.outer) := by rw [okX.frames, hs]
  have locn : Loc X.env.scope n := .inl hln
  have yl : X.env.kindOf y = some .local := hyl
  refine wpAny_Try_except (wpAny_mono ((hb (wHeld X.K c i j Wout D) (X.pn ++ pins) (fun er s₁ => wpAny (model X.prog X.w) X.A (noteFrame er X.env) (fun _ s₂ => wpAny (model X.prog X.w) X.A (setFlight er none) (fun _ s₃ =>
    wpAny (model X.prog X.w) X.A (handleBy er X.env [.ExceptHandler (some (.Name x np)) (some n) [.Assign [.Name y yp] (.Name n npp) spos] pos']) (SP X pins D) X.xe s₃) X.xe s₂) X.xe s₁) (fun u s' air => ?_) PassesOwn.looking).run [] st σ H D (I.toTry _) hyp) (fun fl s1 hsp => ?_) fun _ _ he => he)
  · obtain ⟨a, B, sI, pins', σ', H', cls, d, rfl, J', nb, up, sky, na, osI, bareI, b, hb1, hyes, hno⟩ := air
    have J : Inv X pins σ' H' sI := J'.ofTry okX
    have sky2 : Sky B (X.env :: X.outer) a (Zc cls d) X.env.locals s'.heap := by rw [← hs]; exact sky
    show wpAny (model X.prog X.w) X.A (noteFrame (.ref a) X.env) _ _ _
    refine Sky.land Zc.steady frX hf sky2 fun h3 fl3 up3 => ?_
    have J3 : Inv X pins σ' H' { s' with heap := h3 } := J.landed nb fl3.1 (up.trans up3) osI bareI
    obtain ⟨oe3, vs3, he3, hz3, hd3⟩ := fl3.there
    have apart : ∀ {h : Heap} {o : Obj} {vs : Array Value}, h.FunFrames B (X.env :: X.outer) → h.get? a = some o → o.data = .fields vs → a ∉ frs (X.env :: X.outer) := fun {h o vs} ff e dd hm => by
      obtain ⟨_, o', e', hnf⟩ := ff.mem hm
      rw [e] at e'; cases e'
      exact hnf _ dd
    have nfr := apart fl3.2.2.1 he3 hd3
    have nL : a ≠ X.env.locals := fun z => nfr (List.mem_filterMap.mpr ⟨X.env, List.mem_cons_self, by rw [hf, z]⟩)
    have nF : a ∉ X.fs := fun hm => by
      obtain ⟨e0, he0, q0⟩ := List.mem_filterMap.mp hm
      exact nfr (List.mem_filterMap.mpr ⟨e0, List.mem_cons_of_mem _ he0, q0⟩)
    have nB : B.get? a = none := fl3.2.1
    have nI : sI.heap.get? a = none := by
      cases q : sI.heap.get? a with
      | none => rfl
      | some o =>
        have z := nb a o q (by rw [hs]; exact nfr)
        rw [nB] at z; cases z
    have n0 : X.s_0.heap.get? a = none := by
      cases q : X.s_0.heap.get? a with
      | none => rfl
      | some o =>
        obtain ⟨o', z⟩ := J.base.there a o q (by rw [hex]; simp)
        rw [nI] at z; cases z
    have nP : ∀ p ∈ X.pn ++ pins, p.1 ≠ a := fun p hp z => by
      obtain ⟨e, _⟩ := J.pin p hp
      rw [z, nI] at e; cases e
    have S3 := J3.suite he3 hd3 na nL nF
    refine wpAny_handleBy_cons (codeAny_handlers_test ?_) (by intro q; cases q)
    have LT : PySem.W.Looks (model X.prog X.w) h3 (typeOf (.ref a)) cls := fun A Q E s k q => wpAny_typeOf_ref (k _ _ he3) (by rw [hz3.1]; exact q)
    have LM := PySem.W.exm_one (M := model X.prog X.w) (J3.kIn) LT hb1
    have clause : ∀ {Q : Value → Shared → Prop} {E : Value → Shared → Prop}, Q c { s' with heap := h3 } → wpAny (model X.prog X.w) (X.A.mark (some (.ref a))) (eval (.Name x np) X.env) Q E { s' with heap := h3 } := fun {Q E} q => by
      obtain ⟨hg, hdbg, hm | ⟨hm, hv, hnn⟩⟩ := hc
      · exact ld_glob (X := X.suite a ((a, oe3) :: (X.pn ++ pins))) S3 hg hm q hdbg
      · exact ld_blt (X := X.suite a ((a, oe3) :: (X.pn ++ pins))) S3 hg hm hv q hnn hdbg
    refine clause (LM.here ?_)
    cases b with
    | true =>
      refine codeAny_handlers_suite_as (HandSPX.lands_againZ fl3 fun h4 fl4 up4 => ?_)
      have J4 : Inv X pins σ' H' { s' with heap := h4 } := J.landed nb fl4.1 ((up.trans up3).trans up4) osI bareI
      obtain ⟨oe4, vs4, he4, hz4, hd4⟩ := fl4.there
      have S4 := J4.suite he4 hd4 na nL nF
      refine store_ok (X := X.suite a ((a, oe4) :: (X.pn ++ pins))) (v := .ref a) S4 hN hi locn rfl (fun s5 S5 => ?_) (.inr hln)
      have one : PSs (X.suite a ((a, oe4) :: (X.pn ++ pins))) [.Assign [.Name y yp] (.Name n npp) spos] (tAsg (tVar i) (gName j)) :=
        pss_one (ps_set (X := X.suite a ((a, oe4) :: (X.pn ++ pins))) hN hj (.inl hyl) (pe_var (X := X.suite a ((a, oe4) :: (X.pn ++ pins))) hi (.inl hln) hdn hcn) hsw (.inr hyl))
      have islot : (σ'.set i (some (V.ref a)))[i]? = some (some (V.ref a)) := by
        rw [List.getElem?_set_self]
        rw [J4.len]
        exact (List.getElem?_eq_some_iff.mp hi).1
      refine wpAny_mono (one.run [] s5 _ H' { nx := fun σ6 H6 => H6 = H' ∧ σ6 = (σ'.set i (some (V.ref a))).set j (some (V.ref a)), rt := fun _ _ => False } S5 ⟨.ref a, islot, rfl, rfl⟩) (fun fl s6 hsp => ?_) (fun _ _ z => False.elim z)
      cases fl with
      | next =>
        obtain ⟨σ6, H6, S6, e6, e7⟩ := hsp
        subst e6; subst e7
        obtain ⟨he6, _⟩ := S6.pin (a, oe4) (List.mem_append_left _ List.mem_cons_self)
        have J6 := S6.unsuite okX
        have J7 : Inv X pins _ (upd H6 a (ExH cls d a)) s6 := inv_track J6 na n0 nL (fun v ⟨o, ho, hd⟩ => by rw [he6] at ho; cases ho; rw [hd4] at hd; cases hd) nP (exH_ok he6 hz4 hd4)
        exact gone_ok J7 hN hi hln fun s7 J8 => ⟨_, _, J8, hyes rfl a na⟩
      | brk => obtain ⟨_, _, _, q6⟩ := hsp; exact q6.elim
      | cont => obtain ⟨_, _, _, q6⟩ := hsp; exact q6.elim
      | ret u => obtain ⟨_, _, _, _, _, q6⟩ := hsp; exact q6.elim
    | false =>
      show wpAny _ X.A (handleBy (.ref a) X.env []) _ _ _
      refine wpAny_handleBy_nil ?_
      obtain ⟨k1, k2, k3, oe, vs, T, oT, ts', he, hz, hd, h1, hr⟩ := id fl3
      unfold PySem.passOn
      refine wpAny_bind (wpAny_field he hd h1 ?_)
      rw [if_neg (show ¬ ((Value.ref T == Value.none) = true) from by simp)]
      have out : wpAny (model X.prog X.w) X.A (setFlight (.ref a) X.env.frame) (fun _ s4 => wpAny (model X.prog X.w) X.A (throw (.ref a) : Sem Flow) (SP X pins D) X.xe s4) X.xe { s' with heap := h3 } := by
        rw [hf]
        exact HandSPX.setFlight_upZ fl3 fun h4 hh4 up4 => wpAny_throw (tk _ _ ⟨a, B, sI, pins, σ', H', cls, d, rfl, J, nb, (up.trans up3).trans up4, .inr (.inr (by rw [hs]; exact hh4)), na, osI, bareI, hno rfl⟩)
      first
        | exact wpAny_bind (wpAny_pure (wpAny_bind out))
        | exact wpAny_bind out
  · cases fl with
    | next =>
      obtain ⟨σ7, H7, J7, q7⟩ := hsp
      exact wpAny_execs_nil ⟨σ7, H7, J7.ofTry okX, q7⟩
    | brk => obtain ⟨σ7, H7, J7, q7⟩ := hsp; exact ⟨σ7, H7, J7.ofTry okX, q7⟩
    | cont => obtain ⟨σ7, H7, J7, q7⟩ := hsp; exact ⟨σ7, H7, J7.ofTry okX, q7⟩
    | ret u => obtain ⟨v7, σ7, H7, J7, r7, q7⟩ := hsp; exact ⟨v7, σ7, H7, J7.ofTry okX, r7, q7⟩
end
end WL
set_option Elab.async false
set_option linter.all false
set_option maxRecDepth 100000
namespace WL
open PySem PySem.Spec L2 PyProof.Rows

/-! ## an exception that is held -/
section
variable {X : Cx} {C : Ctx} {W : WX} {e a : Expr} {m ma : E} {p pos : Pos} {st : Stmt} {body : List Stmt} {mb : SS}
/-- the classes of exceptions that a clause catches -/
def sTryAs (xs : List (Str × Bool)) (i j : Nat) (mb : SS) : SS := fun env S => match mb env S with
  | .exc e env S => match xs.lookup e.c with
    | some true => .next ((env.set j (.d (.exc e.c e.fs))).set i .un) S
    | some false => .exc e env S
    | none => .stuck
  | r => r
theorem Slots.unset {α : List Addr} {F : Hp} {σ : L2.St} {env : Env} (h : Slots C α F σ env) (i : Nat) : Slots C α F (σ.set i none) (env.set i .un) := by
  refine ⟨by rw [List.length_set, List.length_set]; exact h.len, fun j s e => ?_⟩
  by_cases hj : i = j
  · subst hj
    rw [List.getElem?_set] at e
    split at e
    · split at e
      · cases e; exact True.intro
      · cases e
    · rename_i z; exact absurd rfl z
  · rw [List.getElem?_set_ne hj] at e ⊢
    exact h.at_ j s e
theorem ss_tryAs {x n y : Str} {CS : Addr} {i j : Nat} {xs : List (Str × Bool)} {np pos' yp npp spos : Pos} (hs : X.stack = X.env :: X.outer) (hf : X.env.frame = some X.env.locals) (hex : X.ex = []) (hN : X.N.Nodup) (hi : X.N[i]? = some n) (hln : X.env.kindOf n = some .local) (hj : X.N[j]? = some y) (hyl : X.env.scope.names.lookup y = some .local) (hij : i ≠ j)
    (hdn : (n == ("__debug__" : Str)) = false) (hcn : (n == ("__classdict__" : Str)) = false) (hsw : swapsWith (.Name n npp) (some (.Name y yp)) spos.line X.env = pure false) (hc : Names X x (.ref CS)) (tk : Takes X W)
    (hxs : ∀ c b, xs.lookup c = some b → ∀ Cc, C.cn c = some Cc → PySem.W.exmOne X.K (.ref Cc) (.ref CS) = some b)
    (hb : ∀ (W : WX) (pn : List (Addr × Obj)) (xe : Value → Shared → Prop), Takes (X.tr pn xe) W → PassesOwn (model X.prog X.w) X.A X.env xe → SSs (X.tr pn xe) C W body mb) :
    SS1 X C W (.Try body [.ExceptHandler (some (.Name x np)) (some n) [.Assign [.Name y yp] (.Name n npp) spos] pos'] [] [] pos) (sTryAs xs i j mb) := by
  refine ⟨PS_imp (ps_try_held hs hf hex hN hi hln hj hyl hij hdn hcn hsw hc tk fun W pn xe tk' hp => (hb W pn xe tk' hp).pss) fun D σ H ⟨α, F, S, env, R, Sl, P⟩ => ⟨α, F, S, env, R, Sl, ?_⟩⟩
  unfold sTryAs at P
  cases q : mb env S with
  | next env' S' => rw [q] at P; exact P
  | brk env' S' => rw [q] at P; exact P
  | cont env' S' => rw [q] at P; exact P
  | ret d S' => rw [q] at P; exact P
  | stuck => rw [q] at P; exact P
  | exc ex env' S' =>
    rw [q] at P
    intro σ' cls dx α' F' H' s' R' Sl' x
    obtain ⟨Cc, cn, ec, hd⟩ := x
    simp only at P
    cases qx : xs.lookup ex.c with
    | none => rw [qx] at P; exact (show False from P).elim
    | some b =>
      rw [qx] at P
      refine ⟨b, by rw [ec]; exact hxs _ _ qx _ cn, fun hb' a na => ?_, fun hb' => ?_⟩
      · subst hb'
        have R2 := R'.new (o := ExH cls dx a) na nt_exH
        have s2 := R'.newStep (o := ExH cls dx a) na
        have rp : Rp C α' (upd F' a (ExH cls dx a)) (.exc ex.c ex.fs) (.ref a) := by
          refine ⟨a, Cc, rfl, cn, ?_⟩
          rcases hd with ⟨h1, h2⟩ | ⟨dd, ws, h1, h2, h3⟩
          · exact .inl ⟨h1, by rw [upd_same, ec, h2]⟩
          · refine .inr ⟨dd, ws, by rw [upd_same, ec, h1], ?_, h3.mono (Pre.refl _) (Sub.new (R'.fN na))⟩
            exact Sub.new (R'.fN na) _ _ h2
        refine P _ α' _ _ (s'.trans s2) R2 ?_
        have e1 : ((σ'.set i (some (V.ref a))).set j (some (V.ref a))).set i none = (σ'.set j (some (V.ref a))).set i none := by
          rw [List.set_comm (some (V.ref a)) (some (V.ref a)) hij, List.set_set]
        rw [e1]
        exact ((Sl'.step s2).put j rp).unset i
      · subst hb'
        exact P σ' cls dx α' F' H' s' R' Sl' ⟨Cc, cn, ec, hd⟩
/-- how a held exception lies, in the heap -/
theorem exc_at {P : Program} {w : World} {H : Hp} {h : Heap} {a Cc : Addr} {d : Option Addr} (hok : HOk P w H h) (e : H a = some (ExH (.ref Cc) d a)) (hd : d = none ∨ ∃ dd ws, d = some dd ∧ H dd = some (.xd ws)) : ∃ oe od, PySem.W.InstAt h a oe Cc od := by
  obtain ⟨⟨oe, vs, h1, hz, h2⟩, _, _⟩ := hok a _ e
  rcases hd with rfl | ⟨dd, ws, rfl, hw⟩
  · obtain ⟨oc, od, oda, osl⟩ := oe
    obtain ⟨z1, z2⟩ := hz
    dsimp only at z1 z2 h2
    subst z1 z2 h2
    exact ⟨_, none, h1, rfl, rfl, trivial⟩
  · have hx : ObjOk P w H h dd (.xd ws) := hok dd _ hw
    obtain ⟨mA, hns, hr⟩ := hx
    obtain ⟨od, ho, hl⟩ := lookIn_ns hns
    exact ⟨oe, some od, h1, hz.1, by unfold PySem.W.notCls; rw [h2] <;> rfl, by rw [hz.2]; exact ho⟩
/-- isinstance(error, class) -/
def rIsX (K : PySem.W.Frag) (CT : Addr) : List V → Hp → VK → Prop := fun xs H Q => ∃ (a Cc : Addr) (d : Option Addr) (b : Bool), xs = [.ref a, .ref CT] ∧ H a = some (ExH (.ref Cc) d a) ∧ (d = none ∨ ∃ dd ws, d = some dd ∧ H dd = some (.xd ws)) ∧ ExcC K Cc ∧ (PySem.W.clsIn K Cc).isSome = true ∧ PySem.W.kitOne K (.ref Cc) (.ref CT) = some b ∧ Q (.bl b) H
theorem call_isX {CT : Addr} : CallR X (.builtin "isinstance") (rIsX X.K CT) := by
  intro pins s σ H xs us Q I r h
  obtain ⟨a, Cc, d, b, rfl, ha, hd, EC, hcl, hk, q⟩ := h
  obtain ⟨u, w', rfl, r1, r2⟩ := vals2 r
  obtain rfl : u = Value.ref a := r1
  obtain rfl : w' = Value.ref CT := r2
  obtain ⟨oe, od, J⟩ := exc_at I.hok ha hd
  exact PySem.W.kia_one (PySem.W.kitx_exc hcl EC.hg EC.hk EC.hs EC.ha EC.hn EC.ht EC.hm) I.kIn J hk (fun z => nomatch z) fun tk => ⟨.bl b, H, I.kept (t' := tk) fun _ _ z => z, rfl, q⟩
def dIsX (xs : List (Str × Bool)) : D → M D := fun x S => match x with
  | .exc c _ => match xs.lookup c with
    | some b => .ok (.bl b) S
    | none => .stuck
  | _ => .stuck
theorem se_isX {c : Str} {CT : Addr} {p1 p2 : Pos} {xs : List (Str × Bool)} (hX : X.K = C.K) (hxs : ∀ n b, xs.lookup n = some b → ∀ Cc, C.cn n = some Cc → ExcC X.K Cc ∧ (PySem.W.clsIn X.K Cc).isSome = true ∧ PySem.W.kitOne X.K (.ref Cc) (.ref CT) = some b) (hg : Gl X "isinstance") (hm : X.mg "isinstance" = none) (hgy : Gl X c) (hmy : X.mg c = some (.ref CT)) (hdy : (c == ("__debug__" : Str)) = false)
    (ha : SE X C W a ma) (he : starEach [a, .Name c p2] X.env = (false, eval a X.env) :: starEach [.Name c p2] X.env) (he2 : starEach [.Name c p2] X.env = (false, eval (.Name c p2) X.env) :: starEach [] X.env) (hpl : (backTo pos (starEach [.Name c p2] X.env)).any (·.1) = false) :
    SE X C W (.Call (.Name "isinstance" p1) [a, .Name c p2] [] pos) (eUn (dIsX xs) ma) := by
  refine se_of (pe_callB (call_isX (CT := CT)) hg hm (by decide +kernel) (pa_cons ha.pe (pa_cons (pe_glob (v := .ref CT) hgy hmy rfl hdy) pa_nil he2) he) (by decide) (by decide) he hpl) fun σ H Q ⟨α, F, S, env, R, Sl, P⟩ => ⟨α, F, S, env, R, Sl, postE_E P fun d S1 v α1 F1 H1 s1 R1 r P1 => ?_⟩
  unfold dIsX at P1
  split at P1
  · rename_i n fs
    split at P1
    · rename_i _ b hb
      obtain ⟨a, Cc, ev, cn, hd⟩ := r
      obtain ⟨h1, h2, h3⟩ := hxs _ _ hb _ cn
      subst ev
      have q := PostE.here (d := .bl b) R1 rfl P1
      rcases hd with ⟨_, h4⟩ | ⟨dd, ws, h4, h5, _⟩
      · exact ⟨a, Cc, none, b, rfl, R1.sub _ _ h4, .inl rfl, h1, h2, h3, q⟩
      · exact ⟨a, Cc, some dd, b, rfl, R1.sub _ _ h4, .inr ⟨dd, ws, rfl, R1.sub _ _ h5⟩, h1, h2, h3, q⟩
    · exact P1.elim
  · exact P1.elim
/-- error.f -/
theorem RpF.look {α : List Addr} {F : Hp} {f : Str} : ∀ {fs : List (Str × D)} {ws : List (Str × V)} {d : D}, RpF C α F fs ws → fs.lookup f = some d → ∃ v, ws.lookup f = some v ∧ Rp C α F d v
  | [], _, _, _, e => by cases e
  | (g, x) :: fs, _, d, ⟨v, r, ew, h, t⟩, e => by
    subst ew
    rw [List.lookup_cons] at e ⊢
    cases q : f == g with
    | true => rw [q] at e; cases e; exact ⟨v, rfl, h⟩
    | false => rw [q] at e; exact RpF.look t e
def dXf (f : Str) (cs : List Str) : D → M D := fun x S => match x with
  | .exc c fs => if c ∈ cs then orStuck (fs.lookup f) S else .stuck
  | _ => .stuck
theorem se_xf {f : Str} {cs : List Str} (hX : X.K = C.K) (hcs : ∀ n ∈ cs, ∀ Cc, C.cn n = some Cc → XfC X.K Cc ∧ PySem.W.findIn X.K (.ref Cc) f = some none) (h : SE X C W e m) (hb : attributeBase e f X.env (eval e X.env) = eval e X.env) : SE X C W (.Attribute e f pos) (eUn (dXf f cs) m) := by
  refine ⟨⟨fun pins s σ H Q I ⟨α, F, S, env, R, Sl, P⟩ => ?_⟩⟩
  refine attr_of hb (thn (h.pe.run pins s σ H (fun v H1 => ∃ α1 F1 S1 d, Rst C α1 F1 H1 S1 ∧ Rp C α1 F1 d v ∧ PostE C W α1 F1 H1 σ _ Q) I ⟨α, F, S, env, R, Sl, postE_E P fun d S1 v α1 F1 H1 s1 R1 r P1 => ⟨α1, F1, S1, d, R1, r, P1⟩⟩) fun u s1 ⟨v, H1, I1, ru, α1, F1, S1, d, R1, r, P1⟩ => ?_)
  unfold dXf orStuck at P1
  split at P1
  · split at P1
    · rename_i c fs hc
      split at P1
      · rename_i _ dv hv
        obtain ⟨a, Cc, ev, cn, hd⟩ := r
        obtain ⟨T, hno⟩ := hcs _ hc _ cn
        subst ev
        obtain rfl : u = Value.ref a := ru
        rcases hd with ⟨h1, _⟩ | ⟨dd, ws, h4, h5, h6⟩
        · subst h1; cases hv
        · obtain ⟨w, hw, rw'⟩ := h6.look hv
          obtain ⟨⟨oe, vs, o1, hz, o2⟩, _, _⟩ := I1.hok a _ (R1.sub _ _ h4)
          have hx : ObjOk X.prog X.w H1 s1.heap dd (.xd ws) := I1.hok dd _ (R1.sub _ _ h5)
          obtain ⟨mA, hns, hr⟩ := hx
          obtain ⟨od, ho, hl⟩ := lookIn_ns hns
          obtain ⟨u2, hu, ru2⟩ := RelO.some_of (v := w) (o := mA f) (by rw [← hw]; exact hr f)
          have J : PySem.W.InstAt s1.heap a oe Cc (some od) := ⟨o1, hz.1, by unfold PySem.W.notCls; rw [o2] <;> rfl, by rw [hz.2]; exact ho⟩
          exact HandSPX.exc_get I1.kIn J T.ga T.gg T.exC (PySem.W.findObj_own T.hdC hno rfl (by rw [hl, hu])) (handed_of ru2) ⟨w, H1, I1.tok _, ru2, PostE.here R1 rw' P1⟩
      · exact P1.elim
    · exact P1.elim
  · exact P1.elim
end
end WL
set_option Elab.async false
set_option linter.all false
set_option maxRecDepth 100000
namespace WL
open PySem PySem.Spec L2 PyProof.Rows

/-! ## instances -/
def putD (f : Str) (v : D) : List (Str × D) → List (Str × D)
  | [] => [(f, v)]
  | (g, x) :: r => if g = f then (g, v) :: r else (g, x) :: putD f v r
theorem RpF.put {C : Ctx} {α : List Addr} {F : Hp} {f : Str} {d : D} {v : V} (q : Rp C α F d v) : ∀ {fs : List (Str × D)} {ws : List (Str × V)}, RpF C α F fs ws → RpF C α F (putD f d fs) (putF f v ws)
  | [], _, h => by
    rw [show _ = [] from h]
    exact ⟨v, [], rfl, q, rfl⟩
  | (g, x) :: fs, _, ⟨w, r, e, h, t⟩ => by
    subst e
    by_cases hg : g = f
    · unfold putD putF
      rw [if_pos hg, if_pos hg]
      exact ⟨v, r, rfl, q, t⟩
    · unfold putD putF
      rw [if_neg hg, if_neg hg]
      exact ⟨w, _, rfl, h, RpF.put q t⟩
theorem RpF.length {C : Ctx} {α : List Addr} {F : Hp} : ∀ {ds : List (Str × D)} {vs : List (Str × V)}, RpF C α F ds vs → ds.length = vs.length
  | [], _, h => by rw [show _ = [] from h]; rfl
  | (_, _) :: _, _, ⟨_, _, e, _, t⟩ => by rw [e, List.length_cons, List.length_cons, RpF.length t]
/-- the attributes of an object: c its class -/
def fldsOf (S : Store) : D → Option (Str × List (Str × D))
  | .obj c fs => some (c, fs)
  | .reg j => match S[j]? with
    | some (some (.ins c fs)) => some (c, fs)
    | _ => none
  | _ => none
def dFld (f : Str) (cs : List Str) : D → M D := fun x S => match fldsOf S x with
  | some (c, fs) => if c ∈ cs then orStuck (fs.lookup f) S else .stuck
  | none => .stuck
theorem fldsOf_of {C : Ctx} {α : List Addr} {F H : Hp} {S : Store} {d : D} {v : V} {c : Str} {fs : List (Str × D)} (R : Rst C α F H S) (r : Rp C α F d v) (e : fldsOf S d = some (c, fs)) : ∃ a dx ws Cc, v = .ref a ∧ C.cn c = some Cc ∧ H a = some (.ins Cc dx ws) ∧ RpF C α F fs ws := by
  cases d <;> dsimp only [fldsOf] at e <;> first | (cases e; done) | skip
  · cases e
    obtain ⟨a, dx, ws, Cc, ev, ⟨_, cn⟩, h, l⟩ := r
    exact ⟨a, dx, ws, Cc, ev, cn, R.sub _ _ h, l⟩
  · split at e
    · rename_i hj
      cases e
      obtain ⟨a, ev, ha⟩ := r
      obtain ⟨o, h2, h3, Cc, dx, ws, h4, cn, l⟩ := R.live hj ha
      subst h4
      exact ⟨a, dx, ws, Cc, ev, cn, h3, l⟩
    · cases e
section
variable {X : Cx} {C C0 : Ctx} {W : WX} {e o : Expr} {es : List Expr} {m mo : E} {ml : EL} {p pos pos' : Pos} {f x : Str} {cs : List Str}
theorem se_fld (hX : X.K = C.K) (hcs : ∀ n ∈ cs, ∀ Cc, C.cn n = some Cc → Cls X.K Cc ∧ NoAttr X.K Cc f) (h : SE X C W e m) (hb : attributeBase e f X.env (eval e X.env) = eval e X.env) : SE X C W (.Attribute e f pos) (eUn (dFld f cs) m) := by
  refine se_of (pe_fld h.pe hb) fun σ H Q ⟨α, F, S, env, R, Sl, P⟩ => ⟨α, F, S, env, R, Sl, postE_E P fun d S1 v α1 F1 H1 s1 R1 r P1 => ?_⟩
  unfold dFld orStuck at P1
  split at P1
  · rename_i c fs hf
    split at P1
    · rename_i hc
      split at P1
      · rename_i _ dv hv
        obtain ⟨a, dx, ws, Cc, ev, cn, ha, l⟩ := fldsOf_of R1 r hf
        obtain ⟨k1, k2⟩ := hcs _ hc _ cn
        obtain ⟨w, hw, rw'⟩ := l.look hv
        exact ⟨a, Cc, dx, ws, w, ev, ha, k1, k2, hw, PostE.here R1 rw' P1⟩
      · exact P1.elim
    · exact P1.elim
  · exact P1.elim
/-- o.f = e, o a region -/
def sPutF (f : Str) (cs : List Str) (e o : E) : SS := fun env S => ResS.bindE (e env S) env fun d S => ResS.bindE (o env S) env fun x S => match x with
  | .reg j => match S[j]? with
    | some (some (.ins c fs)) => if c ∈ cs ∧ fs.length < 900 then .next env (S.set j (some (.ins c (putD f d fs)))) else .stuck
    | _ => .stuck
  | _ => .stuck
theorem ss_putF (hX : X.K = C.K) (hcs : ∀ n ∈ cs, ∀ Cc, C.cn n = some Cc → Cls X.K Cc ∧ NoAttr X.K Cc f) (h : SE X C W e m) (ho : SE X C W o mo) (hs : swapsWith e (some (.Attribute o f pos')) pos.line X.env = pure false) : SS1 X C W (.Assign [.Attribute o f pos'] e pos) (sPutF f cs m mo) := by
  refine ⟨PS_imp (ps_fld ho.pe h.pe hs) fun D σ H ⟨α, F, S, env, R, Sl, P⟩ => ⟨α, F, S, env, R, Sl, postS_E Sl P fun d S1 v α1 F1 H1 s1 R1 r P1 => ⟨α1, F1, S1, env, R1, Sl.step s1, postS_E (Sl.step s1) P1 fun dx S2 y α2 F2 H2 s2 R2 ry P2 => ?_⟩⟩⟩
  split at P2
  · rename_i j
    split at P2
    · rename_i c fs hj
      split at P2
      · rename_i hc
        obtain ⟨a, ev, ha⟩ := ry
        obtain ⟨oo, h2, h3, Cc, dx, ws, h4, cn, l⟩ := R2.live hj ha
        subst h4
        obtain ⟨k1, k2⟩ := hcs _ hc.1 _ cn
        refine ⟨a, Cc, dx, ws, ev, h3, k1, k2, by have := hc.2; rw [l.length] at this; omega, ?_⟩
        have st : Step α2 F2 H2 α2 F2 (upd H2 a (.ins Cc dx (putF f v ws))) := R2.putStep ha
        exact P2 σ α2 F2 _ st (R2.put hj ha ⟨Cc, dx, _, rfl, cn, l.put (r.step s2)⟩) (((Sl.step s1).step s2).step st)
      · exact P2.elim
    · exact P2.elim
  · exact P2.elim
/-- a property -/
def dPrp (m : List D → M D) (cs : List Str) : D → M D := fun x S => match fldsOf S x with
  | some (c, _) => if c ∈ cs then (m [x] S).only fun d S => .ok d S else .stuck
  | none => .stuck
theorem pass_none {X : Cx} : Passes (L2.CX X.prog X.w) X.nox (fun _ _ _ => False) := fun _ _ _ _ _ _ _ ⟨_, _, _, _, _, _, _, _, _, _, _, _, z⟩ => z
theorem se_prop {k j : Nat} {pp g Cc : Addr} {fd : FuncData} {ps : List Str} {mg : List D → M D} {c : Str} (O : Over C C0) (cn : C.cn c = some Cc) (cl : Cls X.K Cc) (hp : PropOf X.K Cc f pp g) (Fn : FnOk X.prog X.w X.K X.mg X.base (L2.CX X.prog X.w) k g fd ps (spM C0 1 mg)) (hr : Room j X.A) (hkj : k + 1 ≤ j) (hb : Binds X.K fd ps [])
    (h : SE X C W e m) (hab : attributeBase e f X.env (eval e X.env) = eval e X.env) : SE X C W (.Attribute e f pos) (eUn (dPrp mg [c]) m) := by
  refine se_of (pe_prop h.pe cl hp Fn (hr.mono hkj) hb (.nil : Vals [] []) pass_none hab) fun σ H Q ⟨α, F, S, env, R, Sl, P⟩ => ⟨α, F, S, env, R, Sl, postE_E P fun d S1 v α1 F1 H1 s1 R1 r P1 => ?_⟩
  unfold dPrp at P1
  split at P1
  · rename_i c' fs hf
    split at P1
    · rename_i hc
      rw [List.mem_singleton] at hc
      subst hc
      obtain ⟨a, dx, ws, Cc', ev, cn', ha, l⟩ := fldsOf_of R1 r hf
      rw [cn] at cn'
      cases cn'
      subst ev
      refine ⟨a, dx, ws, rfl, ha, rfl, α1, F1, S1, [d], O.rst R1, O.rpl.mp (RpL.one r), ?_⟩
      cases q : mg [d] S1 with
      | ok d2 S2 =>
        rw [q] at P1
        exact O.post (W := fun _ _ _ _ => False) (σ := []) R1 (fun v α' F' H' s R' r' => P1 v α' F' H' s R' r')
      | exc z S2 => rw [q] at P1; exact P1.elim
      | stuck => rw [q] at P1; exact P1.elim
    · exact P1.elim
  · exact P1.elim

/-! ### C(e, ..) -/
theorem Rst.more {α : List Addr} {F H : Hp} {S : Store} {a : Addr} {oo : HO} (R : Rst C α F H S) (h : H a = none) : Rst C α F (upd H a oo) S ∧ Step α F H α F (upd H a oo) := by
  refine ⟨⟨fun b w q => by rw [upd_ne (ne_of_none (R.sub b w q) h)]; exact R.sub b w q, R.nt, R.nd, fun b q => ?_, R.len, fun j r q => ?_, R.tab.ext (Sub.refl F) fun b ps q => by rw [upd_ne (ne_of_none q h)]; exact q, R.low, R.lowA⟩, Pre.refl _, Sub.refl F, fun b w q n na => ⟨by rw [upd_ne (ne_of_none q h)]; exact q, fun z => z, na⟩⟩
  · obtain ⟨w, e1, t⟩ := R.liv b q
    exact ⟨w, by rw [upd_ne (ne_of_none e1 h)]; exact e1, t⟩
  · obtain ⟨b, w, h1, h2, h3, h4⟩ := R.reg j r q
    exact ⟨b, w, h1, h2, by rw [upd_ne (ne_of_none h3 h)]; exact h3, h4⟩
def mkObj (on : List Str) (c : Str) (m : List D → M D) : List D → M D := fun ds S => sealR S.length on ((m (.reg S.length :: ds) (S ++ [some (.ins c [])])).bind fun r S2 => match r with
  | .non => .ok (.reg S.length) S2
  | _ => .stuck)
/-- the same, and the object stays a region -/
def mkObjR (c : Str) (m : List D → M D) : List D → M D := fun ds S => (m (.reg S.length :: ds) (S ++ [some (.ins c [])])).bind fun r S2 => match r with
  | .non => .ok (.reg S.length) S2
  | _ => .stuck
theorem run_mk {pins : List (Addr × Obj)} {σ : L2.St} {H : Hp} {s : Shared} {Q : VK} {us : List Value} {vs dvs : List V} {ds : List Value} {Cc fI : Addr} {k : Nat} {fd : FuncData} {ps : List Str} {sp : Sp} {E : XK} (M : Mk X.K Cc fI) (Fn : FnOk X.prog X.w X.K X.mg X.base (L2.CX X.prog X.w) k fI fd ps sp) (hr : Room (k + 1) X.A) (hb : Binds X.K fd ps ds) (hd : Vals dvs ds)
    (hx : PassesAt (L2.CX X.prog X.w) X σ E) (I : Inv X pins σ H s) (r : Vals vs us)
    (h : ∀ a dx, H a = none → H dx = none → dx ≠ a → sp (.ref a :: (vs ++ dvs)) (upd (upd H dx (.own a)) a (.ins Cc dx [])) (fun v H2 => v = .non ∧ Q (.ref a) H2) E) : wpAny (model X.prog X.w) X.A (call (.ref Cc) us) (EP X pins σ Q) X.xe s := by
  have hn1 : H (s.heap.objs.size + 1) = none := I.hok.fresh (Nat.le_succ _)
  have hn0 : H s.heap.objs.size = none := I.hok.fresh (Nat.le_refl _)
  have want := h (s.heap.objs.size + 1) s.heap.objs.size hn1 hn0 (Nat.ne_of_lt (Nat.lt_succ_self _))
  have J := Inv.made (C := Cc) I
  have rr : Vals (V.ref (s.heap.objs.size + 1) :: (vs ++ dvs)) (Value.ref (s.heap.objs.size + 1) :: (us ++ ds)) := .cons rfl (r.append hd)
  have ln : (Value.ref (s.heap.objs.size + 1) :: us ++ ds).length = ps.length := rr.length.symm.trans (Fn.len _ _ _ _ want)
  have e0 := J.env0.make Cc us []
  have bt := hb _ (Value.ref (s.heap.objs.size + 1) :: us) J.kIn ln
  refine wpAny_call (make_map (f := fI) I.kIn M.makes M.init (beq_iff_eq.mp M.fn) (codeAny_mono (Fn.run _ X.stack _ _ _ (Value.ref (s.heap.objs.size + 1) :: (us ++ ds)) _ _ E (hr.make Cc us []) e0 bt rr want) ?_))
  rintro (er | fl) s' hq
  · exact hx pins _ _ er s' J hq
  · cases fl with
    | ret u =>
      obtain ⟨v, H', I3, rv, ev, q3⟩ := J.after hq
      subst ev
      exact ⟨rv, V.ref (s.heap.objs.size + 1), H', I3, rfl, q3⟩
    | next => exact hq.elim
    | brk => exact hq.elim
    | cont => exact hq.elim
/-- the promise of __init__ at the new object -/
theorem mk_wish {np : Nat} {mi : List D → M D} {α : List Addr} {F H : Hp} {S : Store} {σ : L2.St} {ds : List D} {vs : List V} {Q2 : VK} {Cc a dx : Addr} {c : Str} (O : Over C C0) (cn : C.cn c = some Cc) (R : Rst C α F H S) (rl : RpL C α F ds vs) (hl : vs.length + 1 = np) (ha : H a = none) (hdx : H dx = none) (hne : dx ≠ a)
    (P : PostE C W (α ++ [a]) F (upd (upd H dx (.own a)) a (.ins Cc dx [])) σ (mi (.reg S.length :: ds) (S ++ [some (.ins c [])])) Q2) : spM C0 np mi (.ref a :: vs) (upd (upd H dx (.own a)) a (.ins Cc dx [])) Q2 (WE W σ) := by
  obtain ⟨R1, s1⟩ := R.more (oo := .own a) hdx
  have ha1 : upd H dx (.own a) a = none := by rw [upd_ne (Ne.symm hne)]; exact ha
  have ro : RpO C α F (.ins c []) (.ins Cc dx []) := ⟨Cc, dx, [], rfl, cn, rfl⟩
  have R2 := R1.lay ha1 ro
  have rl2 : RpL C (α ++ [a]) F (.reg S.length :: ds) (.ref a :: vs) := ⟨.ref a, vs, rfl, ⟨a, rfl, by rw [R.len]; simp⟩, rl.mono (Pre.app _ _) (Sub.refl _)⟩
  exact O.call (by rw [List.length_cons]; exact hl) R2 rl2 P
theorem se_make {k j np : Nat} {Cc fI : Addr} {fd : FuncData} {ps : List Str} {mi : List D → M D} {dvs : List V} {dds : List D} {dfs : List Value} (O : Over C C0) (hon : C.on = C0.on) (cn : C.cn x = some Cc) (M : Mk X.K Cc fI) (Fn : FnOk X.prog X.w X.K X.mg X.base (L2.CX X.prog X.w) k fI fd ps (spM C0 (np + 1) mi)) (hr : Room j X.A) (hkj : k + 1 ≤ j) (hg : Gl X x) (hm : X.mg x = some (.ref Cc))
    (hb : Binds X.K fd ps dfs) (hd : Vals dvs dfs) (hdv : ∀ α F, RpL C0 α F dds dvs) (tk : Takes X W) (ha : SEA X C W (e :: es) ml) (hdb : (x == ("__debug__" : Str)) = false) (he : starEach (e :: es) X.env = (false, eval e X.env) :: starEach es X.env) (hpl : (backTo pos (starEach es X.env)).any (·.1) = false) :
    SE X C W (.Call (.Name x p) (e :: es) [] pos) (eCall np (mkObj C.on x mi) dds ml) := by
  refine ⟨⟨fun pins s σ H Q I ⟨α, F, S, env, R, Sl, P⟩ => ?_⟩⟩
  refine wpAny_Call_Name_kw (ld_glob I hg hm ?_ hdb)
  refine PySem.W.callWith_K (h₀ := X.base) I.ok.mod.kin M.kp (thn (ha.pa.run pos pins s σ H (fun vs H1 => ∃ α1 F1 S1 ds, Rst C α1 F1 H1 S1 ∧ RpL C α1 F1 ds vs ∧ PostE C W α1 F1 H1 σ _ Q) I ⟨α, F, S, env, R, Sl, postE_A P fun ds S1 vs α1 F1 H1 s1 R1 r P1 => ⟨α1, F1, S1, ds, R1, r, P1⟩⟩) fun us s1 ⟨vs, H1, I1, ru, α1, F1, S1, ds, R1, rl, P1⟩ => ⟨I1.kIn, ?_⟩) he hpl
  split at P1
  · rename_i hl
    have ra : RpL C α1 F1 (ds ++ dds) (vs ++ dvs) := rl.app (O.rpl.mpr (hdv _ _))
    refine run_mk (E := WE W σ) M Fn (hr.mono hkj) hb hd (passAt tk σ) I1 ru fun a dx hna hndx hne => mk_wish O cn R1 ra (by rw [← ra.length, hl]) hna hndx hne ?_
    obtain ⟨R2, s2⟩ := R1.more (oo := .own a) hndx
    have ha1 : upd H1 dx (.own a) a = none := by rw [upd_ne (Ne.symm hne)]; exact hna
    have s3 := s2.trans (R2.layStep (o := .ins Cc dx []) ha1)
    unfold mkObj at P1
    cases q : mi (.reg S1.length :: (ds ++ dds)) (S1 ++ [some (.ins x [])]) with
    | stuck => rw [q] at P1; exact P1
    | exc z S3 =>
      rw [q] at P1
      exact fun cls d α' F' H' s R' xx => sealX_run R1 P1 (s3.trans s) R' xx
    | ok d S3 =>
      rw [q] at P1
      intro v α' F' H' s R' r'
      cases d <;> first | exact (show False from P1).elim | skip
      refine ⟨r', sealO_run R1 P1 (s3.trans s) R' ⟨a, rfl, s.pre _ _ ?_⟩⟩
      rw [R1.len]; simp
  · exact P1.elim
theorem se_makeR {k j np : Nat} {Cc fI : Addr} {fd : FuncData} {ps : List Str} {mi : List D → M D} {dvs : List V} {dds : List D} {dfs : List Value} (O : Over C C0) (cn : C.cn x = some Cc) (M : Mk X.K Cc fI) (Fn : FnOk X.prog X.w X.K X.mg X.base (L2.CX X.prog X.w) k fI fd ps (spM C0 (np + 1) mi)) (hr : Room j X.A) (hkj : k + 1 ≤ j) (hg : Gl X x) (hm : X.mg x = some (.ref Cc))
    (hb : Binds X.K fd ps dfs) (hd : Vals dvs dfs) (hdv : ∀ α F, RpL C0 α F dds dvs) (tk : Takes X W) (ha : SEA X C W (e :: es) ml) (hdb : (x == ("__debug__" : Str)) = false) (he : starEach (e :: es) X.env = (false, eval e X.env) :: starEach es X.env) (hpl : (backTo pos (starEach es X.env)).any (·.1) = false) :
    SE X C W (.Call (.Name x p) (e :: es) [] pos) (eCall np (mkObjR x mi) dds ml) := by
  refine ⟨⟨fun pins s σ H Q I ⟨α, F, S, env, R, Sl, P⟩ => ?_⟩⟩
  refine wpAny_Call_Name_kw (ld_glob I hg hm ?_ hdb)
  refine PySem.W.callWith_K (h₀ := X.base) I.ok.mod.kin M.kp (thn (ha.pa.run pos pins s σ H (fun vs H1 => ∃ α1 F1 S1 ds, Rst C α1 F1 H1 S1 ∧ RpL C α1 F1 ds vs ∧ PostE C W α1 F1 H1 σ _ Q) I ⟨α, F, S, env, R, Sl, postE_A P fun ds S1 vs α1 F1 H1 s1 R1 r P1 => ⟨α1, F1, S1, ds, R1, r, P1⟩⟩) fun us s1 ⟨vs, H1, I1, ru, α1, F1, S1, ds, R1, rl, P1⟩ => ⟨I1.kIn, ?_⟩) he hpl
  split at P1
  · rename_i hl
    have ra : RpL C α1 F1 (ds ++ dds) (vs ++ dvs) := rl.app (O.rpl.mpr (hdv _ _))
    refine run_mk (E := WE W σ) M Fn (hr.mono hkj) hb hd (passAt tk σ) I1 ru fun a dx hna hndx hne => mk_wish O cn R1 ra (by rw [← ra.length, hl]) hna hndx hne ?_
    obtain ⟨R2, s2⟩ := R1.more (oo := .own a) hndx
    have ha1 : upd H1 dx (.own a) a = none := by rw [upd_ne (Ne.symm hne)]; exact hna
    have s3 := s2.trans (R2.layStep (o := .ins Cc dx []) ha1)
    unfold mkObjR at P1
    have P2 := PostE.step s3 P1
    cases q : mi (.reg S1.length :: (ds ++ dds)) (S1 ++ [some (.ins x [])]) with
    | stuck => rw [q] at P2; exact P2
    | exc z S3 => rw [q] at P2; exact P2
    | ok d S3 =>
      rw [q] at P2
      intro v α' F' H' s R' r'
      cases d <;> first | exact (show False from P2).elim | skip
      refine ⟨r', P2 (.ref a) α' F' H' s R' ⟨a, rfl, s.pre _ _ ?_⟩⟩
      rw [R1.len]; simp
  · exact P1.elim
end
end WL
set_option Elab.async false
set_option linter.all false
set_option maxRecDepth 100000
namespace WL
open PySem PySem.Spec L2 PyProof.Rows

/-! ## functions as values -/
section
variable {X : Cx} {C C0 : Ctx} {W : WX} {e : Expr} {es : List Expr} {ml : EL} {p pos : Pos} {x : Str}
theorem nt_lamO {f c : Addr} {L : LamK} : notTbl (LamO f L c) := fun ps z => by
  unfold LamO at z
  cases z
theorem lamO_at {P : Program} {w : World} {H : Hp} {h : Heap} {f c : Addr} {L : LamK} (hok : HOk P w H h) (e : H f = some (LamO f L c)) : ∃ (od : Option Addr) (sl : Array (Option Value)) (pm ctv : Value),
    h.get? f = some (⟨.type "function", od, .func (PySem.W.kla_fn "<lambda>" L.qual L.params L.body L.scope [] pm (.ref c) ctv), sl⟩ : Obj) := by
  obtain ⟨z, _, _⟩ := hok f _ e
  exact z
/-- lambda ..: .., that captures nothing -/
theorem se_lamV {i : Nat} {params : Arguments} {body : Expr} {scope : Scope} (L : LamAt X C pos) (hl : C.lf i = some ⟨X.env.qual ++ "<lambda>", params, body, scope⟩) (hcl : scope.names.all (fun y => !decide (y.2 = .free)) = true) (hc0 : cloFrom X.env.cells scope.names [] = []) (hdef : defaultsOf params X.env = ([], [])) :
    SE X C W (.Lambda params body scope pos) (eC (.fn i)) := by
  refine ⟨⟨fun pins s σ H Q I ⟨α, F, S, env, R, Sl, P⟩ => ?_⟩⟩
  have nofree : ∀ y ∈ scope.names, y.2 = .free → ∃ c, X.env.cells.lookup y.1 = some c := fun y hy e => by
    have z := List.all_eq_true.mp hcl y hy
    simp [e] at z
  refine lam_run I R L hdef nofree fun f c' pm ctv F1 H1 s' I1 s1 R1 hco hf hfn hfs hge => ?_
  rw [hc0] at hf
  have n0 : X.s_0.heap.get? f = none := by
    cases q : X.s_0.heap.get? f with
    | none => rfl
    | some o => exact absurd (Nat.lt_of_lt_of_le (Heap.lt_size q) (Nat.le_trans I.sz hge)) (Nat.lt_irrefl _)
  have nL : f ≠ X.env.locals := Nat.ne_of_gt (Nat.lt_of_lt_of_le I.lt hge)
  have nP : ∀ q ∈ X.pn ++ pins, q.1 ≠ f := fun q hq z => by
    obtain ⟨e, _⟩ := I.pin q hq
    rw [z] at e
    exact absurd (Nat.lt_of_lt_of_le (Heap.lt_size e) hge) (Nat.lt_irrefl _)
  have new : ObjOk X.prog X.w (upd H1 f (LamO f ⟨X.env.qual ++ "<lambda>", params, body, scope⟩ c')) s'.heap f (LamO f ⟨X.env.qual ++ "<lambda>", params, body, scope⟩ c') :=
    ⟨⟨_, _, pm, ctv, hf⟩, ⟨_, hf⟩, fun h1 h2 ⟨od, sl, p1, t1, z⟩ st => ⟨od, sl, p1, t1, st _ z⟩⟩
  have I2 := inv_track I1 hfn n0 nL (fun v ⟨o, ho, hd⟩ => by rw [hf] at ho; cases ho; cases hd) nP new
  have R2 := R1.new (o := LamO f ⟨X.env.qual ++ "<lambda>", params, body, scope⟩ c') hfn nt_lamO
  have s2 := R1.newStep (o := LamO f ⟨X.env.qual ++ "<lambda>", params, body, scope⟩ c') hfn
  refine ⟨.ref f, _, I2, rfl, P (.ref f) α _ _ (s1.trans s2) R2 (.inr ⟨f, c', _, hl, rfl, upd_same, Sub.new (R1.fN hfn) _ _ hco⟩)⟩
/-- what the functions that are values do -/
structure FnTbl (P : Program) (w : World) (K : PySem.W.Frag) (mg : Str → Option Value) (base : Heap) (C0 : Ctx) (k : Nat) (np : Nat → Nat) (tbl : Nat → List D → M D) : Prop where
  g : ∀ i a, C0.gf i = some a → ∃ fd ps oc od osl, FnOk P w K mg base (L2.CX P w) k a fd ps (spM C0 (np i) (tbl i)) ∧ K.lookup a = some ⟨oc, od, .func fd, osl⟩ ∧ Binds K fd ps [] ∧ ps.length = np i
  l : ∀ i L, C0.lf i = some L → ∀ (f c' : Addr) (A : Around) (outer : List PySem.Env) (s : Shared) (H : Hp) (us : List Value) (vs : List V) (Q : VK) (E : XK), Room k A → Env0 P w K mg base A outer s H → H f = some (LamO f L c') → H c' = some (LamX.CodeO c' L.qual) → Vals vs us → spM C0 (np i) (tbl i) vs H Q E →
    codeAny (model P w) A (.call (.ref f) ⟨us, []⟩) (CR (L2.CX P w) outer P w H s Q E) s
theorem lam_tbl {P : Program} {w : World} {K : PySem.W.Frag} {mg : Str → Option Value} {base : Heap} {ps : List Str} {L : LamK} {kb : Nat} {mb : E} (NS : NdefX.NScope ps ps [] L.scope)
    (hbind : ∀ (pm cv ctv : Value) (us : List Value), us.length = ps.length → bindArgs (PySem.W.kla_fn "<lambda>" L.qual L.params L.body L.scope [] pm cv ctv) ⟨us, []⟩ = pure (ps.zip us))
    (hbody : ∀ (c' f : Addr) (A : Around) (outer : List PySem.Env) (s : Shared) (H : Hp) (E : XK), Room kb (A.deeper (NdefX.envF ⟨"<lambda>", L.qual, L.params, [], L.scope, [], c'⟩ f s.heap.objs.size)) →
      SE (NdefX.ncx (L2.CX P w) P w K mg base ps ⟨"<lambda>", L.qual, L.params, [], L.scope, [], c'⟩ f A outer s H E) C0 (fun cls d _ H => E cls d H) L.body mb)
    (f c' : Addr) (A : Around) (outer : List PySem.Env) (s : Shared) (H : Hp) (us : List Value) (vs : List V) (Q : VK) (E : XK) (hr : Room (kb + 1) A) (e0 : Env0 P w K mg base A outer s H) (hf : H f = some (LamO f L c')) (hc : H c' = some (LamX.CodeO c' L.qual)) (r : Vals vs us) (sp : spM C0 ps.length (opLam ps.length mb []) vs H Q E) :
    codeAny (model P w) A (.call (.ref f) ⟨us, []⟩) (CR (L2.CX P w) outer P w H s Q E) s := by
  obtain ⟨hl, α', F', S', ds, R', rp, Pp⟩ := sp
  obtain ⟨od, sl, pm, ctv, ho⟩ := lamO_at e0.hok hf
  have lim : s.heap.NoLimit := e0.mod.nolimit.keeps fun b o e => (e0.bs b o e).1
  refine PySem.W.kla_callFunE hr.depth ho rfl NS.co NS.gen rfl (NdefX.codeO_at e0.hok hc) ?_
  rw [hbind _ _ _ us (by rw [← r.length]; exact hl)]
  refine wpAny_pure (wpAny_newFunctionEnv NS.nocell (fun ⟨n, _⟩ hy => NS.par n (List.of_mem_zip hy).1) (fun h₁ hns hsb => ⟨lim.fresh _ hsb, ?_⟩) NS.kind)
  have kp : ∀ b o, s.heap.get? b = some o → h₁.get? b = some o := fun b o e => hsb.extBut b o (Nat.ne_of_lt (Heap.lt_size e)) (Heap.get?_push_of_some _ e)
  have C2 : NdefX.CellsAt [] [] [] s.heap H := ⟨rfl, fun y c e => (by cases e), fun x y c e => (by cases e), fun i y e => (by simp at e)⟩
  have J := NdefX.inv_startN (CX := L2.CX P w) (E := E) (f := f) (F := ⟨"<lambda>", L.qual, L.params, [], L.scope, [], c'⟩) (h₁ := h₁) (tk := s.toks + (ps.zip us).length) NS hr.hd e0 hl r C2 hns kp
  refine PySem.W.kla_codeExpr (wpAny_mono ((hbody c' f A outer s H E (hr.deeper _)).pe.run [] _ _ H Q J ⟨α', F', S', ds.map .d, R', ?_, ?_⟩) (fun v s1 hq => ?_) fun e s1 hq => hq)
  · have hdl := rp.length
    refine ⟨?_, fun i sl e => ?_⟩
    · unfold NdefX.startF
      simp only [List.length_append, List.length_map, List.length_replicate, List.length_nil]
      omega
    · unfold NdefX.startF
      rw [List.getElem?_map] at e
      cases q : ds[i]? with
      | none => rw [q] at e; cases e
      | some d =>
        rw [q] at e
        cases e
        obtain ⟨v, hv, rv⟩ := rp.get q
        refine ⟨v, ?_, rv⟩
        rw [List.getElem?_append_left (by rw [List.length_map]; exact (List.getElem?_eq_some_iff.mp hv).1), List.getElem?_map, hv] <;> rfl
  · unfold opLam at Pp
    split at Pp
    · rw [List.append_nil] at Pp
      exact Pp.sig
    · exact Pp.elim
  · obtain ⟨w', H2, J', rv, q⟩ := hq
    exact ⟨w', H2, J'.os, J'.bare, J'.base, J'.hok, rv, q⟩
/-- x(e, ..), x a name that holds a function -/
def eCallV (k : Nat) (np : Nat → Nat) (tbl : Nat → List D → M D) (ml : EL) : E := fun env S => match env[k]? with
  | some (.d (.fn i)) => (ml env S).bind fun ds S => if ds.length = np i then tbl i ds S else .stuck
  | _ => .stuck
theorem se_callV {k j kx : Nat} {np : Nat → Nat} {tbl : Nat → List D → M D} (O : Over C C0) (hgf : C.gf = C0.gf) (hlf : C.lf = C0.lf) (T : FnTbl X.prog X.w X.K X.mg X.base C0 k np tbl) (hr : Room j X.A) (hkj : k ≤ j) (tk : Takes X W) (hN : X.N[kx]? = some x) (hv : Vis X.env.scope x) (hd : (x == ("__debug__" : Str)) = false) (hcd : (x == ("__classdict__" : Str)) = false)
    (ha : SEA X C W (e :: es) ml) (he : starEach (e :: es) X.env = (false, eval e X.env) :: starEach es X.env) (hpl : (backTo pos (starEach es X.env)).any (·.1) = false) : SE X C W (.Call (.Name x p) (e :: es) [] pos) (eCallV kx np tbl ml) := by
  refine ⟨⟨fun pins s σ H Q I ⟨α, F, S, env, R, Sl, P⟩ => ?_⟩⟩
  unfold eCallV at P
  split at P
  · rename_i i q
    obtain ⟨v0, hv0, rf⟩ := Sl.at_ kx _ q
    refine wpAny_Call_Name_kw (thn ((pe_var (pos := p) hN hv hd hcd).run pins s σ H (fun v H1 => v = v0 ∧ H1 = H) I ⟨v0, hv0, rfl, rfl⟩) fun u s1 ⟨v, H1, I1, r1, q1, q2⟩ => ?_)
    subst q1; subst q2
    have done : ∀ (a : Addr) (us : List Value) (vs : List V) (s2 : Shared) (H2 : Hp), Inv X pins σ H2 s2 → (spM C0 (np i) (tbl i) vs H2 Q (WE W σ) → codeAny (model X.prog X.w) X.A (.call (.ref a) ⟨us, []⟩) (CR (L2.CX X.prog X.w) X.stack X.prog X.w H2 s2 Q (WE W σ)) s2) → spM C0 (np i) (tbl i) vs H2 Q (WE W σ) →
        wpAny (model X.prog X.w) X.A (call (.ref a) us) (EP X pins σ Q) X.xe s2 := fun a us vs s2 H2 I2 hrun hsp => by
      refine wpAny_call (codeAny_mono (hrun hsp) ?_)
      rintro (e | fl) s3 hq
      · exact passAt tk σ pins H2 s2 e s3 I2 hq
      · cases fl with
        | ret u => exact I2.after hq
        | next => exact hq.elim
        | brk => exact hq.elim
        | cont => exact hq.elim
    have args := ha.pa.run pos pins s1 σ H1 (fun vs H2 => ∃ α1 F1 S1 ds, Step α F H1 α1 F1 H2 ∧ Rst C α1 F1 H2 S1 ∧ RpL C α1 F1 ds vs ∧ PostE C W α1 F1 H2 σ _ Q) I1 ⟨α, F, S, env, R, Sl, postE_A P fun ds S1 vs α1 F1 H2 st R1 r P1 => ⟨α1, F1, S1, ds, st, R1, r, P1⟩⟩
    rcases rf with ⟨a, hga, ev⟩ | ⟨f, c', L, hla, ev, hf, hc⟩
    · subst ev
      obtain rfl : u = Value.ref a := r1
      rw [hgf] at hga
      obtain ⟨fd, ps, oc, od, osl, Fn, lk, hb, hps⟩ := T.g i a hga
      have at1 : ∀ (s : Shared), (∀ b o, X.base.get? b = some o → s.heap.get? b = some o) → PySem.W.FnAt a s.heap := fun s kb => ⟨oc, od, fd, osl, (I.ok.mod.kin.keeps kb) _ _ lk⟩
      refine PySem.W.callWith_F (first := []) (at1 s1 I1.bk) (thn args fun us s2 ⟨vs, H2, I2, rv, α1, F1, S1, ds, st, R1, rl, P1⟩ => ⟨at1 s2 I2.bk, ?_⟩) he hpl
      show wpAny _ _ (call (.ref a) us) _ _ _
      split at P1
      · rename_i hl
        have hvl : vs.length = np i := by rw [← rl.length]; exact hl
        refine done a us vs s2 H2 I2 (fun hsp => ?_) (O.call hvl R1 rl P1)
        have bt := hb s2 us I2.kIn (by rw [List.append_nil, ← rv.length, hvl, hps])
        rw [List.append_nil] at bt
        exact Fn.run X.A X.stack s2 H2 ⟨us, []⟩ us vs Q (WE W σ) (hr.mono hkj) I2.env0 bt rv hsp
      · exact P1.elim
    · subst ev
      obtain rfl : u = Value.ref f := r1
      rw [hlf] at hla
      have at1 : ∀ {s : Shared} {H : Hp}, Inv X pins σ H s → H f = some (LamO f L c') → PySem.W.FnAt f s.heap := fun {s H} I e => by
        obtain ⟨od, sl, pm, ctv, ho⟩ := lamO_at I.hok e
        exact ⟨_, od, _, sl, ho⟩
      refine PySem.W.callWith_F (first := []) (at1 I1 (R.sub _ _ hf)) (thn args fun us s2 ⟨vs, H2, I2, rv, α1, F1, S1, ds, st, R1, rl, P1⟩ => ⟨at1 I2 (R1.sub _ _ (st.frz _ _ hf)), ?_⟩) he hpl
      show wpAny _ _ (call (.ref f) us) _ _ _
      split at P1
      · rename_i hl
        have hvl : vs.length = np i := by rw [← rl.length]; exact hl
        exact done f us vs s2 H2 I2 (fun hsp => T.l i L hla f c' X.A X.stack s2 H2 us vs Q (WE W σ) (hr.mono hkj) I2.env0 (R1.sub _ _ (st.frz _ _ hf)) (R1.sub _ _ (st.frz _ _ hc)) rv hsp) (O.call hvl R1 rl P1)
      · exact P1.elim
  · exact P.elim
end
end WL
set_option Elab.async false
set_option linter.all false
set_option maxRecDepth 100000
namespace WL
open PySem PySem.Spec L2 PyProof.Rows

/-! ## dict displays -/
def putKD {κ : Type} [DecidableEq κ] (kvs : List (κ × D)) (k : κ) (v : D) : List (κ × D) :=
  if (kvs.any fun kv => decide (kv.1 = k)) = true then kvs.map (fun kv => if kv.1 = k then (kv.1, v) else kv) else kvs ++ [(k, v)]
def mergeKD (kvs more : List (Key × D)) : List (Key × D) := more.foldl (fun acc kv => putKD acc kv.1 kv.2) kvs
section
variable {C : Ctx} {α : List Addr} {F : Hp}
theorem RpK.any {k : Key} : ∀ {ds : List (Key × D)} {vs : List (Key × V)}, RpK C α F ds vs → (ds.any fun kv => decide (kv.1 = k)) = (vs.any fun kv => decide (kv.1 = k))
  | [], _, h => by rw [show _ = [] from h]; rfl
  | (g, x) :: ds, _, ⟨v, r, e, h, t⟩ => by subst e; simp only [List.any_cons, RpK.any (k := k) t]
theorem RpT.any {k : List Key} : ∀ {ds : List (List Key × D)} {vs : List (List Key × V)}, RpT C α F ds vs → (ds.any fun kv => decide (kv.1 = k)) = (vs.any fun kv => decide (kv.1 = k))
  | [], _, h => by rw [show _ = [] from h]; rfl
  | (g, x) :: ds, _, ⟨v, r, e, h, t⟩ => by subst e; simp only [List.any_cons, RpT.any (k := k) t]
theorem RpK.app {k : Key} {d : D} {v : V} (q : Rp C α F d v) : ∀ {ds : List (Key × D)} {vs : List (Key × V)}, RpK C α F ds vs → RpK C α F (ds ++ [(k, d)]) (vs ++ [(k, v)])
  | [], _, h => by rw [show _ = [] from h]; exact ⟨v, [], rfl, q, rfl⟩
  | (g, x) :: ds, _, ⟨w, r, e, h, t⟩ => by subst e; exact ⟨w, _, rfl, h, RpK.app q t⟩
theorem RpT.app {k : List Key} {d : D} {v : V} (q : Rp C α F d v) : ∀ {ds : List (List Key × D)} {vs : List (List Key × V)}, RpT C α F ds vs → RpT C α F (ds ++ [(k, d)]) (vs ++ [(k, v)])
  | [], _, h => by rw [show _ = [] from h]; exact ⟨v, [], rfl, q, rfl⟩
  | (g, x) :: ds, _, ⟨w, r, e, h, t⟩ => by subst e; exact ⟨w, _, rfl, h, RpT.app q t⟩
theorem RpK.repl {k : Key} {d : D} {v : V} (q : Rp C α F d v) : ∀ {ds : List (Key × D)} {vs : List (Key × V)}, RpK C α F ds vs → RpK C α F (ds.map fun kv => if kv.1 = k then (kv.1, d) else kv) (vs.map fun kv => if kv.1 = k then (kv.1, v) else kv)
  | [], _, h => by rw [show _ = [] from h]; rfl
  | (g, x) :: ds, _, ⟨w, r, e, h, t⟩ => by
    subst e
    by_cases hg : g = k
    · simp only [List.map_cons, hg, if_true]
      exact ⟨v, _, rfl, q, RpK.repl q t⟩
    · simp only [List.map_cons, hg, if_false]
      exact ⟨w, _, rfl, h, RpK.repl q t⟩
theorem RpT.repl {k : List Key} {d : D} {v : V} (q : Rp C α F d v) : ∀ {ds : List (List Key × D)} {vs : List (List Key × V)}, RpT C α F ds vs → RpT C α F (ds.map fun kv => if kv.1 = k then (kv.1, d) else kv) (vs.map fun kv => if kv.1 = k then (kv.1, v) else kv)
  | [], _, h => by rw [show _ = [] from h]; rfl
  | (g, x) :: ds, _, ⟨w, r, e, h, t⟩ => by
    subst e
    by_cases hg : g = k
    · simp only [List.map_cons, hg, if_true]
      exact ⟨v, _, rfl, q, RpT.repl q t⟩
    · simp only [List.map_cons, hg, if_false]
      exact ⟨w, _, rfl, h, RpT.repl q t⟩
theorem RpK.put {k : Key} {d : D} {v : V} (q : Rp C α F d v) {ds : List (Key × D)} {vs : List (Key × V)} (h : RpK C α F ds vs) : RpK C α F (putKD ds k d) (L2.putK vs k v) := by
  unfold putKD L2.putK
  rw [RpK.any h]
  split
  · exact RpK.repl q h
  · exact RpK.app q h
theorem RpT.put {k : List Key} {d : D} {v : V} (q : Rp C α F d v) {ds : List (List Key × D)} {vs : List (List Key × V)} (h : RpT C α F ds vs) : RpT C α F (putKD ds k d) (L2.putK vs k v) := by
  unfold putKD L2.putK
  rw [RpT.any h]
  split
  · exact RpT.repl q h
  · exact RpT.app q h
theorem RpK.merge : ∀ {more : List (Key × D)} {mv : List (Key × V)} {ds : List (Key × D)} {vs : List (Key × V)}, RpK C α F more mv → RpK C α F ds vs → RpK C α F (mergeKD ds more) (L2.mergeK vs mv)
  | [], _, _, _, h, k => by rw [show _ = [] from h]; exact k
  | (g, x) :: r, _, ds, vs, ⟨w, t, e, h, l⟩, k => by
    subst e
    show RpK C α F (mergeKD (putKD ds g x) r) (L2.mergeK (L2.putK vs g w) t)
    exact RpK.merge l (RpK.put h k)
/-- pairs -/
def RpP (C : Ctx) (α : List Addr) (F : Hp) : List (D × D) → List (V × V) → Prop
  | [], vs => vs = []
  | (x, y) :: r, vs => ∃ u w t, vs = (u, w) :: t ∧ Rp C α F x u ∧ Rp C α F y w ∧ RpP C α F r t
theorem RpP.step {H H' : Hp} {α' : List Addr} {F' : Hp} (s : Step α F H α' F' H') : ∀ {ds : List (D × D)} {vs : List (V × V)}, RpP C α F ds vs → RpP C α' F' ds vs
  | [], _, h => h
  | (x, y) :: r, _, ⟨u, w, t, e, h1, h2, h3⟩ => ⟨u, w, t, e, h1.step s, h2.step s, RpP.step s h3⟩
end
def ePairs : List (E × E) → Env → Store → Res (List (D × D))
  | [], _, S => .ok [] S
  | (a, b) :: r, env, S => (a env S).bind fun x S => (b env S).bind fun y S => (ePairs r env S).bind fun ps S => .ok ((x, y) :: ps) S
def keysP : List (D × D) → Option (List (Key × D))
  | [] => some []
  | (x, y) :: r => (keyD x).bind fun k => (keysP r).map fun t => (k, y) :: t
def eDict (l : List (E × E)) : E := fun env S => (ePairs l env S).bind fun ps S => match keysP ps with
  | some kvs => if kvs.length ≤ 15 then .ok (.dk (mergeKD [] kvs)) S else .stuck
  | none => .stuck
def eDictR (l : List (E × E)) : E := fun env S => (ePairs l env S).bind fun ps S => match keysP ps with
  | some kvs => if kvs.length ≤ 15 then .ok (.reg S.length) (S ++ [some (.dk (mergeKD [] kvs))]) else .stuck
  | none => .stuck
section
variable {X : Cx} {C : Ctx} {W : WX} {k v o i e : Expr} {ks : List (Option Expr)} {vs : List Expr} {mk mv m mo mi : E} {l : List (E × E)} {pos pos' : Pos}
structure SP2 (X : Cx) (C : Ctx) (W : WX) (ks : List (Option Expr)) (vs : List Expr) (l : List (E × E)) : Prop where
  pp : ∀ pos, PPs X pos ks vs (l.map fun p => (tE C W p.1, tE C W p.2))
theorem sp_nil : SP2 X C W [] [] [] := ⟨fun _ => pps_nil⟩
theorem sp_cons (hk : SE X C W k mk) (hv : SE X C W v mv) (h : SP2 X C W ks vs l) : SP2 X C W (some k :: ks) (v :: vs) ((mk, mv) :: l) := ⟨fun pos => pps_cons hk.pe hv.pe (h.pp pos)⟩
theorem pairs_run {σ : L2.St} {env : Env} : ∀ {l : List (E × E)} {α : List Addr} {F H : Hp} {S : Store} {G : List (V × V) → Hp → Prop}, Rst C α F H S → Slots C α F σ env →
    (match ePairs l env S with
      | .ok ds S' => ∀ vs α' F' H', Step α F H α' F' H' → Rst C α' F' H' S' → RpP C α' F' ds vs → G vs H'
      | .exc e S' => ∀ cls dx α' F' H', Step α F H α' F' H' → Rst C α' F' H' S' → RpX C α' F' e cls dx → W cls dx σ H'
      | .stuck => False) → tPairs (l.map fun p => (tE C W p.1, tE C W p.2)) σ H G
  | [], α, F, H, S, G, R, Sl, P => P [] α F H (Step.refl _ _ _) R rfl
  | (a, b) :: r, α, F, H, S, G, R, Sl, P => by
    unfold ePairs at P
    refine ⟨α, F, S, env, R, Sl, ?_⟩
    show PostE C W α F H σ (a env S) _
    cases q : a env S with
    | stuck => rw [q] at P; exact P
    | exc x S1 => rw [q] at P; exact P
    | ok d S1 =>
      rw [q] at P
      simp only [Res.bind] at P
      intro v1 α1 F1 H1 s1 R1 r1
      refine ⟨α1, F1, S1, env, R1, Sl.step s1, ?_⟩
      show PostE C W α1 F1 H1 σ (b env S1) _
      cases q2 : b env S1 with
      | stuck => rw [q2] at P; exact P
      | exc x S2 => rw [q2] at P; exact fun cls dx α' F' H' s => P cls dx α' F' H' (s1.trans s)
      | ok d2 S2 =>
        rw [q2] at P
        simp only at P
        intro v2 α2 F2 H2 s2 R2 r2
        refine pairs_run R2 ((Sl.step s1).step s2) ?_
        cases q3 : ePairs r env S2 with
        | stuck => rw [q3] at P; exact P
        | exc x S3 => rw [q3] at P; exact fun cls dx α' F' H' s => P cls dx α' F' H' ((s1.trans s2).trans s)
        | ok ds S3 =>
          rw [q3] at P
          intro vs α3 F3 H3 s3 R3 r3
          exact P _ α3 F3 H3 ((s1.trans s2).trans s3) R3 ⟨v1, v2, vs, rfl, (r1.step s2).step s3, r2.step s3, r3⟩
theorem keysP_of {α : List Addr} {F : Hp} : ∀ {ps : List (D × D)} {vs : List (V × V)} {kvs : List (Key × D)}, RpP C α F ps vs → keysP ps = some kvs → ∃ ws : List (Key × V), RpK C α F kvs ws ∧ vs = ws.map (fun kv => (kV kv.1, kv.2))
  | [], _, _, h, e => by
    rw [show _ = [] from h]
    cases e
    exact ⟨[], rfl, rfl⟩
  | (x, y) :: r, _, kvs, ⟨u, w, t, ev, h1, h2, h3⟩, e => by
    subst ev
    unfold keysP at e
    obtain ⟨k, e1, e2⟩ := Option.bind_eq_some_iff.mp e
    obtain ⟨t2, e3, e4⟩ := Option.map_eq_some_iff.mp e2
    subst e4
    obtain ⟨ws, h4, h5⟩ := keysP_of h3 e3
    exact ⟨(k, w) :: ws, ⟨w, ws, rfl, h2, h4⟩, by rw [keyD_of h1 e1, h5]; rfl⟩
theorem dict_read {σ : L2.St} {H : Hp} {Q : VK} {α : List Addr} {F : Hp} {S : Store} {env : Env} (R : Rst C α F H S) (Sl : Slots C α F σ env)
    (P : match ePairs l env S with
      | .ok ds S' => ∃ kvs, keysP ds = some kvs ∧ kvs.length ≤ 15 ∧ ∀ p ws α' F' H', H p = none → Step α F H α' F' H' → Rst C α' F' H' S' → H' p = some (.dK []) → F' p = none → p ∉ α' → RpK C α' F' kvs ws → Q (.ref p) (upd H' p (.dK (L2.mergeK [] ws)))
      | .exc e S' => ∀ cls dx α' F' H', Step α F H α' F' H' → Rst C α' F' H' S' → RpX C α' F' e cls dx → W cls dx σ H'
      | .stuck => False) : tDisp (l.map fun p => (tE C W p.1, tE C W p.2)) σ H Q := by
  intro p hp
  obtain ⟨R1, s1⟩ := R.more (oo := .dK []) hp
  have pa : p ∉ α := fun z => by
    obtain ⟨oo, e, _⟩ := R.liv p z
    rw [hp] at e; cases e
  refine pairs_run R1 (Sl.step s1) ?_
  cases q : ePairs l env S with
  | stuck => rw [q] at P; exact P
  | exc x S1 => rw [q] at P; exact fun cls dx α' F' H' s => P cls dx α' F' H' (s1.trans s)
  | ok ds S1 =>
    rw [q] at P
    obtain ⟨kvs, e1, e2, P⟩ := P
    intro vs α2 F2 H2 s2 R2 rp
    obtain ⟨k1, k2, k3⟩ := s2.keep p _ upd_same (nt_dK _) pa
    obtain ⟨ws, h4, h5⟩ := keysP_of rp e1
    exact ⟨k1, ws, h5, by rw [← h4.length]; exact e2, P p ws α2 F2 H2 hp (s1.trans s2) R2 k1 (k2 (R.fN hp)) k3 h4⟩
theorem se_dict (h : SP2 X C W ks vs l) (hall : ks.all (·.isSome) = true) (hl : ks.length = vs.length) (h0 : ks ≠ []) (h15 : ks.length ≤ 15) : SE X C W (.Dict ks vs pos) (eDict l) := by
  refine se_of (pe_disp (h.pp pos) hall hl h0 h15) fun σ H Q ⟨α, F, S, env, R, Sl, P⟩ => dict_read R Sl ?_
  unfold eDict at P
  cases q : ePairs l env S with
  | stuck => rw [q] at P; exact P
  | exc x S1 => rw [q] at P; exact P
  | ok ds S1 =>
    rw [q] at P
    simp only [Res.bind] at P
    split at P
    · rename_i kvs hk
      split at P
      · rename_i h15'
        refine ⟨kvs, hk, h15', fun p ws α' F' H' hp s R' h1 h2 h3 rk => ?_⟩
        have R2 := R'.off (o := .dK (L2.mergeK [] ws)) h1 (nt_dK _) h2 h3
        have R3 := R2.adoptF upd_same (nt_dK _) h2 h3
        exact P (.ref p) α' _ _ ((s.off hp).offF hp h2) R3 ⟨p, _, rfl, upd_same, (RpK.merge rk (show RpK C α' F' [] [] from rfl)).mono (Pre.refl _) (Sub.new h2)⟩
      · exact P.elim
    · exact P.elim
theorem se_dictR (h : SP2 X C W ks vs l) (hall : ks.all (·.isSome) = true) (hl : ks.length = vs.length) (h0 : ks ≠ []) (h15 : ks.length ≤ 15) : SE X C W (.Dict ks vs pos) (eDictR l) := by
  refine se_of (pe_disp (h.pp pos) hall hl h0 h15) fun σ H Q ⟨α, F, S, env, R, Sl, P⟩ => dict_read R Sl ?_
  unfold eDictR at P
  cases q : ePairs l env S with
  | stuck => rw [q] at P; exact P
  | exc x S1 => rw [q] at P; exact P
  | ok ds S1 =>
    rw [q] at P
    simp only [Res.bind] at P
    split at P
    · rename_i kvs hk
      split at P
      · rename_i h15'
        refine ⟨kvs, hk, h15', fun p ws α' F' H' hp s R' h1 h2 h3 rk => ?_⟩
        have R2 := R'.off (o := .dK (L2.mergeK [] ws)) h1 (nt_dK _) h2 h3
        have R3 := R2.adoptR (r := .dk (mergeKD [] kvs)) upd_same h2 h3 ⟨_, rfl, RpK.merge rk (show RpK C α' F' [] [] from rfl)⟩
        exact P (.ref p) (α' ++ [p]) F' _ ((s.off hp).offR hp) R3 ⟨p, rfl, by rw [R'.len]; simp⟩
      · exact P.elim
    · exact P.elim
/-- the empty dict, frozen: keys are single ones -/
theorem se_dict0 : SE X C W (.Dict [] [] pos) (eC (.dk [])) :=
  se_of pe_dnewK fun σ H Q ⟨α, F, S, env, R, Sl, P⟩ => PostE.new R P (nt_dK _) fun p hp => ⟨p, [], rfl, upd_same, rfl⟩
def eNewK : E := fun _ S => .ok (.reg S.length) (S ++ [some (.dk [])])
def eNewT : E := fun _ S => .ok (.reg S.length) (S ++ [some (.dt [])])
theorem se_newK : SE X C W (.Dict [] [] pos) eNewK := se_of pe_dnewK fun σ H Q ⟨α, F, S, env, R, Sl, P⟩ => PostE.lay R P ⟨[], rfl, rfl⟩
theorem se_newT : SE X C W (.Dict [] [] pos) eNewT := se_of pe_dnewT fun σ H Q ⟨α, F, S, env, R, Sl, P⟩ => PostE.lay R P ⟨[], rfl, rfl⟩

/-! ## o[i] = v -/
def putR (x y d : D) (S : Store) : Option Store := match x with
  | .reg j => match S[j]? with
    | some (some (.lst xs)) => match y with
      | .int i => (ixN xs.length i).map fun n => S.set j (some (.lst (xs.set n d)))
      | _ => none
    | some (some (.dk kvs)) => (keyD y).bind fun k => if kvs.length < big then some (S.set j (some (.dk (putKD kvs k d)))) else none
    | some (some (.dt kvs)) => (keysD y).bind fun k => if kvs.length < big then some (S.set j (some (.dt (putKD kvs k d)))) else none
    | _ => none
  | _ => none
def sPut (e o i : E) : SS := fun env S => ResS.bindE (e env S) env fun d S => ResS.bindE (o env S) env fun x S => ResS.bindE (i env S) env fun y S => match putR x y d S with
  | some S => .next env S
  | none => .stuck
def rSetA : TSet := fun o i v H Q => rSetL o i v H Q ∨ rSetD o i v H Q
theorem set_any (hu : X.A.units + 1 < cLine) : PSet X rSetA := by
  intro pins s σ H o i v ov iv u Q I ro ri rv h
  rcases h with h | h
  · exact set_list pins s σ H o i v ov iv u Q I ro ri rv h
  · exact set_dict hu pins s σ H o i v ov iv u Q I ro ri rv h
theorem putR_of {α : List Addr} {F H : Hp} {S S' : Store} {x y d : D} {xv yv dv : V} {Q : Hp → Prop} (R : Rst C α F H S) (rx : Rp C α F x xv) (ry : Rp C α F y yv) (rd : Rp C α F d dv) (e : putR x y d S = some S')
    (k : ∀ H', Step α F H α F H' → Rst C α F H' S' → Q H') : rSetA xv yv dv H Q := by
  unfold putR at e
  split at e
  · rename_i j
    obtain ⟨a, ev, ha⟩ := rx
    subst ev
    split at e
    · rename_i _ xs hj
      obtain ⟨o, h2, h3, vs, h4, l⟩ := R.live hj ha
      subst h4
      split at e
      · rename_i i
        obtain ⟨n, e1, e2⟩ := Option.map_eq_some_iff.mp e
        subst e2
        exact .inl ⟨a, vs, i, n, rfl, ry, h3, by rw [← l.length]; exact e1, k _ (R.putStep ha) (R.put hj ha ⟨_, rfl, l.set rd n⟩)⟩
      · cases e
    · rename_i _ kvs hj
      obtain ⟨o, h2, h3, ws, h4, l⟩ := R.live hj ha
      subst h4
      obtain ⟨ky, e1, e2⟩ := Option.bind_eq_some_iff.mp e
      split at e2
      · rename_i hl
        cases e2
        refine .inr ⟨a, _, rfl, ?_, k _ (R.putStep ha) (R.put hj ha ⟨_, rfl, l.put rd⟩)⟩
        rw [keyD_of ry e1]
        exact DPut.k h3 (by rw [← l.length]; exact lt_line hl)
      · cases e2
    · rename_i _ kvs hj
      obtain ⟨o, h2, h3, ws, h4, l⟩ := R.live hj ha
      subst h4
      obtain ⟨ky, e1, e2⟩ := Option.bind_eq_some_iff.mp e
      split at e2
      · rename_i hl
        cases e2
        obtain ⟨q, ts, eq, ht, et⟩ := keysD_of ry e1
        subst eq; subst et
        exact .inr ⟨a, _, rfl, DPut.t h3 (R.sub _ _ ht) (by rw [← l.length]; exact lt_line hl), k _ (R.putStep ha) (R.put hj ha ⟨_, rfl, l.put rd⟩)⟩
      · cases e2
    · cases e
  · cases e
theorem ss_put (hu : X.A.units + 1 < cLine) (h : SE X C W e m) (ho : SE X C W o mo) (hi : SE X C W i mi) (ha : ∀ v, assign (.Subscript o i pos') X.env v = (do
      let ov ← holding [v] (eval o X.env)
      let iv ← holding [v, ov] (eval i X.env)
      standAt pos'
      holding [v, ov, iv] (setItem ov iv v)
      release [v, ov, iv] [])) (hs : swapsWithSole [.Subscript o i pos'] e pos.line X.env = pure false) (hw : swappedStores [.Subscript o i pos'] e X.env = pure none) (h1 : (assignEach [.Subscript o i pos'] X.env).map (·.2) = [assign (.Subscript o i pos') X.env]) :
    SS1 X C W (.Assign [.Subscript o i pos'] e pos) (sPut m mo mi) := by
  refine ⟨PS_imp (ps_asg h.pe (pg_sub ho.pe hi.pe (set_any hu) ha) hs hw h1) fun D σ H ⟨α, F, S, env, R, Sl, P⟩ => ⟨α, F, S, env, R, Sl, postS_E Sl P fun d S1 v α1 F1 H1 s1 R1 r1 P1 => ⟨α1, F1, S1, env, R1, Sl.step s1, postS_E (Sl.step s1) P1 fun x S2 xv α2 F2 H2 s2 R2 r2 P2 => ⟨α2, F2, S2, env, R2, (Sl.step s1).step s2, postS_E ((Sl.step s1).step s2) P2 fun y S3 yv α3 F3 H3 s3 R3 r3 P3 => ?_⟩⟩⟩⟩
  split at P3
  · rename_i S4 h4
    exact putR_of R3 (r2.step s3) r3 ((r1.step s2).step s3) h4 fun H' st R' => P3 σ α3 F3 H' st R' ((((Sl.step s1).step s2).step s3).step st)
  · exact P3.elim
end
end WL
set_option Elab.async false
set_option linter.all false
set_option maxRecDepth 100000
namespace WL
open PySem PySem.Spec L2 PyProof.Rows

/-! ## in, not in -/
def toV : D → Option V
  | .non => some .non
  | .bl b => some (.bl b)
  | .int i => some (.int i)
  | .str s => some (.str s)
  | _ => none
theorem toV_of {C : Ctx} {α : List Addr} {F : Hp} {d : D} {v u : V} (r : Rp C α F d v) (e : toV d = some u) : v = u := by
  cases d <;> first | (cases e; exact r) | cases e
theorem toV_flat {d : D} {u : V} (e : toV d = some u) : flatV u = true := by
  cases d <;> first | (cases e; rfl) | cases e
def toVs : List D → Option (List V)
  | [] => some []
  | d :: ds => (toV d).bind fun u => (toVs ds).map fun us => u :: us
theorem toVs_of {C : Ctx} {α : List Addr} {F : Hp} : ∀ {ds : List D} {vs us : List V}, RpL C α F ds vs → toVs ds = some us → vs = us ∧ us.all flatV = true
  | [], _, _, h, e => by
    rw [show _ = [] from h]
    cases e
    exact ⟨rfl, rfl⟩
  | d :: ds, _, us, ⟨v, t, ev, h, l⟩, e => by
    subst ev
    unfold toVs at e
    obtain ⟨u, e1, e2⟩ := Option.bind_eq_some_iff.mp e
    obtain ⟨us2, e3, e4⟩ := Option.map_eq_some_iff.mp e2
    subst e4
    obtain ⟨k1, k2⟩ := toVs_of l e3
    exact ⟨by rw [toV_of h e1, k1], by rw [List.all_cons, toV_flat e1, k2]; rfl⟩
def inRes (S : Store) (x y : D) : Option Bool := match dkOf S y with
  | some kvs => match x with
    | .non => some false
    | x => (keyD x).map fun k => (lookD kvs k).isSome
  | none => match dtOf S y with
    | some kvs => (keysD x).map fun k => (lookD kvs k).isSome
    | none => match toPyR S x, toPyR S y with
      | some d, some (.list ds) => if SeqAt.shaped d = true ∧ SeqAt.shaped (.list ds) = true then some (ds.any fun z => PyData.eqv z d) else none
      | _, _ => match listOf S y with
        | some xs => (toV x).bind fun u => (toVs xs).map fun us => inV u us
        | none => none
def dInB (neg : Bool) : D → D → M D := fun x y S => match inRes S x y with
  | some b => .ok (.bl (if neg then !b else b)) S
  | none => .stuck
def dIn : D → D → M D := dInB false
def dNotIn : D → D → M D := dInB true
section
variable {C : Ctx} {X : Cx}
def rDIn (neg : Bool) : R2 := fun x y H Q => (∃ a o, y = .ref a ∧ DGet H a x o ∧ Q (.bl (if neg then !o.isSome else o.isSome)) H) ∨ ∃ a kvs, y = .ref a ∧ x = .non ∧ Rd H a (.dK kvs) ∧ Q (.bl neg) H
theorem op_inDct (hu : X.A.units + 1 < cLine) : OpR X (compareOp .In) (rDIn false) := by
  intro pins s σ H x y v u Q I rx ry h
  rcases h with ⟨a, o, ey, g, q⟩ | ⟨a, kvs, ey, ex, g, q⟩
  · subst ey
    obtain rfl : u = Value.ref a := ry
    exact d_in hu I g rx fun s' I' => ⟨.bl _, H, I', rfl, q⟩
  · subst ey; subst ex
    obtain rfl : u = Value.ref a := ry
    obtain rfl : v = Value.none := rx
    exact d_inNone I g fun s' I' => ⟨.bl _, H, I', rfl, q⟩
theorem op_notInDct (hu : X.A.units + 1 < cLine) : OpR X (compareOp .NotIn) (rDIn true) := by
  intro pins s σ H x y v u Q I rx ry h
  rcases h with ⟨a, o, ey, g, q⟩ | ⟨a, kvs, ey, ex, g, q⟩
  · subst ey
    obtain rfl : u = Value.ref a := ry
    exact d_notIn hu I g rx fun s' I' => ⟨.bl _, H, I', rfl, q⟩
  · subst ey; subst ex
    obtain rfl : u = Value.ref a := ry
    obtain rfl : v = Value.none := rx
    exact d_notInNone I g fun s' I' => ⟨.bl _, H, I', rfl, q⟩
def rInAll (K : PySem.W.Frag) : R2 := fun x y H Q => rDIn false x y H Q ∨ (rInD K x y H Q ∨ rIn K false x y H Q)
def rNotInAll (K : PySem.W.Frag) : R2 := fun x y H Q => rDIn true x y H Q ∨ (rNotInD K x y H Q ∨ rIn K true x y H Q)
theorem op_inAll (hu : X.A.units + 65 < cLine) : OpR X (compareOp .In) (rInAll X.K) := (op_inDct (by omega)).or ((op_inD hu).or op_in_seq)
theorem op_notInAll (hu : X.A.units + 65 < cLine) : OpR X (compareOp .NotIn) (rNotInAll X.K) := (op_notInDct (by omega)).or ((op_notInD hu).or op_notIn_seq)
theorem inRes_of {α : List Addr} {F H : Hp} {S : Store} {x y : V} {dx dy : D} {b neg : Bool} {Q : VK} (R : Rst C α F H S) (rx : Rp C α F dx x) (ry : Rp C α F dy y) (e : inRes S dx dy = some b) (q : Q (.bl (if neg then !b else b)) H) :
    rDIn neg x y H Q ∨ ((∃ d ds, Dp C.K H x d ∧ Dp C.K H y (.list ds) ∧ SeqAt.shaped d = true ∧ SeqAt.shaped (.list ds) = true ∧ Q (.bl (if neg then !(ds.any fun z => PyData.eqv z d) else (ds.any fun z => PyData.eqv z d))) H) ∨ rIn C.K neg x y H Q) := by
  unfold inRes at e
  split at e
  · rename_i kvs hk
    obtain ⟨a, ws, ev, hq, l⟩ := dkOf_of R ry hk
    split at e
    · cases e
      refine .inl (.inr ⟨a, ws, ev, rx, .inl hq, ?_⟩)
      cases neg <;> exact q
    · obtain ⟨k, e1, e2⟩ := Option.map_eq_some_iff.mp e
      refine .inl (.inl ⟨a, valV ws k, ev, by rw [keyD_of rx e1]; exact DGet.k hq, ?_⟩)
      have z : (valV ws k).isSome = b := by
        rw [← e2]
        obtain ⟨k1, k2⟩ := valV_of (k := k) l
        cases h : lookD kvs k with
        | none => rw [k1 h]; rfl
        | some d => obtain ⟨v, h2, _⟩ := k2 d h; rw [h2]; rfl
      rw [z]; exact q
  · split at e
    · rename_i kvs hk
      obtain ⟨a, ws, ev, hq, l⟩ := dtOf_of R ry hk
      obtain ⟨k, e1, e2⟩ := Option.map_eq_some_iff.mp e
      obtain ⟨p, ts, eq, ht, et⟩ := keysD_of rx e1
      subst et
      refine .inl (.inl ⟨a, valV ws k, ev, by rw [eq]; exact DGet.t hq (R.sub _ _ ht), ?_⟩)
      have z : (valV ws k).isSome = b := by
        rw [← e2]
        obtain ⟨k1, k2⟩ := valT_of (k := k) l
        cases h : lookD kvs k with
        | none => rw [k1 h]; rfl
        | some d => obtain ⟨v, h2, _⟩ := k2 d h; rw [h2]; rfl
      rw [z]; exact q
    · split at e
      · rename_i d ds hd hl
        split at e
        · rename_i sh
          cases e
          exact .inr (.inl ⟨d, ds, dpr_of R rx hd, dpr_of R ry hl, sh.1, sh.2, q⟩)
        · cases e
      · split at e
        · rename_i xs hx
          obtain ⟨a, vs, ev, hq, l⟩ := listOf_of R ry hx
          obtain ⟨u, e1, e2⟩ := Option.bind_eq_some_iff.mp e
          obtain ⟨us, e3, e4⟩ := Option.map_eq_some_iff.mp e2
          obtain ⟨k1, k2⟩ := toVs_of l e3
          refine .inr (.inr ⟨a, vs, ev, hq, by rw [toV_of rx e1]; exact toV_flat e1, by rw [k1]; exact k2, ?_⟩)
          rw [toV_of rx e1, k1, e4]
          exact q
        · cases e
theorem od_in : OpDs C dIn (rInAll C.K) := by
  intro W α F H S σ x y dx dy Q R rx ry P
  unfold dIn dInB at P
  split at P
  · rename_i b hb
    exact inRes_of (neg := false) R rx ry hb (PostE.here (d := .bl _) R rfl P)
  · exact P.elim
theorem od_notin : OpDs C dNotIn (rNotInAll C.K) := by
  intro W α F H S σ x y dx dy Q R rx ry P
  unfold dNotIn dInB at P
  split at P
  · rename_i b hb
    exact inRes_of (neg := true) R rx ry hb (PostE.here (d := .bl _) R rfl P)
  · exact P.elim
end
end WL
set_option Elab.async false
set_option linter.all false
set_option maxRecDepth 100000
namespace WL
open PySem PySem.Spec L2 PyProof.Rows

/-! ## the head: what the top has written -/
abbrev FnZ : Type := Option (Str × Str × Arguments × FuncBody × Scope × Addr × List Str × Addr)
def fnZ (K : PySem.W.Frag) (a : Addr) : FnZ := match K.lookup a with
  | some ⟨_, _, .func fd, _⟩ => some (fd.name, fd.qualname, fd.params, fd.body, fd.scope, fd.globals, fd.closure.map (·.1), fd.builtins)
  | _ => none
/-- a def: where it stands, its words, what it closes over, its defaults -/
structure DefZ where
  at_ : PySem.W.Frag → Addr
  name : Str
  qual : Str
  params : Arguments
  body : List Stmt
  scope : Scope
  clo : List Str := []
  dfl : List He.Dv := []
def DefZ.val (d : DefZ) : FnZ := some (d.name, d.qual, d.params, .stmts d.body, d.scope, mainGlobals, d.clo, builtinsNs)
def DefZ.dvs (K : PySem.W.Frag) (d : DefZ) : List V := d.dfl.map (He.Dv.v K)
def DefZ.ok (K : PySem.W.Frag) (d : DefZ) : Bool := PySem.W.keepIn K (.ref (d.at_ K)) && (match K.lookup (d.at_ K) with
  | some ⟨_, _, .func fd, _⟩ => PySem.W.codeIn K fd.code d.qual && He.dflB K fd.defaults (d.dvs K)
  | _ => false)
/-- .. as it stands -/
structure FunZ (K : PySem.W.Frag) (d : DefZ) : Prop where
  ex : ∃ (oc : Value) (od : Option Addr) (osl : Array (Option Value)) (cl : List (Str × Addr)) (dV kV doc pm : Value) (an : Option Addr) (cdv ct : Value),
    K.lookup (d.at_ K) = some ⟨oc, od, .func (PySem.W.fnX d.name d.qual d.params d.body d.scope cl dV kV doc pm an cdv ct), osl⟩ ∧ cl.map (·.1) = d.clo ∧ PySem.W.codeIn K cdv d.qual = true ∧ DflV K dV (d.dvs K)
  kp : PySem.W.keepIn K (.ref (d.at_ K)) = true
theorem funZ_of {K : PySem.W.Frag} {d : DefZ} (e : fnZ K (d.at_ K) = d.val) (c : d.ok K = true) : FunZ K d := by
  obtain ⟨kp, c2⟩ := He.ba c
  unfold fnZ at e
  cases q : K.lookup (d.at_ K) with
  | none => rw [q] at c2; cases c2
  | some o =>
    obtain ⟨oc, od, dt, osl⟩ := o
    rw [q] at c2 e
    cases dt with
    | func fd =>
      obtain ⟨n1, n2, n3, n4, n5, n6, n7, n8, n9, n10, n11, n12, n13, n14, n15⟩ := fd
      have e2 : (some (n1, n2, n3, n4, n5, n6, n7.map (·.1), n15) : FnZ) = some (d.name, d.qual, d.params, .stmts d.body, d.scope, mainGlobals, d.clo, builtinsNs) := e
      simp only [Option.some.injEq, Prod.mk.injEq] at e2
      obtain ⟨h1, h2, h3, h4, h5, h6, h7, h8⟩ := e2
      subst h1 h2 h3 h4 h5 h6 h8
      have c3 : (PySem.W.codeIn K n13 d.qual && He.dflB K n8 (d.dvs K)) = true := c2
      obtain ⟨k1, k2⟩ := He.ba c3
      exact ⟨⟨oc, od, osl, n7, n8, n9, n10, n11, n12, n13, n14, q, h7, k1, He.dflB_ok k2⟩, kp⟩
    | _ => cases c2
/-! ### the addresses: what the module's names reach, closures too -/
def refsW (o : Obj) : List Addr := He.refsD o ++ (match o.data with
  | .func fd => fd.closure.map (·.2)
  | _ => [])
def growW (g : Addr → Option Obj) (as : List Addr) : List Addr := (as ++ as.flatMap fun a => match g a with
  | some o => refsW o
  | none => []).eraseDups
def asW (g : Addr → Option Obj) : Nat → List Addr
  | 0 => [mainGlobals, cStatics]
  | n + 1 => growW g (asW g n)
/-- a def's code object -/
def codeA (K : PySem.W.Frag) (a : Addr) : Addr := match K.lookup a with
  | some ⟨_, _, .func fd, _⟩ => (match fd.code with
    | .ref c => c
    | _ => 0)
  | _ => 0
/-- its code object, its table -/
def cTA (K : PySem.W.Frag) (p : PySem.W.Frag → Addr) : Addr × Addr := (codeA K (p K), He.tabOf K (codeA K (p K)))
def tabsA (g : Addr → Option Obj) (tf : List (PySem.W.Frag → Addr)) (K : PySem.W.Frag) : Bool := tf.all fun p => PySem.W.codeHdIn K (cTA K p).1 (cTA K p).2 && (match g (cTA K p).2 with
  | some o => He.emptyTab o
  | none => false)
/-- what is told -/
structure SaysW (fn : List DefZ) (tf : List (PySem.W.Frag → Addr)) (ex : PySem.W.Frag → Bool) (h : Heap) (K : PySem.W.Frag) : Prop where
  fns : fn.map (fun d => fnZ K (d.at_ K)) = fn.map DefZ.val
  oks : (fn.all fun d => d.ok K) = true
  more : ex K = true
  hd : ∀ p ∈ tf, PySem.W.codeHdIn K (cTA K p).1 (cTA K p).2 = true
  out : ∀ p ∈ tf, K.lookup (cTA K p).2 = none
  empty : ∀ p ∈ tf, h.get? (cTA K p).2 = some { cls := .none, data := .fields #[] }
abbrev AlW : Type := List FnZ × Bool
def obsW (n : Nat) (fn : List DefZ) (tf : List (PySem.W.Frag → Addr)) (ex : PySem.W.Frag → Bool) (g : Addr → Option Obj) : AlW :=
  (fn.map fun d => fnZ (He.frT g (asW g n)) (d.at_ (He.frT g (asW g n))), (fn.all fun d => d.ok (He.frT g (asW g n))) && (ex (He.frT g (asW g n)) && tabsA g tf (He.frT g (asW g n))))
def valW (fn : List DefZ) : AlW := (fn.map DefZ.val, true)
theorem saysW_of {n : Nat} {fn : List DefZ} {tf : List (PySem.W.Frag → Addr)} {ex : PySem.W.Frag → Bool} {h : Heap} (e : obsW n fn tf ex h.get? = valW fn) : SaysW fn tf ex h (He.frT h.get? (asW h.get? n)) := by
  have e1 := congrArg (fun z : AlW => z.1) e
  have e2 : ((fn.all fun d => d.ok (He.frT h.get? (asW h.get? n))) && (ex (He.frT h.get? (asW h.get? n)) && tabsA h.get? tf (He.frT h.get? (asW h.get? n)))) = true := congrArg (fun z : AlW => z.2) e
  obtain ⟨h1, h2⟩ := He.ba e2
  obtain ⟨h3, h4⟩ := He.ba h2
  have key : ∀ p ∈ tf, PySem.W.codeHdIn (He.frT h.get? (asW h.get? n)) (cTA (He.frT h.get? (asW h.get? n)) p).1 (cTA (He.frT h.get? (asW h.get? n)) p).2 = true ∧ ∃ o, h.get? (cTA (He.frT h.get? (asW h.get? n)) p).2 = some o ∧ He.emptyTab o = true := fun p hp => by
    obtain ⟨h5, h6⟩ := He.ba (List.all_eq_true.mp h4 p hp)
    refine ⟨h5, ?_⟩
    cases q : h.get? (cTA (He.frT h.get? (asW h.get? n)) p).2 with
    | none => rw [q] at h6; cases h6
    | some o => rw [q] at h6; exact ⟨o, rfl, h6⟩
  exact ⟨e1, h1, h3, fun p hp => (key p hp).1, fun p hp => by obtain ⟨_, o, q, z⟩ := key p hp; exact He.frT_none q z, fun p hp => by obtain ⟨_, o, q, z⟩ := key p hp; rw [q, He.emptyTab_eq z]⟩
def hookW (n : Nat) (fn : List DefZ) (tf : List (PySem.W.Frag → Addr)) (ex : PySem.W.Frag → Bool) : PySem.W.Hook where
  α := AlW
  obs := fun s => obsW n fn tf ex s.heap.get?
  val := fun _ => valW fn
  says := fun _ h => ∃ K : PySem.W.Frag, K.In h ∧ SaysW fn tf ex h K
  of := fun _ _ e => ⟨_, He.frT_in, saysW_of e⟩
  keeps := fun _ _ _ ⟨K, hK, c⟩ k => ⟨K, PySem.W.Frag.In.keeps hK k, ⟨c.fns, c.oks, c.more, c.hd, c.out, fun p hp => k _ _ (c.empty p hp)⟩⟩
theorem obsW_eq {n : Nat} {fn : List DefZ} {tf : List (PySem.W.Frag → Addr)} {ex : PySem.W.Frag → Bool} {g : Addr → Option Obj} {s : Shared} (h : ∀ a, g a = s.heap.get? a) : obsW n fn tf ex g = (hookW n fn tf ex).obs s := by
  have e : g = s.heap.get? := funext h
  rw [e] <;> rfl
theorem SaysW.fn_ {fn : List DefZ} {tf : List (PySem.W.Frag → Addr)} {ex : PySem.W.Frag → Bool} {h : Heap} {K : PySem.W.Frag} (c : SaysW fn tf ex h K) (i : Nat) {d : DefZ} (e : fn[i]? = some d) : FunZ K d := by
  have e2 : (fn.map fun d => fnZ K (d.at_ K))[i]? = (fn.map DefZ.val)[i]? := by rw [c.fns]
  rw [List.getElem?_map, List.getElem?_map, e] at e2
  exact funZ_of (Option.some.inj e2) (List.all_eq_true.mp c.oks d (List.mem_of_getElem? e))
end WL
set_option Elab.async false
set_option linter.all false
set_option maxRecDepth 100000
namespace WL
open PySem PySem.Spec L2 PyProof.Rows
open PySem.W (Frag findIn subIn typeIn keepIn mroIn clsIn nsIn)

/-! ## defs, as the kit's FunD -/
def fdOf (K : Frag) (a : Addr) : FuncData := match K.lookup a with
  | some ⟨_, _, .func fd, _⟩ => fd
  | _ => default
theorem fdOf_eq {K : Frag} {a : Addr} {oc : Value} {od : Option Addr} {sl : Array (Option Value)} {fd : FuncData} (e : K.lookup a = some ⟨oc, od, .func fd, sl⟩) : fdOf K a = fd := by
  unfold fdOf; rw [e]
theorem FunZ.d {K : Frag} {z : DefZ} (F : FunZ K z) (hc : z.clo = []) : FunD K z.name z.qual z.params z.body z.scope (z.dvs K) [] (z.at_ K) (fdOf K (z.at_ K)) := by
  obtain ⟨oc, od, osl, cl, dV, kV, doc, pm, an, cdv, ct, lk, hcl, hcd, hD⟩ := F.ex
  rw [hc, List.map_eq_nil_iff] at hcl
  subst hcl
  exact ⟨⟨oc, od, dV, kV, doc, pm, an, cdv, ct, osl, fdOf_eq lk, by rw [fdOf_eq lk]; exact lk, hcd, hD, .inl rfl⟩, F.kp⟩
/-- the mirror rule at a FunD -/
theorem FunD.mir {C : Ctx} {P : Program} {w : World} {K : Frag} {mg : Str → Option Value} {base : Heap} {k nN : Nat} {f : Addr} {x qual : Str} {params : Arguments} {body : List Stmt} {scope : Scope} {dvs : List V} {fd : FuncData}
    {N ps : List Str} {mb : SS} (F : FunD K x qual params body scope dvs [] f fd) (S : FnScope N ps scope) (hN : N.length = nN)
    (hbody : ∀ (cdv : Value) (A : Around) (outer : List PySem.Env) (s : Shared) (H : Hp) (E : XK), cdv = .ref (codeA K f) → Room k (A.deeper (envOfC qual scope s.heap.objs.size f cdv)) →
      SSs (cxOf (L2.CX P w) P w K mg base N qual scope f cdv A outer s H E) C (fun cls d _ H => E cls d H) body mb) :
    FnOk P w K mg base (L2.CX P w) (k + 1) f fd ps (spM C ps.length (mkFn C.on ps.length nN mb)) := by
  obtain ⟨oc, od, dV, kV, doc, pm, an, cdv, ct, osl, rfl, lk, hcd, _, _⟩ := F.ex
  have hc : cdv = .ref (codeA K f) := by
    obtain ⟨c, rfl⟩ := He.codeIn_ref hcd
    unfold codeA
    rw [lk]
  exact fn_mir lk hcd S hN fun A outer s H E hr => hbody cdv A outer s H E hc hr
theorem FunD.mirF {C0 : Ctx} {P : Program} {w : World} {K : Frag} {mg : Str → Option Value} {base : Heap} {k kf npf nN : Nat} {f : Addr} {x qual : Str} {params : Arguments} {body : List Stmt} {scope : Scope} {dvs : List V} {fd : FuncData}
    {N ps : List Str} {mb : (List D → M D) → SS} (F : FunD K x qual params body scope dvs [] f fd) (B : Grd C0) (S : FnScope N ps scope) (hN : N.length = nN)
    (hbody : ∀ (cdv : Value) (A : Around) (outer : List PySem.Env) (s : Shared) (H : Hp) (E : XK) (g : Addr) (F0 : Hp) (A0 : List Addr) (op : List D → M D), cdv = .ref (codeA K f) → Room k (A.deeper (envOfC qual scope s.heap.objs.size f cdv)) → Callb P w K mg base (C0.wf [] F0 A0) kf npf outer s H g op →
      SSs (cxOf (L2.CX P w) P w K mg base N qual scope f cdv A outer s H E) (C0.wf [g] F0 A0) (fun cls d _ H => E cls d H) body (mb op)) :
    FnF P w K mg base C0 (k + 1) kf npf f fd ps (mkFnF C0.on ps.length nN mb) := by
  obtain ⟨oc, od, dV, kV, doc, pm, an, cdv, ct, osl, rfl, lk, hcd, _, _⟩ := F.ex
  have hc : cdv = .ref (codeA K f) := by
    obtain ⟨c, rfl⟩ := He.codeIn_ref hcd
    unfold codeA
    rw [lk]
  exact fnF_mir B lk hcd S hN fun A outer s H E g F0 A0 op hr cb => hbody cdv A outer s H E g F0 A0 op hc hr cb

/-! ## exceptions -/
def oexB (K : Frag) (C : Addr) : Bool := (match K.lookup C with
  | some ⟨cl, _, .cls cd, sl⟩ => (cl == .type "type") && ((match cd.mro with
    | .ref D :: bm => (D == C) && PySem.HandSPX.refsVE bm
    | _ => false) && (cd.hasDict && (!cd.hasDel && (match sl.toList with
      | [_, _, _, _, some (.builtin n), _] => n == "ValueError.__new__"
      | _ => false))))
  | _ => false) && (He.eqO (findIn K (.ref C) "__setattr__") (some (some (.builtin "object.__setattr__"))) && (decide (subIn K (.ref C) (.type "BaseException") = some true) && (decide (typeIn K (.ref C) = some (.type "type")) && keepIn K (.ref C))))
theorem oexB_ok {K : Frag} {C : Addr} (h : oexB K C = true) : OexC K C := by
  obtain ⟨h1, h2⟩ := He.ba h
  obtain ⟨h3, h4⟩ := He.ba h2
  obtain ⟨h5, h6⟩ := He.ba h4
  obtain ⟨h7, h8⟩ := He.ba h6
  refine ⟨?_, He.eqO_ok h3, of_decide_eq_true h5, of_decide_eq_true h7, h8⟩
  cases q : K.lookup C with
  | none => rw [q] at h1; cases h1
  | some o =>
    obtain ⟨cl, dd, dt, sl⟩ := o
    rw [q] at h1
    cases dt with
    | cls cd =>
      simp only at h1
      obtain ⟨a1, h1⟩ := He.ba h1
      obtain ⟨a2, h1⟩ := He.ba h1
      obtain ⟨a3, h1⟩ := He.ba h1
      obtain ⟨a4, a5⟩ := He.ba h1
      obtain ⟨nm, bs, mro, ns, qn, hd, sn, sub, ab, col, del⟩ := cd
      simp only at a2 a3 a4
      cases mro with
      | nil => cases a2
      | cons m bm =>
        cases m with
        | ref D =>
          obtain ⟨b1, b2⟩ := He.ba a2
          have e1 := eq_of_beq b1
          subst e1
          have e2 := eq_of_beq a1
          subst e2
          subst a3
          have e3 : del = false := by cases del <;> simp_all
          subst e3
          obtain ⟨sl⟩ := sl
          simp only at a5
          match sl, a5 with
          | [k0, k1, k2, k3, some (.builtin n), k5], a5 =>
            have e4 := eq_of_beq a5
            subst e4
            exact ⟨nm, qn, ns, bs, bm, sn, sub, ab, col, dd, k0, k1, k2, k3, k5, rfl, b2⟩
        | _ => cases a2
    | _ => cases h1
def supCB (K : Frag) (C D : Addr) (fld : Str) : Bool := oexB K C && (decide (mroIn K C (.ref D) = some true) && (He.eqO (PySem.W.ks_superIn K C D "__init__") (some (some (.builtin "ValueError.__init__"))) && (decide (subIn K (.ref C) (.type "ValueError") = some true) && He.eqO (findIn K (.ref C) fld) (some none))))
theorem supCB_ok {K : Frag} {C D : Addr} {fld : Str} (h : supCB K C D fld = true) : SupC K C D fld := by
  obtain ⟨h1, h⟩ := He.ba h
  obtain ⟨h2, h⟩ := He.ba h
  obtain ⟨h3, h⟩ := He.ba h
  obtain ⟨h4, h5⟩ := He.ba h
  exact ⟨oexB_ok h1, of_decide_eq_true h2, He.eqO_ok h3, of_decide_eq_true h4, He.eqO_ok h5⟩
/-- raise C(v): where its __init__ stands -/
def iniB (K : Frag) (C fI : Addr) : Bool := He.eqO (findIn K (.ref C) "__init__") (some (some (.ref fI))) && decide (typeIn K (.ref fI) = some (.type "function"))
theorem iniB_ok {K : Frag} {C fI : Addr} (h : iniB K C fI = true) : findIn K (.ref C) "__init__" = some (some (.ref fI)) ∧ typeIn K (.ref fI) = some (.type "function") := by
  obtain ⟨h1, h2⟩ := He.ba h
  exact ⟨He.eqO_ok h1, of_decide_eq_true h2⟩
def supFB (K : Frag) (file : Str) (fI D : Addr) : Bool := match K.lookup fI with
  | some ⟨_, _, .func fd, _⟩ => (match fd.code with
    | .ref c => (match K.lookup c with
      | some ⟨_, _, .fields vs, _⟩ => (match (vs[2]? : Option Value) with
        | some (.str f _) => file == f
        | _ => false)
      | _ => false)
    | _ => false) && ((match fd.closure with
    | [(_, cc)] => (match K.lookup cc with
      | some ⟨_, _, .cell (some (.ref D')), _⟩ => D' == D
      | _ => false)
    | _ => false) && ((clsIn K D).isSome && decide (nsIn K cStatics "thirdparty.any" = some none)))
  | _ => false
theorem supF_of {K : Frag} {prog : Program} {z : DefZ} {D : Addr} {fld par txt : Str} {j : Nat} {p0 p1 p2 p3 p4 p5 p6 p7 p8 p9 : Pos} {ar : Arg} (F : FunZ K z) (hb : z.body = supBody txt fld par j p0 p1 p2 p3 p4 p5 p6 p7 p8 p9) (hc : z.clo = [("__class__" : Str)]) (hdf : z.dfl = []) (hB : supFB K (prog.main.file : Str) (z.at_ K) D = true)
    (hbind : ∀ (cc : Addr) (kV doc pm cdv ct : Value) (an : Option Addr) (x u : Value), bindArgs (PySem.W.ksFn z.name z.qual z.params (supBody txt fld par j p0 p1 p2 p3 p4 p5 p6 p7 p8 p9) z.scope .none kV doc pm an cdv ct cc) ⟨[x, u], []⟩ = pure [(("self" : Str), x), (par, u)])
    (hs : z.scope.kind = .function ∧ z.scope.isCoroutine = false ∧ z.scope.isGenerator = false ∧ (∀ x ∈ z.scope.names, x.2 ≠ .cell) ∧ z.scope.names.lookup ("self" : Str) = some .local ∧ z.scope.names.lookup par = some .local ∧ z.scope.names.lookup ("super" : Str) = some .globalImplicit ∧ z.scope.names.lookup ("__class__" : Str) = some .free)
    (hp : (z.params.posonlyargs ++ z.params.args).head? = some ar ∧ ar.arg = "self" ∧ par ≠ "self" ∧ (par == ("__debug__" : Str)) = false) (ht : (prog.main.scope.names.lookup ("super" : Str)).isSome = false) (htx : txt.length ≤ 1000)
    (hev : ∀ env : PySem.Env, ∃ pl, eval (.Call (.Attribute (.Call (.Name "super" p0) [] [] p1) "__init__" p2) [.Constant (.str txt) j p3] [] p4) env = (do
      let ov ← attributeBase (.Call (.Name "super" p0) [] [] p1) "__init__" env (eval (.Call (.Name "super" p0) [] [] p1) env)
      standAt p2.atName
      let (f, first) ← holding [ov] (getMethod ov "__init__" pl)
      callWith p4 f first (backTo p4 (starEach [.Constant (.str txt) j p3] env)) [])) : SupF K prog (z.at_ K) D fld par := by
  obtain ⟨oc, od, osl, cl, dV, kV, doc, pm, an, cdv, ct, lk, hcl, hcd, hD⟩ := F.ex
  rw [hc] at hcl
  rw [hb] at lk
  have edv : dV = .none := by
    rcases hD with ⟨_, e⟩ | ⟨e, _⟩
    · exact e
    · exact absurd (by unfold DefZ.dvs; rw [hdf]; rfl) e
  subst edv
  obtain ⟨cda, rfl⟩ := He.codeIn_ref hcd
  match cl, hcl with
  | [(nm, cc)], hcl =>
    have e0 : nm = "__class__" := (List.cons.inj hcl).1
    subst e0
    unfold supFB at hB
    rw [lk] at hB
    simp only at hB
    obtain ⟨h1, h2⟩ := He.ba hB
    obtain ⟨h3, h4⟩ := He.ba h2
    obtain ⟨h5, h6⟩ := He.ba h4
    cases q1 : K.lookup cda with
    | none => rw [q1] at h1; cases h1
    | some o1 =>
      obtain ⟨c1, d1, t1, s1⟩ := o1
      rw [q1] at h1
      cases t1 with
      | fields vs =>
        simp only at h1
        cases q2 : vs[2]? with
        | none => rw [q2] at h1; cases h1
        | some v2 =>
          rw [q2] at h1
          cases v2 with
          | str f tf =>
            cases q3 : K.lookup cc with
            | none => rw [q3] at h3; cases h3
            | some o3 =>
              obtain ⟨c3, d3, t3, s3⟩ := o3
              rw [q3] at h3
              cases t3 with
              | cell v =>
                cases v with
                | none => cases h3
                | some v =>
                  cases v with
                  | ref D' =>
                    have e3 : D' = D := eq_of_beq h3
                    subst e3
                    obtain ⟨cd, hcd2⟩ := Option.isSome_iff_exists.mp h5
                    exact ⟨⟨oc, od, osl, z.name, z.qual, z.params, z.scope, .none, kV, doc, pm, ct, an, cda, cc, txt, j, p0, p1, p2, p3, p4, p5, p6, p7, p8, p9, ar, vs, f, tf, c1, d1, s1, c3, d3, s3, cd, lk, hcd, fun x u => hbind _ _ _ _ _ _ _ x u, hs, hp, ⟨q1, q2, h1⟩, ⟨q3, hcd2⟩, ht, of_decide_eq_true h6, htx, hev⟩⟩
                  | _ => cases h3
              | _ => cases h3
          | _ => cases h1
      | _ => cases h1

/-! ## classes by name -/
def cnOf (K : Frag) (ns : List Str) : Str → Option Addr := fun x => if x ∈ ns then some (He.ga K x) else none
theorem cnOf_eq {K : Frag} {ns : List Str} {x : Str} {a : Addr} (e : cnOf K ns x = some a) : a = He.ga K x := by
  unfold cnOf at e; split at e
  · exact (Option.some.inj e).symm
  · cases e
def excB (K : Frag) (C : Addr) : Bool := He.eqO (findIn K (.ref C) "__getattribute__") (some (some (.builtin "BaseException.__getattribute__"))) && (He.eqO (findIn K (.ref C) "__getattr__") (some none) && (decide (subIn K (.ref C) (.type "BaseException") = some true) && (PySem.W.hasDictIn K C && (He.eqO (findIn K (.ref C) "__class__") (some (some (.builtin "object.__class__"))) &&
  (He.eqO (PySem.W.specialIn K (.builtin "object.__class__") "__get__") (some (some (.builtin "getset_descriptor.__get__"))) && (decide (PySem.W.takesIn K (.builtin "object.__class__") = some true) && decide (mroIn K C (.type "object") = some true)))))))
theorem excB_ok {K : Frag} {C : Addr} (h : excB K C = true) : ExcC K C := by
  obtain ⟨h1, h⟩ := He.ba h
  obtain ⟨h2, h⟩ := He.ba h
  obtain ⟨h3, h⟩ := He.ba h
  obtain ⟨h4, h⟩ := He.ba h
  obtain ⟨h5, h⟩ := He.ba h
  obtain ⟨h6, h⟩ := He.ba h
  obtain ⟨h7, h8⟩ := He.ba h
  exact ⟨He.eqO_ok h1, He.eqO_ok h2, of_decide_eq_true h3, h4, He.eqO_ok h5, He.eqO_ok h6, of_decide_eq_true h7, of_decide_eq_true h8⟩
/-- which classes a clause `except y` catches -/
def exmB (K : Frag) (xs : List (Str × Bool)) (y : Str) : Bool := xs.all fun p => decide (PySem.W.exmOne K (.ref (He.ga K p.1)) (.ref (He.ga K y)) = some p.2)
theorem exmB_ok {K : Frag} {xs : List (Str × Bool)} {y : Str} {ns : List Str} (h : exmB K xs y = true) : ∀ c b, xs.lookup c = some b → ∀ Cc, cnOf K ns c = some Cc → PySem.W.exmOne K (.ref Cc) (.ref (He.ga K y)) = some b := fun c b e Cc ec => by
  rw [cnOf_eq ec]
  exact of_decide_eq_true (List.all_eq_true.mp h _ (PySem.mem_of_lookup e))
def isxB (K : Frag) (xs : List (Str × Bool)) (y : Str) : Bool := xs.all fun p => excB K (He.ga K p.1) && ((clsIn K (He.ga K p.1)).isSome && decide (PySem.W.kitOne K (.ref (He.ga K p.1)) (.ref (He.ga K y)) = some p.2))
theorem isxB_ok {K : Frag} {xs : List (Str × Bool)} {y : Str} {ns : List Str} (h : isxB K xs y = true) : ∀ c b, xs.lookup c = some b → ∀ Cc, cnOf K ns c = some Cc → ExcC K Cc ∧ (clsIn K Cc).isSome = true ∧ PySem.W.kitOne K (.ref Cc) (.ref (He.ga K y)) = some b := fun c b e Cc ec => by
  rw [cnOf_eq ec]
  obtain ⟨h1, h2⟩ := He.ba (List.all_eq_true.mp h _ (PySem.mem_of_lookup e))
  obtain ⟨h3, h4⟩ := He.ba h2
  exact ⟨excB_ok h1, h3, of_decide_eq_true h4⟩
def xffB (K : Frag) (cs : List Str) (f : Str) : Bool := cs.all fun c => xfB K (He.ga K c) && He.eqO (findIn K (.ref (He.ga K c)) f) (some none)
theorem xffB_ok {K : Frag} {cs : List Str} {f : Str} {ns : List Str} (h : xffB K cs f = true) : ∀ n ∈ cs, ∀ Cc, cnOf K ns n = some Cc → XfC K Cc ∧ findIn K (.ref Cc) f = some none := fun n hn Cc ec => by
  rw [cnOf_eq ec]
  obtain ⟨h1, h2⟩ := He.ba (List.all_eq_true.mp h _ hn)
  exact ⟨xfB_ok h1, He.eqO_ok h2⟩
def flB (K : Frag) (cs : List Str) (f : Str) : Bool := cs.all fun c => (He.Fa.cls c).ok K && (He.Fa.noat c f).ok K
theorem flB_ok {K : Frag} {cs : List Str} {f : Str} {ns : List Str} (h : flB K cs f = true) : ∀ n ∈ cs, ∀ Cc, cnOf K ns n = some Cc → Cls K Cc ∧ NoAttr K Cc f := fun n hn Cc ec => by
  rw [cnOf_eq ec]
  obtain ⟨h1, h2⟩ := He.ba (List.all_eq_true.mp h _ hn)
  exact ⟨He.cls_ok h1, He.noat_ok h2⟩
/-- a property's object, its getter -/
def prP (K : Frag) (C f : Str) : Addr := He.ma K (He.ga K C) f
def prG (K : Frag) (C f : Str) : Addr := match PySem.W.recIn K (prP K C f) "property" with
  | some (.ref g :: _) => g
  | _ => 0
def prB (K : Frag) (C f : Str) : Bool := He.eqO (findIn K (.ref (He.ga K C)) f) (some (some (.ref (prP K C f)))) && (He.eqO (PySem.W.specialIn K (.ref (prP K C f)) "__get__") (some (some (.builtin "property.__get__"))) && (decide (PySem.W.takesIn K (.ref (prP K C f)) = some true) && (match PySem.W.recIn K (prP K C f) "property" with
  | some (.ref _ :: _) => true
  | _ => false)))
theorem prB_ok {K : Frag} {C f : Str} (h : prB K C f = true) : PropOf K (He.ga K C) f (prP K C f) (prG K C f) := by
  obtain ⟨h1, h⟩ := He.ba h
  obtain ⟨h2, h⟩ := He.ba h
  obtain ⟨h3, h4⟩ := He.ba h
  refine ⟨He.eqO_ok h1, He.eqO_ok h2, of_decide_eq_true h3, ?_⟩
  unfold prG
  cases q : PySem.W.recIn K (prP K C f) "property" with
  | none => rw [q] at h4; cases h4
  | some l =>
    rw [q] at h4
    match l, h4 with
    | .ref g :: r, _ => exact ⟨r, rfl⟩
def ocB (K : Frag) (on : List Str) : Bool := on.all fun c => (He.Fa.cls c).ok K && (He.eqO (findIn K (.ref (He.ga K c)) "__class__") (some (some (.builtin "object.__class__"))) && (He.eqO (PySem.W.specialIn K (.builtin "object.__class__") "__get__") (some (some (.builtin "getset_descriptor.__get__"))) && (decide (PySem.W.takesIn K (.builtin "object.__class__") = some true) && (decide (mroIn K (He.ga K c) (.type "object") = some true) &&
  ((tyAsked.all fun T => decide (PySem.W.kitOne K (.ref (He.ga K c)) (.type T) = some false)) && ((tyNames.all fun T => decide (PySem.W.kitOne K (.type T) (.ref (He.ga K c)) = some false)) && on.all fun d => decide (PySem.W.kitOne K (.ref (He.ga K c)) (.ref (He.ga K d)) = some (decide (c = d)))))))))
theorem ocB_ok {C : Ctx} {ns : List Str} (h : ocB C.K C.on = true) (hc : C.cn = cnOf C.K ns) : OcOk C := by
  have key := fun c hc => He.ba (List.all_eq_true.mp h c hc)
  refine ⟨fun c hn Cc ec => ?_, fun c hn Cc ec => ?_, fun c hn Cc ec => ?_, fun c hn Cc ec d hd Cd ed => ?_⟩
  all_goals
    rw [hc] at ec
    rw [cnOf_eq ec]
    obtain ⟨h1, h⟩ := key c hn
    obtain ⟨h2, h⟩ := He.ba h
    obtain ⟨h3, h⟩ := He.ba h
    obtain ⟨h4, h⟩ := He.ba h
    obtain ⟨h5, h⟩ := He.ba h
    obtain ⟨h6, h⟩ := He.ba h
    obtain ⟨h7, h8⟩ := He.ba h
  · exact ⟨He.cls_ok h1, He.eqO_ok h2, He.eqO_ok h3, of_decide_eq_true h4, of_decide_eq_true h5⟩
  · exact fun T hT => of_decide_eq_true (List.all_eq_true.mp h6 T hT)
  · exact fun T hT => of_decide_eq_true (List.all_eq_true.mp h7 T hT)
  · rw [hc] at ed
    rw [cnOf_eq ed]
    exact of_decide_eq_true (List.all_eq_true.mp h8 d hd)

/-! ## what the text's defs may lean on -/
structure Txt (fn : List DefZ) (fa : List He.Fa) (own : List (Frag → Bool)) (tf : List (Frag → Addr)) (K : Frag) (mg : Str → Option Value) (base : Heap) : Prop where
  fns : ∀ d ∈ fn, FunZ K d
  fa : ∀ f ∈ fa, f.ok K = true
  own : ∀ b ∈ own, b K = true
  kin : K.In base
  ns : base.Ns mainGlobals mg
  tab : ∀ p ∈ tf, LamX.TabB base mg (cTA K p).1 (cTA K p).2
section
variable {fn : List DefZ} {fa : List He.Fa} {own : List (Frag → Bool)} {tf : List (Frag → Addr)} {K : Frag} {mg : Str → Option Value} {base : Heap}
theorem Txt.fn_ (T : Txt fn fa own tf K mg base) (i : Nat) {d : DefZ} (e : fn[i]? = some d) : FunZ K d := T.fns d (List.mem_of_getElem? e)
theorem Txt.fact (T : Txt fn fa own tf K mg base) (i : Nat) {d : He.Fa} (e : fa[i]? = some d) : d.ok K = true := T.fa d (List.mem_of_getElem? e)
theorem Txt.ow (T : Txt fn fa own tf K mg base) (i : Nat) {b : Frag → Bool} (e : own[i]? = some b) : b K = true := T.own b (List.mem_of_getElem? e)
theorem Txt.glo (T : Txt fn fa own tf K mg base) (i : Nat) {x : Str} (e : fa[i]? = some (.glo x)) : mg x = some (.ref (He.ga K x)) := He.glo_ok T.kin T.ns (T.fact i e)
theorem Txt.free (T : Txt fn fa own tf K mg base) (i : Nat) {x : Str} (e : fa[i]? = some (.free x)) : mg x = none := He.free_ok T.kin T.ns (T.fact i e)
theorem Txt.int (T : Txt fn fa own tf K mg base) (i : Nat) {x : Str} {n : Int} (e : fa[i]? = some (.int x n)) : ∃ t, mg x = some (.int n t) := He.int_ok T.kin T.ns (T.fact i e)
theorem Txt.tb (T : Txt fn fa own tf K mg base) (i : Nat) {p : Frag → Addr} (e : tf[i]? = some p) : LamX.TabB base mg (cTA K p).1 (cTA K p).2 := T.tab p (List.mem_of_getElem? e)
end
theorem tab_uniq {l : List NdefX.NTab} (nd : (l.map (·.1)).Nodup) {P : Addr} {nm : Nat → Nat → Str} : (P, nm) ∈ l → ∀ p ∈ l, p.1 = P → p.2 = nm := fun h p hp e => by
  induction l with
  | nil => cases h
  | cons q l ih =>
    rw [List.map_cons, List.nodup_cons] at nd
    rcases List.mem_cons.mp h with h | h
    · rcases List.mem_cons.mp hp with k | k
      · rw [k, ← h]
      · exact absurd (List.mem_map.mpr ⟨p, k, by rw [e, ← h]⟩) nd.1
    · rcases List.mem_cons.mp hp with k | k
      · exact absurd (List.mem_map.mpr ⟨_, h, by rw [← k, e]⟩) nd.1
      · exact ih nd.2 h k
/-- a lambda's maker: its table is the i-th -/
theorem lamAt_of {X : Cx} {C : Ctx} {pos : Pos} {P : Addr} {nm : Nat → Nat → Str} {f : Addr} (i : Nat) (nd : (C.T.map (·.1)).Nodup) (tb : LamX.TabB X.base X.mg (codeA X.K f) P) (hc : X.env.code = .ref (codeA X.K f)) (e : C.T[i]? = some (P, nm)) (hq : nm pos.line pos.col = X.env.qual ++ "<lambda>") : LamAt X C pos :=
  ⟨codeA X.K f, P, nm, tb, hc, List.mem_of_getElem? e, hq, tab_uniq nd (List.mem_of_getElem? e)⟩
/-! ## side conditions -/
def visB (sc : Scope) (x : Str) : Bool := match sc.names.lookup x with
  | some .local => true
  | some .cell => true
  | some .free => true
  | _ => false
theorem vis_of {sc : Scope} {x : Str} (h : visB sc x = true) : Vis sc x := by
  unfold visB at h
  split at h
  · exact .inl ‹_›
  · exact .inr (.inl ‹_›)
  · exact .inr (.inr ‹_›)
  · cases h
def locB (sc : Scope) (x : Str) : Bool := match sc.names.lookup x with
  | some .local => true
  | some .cell => true
  | _ => false
theorem loc_of {sc : Scope} {x : Str} (h : locB sc x = true) : Loc sc x := by
  unfold locB at h
  split at h
  · exact .inl ‹_›
  · exact .inr ‹_›
  · cases h
def scpB (N P : List Str) (sc : Scope) : Bool := decide (sc.kind = .function) && (!sc.isCoroutine && (!sc.isGenerator && (decide N.Nodup && (decide (N.take P.length = P) && ((P.all fun x => locB sc x) && sc.names.all fun y => !decide (y.2 = .free))))))
theorem scp_of {N P : List Str} {sc : Scope} (h : scpB N P sc = true) : FnScope N P sc := by
  obtain ⟨h1, h⟩ := He.ba h
  obtain ⟨h2, h⟩ := He.ba h
  obtain ⟨h3, h⟩ := He.ba h
  obtain ⟨h4, h⟩ := He.ba h
  obtain ⟨h5, h⟩ := He.ba h
  obtain ⟨h6, h7⟩ := He.ba h
  exact ⟨of_decide_eq_true h1, by simpa using h2, by simpa using h3, of_decide_eq_true h4, of_decide_eq_true h5, fun x hx => loc_of (List.all_eq_true.mp h6 x hx), fun y hy e => by have z := List.all_eq_true.mp h7 y hy; simp [e] at z⟩
def blkB (N : List Str) (sc scope : Scope) (own : List (Str × Nat)) : Bool := decide (scope.kind = .function) && ((scope.names.all fun y => decide (scope.names.lookup y.1 = some y.2)) && ((own.all fun p => decide (N[p.2]? = some p.1)) && ((scope.names.all fun y => !decide (y.2 = .free) || (decide (sc.names.lookup y.1 = some .cell) || decide (sc.names.lookup y.1 = some .free))) &&
  scope.names.all fun y => !(decide (y.2 = .local) || decide (y.2 = .cell)) || (decide (y.1 ∈ own.map (·.1)) || decide (y.1 ∉ N)))))
theorem blk_of {N : List Str} {sc scope : Scope} {own : List (Str × Nat)} (h : blkB N sc scope own = true) : BlkOk N sc scope own := by
  obtain ⟨h1, h⟩ := He.ba h
  obtain ⟨h2, h⟩ := He.ba h
  obtain ⟨h3, h⟩ := He.ba h
  obtain ⟨h4, h5⟩ := He.ba h
  refine ⟨of_decide_eq_true h1, fun y hy => of_decide_eq_true (List.all_eq_true.mp h2 y hy), fun p hp => of_decide_eq_true (List.all_eq_true.mp h3 p hp), fun y hy e => ?_, fun y hy e => ?_⟩
  · have z := List.all_eq_true.mp h4 y hy
    simpa [e] using z
  · have z := List.all_eq_true.mp h5 y hy
    rcases e with e | e <;> simpa [e] using z
theorem takes_no {X : Cx} : Takes X noW := fun u s' ⟨_, _, _, _, _, _, _, _, _, _, _, _, _, _, _, _, w⟩ => w.elim
end WL
set_option Elab.async false
set_option linter.all false
set_option maxRecDepth 100000
namespace WL
open PySem PySem.Spec L2 PyProof.Rows
open PySem.W (Frag)
/-- a def that hands regions on -/
def mkFnR (np nN : Nat) (mb : SS) : List D → M D := fun ds S => if ds.length = np then retOf (mb (env0 nN ds) S) else .stuck
theorem FunD.mirR {C : Ctx} {P : Program} {w : World} {K : Frag} {mg : Str → Option Value} {base : Heap} {k nN : Nat} {f : Addr} {x qual : Str} {params : Arguments} {body : List Stmt} {scope : Scope} {dvs : List V} {fd : FuncData}
    {N ps : List Str} {mb : SS} (F : FunD K x qual params body scope dvs [] f fd) (S : FnScope N ps scope) (hN : N.length = nN)
    (hbody : ∀ (cdv : Value) (A : Around) (outer : List PySem.Env) (s : Shared) (H : Hp) (E : XK), cdv = .ref (codeA K f) → Room k (A.deeper (envOfC qual scope s.heap.objs.size f cdv)) →
      SSs (cxOf (L2.CX P w) P w K mg base N qual scope f cdv A outer s H E) C (fun cls d _ H => E cls d H) body mb) :
    FnOk P w K mg base (L2.CX P w) (k + 1) f fd ps (spM C ps.length (mkFnR ps.length nN mb)) := by
  obtain ⟨oc, od, dV, kV, doc, pm, an, cdv, ct, osl, rfl, lk, hcd, _, _⟩ := F.ex
  have hc : cdv = .ref (codeA K f) := by
    obtain ⟨c, rfl⟩ := He.codeIn_ref hcd
    unfold codeA
    rw [lk]
  refine fn_of lk hcd S (fun vs H Q E h => h.1) fun A outer s H vs Q E hr h => ?_
  obtain ⟨hl, α, F2, St, ds, R, rp, Pp⟩ := h
  refine ⟨_, (hbody cdv A outer s H E hc hr).pss, α, F2, St, env0 nN ds, R, slots_start hN ?_ rp, ?_⟩
  · have := congrArg List.length S.pre
    rw [List.length_take] at this
    rw [hl, ← hN]; omega
  · unfold mkFnR at Pp
    split at Pp
    · generalize mb (env0 nN ds) St = r at Pp
      cases r with
      | next env S' => exact fun σ' α' F' H' s R' _ => Pp _ _ _ _ s R' rfl
      | ret d S' => exact Pp
      | exc e env S' => exact fun σ' cls dx α' F' H' s R' _ x => Pp cls dx α' F' H' s R' x
      | brk env S' => exact (show False from Pp).elim
      | cont env S' => exact (show False from Pp).elim
      | stuck => exact Pp
    · exact Pp.elim

theorem u64 {k : Nat} {A : Around} (r : Room k A) : A.units + 64 < cLine := r.units
theorem u65 {k : Nat} {A : Around} (r : Room k A) : A.units + 65 < cLine := by have := r.un; omega
theorem d2 {k : Nat} {A : Around} (r : Room k A) : A.depth + 2 < recursionLimit := by have := r.dp; omega
theorem cnOf_in {K : Frag} {ns : List Str} {x : Str} (h : x ∈ ns) : cnOf K ns x = some (He.ga K x) := by unfold cnOf; rw [if_pos h]
theorem se_globI {X : Cx} {C : Ctx} {W : WX} {x : Str} {n : Int} {pos : Pos} (h : ∃ t, X.mg x = some (.int n t)) (hg : Gl X x) (hd : (x == ("__debug__" : Str)) = false) : SE X C W (.Name x pos) (eC (.int n)) := by
  obtain ⟨t, h⟩ := h
  exact se_glob (v := .int n) hg h ⟨t, rfl⟩ (fun _ _ => rfl) hd
def fnlB (X : Cx) (x : Str) : Bool := X.fn x || decide (X.env.scope.names.lookup x = some .local)
theorem fnl_of {X : Cx} {x : Str} (h : fnlB X x = true) : X.fn x = true ∨ X.env.scope.names.lookup x = some .local := by
  unfold fnlB at h
  rcases Bool.or_eq_true_iff.mp h with h | h
  · exact .inl h
  · exact .inr (of_decide_eq_true h)
def plD : D → Bool
  | .non => true
  | .bl _ => true
  | .int _ => true
  | .str _ => true
  | _ => false
def dv0 : D → V
  | .bl b => .bl b
  | .int i => .int i
  | .str s => .str s
  | _ => .non
theorem rpl_plain {C : Ctx} {α : List Addr} {F : Hp} : ∀ {ds : List D}, ds.all plD = true → RpL C α F ds (ds.map dv0)
  | [], _ => rfl
  | d :: ds, h => by
    obtain ⟨h1, h2⟩ := He.ba h
    refine ⟨dv0 d, _, rfl, ?_, rpl_plain h2⟩
    cases d <;> first | rfl | cases h1
theorem far_def' {X : Cx} {C C0 : Ctx} {k np : Nat} {f : Addr} {ps : List Str} {m : List D → M D} {x qual y : Str} {params : Arguments} {body : List Stmt} {scope : Scope} {dvs : List V} {pos : Pos} (O : Over C C0) (Fn : FnOk X.prog X.w X.K X.mg X.base (L2.CX X.prog X.w) k f (fdOf X.K f) ps (spM C0 np m)) (hg : Gl X x) (hm : X.mg x = some (.ref f))
    (F : FunD X.K y qual params body scope dvs [] f (fdOf X.K f)) (hb : Binds X.K (fdOf X.K f) ps []) (hps : ps.length = np) (hdb : (x == ("__debug__" : Str)) = false) : FAr X C C0 k np (.Name x pos) fun _ => some m := by
  obtain ⟨oc, od, dV, kV, doc, pm, an, cdv, ct, osl, _, lk, _, _, _⟩ := F.ex
  exact far_def O Fn hg hm lk hb hps hdb
/-! ## places in the text -/
def noS : Stmt := .Pass ⟨0, 0, 0, 0⟩
def noE : Expr := .Constant .none 0 ⟨0, 0, 0, 0⟩
def kidS (s : Stmt) (b j : Nat) : Stmt := match s with
  | .For _ _ p q _ => (if b = 0 then p else q).getD j noS
  | .If _ p q _ => (if b = 0 then p else q).getD j noS
  | .While _ p q _ => (if b = 0 then p else q).getD j noS
  | .Try p _ q _ _ => (if b = 0 then p else q).getD j noS
  | _ => noS
def exS (s : Stmt) : Expr := match s with
  | .For _ e _ _ _ => e
  | .If e _ _ _ => e
  | .Assign _ e _ => e
  | .Expr e _ => e
  | .Return (some e) _ => e
  | _ => noE
def kidE (e : Expr) (k : Nat) : Expr := match e with
  | .List es _ => es.getD k noE
  | .Tuple es _ _ => es.getD k noE
  | .Call _ es _ _ => es.getD k noE
  | .Dict _ es _ => es.getD k noE
  | .Compare a _ es _ => (a :: es).getD k noE
  | .BoolOp _ es _ => es.getD k noE
  | .IfExp a b c _ => [a, b, c].getD k noE
  | .BinOp a _ b _ => [a, b].getD k noE
  | .ListComp a (g :: _) _ _ => [a, g.iter].getD k noE
  | _ => noE
def lamK (q : Str) (e : Expr) : LamK := match e with
  | .Lambda a b sc _ => ⟨q, a, b, sc⟩
  | _ => ⟨q, defArgs noS, noE, defScope noS⟩
def frzB (sc scope : Scope) : Bool := scope.names.all fun y => !decide (y.2 = .free) || (decide (sc.names.lookup y.1 = some .cell) || decide (sc.names.lookup y.1 = some .free))
theorem frz_of {sc scope : Scope} (h : frzB sc scope = true) : ∀ y ∈ scope.names, y.2 = .free → sc.names.lookup y.1 = some .cell ∨ sc.names.lookup y.1 = some .free := fun y hy e => by
  have z := List.all_eq_true.mp h y hy
  simpa [e] using z
/-! ## keywords -/
def pick {β : Type} (perm : List (Bool × Nat)) (us ws : List β) : List β := perm.filterMap fun p => if p.1 then us[p.2]? else ws[p.2]?
theorem pick_vals {vs zs : List V} {us ws : List Value} (r : Vals vs us) (q : Vals zs ws) : ∀ perm : List (Bool × Nat), Vals (pick perm vs zs) (pick perm us ws)
  | [] => .nil
  | (b, i) :: perm => by
    have ih := pick_vals r q perm
    have key : ∀ {as : List V} {bs : List Value}, Vals as bs → Vals ((as[i]?).toList ++ pick perm vs zs) ((bs[i]?).toList ++ pick perm us ws) := fun {as bs} r => by
      cases e : as[i]? with
      | none => rw [r.none_of e]; exact ih
      | some x =>
        obtain ⟨u, hu, ru⟩ := r.get e
        rw [hu]
        exact .cons ru ih
    have e1 : ∀ {β : Type} (as bs : List β), pick ((b, i) :: perm) as bs = ((if b then as[i]? else bs[i]?)).toList ++ pick perm as bs := fun as bs => by
      unfold pick
      rw [List.filterMap_cons]
      cases (if b then as[i]? else bs[i]?) <;> rfl
    rw [e1, e1]
    cases b with
    | true => rw [if_pos rfl, if_pos rfl]; exact key r
    | false => rw [if_neg Bool.false_ne_true, if_neg Bool.false_ne_true]; exact key q
theorem pick_rpl {C : Ctx} {α : List Addr} {F : Hp} {vs zs : List V} {us ws : List D} (r : RpL C α F us vs) (q : RpL C α F ws zs) : ∀ perm : List (Bool × Nat), RpL C α F (pick perm us ws) (pick perm vs zs)
  | [] => rfl
  | (b, i) :: perm => by
    have ih := pick_rpl r q perm
    have key : ∀ {as : List D} {bs : List V}, RpL C α F as bs → RpL C α F ((as[i]?).toList ++ pick perm us ws) ((bs[i]?).toList ++ pick perm vs zs) := fun {as bs} r => by
      cases e : as[i]? with
      | none =>
        have e2 : bs[i]? = none := by
          rw [List.getElem?_eq_none_iff] at e ⊢
          rw [← r.length]; exact e
        rw [e2]; exact ih
      | some x =>
        obtain ⟨u, hu, ru⟩ := r.get e
        rw [hu]
        exact ⟨u, _, rfl, ru, ih⟩
    have e1 : ∀ {β : Type} (as bs : List β), pick ((b, i) :: perm) as bs = ((if b then as[i]? else bs[i]?)).toList ++ pick perm as bs := fun as bs => by
      unfold pick
      rw [List.filterMap_cons]
      cases (if b then as[i]? else bs[i]?) <;> rfl
    rw [e1, e1]
    cases b with
    | true => rw [if_pos rfl, if_pos rfl]; exact key r
    | false => rw [if_neg Bool.false_ne_true, if_neg Bool.false_ne_true]; exact key q
theorem FunD.kbd {C0 : Ctx} {K : Frag} {x qual : Str} {params : Arguments} {body : List Stmt} {scope : Scope} {f : Addr} {fd : FuncData} {ps ks : List Str} {n : Nat} (perm : List (Bool × Nat)) (F : FunD K x qual params body scope [] [] f fd)
    (h : ∀ (kV doc pm : Value) (an : Option Addr) (cdv ct : Value) (us ws : List Value), us.length = n → ws.length = ks.length → bindArgs (PySem.W.fnOf x qual params body scope .none kV doc pm an cdv ct) ⟨us, ks.zip ws⟩ = pure (ps.zip (pick perm us ws))) : KBd C0 K fd ps n ks (pick perm) := by
  obtain ⟨oc, od, dV, kV, doc, pm, an, cdv, ct, osl, rfl, lk, hcd, hD, _⟩ := F.ex
  rcases hD with ⟨_, rfl⟩ | ⟨e, _⟩
  · exact ⟨⟨pick perm, pick perm, ⟨fun s us ws _ h1 h2 => BindsTo.of_eq (h _ _ _ _ _ _ us ws h1 h2), fun r q => pick_vals r q perm⟩, fun _ _ _ _ _ _ r q _ _ => pick_rpl r q perm⟩⟩
  · exact absurd rfl e
end WL
set_option Elab.async false
set_option linter.all false
set_option maxRecDepth 100000
namespace WL
open PySem PySem.Spec L2 PyProof.Rows
open PySem.W (Frag)
/-! ## the end: from the law's mirror to the row -/
def noTb (H : Hp) : Hp := fun b => match H b with
  | some (.tbl _) => none
  | o => o
theorem noTb_eq {H : Hp} {b : Addr} {o : HO} (e : noTb H b = some o) : H b = some o ∧ notTbl o := by
  unfold noTb at e
  cases q : H b with
  | none => rw [q] at e; cases e
  | some u =>
    rw [q] at e
    cases u with
    | tbl ps => cases e
    | _ => cases e; exact ⟨rfl, fun _ z => nomatch z⟩
theorem noTb_of {H : Hp} {b : Addr} {o : HO} (e : H b = some o) (n : notTbl o) : noTb H b = some o := by
  unfold noTb
  rw [e]
  cases o with
  | tbl ps => exact absurd rfl (n ps)
  | _ => rfl
theorem law_start {C : Ctx} {H : Hp} {a : Addr} {ns : List Int} {m : List D → M D} (B : Grd C) (hT : ∀ p ∈ C.T, H p.1 = some (.tbl #[])) (sq : SqL C.K H a (ns.map V.int)) (h : ∃ S, m [.scr ns] [] = .ok (.bl true) S) : spM C 1 m [.ref a] H (fun v _ => v = .bl true) fun _ _ _ => False := by
  obtain ⟨S', e⟩ := h
  have R : Rst C [] (noTb H) H [] := by
    refine ⟨fun b o e => (noTb_eq e).1, fun b o e => (noTb_eq e).2, List.nodup_nil, fun b hb => (by cases hb), rfl, fun j r e => (by simp at e), fun p hp => ⟨#[], hT p hp, ?_, fun pos cv hc => ?_⟩, B.low _, B.lowA _⟩
    · exact True.intro
    · cases hc
  refine ⟨rfl, [], noTb H, [], [.scr ns], R, ?_, ?_⟩
  · refine ⟨.ref a, [], rfl, ⟨a, rfl, ?_⟩, rfl⟩
    rcases sq with (q | ⟨o, q⟩) | q
    · exact .inl (.inl (noTb_of q fun _ z => nomatch z))
    · exact .inl (.inr ⟨o, noTb_of q fun _ z => nomatch z⟩)
    · exact .inr q
  · rw [e]
    exact fun v α' F' H' s R' r => r
theorem txt_of {fn : List DefZ} {fa : List He.Fa} {own : List (Frag → Bool)} {tf : List (Frag → Addr)} {K : Frag} {h base : Heap} {mg : Str → Option Value} (c : SaysW fn tf (fun K => (fa.all fun f => f.ok K) && own.all fun b => b K) h K) (X : K.In base) (G : base.Ns mainGlobals mg) (tb : ∀ p ∈ tf, LamX.TabB base mg (cTA K p).1 (cTA K p).2) : Txt fn fa own tf K mg base := by
  obtain ⟨h1, h2⟩ := He.ba c.more
  refine ⟨fun d hd => ?_, fun f hf => List.all_eq_true.mp h1 f hf, fun b hb => List.all_eq_true.mp h2 b hb, X, G, tb⟩
  obtain ⟨i, hi⟩ := List.getElem?_of_mem hd
  exact c.fn_ i hi
theorem law_at {l : PySem.W.OpenLaw} {fn : List DefZ} {fa : List He.Fa} {own : List (Frag → Bool)} {tf : List (Frag → Addr)} {C : Frag → Ctx} {n k : Nat} {x : Str} {m : List D → M D} {w : World} {K : Frag} {h : Heap} {mg : Str → Option Value} {f : Addr}
    (KX : K.In h) (c : SaysW fn tf (fun K => (fa.all fun f => f.ok K) && own.all fun b => b K) h K)
    (B : ∀ K, Grd (C K)) (hK : ∀ K, (C K).K = K) (hC : ∀ K, (C K).T.map (·.1) = tf.map fun p => (cTA K p).2)
    (hb : ∀ (s : Shared) (u : Value), BindsTo s (fdOf K f) ⟨[u], []⟩ [(x, u)])
    (hF : ∀ base, Txt fn fa own tf K mg base → FnOk l.prog w K mg base (L2.CX l.prog w) k f (fdOf K f) [x] (spM (C K) 1 m))
    (hlaw : ∀ ns : List Int, ns.length ≤ n → ∃ S, m [.scr ns] [] = .ok (.bl true) S) : LamX.LawAtS l w K (L2.CX l.prog w) k n x mg f h := by
  refine ⟨fdOf K f, tf.map fun p => cTA K p, spM (C K) 1 m, ?_, ?_, ?_, hb, fun H a ns hl _ hH hS => ?_, fun base X G tb => ?_⟩
  · intro p hp
    obtain ⟨q, hq, rfl⟩ := List.mem_map.mp hp
    exact c.empty q hq
  · intro p hp
    obtain ⟨q, hq, rfl⟩ := List.mem_map.mp hp
    exact c.out q hq
  · intro p hp
    obtain ⟨q, hq, rfl⟩ := List.mem_map.mp hp
    exact PySem.W.codeHd_of_K KX (c.hd q hq)
  · refine law_start (B K) (fun p hp => ?_) (by rw [hK]; exact hS) (hlaw ns hl)
    have z : p.1 ∈ (C K).T.map (·.1) := List.mem_map.mpr ⟨p, hp, rfl⟩
    rw [hC] at z
    obtain ⟨q, hq, e⟩ := List.mem_map.mp z
    rw [← e]
    exact hH _ (List.mem_map.mpr ⟨q, hq, rfl⟩)
  · exact hF base (txt_of c X G fun p hp => tb _ (List.mem_map.mpr ⟨p, hp, rfl⟩))
end WL
set_option Elab.async false
set_option linter.all false
set_option maxRecDepth 100000
namespace WL
open PySem PySem.Spec L2 PyProof.Rows

/-! ## while -/
def wGo (t : ET) (b : SS) : Nat → SS
  | 0 => fun _ _ => .stuck
  | n + 1 => fun env S => ResS.bindE (t env S) env fun c S => if c = true then (match b env S with
    | .next e S => wGo t b n e S
    | .cont e S => wGo t b n e S
    | .brk e S => .next e S
    | .ret d S => .ret d S
    | .exc x e S => .exc x e S
    | .stuck => .stuck) else .next env S
def sWhile (N : Nat) (t : ET) (b : SS) : SS := wGo t b N
section
variable {X : Cx} {C : Ctx} {W : WX} {t : ET} {u : SS} {pos : Pos}
theorem ss_while {c : Expr} {body : List Stmt} {N : Nat} (hp : PassesOwn (model X.prog X.w) X.A X.env X.xe) (hc : SET X C W c t) (hb : SSs X C W body u) : SS1 X C W (.While c body [] pos) (sWhile N t u) := by
  refine ⟨PS_imp (ps_while hp hc.pt hb.pss) fun D σ H ⟨α, F, S, env, R, Sl, P⟩ => ?_⟩
  refine ⟨fun n σ H => ∃ α F S env, Rst C α F H S ∧ Slots C α F σ env ∧ PostS C W α F H D (wGo t u n env S), ⟨N, α, F, S, env, R, Sl, P⟩, fun n σ2 H2 ⟨α2, F2, S2, env2, R2, Sl2, P2⟩ => ?_⟩
  cases n with
  | zero => exact (show False from P2).elim
  | succ n =>
    refine ⟨α2, F2, S2, env2, R2, Sl2, postS_T Sl2 P2 fun d S3 α3 F3 H3 s3 R3 P3 => ?_⟩
    cases d with
    | false => exact P3 σ2 α3 F3 H3 (Step.refl _ _ _) R3 (Sl2.step s3)
    | true =>
      rw [if_pos rfl] at P3 ⊢
      refine ⟨fun σ' H' => ∃ α F S env, Rst C α F H' S ∧ Slots C α F σ' env ∧ PostS C W α F H' D (wGo t u n env S), fun σ' H' h => ⟨n, Nat.lt_succ_self n, h⟩, α3, F3, S3, env2, R3, Sl2.step s3, ?_⟩
      cases q : u env2 S3 with
      | next e S4 =>
        rw [q] at P3
        exact fun σ4 α4 F4 H4 s4 R4 Sl4 => ⟨α4, F4, S4, e, R4, Sl4, PostS.step s4 P3⟩
      | cont e S4 =>
        rw [q] at P3
        exact fun σ4 α4 F4 H4 s4 R4 Sl4 => ⟨α4, F4, S4, e, R4, Sl4, PostS.step s4 P3⟩
      | brk e S4 => rw [q] at P3; exact P3
      | ret v S4 => rw [q] at P3; exact P3
      | exc x e S4 => rw [q] at P3; exact P3
      | stuck => rw [q] at P3; exact (show False from P3).elim
end

/-! ## a def that calls itself: by a number of turns -/
theorem fnok_none {C : Ctx} {P : Program} {w : World} {K : PySem.W.Frag} {mg : Str → Option Value} {base : Heap} {k np : Nat} {f : Addr} {fd : FuncData} {ps : List Str} (hl : ps.length = np) : FnOk P w K mg base (L2.CX P w) k f fd ps (spM C np fun _ _ => .stuck) :=
  ⟨fun vs H Q E h => h.1.trans hl.symm, fun A outer s H args us vs Q E hr e0 hb hv ⟨_, α, F, S, ds, R, rp, P⟩ => (show False from P).elim⟩

/-! ## a, b, c = x, y, z -/
section
variable {X : Cx} {C : Ctx} {W : WX} {a b c : Expr} {pos : Pos}
theorem RpL.three_inv {α : List Addr} {F : Hp} {d d' d'' : D} {vs : List V} (h : RpL C α F [d, d', d''] vs) : ∃ v v' v'', vs = [v, v', v''] ∧ Rp C α F d v ∧ Rp C α F d' v' ∧ Rp C α F d'' v'' := by
  obtain ⟨v, r, e, h1, v', r', e', h2, v'', r'', e'', h3, h4⟩ := h
  rw [show r'' = [] from h4] at e''
  exact ⟨v, v', v'', by rw [e, e', e''], h1, h2, h3⟩
theorem ss_par3 {i j l : Nat} {x y z : Str} {ml : EL} {px py pz pt : Pos} {kt k2 : Nat} {pt2 : Pos} (hc : X.calm = true) (hN : X.N.Nodup) (hi : X.N[i]? = some x) (hj : X.N[j]? = some y) (hl : X.N[l]? = some z) (hij : i ≠ j) (hil : i ≠ l) (hjl : j ≠ l) (hx : X.env.scope.names.lookup x = some .local) (hy : X.env.scope.names.lookup y = some .local) (hz : X.env.scope.names.lookup z = some .local)
    (h : SEA X C W [a, b, c] ml) (hw : swappedStores [.Tuple [.Name x px, .Name y py, .Name z pz] kt pt] (.Tuple [a, b, c] k2 pt2) X.env = pure (some [x, y, z])) (hs : swapsWithSole [.Tuple [.Name x px, .Name y py, .Name z pz] kt pt] (.Tuple [a, b, c] k2 pt2) pos.line X.env = pure false) :
    SS1 X C W (.Assign [.Tuple [.Name x px, .Name y py, .Name z pz] kt pt] (.Tuple [a, b, c] k2 pt2) pos) (sPar [i, j, l] ml) := by
  refine ⟨PS_imp (ps_par3 hc hN hi hj hl hij hil hjl hx hy hz h.pa hw hs) fun D σ H ⟨α, F, S, env, R, Sl, P⟩ => ⟨α, F, S, env, R, Sl, postS_A Sl P fun ds S1 vs α1 F1 H1 s1 R1 r P1 => ?_⟩⟩
  split at P1
  · rename_i hl
    have hl2 : ds.length = 3 := hl
    obtain ⟨d, d', d'', rfl⟩ : ∃ d d' d'', ds = [d, d', d''] := by
      match ds, hl2 with
      | [d, d', d''], _ => exact ⟨d, d', d'', rfl⟩
    obtain ⟨v, v', v'', ev, r1, r2, r3⟩ := r.three_inv
    exact ⟨v, v', v'', ev, P1 _ α1 F1 H1 (Step.refl _ _ _) R1 ((((Sl.step s1).put i r1).put j r2).put l r3)⟩
  · exact P1.elim
end

/-! ## raise C(text), C of no __init__ -/
def sRaise0 (c : Str) : SS := fun env S => .exc ⟨c, []⟩ env S
def exc0B (K : PySem.W.Frag) (C : Addr) : Bool := PySem.W.excIn K C He.veBase "ValueError.__new__" && (PySem.W.keepIn K (.ref C) && (decide (PySem.W.subIn K (.ref C) (.type "BaseException") = some true) && decide (PySem.W.typeIn K (.ref C) = some (.type "type"))))
theorem exc0B_ok {K : PySem.W.Frag} {C : Addr} (h : exc0B K C = true) : PySem.W.excIn K C He.veBase "ValueError.__new__" = true ∧ PySem.W.keepIn K (.ref C) = true ∧ PySem.W.subIn K (.ref C) (.type "BaseException") = some true ∧ PySem.W.typeIn K (.ref C) = some (.type "type") := by
  obtain ⟨h1, h2⟩ := He.ba h
  obtain ⟨h3, h4⟩ := He.ba h2
  obtain ⟨h5, h6⟩ := He.ba h4
  exact ⟨h1, h3, of_decide_eq_true h5, of_decide_eq_true h6⟩
section
variable {X : Cx} {C : Ctx} {W : WX} {p pos rpos p2 : Pos} {j : Nat}
theorem ss_raise0 {x m : Str} {Cc : Addr} (hc : X.calm = true) (tk : Takes X W) (cn : C.cn x = some Cc) (hq : exc0B X.K Cc = true) (hg : Gl X x) (hm : X.mg x = some (.ref Cc)) (hdb : (x == ("__debug__" : Str)) = false) :
    SS1 X C W (.Raise (some (.Call (.Name x p) [.Constant (.str m) j p2] [] pos)) none rpos) (sRaise0 x) := by
  obtain ⟨h1, h2, h3, h4⟩ := exc0B_ok hq
  refine ⟨PS_imp (ps_raise hc tk (pmk_own F.excBase_ValueError h1 hm h2 (raises_own h3 h4) hg hdb)) fun D σ H ⟨α, F, S, env, R, Sl, P⟩ => ?_⟩
  exact P σ (.ref Cc) none α F H (Step.refl _ _ _) R Sl ⟨Cc, cn, rfl, .inl ⟨rfl, rfl⟩⟩

/-! ## insert -/
def mInsert : D → List D → M D := fun x ys S => match x, ys with
  | .reg j, [.int i, y] => match S[j]? with
    | some (some (.lst xs)) => if 0 ≤ i ∧ i < 1000000000 ∧ xs.length < big then .ok .non (S.set j (some (.lst (xs.take i.toNat ++ [y] ++ xs.drop i.toNat)))) else .stuck
    | _ => .stuck
  | _, _ => .stuck
def rInsert : V → List V → Hp → VK → Prop := fun x vs H Q => ∃ (l : Addr) (xs : List V) (i : Int) (y : V), x = .ref l ∧ vs = [.int i, y] ∧ H l = some (.lst xs) ∧ xs.length < sizeLine ∧ 0 ≤ i ∧ i < 2 ^ 63 ∧ Q .non (upd H l (.lst (xs.take i.toNat ++ [y] ++ xs.drop i.toNat)))
theorem mt_insertW : MtR X "list.insert" rInsert := mt_insert
theorem md_insert : MtD C mInsert rInsert := by
  intro W α F H S σ x ys dx dys Q R rx rys P
  unfold mInsert at P
  split at P
  · split at P
    · split at P
      · rename_i j i y _ xs hj hi
        obtain ⟨w0, w1, ew, r0, r1⟩ := rys.two_inv
        obtain ⟨a, ev, ha⟩ := rx
        obtain ⟨o, h2, h3, vs, h4, l⟩ := R.live hj ha
        subst ev; subst h4; subst ew
        rw [show w0 = V.int i from r0]
        refine ⟨a, vs, i, w1, rfl, rfl, h3, by rw [← l.length]; exact lt_line hi.2.2, hi.1, by have := hi.2.1; omega, ?_⟩
        exact PostE.put (d := .non) (r' := .lst (xs.take i.toNat ++ [y] ++ xs.drop i.toNat)) R hj ha ⟨_, rfl, ((l.take _).app (RpL.one r1)).app (l.drop _)⟩ P rfl
      · exact P.elim
    · exact P.elim
  · exact P.elim
end

/-! ## a dict of the module with text keys -/
section
variable {X : Cx} {C : Ctx} {W : WX} {pos : Pos}
theorem se_gobj {x : Str} {a : Addr} (hg : Gl X x) (hm : X.mg x = some (.ref a)) (cn : C.cn x = some a) (hd : (x == ("__debug__" : Str)) = false) : SE X C W (.Name x pos) (eC (.cls x)) :=
  se_glob (v := .ref a) hg hm rfl (fun _ _ => ⟨a, rfl, cn⟩) hd
/-- its keys and ints -/
def kdL (K : PySem.W.Frag) (a : Addr) : Option (List (Option (Str × Int))) := match K.lookup a with
  | some ⟨_, _, .dict es _, _⟩ => some (es.toList.map fun e => match e.key, e.val with
    | .str x _, .int i _ => some (x, i)
    | _, _ => none)
  | _ => none
def kdB (K : PySem.W.Frag) (a : Addr) (kvs : List (Str × Int)) : Bool := decide (kdL K a = some (kvs.map some))
def kdR (o : Option Int) (r : Option Value) : Prop := match o with
  | some i => ∃ t, r = some (.int i t)
  | none => r = none
theorem kd_find {z : Str} : ∀ {es : List DictEntry} {kvs : List (Str × Int)}, es.map (fun e => match e.key, e.val with
    | .str x _, .int i _ => some (x, i)
    | _, _ => none) = kvs.map some → es.any (·.refKey) = false ∧ kdR (kvs.lookup z) ((es.find? (·.key.isStr z)).map (·.val))
  | [], [], _ => ⟨rfl, rfl⟩
  | [], _ :: _, h => by cases h
  | _ :: _, [], h => by cases h
  | e :: es, (x, i) :: kvs, h => by
    rw [List.map_cons, List.map_cons] at h
    injection h with h1 h2
    obtain ⟨k1, k2⟩ := kd_find (z := z) h2
    split at h1
    · rename_i y t j t2 hk hv
      cases h1
      refine ⟨?_, ?_⟩
      · rw [List.any_cons, k1]
        unfold DictEntry.refKey
        rw [hk]; rfl
      · rw [List.find?_cons, List.lookup_cons, hk]
        have q : (Value.str x t).isStr z = (z == x) := by
          show (x == z) = (z == x)
          by_cases e : x = z
          · subst e; rfl
          · have e2 : ¬ z = x := fun z => e z.symm
            rw [beq_eq_false_iff_ne.mpr e, beq_eq_false_iff_ne.mpr e2]
        rw [q]
        cases z == x with
        | true => exact ⟨t2, by rw [Option.map_some, hv]⟩
        | false => exact k2
    · cases h1
theorem kd_ns {K : PySem.W.Frag} {a : Addr} {kvs : List (Str × Int)} (h : kdB K a kvs = true) (z : Str) : ∃ r, PySem.W.nsIn K a z = some r ∧ kdR (kvs.lookup z) r := by
  have h2 := of_decide_eq_true h
  unfold kdL at h2
  unfold PySem.W.nsIn
  split at h2
  · rename_i cl od es n sl e
    rw [e]
    obtain ⟨k1, k2⟩ := kd_find (z := z) (Option.some.inj h2)
    cases q : es.toList.find? (·.key.isStr z) with
    | some en =>
      rw [q] at k2
      exact ⟨some en.val, by simp only [q], k2⟩
    | none =>
      rw [q] at k2
      exact ⟨none, by simp only [q, k1, Bool.false_eq_true, if_false], k2⟩
  · cases h2
def dInG (g : Str) (kvs : List (Str × Int)) (neg : Bool) : D → D → M D := fun x y S => match x, y with
  | .str z, .cls c => if c = g then .ok (.bl (if neg then !(kvs.lookup z).isSome else (kvs.lookup z).isSome)) S else .stuck
  | _, _ => .stuck
def dIxG (g : Str) (kvs : List (Str × Int)) : D → D → M D := fun x y S => match x, y with
  | .cls c, .str z => if c = g then (match kvs.lookup z with
    | some i => .ok (.int i) S
    | none => .stuck) else .stuck
  | _, _ => .stuck
theorem kdR_some {o : Option Int} {r : Option Value} (h : kdR o r) : r.isSome = o.isSome := by
  cases o with
  | none => rw [show r = none from h]; rfl
  | some i => obtain ⟨t, rfl⟩ := h; rfl
theorem od_inG {g : Str} {d : Addr} {kvs : List (Str × Int)} (cn : C.cn g = some d) (hk : kdB C.K d kvs = true) : OpDs C (dInG g kvs false) (fun x y H Q => ∃ (z : Str) (r : Option Value), x = .str z ∧ y = .ref d ∧ PySem.W.nsIn C.K d z = some r ∧ Q (.bl r.isSome) H) := by
  intro W α F H S σ x y dx dy Q R rx ry P
  unfold dInG at P
  split at P
  · split at P
    · rename_i z c hc
      subst hc
      obtain ⟨a, e1, e2⟩ := ry
      rw [cn] at e2; cases e2
      obtain ⟨r, h1, h2⟩ := kd_ns hk z
      refine ⟨z, r, rx, e1, h1, ?_⟩
      rw [kdR_some h2]
      exact PostE.here (d := .bl _) R rfl P
    · exact P.elim
  · exact P.elim
theorem od_notinG {g : Str} {d : Addr} {kvs : List (Str × Int)} (cn : C.cn g = some d) (hk : kdB C.K d kvs = true) : OpDs C (dInG g kvs true) (fun x y H Q => ∃ (z : Str) (r : Option Value), x = .str z ∧ y = .ref d ∧ PySem.W.nsIn C.K d z = some r ∧ Q (.bl (!r.isSome)) H) := by
  intro W α F H S σ x y dx dy Q R rx ry P
  unfold dInG at P
  split at P
  · split at P
    · rename_i z c hc
      subst hc
      obtain ⟨a, e1, e2⟩ := ry
      rw [cn] at e2; cases e2
      obtain ⟨r, h1, h2⟩ := kd_ns hk z
      refine ⟨z, r, rx, e1, h1, ?_⟩
      rw [kdR_some h2]
      exact PostE.here (d := .bl _) R rfl P
    · exact P.elim
  · exact P.elim
theorem od_ixG {w : World} {g : Str} {d : Addr} {kvs : List (Str × Int)} (D : ∃ es n, KDict C.K w d es n) (cn : C.cn g = some d) (hk : kdB C.K d kvs = true) : OpDs C (dIxG g kvs) (L2.rIxD C.K w) := by
  intro W α F H S σ x y dx dy Q R rx ry P
  unfold dIxG at P
  split at P
  · split at P
    · split at P
      · rename_i c z hc _ i hi
        subst hc
        obtain ⟨a, e1, e2⟩ := rx
        rw [cn] at e2; cases e2
        obtain ⟨r, h1, h2⟩ := kd_ns hk z
        rw [hi] at h2
        obtain ⟨t, rfl⟩ := h2
        obtain ⟨es, n, KD⟩ := D
        exact ⟨d, z, .int i, e1, ry, ⟨es, n, _, KD.at_, KD.lit, h1, ⟨t, rfl⟩⟩, PostE.here (d := .int i) R rfl P⟩
      · exact P.elim
    · exact P.elim
  · exact P.elim
theorem se_ixG {a b : Expr} {ma mb : E} {g : Str} {d : Addr} {kvs : List (Str × Int)} (hX : X.K = C.K) (D : ∃ es n, KDict C.K X.w d es n) (cn : C.cn g = some d) (hk : kdB C.K d kvs = true) (ha : SE X C W a ma) (hb : SE X C W b mb) (hs : PlainIx b) : SE X C W (.Subscript a b pos) (eBin (dIxG g kvs) ma mb) :=
  se_of (pe_ix ix_kdict ha.pe hb.pe hs) fun _ _ _ h => by rw [hX]; exact bin_run (od_ixG D cn hk) h
end
/-! ## the head, with such dicts -/
abbrev AlV : Type := AlW × List (Option (List (Option (Str × Int))))
abbrev Tabs : Type := List ((PySem.W.Frag → Addr) × List Str)
def obsV (n : Nat) (fn : List DefZ) (tf : List (PySem.W.Frag → Addr)) (ex : PySem.W.Frag → Bool) (ts : Tabs) (g : Addr → Option Obj) : AlV := (obsW n fn tf ex g, ts.map fun t => He.dicW (He.frT g (asW g n)) (t.1 (He.frT g (asW g n))))
def valV' (fn : List DefZ) (ts : Tabs) (w : World) : AlV := (valW fn, ts.map fun t => some (He.keysIn w.params t.2))
structure SaysV (fn : List DefZ) (tf : List (PySem.W.Frag → Addr)) (ex : PySem.W.Frag → Bool) (ts : Tabs) (w : World) (h : Heap) (K : PySem.W.Frag) : Prop where
  s : SaysW fn tf ex h K
  d : ts.map (fun t => He.dicW K (t.1 K)) = ts.map fun t => some (He.keysIn w.params t.2)
def hookV (n : Nat) (fn : List DefZ) (tf : List (PySem.W.Frag → Addr)) (ex : PySem.W.Frag → Bool) (ts : Tabs) : PySem.W.Hook where
  α := AlV
  obs := fun s => obsV n fn tf ex ts s.heap.get?
  val := fun w => valV' fn ts w
  says := fun w h => ∃ K : PySem.W.Frag, K.In h ∧ SaysV fn tf ex ts w h K
  of := fun _ _ e => ⟨_, He.frT_in, ⟨saysW_of (congrArg (fun z : AlV => z.1) e), congrArg (fun z : AlV => z.2) e⟩⟩
  keeps := fun _ _ _ ⟨K, hK, ⟨c, d⟩⟩ k => ⟨K, PySem.W.Frag.In.keeps hK k, ⟨⟨c.fns, c.oks, c.more, c.hd, c.out, fun p hp => k _ _ (c.empty p hp)⟩, d⟩⟩
theorem obsV_eq {n : Nat} {fn : List DefZ} {tf : List (PySem.W.Frag → Addr)} {ex : PySem.W.Frag → Bool} {ts : Tabs} {g : Addr → Option Obj} {s : Shared} (h : ∀ a, g a = s.heap.get? a) : obsV n fn tf ex ts g = (hookV n fn tf ex ts).obs s := by
  have e : g = s.heap.get? := funext h
  rw [e] <;> rfl
structure TxtD (fn : List DefZ) (fa : List He.Fa) (own : List (PySem.W.Frag → Bool)) (tf : List (PySem.W.Frag → Addr)) (ts : Tabs) (w : World) (K : PySem.W.Frag) (mg : Str → Option Value) (base : Heap) : Prop extends Txt fn fa own tf K mg base where
  dic : ∀ t ∈ ts, ∃ es n, KDict K w (t.1 K) es n
theorem TxtD.di {fn : List DefZ} {fa : List He.Fa} {own : List (PySem.W.Frag → Bool)} {tf : List (PySem.W.Frag → Addr)} {ts : Tabs} {w : World} {K : PySem.W.Frag} {mg : Str → Option Value} {base : Heap} (T : TxtD fn fa own tf ts w K mg base) (i : Nat) {t : (PySem.W.Frag → Addr) × List Str} (e : ts[i]? = some t) : ∃ es n, KDict K w (t.1 K) es n := T.dic t (List.mem_of_getElem? e)
theorem SaysV.dic {fn : List DefZ} {tf : List (PySem.W.Frag → Addr)} {ex : PySem.W.Frag → Bool} {ts : Tabs} {w : World} {h : Heap} {K : PySem.W.Frag} (c : SaysV fn tf ex ts w h K) : ∀ t ∈ ts, ∃ es n, KDict K w (t.1 K) es n := fun t ht => by
  obtain ⟨i, hi⟩ := List.getElem?_of_mem ht
  have e2 : (ts.map fun t => He.dicW K (t.1 K))[i]? = (ts.map fun t => some (He.keysIn w.params t.2))[i]? := by rw [c.d]
  rw [List.getElem?_map, List.getElem?_map, hi] at e2
  exact He.dicW_ok (Option.some.inj e2)
end WL
set_option Elab.async false
set_option linter.all false
set_option maxRecDepth 100000
namespace WL
open PySem PySem.Spec L2 PyProof.Rows
open PySem.W (Frag)
theorem txt_ofV {fn : List DefZ} {fa : List He.Fa} {own : List (Frag → Bool)} {tf : List (Frag → Addr)} {ts : Tabs} {w : World} {K : Frag} {h base : Heap} {mg : Str → Option Value} (c : SaysV fn tf (fun K => (fa.all fun f => f.ok K) && own.all fun b => b K) ts w h K) (X : K.In base) (G : base.Ns mainGlobals mg) (tb : ∀ p ∈ tf, LamX.TabB base mg (cTA K p).1 (cTA K p).2) : TxtD fn fa own tf ts w K mg base :=
  ⟨txt_of c.s X G tb, c.dic⟩
theorem law_atV {l : PySem.W.OpenLaw} {fn : List DefZ} {fa : List He.Fa} {own : List (Frag → Bool)} {tf : List (Frag → Addr)} {ts : Tabs} {C : Frag → Ctx} {n k : Nat} {x : Str} {m : List D → M D} {w : World} {K : Frag} {h : Heap} {mg : Str → Option Value} {f : Addr}
    (KX : K.In h) (c : SaysV fn tf (fun K => (fa.all fun f => f.ok K) && own.all fun b => b K) ts w h K)
    (B : ∀ K, Grd (C K)) (hK : ∀ K, (C K).K = K) (hC : ∀ K, (C K).T.map (·.1) = tf.map fun p => (cTA K p).2)
    (hb : ∀ (s : Shared) (u : Value), BindsTo s (fdOf K f) ⟨[u], []⟩ [(x, u)])
    (hF : ∀ base, TxtD fn fa own tf ts w K mg base → FnOk l.prog w K mg base (L2.CX l.prog w) k f (fdOf K f) [x] (spM (C K) 1 m))
    (hlaw : ∀ ns : List Int, ns.length ≤ n → ∃ S, m [.scr ns] [] = .ok (.bl true) S) : LamX.LawAtS l w K (L2.CX l.prog w) k n x mg f h := by
  refine ⟨fdOf K f, tf.map fun p => cTA K p, spM (C K) 1 m, ?_, ?_, ?_, hb, fun H a ns hl _ hH hS => ?_, fun base X G tb => ?_⟩
  · intro p hp
    obtain ⟨q, hq, rfl⟩ := List.mem_map.mp hp
    exact c.s.empty q hq
  · intro p hp
    obtain ⟨q, hq, rfl⟩ := List.mem_map.mp hp
    exact c.s.out q hq
  · intro p hp
    obtain ⟨q, hq, rfl⟩ := List.mem_map.mp hp
    exact PySem.W.codeHd_of_K KX (c.s.hd q hq)
  · refine law_start (B K) (fun p hp => ?_) (by rw [hK]; exact hS) (hlaw ns hl)
    have z : p.1 ∈ (C K).T.map (·.1) := List.mem_map.mpr ⟨p, hp, rfl⟩
    rw [hC] at z
    obtain ⟨q, hq, e⟩ := List.mem_map.mp z
    rw [← e]
    exact hH _ (List.mem_map.mpr ⟨q, hq, rfl⟩)
  · exact hF base (txt_ofV c X G fun p hp => tb _ (List.mem_map.mpr ⟨p, hp, rfl⟩))
end WL
set_option Elab.async false
set_option linter.all false
set_option maxRecDepth 100000
set_option maxHeartbeats 0
namespace WL
open PySem PySem.Spec L2 PyProof.Rows
/-! ## plain lemmas about the combinators -/
theorem forGo_inv {it : ItM} {tm : TgM} {mb : SS} {n : Nat} (P : Nat → Env → Store → Prop)
    (step : ∀ i env S, i < n → P i env S → ∃ d env1, it i S = some (some d) ∧ tm d env = some env1 ∧ ∃ env2 S2, mb env1 S = .next env2 S2 ∧ P (i + 1) env2 S2)
    (stop : ∀ env S, P n env S → it n S = some none) : ∀ (fuel i : Nat) (env : Env) (S : Store), i ≤ n → n < fuel + i → P i env S → ∃ env' S', forGo it tm mb fuel i env S = .next env' S' ∧ P n env' S'
  | 0, i, env, S, h1, h2, _ => by omega
  | fuel + 1, i, env, S, h1, h2, p => by
    by_cases hi : i = n
    · subst hi
      exact ⟨env, S, by simp only [forGo, stop env S p], p⟩
    · obtain ⟨d, env1, e1, e2, env2, S2, e3, p2⟩ := step i env S (by omega) p
      obtain ⟨env', S', e4, p3⟩ := forGo_inv P step stop fuel (i + 1) env2 S2 (by omega) (by omega) p2
      exact ⟨env', S', by simp only [forGo, e1, e2, e3]; exact e4, p3⟩
theorem lcGo_inv {it : ItM} {tm : TgM} {tt : ET} {te : E} {env0 : Env} {n : Nat} (P : Nat → List D → Store → Prop)
    (step : ∀ i acc S, i < n → P i acc S → ∃ d env1, it i S = some (some d) ∧ tm d env0 = some env1 ∧ ((∃ S1 y S2, tt env1 S = .ok true S1 ∧ te env1 S1 = .ok y S2 ∧ acc.length < big ∧ P (i + 1) (acc ++ [y]) S2) ∨ ∃ S1, tt env1 S = .ok false S1 ∧ P (i + 1) acc S1))
    (stop : ∀ acc S, P n acc S → it n S = some none) : ∀ (fuel i : Nat) (acc : List D) (S : Store), i ≤ n → n < fuel + i → P i acc S → ∃ acc' S', lcGo it tm tt te env0 fuel i acc S = .ok acc' S' ∧ P n acc' S'
  | 0, i, acc, S, h1, h2, _ => by omega
  | fuel + 1, i, acc, S, h1, h2, p => by
    by_cases hi : i = n
    · subst hi
      exact ⟨acc, S, by simp only [lcGo, stop acc S p], p⟩
    · obtain ⟨d, env1, e1, e2, h⟩ := step i acc S (by omega) p
      rcases h with ⟨S1, y, S2, e3, e4, e5, p2⟩ | ⟨S1, e3, p2⟩
      · obtain ⟨acc', S', e6, p3⟩ := lcGo_inv P step stop fuel (i + 1) _ S2 (by omega) (by omega) p2
        exact ⟨acc', S', by simp only [lcGo, e1, e2, e3, e4, if_pos e5]; exact e6, p3⟩
      · obtain ⟨acc', S', e6, p3⟩ := lcGo_inv P step stop fuel (i + 1) _ S1 (by omega) (by omega) p2
        exact ⟨acc', S', by simp only [lcGo, e1, e2, e3]; exact e6, p3⟩
theorem sealR_ok {n : Nat} {on : List Str} {d : D} {S : Store} (h : S.length ≤ n) : sealR n on (.ok d S) = .ok d S := if_pos h
theorem sealR_exc {n : Nat} {on : List Str} {e : Exn} {S : Store} (h : S.length ≤ n) : sealR n on (.exc e S) = .exc e S := if_pos h
theorem sealR_cut {n : Nat} {on : List Str} {d : D} {S : Store} (h1 : cleanS n S = true) (h2 : clean n d = true) : sealR n on (.ok d S) = .ok d (S.take n) := by
  show (if S.length ≤ n then Res.ok d S else sealD n on d S) = _
  by_cases h : S.length ≤ n
  · rw [if_pos h, List.take_of_length_le h]
  · rw [if_neg h]; unfold sealD; rw [if_pos h1, if_pos h2]
@[simp] theorem x_eC {d : D} {env : Env} {S : Store} : eC d env S = Res.ok d S := rfl
@[simp] theorem x_eV {i : Nat} {env : Env} {S : Store} : eV i env S = (match env[i]? with
  | some (.d x) => .ok x S
  | _ => .stuck) := rfl
@[simp] theorem x_eUn {op : D → M D} {a : E} {env : Env} {S : Store} : eUn op a env S = (a env S).bind fun x S => op x S := rfl
@[simp] theorem x_eBin {op : D → D → M D} {a b : E} {env : Env} {S : Store} : eBin op a b env S = (a env S).bind fun x S => (b env S).bind fun y S => op x y S := rfl
@[simp] theorem x_eNil {env : Env} {S : Store} : eNil env S = Res.ok [] S := rfl
@[simp] theorem x_eCons {a : E} {l : EL} {env : Env} {S : Store} : eCons a l env S = (a env S).bind fun x S => (l env S).bind fun xs S => .ok (x :: xs) S := rfl
@[simp] theorem x_eOfL {op : List D → M D} {l : EL} {env : Env} {S : Store} : eOfL op l env S = (l env S).bind fun xs S => op xs S := rfl
@[simp] theorem x_tOf {op : D → M Bool} {a : E} {env : Env} {S : Store} : tOf op a env S = (a env S).bind fun x S => op x S := rfl
@[simp] theorem x_isB {b : Bool} {S : Store} : isB (.bl b) S = Res.ok b S := rfl
@[simp] theorem x_eIf {t : ET} {a b : E} {env : Env} {S : Store} : eIf t a b env S = (t env S).bind fun c S => if c = true then a env S else b env S := rfl
@[simp] theorem x_tAndM {a b : ET} {env : Env} {S : Store} : tAndM a b env S = (a env S).bind fun x S => if x = true then b env S else .ok false S := rfl
@[simp] theorem x_tOrM {a b : ET} {env : Env} {S : Store} : tOrM a b env S = (a env S).bind fun x S => if x = true then .ok true S else b env S := rfl
@[simp] theorem x_tNotM {a : ET} {env : Env} {S : Store} : tNotM a env S = (a env S).bind fun x S => .ok (!x) S := rfl
@[simp] theorem x_sNil {env : Env} {S : Store} : sNil env S = ResS.next env S := rfl
@[simp] theorem x_sSet {i : Nat} {e : E} {env : Env} {S : Store} : sSet i e env S = ResS.bindE (e env S) env fun d S => .next (env.set i (.d d)) S := rfl
@[simp] theorem x_sExpr {e : E} {env : Env} {S : Store} : sExpr e env S = ResS.bindE (e env S) env fun _ S => .next env S := rfl
@[simp] theorem x_sRet {e : E} {env : Env} {S : Store} : sRet e env S = ResS.bindE (e env S) env fun d S => .ret d S := rfl
@[simp] theorem x_sIf {t : ET} {a b : SS} {env : Env} {S : Store} : sIf t a b env S = ResS.bindE (t env S) env fun c S => if c = true then a env S else b env S := rfl
@[simp] theorem x_sAsg {e : E} {t : TgM} {env : Env} {S : Store} : sAsg e t env S = ResS.bindE (e env S) env fun d S => match t d env with
  | some env => .next env S
  | none => .stuck := rfl
@[simp] theorem x_bind_ok {β γ : Type} {x : β} {S : Store} {k : β → Store → Res γ} : (Res.ok x S).bind k = k x S := rfl
@[simp] theorem x_bind_exc {β γ : Type} {x : Exn} {S : Store} {k : β → Store → Res γ} : (Res.exc x S : Res β).bind k = Res.exc x S := rfl
@[simp] theorem x_bindE_ok {β : Type} {x : β} {S : Store} {env : Env} {k : β → Store → ResS} : ResS.bindE (Res.ok x S) env k = k x S := rfl
@[simp] theorem x_bindE_exc {β : Type} {x : Exn} {S : Store} {env : Env} {k : β → Store → ResS} : ResS.bindE (Res.exc x S : Res β) env k = ResS.exc x env S := rfl
@[simp] theorem x_dSub {i j : Int} {S : Store} : dSub (.int i) (.int j) S = Res.ok (.int (i - j)) S := rfl
@[simp] theorem x_dAdd {i j : Int} {S : Store} : dAdd (.int i) (.int j) S = Res.ok (.int (i + j)) S := rfl
@[simp] theorem x_dNeg {i : Int} {S : Store} : dNeg (.int i) S = Res.ok (.int (-i)) S := rfl
@[simp] theorem x_dMod {i j : Int} {S : Store} : dMod (.int i) (.int j) S = (if 0 < j then Res.ok (.int (i % j)) S else .stuck) := rfl
@[simp] theorem x_dFdiv {i j : Int} {S : Store} : dFdiv (.int i) (.int j) S = (if 0 < j ∧ j < 1073741824 then Res.ok (.int (i / j)) S else .stuck) := rfl
@[simp] theorem x_dRel {g : Int → Int → Bool} {i j : Int} {S : Store} : dRel g (.int i) (.int j) S = Res.ok (.bl (g i j)) S := rfl
@[simp] theorem x_ret_next {env : Env} {S : Store} : retOf (.next env S) = Res.ok .non S := rfl
@[simp] theorem x_ret_ret {d : D} {S : Store} : retOf (.ret d S) = Res.ok d S := rfl
@[simp] theorem x_ret_exc {e : Exn} {env : Env} {S : Store} : retOf (.exc e env S) = Res.exc e S := rfl
@[simp] theorem x_sSeq {a b : SS} {env : Env} {S : Store} : sSeq a b env S = (match a env S with
  | .next env S => b env S
  | r => r) := rfl
@[simp] theorem x_eAnd {a b : E} {env : Env} {S : Store} : eAnd a b env S = ((a env S).bind fun x S => match x with
  | .bl true => b env S
  | .bl false => .ok (.bl false) S
  | _ => .stuck) := rfl
@[simp] theorem x_eOr {a b : E} {env : Env} {S : Store} : eOr a b env S = ((a env S).bind fun x S => match x with
  | .bl true => .ok (.bl true) S
  | .bl false => b env S
  | _ => .stuck) := rfl
@[simp] theorem x_eNot {a : E} {env : Env} {S : Store} : eNot a env S = ((a env S).bind fun x S => match x with
  | .bl b => .ok (.bl (!b)) S
  | _ => .stuck) := rfl
@[simp] theorem x_eChain {op op' : D → D → M D} {a b c : E} {env : Env} {S : Store} : eChain op op' a b c env S = ((a env S).bind fun x S => (b env S).bind fun y S => (op x y S).bind fun z S => match z with
  | .bl true => (c env S).bind fun w S => op' y w S
  | .bl false => .ok (.bl false) S
  | _ => .stuck) := rfl
@[simp] theorem x_eCall {np : Nat} {m : List D → M D} {dds : List D} {ml : EL} {env : Env} {S : Store} : eCall np m dds ml env S = ((ml env S).bind fun ds S => if (ds ++ dds).length = np then m (ds ++ dds) S else .stuck) := rfl
@[simp] theorem x_eCallK {np n nk : Nat} {m : List D → M D} {g : List D → List D → List D} {ml mk : EL} {env : Env} {S : Store} : eCallK np n nk m g ml mk env S = ((ml env S).bind fun ds S => (mk env S).bind fun es S => if ds.length = n ∧ es.length = nk ∧ (g ds es).length = np then m (g ds es) S else .stuck) := rfl
@[simp] theorem x_dTup {ds : List D} {S : Store} (h : ds.length ≤ big) : dTup ds S = .ok (.tup ds) S := if_pos h
@[simp] theorem x_dLst {ds : List D} {S : Store} (h : ds.length ≤ big) : dLst ds S = .ok (.lst ds) S := if_pos h
@[simp] theorem x_env0 {n : Nat} {ds : List D} : env0 n ds = ds.map .d ++ List.replicate (n - ds.length) .un := rfl
@[simp] theorem x_sealR {n : Nat} {on : List Str} {d : D} {S : Store} (h : S.length ≤ n) : sealR n on (.ok d S) = .ok d S := if_pos h
@[simp] theorem x_sealX {n : Nat} {on : List Str} {d : Exn} {S : Store} (h : S.length ≤ n) : sealR n on (.exc d S) = .exc d S := if_pos h
@[simp] theorem x_mkFn {on : List Str} {np nN : Nat} {mb : SS} {ds : List D} {S : Store} (h : ds.length = np) : mkFn on np nN mb ds S = sealR S.length on (retOf (mb (env0 nN ds) S)) := if_pos h
@[simp] theorem x_gT {ts : List TgM} {xs : List D} {env : Env} : gT ts (.tup xs) env = gL ts xs env := rfl
@[simp] theorem x_gL {t : TgM} {ts : List TgM} {d : D} {ds : List D} {env : Env} : gL (t :: ts) (d :: ds) env = (t d env).bind fun env => gL ts ds env := rfl
@[simp] theorem x_gL0 {env : Env} : gL [] [] env = some env := rfl
@[simp] theorem x_gN {i : Nat} {d : D} {env : Env} : gN i d env = some (env.set i (.d d)) := rfl
theorem forGo_some {it : ItM} {tm : TgM} {mb : SS} {n i : Nat} {env env1 : Env} {S : Store} {d : D} (h : it i S = some (some d)) (e : tm d env = some env1) : forGo it tm mb (n + 1) i env S = (match mb env1 S with
    | .next e S => forGo it tm mb n (i + 1) e S
    | .cont e S => forGo it tm mb n (i + 1) e S
    | .brk e S => .next e S
    | .ret d S => .ret d S
    | .exc x e S => .exc x e S
    | .stuck => .stuck) := by simp only [forGo, h, e]; first | done | (cases mb env1 S <;> rfl)
theorem forGo_end {it : ItM} {tm : TgM} {mb : SS} {n i : Nat} {env : Env} {S : Store} (h : it i S = some none) : forGo it tm mb (n + 1) i env S = .next env S := by simp only [forGo, h]
theorem itL_get {xs : List D} {i : Nat} {S : Store} (h : i < xs.length) : itL xs i S = some (some xs[i]) := by simp [itL, h]
theorem itL_end {xs : List D} {i : Nat} {S : Store} (h : i = xs.length) : itL xs i S = some none := by simp [itL, h]
theorem itE_get {xs : List D} {i : Nat} {S : Store} (h : i < xs.length) : itE (itL xs) i S = some (some (.tup [.int i, xs[i]])) := by simp [itE, itL, h]
theorem itE_end {xs : List D} {i : Nat} {S : Store} (h : i = xs.length) : itE (itL xs) i S = some none := by simp [itE, itL, h]
@[simp] theorem x_eCallF {i n : Nat} {op : List D → M D} {ml : EL} {env : Env} {S : Store} : eCallF i n op ml env S = (match env[i]? with
  | some (.f _) => (ml env S).bind fun ds S => if ds.length = n then op ds S else .stuck
  | _ => .stuck) := rfl
@[simp] theorem x_sFor {mi : EI} {tm : TgM} {mb : SS} {env : Env} {S : Store} : sFor mi tm mb env S = ResS.bindE (mi env S) env fun p S => forGo p.1 tm mb p.2 0 env S := rfl
@[simp] theorem x_iSeq {ma : E} {env : Env} {S : Store} : iSeq ma env S = (ma env S).bind fun d S => match seqIt S d with
  | some k => .ok k.pr S
  | none => .stuck := rfl
@[simp] theorem x_iEnu {ma : E} {env : Env} {S : Store} : iEnu ma env S = (ma env S).bind fun d S => match seqIt S d with
  | some k => .ok (itE k.pr.1, k.pr.2) S
  | none => .stuck := rfl
@[simp] theorem x_mkFnF {on : List Str} {np nN : Nat} {mb : (List D → M D) → SS} {op : List D → M D} {ds : List D} {S : Store} (h : ds.length + 1 = np) : mkFnF on np nN mb op ds S = sealR S.length on (retOf (mb op (env0F nN ds) S)) := if_pos h
@[simp] theorem x_env0F {n : Nat} {ds : List D} : env0F n ds = ds.map .d ++ .f 0 :: List.replicate (n - ds.length - 1) .un := rfl
theorem lcGo_pure {tm : TgM} {tt : ET} {te : E} {env0 : Env} {xs : List D} {S : Store} {en : D → Env} {b : D → Bool} {f : D → D} (htm : ∀ x ∈ xs, tm x env0 = some (en x)) (htt : ∀ x ∈ xs, tt (en x) S = .ok (b x) S) (hte : ∀ x ∈ xs, b x = true → te (en x) S = .ok (f x) S) :
    ∀ (k i : Nat) (acc : List D), i + k = xs.length → acc.length + k ≤ big → lcGo (itL xs) tm tt te env0 (k + 1) i acc S = .ok (acc ++ ((xs.drop i).filter b).map f) S
  | 0, i, acc, h, _ => by
    obtain rfl : i = xs.length := by omega
    simp [lcGo, itL]
  | k + 1, i, acc, h, hb => by
    have hi : i < xs.length := by omega
    have e1 : xs.drop i = xs[i] :: xs.drop (i + 1) := List.drop_eq_getElem_cons hi
    have hm := List.getElem_mem hi
    have e2 := htm _ hm
    have e3 := htt _ hm
    rw [e1]
    cases hp : b xs[i] with
    | true =>
      rw [hp] at e3
      have e4 := hte _ hm hp
      have ih := lcGo_pure htm htt hte k (i + 1) (acc ++ [f xs[i]]) (by omega) (by simp; omega)
      rw [List.filter_cons, if_pos hp, List.map_cons, ← List.singleton_append (l := List.map f _), ← List.append_assoc, ← ih]
      rw [lcGo, itL_get hi]
      simp only [e2, e3, e4]
      rw [if_pos (by omega)]
    | false =>
      rw [hp] at e3
      have ih := lcGo_pure htm htt hte k (i + 1) acc (by omega) (by omega)
      rw [List.filter_cons, if_neg (by rw [hp]; decide), ← ih]
      rw [lcGo, itL_get hi]
      simp only [e2, e3]
@[simp] theorem x_eLc {mi : EI} {tm : TgM} {tt : ET} {te : E} {vs : List Nat} {env : Env} {S : Store} : eLc mi tm tt te vs env S = (mi env S).bind fun p S => (lcGo p.1 tm tt te (wipeE env vs) p.2 0 [] S).only fun acc S => .ok (.lst acc) S := rfl
@[simp] theorem x_only {β γ : Type} {x : β} {S : Store} {k : β → Store → Res γ} : (Res.ok x S).only k = k x S := rfl
@[simp] theorem x_wipe0 {env : Env} : wipeE env [] = env := rfl
@[simp] theorem x_wipe {env : Env} {v : Nat} {vs : List Nat} : wipeE env (v :: vs) = (wipeE env vs).set v .un := rfl
theorem lcGo_all {tm : TgM} {te : E} {env0 : Env} {xs : List D} {S : Store} {en : D → Env} {f : D → D} (htm : ∀ x ∈ xs, tm x env0 = some (en x)) (hte : ∀ x ∈ xs, te (en x) S = .ok (f x) S) (hl : xs.length ≤ big) : lcGo (itL xs) tm tYesM te env0 (xs.length + 1) 0 [] S = .ok (xs.map f) S := by
  rw [lcGo_pure (b := fun _ => true) htm (fun _ _ => rfl) (fun x hx _ => hte x hx) xs.length 0 [] (by omega) (by simpa using hl)]
  have e : xs.filter (fun _ => true) = xs := List.filter_eq_self.mpr fun _ _ => rfl
  simp [e]
theorem lcGo_flt {tm : TgM} {tt : ET} {te : E} {env0 : Env} {xs : List D} {S : Store} {en : D → Env} {b : D → Bool} {f : D → D} (htm : ∀ x ∈ xs, tm x env0 = some (en x)) (htt : ∀ x ∈ xs, tt (en x) S = .ok (b x) S) (hte : ∀ x ∈ xs, b x = true → te (en x) S = .ok (f x) S) (hl : xs.length ≤ big) :
    lcGo (itL xs) tm tt te env0 (xs.length + 1) 0 [] S = .ok ((xs.filter b).map f) S := by
  rw [lcGo_pure htm htt hte xs.length 0 [] (by omega) (by simpa using hl)]
  simp
@[simp] theorem x_eCallL {m : (List D → M D) → List D → M D} {np : Nat} {ml : EL} {mo : Env → Option (List D → M D)} {env : Env} {S : Store} : eCallL m np ml mo env S = (match mo env with
  | some op => (ml env S).bind fun ds S => if ds.length + 1 = np then m op ds S else .stuck
  | none => .stuck) := rfl
@[simp] theorem x_opLam {np : Nat} {mb : E} {caps : Env} {ds : List D} {S : Store} (h : ds.length = np) : opLam np mb caps ds S = mb (ds.map .d ++ caps) S := if_pos h
@[simp] theorem x_sRaise {c fld : Str} {e : E} {env : Env} {S : Store} : sRaise c fld e env S = ResS.bindE (e env S) env fun d S => .exc ⟨c, [(fld, d)]⟩ env S := rfl
@[simp] theorem x_isNot {x : D} {S : Store} : dIsNot x .non S = .ok (.bl (!isNonD x)) S := rfl
@[simp] theorem x_is {x : D} {S : Store} : dIs x .non S = .ok (.bl (isNonD x)) S := rfl
@[simp] theorem x_isNon_int {i : Int} : isNonD (.int i) = false := rfl
@[simp] theorem x_isNon_non : isNonD .non = true := rfl
@[simp] theorem x_len_l {xs : List D} {S : Store} : bLen [.lst xs] S = .ok (.int xs.length) S := rfl
@[simp] theorem x_len_t {xs : List D} {S : Store} : bLen [.tup xs] S = .ok (.int xs.length) S := rfl
@[simp] theorem x_len_s {ns : List Int} {S : Store} : bLen [.scr ns] S = .ok (.int ns.length) S := rfl
theorem ixN_ok {n : Nat} {i : Nat} (h : i < n) : ixN n (i : Int) = some i := by
  unfold ixN; simp; omega
theorem x_ix_l {xs : List D} {i : Nat} {S : Store} (h : i < xs.length) : dIdx (.lst xs) (.int i) S = .ok xs[i] S := by simp [dIdx, listOf, ixN_ok h, h, orStuck]
theorem x_ix_t {xs : List D} {i : Nat} {S : Store} (h : i < xs.length) : dIdx (.tup xs) (.int i) S = .ok xs[i] S := by simp [dIdx, listOf, ixN_ok h, h, orStuck]
/-! ### == -/
theorem shp_int (i : Int) : SeqAt.shaped (.int i) = true := rfl
theorem lay_ints : ∀ ns : List Int, PyData.canLayAll0 (ns.map .int) = true ∧ PyData.depthAll (ns.map .int) ≤ 1
  | [] => ⟨rfl, Nat.zero_le _⟩
  | n :: ns => by
    obtain ⟨h1, h2⟩ := lay_ints ns
    refine ⟨?_, ?_⟩
    · show (true && PyData.canLayAll0 (ns.map .int)) = true
      rw [h1]; rfl
    · show max _ (PyData.depthAll (ns.map .int)) ≤ 1
      exact Nat.max_le.mpr ⟨by first | exact Nat.zero_le _ | exact Nat.le_refl 1, h2⟩
theorem shp_lst (ns : List Int) : SeqAt.shaped (.list (ns.map .int)) = true := by
  obtain ⟨h1, h2⟩ := lay_ints ns
  show (PyData.canLayAll0 (ns.map .int) && decide (PyData.depthAll (ns.map .int) + 1 ≤ 64)) = true
  rw [h1]; simp; omega
theorem shp_tup (ns : List Int) : SeqAt.shaped (.tuple (ns.map .int)) = true := by
  obtain ⟨h1, h2⟩ := lay_ints ns
  show (PyData.canLayAll0 (ns.map .int) && decide (PyData.depthAll (ns.map .int) + 1 ≤ 64)) = true
  rw [h1]; simp; omega
theorem eqv_ints : ∀ a b : List Int, PyData.eqvAll (a.map .int) (b.map .int) = decide (a = b)
  | [], [] => rfl
  | [], _ :: _ => by simp [PyData.eqvAll]
  | _ :: _, [] => by simp [PyData.eqvAll]
  | x :: a, y :: b => by
    show (x == y && PyData.eqvAll (a.map .int) (b.map .int)) = _
    rw [eqv_ints a b]
    by_cases h : x = y <;> by_cases h2 : a = b <;> simp [h, h2]
theorem toPyL_ints (S : Store) : ∀ ns : List Int, toPyL S (ns.map .int) = some (ns.map .int)
  | [] => rfl
  | n :: ns => by simp [toPyL, toPy, toPyL_ints S ns]
theorem eqInt {i j : Int} {S : Store} : dEq (.int i) (.int j) S = .ok (.bl (decide (i = j))) S := by
  show (if SeqAt.shaped (.int i) = true ∧ SeqAt.shaped (.int j) = true then Res.ok (D.bl (i == j)) S else .stuck) = _
  rw [if_pos ⟨shp_int i, shp_int j⟩]
  rfl
theorem neInt {i j : Int} {S : Store} : dNe (.int i) (.int j) S = .ok (.bl (!decide (i = j))) S := by
  show (if SeqAt.shaped (.int i) = true ∧ SeqAt.shaped (.int j) = true then Res.ok (D.bl (!(i == j))) S else .stuck) = _
  rw [if_pos ⟨shp_int i, shp_int j⟩]
  rfl
theorem eqPy {x y : D} {S : Store} {p q : PyData} (h1 : toPyR S x = some p) (h2 : toPyR S y = some q) (s1 : SeqAt.shaped p = true) (s2 : SeqAt.shaped q = true) : dEq x y S = .ok (.bl (PyData.eqv p q)) S := by
  simp only [dEqB, h1, h2]
  rw [if_pos ⟨s1, s2⟩]; rfl
theorem nePy {x y : D} {S : Store} {p q : PyData} (h1 : toPyR S x = some p) (h2 : toPyR S y = some q) (s1 : SeqAt.shaped p = true) (s2 : SeqAt.shaped q = true) : dNe x y S = .ok (.bl (!PyData.eqv p q)) S := by
  simp only [dEqB, h1, h2]
  rw [if_pos ⟨s1, s2⟩]; rfl
theorem neLL {a b : List Int} {S : Store} : dNe (.lst (a.map .int)) (.lst (b.map .int)) S = .ok (.bl (!decide (a = b))) S := by
  rw [nePy (p := .list (a.map .int)) (q := .list (b.map .int)) (by show (toPyL S _).map _ = _; rw [toPyL_ints]; rfl) (by show (toPyL S _).map _ = _; rw [toPyL_ints]; rfl) (shp_lst a) (shp_lst b)]
  show Res.ok (D.bl (!PyData.eqvAll _ _)) S = _
  rw [eqv_ints]
theorem eqTT {a b : List Int} {S : Store} : dEq (.tup (a.map .int)) (.tup (b.map .int)) S = .ok (.bl (decide (a = b))) S := by
  rw [eqPy (p := .tuple (a.map .int)) (q := .tuple (b.map .int)) (by show (toPyL S _).map _ = _; rw [toPyL_ints]; rfl) (by show (toPyL S _).map _ = _; rw [toPyL_ints]; rfl) (shp_tup a) (shp_tup b)]
  show Res.ok (D.bl (PyData.eqvAll _ _)) S = _
  rw [eqv_ints]
theorem neLR {a b : List Int} {S : Store} {j : Nat} (h : S[j]? = some (some (.lst (b.map .int)))) : dNe (.lst (a.map .int)) (.reg j) S = .ok (.bl (!decide (a = b))) S := by
  rw [nePy (p := .list (a.map .int)) (q := .list (b.map .int)) (by show (toPyL S _).map _ = _; rw [toPyL_ints]; rfl) (by simp only [toPyR, h, toPyL_ints]; rfl) (shp_lst a) (shp_lst b)]
  show Res.ok (D.bl (!PyData.eqvAll _ _)) S = _
  rw [eqv_ints]
theorem neRL {a b : List Int} {S : Store} {j : Nat} (h : S[j]? = some (some (.lst (a.map .int)))) : dNe (.reg j) (.lst (b.map .int)) S = .ok (.bl (!decide (a = b))) S := by
  rw [nePy (p := .list (a.map .int)) (q := .list (b.map .int)) (by simp only [toPyR, h, toPyL_ints]; rfl) (by show (toPyL S _).map _ = _; rw [toPyL_ints]; rfl) (shp_lst a) (shp_lst b)]
  show Res.ok (D.bl (!PyData.eqvAll _ _)) S = _
  rw [eqv_ints]
@[simp] theorem x_sPar {is : List Nat} {l : EL} {env : Env} {S : Store} : sPar is l env S = ResS.bindE (l env S) env fun ds S => if ds.length = is.length then .next ((is.zip ds).foldl (fun env p => env.set p.1 (.d p.2)) env) S else .stuck := rfl
@[simp] theorem x_newL {ds : List D} {S : Store} (h : ds.length ≤ big) : dNewL ds S = .ok (.reg S.length) (S ++ [some (.lst ds)]) := if_pos h
@[simp] theorem x_eMet {chk : Store → D → Bool} {op : D → List D → M D} {a : E} {l : EL} {env : Env} {S : Store} : eMet chk op a l env S = (a env S).bind fun x S => if chk S x = true then (l env S).bind fun ys S => op x ys S else .stuck := rfl
theorem set_last {S : Store} {x y : Option RO} : (S ++ [x]).set S.length y = S ++ [y] := by simp
theorem isLst_reg {S : Store} {j : Nat} {xs : List D} (h : S[j]? = some (some (.lst xs))) : isLst S (.reg j) = true := by simp [isLst, h]
theorem app_reg {S : Store} {j : Nat} {xs : List D} {y : D} (h : S[j]? = some (some (.lst xs))) (hl : xs.length < big) : mAppend (.reg j) [y] S = .ok .non (S.set j (some (.lst (xs ++ [y])))) := by
  simp only [mAppend, h]; rw [if_pos hl]
theorem last_at {S : Store} {x : Option RO} : (S ++ [x])[S.length]? = some x := by simp
theorem clean_ints (n : Nat) : ∀ ns : List Int, cleanL n (ns.map .int) = true
  | [] => rfl
  | _ :: ns => clean_ints n ns
theorem cleanS_app {S : Store} {x : Option RO} : cleanS S.length (S ++ [x]) = cleanS S.length S := by simp [cleanS]
theorem tuple_reg {S : Store} {j : Nat} {xs : List D} (h : S[j]? = some (some (.lst xs))) : bTuple [.reg j] S = .ok (.tup xs) S := by simp [bTuple, listOf, h]
@[simp] theorem tuple_l {S : Store} {xs : List D} : bTuple [.lst xs] S = .ok (.tup xs) S := rfl
@[simp] theorem tuple_t {S : Store} {xs : List D} : bTuple [.tup xs] S = .ok (.tup xs) S := rfl
@[simp] theorem list_l {S : Store} {xs : List D} : bList [.lst xs] S = .ok (.lst xs) S := rfl
@[simp] theorem list_t {S : Store} {xs : List D} : bList [.tup xs] S = .ok (.lst xs) S := rfl
@[simp] theorem x_eCallV {k : Nat} {np : Nat → Nat} {tbl : Nat → List D → M D} {ml : EL} {env : Env} {S : Store} : eCallV k np tbl ml env S = (match env[k]? with
  | some (.d (.fn i)) => (ml env S).bind fun ds S => if ds.length = np i then tbl i ds S else .stuck
  | _ => .stuck) := rfl
/-- lists and tuples: their items -/
inductive Sq : D → List D → Prop
  | l (xs : List D) : Sq (.lst xs) xs
  | t (xs : List D) : Sq (.tup xs) xs
theorem Sq.it {d : D} {xs : List D} {S : Store} (h : Sq d xs) : ∃ k, seqIt S d = some k ∧ k.pr = (itL xs, xs.length + 1) := by
  cases h <;> exact ⟨_, rfl, rfl⟩
end WL
set_option Elab.async false
set_option linter.all false
set_option maxRecDepth 100000
set_option maxHeartbeats 0
namespace K07
open PySem PySem.Spec L2 PyProof.Rows WL
open PySem.W (Frag)
abbrev PP : Program := PySem.Challenge.pw_whyenough_k07_sentences_judged_and_held
def top (i : Nat) : Stmt := PP.main.body.getD i (.Pass ⟨0, 0, 0, 0⟩)
abbrev s__law_begun : Stmt := top 27
abbrev s__law_blend : Stmt := top 28
abbrev s__law_draw : Stmt := top 29
abbrev s__law_pick : Stmt := top 30
abbrev s__law_sentence : Stmt := top 36
abbrev s__law_bent : Stmt := top 39
abbrev s__law_whole : Stmt := top 34
abbrev s__law_from : Stmt := top 35
abbrev s__law_is_sentence : Stmt := top 38
abbrev s__law_says : Stmt := top 33
abbrev s_is_number : Stmt := top 8
abbrev s_is_between : Stmt := top 9
abbrev s_need_many : Stmt := top 21
abbrev s_is_word : Stmt := top 14
abbrev s_is_node : Stmt := top 19
abbrev s_sentence_right : Stmt := top 20
abbrev s_is_sentence : Stmt := top 22
abbrev s__law_caught : Stmt := top 31
abbrev s__law_kind : Stmt := top 32
abbrev s_is_list : Stmt := top 10
abbrev s_first_wrong : Stmt := top 13
abbrev s_need_sentence : Stmt := top 23
abbrev s_holds_by : Stmt := top 24
abbrev s_sentence_holds : Stmt := top 25
abbrev s__law_holds : Stmt := top 37
abbrev s_law : Stmt := top 40
abbrev s_PartError___init__ : Stmt := inClass (top 2) 0
abbrev s_ItemError___init__ : Stmt := inClass (top 3) 0
abbrev kv_PARTS : List (Str × Int) := [("says", 0), ("no", 1), ("both", 2), ("either", 2)]
def z__law_begun : DefZ := ⟨fun K => He.ga K "_law_begun", "_law_begun", "_law_begun", defArgs s__law_begun, defBody s__law_begun, defScope s__law_begun, [], []⟩
def z__law_blend : DefZ := ⟨fun K => He.ga K "_law_blend", "_law_blend", "_law_blend", defArgs s__law_blend, defBody s__law_blend, defScope s__law_blend, [], []⟩
def z__law_draw : DefZ := ⟨fun K => He.ga K "_law_draw", "_law_draw", "_law_draw", defArgs s__law_draw, defBody s__law_draw, defScope s__law_draw, [], []⟩
def z__law_pick : DefZ := ⟨fun K => He.ga K "_law_pick", "_law_pick", "_law_pick", defArgs s__law_pick, defBody s__law_pick, defScope s__law_pick, [], []⟩
def z__law_sentence : DefZ := ⟨fun K => He.ga K "_law_sentence", "_law_sentence", "_law_sentence", defArgs s__law_sentence, defBody s__law_sentence, defScope s__law_sentence, [], []⟩
def z__law_bent : DefZ := ⟨fun K => He.ga K "_law_bent", "_law_bent", "_law_bent", defArgs s__law_bent, defBody s__law_bent, defScope s__law_bent, [], []⟩
def z__law_whole : DefZ := ⟨fun K => He.ga K "_law_whole", "_law_whole", "_law_whole", defArgs s__law_whole, defBody s__law_whole, defScope s__law_whole, [], []⟩
def z__law_from : DefZ := ⟨fun K => He.ga K "_law_from", "_law_from", "_law_from", defArgs s__law_from, defBody s__law_from, defScope s__law_from, [], []⟩
def z__law_is_sentence : DefZ := ⟨fun K => He.ga K "_law_is_sentence", "_law_is_sentence", "_law_is_sentence", defArgs s__law_is_sentence, defBody s__law_is_sentence, defScope s__law_is_sentence, [], []⟩
def z__law_says : DefZ := ⟨fun K => He.ga K "_law_says", "_law_says", "_law_says", defArgs s__law_says, defBody s__law_says, defScope s__law_says, [], []⟩
def z_is_number : DefZ := ⟨fun K => He.ga K "is_number", "is_number", "is_number", defArgs s_is_number, defBody s_is_number, defScope s_is_number, [], []⟩
def z_is_between : DefZ := ⟨fun K => He.ga K "is_between", "is_between", "is_between", defArgs s_is_between, defBody s_is_between, defScope s_is_between, [], []⟩
def z_need_many : DefZ := ⟨fun K => He.ga K "need_many", "need_many", "need_many", defArgs s_need_many, defBody s_need_many, defScope s_need_many, [], []⟩
def z_is_word : DefZ := ⟨fun K => He.ga K "is_word", "is_word", "is_word", defArgs s_is_word, defBody s_is_word, defScope s_is_word, [], []⟩
def z_is_node : DefZ := ⟨fun K => He.ga K "is_node", "is_node", "is_node", defArgs s_is_node, defBody s_is_node, defScope s_is_node, [], []⟩
def z_sentence_right : DefZ := ⟨fun K => He.ga K "sentence_right", "sentence_right", "sentence_right", defArgs s_sentence_right, defBody s_sentence_right, defScope s_sentence_right, [], []⟩
def z_is_sentence : DefZ := ⟨fun K => He.ga K "is_sentence", "is_sentence", "is_sentence", defArgs s_is_sentence, defBody s_is_sentence, defScope s_is_sentence, [], []⟩
def z__law_caught : DefZ := ⟨fun K => He.ga K "_law_caught", "_law_caught", "_law_caught", defArgs s__law_caught, defBody s__law_caught, defScope s__law_caught, [], []⟩
def z__law_kind : DefZ := ⟨fun K => He.ga K "_law_kind", "_law_kind", "_law_kind", defArgs s__law_kind, defBody s__law_kind, defScope s__law_kind, [], []⟩
def z_is_list : DefZ := ⟨fun K => He.ga K "is_list", "is_list", "is_list", defArgs s_is_list, defBody s_is_list, defScope s_is_list, [], []⟩
def z_first_wrong : DefZ := ⟨fun K => He.ga K "first_wrong", "first_wrong", "first_wrong", defArgs s_first_wrong, defBody s_first_wrong, defScope s_first_wrong, [], []⟩
def z_need_sentence : DefZ := ⟨fun K => He.ga K "need_sentence", "need_sentence", "need_sentence", defArgs s_need_sentence, defBody s_need_sentence, defScope s_need_sentence, [], []⟩
def z_holds_by : DefZ := ⟨fun K => He.ga K "holds_by", "holds_by", "holds_by", defArgs s_holds_by, defBody s_holds_by, defScope s_holds_by, [], []⟩
def z_sentence_holds : DefZ := ⟨fun K => He.ga K "sentence_holds", "sentence_holds", "sentence_holds", defArgs s_sentence_holds, defBody s_sentence_holds, defScope s_sentence_holds, [], []⟩
def z__law_holds : DefZ := ⟨fun K => He.ga K "_law_holds", "_law_holds", "_law_holds", defArgs s__law_holds, defBody s__law_holds, defScope s__law_holds, [], []⟩
def z_law : DefZ := ⟨fun K => He.ga K "law", "law", "law", defArgs s_law, defBody s_law, defScope s_law, [], []⟩
def z_PartError___init__ : DefZ := ⟨fun K => He.ma K (He.ga K "PartError") "__init__", "__init__", "PartError.__init__", defArgs s_PartError___init__, defBody s_PartError___init__, defScope s_PartError___init__, ["__class__"], []⟩
def z_ItemError___init__ : DefZ := ⟨fun K => He.ma K (He.ga K "ItemError") "__init__", "__init__", "ItemError.__init__", defArgs s_ItemError___init__, defBody s_ItemError___init__, defScope s_ItemError___init__, ["__class__"], []⟩
def fnL : List DefZ := [z__law_begun, z__law_blend, z__law_draw, z__law_pick, z__law_sentence, z__law_bent, z__law_whole, z__law_from, z__law_is_sentence, z__law_says, z_is_number, z_is_between, z_need_many, z_is_word, z_is_node, z_sentence_right, z_is_sentence, z__law_caught, z__law_kind, z_is_list, z_first_wrong, z_need_sentence, z_holds_by, z_sentence_holds, z__law_holds, z_law, z_PartError___init__, z_ItemError___init__]
abbrev onL : List Str := []
abbrev cnL : List Str := ["WatchError", "PartError", "ItemError", "BadNumber", "BadWords", "BadSentence", "PARTS"]
def tfL : List (Frag → Addr) := [(fun K => He.ga K "law")]
abbrev tT (K : Frag) : List NdefX.NTab := [((cTA K fun K => He.ga K "law").2, fun _ _ => ("law.<locals>.<lambda>" : Str))]
abbrev lfL : List LamK := []
abbrev CL (K : Frag) : WL.Ctx := ⟨K, cnOf K cnL, tT K, onL, fun _ => none, fun i => lfL[i]?, [], fun _ => none, []⟩
def faL : List He.Fa := [.free "abs", .glo "_law_begun", .free "len", .free "min", .free "range", .free "int", .glo "_law_blend", .glo "_law_draw", .glo "_law_sentence", .glo "_law_pick", .free "list", .free "isinstance", .free "tuple", .glo "_law_bent", .free "str", .free "bool", .glo "_law_whole", .glo "_law_from", .glo "_law_is_sentence", .glo "is_number", .int "MOST_WATCHES" 4, .glo "is_between", .free "super", .glo "BadNumber", .glo "need_many", .int "MOST_DEPTH" 6, .glo "PARTS", .int "MOST_WORD" 3, .glo "is_word", .glo "is_node", .glo "sentence_right", .glo "is_sentence", .glo "_law_says", .glo "WatchError", .glo "_law_caught", .glo "BadSentence", .glo "BadWords", .glo "is_list", .free "enumerate", .glo "first_wrong", .glo "need_sentence", .glo "holds_by", .free "all", .free "any", .glo "sentence_holds", .glo "_law_kind", .glo "_law_holds", .glo "law"]
def ownL : List (Frag → Bool) := [fun K => ocB K onL,
  fun K => iniB K (He.ga K "BadNumber") (He.ma K (He.ga K "PartError") "__init__"),
  fun K => supCB K (He.ga K "BadNumber") (He.ga K "PartError") "part",
  fun K => kdB K (He.ga K "PARTS") kv_PARTS,
  fun K => exmB K [("WatchError", true), ("PartError", true), ("ItemError", true), ("BadNumber", true), ("BadWords", true), ("BadSentence", true)] "WatchError",
  fun K => isxB K [("WatchError", false), ("PartError", false), ("ItemError", false), ("BadNumber", false), ("BadWords", false), ("BadSentence", true)] "BadSentence",
  fun K => isxB K [("WatchError", false), ("PartError", false), ("ItemError", false), ("BadNumber", false), ("BadWords", true), ("BadSentence", false)] "BadWords",
  fun K => isxB K [("WatchError", false), ("PartError", false), ("ItemError", false), ("BadNumber", true), ("BadWords", false), ("BadSentence", false)] "BadNumber",
  fun K => xffB K ["ItemError", "BadWords"] "index",
  fun K => xffB K ["PartError", "BadNumber"] "part",
  fun K => iniB K (He.ga K "BadWords") (He.ma K (He.ga K "ItemError") "__init__"),
  fun K => supCB K (He.ga K "BadWords") (He.ga K "ItemError") "index",
  fun K => exc0B K (He.ga K "BadSentence"),
  fun K => supFB K (PP.main.file : Str) (He.ma K (He.ga K "PartError") "__init__") (He.ga K "PartError"),
  fun K => supFB K (PP.main.file : Str) (He.ma K (He.ga K "ItemError") "__init__") (He.ga K "ItemError"),
  fun K => decide ((tT K).map (·.1)).Nodup]
def dcL : Tabs := [(fun K => He.ga K "PARTS", kv_PARTS.map (·.1))]
abbrev Tx (w : World) (K : Frag) (mg : Str → Option Value) (base : Heap) : Prop := TxtD fnL faL ownL tfL dcL w K mg base
section
variable {w : World} {K : Frag} {mg : Str → Option Value} {base : Heap}
theorem nd_ok (T : Tx w K mg base) : ((tT K).map (·.1)).Nodup := of_decide_eq_true (T.ow 15 rfl)
theorem grd : Grd (CL K) := ⟨fun _ => rfl, rfl⟩
theorem over0 : Over (CL K) (CL K) := ⟨grd, [], _, [], rfl⟩
theorem over1 {g : Addr} {F0 : Hp} {A0 : List Addr} : Over ((CL K).wf [g] F0 A0) (CL K) := ⟨grd, [g], F0, A0, rfl⟩
theorem over2 {F0 : Hp} {A0 : List Addr} : Over ((CL K).wf [] F0 A0) (CL K) := ⟨grd, [], F0, A0, rfl⟩
theorem cn_WatchError : (CL K).cn "WatchError" = some (He.ga K "WatchError") := cnOf_in (K := K) (ns := cnL) (x := "WatchError") (by decide)
theorem cn_PartError : (CL K).cn "PartError" = some (He.ga K "PartError") := cnOf_in (K := K) (ns := cnL) (x := "PartError") (by decide)
theorem cn_ItemError : (CL K).cn "ItemError" = some (He.ga K "ItemError") := cnOf_in (K := K) (ns := cnL) (x := "ItemError") (by decide)
theorem cn_BadNumber : (CL K).cn "BadNumber" = some (He.ga K "BadNumber") := cnOf_in (K := K) (ns := cnL) (x := "BadNumber") (by decide)
theorem cn_BadWords : (CL K).cn "BadWords" = some (He.ga K "BadWords") := cnOf_in (K := K) (ns := cnL) (x := "BadWords") (by decide)
theorem cn_BadSentence : (CL K).cn "BadSentence" = some (He.ga K "BadSentence") := cnOf_in (K := K) (ns := cnL) (x := "BadSentence") (by decide)
theorem cn_PARTS : (CL K).cn "PARTS" = some (He.ga K "PARTS") := cnOf_in (K := K) (ns := cnL) (x := "PARTS") (by decide)
theorem sf_PartError___init__ (T : Tx w K mg base) : SupF K PP (He.ma K (He.ga K "PartError") "__init__") (He.ga K "PartError") "part" "part" := supF_of (T.fn_ 26 rfl) (j := _) rfl rfl rfl (T.ow 13 rfl) (fun _ _ _ _ _ _ _ _ _ => rfl) ⟨rfl, rfl, rfl, by decide, rfl, rfl, rfl, rfl⟩ ⟨rfl, rfl, by decide, rfl⟩ (by decide +kernel) (by decide) (fun _ => ⟨_, rfl⟩)
theorem sf_ItemError___init__ (T : Tx w K mg base) : SupF K PP (He.ma K (He.ga K "ItemError") "__init__") (He.ga K "ItemError") "index" "index" := supF_of (T.fn_ 27 rfl) (j := _) rfl rfl rfl (T.ow 14 rfl) (fun _ _ _ _ _ _ _ _ _ => rfl) ⟨rfl, rfl, rfl, by decide, rfl, rfl, rfl, rfl⟩ ⟨rfl, rfl, by decide, rfl⟩ (by decide +kernel) (by decide) (fun _ => ⟨_, rfl⟩)

/-! _law_begun -/
abbrev n__law_begun : List Str := [("script" : Str), ("large" : Str), ("grain" : Str)]
theorem sc__law_begun : FnScope n__law_begun [("script" : Str)] (defScope s__law_begun) := scp_of (by decide +kernel)
theorem f__law_begun (T : Tx w K mg base) : FunD K "_law_begun" "_law_begun" (defArgs s__law_begun) (defBody s__law_begun) (defScope s__law_begun) [] [] (He.ga K "_law_begun") (fdOf K (He.ga K "_law_begun")) := (T.fn_ 0 rfl).d rfl
theorem b__law_begun (T : Tx w K mg base) : Binds K (fdOf K (He.ga K "_law_begun")) [("script" : Str)] [] := (f__law_begun T).bindsN fun _ _ _ _ _ _ us hl => match us, hl with | [_], _ => rfl
def bm__law_begun : SS := sSeq (sSet 1 (eLcR (iSeq (eV 0)) (gN 2) (tOf isB (eBin dGe (eOfL bAbs (eCons (eV 2) (eNil))) (eBin dPow (eC (.int 10)) (eC (.int 18))))) (eBin dSub (eOfL bAbs (eCons (eV 2) (eNil))) (eBin dPow (eC (.int 10)) (eC (.int 18)))) [2])) (sRet (eDictR [(eC (.str "large"), eV 1), (eC (.str "rest"), eC (.int 0)), (eC (.str "cells"), eLc (iSeq (eV 0)) (gN 2) (tYesM) (eOfL bAbs (eCons (eV 2) (eNil))) [2]), (eC (.str "turn"), eC (.int 0))]))
def m__law_begun : List D → M D := mkFnR 1 3 bm__law_begun
theorem ok__law_begun (T : Tx w K mg base) : FnOk PP w K mg base (L2.CX PP w) 2 (He.ga K "_law_begun") (fdOf K (He.ga K "_law_begun")) [("script" : Str)] (spM (CL K) 1 m__law_begun) := by
  refine FunD.mirR (N := n__law_begun) (nN := 3) (mb := bm__law_begun) (f__law_begun T) sc__law_begun rfl fun cdv A outer s H E hcd hr => ?_
  exact (ss_cons (ss_setLcR (own := [("grain", 2)]) (i := 1) rfl sc__law_begun.nd rfl rfl rfl (si_seq rfl (se_var 0 rfl (vis_of rfl) rfl rfl)) (blk_of rfl) (by decide) (fun _ _ _ _ _ => (sg_name sc__law_begun.nd (i := 2) rfl (loc_of rfl) (fnl_of rfl))) (fun _ _ _ _ _ => (sts_one (st_cmp op_ge (od_rel _) (se_callB call_abs ld_abs rfl (T.free 0 rfl) (by decide +kernel) (sa_cons (se_var 2 rfl (vis_of rfl) rfl rfl) sa_nil rfl) (by decide) rfl rfl rfl) (se_bin op_pow od_pow se_int se_int) rfl))) (fun _ _ _ _ _ => (se_bin op_sub od_sub (se_callB call_abs ld_abs rfl (T.free 0 rfl) (by decide +kernel) (sa_cons (se_var 2 rfl (vis_of rfl) rfl rfl) sa_nil rfl) (by decide) rfl rfl rfl) (se_bin op_pow od_pow se_int se_int))) (fun _ => rfl))
    (ss_one (ss_ret (se_dictR (sp_cons se_str (se_var 1 rfl (vis_of rfl) rfl rfl) (sp_cons se_str se_int (sp_cons se_str (se_lc (own := [("grain", 2)]) rfl sc__law_begun.nd (si_seq rfl (se_var 0 rfl (vis_of rfl) rfl rfl)) (blk_of rfl) (by decide) (fun _ _ _ _ _ => (sg_name sc__law_begun.nd (i := 2) rfl (loc_of rfl) (fnl_of rfl))) (fun _ _ _ _ _ => sts_nil) (fun _ _ _ _ _ => (se_callB call_abs ld_abs rfl (T.free 0 rfl) (by decide +kernel) (sa_cons (se_var 2 rfl (vis_of rfl) rfl rfl) sa_nil rfl) (by decide) rfl rfl rfl)) (fun _ => rfl)) (sp_cons se_str se_int sp_nil)))) rfl rfl (by decide) (by decide)))))

/-! _law_blend -/
abbrev n__law_blend : List Str := [("tape" : Str), ("turn" : Str), ("found" : Str), ("great" : Str), ("mixed" : Str), ("grain" : Str)]
theorem sc__law_blend : FnScope n__law_blend [("tape" : Str)] (defScope s__law_blend) := scp_of (by decide +kernel)
theorem f__law_blend (T : Tx w K mg base) : FunD K "_law_blend" "_law_blend" (defArgs s__law_blend) (defBody s__law_blend) (defScope s__law_blend) [] [] (He.ga K "_law_blend") (fdOf K (He.ga K "_law_blend")) := (T.fn_ 1 rfl).d rfl
theorem b__law_blend (T : Tx w K mg base) : Binds K (fdOf K (He.ga K "_law_blend")) [("tape" : Str)] [] := (f__law_blend T).bindsN fun _ _ _ _ _ _ us hl => match us, hl with | [_], _ => rfl
def bm__law_blend : SS := sSeq (sPut (eBin dAdd (eBin dIdx (eV 0) (eC (.str "turn"))) (eC (.int 1))) (eV 0) (eC (.str "turn"))) (sSeq (sPar [1, 2] (eCons (eOfL bInt (eCons (eBin dIdx (eV 0) (eC (.str "turn"))) (eNil))) (eCons (eC (.int 0)) (eNil)))) (sSeq (sFor (iSeq (eOfL dLst (eCons (eC (.int 2147483629)) (eCons (eC (.int 2147483587)) (eCons (eC (.int 2147483579)) (eNil)))))) (gN 3) (sSeq (sSet 4 (eBin dMod (eBin dAdd (eBin dMul (eV 1) (eC (.int 69621))) (eBin dFdiv (eV 3) (eC (.int 7)))) (eV 3))) (sSeq (sFor (iSeq (eBin dIdx (eV 0) (eC (.str "cells")))) (gN 5) (sSet 4 (eBin dMod (eBin dAdd (eBin dMul (eV 4) (eC (.int 48271))) (eOfL bInt (eCons (eV 5) (eNil)))) (eV 3)))) (sSet 2 (eBin dAdd (eBin dMul (eV 2) (eC (.int 2147483647))) (eBin dMod (eBin dPow (eV 4) (eC (.int 5))) (eV 3))))))) (sRet (eV 2))))
def m__law_blend : List D → M D := mkFn [] 1 6 bm__law_blend
theorem ok__law_blend (T : Tx w K mg base) : FnOk PP w K mg base (L2.CX PP w) 2 (He.ga K "_law_blend") (fdOf K (He.ga K "_law_blend")) [("tape" : Str)] (spM (CL K) 1 m__law_blend) := by
  refine FunD.mir (N := n__law_blend) (nN := 6) (mb := bm__law_blend) (f__law_blend T) sc__law_blend rfl fun cdv A outer s H E hcd hr => ?_
  exact (ss_cons (ss_put (hu_of hr) (se_bin op_addAll od_add (se_ix rfl (hu_of hr) (se_var 0 rfl (vis_of rfl) rfl rfl) se_str (fun _ _ => rfl)) se_int) (se_var 0 rfl (vis_of rfl) rfl rfl) se_str (fun _ => rfl) rfl rfl rfl)
    (ss_cons (ss_par (i := 1) (j := 2) rfl sc__law_blend.nd rfl rfl (by decide) rfl rfl (sa_cons (se_callT call_int1 ld_int rfl (T.free 5 rfl) (by decide +kernel) (sa_cons (se_ix rfl (hu_of hr) (se_var 0 rfl (vis_of rfl) rfl rfl) se_str (fun _ _ => rfl)) sa_nil rfl) (by decide) rfl rfl rfl) (sa_cons se_int sa_nil rfl) rfl) rfl rfl)
    (ss_cons (ss_for (passes_of rfl) rfl (si_seq rfl (se_lst (sa_cons se_int (sa_cons se_int (sa_cons se_int sa_nil rfl) rfl) rfl))) (sg_name sc__law_blend.nd (i := 3) rfl (loc_of rfl) (fnl_of rfl)) (ss_cons (ss_set (i := 4) sc__law_blend.nd rfl (loc_of rfl) (fnl_of rfl) (se_bin op_mod od_mod (se_bin op_addAll od_add (se_bin op_mulAll od_mul (se_var 1 rfl (vis_of rfl) rfl rfl) se_int) (se_bin op_fdiv od_fdiv (se_var 3 rfl (vis_of rfl) rfl rfl) se_int)) (se_var 3 rfl (vis_of rfl) rfl rfl)) rfl)
    (ss_cons (ss_for (passes_of rfl) rfl (si_seq rfl (se_ix rfl (hu_of hr) (se_var 0 rfl (vis_of rfl) rfl rfl) se_str (fun _ _ => rfl))) (sg_name sc__law_blend.nd (i := 5) rfl (loc_of rfl) (fnl_of rfl)) (ss_one (ss_set (i := 4) sc__law_blend.nd rfl (loc_of rfl) (fnl_of rfl) (se_bin op_mod od_mod (se_bin op_addAll od_add (se_bin op_mulAll od_mul (se_var 4 rfl (vis_of rfl) rfl rfl) se_int) (se_callT call_int1 ld_int rfl (T.free 5 rfl) (by decide +kernel) (sa_cons (se_var 5 rfl (vis_of rfl) rfl rfl) sa_nil rfl) (by decide) rfl rfl rfl)) (se_var 3 rfl (vis_of rfl) rfl rfl)) rfl)) (fun _ => rfl))
    (ss_one (ss_set (i := 2) sc__law_blend.nd rfl (loc_of rfl) (fnl_of rfl) (se_bin op_addAll od_add (se_bin op_mulAll od_mul (se_var 2 rfl (vis_of rfl) rfl rfl) se_int) (se_bin op_mod od_mod (se_bin op_pow od_pow (se_var 4 rfl (vis_of rfl) rfl rfl) se_int) (se_var 3 rfl (vis_of rfl) rfl rfl))) rfl)))) (fun _ => rfl))
    (ss_one (ss_ret (se_var 2 rfl (vis_of rfl) rfl rfl))))))

/-! _law_draw -/
abbrev n__law_draw : List Str := [("tape" : Str), ("size" : Str), ("found" : Str)]
theorem sc__law_draw : FnScope n__law_draw [("tape" : Str), ("size" : Str)] (defScope s__law_draw) := scp_of (by decide +kernel)
theorem f__law_draw (T : Tx w K mg base) : FunD K "_law_draw" "_law_draw" (defArgs s__law_draw) (defBody s__law_draw) (defScope s__law_draw) [] [] (He.ga K "_law_draw") (fdOf K (He.ga K "_law_draw")) := (T.fn_ 2 rfl).d rfl
theorem b__law_draw (T : Tx w K mg base) : Binds K (fdOf K (He.ga K "_law_draw")) [("tape" : Str), ("size" : Str)] [] := (f__law_draw T).bindsN fun _ _ _ _ _ _ us hl => match us, hl with | [_, _], _ => rfl
def bm__law_draw : SS := sSeq (sIf (tOf isB (eBin dEq (eBin dIdx (eV 0) (eC (.str "rest"))) (eC (.int 0)))) (sPut (eIf (tOf isB (eBin dNe (eBin dIdx (eV 0) (eC (.str "large"))) (eOfL dLst (eNil)))) (eMet isLst mPopAt (eBin dIdx (eV 0) (eC (.str "large"))) (eCons (eC (.int 0)) (eNil))) (eCall 1 m__law_blend [] (eCons (eV 0) (eNil)))) (eV 0) (eC (.str "rest"))) (sNil)) (sSeq (sSet 2 (eBin dMod (eOfL bInt (eCons (eBin dIdx (eV 0) (eC (.str "rest"))) (eNil))) (eV 1))) (sSeq (sPut (eBin dFdiv (eOfL bInt (eCons (eBin dIdx (eV 0) (eC (.str "rest"))) (eNil))) (eV 1)) (eV 0) (eC (.str "rest"))) (sRet (eV 2))))
def m__law_draw : List D → M D := mkFn [] 2 3 bm__law_draw
theorem ok__law_draw (T : Tx w K mg base) : FnOk PP w K mg base (L2.CX PP w) 3 (He.ga K "_law_draw") (fdOf K (He.ga K "_law_draw")) [("tape" : Str), ("size" : Str)] (spM (CL K) 2 m__law_draw) := by
  refine FunD.mir (N := n__law_draw) (nN := 3) (mb := bm__law_draw) (f__law_draw T) sc__law_draw rfl fun cdv A outer s H E hcd hr => ?_
  exact (ss_cons (ss_if (st_cmp (op_eqD (u64 hr)) od_eq (se_ix rfl (hu_of hr) (se_var 0 rfl (vis_of rfl) rfl rfl) se_str (fun _ _ => rfl)) se_int rfl) (ss_one (ss_put (hu_of hr) (se_if (st_cmp (op_neD (u64 hr)) od_ne (se_ix rfl (hu_of hr) (se_var 0 rfl (vis_of rfl) rfl rfl) se_str (fun _ _ => rfl)) (se_lst sa_nil) rfl) (se_met rfl PySem.F.plainAttrs_list PySem.F.slot_list_pop PySem.F.type_list_pop mt_popAt lst_tyV md_popAt (se_ix rfl (hu_of hr) (se_var 0 rfl (vis_of rfl) rfl rfl) se_str (fun _ _ => rfl)) (sa_cons se_int sa_nil rfl) rfl rfl rfl rfl rfl) (se_call over0 (ok__law_blend T) hr (by decide) rfl (T.glo 6 rfl) (f__law_blend T).kp (b__law_blend T) .nil (fun _ _ => rfl) (takes_of rfl rfl rfl rfl) (sa_cons (se_var 0 rfl (vis_of rfl) rfl rfl) sa_nil rfl) rfl rfl rfl)) (se_var 0 rfl (vis_of rfl) rfl rfl) se_str (fun _ => rfl) rfl rfl rfl)) ss_nil)
    (ss_cons (ss_set (i := 2) sc__law_draw.nd rfl (loc_of rfl) (fnl_of rfl) (se_bin op_mod od_mod (se_callT call_int1 ld_int rfl (T.free 5 rfl) (by decide +kernel) (sa_cons (se_ix rfl (hu_of hr) (se_var 0 rfl (vis_of rfl) rfl rfl) se_str (fun _ _ => rfl)) sa_nil rfl) (by decide) rfl rfl rfl) (se_var 1 rfl (vis_of rfl) rfl rfl)) rfl)
    (ss_cons (ss_put (hu_of hr) (se_bin op_fdiv od_fdiv (se_callT call_int1 ld_int rfl (T.free 5 rfl) (by decide +kernel) (sa_cons (se_ix rfl (hu_of hr) (se_var 0 rfl (vis_of rfl) rfl rfl) se_str (fun _ _ => rfl)) sa_nil rfl) (by decide) rfl rfl rfl) (se_var 1 rfl (vis_of rfl) rfl rfl)) (se_var 0 rfl (vis_of rfl) rfl rfl) se_str (fun _ => rfl) rfl rfl rfl)
    (ss_one (ss_ret (se_var 2 rfl (vis_of rfl) rfl rfl))))))

/-! _law_pick -/
abbrev n__law_pick : List Str := [("tape" : Str), ("several" : Str)]
theorem sc__law_pick : FnScope n__law_pick [("tape" : Str), ("several" : Str)] (defScope s__law_pick) := scp_of (by decide +kernel)
theorem f__law_pick (T : Tx w K mg base) : FunD K "_law_pick" "_law_pick" (defArgs s__law_pick) (defBody s__law_pick) (defScope s__law_pick) [] [] (He.ga K "_law_pick") (fdOf K (He.ga K "_law_pick")) := (T.fn_ 3 rfl).d rfl
theorem b__law_pick (T : Tx w K mg base) : Binds K (fdOf K (He.ga K "_law_pick")) [("tape" : Str), ("several" : Str)] [] := (f__law_pick T).bindsN fun _ _ _ _ _ _ us hl => match us, hl with | [_, _], _ => rfl
def bm__law_pick : SS := sRet (eBin dIdx (eV 1) (eCall 2 m__law_draw [] (eCons (eV 0) (eCons (eOfL bLen (eCons (eV 1) (eNil))) (eNil)))))
def m__law_pick : List D → M D := mkFn [] 2 2 bm__law_pick
theorem ok__law_pick (T : Tx w K mg base) : FnOk PP w K mg base (L2.CX PP w) 4 (He.ga K "_law_pick") (fdOf K (He.ga K "_law_pick")) [("tape" : Str), ("several" : Str)] (spM (CL K) 2 m__law_pick) := by
  refine FunD.mir (N := n__law_pick) (nN := 2) (mb := bm__law_pick) (f__law_pick T) sc__law_pick rfl fun cdv A outer s H E hcd hr => ?_
  exact (ss_one (ss_ret (se_ix rfl (hu_of hr) (se_var 1 rfl (vis_of rfl) rfl rfl) (se_call over0 (ok__law_draw T) hr (by decide) rfl (T.glo 7 rfl) (f__law_draw T).kp (b__law_draw T) .nil (fun _ _ => rfl) (takes_of rfl rfl rfl rfl) (sa_cons (se_var 0 rfl (vis_of rfl) rfl rfl) (sa_cons (se_callB call_lenAll ld_len rfl (T.free 2 rfl) (by decide +kernel) (sa_cons (se_var 1 rfl (vis_of rfl) rfl rfl) sa_nil rfl) (by decide) rfl rfl rfl) sa_nil rfl) rfl) rfl rfl rfl) (fun _ _ => rfl))))

/-! _law_sentence -/
abbrev n__law_sentence : List Str := [("tape" : Str), ("many" : Str), ("depth" : Str), ("way" : Str)]
theorem sc__law_sentence : FnScope n__law_sentence [("tape" : Str), ("many" : Str), ("depth" : Str)] (defScope s__law_sentence) := scp_of (by decide +kernel)
theorem f__law_sentence (T : Tx w K mg base) : FunD K "_law_sentence" "_law_sentence" (defArgs s__law_sentence) (defBody s__law_sentence) (defScope s__law_sentence) [] [] (He.ga K "_law_sentence") (fdOf K (He.ga K "_law_sentence")) := (T.fn_ 4 rfl).d rfl
theorem b__law_sentence (T : Tx w K mg base) : Binds K (fdOf K (He.ga K "_law_sentence")) [("tape" : Str), ("many" : Str), ("depth" : Str)] [] := (f__law_sentence T).bindsN fun _ _ _ _ _ _ us hl => match us, hl with | [_, _, _], _ => rfl
def bm__law_sentence : (List D → M D) → SS := fun m => sSeq (sSet 3 (eIf (tOf isB (eBin dGt (eV 2) (eC (.int 1)))) (eCall 2 m__law_draw [] (eCons (eV 0) (eCons (eC (.int 5)) (eNil)))) (eC (.int 4)))) (sSeq (sIf (tOf isB (eBin dEq (eV 3) (eC (.int 0)))) (sRet (eOfL dTup (eCons (eC (.str "no")) (eCons (eCall 3 m [] (eCons (eV 0) (eCons (eV 1) (eCons (eBin dSub (eV 2) (eC (.int 1))) (eNil))))) (eNil))))) (sNil)) (sSeq (sIf (tOf isB (eBin dLt (eV 3) (eC (.int 4)))) (sRet (eOfL dTup (eCons (eCall 2 m__law_pick [] (eCons (eV 0) (eCons (eOfL dLst (eCons (eC (.str "both")) (eCons (eC (.str "either")) (eNil)))) (eNil)))) (eCons (eCall 3 m [] (eCons (eV 0) (eCons (eV 1) (eCons (eBin dSub (eV 2) (eC (.int 1))) (eNil))))) (eCons (eCall 3 m [] (eCons (eV 0) (eCons (eV 1) (eCons (eBin dSub (eV 2) (eC (.int 1))) (eNil))))) (eNil)))))) (sNil)) (sRet (eOfL dTup (eCons (eC (.str "says")) (eCons (eCall 2 m__law_draw [] (eCons (eV 0) (eCons (eV 1) (eNil)))) (eCons (eCall 2 m__law_draw [] (eCons (eV 0) (eCons (eC (.int 4)) (eNil)))) (eNil))))))))
def m__law_sentence : Nat → List D → M D
  | 0 => fun _ _ => .stuck
  | n + 1 => mkFn [] 3 4 (bm__law_sentence (m__law_sentence n))
theorem ok__law_sentence (T : Tx w K mg base) : ∀ n, FnOk PP w K mg base (L2.CX PP w) (5 + n) (He.ga K "_law_sentence") (fdOf K (He.ga K "_law_sentence")) [("tape" : Str), ("many" : Str), ("depth" : Str)] (spM (CL K) 3 (m__law_sentence n))
  | 0 => fnok_none rfl
  | n + 1 => by
    refine FunD.mir (k := 5 + n) (N := n__law_sentence) (nN := 4) (mb := bm__law_sentence (m__law_sentence n)) (f__law_sentence T) sc__law_sentence rfl fun cdv A outer s H E hcd hr => ?_
    exact (ss_cons (ss_set (i := 3) sc__law_sentence.nd rfl (loc_of rfl) (fnl_of rfl) (se_if (st_cmp op_gt (od_rel _) (se_var 2 rfl (vis_of rfl) rfl rfl) se_int rfl) (se_call over0 (ok__law_draw T) hr (by omega) rfl (T.glo 7 rfl) (f__law_draw T).kp (b__law_draw T) .nil (fun _ _ => rfl) (takes_of rfl rfl rfl rfl) (sa_cons (se_var 0 rfl (vis_of rfl) rfl rfl) (sa_cons se_int sa_nil rfl) rfl) rfl rfl rfl) se_int) rfl)
    (ss_cons (ss_if (st_cmp (op_eqD (u64 hr)) od_eq (se_var 3 rfl (vis_of rfl) rfl rfl) se_int rfl) (ss_one (ss_ret (se_tup (sa_cons se_str (sa_cons (se_call over0 (ok__law_sentence T n) hr (by omega) rfl (T.glo 8 rfl) (f__law_sentence T).kp (b__law_sentence T) .nil (fun _ _ => rfl) (takes_of rfl rfl rfl rfl) (sa_cons (se_var 0 rfl (vis_of rfl) rfl rfl) (sa_cons (se_var 1 rfl (vis_of rfl) rfl rfl) (sa_cons (se_bin op_sub od_sub (se_var 2 rfl (vis_of rfl) rfl rfl) se_int) sa_nil rfl) rfl) rfl) rfl rfl rfl) sa_nil rfl) rfl)))) ss_nil)
    (ss_cons (ss_if (st_cmp op_lt (od_rel _) (se_var 3 rfl (vis_of rfl) rfl rfl) se_int rfl) (ss_one (ss_ret (se_tup (sa_cons (se_call over0 (ok__law_pick T) hr (by omega) rfl (T.glo 9 rfl) (f__law_pick T).kp (b__law_pick T) .nil (fun _ _ => rfl) (takes_of rfl rfl rfl rfl) (sa_cons (se_var 0 rfl (vis_of rfl) rfl rfl) (sa_cons (se_lst (sa_cons se_str (sa_cons se_str sa_nil rfl) rfl)) sa_nil rfl) rfl) rfl rfl rfl) (sa_cons (se_call over0 (ok__law_sentence T n) hr (by omega) rfl (T.glo 8 rfl) (f__law_sentence T).kp (b__law_sentence T) .nil (fun _ _ => rfl) (takes_of rfl rfl rfl rfl) (sa_cons (se_var 0 rfl (vis_of rfl) rfl rfl) (sa_cons (se_var 1 rfl (vis_of rfl) rfl rfl) (sa_cons (se_bin op_sub od_sub (se_var 2 rfl (vis_of rfl) rfl rfl) se_int) sa_nil rfl) rfl) rfl) rfl rfl rfl) (sa_cons (se_call over0 (ok__law_sentence T n) hr (by omega) rfl (T.glo 8 rfl) (f__law_sentence T).kp (b__law_sentence T) .nil (fun _ _ => rfl) (takes_of rfl rfl rfl rfl) (sa_cons (se_var 0 rfl (vis_of rfl) rfl rfl) (sa_cons (se_var 1 rfl (vis_of rfl) rfl rfl) (sa_cons (se_bin op_sub od_sub (se_var 2 rfl (vis_of rfl) rfl rfl) se_int) sa_nil rfl) rfl) rfl) rfl rfl rfl) sa_nil rfl) rfl) rfl)))) ss_nil)
    (ss_one (ss_ret (se_tup (sa_cons se_str (sa_cons (se_call over0 (ok__law_draw T) hr (by omega) rfl (T.glo 7 rfl) (f__law_draw T).kp (b__law_draw T) .nil (fun _ _ => rfl) (takes_of rfl rfl rfl rfl) (sa_cons (se_var 0 rfl (vis_of rfl) rfl rfl) (sa_cons (se_var 1 rfl (vis_of rfl) rfl rfl) sa_nil rfl) rfl) rfl rfl rfl) (sa_cons (se_call over0 (ok__law_draw T) hr (by omega) rfl (T.glo 7 rfl) (f__law_draw T).kp (b__law_draw T) .nil (fun _ _ => rfl) (takes_of rfl rfl rfl rfl) (sa_cons (se_var 0 rfl (vis_of rfl) rfl rfl) (sa_cons se_int sa_nil rfl) rfl) rfl rfl rfl) sa_nil rfl) rfl) rfl)))))))

/-! _law_bent -/
abbrev n__law_bent : List Str := [("tape" : Str), ("thing" : Str), ("spot" : Str), ("way" : Str), ("found" : Str)]
theorem sc__law_bent : FnScope n__law_bent [("tape" : Str), ("thing" : Str)] (defScope s__law_bent) := scp_of (by decide +kernel)
theorem f__law_bent (T : Tx w K mg base) : FunD K "_law_bent" "_law_bent" (defArgs s__law_bent) (defBody s__law_bent) (defScope s__law_bent) [] [] (He.ga K "_law_bent") (fdOf K (He.ga K "_law_bent")) := (T.fn_ 5 rfl).d rfl
theorem b__law_bent (T : Tx w K mg base) : Binds K (fdOf K (He.ga K "_law_bent")) [("tape" : Str), ("thing" : Str)] [] := (f__law_bent T).bindsN fun _ _ _ _ _ _ us hl => match us, hl with | [_, _], _ => rfl
def bm__law_bent : (List D → M D) → SS := fun m => sSeq (sIf (tAndM (tOf isB (eUn (dIsi "tuple") (eV 1))) (tAndM (tOf isB (eBin dGt (eOfL bLen (eCons (eV 1) (eNil))) (eC (.int 0)))) (tOf isB (eBin dGt (eCall 2 m__law_draw [] (eCons (eV 0) (eCons (eC (.int 5)) (eNil)))) (eC (.int 0)))))) (sSeq (sPar [2, 3, 4] (eCons (eCall 2 m__law_draw [] (eCons (eV 0) (eCons (eOfL bLen (eCons (eV 1) (eNil))) (eNil)))) (eCons (eCall 2 m__law_draw [] (eCons (eV 0) (eCons (eC (.int 8)) (eNil)))) (eCons (eOfL bListR (eCons (eV 1) (eNil))) (eNil))))) (sSeq (sIf (tOf isB (eBin dEq (eV 3) (eC (.int 0)))) (sExpr (eMet isLst mPopAt (eV 4) (eCons (eV 2) (eNil)))) (sIf (tOf isB (eBin dEq (eV 3) (eC (.int 1)))) (sExpr (eMet isLst mInsert (eV 4) (eCons (eV 2) (eCons (eBin dIdx (eV 4) (eV 2)) (eNil))))) (sIf (tOf isB (eBin dEq (eV 3) (eC (.int 2)))) (sRet (eV 4)) (sPut (eCall 2 m [] (eCons (eV 0) (eCons (eBin dIdx (eV 4) (eV 2)) (eNil)))) (eV 4) (eV 2))))) (sRet (eOfL bTuple (eCons (eV 4) (eNil)))))) (sNil)) (sSeq (sIf (tOf isB (eUn (dIsi "str") (eV 1))) (sRet (eCall 2 m__law_pick [] (eCons (eV 0) (eCons (eOfL dLst (eCons (eC (.str "no")) (eCons (eC (.str "both")) (eCons (eC (.str "either")) (eCons (eC (.str "says")) (eCons (eC (.str "nor")) (eCons (eC .non) (eCons (eC (.int 0)) (eCons (eC (.str "")) (eCons (eOfL dTup (eCons (eC (.str "no")) (eNil))) (eNil))))))))))) (eNil))))) (sNil)) (sRet (eCall 2 m__law_pick [] (eCons (eV 0) (eCons (eOfL dLst (eCons (eC (.int 0)) (eCons (eC (.int 1)) (eCons (eC (.int 3)) (eCons (eC (.int 4)) (eCons (eUn dNeg (eC (.int 1))) (eCons (eC (.bl true)) (eCons (eC (.bl false)) (eCons (eC .non) (eCons (eC (.str "1")) (eCons (eOfL dTup (eCons (eC (.str "says")) (eCons (eC (.int 0)) (eCons (eC (.int 1)) (eNil))))) (eCons (eBin dPow (eC (.int 10)) (eC (.int 20))) (eCons (eOfL dTup (eNil)) (eNil)))))))))))))) (eNil))))))
def m__law_bent : Nat → List D → M D
  | 0 => fun _ _ => .stuck
  | n + 1 => mkFn [] 2 5 (bm__law_bent (m__law_bent n))
theorem ok__law_bent (T : Tx w K mg base) : ∀ n, FnOk PP w K mg base (L2.CX PP w) (5 + n) (He.ga K "_law_bent") (fdOf K (He.ga K "_law_bent")) [("tape" : Str), ("thing" : Str)] (spM (CL K) 2 (m__law_bent n))
  | 0 => fnok_none rfl
  | n + 1 => by
    refine FunD.mir (k := 5 + n) (N := n__law_bent) (nN := 5) (mb := bm__law_bent (m__law_bent n)) (f__law_bent T) sc__law_bent rfl fun cdv A outer s H E hcd hr => ?_
    exact (ss_cons (ss_if (st_w (sw_and (st_val (se_isi (ocB_ok (T.ow 0 rfl) rfl) rfl (by decide) rfl (T.free 11 rfl) rfl (T.free 12 rfl) (by decide +kernel) (by decide) rfl (se_var 1 rfl (vis_of rfl) rfl rfl) rfl rfl rfl) (fun _ => rfl)) (sw_and (st_cmp op_gt (od_rel _) (se_callB call_lenAll ld_len rfl (T.free 2 rfl) (by decide +kernel) (sa_cons (se_var 1 rfl (vis_of rfl) rfl rfl) sa_nil rfl) (by decide) rfl rfl rfl) se_int rfl) (sw_and1 (st_cmp op_gt (od_rel _) (se_call over0 (ok__law_draw T) hr (by omega) rfl (T.glo 7 rfl) (f__law_draw T).kp (b__law_draw T) .nil (fun _ _ => rfl) (takes_of rfl rfl rfl rfl) (sa_cons (se_var 0 rfl (vis_of rfl) rfl rfl) (sa_cons se_int sa_nil rfl) rfl) rfl rfl rfl) se_int rfl))))) (ss_cons (ss_par3 (i := 2) (j := 3) (l := 4) rfl sc__law_bent.nd rfl rfl rfl (by decide) (by decide) (by decide) rfl rfl rfl (sa_cons (se_call over0 (ok__law_draw T) hr (by omega) rfl (T.glo 7 rfl) (f__law_draw T).kp (b__law_draw T) .nil (fun _ _ => rfl) (takes_of rfl rfl rfl rfl) (sa_cons (se_var 0 rfl (vis_of rfl) rfl rfl) (sa_cons (se_callB call_lenAll ld_len rfl (T.free 2 rfl) (by decide +kernel) (sa_cons (se_var 1 rfl (vis_of rfl) rfl rfl) sa_nil rfl) (by decide) rfl rfl rfl) sa_nil rfl) rfl) rfl rfl rfl) (sa_cons (se_call over0 (ok__law_draw T) hr (by omega) rfl (T.glo 7 rfl) (f__law_draw T).kp (b__law_draw T) .nil (fun _ _ => rfl) (takes_of rfl rfl rfl rfl) (sa_cons (se_var 0 rfl (vis_of rfl) rfl rfl) (sa_cons se_int sa_nil rfl) rfl) rfl rfl rfl) (sa_cons (se_callT call_list_of ld_listR rfl (T.free 10 rfl) (by decide +kernel) (sa_cons (se_var 1 rfl (vis_of rfl) rfl rfl) sa_nil rfl) (by decide) rfl rfl rfl) sa_nil rfl) rfl) rfl) rfl rfl)
    (ss_cons (ss_if (st_cmp (op_eqD (u64 hr)) od_eq (se_var 3 rfl (vis_of rfl) rfl rfl) se_int rfl) (ss_one (ss_expr (se_met rfl PySem.F.plainAttrs_list PySem.F.slot_list_pop PySem.F.type_list_pop mt_popAt lst_tyV md_popAt (se_var 4 rfl (vis_of rfl) rfl rfl) (sa_cons (se_var 2 rfl (vis_of rfl) rfl rfl) sa_nil rfl) rfl rfl rfl rfl rfl) rfl)) (ss_one (ss_if (st_cmp (op_eqD (u64 hr)) od_eq (se_var 3 rfl (vis_of rfl) rfl rfl) se_int rfl) (ss_one (ss_expr (se_met rfl PySem.F.plainAttrs_list PySem.F.slot_list_insert PySem.F.type_list_insert mt_insertW lst_tyV md_insert (se_var 4 rfl (vis_of rfl) rfl rfl) (sa_cons (se_var 2 rfl (vis_of rfl) rfl rfl) (sa_cons (se_ix rfl (hu_of hr) (se_var 4 rfl (vis_of rfl) rfl rfl) (se_var 2 rfl (vis_of rfl) rfl rfl) (fun _ _ => rfl)) sa_nil rfl) rfl) rfl rfl rfl rfl rfl) rfl)) (ss_one (ss_if (st_cmp (op_eqD (u64 hr)) od_eq (se_var 3 rfl (vis_of rfl) rfl rfl) se_int rfl) (ss_one (ss_ret (se_var 4 rfl (vis_of rfl) rfl rfl))) (ss_one (ss_put (hu_of hr) (se_call over0 (ok__law_bent T n) hr (by omega) rfl (T.glo 13 rfl) (f__law_bent T).kp (b__law_bent T) .nil (fun _ _ => rfl) (takes_of rfl rfl rfl rfl) (sa_cons (se_var 0 rfl (vis_of rfl) rfl rfl) (sa_cons (se_ix rfl (hu_of hr) (se_var 4 rfl (vis_of rfl) rfl rfl) (se_var 2 rfl (vis_of rfl) rfl rfl) (fun _ _ => rfl)) sa_nil rfl) rfl) rfl rfl rfl) (se_var 4 rfl (vis_of rfl) rfl rfl) (se_var 2 rfl (vis_of rfl) rfl rfl) (fun _ => rfl) rfl rfl rfl)))))))
    (ss_one (ss_ret (se_callT call_tuple_of ld_tuple rfl (T.free 12 rfl) (by decide +kernel) (sa_cons (se_var 4 rfl (vis_of rfl) rfl rfl) sa_nil rfl) (by decide) rfl rfl rfl))))) ss_nil)
    (ss_cons (ss_if (st_val (se_isi (ocB_ok (T.ow 0 rfl) rfl) rfl (by decide) rfl (T.free 11 rfl) rfl (T.free 14 rfl) (by decide +kernel) (by decide) rfl (se_var 1 rfl (vis_of rfl) rfl rfl) rfl rfl rfl) (fun _ => rfl)) (ss_one (ss_ret (se_call over0 (ok__law_pick T) hr (by omega) rfl (T.glo 9 rfl) (f__law_pick T).kp (b__law_pick T) .nil (fun _ _ => rfl) (takes_of rfl rfl rfl rfl) (sa_cons (se_var 0 rfl (vis_of rfl) rfl rfl) (sa_cons (se_lst (sa_cons se_str (sa_cons se_str (sa_cons se_str (sa_cons se_str (sa_cons se_str (sa_cons se_non (sa_cons se_int (sa_cons se_str (sa_cons (se_tup (sa_cons se_str sa_nil rfl)) sa_nil rfl) rfl) rfl) rfl) rfl) rfl) rfl) rfl) rfl)) sa_nil rfl) rfl) rfl rfl rfl))) ss_nil)
    (ss_one (ss_ret (se_call over0 (ok__law_pick T) hr (by omega) rfl (T.glo 9 rfl) (f__law_pick T).kp (b__law_pick T) .nil (fun _ _ => rfl) (takes_of rfl rfl rfl rfl) (sa_cons (se_var 0 rfl (vis_of rfl) rfl rfl) (sa_cons (se_lst (sa_cons se_int (sa_cons se_int (sa_cons se_int (sa_cons se_int (sa_cons (se_un un_neg ud_neg se_int) (sa_cons se_bl (sa_cons se_bl (sa_cons se_non (sa_cons se_str (sa_cons (se_tup (sa_cons se_str (sa_cons se_int (sa_cons se_int sa_nil rfl) rfl) rfl)) (sa_cons (se_bin op_pow od_pow se_int se_int) (sa_cons (se_tup sa_nil) sa_nil rfl) rfl) rfl) rfl) rfl) rfl) rfl) rfl) rfl) rfl) rfl) rfl)) sa_nil rfl) rfl) rfl rfl rfl)))))

/-! _law_whole -/
abbrev n__law_whole : List Str := [("thing" : Str)]
theorem sc__law_whole : FnScope n__law_whole [("thing" : Str)] (defScope s__law_whole) := scp_of (by decide +kernel)
theorem f__law_whole (T : Tx w K mg base) : FunD K "_law_whole" "_law_whole" (defArgs s__law_whole) (defBody s__law_whole) (defScope s__law_whole) [] [] (He.ga K "_law_whole") (fdOf K (He.ga K "_law_whole")) := (T.fn_ 6 rfl).d rfl
theorem b__law_whole (T : Tx w K mg base) : Binds K (fdOf K (He.ga K "_law_whole")) [("thing" : Str)] [] := (f__law_whole T).bindsN fun _ _ _ _ _ _ us hl => match us, hl with | [_], _ => rfl
def bm__law_whole : SS := sRet (eAnd (eUn (dIsi "int") (eV 0)) (eNot (eUn (dIsi "bool") (eV 0))))
def m__law_whole : List D → M D := mkFn [] 1 1 bm__law_whole
theorem ok__law_whole (T : Tx w K mg base) : FnOk PP w K mg base (L2.CX PP w) 2 (He.ga K "_law_whole") (fdOf K (He.ga K "_law_whole")) [("thing" : Str)] (spM (CL K) 1 m__law_whole) := by
  refine FunD.mir (N := n__law_whole) (nN := 1) (mb := bm__law_whole) (f__law_whole T) sc__law_whole rfl fun cdv A outer s H E hcd hr => ?_
  exact (ss_one (ss_ret (se_and (se_isi (ocB_ok (T.ow 0 rfl) rfl) rfl (by decide) rfl (T.free 11 rfl) rfl (T.free 5 rfl) (by decide +kernel) (by decide) rfl (se_var 0 rfl (vis_of rfl) rfl rfl) rfl rfl rfl) (se_one (se_not (se_isi (ocB_ok (T.ow 0 rfl) rfl) rfl (by decide) rfl (T.free 11 rfl) rfl (T.free 15 rfl) (by decide +kernel) (by decide) rfl (se_var 0 rfl (vis_of rfl) rfl rfl) rfl rfl rfl))))))

/-! _law_from -/
abbrev n__law_from : List Str := [("thing" : Str), ("low" : Str), ("high" : Str)]
theorem sc__law_from : FnScope n__law_from [("thing" : Str), ("low" : Str), ("high" : Str)] (defScope s__law_from) := scp_of (by decide +kernel)
theorem f__law_from (T : Tx w K mg base) : FunD K "_law_from" "_law_from" (defArgs s__law_from) (defBody s__law_from) (defScope s__law_from) [] [] (He.ga K "_law_from") (fdOf K (He.ga K "_law_from")) := (T.fn_ 7 rfl).d rfl
theorem b__law_from (T : Tx w K mg base) : Binds K (fdOf K (He.ga K "_law_from")) [("thing" : Str), ("low" : Str), ("high" : Str)] [] := (f__law_from T).bindsN fun _ _ _ _ _ _ us hl => match us, hl with | [_, _, _], _ => rfl
def bm__law_from : SS := sRet (eAnd (eCall 1 m__law_whole [] (eCons (eV 0) (eNil))) (eChain dLe dLe (eV 1) (eV 0) (eV 2)))
def m__law_from : List D → M D := mkFn [] 3 3 bm__law_from
theorem ok__law_from (T : Tx w K mg base) : FnOk PP w K mg base (L2.CX PP w) 3 (He.ga K "_law_from") (fdOf K (He.ga K "_law_from")) [("thing" : Str), ("low" : Str), ("high" : Str)] (spM (CL K) 3 m__law_from) := by
  refine FunD.mir (N := n__law_from) (nN := 3) (mb := bm__law_from) (f__law_from T) sc__law_from rfl fun cdv A outer s H E hcd hr => ?_
  exact (ss_one (ss_ret (se_and (se_call over0 (ok__law_whole T) hr (by decide) rfl (T.glo 16 rfl) (f__law_whole T).kp (b__law_whole T) .nil (fun _ _ => rfl) (takes_of rfl rfl rfl rfl) (sa_cons (se_var 0 rfl (vis_of rfl) rfl rfl) sa_nil rfl) rfl rfl rfl) (se_one (se_chain op_le (od_rel _) op_le (od_rel _) (se_var 1 rfl (vis_of rfl) rfl rfl) (se_var 0 rfl (vis_of rfl) rfl rfl) (se_var 2 rfl (vis_of rfl) rfl rfl) rfl)))))

/-! _law_is_sentence -/
abbrev n__law_is_sentence : List Str := [("many" : Str), ("thing" : Str), ("left_here" : Str)]
theorem sc__law_is_sentence : FnScope n__law_is_sentence [("many" : Str), ("thing" : Str), ("left_here" : Str)] (defScope s__law_is_sentence) := scp_of (by decide +kernel)
theorem f__law_is_sentence (T : Tx w K mg base) : FunD K "_law_is_sentence" "_law_is_sentence" (defArgs s__law_is_sentence) (defBody s__law_is_sentence) (defScope s__law_is_sentence) [] [] (He.ga K "_law_is_sentence") (fdOf K (He.ga K "_law_is_sentence")) := (T.fn_ 8 rfl).d rfl
theorem b__law_is_sentence (T : Tx w K mg base) : Binds K (fdOf K (He.ga K "_law_is_sentence")) [("many" : Str), ("thing" : Str), ("left_here" : Str)] [] := (f__law_is_sentence T).bindsN fun _ _ _ _ _ _ us hl => match us, hl with | [_, _, _], _ => rfl
def bm__law_is_sentence : (List D → M D) → SS := fun m => sSeq (sIf (tOrM (tNotM (tOf isB (eUn (dIsi "tuple") (eV 1)))) (tOrM (tOf isB (eBin dEq (eOfL bLen (eCons (eV 1) (eNil))) (eC (.int 0)))) (tOrM (tNotM (tOf isB (eUn (dIsi "str") (eBin dIdx (eV 1) (eC (.int 0)))))) (tOf isB (eBin dEq (eV 2) (eC (.int 0))))))) (sRet (eC (.bl false))) (sNil)) (sSeq (sIf (tOf isB (eBin dEq (eBin dIdx (eV 1) (eC (.int 0))) (eC (.str "says")))) (sRet (eAnd (eBin dEq (eOfL bLen (eCons (eV 1) (eNil))) (eC (.int 3))) (eAnd (eCall 3 m__law_from [] (eCons (eBin dIdx (eV 1) (eC (.int 1))) (eCons (eC (.int 0)) (eCons (eBin dSub (eV 0) (eC (.int 1))) (eNil))))) (eCall 3 m__law_from [] (eCons (eBin dIdx (eV 1) (eC (.int 2))) (eCons (eC (.int 0)) (eCons (eC (.int 3)) (eNil)))))))) (sNil)) (sSeq (sIf (tOf isB (eBin dEq (eBin dIdx (eV 1) (eC (.int 0))) (eC (.str "no")))) (sRet (eAnd (eBin dEq (eOfL bLen (eCons (eV 1) (eNil))) (eC (.int 2))) (eCall 3 m [] (eCons (eV 0) (eCons (eBin dIdx (eV 1) (eC (.int 1))) (eCons (eBin dSub (eV 2) (eC (.int 1))) (eNil))))))) (sNil)) (sSeq (sIf (tOrM (tOf isB (eBin dNotIn (eBin dIdx (eV 1) (eC (.int 0))) (eOfL dLst (eCons (eC (.str "both")) (eCons (eC (.str "either")) (eNil)))))) (tOf isB (eBin dNe (eOfL bLen (eCons (eV 1) (eNil))) (eC (.int 3))))) (sRet (eC (.bl false))) (sNil)) (sRet (eAnd (eCall 3 m [] (eCons (eV 0) (eCons (eBin dIdx (eV 1) (eC (.int 1))) (eCons (eBin dSub (eV 2) (eC (.int 1))) (eNil))))) (eCall 3 m [] (eCons (eV 0) (eCons (eBin dIdx (eV 1) (eC (.int 2))) (eCons (eBin dSub (eV 2) (eC (.int 1))) (eNil))))))))))
def m__law_is_sentence : Nat → List D → M D
  | 0 => fun _ _ => .stuck
  | n + 1 => mkFn [] 3 3 (bm__law_is_sentence (m__law_is_sentence n))
theorem ok__law_is_sentence (T : Tx w K mg base) : ∀ n, FnOk PP w K mg base (L2.CX PP w) (4 + n) (He.ga K "_law_is_sentence") (fdOf K (He.ga K "_law_is_sentence")) [("many" : Str), ("thing" : Str), ("left_here" : Str)] (spM (CL K) 3 (m__law_is_sentence n))
  | 0 => fnok_none rfl
  | n + 1 => by
    refine FunD.mir (k := 4 + n) (N := n__law_is_sentence) (nN := 3) (mb := bm__law_is_sentence (m__law_is_sentence n)) (f__law_is_sentence T) sc__law_is_sentence rfl fun cdv A outer s H E hcd hr => ?_
    exact (ss_cons (ss_if (st_w (sw_or (st_not (st_val (se_isi (ocB_ok (T.ow 0 rfl) rfl) rfl (by decide) rfl (T.free 11 rfl) rfl (T.free 12 rfl) (by decide +kernel) (by decide) rfl (se_var 1 rfl (vis_of rfl) rfl rfl) rfl rfl rfl) (fun _ => rfl))) (sw_or (st_cmp (op_eqD (u64 hr)) od_eq (se_callB call_lenAll ld_len rfl (T.free 2 rfl) (by decide +kernel) (sa_cons (se_var 1 rfl (vis_of rfl) rfl rfl) sa_nil rfl) (by decide) rfl rfl rfl) se_int rfl) (sw_or (st_not (st_val (se_isi (ocB_ok (T.ow 0 rfl) rfl) rfl (by decide) rfl (T.free 11 rfl) rfl (T.free 14 rfl) (by decide +kernel) (by decide) rfl (se_ix rfl (hu_of hr) (se_var 1 rfl (vis_of rfl) rfl rfl) se_int (fun _ _ => rfl)) rfl rfl rfl) (fun _ => rfl))) (sw_or1 (st_cmp (op_eqD (u64 hr)) od_eq (se_var 2 rfl (vis_of rfl) rfl rfl) se_int rfl)))))) (ss_one (ss_ret se_bl)) ss_nil)
    (ss_cons (ss_if (st_cmp (op_eqD (u64 hr)) od_eq (se_ix rfl (hu_of hr) (se_var 1 rfl (vis_of rfl) rfl rfl) se_int (fun _ _ => rfl)) se_str rfl) (ss_one (ss_ret (se_and (se_cmp (op_eqD (u64 hr)) od_eq (se_callB call_lenAll ld_len rfl (T.free 2 rfl) (by decide +kernel) (sa_cons (se_var 1 rfl (vis_of rfl) rfl rfl) sa_nil rfl) (by decide) rfl rfl rfl) se_int rfl) (se_and (se_call over0 (ok__law_from T) hr (by omega) rfl (T.glo 17 rfl) (f__law_from T).kp (b__law_from T) .nil (fun _ _ => rfl) (takes_of rfl rfl rfl rfl) (sa_cons (se_ix rfl (hu_of hr) (se_var 1 rfl (vis_of rfl) rfl rfl) se_int (fun _ _ => rfl)) (sa_cons se_int (sa_cons (se_bin op_sub od_sub (se_var 0 rfl (vis_of rfl) rfl rfl) se_int) sa_nil rfl) rfl) rfl) rfl rfl rfl) (se_one (se_call over0 (ok__law_from T) hr (by omega) rfl (T.glo 17 rfl) (f__law_from T).kp (b__law_from T) .nil (fun _ _ => rfl) (takes_of rfl rfl rfl rfl) (sa_cons (se_ix rfl (hu_of hr) (se_var 1 rfl (vis_of rfl) rfl rfl) se_int (fun _ _ => rfl)) (sa_cons se_int (sa_cons se_int sa_nil rfl) rfl) rfl) rfl rfl rfl)))))) ss_nil)
    (ss_cons (ss_if (st_cmp (op_eqD (u64 hr)) od_eq (se_ix rfl (hu_of hr) (se_var 1 rfl (vis_of rfl) rfl rfl) se_int (fun _ _ => rfl)) se_str rfl) (ss_one (ss_ret (se_and (se_cmp (op_eqD (u64 hr)) od_eq (se_callB call_lenAll ld_len rfl (T.free 2 rfl) (by decide +kernel) (sa_cons (se_var 1 rfl (vis_of rfl) rfl rfl) sa_nil rfl) (by decide) rfl rfl rfl) se_int rfl) (se_one (se_call over0 (ok__law_is_sentence T n) hr (by omega) rfl (T.glo 18 rfl) (f__law_is_sentence T).kp (b__law_is_sentence T) .nil (fun _ _ => rfl) (takes_of rfl rfl rfl rfl) (sa_cons (se_var 0 rfl (vis_of rfl) rfl rfl) (sa_cons (se_ix rfl (hu_of hr) (se_var 1 rfl (vis_of rfl) rfl rfl) se_int (fun _ _ => rfl)) (sa_cons (se_bin op_sub od_sub (se_var 2 rfl (vis_of rfl) rfl rfl) se_int) sa_nil rfl) rfl) rfl) rfl rfl rfl))))) ss_nil)
    (ss_cons (ss_if (st_w (sw_or (st_cmp (op_notInAll (u65 hr)) od_notin (se_ix rfl (hu_of hr) (se_var 1 rfl (vis_of rfl) rfl rfl) se_int (fun _ _ => rfl)) (se_lst (sa_cons se_str (sa_cons se_str sa_nil rfl) rfl)) rfl) (sw_or1 (st_cmp (op_neD (u64 hr)) od_ne (se_callB call_lenAll ld_len rfl (T.free 2 rfl) (by decide +kernel) (sa_cons (se_var 1 rfl (vis_of rfl) rfl rfl) sa_nil rfl) (by decide) rfl rfl rfl) se_int rfl)))) (ss_one (ss_ret se_bl)) ss_nil)
    (ss_one (ss_ret (se_and (se_call over0 (ok__law_is_sentence T n) hr (by omega) rfl (T.glo 18 rfl) (f__law_is_sentence T).kp (b__law_is_sentence T) .nil (fun _ _ => rfl) (takes_of rfl rfl rfl rfl) (sa_cons (se_var 0 rfl (vis_of rfl) rfl rfl) (sa_cons (se_ix rfl (hu_of hr) (se_var 1 rfl (vis_of rfl) rfl rfl) se_int (fun _ _ => rfl)) (sa_cons (se_bin op_sub od_sub (se_var 2 rfl (vis_of rfl) rfl rfl) se_int) sa_nil rfl) rfl) rfl) rfl rfl rfl) (se_one (se_call over0 (ok__law_is_sentence T n) hr (by omega) rfl (T.glo 18 rfl) (f__law_is_sentence T).kp (b__law_is_sentence T) .nil (fun _ _ => rfl) (takes_of rfl rfl rfl rfl) (sa_cons (se_var 0 rfl (vis_of rfl) rfl rfl) (sa_cons (se_ix rfl (hu_of hr) (se_var 1 rfl (vis_of rfl) rfl rfl) se_int (fun _ _ => rfl)) (sa_cons (se_bin op_sub od_sub (se_var 2 rfl (vis_of rfl) rfl rfl) se_int) sa_nil rfl) rfl) rfl) rfl rfl rfl)))))))))

/-! _law_says -/
abbrev n__law_says : List Str := [("told" : Str), ("due" : Str)]
theorem sc__law_says : FnScope n__law_says [("told" : Str), ("due" : Str)] (defScope s__law_says) := scp_of (by decide +kernel)
theorem f__law_says (T : Tx w K mg base) : FunD K "_law_says" "_law_says" (defArgs s__law_says) (defBody s__law_says) (defScope s__law_says) [] [] (He.ga K "_law_says") (fdOf K (He.ga K "_law_says")) := (T.fn_ 9 rfl).d rfl
theorem b__law_says (T : Tx w K mg base) : Binds K (fdOf K (He.ga K "_law_says")) [("told" : Str), ("due" : Str)] [] := (f__law_says T).bindsN fun _ _ _ _ _ _ us hl => match us, hl with | [_, _], _ => rfl
def bm__law_says : SS := sRet (eIf (tOf isB (eV 1)) (eBin dIs (eV 0) (eC (.bl true))) (eBin dIs (eV 0) (eC (.bl false))))
def m__law_says : List D → M D := mkFn [] 2 2 bm__law_says
theorem ok__law_says (T : Tx w K mg base) : FnOk PP w K mg base (L2.CX PP w) 2 (He.ga K "_law_says") (fdOf K (He.ga K "_law_says")) [("told" : Str), ("due" : Str)] (spM (CL K) 2 m__law_says) := by
  refine FunD.mir (N := n__law_says) (nN := 2) (mb := bm__law_says) (f__law_says T) sc__law_says rfl fun cdv A outer s H E hcd hr => ?_
  exact (ss_one (ss_ret (se_if (st_val (se_var 1 rfl (vis_of rfl) rfl rfl) (fun _ => rfl)) (se_cmp op_isAll od_is (se_var 0 rfl (vis_of rfl) rfl rfl) se_bl rfl) (se_cmp op_isAll od_is (se_var 0 rfl (vis_of rfl) rfl rfl) se_bl rfl))))

/-! is_number -/
abbrev n_is_number : List Str := [("thing" : Str)]
theorem sc_is_number : FnScope n_is_number [("thing" : Str)] (defScope s_is_number) := scp_of (by decide +kernel)
theorem f_is_number (T : Tx w K mg base) : FunD K "is_number" "is_number" (defArgs s_is_number) (defBody s_is_number) (defScope s_is_number) [] [] (He.ga K "is_number") (fdOf K (He.ga K "is_number")) := (T.fn_ 10 rfl).d rfl
theorem b_is_number (T : Tx w K mg base) : Binds K (fdOf K (He.ga K "is_number")) [("thing" : Str)] [] := (f_is_number T).bindsN fun _ _ _ _ _ _ us hl => match us, hl with | [_], _ => rfl
def bm_is_number : SS := sRet (eAnd (eUn (dIsi "int") (eV 0)) (eNot (eUn (dIsi "bool") (eV 0))))
def m_is_number : List D → M D := mkFn [] 1 1 bm_is_number
theorem ok_is_number (T : Tx w K mg base) : FnOk PP w K mg base (L2.CX PP w) 2 (He.ga K "is_number") (fdOf K (He.ga K "is_number")) [("thing" : Str)] (spM (CL K) 1 m_is_number) := by
  refine FunD.mir (N := n_is_number) (nN := 1) (mb := bm_is_number) (f_is_number T) sc_is_number rfl fun cdv A outer s H E hcd hr => ?_
  exact (ss_one (ss_ret (se_and (se_isi (ocB_ok (T.ow 0 rfl) rfl) rfl (by decide) rfl (T.free 11 rfl) rfl (T.free 5 rfl) (by decide +kernel) (by decide) rfl (se_var 0 rfl (vis_of rfl) rfl rfl) rfl rfl rfl) (se_one (se_not (se_isi (ocB_ok (T.ow 0 rfl) rfl) rfl (by decide) rfl (T.free 11 rfl) rfl (T.free 15 rfl) (by decide +kernel) (by decide) rfl (se_var 0 rfl (vis_of rfl) rfl rfl) rfl rfl rfl))))))

/-! is_between -/
abbrev n_is_between : List Str := [("thing" : Str), ("low" : Str), ("high" : Str)]
theorem sc_is_between : FnScope n_is_between [("thing" : Str), ("low" : Str), ("high" : Str)] (defScope s_is_between) := scp_of (by decide +kernel)
theorem f_is_between (T : Tx w K mg base) : FunD K "is_between" "is_between" (defArgs s_is_between) (defBody s_is_between) (defScope s_is_between) [] [] (He.ga K "is_between") (fdOf K (He.ga K "is_between")) := (T.fn_ 11 rfl).d rfl
theorem b_is_between (T : Tx w K mg base) : Binds K (fdOf K (He.ga K "is_between")) [("thing" : Str), ("low" : Str), ("high" : Str)] [] := (f_is_between T).bindsN fun _ _ _ _ _ _ us hl => match us, hl with | [_, _, _], _ => rfl
def bm_is_between : SS := sRet (eAnd (eCall 1 m_is_number [] (eCons (eV 0) (eNil))) (eChain dLe dLe (eV 1) (eV 0) (eV 2)))
def m_is_between : List D → M D := mkFn [] 3 3 bm_is_between
theorem ok_is_between (T : Tx w K mg base) : FnOk PP w K mg base (L2.CX PP w) 3 (He.ga K "is_between") (fdOf K (He.ga K "is_between")) [("thing" : Str), ("low" : Str), ("high" : Str)] (spM (CL K) 3 m_is_between) := by
  refine FunD.mir (N := n_is_between) (nN := 3) (mb := bm_is_between) (f_is_between T) sc_is_between rfl fun cdv A outer s H E hcd hr => ?_
  exact (ss_one (ss_ret (se_and (se_call over0 (ok_is_number T) hr (by decide) rfl (T.glo 19 rfl) (f_is_number T).kp (b_is_number T) .nil (fun _ _ => rfl) (takes_of rfl rfl rfl rfl) (sa_cons (se_var 0 rfl (vis_of rfl) rfl rfl) sa_nil rfl) rfl rfl rfl) (se_one (se_chain op_le (od_rel _) op_le (od_rel _) (se_var 1 rfl (vis_of rfl) rfl rfl) (se_var 0 rfl (vis_of rfl) rfl rfl) (se_var 2 rfl (vis_of rfl) rfl rfl) rfl)))))

/-! need_many -/
abbrev n_need_many : List Str := [("many" : Str)]
theorem sc_need_many : FnScope n_need_many [("many" : Str)] (defScope s_need_many) := scp_of (by decide +kernel)
theorem f_need_many (T : Tx w K mg base) : FunD K "need_many" "need_many" (defArgs s_need_many) (defBody s_need_many) (defScope s_need_many) [] [] (He.ga K "need_many") (fdOf K (He.ga K "need_many")) := (T.fn_ 12 rfl).d rfl
theorem b_need_many (T : Tx w K mg base) : Binds K (fdOf K (He.ga K "need_many")) [("many" : Str)] [] := (f_need_many T).bindsN fun _ _ _ _ _ _ us hl => match us, hl with | [_], _ => rfl
def bm_need_many : SS := sIf (tNotM (tOf isB (eCall 3 m_is_between [] (eCons (eV 0) (eCons (eC (.int 1)) (eCons (eC (.int 4)) (eNil))))))) (sRaise "BadNumber" "part" (eC (.str "many"))) (sNil)
def m_need_many : List D → M D := mkFn [] 1 1 bm_need_many
theorem ok_need_many (T : Tx w K mg base) : FnOk PP w K mg base (L2.CX PP w) 4 (He.ga K "need_many") (fdOf K (He.ga K "need_many")) [("many" : Str)] (spM (CL K) 1 m_need_many) := by
  refine FunD.mir (N := n_need_many) (nN := 1) (mb := bm_need_many) (f_need_many T) sc_need_many rfl fun cdv A outer s H E hcd hr => ?_
  exact (ss_one (ss_if (st_not (st_val (se_call over0 (ok_is_between T) hr (by decide) rfl (T.glo 21 rfl) (f_is_between T).kp (b_is_between T) .nil (fun _ _ => rfl) (takes_of rfl rfl rfl rfl) (sa_cons (se_var 0 rfl (vis_of rfl) rfl rfl) (sa_cons se_int (sa_cons (se_globI (T.int 20 rfl) rfl rfl) sa_nil rfl) rfl) rfl) rfl rfl rfl) (fun _ => rfl))) (ss_one (ss_raise rfl (takes_of rfl rfl rfl rfl) cn_BadNumber (sf_PartError___init__ T) (supCB_ok (T.ow 2 rfl)) (iniB_ok (T.ow 1 rfl)).1 (iniB_ok (T.ow 1 rfl)).2 (d2 hr) (T.free 22 rfl) rfl (T.glo 23 rfl) se_str rfl rfl rfl)) ss_nil))

/-! is_word -/
abbrev n_is_word : List Str := [("thing" : Str)]
theorem sc_is_word : FnScope n_is_word [("thing" : Str)] (defScope s_is_word) := scp_of (by decide +kernel)
theorem f_is_word (T : Tx w K mg base) : FunD K "is_word" "is_word" (defArgs s_is_word) (defBody s_is_word) (defScope s_is_word) [] [] (He.ga K "is_word") (fdOf K (He.ga K "is_word")) := (T.fn_ 13 rfl).d rfl
theorem b_is_word (T : Tx w K mg base) : Binds K (fdOf K (He.ga K "is_word")) [("thing" : Str)] [] := (f_is_word T).bindsN fun _ _ _ _ _ _ us hl => match us, hl with | [_], _ => rfl
def bm_is_word : SS := sRet (eCall 3 m_is_between [] (eCons (eV 0) (eCons (eC (.int 0)) (eCons (eC (.int 3)) (eNil)))))
def m_is_word : List D → M D := mkFn [] 1 1 bm_is_word
theorem ok_is_word (T : Tx w K mg base) : FnOk PP w K mg base (L2.CX PP w) 4 (He.ga K "is_word") (fdOf K (He.ga K "is_word")) [("thing" : Str)] (spM (CL K) 1 m_is_word) := by
  refine FunD.mir (N := n_is_word) (nN := 1) (mb := bm_is_word) (f_is_word T) sc_is_word rfl fun cdv A outer s H E hcd hr => ?_
  exact (ss_one (ss_ret (se_call over0 (ok_is_between T) hr (by decide) rfl (T.glo 21 rfl) (f_is_between T).kp (b_is_between T) .nil (fun _ _ => rfl) (takes_of rfl rfl rfl rfl) (sa_cons (se_var 0 rfl (vis_of rfl) rfl rfl) (sa_cons se_int (sa_cons (se_globI (T.int 27 rfl) rfl rfl) sa_nil rfl) rfl) rfl) rfl rfl rfl)))

/-! is_node -/
abbrev n_is_node : List Str := [("many" : Str), ("thing" : Str)]
theorem sc_is_node : FnScope n_is_node [("many" : Str), ("thing" : Str)] (defScope s_is_node) := scp_of (by decide +kernel)
theorem f_is_node (T : Tx w K mg base) : FunD K "is_node" "is_node" (defArgs s_is_node) (defBody s_is_node) (defScope s_is_node) [] [] (He.ga K "is_node") (fdOf K (He.ga K "is_node")) := (T.fn_ 14 rfl).d rfl
theorem b_is_node (T : Tx w K mg base) : Binds K (fdOf K (He.ga K "is_node")) [("many" : Str), ("thing" : Str)] [] := (f_is_node T).bindsN fun _ _ _ _ _ _ us hl => match us, hl with | [_, _], _ => rfl
def bm_is_node : SS := sSeq (sIf (tOrM (tNotM (tOf isB (eUn (dIsi "tuple") (eV 1)))) (tOrM (tOf isB (eBin dEq (eV 1) (eOfL dTup (eNil)))) (tOrM (tNotM (tOf isB (eUn (dIsi "str") (eBin dIdx (eV 1) (eC (.int 0)))))) (tOf isB (eBin (dInG "PARTS" kv_PARTS true) (eBin dIdx (eV 1) (eC (.int 0))) (eC (.cls "PARTS"))))))) (sRet (eC (.bl false))) (sNil)) (sSeq (sIf (tOf isB (eBin dEq (eBin dIdx (eV 1) (eC (.int 0))) (eC (.str "says")))) (sRet (eAnd (eBin dEq (eOfL bLen (eCons (eV 1) (eNil))) (eC (.int 3))) (eAnd (eCall 3 m_is_between [] (eCons (eBin dIdx (eV 1) (eC (.int 1))) (eCons (eC (.int 0)) (eCons (eBin dSub (eV 0) (eC (.int 1))) (eNil))))) (eCall 1 m_is_word [] (eCons (eBin dIdx (eV 1) (eC (.int 2))) (eNil)))))) (sNil)) (sRet (eBin dEq (eOfL bLen (eCons (eV 1) (eNil))) (eBin dAdd (eBin (dIxG "PARTS" kv_PARTS) (eC (.cls "PARTS")) (eBin dIdx (eV 1) (eC (.int 0)))) (eC (.int 1))))))
def m_is_node : List D → M D := mkFn [] 2 2 bm_is_node
theorem ok_is_node (T : Tx w K mg base) : FnOk PP w K mg base (L2.CX PP w) 5 (He.ga K "is_node") (fdOf K (He.ga K "is_node")) [("many" : Str), ("thing" : Str)] (spM (CL K) 2 m_is_node) := by
  refine FunD.mir (N := n_is_node) (nN := 2) (mb := bm_is_node) (f_is_node T) sc_is_node rfl fun cdv A outer s H E hcd hr => ?_
  exact (ss_cons (ss_if (st_w (sw_or (st_not (st_val (se_isi (ocB_ok (T.ow 0 rfl) rfl) rfl (by decide) rfl (T.free 11 rfl) rfl (T.free 12 rfl) (by decide +kernel) (by decide) rfl (se_var 1 rfl (vis_of rfl) rfl rfl) rfl rfl rfl) (fun _ => rfl))) (sw_or (st_cmp (op_eqD (u64 hr)) od_eq (se_var 1 rfl (vis_of rfl) rfl rfl) (se_tup sa_nil) rfl) (sw_or (st_not (st_val (se_isi (ocB_ok (T.ow 0 rfl) rfl) rfl (by decide) rfl (T.free 11 rfl) rfl (T.free 14 rfl) (by decide +kernel) (by decide) rfl (se_ix rfl (hu_of hr) (se_var 1 rfl (vis_of rfl) rfl rfl) se_int (fun _ _ => rfl)) rfl rfl rfl) (fun _ => rfl))) (sw_or1 (st_cmp (op_notIn_kd (T.di 0 rfl).choose_spec.choose_spec) (od_notinG cn_PARTS (T.ow 3 rfl)) (se_ix rfl (hu_of hr) (se_var 1 rfl (vis_of rfl) rfl rfl) se_int (fun _ _ => rfl)) (se_gobj rfl (T.glo 26 rfl) cn_PARTS rfl) rfl)))))) (ss_one (ss_ret se_bl)) ss_nil)
    (ss_cons (ss_if (st_cmp (op_eqD (u64 hr)) od_eq (se_ix rfl (hu_of hr) (se_var 1 rfl (vis_of rfl) rfl rfl) se_int (fun _ _ => rfl)) se_str rfl) (ss_one (ss_ret (se_and (se_cmp (op_eqD (u64 hr)) od_eq (se_callB call_lenAll ld_len rfl (T.free 2 rfl) (by decide +kernel) (sa_cons (se_var 1 rfl (vis_of rfl) rfl rfl) sa_nil rfl) (by decide) rfl rfl rfl) se_int rfl) (se_and (se_call over0 (ok_is_between T) hr (by decide) rfl (T.glo 21 rfl) (f_is_between T).kp (b_is_between T) .nil (fun _ _ => rfl) (takes_of rfl rfl rfl rfl) (sa_cons (se_ix rfl (hu_of hr) (se_var 1 rfl (vis_of rfl) rfl rfl) se_int (fun _ _ => rfl)) (sa_cons se_int (sa_cons (se_bin op_sub od_sub (se_var 0 rfl (vis_of rfl) rfl rfl) se_int) sa_nil rfl) rfl) rfl) rfl rfl rfl) (se_one (se_call over0 (ok_is_word T) hr (by decide) rfl (T.glo 28 rfl) (f_is_word T).kp (b_is_word T) .nil (fun _ _ => rfl) (takes_of rfl rfl rfl rfl) (sa_cons (se_ix rfl (hu_of hr) (se_var 1 rfl (vis_of rfl) rfl rfl) se_int (fun _ _ => rfl)) sa_nil rfl) rfl rfl rfl)))))) ss_nil)
    (ss_one (ss_ret (se_cmp (op_eqD (u64 hr)) od_eq (se_callB call_lenAll ld_len rfl (T.free 2 rfl) (by decide +kernel) (sa_cons (se_var 1 rfl (vis_of rfl) rfl rfl) sa_nil rfl) (by decide) rfl rfl rfl) (se_bin op_addAll od_add (se_ixG rfl (T.di 0 rfl) cn_PARTS (T.ow 3 rfl) (se_gobj rfl (T.glo 26 rfl) cn_PARTS rfl) (se_ix rfl (hu_of hr) (se_var 1 rfl (vis_of rfl) rfl rfl) se_int (fun _ _ => rfl)) (fun _ _ => rfl)) se_int) rfl)))))

/-! sentence_right -/
abbrev n_sentence_right : List Str := [("many" : Str), ("thing" : Str), ("waiting" : Str), ("part" : Str), ("depth" : Str), ("inner" : Str)]
theorem sc_sentence_right : FnScope n_sentence_right [("many" : Str), ("thing" : Str)] (defScope s_sentence_right) := scp_of (by decide +kernel)
theorem f_sentence_right (T : Tx w K mg base) : FunD K "sentence_right" "sentence_right" (defArgs s_sentence_right) (defBody s_sentence_right) (defScope s_sentence_right) [] [] (He.ga K "sentence_right") (fdOf K (He.ga K "sentence_right")) := (T.fn_ 15 rfl).d rfl
theorem b_sentence_right (T : Tx w K mg base) : Binds K (fdOf K (He.ga K "sentence_right")) [("many" : Str), ("thing" : Str)] [] := (f_sentence_right T).bindsN fun _ _ _ _ _ _ us hl => match us, hl with | [_, _], _ => rfl
def bm_sentence_right : SS := sSeq (sSet 2 (eOfL dNewL (eCons (eOfL dTup (eCons (eV 1) (eCons (eC (.int 1)) (eNil)))) (eNil)))) (sSeq (sWhile 1000000 (tOf isB (eBin dNe (eV 2) (eOfL dLst (eNil)))) (sSeq (sAsg (eMet0 isLst (fun x => mPop x []) (eV 2)) (gT [gN 3, gN 4])) (sSeq (sIf (tOrM (tOf isB (eBin dGt (eV 4) (eC (.int 6)))) (tNotM (tOf isB (eCall 2 m_is_node [] (eCons (eV 0) (eCons (eV 3) (eNil))))))) (sRet (eC (.bl false))) (sNil)) (sExpr (eMet isLst mExtend (eV 2) (eCons (eIf (tOf isB (eBin dNe (eBin dIdx (eV 3) (eC (.int 0))) (eC (.str "says")))) (eLc (iSeq (eSlice (eV 3) (oSome (eC (.int 1))) (oNone))) (gN 5) (tYesM) (eOfL dTup (eCons (eV 5) (eCons (eBin dAdd (eV 4) (eC (.int 1))) (eNil)))) [5]) (eOfL dLst (eNil))) (eNil))))))) (sRet (eC (.bl true))))
def m_sentence_right : List D → M D := mkFn [] 2 6 bm_sentence_right
theorem ok_sentence_right (T : Tx w K mg base) : FnOk PP w K mg base (L2.CX PP w) 6 (He.ga K "sentence_right") (fdOf K (He.ga K "sentence_right")) [("many" : Str), ("thing" : Str)] (spM (CL K) 2 m_sentence_right) := by
  refine FunD.mir (N := n_sentence_right) (nN := 6) (mb := bm_sentence_right) (f_sentence_right T) sc_sentence_right rfl fun cdv A outer s H E hcd hr => ?_
  exact (ss_cons (ss_set (i := 2) sc_sentence_right.nd rfl (loc_of rfl) (fnl_of rfl) (se_newL (sa_cons (se_tup (sa_cons (se_var 1 rfl (vis_of rfl) rfl rfl) (sa_cons se_int sa_nil rfl) rfl)) sa_nil rfl)) rfl)
    (ss_cons (ss_while (passes_of rfl) (st_cmp (op_neD (u64 hr)) od_ne (se_var 2 rfl (vis_of rfl) rfl rfl) (se_lst sa_nil) rfl) (ss_cons (ss_asg (se_met0 rfl PySem.F.plainAttrs_list PySem.F.slot_list_pop PySem.F.type_list_pop mt_pop lst_tyV md_pop (se_var 2 rfl (vis_of rfl) rfl rfl) rfl rfl) (sg_tup rfl rfl (sgs_cons (sg_name sc_sentence_right.nd (i := 3) rfl (loc_of rfl) (fnl_of rfl)) (sgs_cons (sg_name sc_sentence_right.nd (i := 4) rfl (loc_of rfl) (fnl_of rfl)) sgs_nil rfl) rfl) rfl rfl) rfl rfl rfl)
    (ss_cons (ss_if (st_w (sw_or (st_cmp op_gt (od_rel _) (se_var 4 rfl (vis_of rfl) rfl rfl) (se_globI (T.int 25 rfl) rfl rfl) rfl) (sw_or1 (st_not (st_val (se_call over0 (ok_is_node T) hr (by decide) rfl (T.glo 29 rfl) (f_is_node T).kp (b_is_node T) .nil (fun _ _ => rfl) (takes_of rfl rfl rfl rfl) (sa_cons (se_var 0 rfl (vis_of rfl) rfl rfl) (sa_cons (se_var 3 rfl (vis_of rfl) rfl rfl) sa_nil rfl) rfl) rfl rfl rfl) (fun _ => rfl)))))) (ss_one (ss_ret se_bl)) ss_nil)
    (ss_one (ss_expr (se_met rfl PySem.F.plainAttrs_list PySem.F.slot_list_extend PySem.F.type_list_extend mt_extend lst_tyV md_extend (se_var 2 rfl (vis_of rfl) rfl rfl) (sa_cons (se_if (st_cmp (op_neD (u64 hr)) od_ne (se_ix rfl (hu_of hr) (se_var 3 rfl (vis_of rfl) rfl rfl) se_int (fun _ _ => rfl)) se_str rfl) (se_lc (own := [("inner", 5)]) rfl sc_sentence_right.nd (si_seq rfl (se_slice rfl (se_var 3 rfl (vis_of rfl) rfl rfl) (so_some se_int) so_none)) (blk_of rfl) (by decide) (fun _ _ _ _ _ => (sg_name sc_sentence_right.nd (i := 5) rfl (loc_of rfl) (fnl_of rfl))) (fun _ _ _ _ _ => sts_nil) (fun _ _ _ _ _ => (se_tup (sa_cons (se_var 5 rfl (vis_of rfl) rfl rfl) (sa_cons (se_bin op_addAll od_add (se_var 4 rfl (vis_of rfl) rfl rfl) se_int) sa_nil rfl) rfl))) (fun _ => rfl)) (se_lst sa_nil)) sa_nil rfl) rfl rfl rfl rfl rfl) rfl)))))
    (ss_one (ss_ret se_bl))))

/-! is_sentence -/
abbrev n_is_sentence : List Str := [("many" : Str), ("thing" : Str)]
theorem sc_is_sentence : FnScope n_is_sentence [("many" : Str), ("thing" : Str)] (defScope s_is_sentence) := scp_of (by decide +kernel)
theorem f_is_sentence (T : Tx w K mg base) : FunD K "is_sentence" "is_sentence" (defArgs s_is_sentence) (defBody s_is_sentence) (defScope s_is_sentence) [] [] (He.ga K "is_sentence") (fdOf K (He.ga K "is_sentence")) := (T.fn_ 16 rfl).d rfl
theorem b_is_sentence (T : Tx w K mg base) : Binds K (fdOf K (He.ga K "is_sentence")) [("many" : Str), ("thing" : Str)] [] := (f_is_sentence T).bindsN fun _ _ _ _ _ _ us hl => match us, hl with | [_, _], _ => rfl
abbrev g_is_sentence_0_thing_many : List D → List D → List D := pick [(false, 1), (false, 0)]
theorem kb_is_sentence_0_thing_many (T : Tx w K mg base) : KBd (CL K) K (fdOf K (He.ga K "is_sentence")) [("many" : Str), ("thing" : Str)] 0 [("thing" : Str), ("many" : Str)] g_is_sentence_0_thing_many := FunD.kbd [(false, 1), (false, 0)] (f_is_sentence T) fun _ _ _ _ _ _ us ws h1 h2 => match us, ws, h1, h2 with | [], [_, _], _, _ => rfl
def bm_is_sentence : SS := sSeq (sExpr (eCall 1 m_need_many [] (eCons (eV 0) (eNil)))) (sRet (eCall 2 m_sentence_right [] (eCons (eV 0) (eCons (eV 1) (eNil)))))
def m_is_sentence : List D → M D := mkFn [] 2 2 bm_is_sentence
theorem ok_is_sentence (T : Tx w K mg base) : FnOk PP w K mg base (L2.CX PP w) 7 (He.ga K "is_sentence") (fdOf K (He.ga K "is_sentence")) [("many" : Str), ("thing" : Str)] (spM (CL K) 2 m_is_sentence) := by
  refine FunD.mir (N := n_is_sentence) (nN := 2) (mb := bm_is_sentence) (f_is_sentence T) sc_is_sentence rfl fun cdv A outer s H E hcd hr => ?_
  exact (ss_cons (ss_expr (se_call over0 (ok_need_many T) hr (by decide) rfl (T.glo 24 rfl) (f_need_many T).kp (b_need_many T) .nil (fun _ _ => rfl) (takes_of rfl rfl rfl rfl) (sa_cons (se_var 0 rfl (vis_of rfl) rfl rfl) sa_nil rfl) rfl rfl rfl) rfl)
    (ss_one (ss_ret (se_call over0 (ok_sentence_right T) hr (by decide) rfl (T.glo 30 rfl) (f_sentence_right T).kp (b_sentence_right T) .nil (fun _ _ => rfl) (takes_of rfl rfl rfl rfl) (sa_cons (se_var 0 rfl (vis_of rfl) rfl rfl) (sa_cons (se_var 1 rfl (vis_of rfl) rfl rfl) sa_nil rfl) rfl) rfl rfl rfl))))

/-! _law_caught -/
abbrev n__law_caught : List Str := [("work" : Str), ("caught" : Str), ("error" : Str)]
theorem sc__law_caught : FnScope n__law_caught [("work" : Str)] (defScope s__law_caught) := scp_of (by decide +kernel)
theorem f__law_caught (T : Tx w K mg base) : FunD K "_law_caught" "_law_caught" (defArgs s__law_caught) (defBody s__law_caught) (defScope s__law_caught) [] [] (He.ga K "_law_caught") (fdOf K (He.ga K "_law_caught")) := (T.fn_ 17 rfl).d rfl
theorem b__law_caught (T : Tx w K mg base) : Binds K (fdOf K (He.ga K "_law_caught")) [("work" : Str)] [] := (f__law_caught T).bindsN fun _ _ _ _ _ _ us hl => match us, hl with | [_], _ => rfl
abbrev KF__law_caught : Nat := 15
def bm__law_caught : (List D → M D) → SS := fun op => sSeq (sSet 1 (eC .non)) (sSeq (sTryAs [("WatchError", true), ("PartError", true), ("ItemError", true), ("BadNumber", true), ("BadWords", true), ("BadSentence", true)] 2 1 (sExpr (eCallF 0 0 op eNil))) (sRet (eV 1)))
def m__law_caught : (List D → M D) → List D → M D := mkFnF [] 1 3 bm__law_caught
theorem ok__law_caught (T : Tx w K mg base) : FnF PP w K mg base (CL K) 17 16 0 (He.ga K "_law_caught") (fdOf K (He.ga K "_law_caught")) [("work" : Str)] m__law_caught := by
  refine FunD.mirF (N := n__law_caught) (nN := 3) (mb := bm__law_caught) (f__law_caught T) grd sc__law_caught rfl fun cdv A outer s H E g F0 A0 op hcd hr cb => ?_
  exact (ss_cons (ss_set (i := 1) sc__law_caught.nd rfl (loc_of rfl) (fnl_of rfl) se_non rfl)
    (ss_cons (ss_tryAs (i := 2) (j := 1) (xs := [("WatchError", true), ("PartError", true), ("ItemError", true), ("BadNumber", true), ("BadWords", true), ("BadSentence", true)]) rfl rfl rfl sc__law_caught.nd rfl rfl rfl rfl (by decide) rfl rfl rfl ⟨rfl, rfl, .inl (T.glo 33 rfl)⟩ (takes_of rfl rfl rfl rfl) (exmB_ok (T.ow 4 rfl)) (fun _ _ _ tk hp => (ss_one (ss_expr (se_callFv0 (i := 0) rfl grd cb rfl hr (by decide) tk rfl (vis_of rfl) rfl rfl) rfl))))
    (ss_one (ss_ret (se_var 1 rfl (vis_of rfl) rfl rfl)))))

/-! _law_kind -/
abbrev n__law_kind : List Str := [("work" : Str), ("error" : Str), ("words" : Str), ("told" : Str), ("word" : Str), ("known" : Str)]
theorem sc__law_kind : FnScope n__law_kind [("work" : Str)] (defScope s__law_kind) := scp_of (by decide +kernel)
theorem f__law_kind (T : Tx w K mg base) : FunD K "_law_kind" "_law_kind" (defArgs s__law_kind) (defBody s__law_kind) (defScope s__law_kind) [] [] (He.ga K "_law_kind") (fdOf K (He.ga K "_law_kind")) := (T.fn_ 18 rfl).d rfl
theorem b__law_kind (T : Tx w K mg base) : Binds K (fdOf K (He.ga K "_law_kind")) [("work" : Str)] [] := (f__law_kind T).bindsN fun _ _ _ _ _ _ us hl => match us, hl with | [_], _ => rfl
abbrev KF__law_kind : Nat := 15
def bm__law_kind : (List D → M D) → SS := fun op => sSeq (sSet 1 (eCallL m__law_caught 1 (eNil) (moVar 0 op))) (sSeq (sIf (tOf isB (eBin dIs (eV 1) (eC .non))) (sRet (eC .non)) (sNil)) (sSeq (sSet 2 (eOfL dLst (eCons (eOfL dTup (eCons (eC (.str "number")) (eCons (eUn (dIsX [("WatchError", false), ("PartError", false), ("ItemError", false), ("BadNumber", true), ("BadWords", false), ("BadSentence", false)]) (eV 1)) (eNil)))) (eCons (eOfL dTup (eCons (eC (.str "words")) (eCons (eUn (dIsX [("WatchError", false), ("PartError", false), ("ItemError", false), ("BadNumber", false), ("BadWords", true), ("BadSentence", false)]) (eV 1)) (eNil)))) (eCons (eOfL dTup (eCons (eC (.str "sentence")) (eCons (eUn (dIsX [("WatchError", false), ("PartError", false), ("ItemError", false), ("BadNumber", false), ("BadWords", false), ("BadSentence", true)]) (eV 1)) (eNil)))) (eNil)))))) (sSeq (sSet 3 (eLc (iSeq (eV 2)) (gT [gN 4, gN 5]) (tOf isB (eV 5)) (eV 4) [4, 5])) (sSeq (sIf (tOf isB (eBin dNe (eOfL bLen (eCons (eV 3) (eNil))) (eC (.int 1)))) (sRet (eOfL dTup (eCons (eC (.str "mixed")) (eCons (eC .non) (eNil))))) (sNil)) (sSeq (sIf (tOf isB (eBin dIn (eBin dIdx (eV 3) (eC (.int 0))) (eOfL dLst (eCons (eC (.str "words")) (eNil))))) (sRet (eOfL dTup (eCons (eBin dIdx (eV 3) (eC (.int 0))) (eCons (eUn (dXf "index" ["ItemError", "BadWords"]) (eV 1)) (eNil))))) (sNil)) (sRet (eOfL dTup (eCons (eBin dIdx (eV 3) (eC (.int 0))) (eCons (eIf (tOf isB (eBin dIn (eBin dIdx (eV 3) (eC (.int 0))) (eOfL dLst (eCons (eC (.str "number")) (eNil))))) (eUn (dXf "part" ["PartError", "BadNumber"]) (eV 1)) (eC .non)) (eNil))))))))))
def m__law_kind : (List D → M D) → List D → M D := mkFnF [] 1 6 bm__law_kind
theorem ok__law_kind (T : Tx w K mg base) : FnF PP w K mg base (CL K) 18 16 0 (He.ga K "_law_kind") (fdOf K (He.ga K "_law_kind")) [("work" : Str)] m__law_kind := by
  refine FunD.mirF (N := n__law_kind) (nN := 6) (mb := bm__law_kind) (f__law_kind T) grd sc__law_kind rfl fun cdv A outer s H E g F0 A0 op hcd hr cb => ?_
  exact (ss_cons (ss_set (i := 1) sc__law_kind.nd rfl (loc_of rfl) (fnl_of rfl) (se_callL (ps := [("work" : Str)]) over1 (ok__law_caught T) hr (by decide) rfl (T.glo 34 rfl) (f__law_caught T).kp (b__law_caught T) (takes_of rfl rfl rfl rfl) (saf_last (far_var (i := 0) rfl cb rfl rfl (vis_of rfl) rfl rfl) rfl) rfl rfl rfl) rfl)
    (ss_cons (ss_if (st_cmp op_isAll od_is (se_var 1 rfl (vis_of rfl) rfl rfl) se_non rfl) (ss_one (ss_ret se_non)) ss_nil)
    (ss_cons (ss_set (i := 2) sc__law_kind.nd rfl (loc_of rfl) (fnl_of rfl) (se_lst (sa_cons (se_tup (sa_cons se_str (sa_cons (se_isX rfl (isxB_ok (T.ow 7 rfl)) rfl (T.free 11 rfl) rfl (T.glo 23 rfl) rfl (se_var 1 rfl (vis_of rfl) rfl rfl) rfl rfl rfl) sa_nil rfl) rfl)) (sa_cons (se_tup (sa_cons se_str (sa_cons (se_isX rfl (isxB_ok (T.ow 6 rfl)) rfl (T.free 11 rfl) rfl (T.glo 36 rfl) rfl (se_var 1 rfl (vis_of rfl) rfl rfl) rfl rfl rfl) sa_nil rfl) rfl)) (sa_cons (se_tup (sa_cons se_str (sa_cons (se_isX rfl (isxB_ok (T.ow 5 rfl)) rfl (T.free 11 rfl) rfl (T.glo 35 rfl) rfl (se_var 1 rfl (vis_of rfl) rfl rfl) rfl rfl rfl) sa_nil rfl) rfl)) sa_nil rfl) rfl) rfl)) rfl)
    (ss_cons (ss_setLc (own := [("word", 4), ("known", 5)]) (i := 3) rfl sc__law_kind.nd rfl rfl rfl (si_seq rfl (se_var 2 rfl (vis_of rfl) rfl rfl)) (blk_of rfl) (by decide) (fun _ _ _ _ _ => (sg_tup rfl rfl (sgs_cons (sg_name sc__law_kind.nd (i := 4) rfl (loc_of rfl) (fnl_of rfl)) (sgs_cons (sg_name sc__law_kind.nd (i := 5) rfl (loc_of rfl) (fnl_of rfl)) sgs_nil rfl) rfl) rfl rfl)) (fun _ _ _ _ _ => (sts_one (st_val (se_var 5 rfl (vis_of rfl) rfl rfl) (fun _ => rfl)))) (fun _ _ _ _ _ => (se_var 4 rfl (vis_of rfl) rfl rfl)) (fun _ => rfl))
    (ss_cons (ss_if (st_cmp (op_neD (u64 hr)) od_ne (se_callB call_lenAll ld_len rfl (T.free 2 rfl) (by decide +kernel) (sa_cons (se_var 3 rfl (vis_of rfl) rfl rfl) sa_nil rfl) (by decide) rfl rfl rfl) se_int rfl) (ss_one (ss_ret (se_tup (sa_cons se_str (sa_cons se_non sa_nil rfl) rfl)))) ss_nil)
    (ss_cons (ss_if (st_cmp (op_inAll (u65 hr)) od_in (se_ix rfl (hu_of hr) (se_var 3 rfl (vis_of rfl) rfl rfl) se_int (fun _ _ => rfl)) (se_lst (sa_cons se_str sa_nil rfl)) rfl) (ss_one (ss_ret (se_tup (sa_cons (se_ix rfl (hu_of hr) (se_var 3 rfl (vis_of rfl) rfl rfl) se_int (fun _ _ => rfl)) (sa_cons (se_xf rfl (xffB_ok (T.ow 8 rfl)) (se_var 1 rfl (vis_of rfl) rfl rfl) rfl) sa_nil rfl) rfl)))) ss_nil)
    (ss_one (ss_ret (se_tup (sa_cons (se_ix rfl (hu_of hr) (se_var 3 rfl (vis_of rfl) rfl rfl) se_int (fun _ _ => rfl)) (sa_cons (se_if (st_cmp (op_inAll (u65 hr)) od_in (se_ix rfl (hu_of hr) (se_var 3 rfl (vis_of rfl) rfl rfl) se_int (fun _ _ => rfl)) (se_lst (sa_cons se_str sa_nil rfl)) rfl) (se_xf rfl (xffB_ok (T.ow 9 rfl)) (se_var 1 rfl (vis_of rfl) rfl rfl) rfl) se_non) sa_nil rfl) rfl))))))))))

/-! is_list -/
abbrev n_is_list : List Str := [("thing" : Str)]
theorem sc_is_list : FnScope n_is_list [("thing" : Str)] (defScope s_is_list) := scp_of (by decide +kernel)
theorem f_is_list (T : Tx w K mg base) : FunD K "is_list" "is_list" (defArgs s_is_list) (defBody s_is_list) (defScope s_is_list) [] [] (He.ga K "is_list") (fdOf K (He.ga K "is_list")) := (T.fn_ 19 rfl).d rfl
theorem b_is_list (T : Tx w K mg base) : Binds K (fdOf K (He.ga K "is_list")) [("thing" : Str)] [] := (f_is_list T).bindsN fun _ _ _ _ _ _ us hl => match us, hl with | [_], _ => rfl
def bm_is_list : SS := sRet (eUn (dIsi2 "list" "tuple") (eV 0))
def m_is_list : List D → M D := mkFn [] 1 1 bm_is_list
theorem ok_is_list (T : Tx w K mg base) : FnOk PP w K mg base (L2.CX PP w) 2 (He.ga K "is_list") (fdOf K (He.ga K "is_list")) [("thing" : Str)] (spM (CL K) 1 m_is_list) := by
  refine FunD.mir (N := n_is_list) (nN := 1) (mb := bm_is_list) (f_is_list T) sc_is_list rfl fun cdv A outer s H E hcd hr => ?_
  exact (ss_one (ss_ret (se_isi2 (ocB_ok (T.ow 0 rfl) rfl) rfl (by decide) (by decide) rfl (T.free 11 rfl) rfl (T.free 10 rfl) (by decide +kernel) (by decide) rfl rfl (T.free 12 rfl) (by decide +kernel) (by decide) rfl (se_var 0 rfl (vis_of rfl) rfl rfl) rfl rfl rfl rfl rfl)))

/-! first_wrong -/
abbrev n_first_wrong : List Str := [("several" : Str), ("fits" : Str), ("index" : Str), ("item" : Str)]
theorem sc_first_wrong : FnScope n_first_wrong [("several" : Str), ("fits" : Str)] (defScope s_first_wrong) := scp_of (by decide +kernel)
theorem f_first_wrong (T : Tx w K mg base) : FunD K "first_wrong" "first_wrong" (defArgs s_first_wrong) (defBody s_first_wrong) (defScope s_first_wrong) [] [] (He.ga K "first_wrong") (fdOf K (He.ga K "first_wrong")) := (T.fn_ 20 rfl).d rfl
theorem b_first_wrong (T : Tx w K mg base) : Binds K (fdOf K (He.ga K "first_wrong")) [("several" : Str), ("fits" : Str)] [] := (f_first_wrong T).bindsN fun _ _ _ _ _ _ us hl => match us, hl with | [_, _], _ => rfl
abbrev KF_first_wrong : Nat := 4
def bm_first_wrong : (List D → M D) → SS := fun op => sSeq (sFor (iEnu (eV 0)) (gT [gN 2, gN 3]) (sIf (tNotM (tOf isB (eCallF 1 1 op (eCons (eV 3) (eNil))))) (sRet (eV 2)) (sNil))) (sRet (eC .non))
def m_first_wrong : (List D → M D) → List D → M D := mkFnF [] 2 4 bm_first_wrong
theorem ok_first_wrong (T : Tx w K mg base) : FnF PP w K mg base (CL K) 6 5 1 (He.ga K "first_wrong") (fdOf K (He.ga K "first_wrong")) [("several" : Str), ("fits" : Str)] m_first_wrong := by
  refine FunD.mirF (N := n_first_wrong) (nN := 4) (mb := bm_first_wrong) (f_first_wrong T) grd sc_first_wrong rfl fun cdv A outer s H E g F0 A0 op hcd hr cb => ?_
  exact (ss_cons (ss_for (passes_of rfl) rfl (si_enum rfl rfl (T.free 38 rfl) (se_var 0 rfl (vis_of rfl) rfl rfl) rfl) (sg_tup rfl rfl (sgs_cons (sg_name sc_first_wrong.nd (i := 2) rfl (loc_of rfl) (fnl_of rfl)) (sgs_cons (sg_name sc_first_wrong.nd (i := 3) rfl (loc_of rfl) (fnl_of rfl)) sgs_nil rfl) rfl) rfl rfl) (ss_one (ss_if (st_not (st_val (se_callFv (i := 1) rfl grd cb rfl hr (by decide) (takes_of rfl rfl rfl rfl) rfl (vis_of rfl) rfl rfl (sa_cons (se_var 3 rfl (vis_of rfl) rfl rfl) sa_nil rfl) rfl rfl) (fun _ => rfl))) (ss_one (ss_ret (se_var 2 rfl (vis_of rfl) rfl rfl))) ss_nil)) (fun _ => rfl))
    (ss_one (ss_ret se_non)))

/-! need_sentence -/
abbrev n_need_sentence : List Str := [("many" : Str), ("sentence" : Str)]
theorem sc_need_sentence : FnScope n_need_sentence [("many" : Str), ("sentence" : Str)] (defScope s_need_sentence) := scp_of (by decide +kernel)
theorem f_need_sentence (T : Tx w K mg base) : FunD K "need_sentence" "need_sentence" (defArgs s_need_sentence) (defBody s_need_sentence) (defScope s_need_sentence) [] [] (He.ga K "need_sentence") (fdOf K (He.ga K "need_sentence")) := (T.fn_ 21 rfl).d rfl
theorem b_need_sentence (T : Tx w K mg base) : Binds K (fdOf K (He.ga K "need_sentence")) [("many" : Str), ("sentence" : Str)] [] := (f_need_sentence T).bindsN fun _ _ _ _ _ _ us hl => match us, hl with | [_, _], _ => rfl
def bm_need_sentence : SS := sIf (tNotM (tOf isB (eCall 2 m_sentence_right [] (eCons (eV 0) (eCons (eV 1) (eNil)))))) (sRaise0 "BadSentence") (sNil)
def m_need_sentence : List D → M D := mkFn [] 2 2 bm_need_sentence
theorem ok_need_sentence (T : Tx w K mg base) : FnOk PP w K mg base (L2.CX PP w) 7 (He.ga K "need_sentence") (fdOf K (He.ga K "need_sentence")) [("many" : Str), ("sentence" : Str)] (spM (CL K) 2 m_need_sentence) := by
  refine FunD.mir (N := n_need_sentence) (nN := 2) (mb := bm_need_sentence) (f_need_sentence T) sc_need_sentence rfl fun cdv A outer s H E hcd hr => ?_
  exact (ss_one (ss_if (st_not (st_val (se_call over0 (ok_sentence_right T) hr (by decide) rfl (T.glo 30 rfl) (f_sentence_right T).kp (b_sentence_right T) .nil (fun _ _ => rfl) (takes_of rfl rfl rfl rfl) (sa_cons (se_var 0 rfl (vis_of rfl) rfl rfl) (sa_cons (se_var 1 rfl (vis_of rfl) rfl rfl) sa_nil rfl) rfl) rfl rfl rfl) (fun _ => rfl))) (ss_one (ss_raise0 rfl (takes_of rfl rfl rfl rfl) cn_BadSentence (T.ow 12 rfl) rfl (T.glo 35 rfl) rfl)) ss_nil))

/-! holds_by -/
abbrev n_holds_by : List Str := [("sentence" : Str), ("words" : Str), ("inner" : Str), ("part" : Str)]
theorem sc_holds_by : FnScope n_holds_by [("sentence" : Str), ("words" : Str)] (defScope s_holds_by) := scp_of (by decide +kernel)
theorem f_holds_by (T : Tx w K mg base) : FunD K "holds_by" "holds_by" (defArgs s_holds_by) (defBody s_holds_by) (defScope s_holds_by) [] [] (He.ga K "holds_by") (fdOf K (He.ga K "holds_by")) := (T.fn_ 22 rfl).d rfl
theorem b_holds_by (T : Tx w K mg base) : Binds K (fdOf K (He.ga K "holds_by")) [("sentence" : Str), ("words" : Str)] [] := (f_holds_by T).bindsN fun _ _ _ _ _ _ us hl => match us, hl with | [_, _], _ => rfl
def bm_holds_by : (List D → M D) → SS := fun m => sSeq (sIf (tOf isB (eBin dEq (eBin dIdx (eV 0) (eC (.int 0))) (eC (.str "says")))) (sRet (eBin dEq (eBin dIdx (eV 1) (eBin dIdx (eV 0) (eC (.int 1)))) (eBin dIdx (eV 0) (eC (.int 2))))) (sNil)) (sSeq (sSet 2 (eLc (iSeq (eSlice (eV 0) (oSome (eC (.int 1))) (oNone))) (gN 3) (tYesM) (eCall 2 m [] (eCons (eV 3) (eCons (eV 1) (eNil)))) [3])) (sSeq (sIf (tOf isB (eBin dEq (eBin dIdx (eV 0) (eC (.int 0))) (eC (.str "no")))) (sRet (eNot (eBin dIdx (eV 2) (eC (.int 0))))) (sNil)) (sRet (eIf (tOf isB (eBin dEq (eBin dIdx (eV 0) (eC (.int 0))) (eC (.str "both")))) (eOfL bAll (eCons (eV 2) (eNil))) (eOfL bAny (eCons (eV 2) (eNil)))))))
def m_holds_by : Nat → List D → M D
  | 0 => fun _ _ => .stuck
  | n + 1 => mkFn [] 2 4 (bm_holds_by (m_holds_by n))
theorem ok_holds_by (T : Tx w K mg base) : ∀ n, FnOk PP w K mg base (L2.CX PP w) (2 + n) (He.ga K "holds_by") (fdOf K (He.ga K "holds_by")) [("sentence" : Str), ("words" : Str)] (spM (CL K) 2 (m_holds_by n))
  | 0 => fnok_none rfl
  | n + 1 => by
    refine FunD.mir (k := 2 + n) (N := n_holds_by) (nN := 4) (mb := bm_holds_by (m_holds_by n)) (f_holds_by T) sc_holds_by rfl fun cdv A outer s H E hcd hr => ?_
    exact (ss_cons (ss_if (st_cmp (op_eqD (u64 hr)) od_eq (se_ix rfl (hu_of hr) (se_var 0 rfl (vis_of rfl) rfl rfl) se_int (fun _ _ => rfl)) se_str rfl) (ss_one (ss_ret (se_cmp (op_eqD (u64 hr)) od_eq (se_ix rfl (hu_of hr) (se_var 1 rfl (vis_of rfl) rfl rfl) (se_ix rfl (hu_of hr) (se_var 0 rfl (vis_of rfl) rfl rfl) se_int (fun _ _ => rfl)) (fun _ _ => rfl)) (se_ix rfl (hu_of hr) (se_var 0 rfl (vis_of rfl) rfl rfl) se_int (fun _ _ => rfl)) rfl))) ss_nil)
    (ss_cons (ss_setLc (own := [("part", 3)]) (i := 2) rfl sc_holds_by.nd rfl rfl rfl (si_seq rfl (se_slice rfl (se_var 0 rfl (vis_of rfl) rfl rfl) (so_some se_int) so_none)) (blk_of rfl) (by decide) (fun _ _ _ _ _ => (sg_name sc_holds_by.nd (i := 3) rfl (loc_of rfl) (fnl_of rfl))) (fun _ _ _ _ _ => sts_nil) (fun _ _ _ _ _ => (se_call over0 (ok_holds_by T n) hr (by omega) rfl (T.glo 41 rfl) (f_holds_by T).kp (b_holds_by T) .nil (fun _ _ => rfl) takes_no (sa_cons (se_var 3 rfl (vis_of rfl) rfl rfl) (sa_cons (se_var 1 rfl (vis_of rfl) rfl rfl) sa_nil rfl) rfl) rfl rfl rfl)) (fun _ => rfl))
    (ss_cons (ss_if (st_cmp (op_eqD (u64 hr)) od_eq (se_ix rfl (hu_of hr) (se_var 0 rfl (vis_of rfl) rfl rfl) se_int (fun _ _ => rfl)) se_str rfl) (ss_one (ss_ret (se_not (se_ix rfl (hu_of hr) (se_var 2 rfl (vis_of rfl) rfl rfl) se_int (fun _ _ => rfl))))) ss_nil)
    (ss_one (ss_ret (se_if (st_cmp (op_eqD (u64 hr)) od_eq (se_ix rfl (hu_of hr) (se_var 0 rfl (vis_of rfl) rfl rfl) se_int (fun _ _ => rfl)) se_str rfl) (se_callB (cr_all rfl) ld_all rfl (T.free 42 rfl) (by decide +kernel) (sa_cons (se_var 2 rfl (vis_of rfl) rfl rfl) sa_nil rfl) (by decide) rfl rfl rfl) (se_callB (cr_any rfl) ld_any rfl (T.free 43 rfl) (by decide +kernel) (sa_cons (se_var 2 rfl (vis_of rfl) rfl rfl) sa_nil rfl) (by decide) rfl rfl rfl)))))))

/-! sentence_holds -/
abbrev n_sentence_holds : List Str := [("sentence" : Str), ("words" : Str), ("index" : Str)]
theorem sc_sentence_holds : FnScope n_sentence_holds [("sentence" : Str), ("words" : Str)] (defScope s_sentence_holds) := scp_of (by decide +kernel)
theorem f_sentence_holds (T : Tx w K mg base) : FunD K "sentence_holds" "sentence_holds" (defArgs s_sentence_holds) (defBody s_sentence_holds) (defScope s_sentence_holds) [] [] (He.ga K "sentence_holds") (fdOf K (He.ga K "sentence_holds")) := (T.fn_ 23 rfl).d rfl
theorem b_sentence_holds (T : Tx w K mg base) : Binds K (fdOf K (He.ga K "sentence_holds")) [("sentence" : Str), ("words" : Str)] [] := (f_sentence_holds T).bindsN fun _ _ _ _ _ _ us hl => match us, hl with | [_, _], _ => rfl
abbrev g_sentence_holds_0_words_sentence : List D → List D → List D := pick [(false, 1), (false, 0)]
theorem kb_sentence_holds_0_words_sentence (T : Tx w K mg base) : KBd (CL K) K (fdOf K (He.ga K "sentence_holds")) [("sentence" : Str), ("words" : Str)] 0 [("words" : Str), ("sentence" : Str)] g_sentence_holds_0_words_sentence := FunD.kbd [(false, 1), (false, 0)] (f_sentence_holds T) fun _ _ _ _ _ _ us ws h1 h2 => match us, ws, h1, h2 with | [], [_, _], _, _ => rfl
def bm_sentence_holds : SS := sSeq (sIf (tOrM (tNotM (tOf isB (eCall 1 m_is_list [] (eCons (eV 1) (eNil))))) (tNotM (tOf isB (eChain dLe dLe (eC (.int 1)) (eOfL bLen (eCons (eV 1) (eNil))) (eC (.int 4)))))) (sRaise "BadWords" "index" (eC .non)) (sNil)) (sSeq (sSet 2 (eCallL m_first_wrong 2 (eCons (eV 1) (eNil)) (fun _ => some m_is_word))) (sSeq (sIf (tOf isB (eBin dIsNot (eV 2) (eC .non))) (sRaise "BadWords" "index" (eV 2)) (sNil)) (sSeq (sExpr (eCall 2 m_need_sentence [] (eCons (eOfL bLen (eCons (eV 1) (eNil))) (eCons (eV 0) (eNil))))) (sRet (eCall 2 (m_holds_by 12) [] (eCons (eV 0) (eCons (eV 1) (eNil))))))))
def m_sentence_holds : List D → M D := mkFn [] 2 3 bm_sentence_holds
theorem ok_sentence_holds (T : Tx w K mg base) : FnOk PP w K mg base (L2.CX PP w) 15 (He.ga K "sentence_holds") (fdOf K (He.ga K "sentence_holds")) [("sentence" : Str), ("words" : Str)] (spM (CL K) 2 m_sentence_holds) := by
  refine FunD.mir (N := n_sentence_holds) (nN := 3) (mb := bm_sentence_holds) (f_sentence_holds T) sc_sentence_holds rfl fun cdv A outer s H E hcd hr => ?_
  exact (ss_cons (ss_if (st_w (sw_or (st_not (st_val (se_call over0 (ok_is_list T) hr (by decide) rfl (T.glo 37 rfl) (f_is_list T).kp (b_is_list T) .nil (fun _ _ => rfl) (takes_of rfl rfl rfl rfl) (sa_cons (se_var 1 rfl (vis_of rfl) rfl rfl) sa_nil rfl) rfl rfl rfl) (fun _ => rfl))) (sw_or1 (st_not (st_chain op_le (od_rel _) op_le (od_rel _) se_int (se_callB call_lenAll ld_len rfl (T.free 2 rfl) (by decide +kernel) (sa_cons (se_var 1 rfl (vis_of rfl) rfl rfl) sa_nil rfl) (by decide) rfl rfl rfl) (se_globI (T.int 20 rfl) rfl rfl) rfl))))) (ss_one (ss_raise rfl (takes_of rfl rfl rfl rfl) cn_BadWords (sf_ItemError___init__ T) (supCB_ok (T.ow 11 rfl)) (iniB_ok (T.ow 10 rfl)).1 (iniB_ok (T.ow 10 rfl)).2 (d2 hr) (T.free 22 rfl) rfl (T.glo 36 rfl) se_non rfl rfl rfl)) ss_nil)
    (ss_cons (ss_set (i := 2) sc_sentence_holds.nd rfl (loc_of rfl) (fnl_of rfl) (se_callL (ps := [("several" : Str), ("fits" : Str)]) over0 (ok_first_wrong T) hr (by decide) rfl (T.glo 39 rfl) (f_first_wrong T).kp (b_first_wrong T) (takes_of rfl rfl rfl rfl) (saf_cons (se_var 1 rfl (vis_of rfl) rfl rfl) (saf_last (far_def' over0 ((ok_is_word T).mono (by decide)) rfl (T.glo 28 rfl) (f_is_word T) (b_is_word T) rfl rfl) rfl) rfl) rfl rfl rfl) rfl)
    (ss_cons (ss_if (st_cmp op_notAll od_isnot (se_var 2 rfl (vis_of rfl) rfl rfl) se_non rfl) (ss_one (ss_raise rfl (takes_of rfl rfl rfl rfl) cn_BadWords (sf_ItemError___init__ T) (supCB_ok (T.ow 11 rfl)) (iniB_ok (T.ow 10 rfl)).1 (iniB_ok (T.ow 10 rfl)).2 (d2 hr) (T.free 22 rfl) rfl (T.glo 36 rfl) (se_var 2 rfl (vis_of rfl) rfl rfl) rfl rfl rfl)) ss_nil)
    (ss_cons (ss_expr (se_call over0 (ok_need_sentence T) hr (by decide) rfl (T.glo 40 rfl) (f_need_sentence T).kp (b_need_sentence T) .nil (fun _ _ => rfl) (takes_of rfl rfl rfl rfl) (sa_cons (se_callB call_lenAll ld_len rfl (T.free 2 rfl) (by decide +kernel) (sa_cons (se_var 1 rfl (vis_of rfl) rfl rfl) sa_nil rfl) (by decide) rfl rfl rfl) (sa_cons (se_var 0 rfl (vis_of rfl) rfl rfl) sa_nil rfl) rfl) rfl rfl rfl) rfl)
    (ss_one (ss_ret (se_call over0 (ok_holds_by T 12) hr (by decide) rfl (T.glo 41 rfl) (f_holds_by T).kp (b_holds_by T) .nil (fun _ _ => rfl) (takes_of rfl rfl rfl rfl) (sa_cons (se_var 0 rfl (vis_of rfl) rfl rfl) (sa_cons (se_var 1 rfl (vis_of rfl) rfl rfl) sa_nil rfl) rfl) rfl rfl rfl)))))))

/-! _law_holds -/
abbrev n__law_holds : List Str := [("sentence" : Str), ("words" : Str), ("one" : Str), ("other" : Str)]
theorem sc__law_holds : FnScope n__law_holds [("sentence" : Str), ("words" : Str)] (defScope s__law_holds) := scp_of (by decide +kernel)
theorem f__law_holds (T : Tx w K mg base) : FunD K "_law_holds" "_law_holds" (defArgs s__law_holds) (defBody s__law_holds) (defScope s__law_holds) [] [] (He.ga K "_law_holds") (fdOf K (He.ga K "_law_holds")) := (T.fn_ 24 rfl).d rfl
theorem b__law_holds (T : Tx w K mg base) : Binds K (fdOf K (He.ga K "_law_holds")) [("sentence" : Str), ("words" : Str)] [] := (f__law_holds T).bindsN fun _ _ _ _ _ _ us hl => match us, hl with | [_, _], _ => rfl
def bm__law_holds : (List D → M D) → SS := fun m => sSeq (sIf (tOf isB (eBin dEq (eBin dIdx (eV 0) (eC (.int 0))) (eC (.str "says")))) (sRet (eBin dEq (eBin dIdx (eV 1) (eBin dIdx (eV 0) (eC (.int 1)))) (eBin dIdx (eV 0) (eC (.int 2))))) (sNil)) (sSeq (sIf (tOf isB (eBin dEq (eBin dIdx (eV 0) (eC (.int 0))) (eC (.str "no")))) (sRet (eNot (eCall 2 m [] (eCons (eBin dIdx (eV 0) (eC (.int 1))) (eCons (eV 1) (eNil)))))) (sNil)) (sSeq (sPar [2, 3] (eCons (eCall 2 m [] (eCons (eBin dIdx (eV 0) (eC (.int 1))) (eCons (eV 1) (eNil)))) (eCons (eCall 2 m [] (eCons (eBin dIdx (eV 0) (eC (.int 2))) (eCons (eV 1) (eNil)))) (eNil)))) (sRet (eIf (tOf isB (eBin dEq (eBin dIdx (eV 0) (eC (.int 0))) (eC (.str "both")))) (eAnd (eV 2) (eV 3)) (eOr (eV 2) (eV 3))))))
def m__law_holds : Nat → List D → M D
  | 0 => fun _ _ => .stuck
  | n + 1 => mkFn [] 2 4 (bm__law_holds (m__law_holds n))
theorem ok__law_holds (T : Tx w K mg base) : ∀ n, FnOk PP w K mg base (L2.CX PP w) (2 + n) (He.ga K "_law_holds") (fdOf K (He.ga K "_law_holds")) [("sentence" : Str), ("words" : Str)] (spM (CL K) 2 (m__law_holds n))
  | 0 => fnok_none rfl
  | n + 1 => by
    refine FunD.mir (k := 2 + n) (N := n__law_holds) (nN := 4) (mb := bm__law_holds (m__law_holds n)) (f__law_holds T) sc__law_holds rfl fun cdv A outer s H E hcd hr => ?_
    exact (ss_cons (ss_if (st_cmp (op_eqD (u64 hr)) od_eq (se_ix rfl (hu_of hr) (se_var 0 rfl (vis_of rfl) rfl rfl) se_int (fun _ _ => rfl)) se_str rfl) (ss_one (ss_ret (se_cmp (op_eqD (u64 hr)) od_eq (se_ix rfl (hu_of hr) (se_var 1 rfl (vis_of rfl) rfl rfl) (se_ix rfl (hu_of hr) (se_var 0 rfl (vis_of rfl) rfl rfl) se_int (fun _ _ => rfl)) (fun _ _ => rfl)) (se_ix rfl (hu_of hr) (se_var 0 rfl (vis_of rfl) rfl rfl) se_int (fun _ _ => rfl)) rfl))) ss_nil)
    (ss_cons (ss_if (st_cmp (op_eqD (u64 hr)) od_eq (se_ix rfl (hu_of hr) (se_var 0 rfl (vis_of rfl) rfl rfl) se_int (fun _ _ => rfl)) se_str rfl) (ss_one (ss_ret (se_not (se_call over0 (ok__law_holds T n) hr (by omega) rfl (T.glo 46 rfl) (f__law_holds T).kp (b__law_holds T) .nil (fun _ _ => rfl) (takes_of rfl rfl rfl rfl) (sa_cons (se_ix rfl (hu_of hr) (se_var 0 rfl (vis_of rfl) rfl rfl) se_int (fun _ _ => rfl)) (sa_cons (se_var 1 rfl (vis_of rfl) rfl rfl) sa_nil rfl) rfl) rfl rfl rfl)))) ss_nil)
    (ss_cons (ss_par (i := 2) (j := 3) rfl sc__law_holds.nd rfl rfl (by decide) rfl rfl (sa_cons (se_call over0 (ok__law_holds T n) hr (by omega) rfl (T.glo 46 rfl) (f__law_holds T).kp (b__law_holds T) .nil (fun _ _ => rfl) (takes_of rfl rfl rfl rfl) (sa_cons (se_ix rfl (hu_of hr) (se_var 0 rfl (vis_of rfl) rfl rfl) se_int (fun _ _ => rfl)) (sa_cons (se_var 1 rfl (vis_of rfl) rfl rfl) sa_nil rfl) rfl) rfl rfl rfl) (sa_cons (se_call over0 (ok__law_holds T n) hr (by omega) rfl (T.glo 46 rfl) (f__law_holds T).kp (b__law_holds T) .nil (fun _ _ => rfl) (takes_of rfl rfl rfl rfl) (sa_cons (se_ix rfl (hu_of hr) (se_var 0 rfl (vis_of rfl) rfl rfl) se_int (fun _ _ => rfl)) (sa_cons (se_var 1 rfl (vis_of rfl) rfl rfl) sa_nil rfl) rfl) rfl rfl rfl) sa_nil rfl) rfl) rfl rfl)
    (ss_one (ss_ret (se_if (st_cmp (op_eqD (u64 hr)) od_eq (se_ix rfl (hu_of hr) (se_var 0 rfl (vis_of rfl) rfl rfl) se_int (fun _ _ => rfl)) se_str rfl) (se_and (se_var 2 rfl (vis_of rfl) rfl rfl) (se_one (se_var 3 rfl (vis_of rfl) rfl rfl))) (se_or (se_var 2 rfl (vis_of rfl) rfl rfl) (se_one (se_var 3 rfl (vis_of rfl) rfl rfl)))))))))

/-! law -/
abbrev n_law : List Str := [("script" : Str), ("tape" : Str), ("turn" : Str), ("many" : Str), ("sentence" : Str), ("words" : Str), ("deep" : Str), ("step" : Str), ("things" : Str), ("thing" : Str), ("due" : Str), ("kind" : Str), ("wrong" : Str), ("spot" : Str), ("odd" : Str), ("item" : Str), ("lap" : Str)]
theorem sc_law : FnScope n_law [("script" : Str)] (defScope s_law) := scp_of (by decide +kernel)
theorem f_law (T : Tx w K mg base) : FunD K "law" "law" (defArgs s_law) (defBody s_law) (defScope s_law) [] [] (He.ga K "law") (fdOf K (He.ga K "law")) := (T.fn_ 25 rfl).d rfl
theorem b_law (T : Tx w K mg base) : Binds K (fdOf K (He.ga K "law")) [("script" : Str)] [] := (f_law T).bindsN fun _ _ _ _ _ _ us hl => match us, hl with | [_], _ => rfl
def bm_law : SS := sSeq (sSet 1 (eCall 1 m__law_begun [] (eCons (eV 0) (eNil)))) (sSeq (sFor (iRng rng1 (eCons (eBin dAdd (eC (.int 8)) (eOfL bMin2 (eCons (eOfL bLen (eCons (eV 0) (eNil))) (eCons (eC (.int 12)) (eNil))))) (eNil))) (gN 2) (sSeq (sSet 3 (eBin dAdd (eC (.int 1)) (eCall 2 m__law_draw [] (eCons (eV 1) (eCons (eC (.int 4)) (eNil)))))) (sSeq (sSet 4 (eCall 3 (m__law_sentence 12) [] (eCons (eV 1) (eCons (eV 3) (eCons (eBin dAdd (eC (.int 1)) (eCall 2 m__law_draw [] (eCons (eV 1) (eCons (eC (.int 6)) (eNil))))) (eNil)))))) (sSeq (sSet 5 (eLc (iRng rng1 (eCons (eV 3) (eNil))) (gN 15) (tYesM) (eCall 2 m__law_draw [] (eCons (eV 1) (eCons (eC (.int 4)) (eNil)))) [15])) (sSeq (sSet 6 (eOfL dTup (eCons (eC (.str "says")) (eCons (eC (.int 0)) (eCons (eC (.int 1)) (eNil)))))) (sSeq (sFor (iRng rng1 (eCons (eBin dAdd (eC (.int 4)) (eCall 2 m__law_draw [] (eCons (eV 1) (eCons (eC (.int 4)) (eNil))))) (eNil))) (gN 7) (sSet 6 (eCall 2 m__law_pick [] (eCons (eV 1) (eCons (eOfL dLst (eCons (eOfL dTup (eCons (eC (.str "no")) (eCons (eV 6) (eNil)))) (eCons (eOfL dTup (eCons (eC (.str "both")) (eCons (eV 6) (eCons (eOfL dTup (eCons (eC (.str "says")) (eCons (eC (.int 0)) (eCons (eC (.int 0)) (eNil))))) (eNil))))) (eCons (eOfL dTup (eCons (eC (.str "either")) (eCons (eOfL dTup (eCons (eC (.str "says")) (eCons (eC (.int 0)) (eCons (eC (.int 3)) (eNil))))) (eCons (eV 6) (eNil))))) (eNil))))) (eNil)))))) (sSeq (sSet 8 (eOfL dLst (eCons (eV 4) (eCons (eOfL dTup (eCons (eC (.str "no")) (eCons (eV 4) (eNil)))) (eCons (eOfL bList (eCons (eV 4) (eNil))) (eCons (eC .non) (eCons (eC (.int 5)) (eCons (eC (.str "says")) (eCons (eOfL dTup (eNil)) (eCons (eOfL dTup (eCons (eC (.str "says")) (eNil))) (eCons (eOfL dTup (eCons (eC (.str "says")) (eCons (eV 3) (eCons (eC (.int 0)) (eNil))))) (eCons (eOfL dTup (eCons (eC (.str "says")) (eCons (eC (.int 0)) (eCons (eC (.int 4)) (eNil))))) (eCons (eV 6) (eCons (eOfL dTup (eCons (eC (.str "both")) (eCons (eV 6) (eCons (eV 4) (eNil))))) (eNil))))))))))))))) (sSeq (sFor (iSeq (eBin dAdd (eV 8) (eLc (iRng rng1 (eCons (eC (.int 8)) (eNil))) (gN 16) (tYesM) (eCall 2 (m__law_bent 16) [] (eCons (eV 1) (eCons (eV 4) (eNil)))) [16]))) (gN 9) (sSeq (sSet 10 (eCall 3 (m__law_is_sentence 12) [] (eCons (eV 3) (eCons (eV 9) (eCons (eC (.int 6)) (eNil)))))) (sSeq (sIf (tOrM (tNotM (tOf isB (eCall 2 m__law_says [] (eCons (eCall 2 m_is_sentence [] (eCons (eV 3) (eCons (eV 9) (eNil)))) (eCons (eV 10) (eNil)))))) (tNotM (tOf isB (eCall 2 m__law_says [] (eCons (eCallK 2 0 2 m_is_sentence g_is_sentence_0_thing_many eNil (eCons (eV 9) (eCons (eV 3) (eNil)))) (eCons (eV 10) (eNil))))))) (sRet (eC (.bl false))) (sNil)) (sSeq (sSet 11 (eCallL m__law_kind 1 (eNil) (fun env => some (opLam 0 (eCall 2 m_sentence_holds [] (eCons (eV 0) (eCons (eV 1) (eNil)))) (capsOf env [9, 5]))))) (sSeq (sIf (tOf isB (eBin dNe (eV 11) (eIf (tOf isB (eV 10)) (eC .non) (eOfL dTup (eCons (eC (.str "sentence")) (eCons (eC .non) (eNil))))))) (sRet (eC (.bl false))) (sNil)) (sIf (tAndM (tOf isB (eV 10)) (tNotM (tOf isB (eCall 2 m__law_says [] (eCons (eCallK 2 0 2 m_sentence_holds g_sentence_holds_0_words_sentence eNil (eCons (eOfL bTuple (eCons (eV 5) (eNil))) (eCons (eV 9) (eNil)))) (eCons (eCall 2 (m__law_holds 12) [] (eCons (eV 9) (eCons (eV 5) (eNil)))) (eNil))))))) (sRet (eC (.bl false))) (sNil))))))) (sSeq (sAsg (eOfL dTup (eCons (eCall 2 m__law_pick [] (eCons (eV 1) (eCons (eOfL dLst (eCons (eC (.int 0)) (eCons (eC (.int 5)) (eCons (eUn dNeg (eC (.int 1))) (eCons (eC .non) (eCons (eC (.bl true)) (eCons (eC (.str "2")) (eNil)))))))) (eNil)))) (eCons (eCall 2 m__law_draw [] (eCons (eV 1) (eCons (eV 3) (eNil)))) (eNil)))) (gT [gN 12, gN 13])) (sSeq (sIf (tOf isB (eBin dNe (eCallL m__law_kind 1 (eNil) (fun env => some (opLam 0 (eCall 2 m_is_sentence [] (eCons (eV 0) (eCons (eV 1) (eNil)))) (capsOf env [12, 4])))) (eOfL dTup (eCons (eC (.str "number")) (eCons (eC (.str "many")) (eNil)))))) (sRet (eC (.bl false))) (sNil)) (sSeq (sSet 14 (eBin dAdd (eBin dAdd (eBin dAdd (eSlice (eV 5) (oNone) (oSome (eV 13))) (eOfL dLst (eCons (eCall 2 m__law_pick [] (eCons (eV 1) (eCons (eOfL dLst (eCons (eC (.int 4)) (eCons (eUn dNeg (eC (.int 1))) (eCons (eC .non) (eCons (eC (.bl true)) (eCons (eC (.str "0")) (eNil))))))) (eNil)))) (eNil)))) (eSlice (eV 5) (oSome (eBin dAdd (eV 13) (eC (.int 1)))) (oNone))) (eBin dMul (eOfL dLst (eCons (eC (.int 0)) (eNil))) (eBin dSub (eC (.int 4)) (eV 3))))) (sSeq (sIf (tOf isB (eBin dNe (eCallL m__law_kind 1 (eNil) (fun env => some (opLam 0 (eCall 2 m_sentence_holds [] (eCons (eCall 2 m__law_pick [] (eCons (eV 1) (eCons (eOfL dLst (eCons (eV 2) (eCons (eC .non) (eNil)))) (eNil)))) (eCons (eV 0) (eNil)))) (capsOf env [14, 1, 4])))) (eOfL dTup (eCons (eC (.str "words")) (eCons (eV 13) (eNil)))))) (sRet (eC (.bl false))) (sNil)) (sIf (tOf isB (eBin dNe (eCallL m__law_kind 1 (eNil) (fun env => some (opLam 0 (eCall 2 m_sentence_holds [] (eCons (eV 0) (eCons (eCall 2 m__law_pick [] (eCons (eV 1) (eCons (eOfL dLst (eCons (eC .non) (eCons (eOfL dLst (eNil)) (eCons (eC (.int 5)) (eCons (eBin dMul (eOfL dLst (eCons (eC (.int 0)) (eNil))) (eC (.int 5))) (eCons (eC (.str "00")) (eCons (eC (.dk [])) (eNil)))))))) (eNil)))) (eNil)))) (capsOf env [4, 1])))) (eOfL dTup (eCons (eC (.str "words")) (eCons (eC .non) (eNil)))))) (sRet (eC (.bl false))) (sNil)))))))))))))) (sRet (eAnd (eBin dIs (eCall 2 m_sentence_holds [] (eCons (eOfL dTup (eCons (eC (.str "both")) (eCons (eOfL dTup (eCons (eC (.str "says")) (eCons (eC (.int 0)) (eCons (eC (.int 1)) (eNil))))) (eCons (eOfL dTup (eCons (eC (.str "no")) (eCons (eOfL dTup (eCons (eC (.str "says")) (eCons (eC (.int 1)) (eCons (eC (.int 0)) (eNil))))) (eNil)))) (eNil))))) (eCons (eOfL dLst (eCons (eC (.int 1)) (eCons (eC (.int 2)) (eNil)))) (eNil)))) (eC (.bl true))) (eBin dIs (eCall 2 m_sentence_holds [] (eCons (eOfL dTup (eCons (eC (.str "either")) (eCons (eOfL dTup (eCons (eC (.str "says")) (eCons (eC (.int 0)) (eCons (eC (.int 0)) (eNil))))) (eCons (eOfL dTup (eCons (eC (.str "says")) (eCons (eC (.int 1)) (eCons (eC (.int 0)) (eNil))))) (eNil))))) (eCons (eOfL dTup (eCons (eC (.int 1)) (eCons (eC (.int 2)) (eNil)))) (eNil)))) (eC (.bl false))))))
def m_law : List D → M D := mkFn [] 1 17 bm_law
theorem ok_law (T : Tx w K mg base) : FnOk PP w K mg base (L2.CX PP w) 22 (He.ga K "law") (fdOf K (He.ga K "law")) [("script" : Str)] (spM (CL K) 1 m_law) := by
  refine FunD.mir (N := n_law) (nN := 17) (mb := bm_law) (f_law T) sc_law rfl fun cdv A outer s H E hcd hr => ?_
  exact (ss_cons (ss_set (i := 1) sc_law.nd rfl (loc_of rfl) (fnl_of rfl) (se_call over0 (ok__law_begun T) hr (by decide) rfl (T.glo 1 rfl) (f__law_begun T).kp (b__law_begun T) .nil (fun _ _ => rfl) (takes_of rfl rfl rfl rfl) (sa_cons (se_var 0 rfl (vis_of rfl) rfl rfl) sa_nil rfl) rfl rfl rfl) rfl)
    (ss_cons (ss_for (passes_of rfl) rfl (si_range1 rfl (T.free 4 rfl) (sa_cons (se_bin op_addAll od_add se_int (se_callB (call_min2 rfl) ld_min2 rfl (T.free 3 rfl) (by decide +kernel) (sa_cons (se_callB call_lenAll ld_len rfl (T.free 2 rfl) (by decide +kernel) (sa_cons (se_var 0 rfl (vis_of rfl) rfl rfl) sa_nil rfl) (by decide) rfl rfl rfl) (sa_cons se_int sa_nil rfl) rfl) (by decide) rfl rfl rfl)) sa_nil rfl) rfl) (sg_name sc_law.nd (i := 2) rfl (loc_of rfl) (fnl_of rfl)) (ss_cons (ss_set (i := 3) sc_law.nd rfl (loc_of rfl) (fnl_of rfl) (se_bin op_addAll od_add se_int (se_call over0 (ok__law_draw T) hr (by decide) rfl (T.glo 7 rfl) (f__law_draw T).kp (b__law_draw T) .nil (fun _ _ => rfl) (takes_of rfl rfl rfl rfl) (sa_cons (se_var 1 rfl (vis_of rfl) rfl rfl) (sa_cons se_int sa_nil rfl) rfl) rfl rfl rfl)) rfl)
    (ss_cons (ss_set (i := 4) sc_law.nd rfl (loc_of rfl) (fnl_of rfl) (se_call over0 (ok__law_sentence T 12) hr (by decide) rfl (T.glo 8 rfl) (f__law_sentence T).kp (b__law_sentence T) .nil (fun _ _ => rfl) (takes_of rfl rfl rfl rfl) (sa_cons (se_var 1 rfl (vis_of rfl) rfl rfl) (sa_cons (se_var 3 rfl (vis_of rfl) rfl rfl) (sa_cons (se_bin op_addAll od_add se_int (se_call over0 (ok__law_draw T) hr (by decide) rfl (T.glo 7 rfl) (f__law_draw T).kp (b__law_draw T) .nil (fun _ _ => rfl) (takes_of rfl rfl rfl rfl) (sa_cons (se_var 1 rfl (vis_of rfl) rfl rfl) (sa_cons se_int sa_nil rfl) rfl) rfl rfl rfl)) sa_nil rfl) rfl) rfl) rfl rfl rfl) rfl)
    (ss_cons (ss_set (i := 5) sc_law.nd rfl (loc_of rfl) (fnl_of rfl) (se_lc (own := [("item", 15)]) rfl sc_law.nd (si_range1 rfl (T.free 4 rfl) (sa_cons (se_var 3 rfl (vis_of rfl) rfl rfl) sa_nil rfl) rfl) (blk_of rfl) (by decide) (fun _ _ _ _ _ => (sg_name sc_law.nd (i := 15) rfl (loc_of rfl) (fnl_of rfl))) (fun _ _ _ _ _ => sts_nil) (fun _ _ _ _ _ => (se_call over0 (ok__law_draw T) hr (by decide) rfl (T.glo 7 rfl) (f__law_draw T).kp (b__law_draw T) .nil (fun _ _ => rfl) takes_no (sa_cons (se_var 1 rfl (vis_of rfl) rfl rfl) (sa_cons se_int sa_nil rfl) rfl) rfl rfl rfl)) (fun _ => rfl)) rfl)
    (ss_cons (ss_set (i := 6) sc_law.nd rfl (loc_of rfl) (fnl_of rfl) (se_tup (sa_cons se_str (sa_cons se_int (sa_cons se_int sa_nil rfl) rfl) rfl)) rfl)
    (ss_cons (ss_for (passes_of rfl) rfl (si_range1 rfl (T.free 4 rfl) (sa_cons (se_bin op_addAll od_add se_int (se_call over0 (ok__law_draw T) hr (by decide) rfl (T.glo 7 rfl) (f__law_draw T).kp (b__law_draw T) .nil (fun _ _ => rfl) (takes_of rfl rfl rfl rfl) (sa_cons (se_var 1 rfl (vis_of rfl) rfl rfl) (sa_cons se_int sa_nil rfl) rfl) rfl rfl rfl)) sa_nil rfl) rfl) (sg_name sc_law.nd (i := 7) rfl (loc_of rfl) (fnl_of rfl)) (ss_one (ss_set (i := 6) sc_law.nd rfl (loc_of rfl) (fnl_of rfl) (se_call over0 (ok__law_pick T) hr (by decide) rfl (T.glo 9 rfl) (f__law_pick T).kp (b__law_pick T) .nil (fun _ _ => rfl) (takes_of rfl rfl rfl rfl) (sa_cons (se_var 1 rfl (vis_of rfl) rfl rfl) (sa_cons (se_lst (sa_cons (se_tup (sa_cons se_str (sa_cons (se_var 6 rfl (vis_of rfl) rfl rfl) sa_nil rfl) rfl)) (sa_cons (se_tup (sa_cons se_str (sa_cons (se_var 6 rfl (vis_of rfl) rfl rfl) (sa_cons (se_tup (sa_cons se_str (sa_cons se_int (sa_cons se_int sa_nil rfl) rfl) rfl)) sa_nil rfl) rfl) rfl)) (sa_cons (se_tup (sa_cons se_str (sa_cons (se_tup (sa_cons se_str (sa_cons se_int (sa_cons se_int sa_nil rfl) rfl) rfl)) (sa_cons (se_var 6 rfl (vis_of rfl) rfl rfl) sa_nil rfl) rfl) rfl)) sa_nil rfl) rfl) rfl)) sa_nil rfl) rfl) rfl rfl rfl) rfl)) (fun _ => rfl))
    (ss_cons (ss_set (i := 8) sc_law.nd rfl (loc_of rfl) (fnl_of rfl) (se_lst (sa_cons (se_var 4 rfl (vis_of rfl) rfl rfl) (sa_cons (se_tup (sa_cons se_str (sa_cons (se_var 4 rfl (vis_of rfl) rfl rfl) sa_nil rfl) rfl)) (sa_cons (se_callT call_list_of ld_list rfl (T.free 10 rfl) (by decide +kernel) (sa_cons (se_var 4 rfl (vis_of rfl) rfl rfl) sa_nil rfl) (by decide) rfl rfl rfl) (sa_cons se_non (sa_cons se_int (sa_cons se_str (sa_cons (se_tup sa_nil) (sa_cons (se_tup (sa_cons se_str sa_nil rfl)) (sa_cons (se_tup (sa_cons se_str (sa_cons (se_var 3 rfl (vis_of rfl) rfl rfl) (sa_cons se_int sa_nil rfl) rfl) rfl)) (sa_cons (se_tup (sa_cons se_str (sa_cons se_int (sa_cons se_int sa_nil rfl) rfl) rfl)) (sa_cons (se_var 6 rfl (vis_of rfl) rfl rfl) (sa_cons (se_tup (sa_cons se_str (sa_cons (se_var 6 rfl (vis_of rfl) rfl rfl) (sa_cons (se_var 4 rfl (vis_of rfl) rfl rfl) sa_nil rfl) rfl) rfl)) sa_nil rfl) rfl) rfl) rfl) rfl) rfl) rfl) rfl) rfl) rfl) rfl) rfl)) rfl)
    (ss_cons (ss_for (passes_of rfl) rfl (si_seq rfl (se_bin op_addAll od_add (se_var 8 rfl (vis_of rfl) rfl rfl) (se_lc (own := [("lap", 16)]) rfl sc_law.nd (si_range1 rfl (T.free 4 rfl) (sa_cons se_int sa_nil rfl) rfl) (blk_of rfl) (by decide) (fun _ _ _ _ _ => (sg_name sc_law.nd (i := 16) rfl (loc_of rfl) (fnl_of rfl))) (fun _ _ _ _ _ => sts_nil) (fun _ _ _ _ _ => (se_call over0 (ok__law_bent T 16) hr (by decide) rfl (T.glo 13 rfl) (f__law_bent T).kp (b__law_bent T) .nil (fun _ _ => rfl) takes_no (sa_cons (se_var 1 rfl (vis_of rfl) rfl rfl) (sa_cons (se_var 4 rfl (vis_of rfl) rfl rfl) sa_nil rfl) rfl) rfl rfl rfl)) (fun _ => rfl)))) (sg_name sc_law.nd (i := 9) rfl (loc_of rfl) (fnl_of rfl)) (ss_cons (ss_set (i := 10) sc_law.nd rfl (loc_of rfl) (fnl_of rfl) (se_call over0 (ok__law_is_sentence T 12) hr (by decide) rfl (T.glo 18 rfl) (f__law_is_sentence T).kp (b__law_is_sentence T) .nil (fun _ _ => rfl) (takes_of rfl rfl rfl rfl) (sa_cons (se_var 3 rfl (vis_of rfl) rfl rfl) (sa_cons (se_var 9 rfl (vis_of rfl) rfl rfl) (sa_cons se_int sa_nil rfl) rfl) rfl) rfl rfl rfl) rfl)
    (ss_cons (ss_if (st_w (sw_or (st_not (st_val (se_call over0 (ok__law_says T) hr (by decide) rfl (T.glo 32 rfl) (f__law_says T).kp (b__law_says T) .nil (fun _ _ => rfl) (takes_of rfl rfl rfl rfl) (sa_cons (se_call over0 (ok_is_sentence T) hr (by decide) rfl (T.glo 31 rfl) (f_is_sentence T).kp (b_is_sentence T) .nil (fun _ _ => rfl) (takes_of rfl rfl rfl rfl) (sa_cons (se_var 3 rfl (vis_of rfl) rfl rfl) (sa_cons (se_var 9 rfl (vis_of rfl) rfl rfl) sa_nil rfl) rfl) rfl rfl rfl) (sa_cons (se_var 10 rfl (vis_of rfl) rfl rfl) sa_nil rfl) rfl) rfl rfl rfl) (fun _ => rfl))) (sw_or1 (st_not (st_val (se_call over0 (ok__law_says T) hr (by decide) rfl (T.glo 32 rfl) (f__law_says T).kp (b__law_says T) .nil (fun _ _ => rfl) (takes_of rfl rfl rfl rfl) (sa_cons (se_callK0 (ks := [("thing" : Str), ("many" : Str)]) over0 (ok_is_sentence T) hr (by decide) rfl (T.glo 31 rfl) (f_is_sentence T).kp (kb_is_sentence_0_thing_many T) (takes_of rfl rfl rfl rfl) (sk_cons (se_var 9 rfl (vis_of rfl) rfl rfl) (sk_cons (se_var 3 rfl (vis_of rfl) rfl rfl) sk_nil)) rfl rfl rfl rfl) (sa_cons (se_var 10 rfl (vis_of rfl) rfl rfl) sa_nil rfl) rfl) rfl rfl rfl) (fun _ => rfl)))))) (ss_one (ss_ret se_bl)) ss_nil)
    (ss_cons (ss_set (i := 11) sc_law.nd rfl (loc_of rfl) (fnl_of rfl) (se_callL (ps := [("work" : Str)]) over0 (ok__law_kind T) hr (by decide) rfl (T.glo 45 rfl) (f__law_kind T).kp (b__law_kind T) (takes_of rfl rfl rfl rfl) (saf_last (far_lam (ps := ([] : List Str)) (fr := [("thing" : Str), ("words" : Str)]) (js := [9, 5]) (kb := KF__law_kind) over0 (lamAt_of (f := He.ga K "law") 0 (nd_ok T) (T.tb 0 rfl) hcd rfl rfl) (NdefX.nscope_by rfl) (frz_of rfl) rfl rfl (fun _ _ _ _ _ us hl => match us, hl with | [], _ => rfl) (fun _ _ _ _ _ _ _ _ _ hr => (se_call over2 (ok_sentence_holds T) hr (by decide) rfl (T.glo 44 rfl) (f_sentence_holds T).kp (b_sentence_holds T) .nil (fun _ _ => rfl) (takes_of rfl rfl rfl rfl) (sa_cons (se_var 0 rfl (vis_of rfl) rfl rfl) (sa_cons (se_var 1 rfl (vis_of rfl) rfl rfl) sa_nil rfl) rfl) rfl rfl rfl))) rfl) rfl rfl rfl) rfl)
    (ss_cons (ss_if (st_cmp (op_neD (u64 hr)) od_ne (se_var 11 rfl (vis_of rfl) rfl rfl) (se_if (st_val (se_var 10 rfl (vis_of rfl) rfl rfl) (fun _ => rfl)) se_non (se_tup (sa_cons se_str (sa_cons se_non sa_nil rfl) rfl))) rfl) (ss_one (ss_ret se_bl)) ss_nil)
    (ss_one (ss_if (st_w (sw_and (st_val (se_var 10 rfl (vis_of rfl) rfl rfl) (fun _ => rfl)) (sw_and1 (st_not (st_val (se_call over0 (ok__law_says T) hr (by decide) rfl (T.glo 32 rfl) (f__law_says T).kp (b__law_says T) .nil (fun _ _ => rfl) (takes_of rfl rfl rfl rfl) (sa_cons (se_callK0 (ks := [("words" : Str), ("sentence" : Str)]) over0 (ok_sentence_holds T) hr (by decide) rfl (T.glo 44 rfl) (f_sentence_holds T).kp (kb_sentence_holds_0_words_sentence T) (takes_of rfl rfl rfl rfl) (sk_cons (se_callT call_tuple_of ld_tuple rfl (T.free 12 rfl) (by decide +kernel) (sa_cons (se_var 5 rfl (vis_of rfl) rfl rfl) sa_nil rfl) (by decide) rfl rfl rfl) (sk_cons (se_var 9 rfl (vis_of rfl) rfl rfl) sk_nil)) rfl rfl rfl rfl) (sa_cons (se_call over0 (ok__law_holds T 12) hr (by decide) rfl (T.glo 46 rfl) (f__law_holds T).kp (b__law_holds T) .nil (fun _ _ => rfl) (takes_of rfl rfl rfl rfl) (sa_cons (se_var 9 rfl (vis_of rfl) rfl rfl) (sa_cons (se_var 5 rfl (vis_of rfl) rfl rfl) sa_nil rfl) rfl) rfl rfl rfl) sa_nil rfl) rfl) rfl rfl rfl) (fun _ => rfl)))))) (ss_one (ss_ret se_bl)) ss_nil)))))) (fun _ => rfl))
    (ss_cons (ss_asg (se_tup (sa_cons (se_call over0 (ok__law_pick T) hr (by decide) rfl (T.glo 9 rfl) (f__law_pick T).kp (b__law_pick T) .nil (fun _ _ => rfl) (takes_of rfl rfl rfl rfl) (sa_cons (se_var 1 rfl (vis_of rfl) rfl rfl) (sa_cons (se_lst (sa_cons se_int (sa_cons se_int (sa_cons (se_un un_neg ud_neg se_int) (sa_cons se_non (sa_cons se_bl (sa_cons se_str sa_nil rfl) rfl) rfl) rfl) rfl) rfl)) sa_nil rfl) rfl) rfl rfl rfl) (sa_cons (se_call over0 (ok__law_draw T) hr (by decide) rfl (T.glo 7 rfl) (f__law_draw T).kp (b__law_draw T) .nil (fun _ _ => rfl) (takes_of rfl rfl rfl rfl) (sa_cons (se_var 1 rfl (vis_of rfl) rfl rfl) (sa_cons (se_var 3 rfl (vis_of rfl) rfl rfl) sa_nil rfl) rfl) rfl rfl rfl) sa_nil rfl) rfl)) (sg_tup rfl rfl (sgs_cons (sg_name sc_law.nd (i := 12) rfl (loc_of rfl) (fnl_of rfl)) (sgs_cons (sg_name sc_law.nd (i := 13) rfl (loc_of rfl) (fnl_of rfl)) sgs_nil rfl) rfl) rfl rfl) rfl rfl rfl)
    (ss_cons (ss_if (st_cmp (op_neD (u64 hr)) od_ne (se_callL (ps := [("work" : Str)]) over0 (ok__law_kind T) hr (by decide) rfl (T.glo 45 rfl) (f__law_kind T).kp (b__law_kind T) (takes_of rfl rfl rfl rfl) (saf_last (far_lam (ps := ([] : List Str)) (fr := [("wrong" : Str), ("sentence" : Str)]) (js := [12, 4]) (kb := KF__law_kind) over0 (lamAt_of (f := He.ga K "law") 0 (nd_ok T) (T.tb 0 rfl) hcd rfl rfl) (NdefX.nscope_by rfl) (frz_of rfl) rfl rfl (fun _ _ _ _ _ us hl => match us, hl with | [], _ => rfl) (fun _ _ _ _ _ _ _ _ _ hr => (se_call over2 (ok_is_sentence T) hr (by decide) rfl (T.glo 31 rfl) (f_is_sentence T).kp (b_is_sentence T) .nil (fun _ _ => rfl) (takes_of rfl rfl rfl rfl) (sa_cons (se_var 0 rfl (vis_of rfl) rfl rfl) (sa_cons (se_var 1 rfl (vis_of rfl) rfl rfl) sa_nil rfl) rfl) rfl rfl rfl))) rfl) rfl rfl rfl) (se_tup (sa_cons se_str (sa_cons se_str sa_nil rfl) rfl)) rfl) (ss_one (ss_ret se_bl)) ss_nil)
    (ss_cons (ss_set (i := 14) sc_law.nd rfl (loc_of rfl) (fnl_of rfl) (se_bin op_addAll od_add (se_bin op_addAll od_add (se_bin op_addAll od_add (se_slice rfl (se_var 5 rfl (vis_of rfl) rfl rfl) so_none (so_some (se_var 13 rfl (vis_of rfl) rfl rfl))) (se_lst (sa_cons (se_call over0 (ok__law_pick T) hr (by decide) rfl (T.glo 9 rfl) (f__law_pick T).kp (b__law_pick T) .nil (fun _ _ => rfl) (takes_of rfl rfl rfl rfl) (sa_cons (se_var 1 rfl (vis_of rfl) rfl rfl) (sa_cons (se_lst (sa_cons se_int (sa_cons (se_un un_neg ud_neg se_int) (sa_cons se_non (sa_cons se_bl (sa_cons se_str sa_nil rfl) rfl) rfl) rfl) rfl)) sa_nil rfl) rfl) rfl rfl rfl) sa_nil rfl))) (se_slice rfl (se_var 5 rfl (vis_of rfl) rfl rfl) (so_some (se_bin op_addAll od_add (se_var 13 rfl (vis_of rfl) rfl rfl) se_int)) so_none)) (se_bin op_mulAll od_mul (se_lst (sa_cons se_int sa_nil rfl)) (se_bin op_sub od_sub se_int (se_var 3 rfl (vis_of rfl) rfl rfl)))) rfl)
    (ss_cons (ss_if (st_cmp (op_neD (u64 hr)) od_ne (se_callL (ps := [("work" : Str)]) over0 (ok__law_kind T) hr (by decide) rfl (T.glo 45 rfl) (f__law_kind T).kp (b__law_kind T) (takes_of rfl rfl rfl rfl) (saf_last (far_lam (ps := ([] : List Str)) (fr := [("odd" : Str), ("tape" : Str), ("sentence" : Str)]) (js := [14, 1, 4]) (kb := KF__law_kind) over0 (lamAt_of (f := He.ga K "law") 0 (nd_ok T) (T.tb 0 rfl) hcd rfl rfl) (NdefX.nscope_by rfl) (frz_of rfl) rfl rfl (fun _ _ _ _ _ us hl => match us, hl with | [], _ => rfl) (fun _ _ _ _ _ _ _ _ _ hr => (se_call over2 (ok_sentence_holds T) hr (by decide) rfl (T.glo 44 rfl) (f_sentence_holds T).kp (b_sentence_holds T) .nil (fun _ _ => rfl) (takes_of rfl rfl rfl rfl) (sa_cons (se_call over2 (ok__law_pick T) hr (by decide) rfl (T.glo 9 rfl) (f__law_pick T).kp (b__law_pick T) .nil (fun _ _ => rfl) (takes_of rfl rfl rfl rfl) (sa_cons (se_var 1 rfl (vis_of rfl) rfl rfl) (sa_cons (se_lst (sa_cons (se_var 2 rfl (vis_of rfl) rfl rfl) (sa_cons se_non sa_nil rfl) rfl)) sa_nil rfl) rfl) rfl rfl rfl) (sa_cons (se_var 0 rfl (vis_of rfl) rfl rfl) sa_nil rfl) rfl) rfl rfl rfl))) rfl) rfl rfl rfl) (se_tup (sa_cons se_str (sa_cons (se_var 13 rfl (vis_of rfl) rfl rfl) sa_nil rfl) rfl)) rfl) (ss_one (ss_ret se_bl)) ss_nil)
    (ss_one (ss_if (st_cmp (op_neD (u64 hr)) od_ne (se_callL (ps := [("work" : Str)]) over0 (ok__law_kind T) hr (by decide) rfl (T.glo 45 rfl) (f__law_kind T).kp (b__law_kind T) (takes_of rfl rfl rfl rfl) (saf_last (far_lam (ps := ([] : List Str)) (fr := [("sentence" : Str), ("tape" : Str)]) (js := [4, 1]) (kb := KF__law_kind) over0 (lamAt_of (f := He.ga K "law") 0 (nd_ok T) (T.tb 0 rfl) hcd rfl rfl) (NdefX.nscope_by rfl) (frz_of rfl) rfl rfl (fun _ _ _ _ _ us hl => match us, hl with | [], _ => rfl) (fun _ _ _ _ _ _ _ _ _ hr => (se_call over2 (ok_sentence_holds T) hr (by decide) rfl (T.glo 44 rfl) (f_sentence_holds T).kp (b_sentence_holds T) .nil (fun _ _ => rfl) (takes_of rfl rfl rfl rfl) (sa_cons (se_var 0 rfl (vis_of rfl) rfl rfl) (sa_cons (se_call over2 (ok__law_pick T) hr (by decide) rfl (T.glo 9 rfl) (f__law_pick T).kp (b__law_pick T) .nil (fun _ _ => rfl) (takes_of rfl rfl rfl rfl) (sa_cons (se_var 1 rfl (vis_of rfl) rfl rfl) (sa_cons (se_lst (sa_cons se_non (sa_cons (se_lst sa_nil) (sa_cons se_int (sa_cons (se_bin op_mulAll od_mul (se_lst (sa_cons se_int sa_nil rfl)) se_int) (sa_cons se_str (sa_cons se_dict0 sa_nil rfl) rfl) rfl) rfl) rfl) rfl)) sa_nil rfl) rfl) rfl rfl rfl) sa_nil rfl) rfl) rfl rfl rfl))) rfl) rfl rfl rfl) (se_tup (sa_cons se_str (sa_cons se_non sa_nil rfl) rfl)) rfl) (ss_one (ss_ret se_bl)) ss_nil))))))))))))) (fun _ => rfl))
    (ss_one (ss_ret (se_and (se_cmp op_isAll od_is (se_call over0 (ok_sentence_holds T) hr (by decide) rfl (T.glo 44 rfl) (f_sentence_holds T).kp (b_sentence_holds T) .nil (fun _ _ => rfl) (takes_of rfl rfl rfl rfl) (sa_cons (se_tup (sa_cons se_str (sa_cons (se_tup (sa_cons se_str (sa_cons se_int (sa_cons se_int sa_nil rfl) rfl) rfl)) (sa_cons (se_tup (sa_cons se_str (sa_cons (se_tup (sa_cons se_str (sa_cons se_int (sa_cons se_int sa_nil rfl) rfl) rfl)) sa_nil rfl) rfl)) sa_nil rfl) rfl) rfl)) (sa_cons (se_lst (sa_cons se_int (sa_cons se_int sa_nil rfl) rfl)) sa_nil rfl) rfl) rfl rfl rfl) se_bl rfl) (se_one (se_cmp op_isAll od_is (se_call over0 (ok_sentence_holds T) hr (by decide) rfl (T.glo 44 rfl) (f_sentence_holds T).kp (b_sentence_holds T) .nil (fun _ _ => rfl) (takes_of rfl rfl rfl rfl) (sa_cons (se_tup (sa_cons se_str (sa_cons (se_tup (sa_cons se_str (sa_cons se_int (sa_cons se_int sa_nil rfl) rfl) rfl)) (sa_cons (se_tup (sa_cons se_str (sa_cons se_int (sa_cons se_int sa_nil rfl) rfl) rfl)) sa_nil rfl) rfl) rfl)) (sa_cons (se_tup (sa_cons se_int (sa_cons se_int sa_nil rfl) rfl)) sa_nil rfl) rfl) rfl rfl rfl) se_bl rfl)))))))
end
end K07
set_option Elab.async false
set_option linter.all false
set_option maxRecDepth 100000
set_option maxHeartbeats 0
namespace K07
open PySem PySem.Spec L2 PyProof.Rows WL
open PySem.W (Frag)
abbrev R : PySem.W.OpenRow := PySem.W.OpenLaw.row PySem.Challenge.rw_whyenough_k07_sentences_judged_and_held
def exB (K : Frag) : Bool := (faL.all fun f => f.ok K) && ownL.all fun b => b K
abbrev hk : PySem.W.Hook := hookV 5 fnL tfL exB dcL
def ob (s : PySem.W.SharedT) : AlV := obsV 5 fnL tfL exB dcL (HandSHeadRun.getT s)
theorem ob_eq (s : PySem.W.SharedT) : ob s = hk.obs s.abs := obsV_eq (HandSHeadRun.getT_eq s)
def looseL : List Str := (PP.main.scope.names.map (·.1)).filter fun x => !(x == "__name__" || x == "law")
theorem run (w : World) : HandSHeadRun.RunEq R (PySem.W.view R.prog [40]) hk ob 6000 looseL w :=
  PySem.W.byRow2 "special-get-raises" (P := fun w => HandSHeadRun.RunEq R (PySem.W.view R.prog [40]) hk ob 6000 looseL w) (fun w => by
    intro os
    kernel_rfl) (fun w => by
    intro os
    kernel_rfl) w
end K07
set_option Elab.async false
set_option linter.all false
set_option maxRecDepth 100000
set_option maxHeartbeats 0
namespace K07
open PySem PySem.Spec L2 PyProof.Rows WL
open PySem.W (Frag)
def Good : Prop := ∀ ns : List Int, ns.length ≤ 63 → ∃ S, m_law [.scr ns] [] = .ok (.bl true) S
theorem law_fact : He.Fa.glo "law" ∈ faL := by unfold faL; simp
theorem law_fun {w : World} {h : Heap} {K : Frag} (c : SaysV fnL tfL exB dcL w h K) : FunD K "law" "law" (defArgs s_law) (defBody s_law) (defScope s_law) [] [] (He.ga K "law") (fdOf K (He.ga K "law")) := (c.s.fn_ 25 rfl).d rfl
end K07
open PySem PySem.W PySem.Calls PyProof.Rows
theorem k07_holds (good : K07.Good) : PySem.Challenge.rw_whyenough_k07_sentences_judged_and_held.Holds := by
  w_on; o_law
  refine HandSHeadRun.head_any (r := OpenLaw.row PySem.Challenge.rw_whyenough_k07_sentences_judged_and_held) (q := view (OpenLaw.row PySem.Challenge.rw_whyenough_k07_sentences_judged_and_held).prog [40]) (H := K07.hk) (ob := K07.ob) (M := 6000) (loose := K07.looseL) (d := HandSHeadRun.topDef (OpenLaw.row PySem.Challenge.rw_whyenough_k07_sentences_judged_and_held).prog 40) (kwd := []) K07.ob_eq
    (by kernel_rfl) (fun s => by kernel_rfl) K07.run (by kernel_rfl) (by kernel_rfl) (by kernel_rfl) (by rfl) (by first | assumption | decide +kernel) (by decide +kernel) ⟨rfl, rfl, rfl, rfl, rfl, by decide +kernel⟩ ?hw ?hc
  case hw => w_witness2
  case hc =>
    refine LamX.walk_ofTsE (l := PySem.Challenge.rw_whyenough_k07_sentences_judged_and_held) (n := 63) (k := 22) (x := "script") (CX := fun w => L2.CX K07.PP w) rfl (by decide) (by kernel_rfl) ⟨rfl, by decide, by decide⟩ ?F ?X
    case X => exact fun w H s e s' ⟨_, _, _, _, _, _, _, _, _, _, _, _, z⟩ => z
    intro w mg fa h Y G hmg0
    obtain ⟨K, KX, c⟩ := Y
    have hmg : mg ("law" : PySem.Str) = some (.ref fa) := by
      have e : (HandSHeadRun.topDef (OpenLaw.row PySem.Challenge.rw_whyenough_k07_sentences_judged_and_held).prog 40).name = ("law" : PySem.Str) := by kernel_rfl
      rw [← e]
      exact hmg0
    have KG := He.glo_ok (x := "law") KX G (List.all_eq_true.mp (He.ba c.s.more).1 _ K07.law_fact)
    obtain rfl : fa = He.ga K "law" := by
      have z := hmg.symm.trans KG
      exact Value.ref.inj (Option.some.inj z)
    have F := K07.law_fun c
    have b := L2.FunD.bindsA (ps := ["script"]) F fun _ _ _ _ _ _ us hl => match us, hl with | [_], _ => rfl
    exact ⟨K, KX, WL.law_atV (C := K07.CL) (own := K07.ownL) (fa := K07.faL) (m := K07.m_law) KX c (fun _ => K07.grd) (fun _ => rfl) (fun _ => rfl) (fun s v => b s [v] rfl) (fun base T => K07.ok_law T) good⟩
set_option Elab.async false
set_option linter.all false
set_option maxRecDepth 100000
set_option maxHeartbeats 400000
namespace K07
open PySem PySem.Spec L2 PyProof.Rows WL
theorem p_is_number {d : D} {S : Store} {t : String} (h : tyD S d = some t) : m_is_number [d] S = .ok (.bl (isT t "int" && !isT t "bool")) S := by
  simp [m_is_number, mkFn, bm_is_number, dIsi, h]
  cases isT t "int" <;> simp
theorem p_is_list {d : D} {S : Store} {t : String} (h : tyD S d = some t) : m_is_list [d] S = .ok (.bl (isT t "list" || isT t "tuple")) S := by
  simp [m_is_list, mkFn, bm_is_list, dIsi2, h]
def btw (lo hi : Int) : D → Bool
  | .int i => decide (lo ≤ i) && decide (i ≤ hi)
  | _ => false
theorem p_is_between {d : D} {S : Store} {lo hi : Int} (h : (tyD S d).isSome) : m_is_between [d, .int lo, .int hi] S = .ok (.bl (btw lo hi d)) S := by
  obtain ⟨t, ht⟩ := Option.isSome_iff_exists.mp h
  have e := p_is_number ht
  cases d with
  | int i =>
    simp [tyD] at ht; subst ht
    simp [m_is_between, bm_is_between, e, btw, isT]
    cases decide (lo ≤ i) <;> simp
  | reg i =>
    have hn : (isT t "int" && !isT t "bool") = false := by
      simp only [tyD] at ht
      split at ht <;> first | (cases ht; rfl) | cases ht
    simp [m_is_between, bm_is_between, e, btw, hn]
  | _ => first | (simp [tyD] at ht; done) | (simp [tyD] at ht; subst ht; simp [m_is_between, bm_is_between, e, btw, isT])
/-- items that are looked at one by one -/
abbrev fwB (op : List D → M D) : SS := sIf (tNotM (tOf isB (eCallF 1 1 op (eCons (eV 3) (eNil))))) (sRet (eV 2)) (sNil)
theorem go_find {op : List D → M D} {p : D → Bool} {S : Store} {xs : List D} (hop : ∀ x ∈ xs, op [x] S = .ok (.bl (p x)) S) (x0 : D) : ∀ (k i : Nat) (a b : Slot), i + k = xs.length →
    (∀ j, (xs.drop i).findIdx? (fun x => !p x) = some j → forGo (itE (itL xs)) (gT [gN 2, gN 3]) (fwB op) (k + 1) i [.d x0, .f 0, a, b] S = .ret (.int ((i + j : Nat) : Int)) S) ∧
    ((xs.drop i).findIdx? (fun x => !p x) = none → ∃ env, forGo (itE (itL xs)) (gT [gN 2, gN 3]) (fwB op) (k + 1) i [.d x0, .f 0, a, b] S = .next env S)
  | 0, i, a, b, h => by
    obtain rfl : i = xs.length := by omega
    refine ⟨fun j hj => (by simp at hj), fun _ => ⟨_, forGo_end (itE_end rfl)⟩⟩
  | k + 1, i, a, b, h => by
    have hi : i < xs.length := by omega
    have e1 : xs.drop i = xs[i] :: xs.drop (i + 1) := List.drop_eq_getElem_cons hi
    have ih := go_find hop x0 k (i + 1) (.d (.int i)) (.d xs[i]) (by omega)
    have e3 := hop xs[i] (List.getElem_mem hi)
    rw [forGo_some (itE_get hi) (by simp; rfl)]
    cases hp : p xs[i] with
    | true =>
      rw [hp] at e3
      have e4 : fwB op [.d x0, .f 0, .d (.int i), .d xs[i]] S = .next [.d x0, .f 0, .d (.int i), .d xs[i]] S := by simp [fwB, e3]
      rw [e4]
      refine ⟨fun j hj => ?_, fun hn => ?_⟩
      · rw [e1, List.findIdx?_cons] at hj
        simp [hp] at hj
        obtain ⟨j', hj', rfl⟩ := hj
        have z := ih.1 j' (by simpa using hj')
        simp only at z ⊢
        rw [z]
        congr 2; push_cast; omega
      · rw [e1, List.findIdx?_cons] at hn
        simp [hp] at hn
        exact ih.2 (by simpa using hn)
    | false =>
      rw [hp] at e3
      have e4 : fwB op [.d x0, .f 0, .d (.int i), .d xs[i]] S = .ret (.int i) S := by simp [fwB, e3]
      rw [e4]
      refine ⟨fun j hj => ?_, fun hn => ?_⟩
      · rw [e1, List.findIdx?_cons] at hj
        simp [hp] at hj
        subst hj
        rfl
      · rw [e1, List.findIdx?_cons] at hn
        simp [hp] at hn
theorem p_first_wrong {op : List D → M D} {p : D → Bool} {S : Store} {x : D} {xs : List D} (hx : Sq x xs) (hop : ∀ x ∈ xs, op [x] S = .ok (.bl (p x)) S) : m_first_wrong op [x] S = .ok (match xs.findIdx? (fun x => !p x) with
    | some j => .int j
    | none => .non) S := by
  obtain ⟨k, e1, e2⟩ := hx.it (S := S)
  have g := go_find hop x xs.length 0 .un .un (by omega)
  simp only [List.drop_zero] at g
  simp [m_first_wrong, bm_first_wrong, e1, e2]
  cases e : xs.findIdx? (fun x => !p x) with
  | some j =>
    have z := g.1 j e
    simp only [fwB] at z
    rw [z]; simp
  | none =>
    obtain ⟨env, z⟩ := g.2 e
    simp only [fwB] at z
    rw [z]; simp
def iD (ns : List Int) : List D := ns.map D.int
/-! ### the tape -/
def dkt (r : Int) (c : List Int) (t : Int) : List (Key × D) := [(.inr "large", .reg 0), (.inr "rest", .int r), (.inr "cells", .lst (iD c)), (.inr "turn", .int t)]
def tp (L : List Int) (r : Int) (c : List Int) (t : Int) (T : Store) : Store := some (.lst (iD L)) :: some (.dk (dkt r c t)) :: T
section
variable {L : List Int} {r : Int} {c : List Int} {t : Int} {T : Store}
theorem ix_large : dIdx (.reg 1) (.str "large") (tp L r c t T) = .ok (.reg 0) (tp L r c t T) := rfl
theorem ix_rest : dIdx (.reg 1) (.str "rest") (tp L r c t T) = .ok (.int r) (tp L r c t T) := rfl
theorem ix_cells : dIdx (.reg 1) (.str "cells") (tp L r c t T) = .ok (.lst (iD c)) (tp L r c t T) := rfl
theorem ix_turn : dIdx (.reg 1) (.str "turn") (tp L r c t T) = .ok (.int t) (tp L r c t T) := rfl
theorem put_rest {v : Int} : putR (.reg 1) (.str "rest") (.int v) (tp L r c t T) = some (tp L v c t T) := rfl
theorem put_turn {v : Int} : putR (.reg 1) (.str "turn") (.int v) (tp L r c t T) = some (tp L r c v T) := rfl
@[simp] theorem x_sPut {e o i : E} {env : WL.Env} {S : Store} : sPut e o i env S = ResS.bindE (e env S) env fun d S => ResS.bindE (o env S) env fun x S => ResS.bindE (i env S) env fun y S => match putR x y d S with
  | some S => .next env S
  | none => .stuck := rfl
@[simp] theorem b_int {i : Int} {S : Store} : bInt [.int i] S = .ok (.int i) S := rfl
abbrev blIn : SS := sSet 4 (eBin dMod (eBin dAdd (eBin dMul (eV 4) (eC (.int 48271))) (eOfL bInt (eCons (eV 5) (eNil)))) (eV 3))
abbrev blOut : SS := sSeq (sSet 4 (eBin dMod (eBin dAdd (eBin dMul (eV 1) (eC (.int 69621))) (eBin dFdiv (eV 3) (eC (.int 7)))) (eV 3))) (sSeq (sFor (iSeq (eBin dIdx (eV 0) (eC (.str "cells")))) (gN 5) blIn) (sSet 2 (eBin dAdd (eBin dMul (eV 2) (eC (.int 2147483647))) (eBin dMod (eBin dPow (eV 4) (eC (.int 5))) (eV 3)))))
theorem mul_r {i j : Int} {S : Store} (h : -(2 ^ 64) < j ∧ j < 2 ^ 64) : dMul (.int i) (.int j) S = .ok (.int (i * j)) S := if_pos (.inr h)
theorem mod_ok {i j : Int} {S : Store} (h : 0 < j) : dMod (.int i) (.int j) S = .ok (.int (i % j)) S := if_pos h
theorem div_ok {i j : Int} {S : Store} (h : 0 < j ∧ j < 1073741824) : dFdiv (.int i) (.int j) S = .ok (.int (i / j)) S := if_pos h
theorem pow5 {i : Int} {S : Store} (h : i.natAbs < 2 ^ 64) : dPow (.int i) (.int 5) S = .ok (.int (i ^ 5)) S := if_pos ⟨by decide, by decide, h⟩
theorem p_blOut {S : Store} (hS : S = tp L r c t T) {u f g : Int} (hg : 0 < g ∧ g < 2147483648) {z4 z5 : Slot} : ∃ f' m' z, blOut [.d (.reg 1), .d (.int u), .d (.int f), .d (.int g), z4, z5] S = .next [.d (.reg 1), .d (.int u), .d (.int f'), .d (.int g), .d (.int m'), z] S := by
  obtain ⟨env', S', e3, e4⟩ := forGo_inv (it := itL (iD c)) (tm := gN 5) (mb := blIn) (n := c.length)
    (fun i env S' => S' = S ∧ ∃ m z, (0 ≤ m ∧ m < g) ∧ env = [.d (.reg 1), .d (.int u), .d (.int f), .d (.int g), .d (.int m), z]) (fun i env S1 hi hP => by
      obtain ⟨rfl, m, z, hm, rfl⟩ := hP
      have e5 : (iD c)[i]'(by simpa [iD] using hi) = .int c[i] := by simp [iD]
      refine ⟨_, _, itL_get (by simpa [iD] using hi), rfl, _, _, ?_, rfl, (m * 48271 + c[i]) % g, .d (.int c[i]), ⟨Int.emod_nonneg _ (by omega), Int.emod_lt_of_pos _ hg.1⟩, rfl⟩
      rw [e5]
      simp [mul_r (i := m) (j := 48271) (by decide), hg.1]) (fun env S1 hP => itL_end (by simp [iD])) (c.length + 1) 0 [.d (.reg 1), .d (.int u), .d (.int f), .d (.int g), .d (.int ((u * 69621 + g / 7) % g)), z5] S (by omega) (by omega) ⟨rfl, _, z5, ⟨Int.emod_nonneg _ (by omega), Int.emod_lt_of_pos _ hg.1⟩, rfl⟩
  obtain ⟨rfl, m, z, hm, rfl⟩ := e4
  have hc : dIdx (.reg 1) (.str "cells") S' = .ok (.lst (iD c)) S' := by rw [hS]; exact ix_cells
  have hl : (iD c).length = c.length := by simp [iD]
  have hp : m.natAbs < 2 ^ 64 := by omega
  refine ⟨f * 2147483647 + m ^ 5 % g, m, z, ?_⟩
  simp [mul_r (i := u) (j := 69621) (by decide), hg.1, hc, seqIt, SeqK.pr, hl, e3, mul_r (i := f) (j := 2147483647) (by decide), pow5 hp]
theorem p_blend : ∃ f, m__law_blend [.reg 1] (tp L r c t T) = .ok (.int f) (tp L r c (t + 1) T) := by
  obtain ⟨f1, m1, z1, e1⟩ := p_blOut (S := tp L r c (t + 1) T) rfl (u := t + 1) (f := 0) (g := 2147483629) (by decide) (z4 := .un) (z5 := .un)
  obtain ⟨f2, m2, z2, e2⟩ := p_blOut (S := tp L r c (t + 1) T) rfl (u := t + 1) (f := f1) (g := 2147483587) (by decide) (z4 := .d (.int m1)) (z5 := z1)
  obtain ⟨f3, m3, z3, e3⟩ := p_blOut (S := tp L r c (t + 1) T) rfl (u := t + 1) (f := f2) (g := 2147483579) (by decide) (z4 := .d (.int m2)) (z5 := z2)
  have hl : (tp L r c (t + 1) T).length ≤ (tp L r c t T).length := Nat.le_refl _
  refine ⟨f3, ?_⟩
  have q : dLst [.int 2147483629, .int 2147483587, .int 2147483579] (tp L r c (t + 1) T) = .ok (.lst [.int 2147483629, .int 2147483587, .int 2147483579]) (tp L r c (t + 1) T) := if_pos (by decide)
  have g0 : ∀ {env : WL.Env}, forGo (itL [.int 2147483629, .int 2147483587, .int 2147483579]) (gN 3) blOut 1 3 env (tp L r c (t + 1) T) = .next env (tp L r c (t + 1) T) := fun {env} => forGo_end rfl
  have key : forGo (itL [.int 2147483629, .int 2147483587, .int 2147483579]) (gN 3) blOut 4 0 [.d (.reg 1), .d (.int (t + 1)), .d (.int 0), .un, .un, .un] (tp L r c (t + 1) T) = .next [.d (.reg 1), .d (.int (t + 1)), .d (.int f3), .d (.int 2147483579), .d (.int m3), z3] (tp L r c (t + 1) T) := by
    rw [forGo_some (d := .int 2147483629) rfl rfl]
    simp only [List.set_cons_succ, List.set_cons_zero, e1]
    rw [forGo_some (d := .int 2147483587) rfl rfl]
    simp only [List.set_cons_succ, List.set_cons_zero, e2]
    rw [forGo_some (d := .int 2147483579) rfl rfl]
    simp only [List.set_cons_succ, List.set_cons_zero, e3]
    exact g0
  simp only [blOut, blIn] at key
  simp [m__law_blend, bm__law_blend, ix_turn, put_turn, q, seqIt, SeqK.pr, key, sealR_ok hl]
/-- a draw -/
theorem p_draw {n : Int} (hn : 0 < n ∧ n < 1073741824) : ∃ v L' r' t', m__law_draw [.reg 1, .int n] (tp L r c t T) = .ok (.int v) (tp L' r' c t' T) ∧ 0 ≤ v ∧ v < n := by
  have fin : ∀ {L' r' t'} {z : Slot}, ∃ v r'', sSeq (sSet 2 (eBin dMod (eOfL bInt (eCons (eBin dIdx (eV 0) (eC (.str "rest"))) (eNil))) (eV 1))) (sSeq (sPut (eBin dFdiv (eOfL bInt (eCons (eBin dIdx (eV 0) (eC (.str "rest"))) (eNil))) (eV 1)) (eV 0) (eC (.str "rest"))) (sRet (eV 2))) [.d (.reg 1), .d (.int n), z] (tp L' r' c t' T) = .ret (.int v) (tp L' r'' c t' T) ∧ 0 ≤ v ∧ v < n := fun {L' r' t' z} => by
    refine ⟨r' % n, r' / n, ?_, Int.emod_nonneg _ (by omega), Int.emod_lt_of_pos _ hn.1⟩
    simp [ix_rest, hn.1, hn.2, put_rest]
  have ne : dNe (.reg 0) (.lst []) (tp L r c t T) = .ok (.bl (!decide (L = []))) (tp L r c t T) := neRL (a := L) (b := []) rfl
  have q0 : ∀ {S : Store}, dLst [] S = .ok (.lst []) S := fun {S} => if_pos (by decide)
  by_cases h0 : r = 0
  · cases L with
    | nil =>
      obtain ⟨f, e1⟩ := p_blend (L := []) (r := r) (c := c) (t := t) (T := T)
      obtain ⟨v, r'', e2, h1, h2⟩ := fin (L' := []) (r' := f) (t' := t + 1) (z := .un)
      refine ⟨v, [], r'', t + 1, ?_, h1, h2⟩
      have e3 : (sIf (tOf isB (eBin dEq (eBin dIdx (eV 0) (eC (.str "rest"))) (eC (.int 0)))) (sPut (eIf (tOf isB (eBin dNe (eBin dIdx (eV 0) (eC (.str "large"))) (eOfL dLst (eNil)))) (eMet isLst mPopAt (eBin dIdx (eV 0) (eC (.str "large"))) (eCons (eC (.int 0)) (eNil))) (eCall 1 m__law_blend [] (eCons (eV 0) (eNil)))) (eV 0) (eC (.str "rest"))) (sNil)) [.d (.reg 1), .d (.int n), .un] (tp [] r c t T) = .next [.d (.reg 1), .d (.int n), .un] (tp [] f c (t + 1) T) := by
        simp [ix_rest, eqInt, h0, ix_large, q0]
        rw [h0] at ne e1
        simp [ne, e1, put_rest]
      have hl : (tp [] r'' c (t + 1) T).length ≤ (tp [] r c t T).length := Nat.le_refl _
      rw [m__law_draw, x_mkFn (np := 2) rfl, bm__law_draw, x_sSeq, show env0 3 [.reg 1, .int n] = [.d (.reg 1), .d (.int n), .un] from rfl, e3]
      simp only [e2, x_ret_ret, sealR_ok hl]
    | cons x L =>
      obtain ⟨v, r'', e2, h1, h2⟩ := fin (L' := L) (r' := x) (t' := t) (z := .un)
      refine ⟨v, L, r'', t, ?_, h1, h2⟩
      have pp : mPopAt (.reg 0) [.int 0] (tp (x :: L) r c t T) = .ok (.int x) (tp L r c t T) := rfl
      have e3 : (sIf (tOf isB (eBin dEq (eBin dIdx (eV 0) (eC (.str "rest"))) (eC (.int 0)))) (sPut (eIf (tOf isB (eBin dNe (eBin dIdx (eV 0) (eC (.str "large"))) (eOfL dLst (eNil)))) (eMet isLst mPopAt (eBin dIdx (eV 0) (eC (.str "large"))) (eCons (eC (.int 0)) (eNil))) (eCall 1 m__law_blend [] (eCons (eV 0) (eNil)))) (eV 0) (eC (.str "rest"))) (sNil)) [.d (.reg 1), .d (.int n), .un] (tp (x :: L) r c t T) = .next [.d (.reg 1), .d (.int n), .un] (tp L x c t T) := by
        simp [ix_rest, eqInt, h0, ix_large, q0]
        rw [h0] at ne pp
        have il : isLst (tp (x :: L) 0 c t T) (.reg 0) = true := rfl
        simp [ne, il, pp, put_rest, ix_large]
      have hl : (tp L r'' c t T).length ≤ (tp (x :: L) r c t T).length := Nat.le_refl _
      rw [m__law_draw, x_mkFn (np := 2) rfl, bm__law_draw, x_sSeq, show env0 3 [.reg 1, .int n] = [.d (.reg 1), .d (.int n), .un] from rfl, e3]
      simp only [e2, x_ret_ret, sealR_ok hl]
  · obtain ⟨v, r'', e2, h1, h2⟩ := fin (L' := L) (r' := r) (t' := t) (z := .un)
    refine ⟨v, L, r'', t, ?_, h1, h2⟩
    have e3 : (sIf (tOf isB (eBin dEq (eBin dIdx (eV 0) (eC (.str "rest"))) (eC (.int 0)))) (sPut (eIf (tOf isB (eBin dNe (eBin dIdx (eV 0) (eC (.str "large"))) (eOfL dLst (eNil)))) (eMet isLst mPopAt (eBin dIdx (eV 0) (eC (.str "large"))) (eCons (eC (.int 0)) (eNil))) (eCall 1 m__law_blend [] (eCons (eV 0) (eNil)))) (eV 0) (eC (.str "rest"))) (sNil)) [.d (.reg 1), .d (.int n), .un] (tp L r c t T) = .next [.d (.reg 1), .d (.int n), .un] (tp L r c t T) := by
      simp [ix_rest, eqInt, h0]
    have hl : (tp L r'' c t T).length ≤ (tp L r c t T).length := Nat.le_refl _
    rw [m__law_draw, x_mkFn (np := 2) rfl, bm__law_draw, x_sSeq, show env0 3 [.reg 1, .int n] = [.d (.reg 1), .d (.int n), .un] from rfl, e3]
    simp only [e2, x_ret_ret, sealR_ok hl]
end
section
variable {L : List Int} {r : Int} {c : List Int} {t : Int} {T : Store} {mv : List (List Int)} {wd : List Int} {k : Nat} {S : Store}
theorem itN_get {m i : Nat} (h : i < m) {S : Store} : itN 0 m i S = some (some (.int i)) := by simp [itN, h]
theorem itN_end {m i : Nat} (h : i = m) {S : Store} : itN 0 m i S = some none := by simp [itN, h]
theorem lc_draws {te : E} {env0 : WL.Env} {v : Nat} {n : Int} (hn : 0 < n ∧ n < 1073741824) (hte : ∀ (i : Nat) L r t, te (env0.set v (.d (.int i))) (tp L r c t T) = m__law_draw [.reg 1, .int n] (tp L r c t T)) {m : Nat} (hm : m ≤ 1000) :
    ∃ xs L' r' t', lcGo (itN 0 m) (gN v) tYesM te env0 (m + 1) 0 [] (tp L r c t T) = .ok (iD xs) (tp L' r' c t' T) ∧ xs.length = m ∧ ∀ x ∈ xs, 0 ≤ x ∧ x < n := by
  obtain ⟨acc, S', e, xs, L', r', t', rfl, rfl, h1, h2⟩ := lcGo_inv (it := itN 0 m) (tm := gN v) (tt := tYesM) (te := te) (env0 := env0) (n := m)
    (fun i acc S => ∃ xs L' r' t', acc = iD xs ∧ S = tp L' r' c t' T ∧ xs.length = i ∧ ∀ x ∈ xs, 0 ≤ x ∧ x < n) (fun i acc S hi hP => by
      obtain ⟨xs, L', r', t', rfl, rfl, h1, h2⟩ := hP
      obtain ⟨x, L2, r2, t2, e1, h3, h4⟩ := p_draw (L := L') (r := r') (c := c) (t := t') (T := T) hn
      refine ⟨_, _, itN_get hi, rfl, .inl ⟨_, _, _, rfl, (hte i _ _ _).trans e1, by simp [iD, big]; omega, xs ++ [x], L2, r2, t2, by simp [iD], rfl, by simp [h1], fun y hy => ?_⟩⟩
      rcases List.mem_append.mp hy with hy | hy
      · exact h2 y hy
      · rw [List.mem_singleton.mp hy]; exact ⟨h3, h4⟩) (fun acc S _ => itN_end rfl) (m + 1) 0 [] (tp L r c t T) (by omega) (by omega) ⟨[], L, r, t, rfl, rfl, rfl, by simp⟩
  exact ⟨xs, L', r', t', e, h1, h2⟩
@[simp] theorem x_iRng1 {ml : EL} {env : WL.Env} {S : Store} : iRng rng1 ml env S = (ml env S).bind fun ds S => match rng1 ds with
  | some p => .ok (itN p.1 p.2, p.2 + 1) S
  | none => .stuck := rfl
theorem rng1_nat {m : Nat} (h : m ≤ 1000) : rng1 [.int m] = some (0, m) := by
  show (if ((m : Int)).natAbs < 2 ^ 62 then some ((0 : Int), ((m : Int)).toNat) else none) = _
  rw [if_pos (by omega)]; simp
end
end K07
set_option Elab.async false
set_option linter.all false
set_option maxRecDepth 100000
set_option maxHeartbeats 400000
namespace K07
open PySem PySem.Spec L2 PyProof.Rows WL
section
variable {S : Store}
theorem l2 {x y : D} : dLst [x, y] S = .ok (.lst [x, y]) S := if_pos (by show 2 ≤ 1000000; decide)
theorem l1 {x : D} : dLst [x] S = .ok (.lst [x]) S := if_pos (by show 1 ≤ 1000000; decide)
theorem t2 {x y : D} : dTup [x, y] S = .ok (.tup [x, y]) S := if_pos (by show 2 ≤ 1000000; decide)
end
section
variable {L : List Int} {r : Int} {c : List Int} {t : Int} {T : Store} {k : Nat} {S : Store}
theorem p_pick {xs : List D} (h1 : 1 ≤ xs.length) (h2 : xs.length ≤ 1000) : ∃ x L' r' t', m__law_pick [.reg 1, .lst xs] (tp L r c t T) = .ok x (tp L' r' c t' T) ∧ x ∈ xs := by
  obtain ⟨v, L1, r1, t1, e1, h3, h4⟩ := p_draw (L := L) (r := r) (c := c) (t := t) (T := T) (n := xs.length) ⟨by omega, by omega⟩
  have hv : v.toNat < xs.length := by omega
  have e2 := x_ix_l (xs := xs) (i := v.toNat) (S := tp L1 r1 c t1 T) hv
  rw [Int.toNat_of_nonneg h3] at e2
  have hl : (tp L1 r1 c t1 T).length ≤ (tp L r c t T).length := Nat.le_refl _
  refine ⟨xs[v.toNat], L1, r1, t1, ?_, List.getElem_mem hv⟩
  simp [m__law_pick, bm__law_pick, e1, e2, sealR_ok hl]
theorem dl {ds : List D} (h : ds.length ≤ 1000) {S : Store} : dLst ds S = .ok (.lst ds) S := if_pos (Nat.le_trans h (by decide))
theorem dt {ds : List D} (h : ds.length ≤ 1000) {S : Store} : dTup ds S = .ok (.tup ds) S := if_pos (Nat.le_trans h (by decide))
end
def absI (i : Int) : Int := if i < 0 then -i else i
@[simp] theorem b_abs {i : Int} {S : Store} : bAbs [.int i] S = .ok (.int (absI i)) S := rfl
theorem pow18 {S : Store} : dPow (.int 10) (.int 18) S = .ok (.int (10 ^ 18)) S := by simp [dPow]
@[simp] theorem x_eLcR {mi : EI} {tm : TgM} {tt : ET} {te : E} {vs : List Nat} {env : WL.Env} {S : Store} : eLcR mi tm tt te vs env S = (mi env S).bind fun p S => (lcGo p.1 tm tt te (wipeE env vs) p.2 0 [] S).only fun acc S => .ok (.reg S.length) (S ++ [some (.lst acc)]) := rfl
def pB : D → Bool
  | .int i => decide ((10 : Int) ^ 18 ≤ absI i)
  | _ => false
def fB : D → D
  | .int i => .int (absI i - 10 ^ 18)
  | _ => .non
theorem p_begun {ns : List Int} (hl : ns.length ≤ 63) : ∃ L c, m__law_begun [.scr ns] [] = .ok (.reg 1) (tp L 0 c 0 []) := by
  have hlen : (ns.map D.int).length = ns.length := by simp
  have e1 := lcGo_flt (tm := gN 2) (tt := tOf isB (eBin dGe (eOfL bAbs (eCons (eV 2) (eNil))) (eBin dPow (eC (.int 10)) (eC (.int 18))))) (te := eBin dSub (eOfL bAbs (eCons (eV 2) (eNil))) (eBin dPow (eC (.int 10)) (eC (.int 18)))) (env0 := [.d (.scr ns), .un, .un]) (xs := ns.map D.int) (S := []) (en := fun x => [.d (.scr ns), .un, .d x]) (b := pB) (f := fB) (fun x hx => rfl) (fun x hx => by
    obtain ⟨i, hi, rfl⟩ := List.mem_map.mp hx
    simp [pow18, pB]) (fun x hx h => by
    obtain ⟨i, hi, rfl⟩ := List.mem_map.mp hx
    simp [pow18, fB]) (by rw [hlen]; simp [big]; omega)
  have key : ∀ (g : D → D) (p : D → Bool), (∀ i, g (.int i) = .int (absI i - 10 ^ 18)) → ∃ L : List Int, ((ns.map D.int).filter p).map g = iD L := fun g p hg => by
    clear e1 hl hlen
    induction ns with
    | nil => exact ⟨[], rfl⟩
    | cons a r ih =>
      obtain ⟨L, e⟩ := ih
      rw [List.map_cons, List.filter_cons]
      by_cases h : p (.int a) = true
      · exact ⟨(absI a - 10 ^ 18) :: L, by rw [if_pos h, List.map_cons, e, hg]; rfl⟩
      · exact ⟨L, by rw [if_neg h, e]⟩
  obtain ⟨L, eL⟩ := key fB pB (fun i => rfl)
  rw [eL] at e1
  have e2 := lcGo_all (tm := gN 2) (te := eOfL bAbs (eCons (eV 2) (eNil))) (env0 := [.d (.scr ns), .d (.reg 0), .un]) (xs := ns.map D.int) (S := [some (.lst (iD L))]) (en := fun x => [.d (.scr ns), .d (.reg 0), .d x]) (f := fun x => match x with
      | .int i => .int (absI i)
      | _ => .non) (fun x hx => rfl) (fun x hx => by
    obtain ⟨i, hi, rfl⟩ := List.mem_map.mp hx
    simp) (by rw [hlen]; simp [big]; omega)
  have e3 : (ns.map D.int).map (fun x => match x with
      | .int i => .int (absI i)
      | _ => D.non) = iD (ns.map absI) := by simp [iD, Function.comp_def]
  rw [e3] at e2
  rw [hlen] at e1 e2
  refine ⟨L, ns.map absI, ?_⟩
  unfold m__law_begun mkFnR
  rw [if_pos (show [D.scr ns].length = 1 from rfl), bm__law_begun]
  simp only [x_sSeq, x_sSet, x_eLcR, x_iSeq, x_eV, x_env0, List.map_cons, List.map_nil, List.cons_append, List.nil_append, List.length_cons, List.length_nil, Nat.reduceAdd, Nat.reduceSub, List.replicate, List.getElem?_cons_zero, x_bind_ok, seqIt, SeqK.pr, x_wipe, x_wipe0, List.set_cons_succ, List.set_cons_zero, e1, x_only, x_bindE_ok, x_sRet, eDictR, ePairs, x_eC, List.getElem?_cons_succ, x_eLc, e2, keysP, keyD, Option.bind, Option.map]
  rfl
end K07
set_option Elab.async false
set_option linter.all false
set_option maxRecDepth 100000
set_option maxHeartbeats 400000
namespace K07
open PySem PySem.Spec L2 PyProof.Rows WL
/-! ### plain data of bounded depth -/
mutual
def pl : D → Nat → Bool
  | .non, _ => true
  | .bl _, _ => true
  | .int _, _ => true
  | .str s, _ => PyData.strOk s
  | .tup _, 0 => false
  | .tup xs, n + 1 => plL xs n
  | .lst _, 0 => false
  | .lst xs, n + 1 => plL xs n
  | _, _ => false
def plL : List D → Nat → Bool
  | [], _ => true
  | x :: xs, n => pl x n && plL xs n
end
theorem plL_all : ∀ {xs : List D} {n : Nat}, plL xs n = true ↔ ∀ x ∈ xs, pl x n = true
  | [], n => by simp [plL]
  | x :: xs, n => by rw [plL, Bool.and_eq_true, plL_all]; simp
mutual
theorem pl_py {S : Store} : ∀ (d : D) (n : Nat), pl d n = true → ∃ p, toPy S d = some p ∧ p.canLay0 = true ∧ p.depth ≤ n
  | .non, n, _ => ⟨.none, by simp [toPy], by simp [PyData.canLay0], by simp [PyData.depth]⟩
  | .bl b, n, _ => ⟨.bool b, by simp [toPy], by simp [PyData.canLay0], by simp [PyData.depth]⟩
  | .int b, n, _ => ⟨.int b, by simp [toPy], by simp [PyData.canLay0], by simp [PyData.depth]⟩
  | .str s, n, h => ⟨.str s, by simp [toPy], by rw [PyData.canLay0]; rwa [pl] at h, by simp [PyData.depth]⟩
  | .tup xs, n + 1, h => by
    rw [pl] at h
    obtain ⟨ps, h1, h2, h3⟩ := plL_py (S := S) xs n h
    exact ⟨.tuple ps, by simp [toPy, h1], by rw [PyData.canLay0]; exact h2, by rw [PyData.depth]; omega⟩
  | .lst xs, n + 1, h => by
    rw [pl] at h
    obtain ⟨ps, h1, h2, h3⟩ := plL_py (S := S) xs n h
    exact ⟨.list ps, by simp [toPy, h1], by rw [PyData.canLay0]; exact h2, by rw [PyData.depth]; omega⟩
  | .tup xs, 0, h => by rw [pl] at h; cases h
  | .lst xs, 0, h => by rw [pl] at h; cases h
  | .kt _, _, h => by simp [pl] at h
  | .scr _, _, h => by simp [pl] at h
  | .dk _, _, h => by simp [pl] at h
  | .dt _, _, h => by simp [pl] at h
  | .obj _ _, _, h => by simp [pl] at h
  | .exc _ _, _, h => by simp [pl] at h
  | .reg _, _, h => by simp [pl] at h
  | .cls _, _, h => by simp [pl] at h
  | .fn _, _, h => by simp [pl] at h
theorem plL_py {S : Store} : ∀ (xs : List D) (n : Nat), plL xs n = true → ∃ ps, toPyL S xs = some ps ∧ PyData.canLayAll0 ps = true ∧ PyData.depthAll ps ≤ n
  | [], n, _ => ⟨[], by simp [toPyL], by simp [PyData.canLayAll0], by simp [PyData.depthAll]⟩
  | x :: xs, n, h => by
    rw [plL, Bool.and_eq_true] at h
    obtain ⟨p, h1, h2, h3⟩ := pl_py (S := S) x n h.1
    obtain ⟨ps, h4, h5, h6⟩ := plL_py (S := S) xs n h.2
    exact ⟨p :: ps, by simp [toPyL, h1, h4], by rw [PyData.canLayAll0, h2, h5]; rfl, by rw [PyData.depthAll]; omega⟩
end
mutual
theorem pl_cl : ∀ (d : D) (n m : Nat), pl d n = true → clean m d = true
  | .non, _, _, _ => by simp [clean]
  | .bl _, _, _, _ => by simp [clean]
  | .int _, _, _, _ => by simp [clean]
  | .str _, _, _, _ => by simp [clean]
  | .tup xs, n + 1, m, h => by rw [pl] at h; rw [clean]; exact plL_cl xs n m h
  | .lst xs, n + 1, m, h => by rw [pl] at h; rw [clean]; exact plL_cl xs n m h
  | .tup xs, 0, _, h => by rw [pl] at h; cases h
  | .lst xs, 0, _, h => by rw [pl] at h; cases h
  | .kt _, _, _, h => by simp [pl] at h
  | .scr _, _, _, h => by simp [pl] at h
  | .dk _, _, _, h => by simp [pl] at h
  | .dt _, _, _, h => by simp [pl] at h
  | .obj _ _, _, _, h => by simp [pl] at h
  | .exc _ _, _, _, h => by simp [pl] at h
  | .reg _, _, _, h => by simp [pl] at h
  | .cls _, _, _, h => by simp [pl] at h
  | .fn _, _, _, h => by simp [pl] at h
theorem plL_cl : ∀ (xs : List D) (n m : Nat), plL xs n = true → cleanL m xs = true
  | [], _, _, _ => by simp [cleanL]
  | x :: xs, n, m, h => by
    rw [plL, Bool.and_eq_true] at h
    rw [cleanL, pl_cl x n m h.1, plL_cl xs n m h.2]; rfl
end
mutual
theorem pl_mono : ∀ (d : D) (n m : Nat), n ≤ m → pl d n = true → pl d m = true
  | .non, _, _, _, _ => by simp [pl]
  | .bl _, _, _, _, _ => by simp [pl]
  | .int _, _, _, _, _ => by simp [pl]
  | .str _, _, _, _, h => by rw [pl] at h ⊢; exact h
  | .tup xs, n + 1, m + 1, hm, h => by rw [pl] at h ⊢; exact plL_mono xs n m (by omega) h
  | .lst xs, n + 1, m + 1, hm, h => by rw [pl] at h ⊢; exact plL_mono xs n m (by omega) h
  | .tup xs, n + 1, 0, hm, h => by omega
  | .lst xs, n + 1, 0, hm, h => by omega
  | .tup xs, 0, _, _, h => by rw [pl] at h; cases h
  | .lst xs, 0, _, _, h => by rw [pl] at h; cases h
  | .kt _, _, _, _, h => by simp [pl] at h
  | .scr _, _, _, _, h => by simp [pl] at h
  | .dk _, _, _, _, h => by simp [pl] at h
  | .dt _, _, _, _, h => by simp [pl] at h
  | .obj _ _, _, _, _, h => by simp [pl] at h
  | .exc _ _, _, _, _, h => by simp [pl] at h
  | .reg _, _, _, _, h => by simp [pl] at h
  | .cls _, _, _, _, h => by simp [pl] at h
  | .fn _, _, _, _, h => by simp [pl] at h
theorem plL_mono : ∀ (xs : List D) (n m : Nat), n ≤ m → plL xs n = true → plL xs m = true
  | [], _, _, _, _ => by simp [plL]
  | x :: xs, n, m, hm, h => by
    rw [plL, Bool.and_eq_true] at h ⊢
    exact ⟨pl_mono x n m hm h.1, plL_mono xs n m hm h.2⟩
end
theorem pl_ty {d : D} {n : Nat} (h : pl d n = true) (S : Store) : (tyD S d).isSome = true := by
  cases d <;> first | rfl | (simp [pl] at h)
theorem pl_pyR {S : Store} {d : D} {n : Nat} (h : pl d n = true) (hn : n ≤ 64) : ∃ p, toPyR S d = some p ∧ SeqAt.shaped p = true := by
  obtain ⟨p, h1, h2, h3⟩ := pl_py (S := S) d n h
  refine ⟨p, ?_, ?_⟩
  · cases d <;> first | exact h1 | (simp [pl] at h)
  · unfold SeqAt.shaped
    rw [h2, decide_eq_true (by omega)]; rfl
theorem eqStr {a b : Str} (h1 : PyData.strOk a = true) (h2 : PyData.strOk b = true) {S : Store} : dEq (.str a) (.str b) S = .ok (.bl (decide (a = b))) S := by
  rw [eqPy (p := .str a) (q := .str b) rfl rfl (by unfold SeqAt.shaped; rw [PyData.canLay0, h1]; rfl) (by unfold SeqAt.shaped; rw [PyData.canLay0, h2]; rfl)]
  rw [PyData.eqv]
  by_cases e : a = b
  · rw [decide_eq_true e, e, beq_self_eq_true]
  · rw [decide_eq_false e, beq_eq_false_iff_ne.mpr e]
theorem neStr {a b : Str} (h1 : PyData.strOk a = true) (h2 : PyData.strOk b = true) {S : Store} : dNe (.str a) (.str b) S = .ok (.bl (!decide (a = b))) S := by
  rw [nePy (p := .str a) (q := .str b) rfl rfl (by unfold SeqAt.shaped; rw [PyData.canLay0, h1]; rfl) (by unfold SeqAt.shaped; rw [PyData.canLay0, h2]; rfl)]
  rw [PyData.eqv]
  by_cases e : a = b
  · rw [decide_eq_true e, e, beq_self_eq_true]
  · rw [decide_eq_false e, beq_eq_false_iff_ne.mpr e]
theorem ok_says : PyData.strOk "says" = true := by decide +kernel
theorem ok_no : PyData.strOk "no" = true := by decide +kernel
theorem ok_both : PyData.strOk "both" = true := by decide +kernel
theorem ok_either : PyData.strOk "either" = true := by decide +kernel
/-- x == () -/
theorem eq_nil {S : Store} {xs : List D} {n : Nat} (h : pl (.tup xs) n = true) (hn : n ≤ 64) : dEq (.tup xs) (.tup []) S = .ok (.bl xs.isEmpty) S := by
  obtain ⟨p, h1, h2⟩ := pl_pyR (S := S) h hn
  rw [eqPy (q := .tuple []) h1 (by simp [toPyR, toPy, toPyL]) h2 (by decide +kernel)]
  have e : toPyR S (.tup xs) = (toPyL S xs).map .tuple := by simp [toPyR, toPy]
  rw [e] at h1
  cases xs with
  | nil =>
    simp [toPyL] at h1
    subst h1
    simp [PyData.eqv, PyData.eqvAll]
  | cons y ys =>
    obtain ⟨ps, h3, rfl⟩ := Option.map_eq_some_iff.mp h1
    rw [toPyL] at h3
    obtain ⟨q, h4, h5⟩ := Option.bind_eq_some_iff.mp h3
    obtain ⟨qs, h6, rfl⟩ := Option.map_eq_some_iff.mp h5
    simp [PyData.eqv, PyData.eqvAll]
end K07
set_option Elab.async false
set_option linter.all false
set_option maxRecDepth 100000
set_option maxHeartbeats 400000
namespace K07
open PySem PySem.Spec L2 PyProof.Rows WL
/-! ### what a sentence is -/
def sayB (many : Nat) : List D → Bool
  | [a, b] => btw 0 ((many : Int) - 1) a && btw 0 3 b
  | _ => false
def nodeB (many : Nat) : D → Bool
  | .tup (.str h :: xs) => if h = "says" then sayB many xs else if h = "no" then decide (xs.length = 1) else if h = "both" ∨ h = "either" then decide (xs.length = 2) else false
  | _ => false
def kids : D → List D
  | .tup (.str h :: xs) => if h = "says" then [] else xs
  | _ => []
def isS (many : Nat) : Nat → D → Bool
  | 0, _ => false
  | n + 1, x => nodeB many x && (kids x).all (isS many n)
theorem p_is_word {d : D} {S : Store} (h : (tyD S d).isSome) : m_is_word [d] S = .ok (.bl (btw 0 3 d)) S := by
  have e := p_is_between (S := S) (lo := 0) (hi := 3) h
  simp [m_is_word, bm_is_word, e]
theorem lk_no : List.lookup ("no" : Str) kv_PARTS = some 1 := by decide
theorem lk_both : List.lookup ("both" : Str) kv_PARTS = some 2 := by decide
theorem lk_either : List.lookup ("either" : Str) kv_PARTS = some 2 := by decide
theorem lk_says : List.lookup ("says" : Str) kv_PARTS = some 0 := by decide
theorem lk_none {h : Str} (h1 : h ≠ "says") (h2 : h ≠ "no") (h3 : h ≠ "both") (h4 : h ≠ "either") : List.lookup h kv_PARTS = none := by
  have b : ∀ {x : Str}, h ≠ x → (h == x) = false := fun e => beq_eq_false_iff_ne.mpr e
  simp only [kv_PARTS, List.lookup_cons, b h1, b h2, b h3, b h4, List.lookup_nil]
section
variable {S : Store} {many : Nat}
theorem ix0 {y : D} {ys : List D} : dIdx (.tup (y :: ys)) (.int 0) S = .ok y S := x_ix_t (xs := y :: ys) (i := 0) (by simp)
theorem ix1 {x y : D} {ys : List D} : dIdx (.tup (x :: y :: ys)) (.int 1) S = .ok y S := x_ix_t (xs := x :: y :: ys) (i := 1) (by simp)
theorem ix2 {x y z : D} {ys : List D} : dIdx (.tup (x :: y :: z :: ys)) (.int 2) S = .ok z S := x_ix_t (xs := x :: y :: z :: ys) (i := 2) (by simp)
theorem isi_t {xs : List D} : dIsi "tuple" (.tup xs) S = .ok (.bl true) S := rfl
theorem isi_s {h : Str} : dIsi "str" (.str h) S = .ok (.bl true) S := rfl
theorem isi_of {d : D} {t T : String} (h : tyD S d = some t) : dIsi T d S = .ok (.bl (isT t T)) S := by simp [dIsi, h]
theorem p_is_node {x : D} {n : Nat} (hp : pl x n = true) (hn : n ≤ 60) : m_is_node [.int many, x] S = .ok (.bl (nodeB many x)) S := by
  obtain ⟨t, ht⟩ := Option.isSome_iff_exists.mp (pl_ty hp S)
  by_cases hT : ∃ xs, x = .tup xs
  · obtain ⟨xs, rfl⟩ := hT
    have e1 := eq_nil (S := S) hp (by omega)
    have d0 : dTup [] S = .ok (.tup []) S := x_dTup (by decide)
    simp only [tyD] at ht; cases ht
    cases xs with
    | nil => simp [m_is_node, bm_is_node, isi_t, isi_s, d0, e1, nodeB]
    | cons y ys =>
      have hy : pl y (n - 1) = true ∧ plL ys (n - 1) = true := by
        cases n with
        | zero => rw [pl] at hp; cases hp
        | succ n => rw [pl, plL, Bool.and_eq_true] at hp; exact hp
      obtain ⟨ty, hty⟩ := Option.isSome_iff_exists.mp (pl_ty hy.1 S)
      by_cases hS : ∃ h, y = .str h
      · obtain ⟨h, rfl⟩ := hS
        have oh : PyData.strOk h = true := by have := hy.1; rwa [pl] at this
        have q1 := eqStr (S := S) oh ok_says
        by_cases h1 : h = "says"
        · subst h1
          match ys, hy.2 with
          | [], _ => simp [m_is_node, bm_is_node, isi_t, isi_s, d0, e1, nodeB, ix0, dInG, lk_says, q1, eqInt, sayB]
          | [a], _ => simp [m_is_node, bm_is_node, isi_t, isi_s, d0, e1, nodeB, ix0, dInG, lk_says, q1, eqInt, sayB]
          | [a, b], hz =>
            rw [plL, Bool.and_eq_true, plL, Bool.and_eq_true] at hz
            have ea := p_is_between (S := S) (lo := 0) (hi := (many : Int) - 1) (pl_ty hz.1 S)
            have eb := p_is_word (S := S) (pl_ty hz.2.1 S)
            simp [m_is_node, bm_is_node, isi_t, isi_s, d0, e1, nodeB, ix0, ix1, ix2, dInG, lk_says, q1, eqInt, sayB, ea, eb]
            cases btw 0 ((many : Int) - 1) a <;> simp
          | a :: b :: c :: r, _ =>
            have hl : ¬ ((r.length : Int) + 1 + 1 + 1 + 1 = 3) := by omega
            simp [m_is_node, bm_is_node, isi_t, isi_s, d0, e1, nodeB, ix0, dInG, lk_says, q1, eqInt, sayB, hl]
        · have n1 : decide (h = "says") = false := decide_eq_false h1
          by_cases h2 : h = "no"
          · subst h2
            have hl : decide ((ys.length : Int) + 1 = 2) = decide (ys.length = 1) := by congr 1; apply propext; omega
            simp [m_is_node, bm_is_node, isi_t, isi_s, d0, e1, nodeB, ix0, dInG, dIxG, lk_no, q1, eqInt, h1, hl]
          · by_cases h3 : h = "both"
            · subst h3
              have hl : decide ((ys.length : Int) + 1 = 3) = decide (ys.length = 2) := by congr 1; apply propext; omega
              simp [m_is_node, bm_is_node, isi_t, isi_s, d0, e1, nodeB, ix0, dInG, dIxG, lk_both, q1, eqInt, h1, h2, hl]
            · by_cases h4 : h = "either"
              · subst h4
                have hl : decide ((ys.length : Int) + 1 = 3) = decide (ys.length = 2) := by congr 1; apply propext; omega
                simp [m_is_node, bm_is_node, isi_t, isi_s, d0, e1, nodeB, ix0, dInG, dIxG, lk_either, q1, eqInt, h1, h2, h3, hl]
              · simp [m_is_node, bm_is_node, isi_t, isi_s, d0, e1, nodeB, ix0, dInG, lk_none h1 h2 h3 h4, h1, h2, h3, h4]
      · have hb : isT ty "str" = false := by
          cases y <;> first | (exact absurd ⟨_, rfl⟩ hS) | (simp only [tyD] at hty; cases hty; decide) | (have := hy.1; simp [pl] at this)
        have hnb : nodeB many (.tup (y :: ys)) = false := by
          cases y <;> first | rfl | (exact absurd ⟨_, rfl⟩ hS)
        simp [m_is_node, bm_is_node, isi_t, isi_of hty, hb, d0, e1, hnb, ix0]
  · have hb : isT t "tuple" = false := by
      cases x <;> first | (exact absurd ⟨_, rfl⟩ hT) | (simp only [tyD] at ht; cases ht; decide) | (simp [pl] at hp)
    have hnb : nodeB many x = false := by
      cases x <;> first | rfl | (exact absurd ⟨_, rfl⟩ hT)
    simp [m_is_node, bm_is_node, isi_of ht, hb, hnb]
end
end K07
set_option Elab.async false
set_option linter.all false
set_option maxRecDepth 100000
set_option maxHeartbeats 400000
namespace K07
open PySem PySem.Spec L2 PyProof.Rows WL
abbrev enc (p : D × Nat) : D := .tup [p.1, .int p.2]
def wgt (ws : List (D × Nat)) : Nat := (ws.map fun p => 3 ^ (8 - p.2)).sum
abbrev goodW (many : Nat) (ws : List (D × Nat)) : Bool := ws.all fun p => isS many (7 - p.2) p.1
abbrev srT : ET := tOf isB (eBin dNe (eV 2) (eOfL dLst (eNil)))
abbrev srB : SS := sSeq (sAsg (eMet0 isLst (fun x => mPop x []) (eV 2)) (gT [gN 3, gN 4])) (sSeq (sIf (tOrM (tOf isB (eBin dGt (eV 4) (eC (.int 6)))) (tNotM (tOf isB (eCall 2 m_is_node [] (eCons (eV 0) (eCons (eV 3) (eNil))))))) (sRet (eC (.bl false))) (sNil)) (sExpr (eMet isLst mExtend (eV 2) (eCons (eIf (tOf isB (eBin dNe (eBin dIdx (eV 3) (eC (.int 0))) (eC (.str "says")))) (eLc (iSeq (eSlice (eV 3) (oSome (eC (.int 1))) (oNone))) (gN 5) (tYesM) (eOfL dTup (eCons (eV 5) (eCons (eBin dAdd (eV 4) (eC (.int 1))) (eNil)))) [5]) (eOfL dLst (eNil))) (eNil)))))
theorem wgt_len : ∀ ws : List (D × Nat), ws.length ≤ wgt ws
  | [] => Nat.le_refl _
  | p :: ws => by
    have := wgt_len ws
    have h : 1 ≤ 3 ^ (8 - p.2) := Nat.one_le_pow _ _ (by decide)
    simp only [wgt, List.map_cons, List.sum_cons, List.length_cons] at *
    omega
theorem wgt_app (a b : List (D × Nat)) : wgt (a ++ b) = wgt a + wgt b := by simp [wgt]
theorem ne_reg_nil {S : Store} {j : Nat} {xs : List D} (h : S[j]? = some (some (.lst xs))) (hp : plL xs 60 = true) : dNe (.reg j) (.lst []) S = .ok (.bl (!xs.isEmpty)) S := by
  obtain ⟨ps, h1, h2, h3⟩ := plL_py (S := S) xs 60 hp
  have sh : SeqAt.shaped (.list ps) = true := by
    unfold SeqAt.shaped
    rw [PyData.canLay0, h2, PyData.depth, decide_eq_true (by omega)]; rfl
  rw [nePy (p := .list ps) (q := .list []) (by simp only [toPyR, h, h1]; rfl) (by simp [toPyR, toPy, toPyL]) sh (by decide +kernel)]
  cases xs with
  | nil => simp [toPyL] at h1; subst h1; simp [PyData.eqv, PyData.eqvAll]
  | cons y ys =>
    rw [toPyL] at h1
    obtain ⟨q, h4, h5⟩ := Option.bind_eq_some_iff.mp h1
    obtain ⟨qs, h6, rfl⟩ := Option.map_eq_some_iff.mp h5
    simp [PyData.eqv, PyData.eqvAll]
section
variable {S : Store} {many : Nat}
theorem pop_last {st : List D} {y : D} : mPop (.reg S.length) [] (S ++ [some (.lst (st ++ [y]))]) = .ok y (S ++ [some (.lst st)]) := by
  simp [mPop]
theorem ext_last {st zs : List D} (h : st.length + zs.length ≤ big) : mExtend (.reg S.length) [.lst zs] (S ++ [some (.lst st)]) = .ok .non (S ++ [some (.lst (st ++ zs))]) := by
  simp [mExtend, h]
theorem node_inv {x : D} (h : nodeB many x = true) : ∃ hd xs, x = .tup (.str hd :: xs) ∧ (kids x).length ≤ 2 ∧ (hd ≠ "says" → kids x = xs) ∧ (hd = "says" → kids x = []) := by
  unfold nodeB at h
  split at h
  · rename_i hd xs
    refine ⟨hd, xs, rfl, ?_, fun e => by simp [kids, e], fun e => by simp [kids, e]⟩
    by_cases h1 : hd = "says"
    · simp [kids, h1]
    · simp only [kids, if_neg h1]
      rw [if_neg h1] at h
      split at h
      · have := of_decide_eq_true h; omega
      · split at h
        · have := of_decide_eq_true h; omega
        · cases h
  · cases h
theorem slice1 {y : D} {ys : List D} : dSlice (.tup (y :: ys)) (some 1) none S = .ok (.tup ys) S := by
  have e : HT.sIx (y :: ys).length 0 (some 1) = 1 := by
    rw [show (1 : Int) = ((1 : Nat) : Int) from rfl, HT.sIx_nat]; simp
  have c : WL.cutD (y :: ys) (some 1) none = ys := by
    unfold WL.cutD
    rw [e, HT.sIx_none]
    simp
  simp only [dSlice, e, c]
  rw [if_neg (by simp)]
end
end K07
set_option Elab.async false
set_option linter.all false
set_option maxRecDepth 100000
set_option maxHeartbeats 400000
namespace K07
open PySem PySem.Spec L2 PyProof.Rows WL
section
variable {S : Store} {many : Nat}
theorem enc_pl {ws : List (D × Nat)} (h : ∀ p ∈ ws, pl p.1 50 = true) : plL (ws.map enc) 60 = true := by
  rw [plL_all]
  intro x hx
  obtain ⟨p, hp, rfl⟩ := List.mem_map.mp hx
  have := pl_mono p.1 50 59 (by omega) (h p hp)
  simp [enc, pl, plL, this]
theorem wGo_step {t : ET} {b : SS} {n : Nat} {env env2 : WL.Env} {S1 S2 : Store} (h1 : t env S1 = .ok true S1) (h2 : b env S1 = .next env2 S2) : wGo t b (n + 1) env S1 = wGo t b n env2 S2 := by
  simp only [wGo, h1, x_bindE_ok, if_true, h2]
theorem wGo_ret {t : ET} {b : SS} {n : Nat} {env : WL.Env} {d : D} {S1 S2 : Store} (h1 : t env S1 = .ok true S1) (h2 : b env S1 = .ret d S2) : wGo t b (n + 1) env S1 = .ret d S2 := by
  simp only [wGo, h1, x_bindE_ok, if_true, h2]
theorem wGo_end {t : ET} {b : SS} {n : Nat} {env : WL.Env} {S1 : Store} (h1 : t env S1 = .ok false S1) : wGo t b (n + 1) env S1 = .next env S1 := by
  simp only [wGo, h1, x_bindE_ok, Bool.false_eq_true, if_false]
abbrev srE (many : Nat) (x0 : D) (S : Store) (z3 z4 : WL.Slot) : WL.Env := [.d (.int many), .d x0, .d (.reg S.length), z3, z4, .un]
theorem sr_test {x0 : D} {z3 z4 : WL.Slot} {ws : List (D × Nat)} (h : ∀ p ∈ ws, pl p.1 50 = true) : srT (srE many x0 S z3 z4) (S ++ [some (.lst (ws.map enc))]) = .ok (!ws.isEmpty) (S ++ [some (.lst (ws.map enc))]) := by
  have l0 : ∀ {S : Store}, dLst [] S = .ok (.lst []) S := fun {S} => x_dLst (by decide)
  have e := ne_reg_nil (S := S ++ [some (.lst (ws.map enc))]) (j := S.length) last_at (enc_pl h)
  have e2 : (ws.map enc).isEmpty = ws.isEmpty := by cases ws <;> rfl
  rw [e2] at e
  simp only [srT, srE, x_tOf, x_eBin, x_eV, List.getElem?_cons_succ, List.getElem?_cons_zero, x_bind_ok, x_eOfL, x_eNil, l0, e, x_isB]
theorem sr_bad {x0 x : D} {d : Nat} {z3 z4 : WL.Slot} {ws : List (D × Nat)} (hx : pl x 50 = true) (hb : 6 < d ∨ nodeB many x = false) : ∃ st, srB (srE many x0 S z3 z4) (S ++ [some (.lst ((ws ++ [(x, d)]).map enc))]) = .ret (.bl false) (S ++ [some (.lst st)]) := by
  refine ⟨ws.map enc, ?_⟩
  have e1 := pop_last (S := S) (st := ws.map enc) (y := enc (x, d))
  have e2 := p_is_node (S := S ++ [some (.lst (ws.map enc))]) (many := many) hx (by omega)
  have il : isLst (S ++ [some (.lst ((ws ++ [(x, d)]).map enc))]) (.reg S.length) = true := isLst_reg last_at
  have e3 : (ws ++ [(x, d)]).map enc = ws.map enc ++ [enc (x, d)] := by simp
  rw [e3] at il ⊢
  simp only [srB, srE, x_sSeq, x_sAsg, eMet0, x_eV, List.getElem?_cons_succ, List.getElem?_cons_zero, x_bind_ok, il, if_true, e1, x_bindE_ok, enc, x_gT, x_gL, x_gN, Option.bind, x_gL0, List.set_cons_succ, List.set_cons_zero]
  by_cases h6 : (6 : Int) < (d : Int)
  · have h7 : decide ((d : Int) > 6) = true := decide_eq_true h6
    simp only [x_sIf, x_tOrM, x_tOf, x_eBin, x_eV, x_eC, List.getElem?_cons_succ, List.getElem?_cons_zero, x_bind_ok, x_dRel, h7, x_isB, if_true, x_bindE_ok, x_sRet]
  · have h7 : decide ((d : Int) > 6) = false := decide_eq_false h6
    have hn : nodeB many x = false := by rcases hb with h | h; · omega
                                         · exact h
    rw [hn] at e2
    simp only [x_sIf, x_tOrM, x_tOf, x_eBin, x_eV, x_eC, List.getElem?_cons_succ, List.getElem?_cons_zero, x_bind_ok, x_dRel, h7, x_isB, Bool.false_eq_true, if_false, x_tNotM, x_eCall, x_eCons, x_eNil, List.append_nil, List.length_cons, List.length_nil, Nat.reduceAdd, if_true, e2, Bool.not_false, x_bindE_ok, x_sRet]
theorem sr_good {x0 x : D} {d : Nat} {z3 z4 : WL.Slot} {ws : List (D × Nat)} (hx : pl x 50 = true) (hd : d ≤ 6) (hn : nodeB many x = true) (hl : ws.length ≤ 10000) : srB (srE many x0 S z3 z4) (S ++ [some (.lst ((ws ++ [(x, d)]).map enc))]) = .next (srE many x0 S (.d x) (.d (.int d))) (S ++ [some (.lst ((ws ++ (kids x).map fun y => (y, d + 1)).map enc))]) := by
  have e1 := pop_last (S := S) (st := ws.map enc) (y := enc (x, d))
  have e2 := p_is_node (S := S ++ [some (.lst (ws.map enc))]) (many := many) hx (by omega)
  rw [hn] at e2
  have il : isLst (S ++ [some (.lst ((ws ++ [(x, d)]).map enc))]) (.reg S.length) = true := isLst_reg last_at
  have il2 : isLst (S ++ [some (.lst (ws.map enc))]) (.reg S.length) = true := isLst_reg last_at
  have e3 : (ws ++ [(x, d)]).map enc = ws.map enc ++ [enc (x, d)] := by simp
  rw [e3] at il ⊢
  have h7 : decide ((d : Int) > 6) = false := decide_eq_false (by omega)
  have l0 : ∀ {S : Store}, dLst [] S = .ok (.lst []) S := fun {S} => x_dLst (by decide)
  obtain ⟨hd2, xs, rfl, k1, k2, k3⟩ := node_inv hn
  have oh : PyData.strOk hd2 = true := by
    rw [show (50 : Nat) = 49 + 1 from rfl, pl, plL, Bool.and_eq_true] at hx
    have := hx.1; rwa [pl] at this
  have q1 := neStr (S := S ++ [some (.lst (ws.map enc))]) oh ok_says
  simp only [srB, srE, x_sSeq, x_sAsg, eMet0, x_eV, List.getElem?_cons_succ, List.getElem?_cons_zero, x_bind_ok, il, if_true, e1, x_bindE_ok, enc, x_gT, x_gL, x_gN, Option.bind, x_gL0, List.set_cons_succ, List.set_cons_zero]
  simp only [x_sIf, x_tOrM, x_tOf, x_eBin, x_eV, x_eC, List.getElem?_cons_succ, List.getElem?_cons_zero, x_bind_ok, x_dRel, h7, x_isB, Bool.false_eq_true, if_false, x_tNotM, x_eCall, x_eCons, x_eNil, List.append_nil, List.length_cons, List.length_nil, Nat.reduceAdd, if_true, e2, Bool.not_true, x_bindE_ok, x_sNil]
  by_cases hs : hd2 = "says"
  · have q2 : (!decide (hd2 = "says")) = false := by rw [decide_eq_true hs]; rfl
    rw [q2] at q1
    have e5 := ext_last (S := S) (st := ws.map enc) (zs := []) (by simp [big]; omega)
    rw [k3 hs]
    simp only [x_sExpr, x_eMet, x_eV, List.getElem?_cons_succ, List.getElem?_cons_zero, x_bind_ok, il2, if_true, x_eCons, x_eIf, x_tOf, x_eBin, x_eC, ix0, q1, x_isB, Bool.false_eq_true, if_false, x_eOfL, x_eNil, l0, e5, x_bindE_ok, List.map_nil, List.append_nil]
  · have q2 : (!decide (hd2 = "says")) = true := by rw [decide_eq_false hs]; rfl
    rw [q2] at q1
    have hk := k2 hs
    have e6 := lcGo_all (tm := gN 5) (te := eOfL dTup (eCons (eV 5) (eCons (eBin dAdd (eV 4) (eC (.int 1))) (eNil)))) (env0 := [.d (.int many), .d x0, .d (.reg S.length), .d (.tup (.str hd2 :: xs)), .d (.int d), .un]) (xs := xs) (S := S ++ [some (.lst (ws.map enc))]) (en := fun y => [.d (.int many), .d x0, .d (.reg S.length), .d (.tup (.str hd2 :: xs)), .d (.int d), .d y]) (f := fun y => .tup [y, .int ((d : Int) + 1)]) (fun y hy => rfl) (fun y hy => by
      simp only [x_eOfL, x_eCons, x_eV, x_eBin, x_eC, x_eNil, List.getElem?_cons_succ, List.getElem?_cons_zero, x_bind_ok, x_dAdd, t2]) (by rw [← hk]; exact Nat.le_trans k1 (by decide))
    have e5 := ext_last (S := S) (st := ws.map enc) (zs := xs.map fun y => .tup [y, .int ((d : Int) + 1)]) (by rw [hk] at k1; simp [big]; omega)
    have e7 : ((kids (.tup (.str hd2 :: xs))).map fun y => (y, d + 1)).map enc = xs.map fun y => .tup [y, .int ((d : Int) + 1)] := by
      rw [hk]; simp [enc, Function.comp_def]
    rw [List.map_append, e7]
    simp only [x_sExpr, x_eMet, x_eV, List.getElem?_cons_succ, List.getElem?_cons_zero, x_bind_ok, il2, if_true, x_eCons, x_eIf, x_tOf, x_eBin, x_eC, ix0, q1, x_isB, x_eLc, x_iSeq, eSlice, oSome, oNone, slice1, seqIt, SeqK.pr, x_wipe, x_wipe0, List.set_cons_succ, List.set_cons_zero, e6, x_only, x_eNil, e5, x_bindE_ok]
end
end K07
set_option Elab.async false
set_option linter.all false
set_option maxRecDepth 100000
set_option maxHeartbeats 400000
namespace K07
open PySem PySem.Spec L2 PyProof.Rows WL
section
variable {S : Store} {many : Nat}
theorem kids_pl {x : D} {n : Nat} (h : pl x (n + 1) = true) : ∀ y ∈ kids x, pl y n = true := by
  intro y hy
  unfold kids at hy
  split at hy
  · rw [pl, plL, Bool.and_eq_true, plL_all] at h
    split at hy
    · cases hy
    · exact h.2 y hy
  · cases hy
theorem snoc_of {α : Type} {l : List α} (h : l ≠ []) : ∃ a b, l = a ++ [b] := ⟨l.dropLast, l.getLast h, (List.dropLast_concat_getLast h).symm⟩
theorem sr_loop {x0 : D} : ∀ (k : Nat) (ws : List (D × Nat)) (z3 z4 : WL.Slot), (∀ p ∈ ws, pl p.1 50 = true ∧ 1 ≤ p.2 ∧ p.2 ≤ 7) → wgt ws < k → wgt ws ≤ 9000 →
    (goodW many ws = true → ∃ z3' z4', wGo srT srB k (srE many x0 S z3 z4) (S ++ [some (.lst (ws.map enc))]) = .next (srE many x0 S z3' z4') (S ++ [some (.lst [])])) ∧
    (goodW many ws = false → ∃ st, wGo srT srB k (srE many x0 S z3 z4) (S ++ [some (.lst (ws.map enc))]) = .ret (.bl false) (S ++ [some (.lst st)]))
  | 0, ws, _, _, _, h, _ => by omega
  | k + 1, ws, z3, z4, hp, hk, hb => by
    have tt := sr_test (S := S) (many := many) (x0 := x0) (z3 := z3) (z4 := z4) (ws := ws) fun p hp' => (hp p hp').1
    by_cases he : ws = []
    · subst he
      refine ⟨fun _ => ⟨z3, z4, ?_⟩, fun h => by simp [goodW] at h⟩
      exact wGo_end tt
    · obtain ⟨vs, ⟨x, d⟩, rfl⟩ := snoc_of he
      have te : (!(vs ++ [(x, d)]).isEmpty) = true := by simp
      rw [te] at tt
      obtain ⟨p1, p2, p3⟩ := hp (x, d) (by simp)
      have hv : ∀ p ∈ vs, pl p.1 50 = true ∧ 1 ≤ p.2 ∧ p.2 ≤ 7 := fun p h => hp p (by simp [h])
      have hw : wgt (vs ++ [(x, d)]) = wgt vs + 3 ^ (8 - d) := by rw [wgt_app]; simp [wgt]
      by_cases hbad : 6 < d ∨ nodeB many x = false
      · obtain ⟨st, e⟩ := sr_bad (S := S) (many := many) (x0 := x0) (z3 := z3) (z4 := z4) (ws := vs) p1 hbad
        have hg : isS many (7 - d) x = false := by
          rcases hbad with h | h
          · rw [show 7 - d = 0 by omega]; rfl
          · cases 7 - d with
            | zero => rfl
            | succ n => rw [isS, h]; rfl
        refine ⟨fun h => ?_, fun _ => ⟨st, wGo_ret tt e⟩⟩
        simp [goodW, hg] at h
      · have h6 : d ≤ 6 := by omega
        have hn : nodeB many x = true := by
          cases q : nodeB many x with
          | true => rfl
          | false => exact absurd (.inr q) hbad
        have hl := wgt_len vs
        have he8 : 1 ≤ 3 ^ (8 - d) := Nat.one_le_pow _ _ (by decide)
        have e := sr_good (S := S) (many := many) (x0 := x0) (z3 := z3) (z4 := z4) (ws := vs) p1 h6 hn (by omega)
        obtain ⟨_, _, _, k1, _, _⟩ := node_inv hn
        have hpow : 3 ^ (8 - d) = 3 * 3 ^ (8 - (d + 1)) := by rw [show 8 - d = (8 - (d + 1)) + 1 by omega, Nat.pow_succ]; omega
        have hpos : 1 ≤ 3 ^ (8 - (d + 1)) := Nat.one_le_pow _ _ (by decide)
        have hw2 : wgt ((kids x).map fun y => (y, d + 1)) = (kids x).length * 3 ^ (8 - (d + 1)) := by
          unfold wgt
          rw [List.map_map]
          have : ∀ l : List D, (l.map ((fun p : D × Nat => 3 ^ (8 - p.2)) ∘ fun y => (y, d + 1))).sum = l.length * 3 ^ (8 - (d + 1)) := fun l => by
            induction l with
            | nil => simp
            | cons a l ih => simp only [List.map_cons, List.sum_cons, ih, List.length_cons, Function.comp]; rw [Nat.succ_mul]; omega
          exact this _
        have hle : (kids x).length * 3 ^ (8 - (d + 1)) ≤ 2 * 3 ^ (8 - (d + 1)) := Nat.mul_le_mul_right _ k1
        have ih := sr_loop (x0 := x0) k (vs ++ (kids x).map fun y => (y, d + 1)) (.d x) (.d (.int d)) (fun p h => by
          rcases List.mem_append.mp h with h | h
          · exact hv p h
          · obtain ⟨y, hy, rfl⟩ := List.mem_map.mp h
            exact ⟨pl_mono y 49 50 (by omega) (kids_pl (n := 49) p1 y hy), by simp, by show d + 1 ≤ 7; omega⟩) (by rw [wgt_app, hw2]; omega) (by rw [wgt_app, hw2]; omega)
        have hg : goodW many (vs ++ [(x, d)]) = goodW many (vs ++ (kids x).map fun y => (y, d + 1)) := by
          have h1 : isS many (7 - d) x = (kids x).all (isS many (7 - (d + 1))) := by
            rw [show 7 - d = (7 - (d + 1)) + 1 by omega, isS, hn]; rfl
          simp [goodW, List.all_append, h1, List.all_map, Function.comp_def]
        rw [hg, wGo_step tt e]
        exact ih
theorem p_sentence_right {x : D} (hS : cleanS S.length S = true) (hp : pl x 50 = true) : m_sentence_right [.int many, x] S = .ok (.bl (isS many 6 x)) S := by
  have lp := sr_loop (S := S) (many := many) (x0 := x) 1000000 [(x, 1)] .un .un (fun p h => by
    rw [List.mem_singleton.mp h]; exact ⟨hp, Nat.le_refl _, by show 1 ≤ 7; omega⟩) (by show 3 ^ (8 - 1) + 0 < 1000000; decide) (by show 3 ^ (8 - 1) + 0 ≤ 9000; decide)
  have n1 : dNewL [enc (x, 1)] S = .ok (.reg S.length) (S ++ [some (.lst ([(x, 1)].map enc))]) := x_newL (by show 1 ≤ 1000000; decide)
  have hg : goodW many [(x, 1)] = isS many 6 x := by simp [goodW]
  rw [hg] at lp
  have cut : ∀ {st : List D} {d : D}, clean S.length d = true → sealR S.length [] (.ok d (S ++ [some (.lst st)])) = .ok d S := fun {st d} h => by
    rw [sealR_cut (by rw [cleanS_app]; exact hS) h]; simp
  rw [m_sentence_right, x_mkFn (np := 2) rfl, bm_sentence_right]
  simp only [x_sSeq, x_sSet, x_eOfL, x_eCons, x_eV, x_eC, x_eNil, x_env0, List.map_cons, List.map_nil, List.cons_append, List.nil_append, List.length_cons, List.length_nil, Nat.reduceAdd, Nat.reduceSub, List.replicate, List.getElem?_cons_zero, List.getElem?_cons_succ, x_bind_ok, t2]
  rw [show (D.tup [x, .int 1]) = enc (x, 1) from rfl, n1]
  simp only [x_bindE_ok, List.set_cons_succ, List.set_cons_zero, sWhile]
  cases h : isS many 6 x with
  | true =>
    obtain ⟨z3, z4, e⟩ := lp.1 h
    simp only [srT, srB, srE] at e
    rw [e]
    simp only [x_sRet, x_eC, x_bindE_ok, x_ret_ret]
    exact cut rfl
  | false =>
    obtain ⟨st, e⟩ := lp.2 h
    simp only [srT, srB, srE] at e
    rw [e]
    simp only [x_ret_ret]
    exact cut rfl
theorem p_need_many (h1 : 1 ≤ many) (h4 : many ≤ 4) : m_need_many [.int many] S = .ok .non S := by
  have e := p_is_between (S := S) (d := .int many) (lo := 1) (hi := 4) rfl
  have b : btw 1 4 (.int many) = true := by simp [btw]; omega
  rw [b] at e
  simp [m_need_many, bm_need_many, e]
theorem p_is_sentence {x : D} (hS : cleanS S.length S = true) (h1 : 1 ≤ many) (h4 : many ≤ 4) (hp : pl x 50 = true) : m_is_sentence [.int many, x] S = .ok (.bl (isS many 6 x)) S := by
  simp [m_is_sentence, bm_is_sentence, p_need_many h1 h4, p_sentence_right hS hp]
theorem p_need_sentence {x : D} (hS : cleanS S.length S = true) (hp : pl x 50 = true) : m_need_sentence [.int many, x] S = if isS many 6 x then .ok .non S else .exc ⟨"BadSentence", []⟩ S := by
  have e := p_sentence_right (many := many) hS hp
  cases h : isS many 6 x <;> rw [h] at e <;> simp [m_need_sentence, bm_need_sentence, e, sRaise0]
end
end K07
set_option Elab.async false
set_option linter.all false
set_option maxRecDepth 100000
set_option maxHeartbeats 400000
namespace K07
open PySem PySem.Spec L2 PyProof.Rows WL
section
variable {S : Store} {many : Nat}
theorem isS_inv {x : D} {n : Nat} (h : isS many (n + 1) x = true) : (∃ i j : Int, x = .tup [.str "says", .int i, .int j] ∧ 0 ≤ i ∧ i < many ∧ 0 ≤ j ∧ j ≤ 3) ∨ (∃ y, x = .tup [.str "no", y] ∧ isS many n y = true) ∨ ∃ hd y z, (hd = ("both" : Str) ∨ hd = ("either" : Str)) ∧ x = .tup [.str hd, y, z] ∧ isS many n y = true ∧ isS many n z = true := by
  rw [isS, Bool.and_eq_true] at h
  obtain ⟨h1, h2⟩ := h
  unfold nodeB at h1
  split at h1
  · rename_i hd xs
    by_cases e1 : hd = "says"
    · rw [if_pos e1] at h1
      unfold sayB at h1
      split at h1
      · rename_i a b
        rw [Bool.and_eq_true] at h1
        have key : ∀ {lo hi : Int} {d : D}, btw lo hi d = true → ∃ i : Int, d = .int i ∧ lo ≤ i ∧ i ≤ hi := fun {lo hi d} q => by
          cases d with
          | int i => simp only [btw, Bool.and_eq_true, decide_eq_true_eq] at q; exact ⟨i, rfl, q⟩
          | _ => cases q
        obtain ⟨i, rfl, i1, i2⟩ := key h1.1
        obtain ⟨j, rfl, j1, j2⟩ := key h1.2
        exact .inl ⟨i, j, by rw [e1], i1, by omega, j1, j2⟩
      · cases h1
    · rw [if_neg e1] at h1
      have hk : kids (.tup (.str hd :: xs)) = xs := by simp [kids, e1]
      rw [hk] at h2
      by_cases e2 : hd = "no"
      · rw [if_pos e2] at h1
        have := of_decide_eq_true h1
        match xs, this with
        | [y], _ => exact .inr (.inl ⟨y, by rw [e2], by simpa using h2⟩)
      · rw [if_neg e2] at h1
        by_cases e3 : hd = "both" ∨ hd = "either"
        · rw [if_pos e3] at h1
          have := of_decide_eq_true h1
          match xs, this with
          | [y, z], _ =>
            simp only [List.all_cons, List.all_nil, Bool.and_true, Bool.and_eq_true] at h2
            exact .inr (.inr ⟨hd, y, z, e3, rfl, h2.1, h2.2⟩)
        · rw [if_neg e3] at h1; cases h1
  · cases h1
theorem isS_mono {x : D} : ∀ {n : Nat}, isS many n x = true → isS many (n + 1) x = true := by
  intro n
  induction n generalizing x with
  | zero => intro h; cases h
  | succ n ih =>
    intro h
    rw [isS, Bool.and_eq_true, List.all_eq_true] at h ⊢
    exact ⟨h.1, fun y hy => ih (h.2 y hy)⟩
/-! ### what it says -/
def gd (l : List Int) (i : Int) : Int := l.getD i.toNat 0
def sayH (wd : List Int) : D → D → Bool
  | .int i, .int j => decide (gd wd i = j)
  | _, _ => false
def hold (wd : List Int) : Nat → D → Bool
  | 0, _ => false
  | n + 1, .tup [.str _, y] => !hold wd n y
  | n + 1, .tup [.str hd, y, z] => if hd = "says" then sayH wd y z else if hd = "both" then hold wd n y && hold wd n z else hold wd n y || hold wd n z
  | _, _ => false
theorem bls_map (p : D → Bool) : ∀ xs : List D, blsOf (xs.map fun y => .bl (p y)) = some (xs.map p)
  | [] => rfl
  | x :: xs => by simp [blsOf, bls_map p xs]
theorem at_w {w : D} {wd : List Int} (hw : Sq w (iD wd)) {i : Int} (h0 : 0 ≤ i) (h1 : i < wd.length) : dIdx w (.int i) S = .ok (.int (gd wd i)) S := by
  have h2 : i.toNat < (iD wd).length := by simp [iD]; omega
  have e : (iD wd)[i.toNat] = .int (gd wd i) := by
    have : i.toNat < wd.length := by omega
    simp [iD, gd, this]
  cases hw with
  | l xs =>
    have q := x_ix_l (S := S) h2
    rw [Int.toNat_of_nonneg h0, e] at q
    exact q
  | t xs =>
    have q := x_ix_t (S := S) h2
    rw [Int.toNat_of_nonneg h0, e] at q
    exact q
theorem ixl0 {y : D} {ys : List D} : dIdx (.lst (y :: ys)) (.int 0) S = .ok y S := x_ix_l (xs := y :: ys) (i := 0) (by simp)
theorem eqs (a b : Str) (h1 : PyData.strOk a = true) (h2 : PyData.strOk b = true) (c : Bool) (h : decide (a = b) = c) : dEq (.str a) (.str b) S = .ok (.bl c) S := by rw [eqStr h1 h2, h]
theorem e_ss : dEq (.str "says") (.str "says") S = .ok (.bl true) S := eqs _ _ ok_says ok_says _ (by decide)
theorem e_ns : dEq (.str "no") (.str "says") S = .ok (.bl false) S := eqs _ _ ok_no ok_says _ (by decide)
theorem e_bs : dEq (.str "both") (.str "says") S = .ok (.bl false) S := eqs _ _ ok_both ok_says _ (by decide)
theorem e_es : dEq (.str "either") (.str "says") S = .ok (.bl false) S := eqs _ _ ok_either ok_says _ (by decide)
theorem e_nn : dEq (.str "no") (.str "no") S = .ok (.bl true) S := eqs _ _ ok_no ok_no _ (by decide)
theorem e_bn : dEq (.str "both") (.str "no") S = .ok (.bl false) S := eqs _ _ ok_both ok_no _ (by decide)
theorem e_en : dEq (.str "either") (.str "no") S = .ok (.bl false) S := eqs _ _ ok_either ok_no _ (by decide)
theorem e_bb : dEq (.str "both") (.str "both") S = .ok (.bl true) S := eqs _ _ ok_both ok_both _ (by decide)
theorem e_eb : dEq (.str "either") (.str "both") S = .ok (.bl false) S := eqs _ _ ok_either ok_both _ (by decide)
theorem nb_says : ¬ ("no" : Str) = "says" := by decide
end
end K07
set_option Elab.async false
set_option linter.all false
set_option maxRecDepth 100000
set_option maxHeartbeats 400000
namespace K07
open PySem PySem.Spec L2 PyProof.Rows WL
section
variable {S : Store} {many : Nat} {wd : List Int}
theorem all2 {a b : Bool} : bAll [.lst [.bl a, .bl b]] S = .ok (.bl (a && b)) S := by simp [bAll, blsOf]
theorem any2 {a b : Bool} : bAny [.lst [.bl a, .bl b]] S = .ok (.bl (a || b)) S := by simp [bAny, blsOf]
theorem lc_two {te : E} {env0 : WL.Env} {v : Nat} {y z dy dz : D} (h1 : te (env0.set v (.d y)) S = .ok dy S) (h2 : te (env0.set v (.d z)) S = .ok dz S) : lcGo (itL [y, z]) (gN v) tYesM te env0 3 0 [] S = .ok [dy, dz] S := by
  simp [lcGo, itL, tYesM, h1, h2, big]
theorem lc_one {te : E} {env0 : WL.Env} {v : Nat} {y dy : D} (h1 : te (env0.set v (.d y)) S = .ok dy S) : lcGo (itL [y]) (gN v) tYesM te env0 2 0 [] S = .ok [dy] S := by
  simp [lcGo, itL, tYesM, h1, big]
theorem p_holds_by {w : D} (hw : Sq w (iD wd)) (hl : wd.length = many) : ∀ (n k : Nat) (x : D), n ≤ k → isS many n x = true → m_holds_by k [x, w] S = .ok (.bl (hold wd n x)) S
  | 0, _, _, _, h => by cases h
  | n + 1, 0, _, hk, _ => by omega
  | n + 1, k + 1, x, hk, h => by
    rw [m_holds_by, x_mkFn (np := 2) rfl, bm_holds_by]
    rcases isS_inv h with ⟨i, j, rfl, i1, i2, j1, j2⟩ | ⟨y, rfl, hy⟩ | ⟨hd, y, z, hd2, rfl, hy, hz⟩
    · have e1 := at_w (S := S) hw i1 (by rw [hl]; exact i2)
      have hh : hold wd (n + 1) (.tup [.str "says", .int i, .int j]) = decide (gd wd i = j) := by simp [hold, sayH]
      rw [hh]
      simp only [x_sSeq, x_sIf, x_tOf, x_eBin, x_eV, x_eC, x_env0, List.map_cons, List.map_nil, List.cons_append, List.nil_append, List.length_cons, List.length_nil, Nat.reduceAdd, Nat.reduceSub, List.replicate, List.getElem?_cons_zero, List.getElem?_cons_succ, x_bind_ok, ix0, e_ss, x_isB, x_bindE_ok, if_true, x_sRet, ix1, ix2, e1, eqInt, x_ret_ret, sealR_ok (Nat.le_refl _)]
    · have e1 := p_holds_by hw hl n k y (by omega) hy
      have hh : hold wd (n + 1) (.tup [.str "no", y]) = !hold wd n y := by simp [hold]
      rw [hh]
      have lc := lc_one (S := S) (te := eCall 2 (m_holds_by k) [] (eCons (eV 3) (eCons (eV 1) (eNil)))) (env0 := [.d (.tup [.str "no", y]), .d w, .un, .un]) (v := 3) (y := y) (dy := .bl (hold wd n y)) (by
        simp only [x_eCall, x_eCons, x_eV, x_eNil, List.set_cons_succ, List.set_cons_zero, List.getElem?_cons_zero, List.getElem?_cons_succ, x_bind_ok, List.append_nil, List.length_cons, List.length_nil, Nat.reduceAdd, if_true, e1])
      simp only [x_sSeq, x_sIf, x_tOf, x_eBin, x_eV, x_eC, x_env0, List.map_cons, List.map_nil, List.cons_append, List.nil_append, List.length_cons, List.length_nil, Nat.reduceAdd, Nat.reduceSub, List.replicate, List.getElem?_cons_zero, List.getElem?_cons_succ, x_bind_ok, ix0, e_ns, x_isB, x_bindE_ok, Bool.false_eq_true, if_false, x_sNil, x_sSet, x_eLc, x_iSeq, eSlice, oSome, oNone, slice1, seqIt, SeqK.pr, x_wipe, x_wipe0, List.set_cons_succ, List.set_cons_zero, lc, x_only, e_nn, if_true, x_sRet, x_eNot, ixl0, x_ret_ret, sealR_ok (Nat.le_refl _)]
    · have e1 := p_holds_by hw hl n k y (by omega) hy
      have e2 := p_holds_by hw hl n k z (by omega) hz
      have lc := lc_two (S := S) (te := eCall 2 (m_holds_by k) [] (eCons (eV 3) (eCons (eV 1) (eNil)))) (env0 := [.d (.tup [.str hd, y, z]), .d w, .un, .un]) (v := 3) (y := y) (z := z) (dy := .bl (hold wd n y)) (dz := .bl (hold wd n z)) (by
        simp only [x_eCall, x_eCons, x_eV, x_eNil, List.set_cons_succ, List.set_cons_zero, List.getElem?_cons_zero, List.getElem?_cons_succ, x_bind_ok, List.append_nil, List.length_cons, List.length_nil, Nat.reduceAdd, if_true, e1]) (by
        simp only [x_eCall, x_eCons, x_eV, x_eNil, List.set_cons_succ, List.set_cons_zero, List.getElem?_cons_zero, List.getElem?_cons_succ, x_bind_ok, List.append_nil, List.length_cons, List.length_nil, Nat.reduceAdd, if_true, e2])
      rcases hd2 with rfl | rfl
      · have hh : hold wd (n + 1) (.tup [.str "both", y, z]) = (hold wd n y && hold wd n z) := by
          have n1 : ¬ ("both" : Str) = "says" := by decide
          simp [hold, n1]
        rw [hh]
        simp only [x_sSeq, x_sIf, x_tOf, x_eBin, x_eV, x_eC, x_env0, List.map_cons, List.map_nil, List.cons_append, List.nil_append, List.length_cons, List.length_nil, Nat.reduceAdd, Nat.reduceSub, List.replicate, List.getElem?_cons_zero, List.getElem?_cons_succ, x_bind_ok, ix0, e_bs, x_isB, x_bindE_ok, Bool.false_eq_true, if_false, x_sNil, x_sSet, x_eLc, x_iSeq, eSlice, oSome, oNone, slice1, seqIt, SeqK.pr, x_wipe, x_wipe0, List.set_cons_succ, List.set_cons_zero, lc, x_only, e_bn, e_bb, if_true, x_sRet, x_eIf, x_eOfL, x_eCons, x_eNil, all2, x_ret_ret, sealR_ok (Nat.le_refl _)]
      · have hh : hold wd (n + 1) (.tup [.str "either", y, z]) = (hold wd n y || hold wd n z) := by
          have n1 : ¬ ("either" : Str) = "says" := by decide
          have n2 : ¬ ("either" : Str) = "both" := by decide
          simp [hold, n1, n2]
        rw [hh]
        simp only [x_sSeq, x_sIf, x_tOf, x_eBin, x_eV, x_eC, x_env0, List.map_cons, List.map_nil, List.cons_append, List.nil_append, List.length_cons, List.length_nil, Nat.reduceAdd, Nat.reduceSub, List.replicate, List.getElem?_cons_zero, List.getElem?_cons_succ, x_bind_ok, ix0, e_es, x_isB, x_bindE_ok, Bool.false_eq_true, if_false, x_sNil, x_sSet, x_eLc, x_iSeq, eSlice, oSome, oNone, slice1, seqIt, SeqK.pr, x_wipe, x_wipe0, List.set_cons_succ, List.set_cons_zero, lc, x_only, e_en, e_eb, if_true, x_sRet, x_eIf, x_eOfL, x_eCons, x_eNil, any2, x_ret_ret, sealR_ok (Nat.le_refl _)]
theorem p_lholds {w : D} (hw : Sq w (iD wd)) (hl : wd.length = many) : ∀ (n k : Nat) (x : D), n ≤ k → isS many n x = true → m__law_holds k [x, w] S = .ok (.bl (hold wd n x)) S
  | 0, _, _, _, h => by cases h
  | n + 1, 0, _, hk, _ => by omega
  | n + 1, k + 1, x, hk, h => by
    rw [m__law_holds, x_mkFn (np := 2) rfl, bm__law_holds]
    rcases isS_inv h with ⟨i, j, rfl, i1, i2, j1, j2⟩ | ⟨y, rfl, hy⟩ | ⟨hd, y, z, hd2, rfl, hy, hz⟩
    · have e1 := at_w (S := S) hw i1 (by rw [hl]; exact i2)
      have hh : hold wd (n + 1) (.tup [.str "says", .int i, .int j]) = decide (gd wd i = j) := by simp [hold, sayH]
      rw [hh]
      simp only [x_sSeq, x_sIf, x_tOf, x_eBin, x_eV, x_eC, x_env0, List.map_cons, List.map_nil, List.cons_append, List.nil_append, List.length_cons, List.length_nil, Nat.reduceAdd, Nat.reduceSub, List.replicate, List.getElem?_cons_zero, List.getElem?_cons_succ, x_bind_ok, ix0, e_ss, x_isB, x_bindE_ok, if_true, x_sRet, ix1, ix2, e1, eqInt, x_ret_ret, sealR_ok (Nat.le_refl _)]
    · have e1 := p_lholds hw hl n k y (by omega) hy
      have hh : hold wd (n + 1) (.tup [.str "no", y]) = !hold wd n y := by simp [hold]
      rw [hh]
      simp only [x_sSeq, x_sIf, x_tOf, x_eBin, x_eV, x_eC, x_env0, List.map_cons, List.map_nil, List.cons_append, List.nil_append, List.length_cons, List.length_nil, Nat.reduceAdd, Nat.reduceSub, List.replicate, List.getElem?_cons_zero, List.getElem?_cons_succ, x_bind_ok, ix0, e_ns, x_isB, x_bindE_ok, Bool.false_eq_true, if_false, x_sNil, e_nn, if_true, x_sRet, x_eNot, x_eCall, x_eCons, x_eNil, ix1, List.append_nil, e1, x_ret_ret, sealR_ok (Nat.le_refl _)]
    · have e1 := p_lholds hw hl n k y (by omega) hy
      have e2 := p_lholds hw hl n k z (by omega) hz
      rcases hd2 with rfl | rfl
      · have hh : hold wd (n + 1) (.tup [.str "both", y, z]) = (hold wd n y && hold wd n z) := by
          have n1 : ¬ ("both" : Str) = "says" := by decide
          simp [hold, n1]
        rw [hh]
        simp only [x_sSeq, x_sIf, x_tOf, x_eBin, x_eV, x_eC, x_env0, List.map_cons, List.map_nil, List.cons_append, List.nil_append, List.length_cons, List.length_nil, Nat.reduceAdd, Nat.reduceSub, List.replicate, List.getElem?_cons_zero, List.getElem?_cons_succ, x_bind_ok, ix0, e_bs, x_isB, x_bindE_ok, Bool.false_eq_true, if_false, x_sNil, e_bn, x_sPar, x_eCall, x_eCons, x_eNil, ix1, ix2, List.append_nil, if_true, e1, e2, List.zip_cons_cons, List.zip_nil_right, List.foldl_cons, List.foldl_nil, List.set_cons_succ, List.set_cons_zero, e_bb, x_sRet, x_eIf, x_eAnd]
        cases hold wd n y <;> simp only [x_bindE_ok, x_ret_ret, sealR_ok (Nat.le_refl _), Bool.true_and, Bool.false_and]
      · have hh : hold wd (n + 1) (.tup [.str "either", y, z]) = (hold wd n y || hold wd n z) := by
          have n1 : ¬ ("either" : Str) = "says" := by decide
          have n2 : ¬ ("either" : Str) = "both" := by decide
          simp [hold, n1, n2]
        rw [hh]
        simp only [x_sSeq, x_sIf, x_tOf, x_eBin, x_eV, x_eC, x_env0, List.map_cons, List.map_nil, List.cons_append, List.nil_append, List.length_cons, List.length_nil, Nat.reduceAdd, Nat.reduceSub, List.replicate, List.getElem?_cons_zero, List.getElem?_cons_succ, x_bind_ok, ix0, e_es, x_isB, x_bindE_ok, Bool.false_eq_true, if_false, x_sNil, e_en, x_sPar, x_eCall, x_eCons, x_eNil, ix1, ix2, List.append_nil, if_true, e1, e2, List.zip_cons_cons, List.zip_nil_right, List.foldl_cons, List.foldl_nil, List.set_cons_succ, List.set_cons_zero, e_eb, x_sRet, x_eIf, x_eOr]
        cases hold wd n y <;> simp only [x_bindE_ok, x_ret_ret, sealR_ok (Nat.le_refl _), Bool.true_or, Bool.false_or]
end
end K07
set_option Elab.async false
set_option linter.all false
set_option maxRecDepth 100000
set_option maxHeartbeats 400000
namespace K07
open PySem PySem.Spec L2 PyProof.Rows WL
section
variable {S : Store} {many : Nat}
theorem p_whole {d : D} {t : String} (h : tyD S d = some t) : m__law_whole [d] S = .ok (.bl (isT t "int" && !isT t "bool")) S := by
  simp [m__law_whole, mkFn, bm__law_whole, dIsi, h]
  cases isT t "int" <;> simp
theorem p_from {d : D} {lo hi : Int} (h : (tyD S d).isSome) : m__law_from [d, .int lo, .int hi] S = .ok (.bl (btw lo hi d)) S := by
  obtain ⟨t, ht⟩ := Option.isSome_iff_exists.mp h
  have e := p_whole ht
  cases d with
  | int i =>
    simp [tyD] at ht; subst ht
    simp [m__law_from, bm__law_from, e, btw, isT]
    cases decide (lo ≤ i) <;> simp
  | reg i =>
    have hn : (isT t "int" && !isT t "bool") = false := by
      simp only [tyD] at ht
      split at ht <;> first | (cases ht; rfl) | cases ht
    simp [m__law_from, bm__law_from, e, btw, hn]
  | _ => first | (simp [tyD] at ht; done) | (simp [tyD] at ht; subst ht; simp [m__law_from, bm__law_from, e, btw, isT])
theorem nin_two {h a b : Str} (h1 : PyData.strOk h = true) (h2 : PyData.strOk a = true) (h3 : PyData.strOk b = true) : dNotIn (.str h) (.lst [.str a, .str b]) S = .ok (.bl (!(decide (a = h) || decide (b = h)))) S := by
  have s1 : SeqAt.shaped (.str h) = true := by unfold SeqAt.shaped; rw [PyData.canLay0, h1]; rfl
  have s2 : SeqAt.shaped (.list [.str a, .str b]) = true := by
    unfold SeqAt.shaped
    rw [PyData.canLay0, PyData.canLayAll0, PyData.canLayAll0, PyData.canLay0, PyData.canLay0, h2, h3]; rfl
  have e : inRes S (.str h) (.lst [.str a, .str b]) = some (decide (a = h) || decide (b = h)) := by
    simp only [inRes, dkOf, dtOf, toPyR, toPy, toPyL, Option.bind, Option.map, List.any_cons, List.any_nil, Bool.or_false]
    rw [if_pos ⟨s1, s2⟩]
    simp only [PyData.eqv]
    have k : ∀ {x y : Str}, (x == y) = decide (x = y) := fun {x y} => by
      by_cases e : x = y
      · rw [decide_eq_true e, e, beq_self_eq_true]
      · rw [decide_eq_false e, beq_eq_false_iff_ne.mpr e]
    rw [k, k]
  simp only [dNotIn, dInB, e]; rfl
theorem p_lis : ∀ (n k m : Nat) (x : D), n < k → pl x m = true → m ≤ 60 → m__law_is_sentence k [.int many, x, .int n] S = .ok (.bl (isS many n x)) S
  | _, 0, _, _, h, _, _ => by omega
  | n, k + 1, m, x, hk, hp, hm => by
    obtain ⟨t, ht⟩ := Option.isSome_iff_exists.mp (pl_ty hp S)
    rw [m__law_is_sentence, x_mkFn (np := 3) rfl, bm__law_is_sentence]
    by_cases hT : ∃ xs, x = .tup xs
    · obtain ⟨xs, rfl⟩ := hT
      simp only [tyD] at ht; cases ht
      cases xs with
      | nil =>
        have : isS many n (.tup []) = false := by cases n <;> simp [isS, nodeB]
        simp [isi_t, eqInt, this]
      | cons y ys =>
        have hl0 : ¬ ((ys.length : Int) + 1 = 0) := by omega
        have hy : pl y (m - 1) = true ∧ plL ys (m - 1) = true := by
          cases m with
          | zero => rw [pl] at hp; cases hp
          | succ m => rw [pl, plL, Bool.and_eq_true] at hp; exact hp
        obtain ⟨ty, hty⟩ := Option.isSome_iff_exists.mp (pl_ty hy.1 S)
        by_cases hS : ∃ h, y = .str h
        · obtain ⟨h, rfl⟩ := hS
          have oh : PyData.strOk h = true := by have := hy.1; rwa [pl] at this
          have q1 := eqStr (S := S) oh ok_says
          have q2 := eqStr (S := S) oh ok_no
          have q3 := nin_two (S := S) oh ok_both ok_either
          cases n with
          | zero => simp [isi_t, isi_s, ix0, eqInt, hl0, isS]
          | succ n =>
            have hn0 : ¬ ((n : Int) + 1 = 0) := by omega
            have hn1 : (n : Int) + 1 - 1 = n := by omega
            by_cases h1 : h = "says"
            · subst h1
              have hk0 : ∀ b, (kids (.tup (.str "says" :: ys))).all b = true := fun b => by simp [kids]
              rw [isS, hk0, Bool.and_true]
              match ys, hy.2 with
              | [], _ => simp [isi_t, isi_s, ix0, q1, eqInt, hn0, nodeB, sayB]
              | [a], _ => simp [isi_t, isi_s, ix0, q1, eqInt, hn0, nodeB, sayB]
              | [a, b], hz =>
                rw [plL, Bool.and_eq_true, plL, Bool.and_eq_true] at hz
                have ea := p_from (S := S) (lo := 0) (hi := (many : Int) - 1) (pl_ty hz.1 S)
                have eb := p_from (S := S) (lo := 0) (hi := 3) (pl_ty hz.2.1 S)
                simp [isi_t, isi_s, ix0, ix1, ix2, q1, eqInt, hn0, nodeB, sayB, ea, eb]
                cases btw 0 ((many : Int) - 1) a <;> simp
              | a :: b :: c :: r, _ =>
                have hl : ¬ ((r.length : Int) + 1 + 1 + 1 + 1 = 3) := by omega
                have hl1 : ¬ ((r.length : Int) + 1 + 1 + 1 + 1 = 0) := by omega
                simp [isi_t, isi_s, ix0, q1, eqInt, hn0, nodeB, sayB, hl, hl1]
            · have hkk : kids (.tup (.str h :: ys)) = ys := by simp [kids, h1]
              rw [isS, hkk]
              by_cases h2 : h = "no"
              · subst h2
                match ys, hy.2 with
                | [], _ => simp [isi_t, isi_s, ix0, q1, q2, eqInt, hn0, nodeB, h1]
                | [a], hz =>
                  rw [plL, Bool.and_eq_true] at hz
                  have ea := p_lis n k (m - 1) a (by omega) hz.1 (by omega)
                  simp [isi_t, isi_s, ix0, ix1, q1, q2, eqInt, hn0, hn1, nodeB, h1, ea]
                | a :: b :: r, _ =>
                  have hl : ¬ ((r.length : Int) + 1 + 1 + 1 = 2) := by omega
                  have hl1 : ¬ ((r.length : Int) + 1 + 1 + 1 = 0) := by omega
                  simp [isi_t, isi_s, ix0, q1, q2, eqInt, hn0, nodeB, h1, hl, hl1]
              · by_cases h3 : h = "both" ∨ h = "either"
                · have q3' : (!(decide (("both" : Str) = h) || decide (("either" : Str) = h))) = false := by
                    rcases h3 with rfl | rfl <;> decide
                  rw [q3'] at q3
                  have nb : nodeB many (.tup (.str h :: ys)) = decide (ys.length = 2) := by simp only [nodeB, if_neg h1, if_neg h2, if_pos h3]
                  rw [nb]
                  match ys, hy.2 with
                  | [], _ => simp [isi_t, isi_s, ix0, q1, q2, q3, neInt, eqInt, hn0, h1, h2, l2]
                  | [a], _ => simp [isi_t, isi_s, ix0, q1, q2, q3, neInt, eqInt, hn0, h1, h2, l2]
                  | [a, b], hz =>
                    rw [plL, Bool.and_eq_true, plL, Bool.and_eq_true] at hz
                    have ea := p_lis n k (m - 1) a (by omega) hz.1 (by omega)
                    have eb := p_lis n k (m - 1) b (by omega) hz.2.1 (by omega)
                    simp [isi_t, isi_s, ix0, ix1, ix2, q1, q2, q3, neInt, eqInt, hn0, hn1, h1, h2, l2, ea, eb]
                    cases isS many n a <;> simp
                  | a :: b :: c :: r, _ =>
                    have hl : ¬ ((r.length : Int) + 1 + 1 + 1 + 1 = 3) := by omega
                    have hl1 : ¬ ((r.length : Int) + 1 + 1 + 1 + 1 = 0) := by omega
                    simp [isi_t, isi_s, ix0, q1, q2, q3, neInt, eqInt, hn0, h1, h2, l2, hl, hl1]
                · have h4 : ¬ h = "both" := fun e => h3 (.inl e)
                  have h5 : ¬ h = "either" := fun e => h3 (.inr e)
                  have q3' : (!(decide (("both" : Str) = h) || decide (("either" : Str) = h))) = true := by
                    rw [decide_eq_false fun e => h4 e.symm, decide_eq_false fun e => h5 e.symm]; rfl
                  rw [q3'] at q3
                  simp [isi_t, isi_s, ix0, q1, q2, q3, eqInt, hl0, hn0, nodeB, h1, h2, h3, h4, h5, l2]
        · have hb : isT ty "str" = false := by
            cases y <;> first | (exact absurd ⟨_, rfl⟩ hS) | (simp only [tyD] at hty; cases hty; decide) | (have := hy.1; simp [pl] at this)
          have hnb : isS many n (.tup (y :: ys)) = false := by
            cases n with
            | zero => rfl
            | succ n =>
              have : nodeB many (.tup (y :: ys)) = false := by cases y <;> first | rfl | (exact absurd ⟨_, rfl⟩ hS)
              rw [isS, this]; rfl
          simp [isi_t, isi_of hty, hb, hnb, ix0, eqInt, hl0]
    · have hb : isT t "tuple" = false := by
        cases x <;> first | (exact absurd ⟨_, rfl⟩ hT) | (simp only [tyD] at ht; cases ht; decide) | (simp [pl] at hp)
      have hnb : isS many n x = false := by
        cases n with
        | zero => rfl
        | succ n =>
          have : nodeB many x = false := by cases x <;> first | rfl | (exact absurd ⟨_, rfl⟩ hT)
          rw [isS, this]; rfl
      simp [isi_of ht, hb, hnb]
theorem p_says {b : Bool} : m__law_says [.bl b, .bl b] S = .ok (.bl true) S := by
  cases b <;> simp [m__law_says, bm__law_says, dIsB]
end
end K07
set_option Elab.async false
set_option linter.all false
set_option maxRecDepth 100000
set_option maxHeartbeats 400000
namespace K07
open PySem PySem.Spec L2 PyProof.Rows WL
section
variable {L : List Int} {r : Int} {c : List Int} {t : Int} {T : Store} {S : Store} {many : Nat}
theorem t3 {a b c : D} : dTup [a, b, c] S = .ok (.tup [a, b, c]) S := if_pos (by show 3 ≤ 1000000; decide)
theorem t1 {a : D} : dTup [a] S = .ok (.tup [a]) S := if_pos (by show 1 ≤ 1000000; decide)
theorem t0 : dTup [] S = .ok (.tup []) S := if_pos (by show 0 ≤ 1000000; decide)
theorem isS_says {i j : Int} {n : Nat} (h1 : 0 ≤ i ∧ i < many) (h2 : 0 ≤ j ∧ j < 4) : isS many (n + 1) (.tup [.str "says", .int i, .int j]) = true := by
  have h3 : i ≤ (many : Int) - 1 := by omega
  have h4 : j ≤ 3 := by omega
  simp [isS, nodeB, sayB, btw, kids, h1.1, h2.1, h3, h4]
theorem isS_no {x : D} {n : Nat} (h : isS many n x = true) : isS many (n + 1) (.tup [.str "no", x]) = true := by
  have n1 : ¬ ("no" : Str) = "says" := by decide
  simp [isS, nodeB, kids, n1, h]
theorem isS_two {hd : Str} {x y : D} {n : Nat} (hh : hd = "both" ∨ hd = "either") (h : isS many n x = true) (h2 : isS many n y = true) : isS many (n + 1) (.tup [.str hd, x, y]) = true := by
  have n1 : ¬ hd = "says" := by rcases hh with rfl | rfl <;> decide
  have n2 : ¬ hd = "no" := by rcases hh with rfl | rfl <;> decide
  simp [isS, nodeB, kids, n1, n2, hh, h, h2]
theorem pl_says {i j : Int} {n : Nat} : pl (.tup [.str "says", .int i, .int j]) (n + 1) = true := by simp [pl, plL, ok_says]
theorem p_sent (hm : 1 ≤ many ∧ many ≤ 4) : ∀ (d k : Nat) (L : List Int) (r t : Int), 1 ≤ d → d ≤ k → ∃ x L' r' t', m__law_sentence k [.reg 1, .int many, .int d] (tp L r c t T) = .ok x (tp L' r' c t' T) ∧ pl x d = true ∧ isS many d x = true
  | 0, _, _, _, _, h, _ => by omega
  | d + 1, 0, _, _, _, _, h => by omega
  | d + 1, k + 1, L, r, t, _, hk => by
    have endS : ∀ {x : D} {L' : List Int} {r' t' : Int}, sealR (tp L r c t T).length [] (.ok x (tp L' r' c t' T)) = .ok x (tp L' r' c t' T) := fun {x L' r' t'} => sealR_ok (Nat.le_refl _)
    have says : ∀ (L : List Int) (r t : Int) (w : WL.Slot), ∃ x L' r' t', sRet (eOfL dTup (eCons (eC (.str "says")) (eCons (eCall 2 m__law_draw [] (eCons (eV 0) (eCons (eV 1) (eNil)))) (eCons (eCall 2 m__law_draw [] (eCons (eV 0) (eCons (eC (.int 4)) (eNil)))) (eNil))))) [.d (.reg 1), .d (.int many), .d (.int ((d + 1 : Nat) : Int)), w] (tp L r c t T) = .ret x (tp L' r' c t' T) ∧ pl x (d + 1) = true ∧ isS many (d + 1) x = true := fun L r t w => by
      obtain ⟨i, L1, r1, t1_, e1, i1, i2⟩ := p_draw (L := L) (r := r) (c := c) (t := t) (T := T) (n := many) ⟨by omega, by omega⟩
      obtain ⟨j, L2, r2, t2_, e2, j1, j2⟩ := p_draw (L := L1) (r := r1) (c := c) (t := t1_) (T := T) (n := 4) (by decide)
      refine ⟨_, L2, r2, t2_, ?_, pl_says, isS_says ⟨i1, i2⟩ ⟨j1, j2⟩⟩
      simp only [x_sRet, x_eOfL, x_eCons, x_eC, x_eCall, x_eV, x_eNil, List.getElem?_cons_zero, List.getElem?_cons_succ, x_bind_ok, List.append_nil, List.length_cons, List.length_nil, Nat.reduceAdd, if_true, e1, e2, t3, x_bindE_ok]
    have hd1 : (((d + 1 : Nat) : Int)) - 1 = (d : Int) := by omega
    rw [m__law_sentence, x_mkFn (np := 3) rfl, bm__law_sentence]
    by_cases h1 : d = 0
    · subst h1
      obtain ⟨x, L1, r1, t1_, e1, h2, h3⟩ := says L r t (.d (.int 4))
      refine ⟨x, L1, r1, t1_, ?_, h2, h3⟩
      have g : decide ((((0 + 1 : Nat) : Int)) > 1) = false := by decide
      simp only [x_sSeq, x_sSet, x_eIf, x_tOf, x_eBin, x_eV, x_eC, x_env0, List.map_cons, List.map_nil, List.cons_append, List.nil_append, List.length_cons, List.length_nil, Nat.reduceAdd, Nat.reduceSub, List.replicate, List.getElem?_cons_zero, List.getElem?_cons_succ, x_bind_ok, x_dRel, g, x_isB, Bool.false_eq_true, if_false, x_bindE_ok, List.set_cons_succ, List.set_cons_zero, x_sIf, eqInt, show decide ((4 : Int) = 0) = false from by decide, show decide ((4 : Int) < 4) = false from by decide, x_sNil, e1, x_ret_ret, endS]
    · obtain ⟨v, L1, r1, t1_, e1, v1, v2⟩ := p_draw (L := L) (r := r) (c := c) (t := t) (T := T) (n := 5) (by decide)
      have g : decide ((((d + 1 : Nat) : Int)) > 1) = true := decide_eq_true (by omega)
      by_cases v0 : v = 0
      · obtain ⟨x, L2, r2, t2_, e2, h2, h3⟩ := p_sent hm d k L1 r1 t1_ (by omega) (by omega)
        refine ⟨.tup [.str "no", x], L2, r2, t2_, ?_, by simp [pl, plL, ok_no, h2], isS_no h3⟩
        simp only [x_sSeq, x_sSet, x_eIf, x_tOf, x_eBin, x_eV, x_eC, x_env0, List.map_cons, List.map_nil, List.cons_append, List.nil_append, List.length_cons, List.length_nil, Nat.reduceAdd, Nat.reduceSub, List.replicate, List.getElem?_cons_zero, List.getElem?_cons_succ, x_bind_ok, x_dRel, g, x_isB, if_true, x_eCall, x_eCons, x_eNil, List.append_nil, e1, x_bindE_ok, List.set_cons_succ, List.set_cons_zero, x_sIf, eqInt, decide_eq_true v0, x_sRet, x_eOfL, x_dSub, hd1, e2, t2, x_ret_ret, endS]
      · by_cases v4 : v < 4
        · obtain ⟨b, L2, r2, t2_, e2, hb⟩ := p_pick (L := L1) (r := r1) (c := c) (t := t1_) (T := T) (xs := [.str "both", .str "either"]) (by decide) (by decide)
          obtain ⟨x, L3, r3, t3_, e3, h2, h3⟩ := p_sent hm d k L2 r2 t2_ (by omega) (by omega)
          obtain ⟨y, L4, r4, t4, e4, h4, h5⟩ := p_sent hm d k L3 r3 t3_ (by omega) (by omega)
          obtain ⟨hd, rfl, hh⟩ : ∃ hd : Str, b = .str hd ∧ (hd = "both" ∨ hd = "either") := by
            simp only [List.mem_cons, List.not_mem_nil, or_false] at hb
            rcases hb with rfl | rfl
            · exact ⟨_, rfl, .inl rfl⟩
            · exact ⟨_, rfl, .inr rfl⟩
          have oh : PyData.strOk hd = true := by rcases hh with rfl | rfl; exact ok_both; exact ok_either
          refine ⟨.tup [.str hd, x, y], L4, r4, t4, ?_, by simp [pl, plL, oh, h2, h4], isS_two hh h3 h5⟩
          simp only [x_sSeq, x_sSet, x_eIf, x_tOf, x_eBin, x_eV, x_eC, x_env0, List.map_cons, List.map_nil, List.cons_append, List.nil_append, List.length_cons, List.length_nil, Nat.reduceAdd, Nat.reduceSub, List.replicate, List.getElem?_cons_zero, List.getElem?_cons_succ, x_bind_ok, x_dRel, g, x_isB, if_true, x_eCall, x_eCons, x_eNil, List.append_nil, e1, x_bindE_ok, List.set_cons_succ, List.set_cons_zero, x_sIf, eqInt, decide_eq_false v0, Bool.false_eq_true, if_false, x_sNil, decide_eq_true v4, x_sRet, x_eOfL, l2, e2, x_dSub, hd1, e3, e4, K07.t3, x_ret_ret, endS]
        · obtain ⟨x, L2, r2, t2_, e2, h2, h3⟩ := says L1 r1 t1_ (.d (.int v))
          refine ⟨x, L2, r2, t2_, ?_, h2, h3⟩
          simp only [x_sSeq, x_sSet, x_eIf, x_tOf, x_eBin, x_eV, x_eC, x_env0, List.map_cons, List.map_nil, List.cons_append, List.nil_append, List.length_cons, List.length_nil, Nat.reduceAdd, Nat.reduceSub, List.replicate, List.getElem?_cons_zero, List.getElem?_cons_succ, x_bind_ok, x_dRel, g, x_isB, if_true, x_eCall, x_eCons, x_eNil, List.append_nil, e1, x_bindE_ok, List.set_cons_succ, List.set_cons_zero, x_sIf, eqInt, decide_eq_false v0, Bool.false_eq_true, if_false, x_sNil, decide_eq_false v4]
          simp only [x_sRet, x_eOfL, x_eCons, x_eC, x_eCall, x_eV, x_eNil, List.append_nil, List.getElem?_cons_zero, List.getElem?_cons_succ, List.length_cons, List.length_nil, Nat.reduceAdd, if_true, x_bind_ok] at e2 ⊢
          rw [e2]
          simp only [x_ret_ret, endS]
end
end K07
set_option Elab.async false
set_option linter.all false
set_option maxRecDepth 100000
set_option maxHeartbeats 400000
namespace K07
open PySem PySem.Spec L2 PyProof.Rows WL
section
variable {L : List Int} {r : Int} {c : List Int} {t : Int} {T : Store} {S : Store} {many : Nat}
/-- what lies behind the tape is plain -/
def clT (T : Store) : Prop := ∀ n, T.all (cleanO n) = true
theorem clT_nil : clT [] := fun _ => rfl
theorem clT_snoc {xs : List D} (h : clT T) (h2 : ∀ n, cleanL n xs = true) : clT (T ++ [some (.lst xs)]) := fun n => by
  rw [List.all_append, h n]
  simp [cleanO, h2 n]
theorem cl_tpN {n : Nat} (h : clT T) (hn : 2 ≤ n) : (tp L r c t T).all (cleanO n) = true := by
  have e1 : cleanL n (iD L) = true := clean_ints _ L
  have e2 : cleanL n (iD c) = true := clean_ints _ c
  show (cleanO n (some (.lst (iD L))) && (cleanO n (some (.dk (dkt r c t))) && T.all (cleanO n))) = true
  rw [h n]
  have e3 : clean n (.reg 0) = true := by simp [clean]; omega
  simp [cleanO, e1, dkt, cleanK, e3, clean, e2]
  omega
theorem cl_tpT (h : clT T) : cleanS (tp L r c t T).length (tp L r c t T) = true := by
  unfold cleanS
  rw [List.take_length]
  exact cl_tpN h (by simp [tp])
theorem cl_tpT1 {xs : List D} {L' : List Int} {r' : Int} {t' : Int} (h : clT T) : cleanS (tp L r c t T).length (tp L' r' c t' (T ++ [some (.lst xs)])) = true := by
  have e : (tp L' r' c t' (T ++ [some (.lst xs)])).take (tp L r c t T).length = tp L' r' c t' T := by simp [tp]
  unfold cleanS
  rw [e]
  exact cl_tpN h (by simp [tp])
theorem take_tp {xs : List D} {L' : List Int} {r' : Int} {t' : Int} : (tp L' r' c t' (T ++ [some (.lst xs)])).take (tp L r c t T).length = tp L' r' c t' T := by simp [tp]
theorem sealR_frz {n j : Nat} {on : List Str} {S : Store} {rr : RO} {d' : D} (h : ¬ S.length ≤ n) (h1 : cleanS n S = true) (h2 : clean n (.reg j) = false) (h3 : S[j]? = some (some rr)) (h4 : frzD n on rr = some d') : sealR n on (.ok (.reg j) S) = .ok d' (S.take n) := by
  show (if S.length ≤ n then Res.ok (.reg j) S else sealD n on (.reg j) S) = _
  rw [if_neg h]
  unfold sealD
  rw [if_pos h1, h2, if_neg Bool.false_ne_true]
  simp only [h3, h4]
theorem seal_tup {x : D} {xs : List D} {L' : List Int} {r' : Int} {t' : Int} (h : clT T) (hx : ∀ n, clean n x = true) : sealR (tp L r c t T).length [] (.ok x (tp L' r' c t' (T ++ [some (.lst xs)]))) = .ok x (tp L' r' c t' T) := by
  rw [sealR_cut (cl_tpT1 h) (hx _), take_tp]
theorem seal_reg {xs : List D} {L' : List Int} {r' : Int} {t' : Int} (h : clT T) (hx : ∀ n, cleanL n xs = true) : sealR (tp L r c t T).length [] (.ok (.reg (T.length + 2)) (tp L' r' c t' (T ++ [some (.lst xs)]))) = .ok (.lst xs) (tp L' r' c t' T) := by
  rw [sealR_frz (rr := .lst xs) (d' := .lst xs) (by simp [tp]) (cl_tpT1 h) (by simp [clean, tp]) (by simp [tp]) (by simp [frzD, hx]), take_tp]
theorem reg_at {xs : List D} {L : List Int} {r t : Int} : (tp L r c t (T ++ [some (RO.lst xs)]))[T.length + 2]? = some (some (.lst xs)) := by simp [tp]
theorem reg_set {xs ys : List D} {L : List Int} {r t : Int} : (tp L r c t (T ++ [some (RO.lst xs)])).set (T.length + 2) (some (.lst ys)) = tp L r c t (T ++ [some (.lst ys)]) := by simp [tp]
abbrev bnA : List D := [.str "no", .str "both", .str "either", .str "says", .str "nor", .non, .int 0, .str "", .tup [.str "no"]]
abbrev bnB : List D := [.int 0, .int 1, .int 3, .int 4, .int (-1), .bl true, .bl false, .non, .str "1", .tup [.str "says", .int 0, .int 1], .int (10 ^ 20), .tup []]
theorem bnA_pl : plL bnA 1 = true := by decide +kernel
theorem bnB_pl : plL bnB 1 = true := by decide +kernel
abbrev bnR : SS := sSeq (sIf (tOf isB (eUn (dIsi "str") (eV 1))) (sRet (eCall 2 m__law_pick [] (eCons (eV 0) (eCons (eOfL dLst (eCons (eC (.str "no")) (eCons (eC (.str "both")) (eCons (eC (.str "either")) (eCons (eC (.str "says")) (eCons (eC (.str "nor")) (eCons (eC .non) (eCons (eC (.int 0)) (eCons (eC (.str "")) (eCons (eOfL dTup (eCons (eC (.str "no")) (eNil))) (eNil))))))))))) (eNil))))) (sNil)) (sRet (eCall 2 m__law_pick [] (eCons (eV 0) (eCons (eOfL dLst (eCons (eC (.int 0)) (eCons (eC (.int 1)) (eCons (eC (.int 3)) (eCons (eC (.int 4)) (eCons (eUn dNeg (eC (.int 1))) (eCons (eC (.bl true)) (eCons (eC (.bl false)) (eCons (eC .non) (eCons (eC (.str "1")) (eCons (eOfL dTup (eCons (eC (.str "says")) (eCons (eC (.int 0)) (eCons (eC (.int 1)) (eNil))))) (eCons (eBin dPow (eC (.int 10)) (eC (.int 20))) (eCons (eOfL dTup (eNil)) (eNil)))))))))))))) (eNil)))))
theorem pow20 {S : Store} : dPow (.int 10) (.int 20) S = .ok (.int (10 ^ 20)) S := by simp [dPow]
theorem p_bnR {x : D} {n : Nat} (hp : pl x n = true) {z2 z3 z4 : WL.Slot} : ∃ y L' r' t', bnR [.d (.reg 1), .d x, z2, z3, z4] (tp L r c t T) = .ret y (tp L' r' c t' T) ∧ pl y 1 = true := by
  obtain ⟨ty, hty⟩ := Option.isSome_iff_exists.mp (pl_ty hp (tp L r c t T))
  have qA : ∀ {S : Store}, dLst bnA S = .ok (.lst bnA) S := fun {S} => dl (by decide)
  have qB : ∀ {S : Store}, dLst bnB S = .ok (.lst bnB) S := fun {S} => dl (by decide)
  cases hs : isT ty "str" with
  | true =>
    obtain ⟨y, L1, r1, t1_, e1, h1⟩ := p_pick (L := L) (r := r) (c := c) (t := t) (T := T) (xs := bnA) (by decide) (by decide)
    refine ⟨y, L1, r1, t1_, ?_, plL_all.mp bnA_pl y h1⟩
    simp only [bnR, x_sSeq, x_sIf, x_tOf, x_eUn, x_eV, List.getElem?_cons_zero, List.getElem?_cons_succ, x_bind_ok, isi_of hty, hs, x_isB, x_bindE_ok, if_true, x_sRet, x_eCall, x_eCons, x_eOfL, x_eC, x_eNil, t1, qA, List.append_nil, List.length_cons, List.length_nil, Nat.reduceAdd, e1]
  | false =>
    obtain ⟨y, L1, r1, t1_, e1, h1⟩ := p_pick (L := L) (r := r) (c := c) (t := t) (T := T) (xs := bnB) (by decide) (by decide)
    refine ⟨y, L1, r1, t1_, ?_, plL_all.mp bnB_pl y h1⟩
    simp only [bnR, x_sSeq, x_sIf, x_tOf, x_eUn, x_eV, List.getElem?_cons_zero, List.getElem?_cons_succ, x_bind_ok, isi_of hty, hs, x_isB, x_bindE_ok, Bool.false_eq_true, if_false, x_sNil, x_sRet, x_eCall, x_eCons, x_eOfL, x_eBin, x_dNeg, x_eC, x_eNil, K07.t3, t0, pow20, qB, List.append_nil, List.length_cons, List.length_nil, Nat.reduceAdd, if_true, e1]
end
end K07
set_option Elab.async false
set_option linter.all false
set_option maxRecDepth 100000
set_option maxHeartbeats 400000
namespace K07
open PySem PySem.Spec L2 PyProof.Rows WL
section
variable {c : List Int} {S : Store} {many : Nat}
def Cmp (many n : Nat) (e : D) : Prop := isS many n e = true ∨ (∃ s, e = .str s) ∨ ∃ i, e = .int i
theorem cmp_tup {x : D} {n : Nat} (h : isS many (n + 1) x = true) (hp : pl x (n + 1) = true) : ∃ xs, x = .tup xs ∧ (1 ≤ xs.length ∧ xs.length ≤ 3) ∧ ∀ e ∈ xs, Cmp many n e ∧ pl e n = true := by
  rcases isS_inv h with ⟨i, j, rfl, _⟩ | ⟨y, rfl, hy⟩ | ⟨hd, y, z, hd2, rfl, hy, hz⟩
  · rw [pl, plL_all] at hp
    refine ⟨_, rfl, by simp, fun e he => ⟨?_, hp e he⟩⟩
    simp only [List.mem_cons, List.not_mem_nil, or_false] at he
    rcases he with rfl | rfl | rfl
    · exact .inr (.inl ⟨_, rfl⟩)
    · exact .inr (.inr ⟨_, rfl⟩)
    · exact .inr (.inr ⟨_, rfl⟩)
  · rw [pl, plL_all] at hp
    refine ⟨_, rfl, by simp, fun e he => ⟨?_, hp e he⟩⟩
    simp only [List.mem_cons, List.not_mem_nil, or_false] at he
    rcases he with rfl | rfl
    · exact .inr (.inl ⟨_, rfl⟩)
    · exact .inl hy
  · rw [pl, plL_all] at hp
    refine ⟨_, rfl, by simp, fun e he => ⟨?_, hp e he⟩⟩
    simp only [List.mem_cons, List.not_mem_nil, or_false] at he
    rcases he with rfl | rfl | rfl
    · exact .inr (.inl ⟨_, rfl⟩)
    · exact .inl hy
    · exact .inl hz
abbrev bnX (m : List D → M D) : SS := (sSeq (sPar [2, 3, 4] (eCons (eCall 2 m__law_draw [] (eCons (eV 0) (eCons (eOfL bLen (eCons (eV 1) (eNil))) (eNil)))) (eCons (eCall 2 m__law_draw [] (eCons (eV 0) (eCons (eC (.int 8)) (eNil)))) (eCons (eOfL bListR (eCons (eV 1) (eNil))) (eNil))))) (sSeq (sIf (tOf isB (eBin dEq (eV 3) (eC (.int 0)))) (sExpr (eMet isLst mPopAt (eV 4) (eCons (eV 2) (eNil)))) (sIf (tOf isB (eBin dEq (eV 3) (eC (.int 1)))) (sExpr (eMet isLst mInsert (eV 4) (eCons (eV 2) (eCons (eBin dIdx (eV 4) (eV 2)) (eNil))))) (sIf (tOf isB (eBin dEq (eV 3) (eC (.int 2)))) (sRet (eV 4)) (sPut (eCall 2 m [] (eCons (eV 0) (eCons (eBin dIdx (eV 4) (eV 2)) (eNil)))) (eV 4) (eV 2))))) (sRet (eOfL bTuple (eCons (eV 4) (eNil))))))
theorem listR {T : Store} {L : List Int} {r t : Int} {xs : List D} : bListR [.tup xs] (tp L r c t T) = .ok (.reg (T.length + 2)) (tp L r c t (T ++ [some (.lst xs)])) := rfl
theorem reg_ix {T : Store} {L : List Int} {r t : Int} {xs : List D} {i : Nat} (h : i < xs.length) : dIdx (.reg (T.length + 2)) (.int i) (tp L r c t (T ++ [some (RO.lst xs)])) = .ok xs[i] (tp L r c t (T ++ [some (RO.lst xs)])) := by
  simp [dIdx, WL.listOf, reg_at, ixN_ok h, h, orStuck]
theorem p_bnX {k n : Nat} {xs : List D} {T : Store} {L : List Int} {r t : Int} (hT : clT T) (hl : 1 ≤ xs.length ∧ xs.length ≤ 3) (hx : ∀ e ∈ xs, pl e n = true)
    (ih : ∀ e ∈ xs, ∀ (L : List Int) (r t : Int), ∃ y L' r' t', m__law_bent k [.reg 1, e] (tp L r c t (T ++ [some (.lst xs)])) = .ok y (tp L' r' c t' (T ++ [some (.lst xs)])) ∧ pl y (n + 1) = true) :
    ∃ d S2 y L' r' t', bnX (m__law_bent k) [.d (.reg 1), .d (.tup xs), .un, .un, .un] (tp L r c t T) = .ret d S2 ∧ sealR (T.length + 2) [] (.ok d S2) = .ok y (tp L' r' c t' T) ∧ pl y (n + 2) = true := by
  obtain ⟨i, L1, r1, t1_, e1, i1, i2⟩ := p_draw (L := L) (r := r) (c := c) (t := t) (T := T) (n := xs.length) ⟨by omega, by omega⟩
  obtain ⟨w, L2, r2, t2_, e2, w1, w2⟩ := p_draw (L := L1) (r := r1) (c := c) (t := t1_) (T := T) (n := 8) (by decide)
  obtain ⟨i, rfl⟩ := Int.eq_ofNat_of_zero_le i1
  have hi : i < xs.length := by omega
  have hlen : (tp L r c t T).length = T.length + 2 := by simp [tp]
  have clx : ∀ n, cleanL n xs = true := fun m => plL_cl xs n m (plL_all.mpr hx)
  have il : ∀ {L : List Int} {r t : Int} {xs : List D}, isLst (tp L r c t (T ++ [some (.lst xs)])) (.reg (T.length + 2)) = true := isLst_reg reg_at
  -- from the end
  have fin : ∀ {ys : List D} {L' : List Int} {r' t' : Int} {a b : WL.Slot}, (∀ e ∈ ys, pl e (n + 1) = true) → sRet (eOfL bTuple (eCons (eV 4) (eNil))) [.d (.reg 1), .d (.tup xs), a, b, .d (.reg (T.length + 2))] (tp L' r' c t' (T ++ [some (.lst ys)])) = .ret (.tup ys) (tp L' r' c t' (T ++ [some (.lst ys)])) ∧ sealR (T.length + 2) [] (.ok (.tup ys) (tp L' r' c t' (T ++ [some (.lst ys)]))) = .ok (.tup ys) (tp L' r' c t' T) ∧ pl (.tup ys) (n + 2) = true := fun {ys L' r' t' a b} hy => by
    have cy : ∀ m, clean m (.tup ys) = true := fun m => by rw [clean]; exact plL_cl ys (n + 1) m (plL_all.mpr hy)
    refine ⟨?_, ?_, by rw [pl]; exact plL_all.mpr hy⟩
    · simp only [x_sRet, x_eOfL, x_eCons, x_eV, x_eNil, List.getElem?_cons_zero, List.getElem?_cons_succ, x_bind_ok, tuple_reg reg_at, x_bindE_ok]
    · rw [← hlen]
      exact seal_tup hT cy
  have mono : ∀ e ∈ xs, pl e (n + 1) = true := fun e he => pl_mono e n (n + 1) (by omega) (hx e he)
  simp only [bnX, x_sSeq, x_sPar, x_eCons, x_eCall, x_eOfL, x_eV, x_eC, x_eNil, List.getElem?_cons_zero, List.getElem?_cons_succ, x_bind_ok, x_len_t, List.append_nil, List.length_cons, List.length_nil, Nat.reduceAdd, if_true, e1, e2, listR, x_bindE_ok, List.zip_cons_cons, List.zip_nil_right, List.foldl_cons, List.foldl_nil, List.set_cons_succ, List.set_cons_zero]
  by_cases w0 : w = 0
  · obtain ⟨q1, q3, q2⟩ := fin (ys := xs.eraseIdx i) (L' := L2) (r' := r2) (t' := t2_) (a := .d (.int i)) (b := .d (.int w)) fun e he => mono e (List.mem_of_mem_eraseIdx he)
    refine ⟨_, _, _, L2, r2, t2_, ?_, q3, q2⟩
    have pp : mPopAt (.reg (T.length + 2)) [.int (i : Int)] (tp L2 r2 c t2_ (T ++ [some (.lst xs)])) = .ok xs[i] (tp L2 r2 c t2_ (T ++ [some (.lst (xs.eraseIdx i))])) := by
      simp only [mPopAt, reg_at]
      rw [if_pos ⟨by omega, by omega⟩]
      simp only [Int.toNat_natCast, List.getElem?_eq_getElem hi, reg_set]
    simp only [x_sIf, x_tOf, x_eBin, x_eV, x_eC, List.getElem?_cons_zero, List.getElem?_cons_succ, x_bind_ok, eqInt, decide_eq_true w0, x_isB, x_bindE_ok, if_true, x_sExpr, x_eMet, il, x_eCons, x_eNil, pp]
    exact q1
  · by_cases w1 : w = 1
    · obtain ⟨q1, q3, q2⟩ := fin (ys := xs.take i ++ [xs[i]] ++ xs.drop i) (L' := L2) (r' := r2) (t' := t2_) (a := .d (.int i)) (b := .d (.int w)) fun e he => by
        rcases List.mem_append.mp he with he | he
        · rcases List.mem_append.mp he with he | he
          · exact mono e (List.mem_of_mem_take he)
          · rw [List.mem_singleton.mp he]; exact mono _ (List.getElem_mem hi)
        · exact mono e (List.mem_of_mem_drop he)
      refine ⟨_, _, _, L2, r2, t2_, ?_, q3, q2⟩
      have pp : mInsert (.reg (T.length + 2)) [.int (i : Int), xs[i]] (tp L2 r2 c t2_ (T ++ [some (.lst xs)])) = .ok .non (tp L2 r2 c t2_ (T ++ [some (.lst (xs.take i ++ [xs[i]] ++ xs.drop i))])) := by
        simp only [mInsert, reg_at]
        rw [if_pos ⟨by omega, by omega, by show xs.length < 1000000; omega⟩]
        simp only [Int.toNat_natCast, reg_set]
      simp only [x_sIf, x_tOf, x_eBin, x_eV, x_eC, List.getElem?_cons_zero, List.getElem?_cons_succ, x_bind_ok, eqInt, decide_eq_false w0, x_isB, x_bindE_ok, Bool.false_eq_true, if_false, decide_eq_true w1, if_true, x_sExpr, x_eMet, il, x_eCons, x_eNil, reg_ix hi, pp]
      exact q1
    · by_cases w2 : w = 2
      · refine ⟨.reg (T.length + 2), tp L2 r2 c t2_ (T ++ [some (.lst xs)]), .lst xs, L2, r2, t2_, ?_, by rw [← hlen]; exact seal_reg hT clx, by rw [pl]; exact plL_all.mpr mono⟩
        simp only [x_sIf, x_tOf, x_eBin, x_eV, x_eC, List.getElem?_cons_zero, List.getElem?_cons_succ, x_bind_ok, eqInt, decide_eq_false w0, x_isB, x_bindE_ok, Bool.false_eq_true, if_false, decide_eq_false w1, decide_eq_true w2, if_true, x_sRet, x_bindE_ok]
      · obtain ⟨y, L3, r3, t3_, e3, h3⟩ := ih xs[i] (List.getElem_mem hi) L2 r2 t2_
        obtain ⟨q1, q3, q2⟩ := fin (ys := xs.set i y) (L' := L3) (r' := r3) (t' := t3_) (a := .d (.int i)) (b := .d (.int w)) fun e he => by
          rcases List.mem_or_eq_of_mem_set he with he | rfl
          · exact mono e he
          · exact h3
        refine ⟨_, _, _, L3, r3, t3_, ?_, q3, q2⟩
        have pp : putR (.reg (T.length + 2)) (.int (i : Int)) y (tp L3 r3 c t3_ (T ++ [some (.lst xs)])) = some (tp L3 r3 c t3_ (T ++ [some (.lst (xs.set i y))])) := by
          simp only [putR, reg_at, ixN_ok hi, Option.map_some, reg_set]
        simp only [x_sIf, x_tOf, x_eBin, x_eV, x_eC, List.getElem?_cons_zero, List.getElem?_cons_succ, x_bind_ok, eqInt, decide_eq_false w0, x_isB, x_bindE_ok, Bool.false_eq_true, if_false, decide_eq_false w1, decide_eq_false w2, x_sPut, x_eCall, x_eCons, x_eNil, reg_ix hi, List.append_nil, List.length_cons, List.length_nil, Nat.reduceAdd, if_true, e3, pp]
        exact q1
abbrev bnT : ET := (tAndM (tOf isB (eUn (dIsi "tuple") (eV 1))) (tAndM (tOf isB (eBin dGt (eOfL bLen (eCons (eV 1) (eNil))) (eC (.int 0)))) (tOf isB (eBin dGt (eCall 2 m__law_draw [] (eCons (eV 0) (eCons (eC (.int 5)) (eNil)))) (eC (.int 0))))))
theorem bent_eq {m : List D → M D} : bm__law_bent m = sSeq (sIf bnT (bnX m) sNil) bnR := rfl
theorem if_no {t : ET} {a b : SS} {env : WL.Env} {S S1 : Store} (h : t env S = .ok false S1) : sSeq (sIf t a sNil) b env S = b env S1 := by
  simp only [x_sSeq, x_sIf, h, x_bindE_ok, Bool.false_eq_true, if_false, x_sNil]
theorem if_ret {t : ET} {a b : SS} {env : WL.Env} {S S1 S2 : Store} {d : D} (h : t env S = .ok true S1) (h2 : a env S1 = .ret d S2) : sSeq (sIf t a sNil) b env S = .ret d S2 := by
  simp only [x_sSeq, x_sIf, h, x_bindE_ok, if_true, h2]
theorem p_bent : ∀ (k n : Nat) (x : D) (T : Store) (L : List Int) (r t : Int), n < k → Cmp many n x → pl x n = true → clT T → ∃ y L' r' t', m__law_bent k [.reg 1, x] (tp L r c t T) = .ok y (tp L' r' c t' T) ∧ pl y (n + 1) = true
  | 0, _, _, _, _, _, _, h, _, _, _ => by omega
  | k + 1, n, x, T, L, r, t, hk, hc, hp, hT => by
    have hlen : (tp L r c t T).length = T.length + 2 := by simp [tp]
    have sk : ∀ {y : D} {L' : List Int} {r' t' : Int}, sealR (tp L r c t T).length [] (.ok y (tp L' r' c t' T)) = .ok y (tp L' r' c t' T) := fun {y L' r' t'} => sealR_ok (Nat.le_refl _)
    obtain ⟨ty, hty⟩ := Option.isSome_iff_exists.mp (pl_ty hp (tp L r c t T))
    rw [m__law_bent, x_mkFn (np := 2) rfl, bent_eq, show env0 5 [.reg 1, x] = [.d (.reg 1), .d x, .un, .un, .un] from rfl]
    by_cases hT2 : ∃ m, n = m + 1 ∧ isS many n x = true
    · obtain ⟨m, rfl, hs⟩ := hT2
      obtain ⟨xs, rfl, hl, hx⟩ := cmp_tup hs hp
      obtain ⟨v, L1, r1, t1_, e1, v1, v2⟩ := p_draw (L := L) (r := r) (c := c) (t := t) (T := T) (n := 5) (by decide)
      have g : decide ((xs.length : Int) > 0) = true := decide_eq_true (by omega)
      have tst : bnT [.d (.reg 1), .d (.tup xs), .un, .un, .un] (tp L r c t T) = .ok (decide (v > 0)) (tp L1 r1 c t1_ T) := by
        simp only [bnT, x_tAndM, x_tOf, x_eUn, x_eBin, x_eV, x_eC, x_eOfL, x_eCons, x_eNil, List.getElem?_cons_zero, List.getElem?_cons_succ, x_bind_ok, isi_t, x_isB, if_true, x_len_t, x_dRel, g, x_eCall, List.append_nil, List.length_cons, List.length_nil, Nat.reduceAdd, e1]
      by_cases v0 : v = 0
      · obtain ⟨y, L2, r2, t2_, e2, h2⟩ := p_bnR (L := L1) (r := r1) (c := c) (t := t1_) (T := T) hp (z2 := .un) (z3 := .un) (z4 := .un)
        refine ⟨y, L2, r2, t2_, ?_, pl_mono y 1 _ (by omega) h2⟩
        rw [decide_eq_false (by omega)] at tst
        rw [if_no tst, e2, x_ret_ret, sk]
      · obtain ⟨d, S2, y, L2, r2, t2_, e2, e3, h2⟩ := p_bnX (k := k) (n := m) (xs := xs) (L := L1) (r := r1) (c := c) (t := t1_) hT hl (fun e he => (hx e he).2) (fun e he L r t => p_bent k m e _ L r t (by omega) (hx e he).1 (hx e he).2 (clT_snoc hT fun q => plL_cl xs m q (plL_all.mpr fun e he => (hx e he).2)))
        refine ⟨y, L2, r2, t2_, ?_, h2⟩
        rw [decide_eq_true (by omega)] at tst
        rw [if_ret tst e2, x_ret_ret, hlen, e3]
    · have hnt : isT ty "tuple" = false := by
        rcases hc with h | ⟨s, rfl⟩ | ⟨i, rfl⟩
        · cases n with
          | zero => cases h
          | succ m => exact absurd ⟨m, rfl, h⟩ hT2
        · simp only [tyD] at hty; cases hty; decide
        · simp only [tyD] at hty; cases hty; decide
      obtain ⟨y, L2, r2, t2_, e2, h2⟩ := p_bnR (L := L) (r := r) (c := c) (t := t) (T := T) hp (z2 := .un) (z3 := .un) (z4 := .un)
      refine ⟨y, L2, r2, t2_, ?_, pl_mono y 1 _ (by omega) h2⟩
      have tst : bnT [.d (.reg 1), .d x, .un, .un, .un] (tp L r c t T) = .ok false (tp L r c t T) := by
        simp only [bnT, x_tAndM, x_tOf, x_eUn, x_eV, List.getElem?_cons_zero, List.getElem?_cons_succ, x_bind_ok, isi_of hty, hnt, x_isB, Bool.false_eq_true, if_false]
      rw [if_no tst, e2, x_ret_ret, sk]
end
end K07
set_option Elab.async false
set_option linter.all false
set_option maxRecDepth 100000
set_option maxHeartbeats 400000
namespace K07
open PySem PySem.Spec L2 PyProof.Rows WL
section
variable {S S' : Store}
abbrev xsC : List (Str × Bool) := [("WatchError", true), ("PartError", true), ("ItemError", true), ("BadNumber", true), ("BadWords", true), ("BadSentence", true)]
abbrev xsN : List (Str × Bool) := [("WatchError", false), ("PartError", false), ("ItemError", false), ("BadNumber", true), ("BadWords", false), ("BadSentence", false)]
abbrev xsW : List (Str × Bool) := [("WatchError", false), ("PartError", false), ("ItemError", false), ("BadNumber", false), ("BadWords", true), ("BadSentence", false)]
abbrev xsS : List (Str × Bool) := [("WatchError", false), ("PartError", false), ("ItemError", false), ("BadNumber", false), ("BadWords", false), ("BadSentence", true)]
theorem lc_n : List.lookup ("BadNumber" : Str) xsC = some true := by decide
theorem lc_w : List.lookup ("BadWords" : Str) xsC = some true := by decide
theorem lc_s : List.lookup ("BadSentence" : Str) xsC = some true := by decide
theorem ln_n : List.lookup ("BadNumber" : Str) xsN = some true := by decide
theorem ln_w : List.lookup ("BadWords" : Str) xsN = some false := by decide
theorem ln_s : List.lookup ("BadSentence" : Str) xsN = some false := by decide
theorem lw_n : List.lookup ("BadNumber" : Str) xsW = some false := by decide
theorem lw_w : List.lookup ("BadWords" : Str) xsW = some true := by decide
theorem lw_s : List.lookup ("BadSentence" : Str) xsW = some false := by decide
theorem ls_n : List.lookup ("BadNumber" : Str) xsS = some false := by decide
theorem ls_w : List.lookup ("BadWords" : Str) xsS = some false := by decide
theorem ls_s : List.lookup ("BadSentence" : Str) xsS = some true := by decide
theorem in_gen {a b : Str} (h1 : SeqAt.shaped (.str a) = true) (h2 : SeqAt.shaped (.list [.str b]) = true) : dIn (.str a) (.lst [.str b]) S = .ok (.bl (b == a)) S := by
  have e : inRes S (.str a) (.lst [.str b]) = some (b == a) := by
    simp only [inRes, dkOf, dtOf, toPyR, toPy, toPyL, Option.bind, Option.map, List.any_cons, List.any_nil, Bool.or_false]
    rw [if_pos ⟨h1, h2⟩]
    simp only [PyData.eqv]
  simp only [dIn, dInB, e]; rfl
theorem i_nw : dIn (.str "number") (.lst [.str "words"]) S = .ok (.bl false) S := by rw [in_gen (by decide +kernel) (by decide +kernel)]; congr 2
theorem i_ww : dIn (.str "words") (.lst [.str "words"]) S = .ok (.bl true) S := by rw [in_gen (by decide +kernel) (by decide +kernel)]; congr 2
theorem i_sw : dIn (.str "sentence") (.lst [.str "words"]) S = .ok (.bl false) S := by rw [in_gen (by decide +kernel) (by decide +kernel)]; congr 2
theorem i_nn : dIn (.str "number") (.lst [.str "number"]) S = .ok (.bl true) S := by rw [in_gen (by decide +kernel) (by decide +kernel)]; congr 2
theorem i_sn : dIn (.str "sentence") (.lst [.str "number"]) S = .ok (.bl false) S := by rw [in_gen (by decide +kernel) (by decide +kernel)]; congr 2
theorem l3' {x y z : D} : dLst [x, y, z] S = .ok (.lst [x, y, z]) S := if_pos (by show 3 ≤ 1000000; decide)
theorem fld_part {v : D} : dXf "part" ["PartError", "BadNumber"] (.exc "BadNumber" [("part", v)]) S = .ok v S := by
  have h : ("BadNumber" : Str) ∈ [("PartError" : Str), "BadNumber"] := by decide
  simp only [dXf]; rw [if_pos h]; simp [List.lookup, orStuck]
theorem fld_index {v : D} : dXf "index" ["ItemError", "BadWords"] (.exc "BadWords" [("index", v)]) S = .ok v S := by
  have h : ("BadWords" : Str) ∈ [("ItemError" : Str), "BadWords"] := by decide
  simp only [dXf]; rw [if_pos h]; simp [List.lookup, orStuck]
theorem caught_ok {op : List D → M D} {d : D} (h : op [] S = .ok d S') (hl : S'.length ≤ S.length) : m__law_caught op [] S = .ok .non S' := by
  simp [m__law_caught, bm__law_caught, sTryAs, h, env0F, sealR_ok hl]
theorem caught_exc {op : List D → M D} {cc : Str} {fs : List (Str × D)} (h : op [] S = .exc ⟨cc, fs⟩ S') (hc : List.lookup cc xsC = some true) (hl : S'.length ≤ S.length) : m__law_caught op [] S = .ok (.exc cc fs) S' := by
  simp only [xsC] at hc
  simp [m__law_caught, bm__law_caught, sTryAs, h, env0F, hc, sealR_ok hl]
theorem kind_ok {op : List D → M D} {d : D} (h : op [] S = .ok d S') (hl : S'.length ≤ S.length) : m__law_kind op [] S = .ok .non S' := by
  have e1 := caught_ok h hl
  simp [m__law_kind, bm__law_kind, moVar, e1, isNonD, sealR_ok hl]
theorem flt_words {a b d : Bool} {x : D} {w : D} {e : WL.Env} (h : e = [.f 0, .d x, .d w, .un, .un, .un]) : lcGo (itL [.tup [.str "number", .bl a], .tup [.str "words", .bl b], .tup [.str "sentence", .bl d]]) (gT [gN 4, gN 5]) (tOf isB (eV 5)) (eV 4) e 4 0 [] S = .ok ((if a then [.str "number"] else []) ++ (if b then [.str "words"] else []) ++ (if d then [.str "sentence"] else [])) S := by
  subst h
  cases a <;> cases b <;> cases d <;> simp [lcGo, itL, big]
theorem kind_exc {op : List D → M D} {cc : Str} {fs : List (Str × D)} {a b d : Bool} {wd : Str} {res : D} (h : op [] S = .exc ⟨cc, fs⟩ S') (hl : S'.length ≤ S.length) (hc : List.lookup cc xsC = some true) (ha : List.lookup cc xsN = some a) (hb : List.lookup cc xsW = some b) (hd : List.lookup cc xsS = some d)
    (hw : ((if a then [.str "number"] else []) ++ (if b then [.str "words"] else []) ++ (if d then [.str "sentence"] else []) : List D) = [.str wd])
    (hr : sSeq (sIf (tOf isB (eBin dIn (eBin dIdx (eV 3) (eC (.int 0))) (eOfL dLst (eCons (eC (.str "words")) (eNil))))) (sRet (eOfL dTup (eCons (eBin dIdx (eV 3) (eC (.int 0))) (eCons (eUn (dXf "index" ["ItemError", "BadWords"]) (eV 1)) (eNil))))) (sNil)) (sRet (eOfL dTup (eCons (eBin dIdx (eV 3) (eC (.int 0))) (eCons (eIf (tOf isB (eBin dIn (eBin dIdx (eV 3) (eC (.int 0))) (eOfL dLst (eCons (eC (.str "number")) (eNil))))) (eUn (dXf "part" ["PartError", "BadNumber"]) (eV 1)) (eC .non)) (eNil))))) [.f 0, .d (.exc cc fs), .d (.lst [.tup [.str "number", .bl a], .tup [.str "words", .bl b], .tup [.str "sentence", .bl d]]), .d (.lst [.str wd]), .un, .un] S' = .ret res S') : m__law_kind op [] S = .ok res S' := by
  have e1 := caught_exc h hc hl
  have fw := flt_words (S := S') (a := a) (b := b) (d := d) (x := .exc cc fs) (w := .lst [.tup [.str "number", .bl a], .tup [.str "words", .bl b], .tup [.str "sentence", .bl d]]) rfl
  rw [hw] at fw
  have dx : ∀ {xs : List (Str × Bool)} {q : Bool}, List.lookup cc xs = some q → dIsX xs (.exc cc fs) S' = .ok (.bl q) S' := fun {xs q} h => by simp only [dIsX, h]
  have ne1 : dNe (.int 1) (.int 1) S' = .ok (.bl false) S' := by rw [neInt]; simp
  simp only [xsN, xsW, xsS] at ha hb hd
  rw [m__law_kind, x_mkFnF (np := 1) rfl, bm__law_kind, show env0F 6 [] = [.f 0, .un, .un, .un, .un, .un] from rfl]
  rw [x_sSeq, x_sSet, x_eCallL, moVar]
  simp only [List.getElem?_cons_zero, x_eNil, x_bind_ok, List.length_nil, Nat.zero_add, if_true, e1, x_bindE_ok, List.set_cons_succ, List.set_cons_zero]
  rw [x_sSeq]
  simp only [x_sIf, x_tOf, x_eBin, x_eV, x_eC, List.getElem?_cons_zero, List.getElem?_cons_succ, x_bind_ok, x_is, isNonD, x_isB, x_bindE_ok, Bool.false_eq_true, if_false, x_sNil]
  rw [x_sSeq]
  simp only [x_sSet, x_eOfL, x_eCons, x_eUn, x_eV, x_eC, x_eNil, List.getElem?_cons_zero, List.getElem?_cons_succ, x_bind_ok, dx ha, dx hb, dx hd, t2, l3', x_bindE_ok, List.set_cons_succ, List.set_cons_zero]
  rw [x_sSeq]
  simp only [x_sSet, x_eLc, x_iSeq, x_eV, List.getElem?_cons_zero, List.getElem?_cons_succ, x_bind_ok, seqIt, SeqK.pr, List.length_cons, List.length_nil, Nat.reduceAdd, x_wipe, x_wipe0, List.set_cons_succ, List.set_cons_zero, fw, x_only, x_bindE_ok]
  rw [x_sSeq]
  simp only [x_sIf, x_tOf, x_eBin, x_eOfL, x_eCons, x_eV, x_eC, x_eNil, List.getElem?_cons_zero, List.getElem?_cons_succ, x_bind_ok, x_len_l, List.length_cons, List.length_nil, Nat.zero_add]
  rw [show ((1 : Nat) : Int) = 1 from rfl, ne1]
  simp only [x_bind_ok, x_isB, x_bindE_ok, Bool.false_eq_true, if_false, x_sNil]
  rw [hr, x_ret_ret, sealR_ok hl]
theorem k_num {op : List D → M D} {v : D} (h : op [] S = .exc ⟨"BadNumber", [("part", v)]⟩ S') (hl : S'.length ≤ S.length) : m__law_kind op [] S = .ok (.tup [.str "number", v]) S' :=
  kind_exc h hl lc_n ln_n lw_n ls_n (wd := "number") rfl (by
    simp only [x_sSeq, x_sIf, x_tOf, x_eBin, x_eOfL, x_eCons, x_eUn, x_eIf, x_eV, x_eC, x_eNil, List.getElem?_cons_zero, List.getElem?_cons_succ, x_bind_ok, ixl0, l1, i_nw, i_nn, x_isB, x_bindE_ok, Bool.false_eq_true, if_false, if_true, x_sNil, x_sRet, fld_part, t2])
theorem k_wrd {op : List D → M D} {v : D} (h : op [] S = .exc ⟨"BadWords", [("index", v)]⟩ S') (hl : S'.length ≤ S.length) : m__law_kind op [] S = .ok (.tup [.str "words", v]) S' :=
  kind_exc h hl lc_w ln_w lw_w ls_w (wd := "words") rfl (by
    simp only [x_sSeq, x_sIf, x_tOf, x_eBin, x_eOfL, x_eCons, x_eUn, x_eIf, x_eV, x_eC, x_eNil, List.getElem?_cons_zero, List.getElem?_cons_succ, x_bind_ok, ixl0, l1, i_ww, x_isB, x_bindE_ok, Bool.false_eq_true, if_false, if_true, x_sNil, x_sRet, fld_index, t2])
theorem k_sen {op : List D → M D} (h : op [] S = .exc ⟨"BadSentence", []⟩ S') (hl : S'.length ≤ S.length) : m__law_kind op [] S = .ok (.tup [.str "sentence", .non]) S' :=
  kind_exc h hl lc_s ln_s lw_s ls_s (wd := "sentence") rfl (by
    simp only [x_sSeq, x_sIf, x_tOf, x_eBin, x_eOfL, x_eCons, x_eUn, x_eIf, x_eV, x_eC, x_eNil, List.getElem?_cons_zero, List.getElem?_cons_succ, x_bind_ok, ixl0, l1, i_sw, i_sn, x_isB, x_bindE_ok, Bool.false_eq_true, if_false, if_true, x_sNil, x_sRet, t2])
end
end K07
set_option Elab.async false
set_option linter.all false
set_option maxRecDepth 100000
set_option maxHeartbeats 400000
namespace K07
open PySem PySem.Spec L2 PyProof.Rows WL
section
variable {S : Store} {many : Nat} {wd : List Int}
theorem btw_none {ns : List Int} (h : ∀ n ∈ ns, 0 ≤ n ∧ n ≤ 3) : (iD ns).findIdx? (fun z => !btw 0 3 z) = none := by
  rw [List.findIdx?_eq_none_iff]
  intro x hx
  obtain ⟨n, hn, rfl⟩ := List.mem_map.mp hx
  obtain ⟨h1, h2⟩ := h n hn
  simp [btw, h1, h2]
theorem Sq.len {d : D} {xs : List D} (h : Sq d xs) : bLen [d] S = .ok (.int xs.length) S := by cases h <;> rfl
theorem Sq.ty {d : D} {xs : List D} (h : Sq d xs) : ∃ t, tyD S d = some t ∧ (isT t "list" || isT t "tuple") = true := by
  cases h with
  | l => exact ⟨"list", rfl, by decide⟩
  | t => exact ⟨"tuple", rfl, by decide⟩
theorem chain_le {a b c : Int} {env : WL.Env} {ma mb mc : E} (h1 : ma env S = .ok (.int a) S) (h2 : mb env S = .ok (.int b) S) (h3 : mc env S = .ok (.int c) S) : eChain dLe dLe ma mb mc env S = .ok (.bl (decide (a ≤ b) && decide (b ≤ c))) S := by
  simp only [x_eChain, h1, h2, h3, x_bind_ok, x_dRel]
  cases decide (a ≤ b) <;> simp
abbrev shT : ET := (tOrM (tNotM (tOf isB (eCall 1 m_is_list [] (eCons (eV 1) (eNil))))) (tNotM (tOf isB (eChain dLe dLe (eC (.int 1)) (eOfL bLen (eCons (eV 1) (eNil))) (eC (.int 4))))))
theorem sh_good {x w : D} {xs : List D} (h : Sq w xs) (hl : 1 ≤ xs.length ∧ xs.length ≤ 4) : shT [.d x, .d w, .un] S = .ok false S := by
  obtain ⟨t, h1, h2⟩ := Sq.ty (S := S) h
  have e1 := p_is_list h1
  rw [h2] at e1
  have e2 := chain_le (S := S) (a := 1) (b := xs.length) (c := 4) (env := [.d x, .d w, .un]) (ma := eC (.int 1)) (mb := eOfL bLen (eCons (eV 1) (eNil))) (mc := eC (.int 4)) rfl (by
    simp only [x_eOfL, x_eCons, x_eV, x_eNil, List.getElem?_cons_zero, List.getElem?_cons_succ, x_bind_ok, Sq.len h]) rfl
  have g : (decide ((1 : Int) ≤ xs.length) && decide ((xs.length : Int) ≤ 4)) = true := by
    rw [decide_eq_true (by omega), decide_eq_true (by omega)]; rfl
  rw [g] at e2
  rw [shT, x_tOrM, x_tNotM, x_tOf]
  simp only [x_eCall, x_eCons, x_eV, x_eNil, List.getElem?_cons_zero, List.getElem?_cons_succ, x_bind_ok, List.append_nil, List.length_cons, List.length_nil, Nat.reduceAdd, if_true, e1, x_isB, Bool.not_true, Bool.false_eq_true, if_false]
  rw [x_tNotM, x_tOf, e2]
  rfl
theorem sh_bad_ty {x w : D} {t : String} (h : tyD S w = some t) (h2 : (isT t "list" || isT t "tuple") = false) : shT [.d x, .d w, .un] S = .ok true S := by
  have e1 := p_is_list h
  rw [h2] at e1
  simp only [shT, x_tOrM, x_tNotM, x_tOf, x_eCall, x_eCons, x_eV, x_eNil, List.getElem?_cons_zero, List.getElem?_cons_succ, x_bind_ok, List.append_nil, List.length_cons, List.length_nil, Nat.reduceAdd, if_true, e1, x_isB, Bool.not_false]
theorem sh_bad_len {x w : D} {xs : List D} (h : Sq w xs) (hl : ¬ (1 ≤ xs.length ∧ xs.length ≤ 4)) : shT [.d x, .d w, .un] S = .ok true S := by
  obtain ⟨t, h1, h2⟩ := Sq.ty (S := S) h
  have e1 := p_is_list h1
  rw [h2] at e1
  have e2 := chain_le (S := S) (a := 1) (b := xs.length) (c := 4) (env := [.d x, .d w, .un]) (ma := eC (.int 1)) (mb := eOfL bLen (eCons (eV 1) (eNil))) (mc := eC (.int 4)) rfl (by
    simp only [x_eOfL, x_eCons, x_eV, x_eNil, List.getElem?_cons_zero, List.getElem?_cons_succ, x_bind_ok, Sq.len h]) rfl
  have g : (decide ((1 : Int) ≤ xs.length) && decide ((xs.length : Int) ≤ 4)) = false := by
    rw [Bool.and_eq_false_iff]
    by_cases q : 1 ≤ xs.length
    · right; exact decide_eq_false (by omega)
    · left; exact decide_eq_false (by omega)
  rw [g] at e2
  rw [shT, x_tOrM, x_tNotM, x_tOf]
  simp only [x_eCall, x_eCons, x_eV, x_eNil, List.getElem?_cons_zero, List.getElem?_cons_succ, x_bind_ok, List.append_nil, List.length_cons, List.length_nil, Nat.reduceAdd, if_true, e1, x_isB, Bool.not_true, Bool.false_eq_true, if_false]
  rw [x_tNotM, x_tOf, e2]
  rfl
theorem bw_none {x w : D} (h : shT [.d x, .d w, .un] S = .ok true S) : m_sentence_holds [x, w] S = .exc ⟨"BadWords", [("index", .non)]⟩ S := by
  rw [m_sentence_holds, x_mkFn (np := 2) rfl, bm_sentence_holds, show env0 3 [x, w] = [.d x, .d w, .un] from rfl, x_sSeq, x_sIf]
  rw [show (tOrM (tNotM (tOf isB (eCall 1 m_is_list [] (eCons (eV 1) (eNil))))) (tNotM (tOf isB (eChain dLe dLe (eC (.int 1)) (eOfL bLen (eCons (eV 1) (eNil))) (eC (.int 4)))))) = shT from rfl, h]
  simp only [x_bindE_ok, if_true, x_sRaise, x_eC, x_ret_exc]
  exact sealR_exc (Nat.le_refl _)
theorem sh_go {x w : D} {xs : List D} (h : Sq w xs) (hl : 1 ≤ xs.length ∧ xs.length ≤ 4) (hy : ∀ y ∈ xs, (tyD S y).isSome) : m_sentence_holds [x, w] S = sealR S.length [] (retOf ((sSeq (sIf (tOf isB (eBin dIsNot (eV 2) (eC .non))) (sRaise "BadWords" "index" (eV 2)) (sNil)) (sSeq (sExpr (eCall 2 m_need_sentence [] (eCons (eOfL bLen (eCons (eV 1) (eNil))) (eCons (eV 0) (eNil))))) (sRet (eCall 2 (m_holds_by 12) [] (eCons (eV 0) (eCons (eV 1) (eNil))))))) [.d x, .d w, .d (match xs.findIdx? (fun z => !btw 0 3 z) with
    | some j => .int j
    | none => .non)] S)) := by
  have e := p_first_wrong (op := m_is_word) (p := btw 0 3) (S := S) h fun y hy' => p_is_word (hy y hy')
  rw [m_sentence_holds, x_mkFn (np := 2) rfl, bm_sentence_holds, show env0 3 [x, w] = [.d x, .d w, .un] from rfl, x_sSeq, x_sIf]
  rw [show (tOrM (tNotM (tOf isB (eCall 1 m_is_list [] (eCons (eV 1) (eNil))))) (tNotM (tOf isB (eChain dLe dLe (eC (.int 1)) (eOfL bLen (eCons (eV 1) (eNil))) (eC (.int 4)))))) = shT from rfl, sh_good h hl]
  simp only [x_bindE_ok, Bool.false_eq_true, if_false, x_sNil]
  rw [x_sSeq]
  simp only [x_sSet, x_eCallL, x_eCons, x_eV, x_eNil, List.getElem?_cons_zero, List.getElem?_cons_succ, x_bind_ok, List.length_cons, List.length_nil, Nat.reduceAdd, if_true, e, x_bindE_ok, List.set_cons_succ, List.set_cons_zero]
  first | done | rfl
theorem bw_at {x w : D} {xs : List D} {j : Nat} (h : Sq w xs) (hl : 1 ≤ xs.length ∧ xs.length ≤ 4) (hy : ∀ y ∈ xs, (tyD S y).isSome) (hj : xs.findIdx? (fun z => !btw 0 3 z) = some j) : m_sentence_holds [x, w] S = .exc ⟨"BadWords", [("index", .int j)]⟩ S := by
  rw [sh_go h hl hy, hj]
  simp only [x_sSeq, x_sIf, x_tOf, x_eBin, x_eV, x_eC, List.getElem?_cons_zero, List.getElem?_cons_succ, x_bind_ok, x_isNot, isNonD, Bool.not_false, x_isB, x_bindE_ok, if_true, x_sRaise, x_ret_exc]
  exact sealR_exc (Nat.le_refl _)
theorem p_sholds {x w : D} (hw : Sq w (iD wd)) (hl : wd.length = many) (hm : 1 ≤ many ∧ many ≤ 4) (he : ∀ n ∈ wd, 0 ≤ n ∧ n ≤ 3) (hS : cleanS S.length S = true) (hp : pl x 50 = true) : m_sentence_holds [x, w] S = if isS many 6 x then .ok (.bl (hold wd 6 x)) S else .exc ⟨"BadSentence", []⟩ S := by
  have hlen : (iD wd).length = many := by simp [iD, hl]
  rw [sh_go hw (by rw [hlen]; exact hm) (fun y hy => by obtain ⟨n, _, rfl⟩ := List.mem_map.mp hy; rfl), btw_none he]
  have e1 := p_need_sentence (many := many) hS hp
  have e2 := Sq.len (S := S) hw
  rw [hlen] at e2
  cases h : isS many 6 x with
  | true =>
    rw [h, if_pos rfl] at e1
    have e3 := p_holds_by (S := S) hw hl 6 12 x (by omega) h
    simp only [x_sSeq, x_sIf, x_tOf, x_eBin, x_eV, x_eC, List.getElem?_cons_zero, List.getElem?_cons_succ, x_bind_ok, x_isNot, isNonD, Bool.not_true, x_isB, x_bindE_ok, Bool.false_eq_true, if_false, x_sNil, x_sExpr, x_eCall, x_eOfL, x_eCons, x_eNil, e2, List.append_nil, List.length_cons, List.length_nil, Nat.reduceAdd, if_true, e1, x_sRet, e3, x_ret_ret, sealR_ok (Nat.le_refl _)]
  | false =>
    rw [h, if_neg (by decide)] at e1
    simp only [x_sSeq, x_sIf, x_tOf, x_eBin, x_eV, x_eC, List.getElem?_cons_zero, List.getElem?_cons_succ, x_bind_ok, x_isNot, isNonD, Bool.not_true, x_isB, x_bindE_ok, Bool.false_eq_true, if_false, x_sNil, x_sExpr, x_eCall, x_eOfL, x_eCons, x_eNil, e2, List.append_nil, List.length_cons, List.length_nil, Nat.reduceAdd, if_true, e1, x_bindE_exc, x_ret_exc]
    exact sealR_exc (Nat.le_refl _)
theorem b_many {d x : D} (h : (tyD S d).isSome) (h2 : btw 1 4 d = false) : m_is_sentence [d, x] S = .exc ⟨"BadNumber", [("part", .str "many")]⟩ S := by
  have e := p_is_between (S := S) (lo := 1) (hi := 4) h
  rw [h2] at e
  have e2 : m_need_many [d] S = .exc ⟨"BadNumber", [("part", .str "many")]⟩ S := by
    simp [m_need_many, bm_need_many, e]
  simp [m_is_sentence, bm_is_sentence, e2]
end
end K07
set_option Elab.async false
set_option linter.all false
set_option maxRecDepth 100000
set_option maxHeartbeats 400000
namespace K07
open PySem PySem.Spec L2 PyProof.Rows WL
section
variable {S : Store} {many : Nat} {wd : List Int}
theorem ne_same {x : D} {p : PyData} (h : toPyR S x = some p) (hs : SeqAt.shaped p = true) (he : PyData.eqv p p = true) : dNe x x S = .ok (.bl false) S := by
  rw [nePy h h hs hs, he]; rfl
theorem ne_non : dNe .non .non S = .ok (.bl false) S := ne_same (p := .none) rfl (by decide +kernel) (by decide +kernel)
theorem ne_sen : dNe (.tup [.str "sentence", .non]) (.tup [.str "sentence", .non]) S = .ok (.bl false) S :=
  ne_same (p := .tuple [.str "sentence", .none]) (by simp [toPyR, toPy, toPyL]) (by decide +kernel) (by decide +kernel)
theorem ne_num : dNe (.tup [.str "number", .str "many"]) (.tup [.str "number", .str "many"]) S = .ok (.bl false) S :=
  ne_same (p := .tuple [.str "number", .str "many"]) (by simp [toPyR, toPy, toPyL]) (by decide +kernel) (by decide +kernel)
theorem ne_wrdN : dNe (.tup [.str "words", .non]) (.tup [.str "words", .non]) S = .ok (.bl false) S :=
  ne_same (p := .tuple [.str "words", .none]) (by simp [toPyR, toPy, toPyL]) (by decide +kernel) (by decide +kernel)
theorem ne_wrdI {i : Int} : dNe (.tup [.str "words", .int i]) (.tup [.str "words", .int i]) S = .ok (.bl false) S := by
  refine ne_same (p := .tuple [.str "words", .int i]) (by simp [toPyR, toPy, toPyL]) ?_ ?_
  · have h : SeqAt.shaped (.tuple [.str "words", .int 0]) = true := by decide +kernel
    exact h
  · simp [PyData.eqv, PyData.eqvAll]
abbrev B9 : SS := (sSeq (sSet 10 (eCall 3 (m__law_is_sentence 12) [] (eCons (eV 3) (eCons (eV 9) (eCons (eC (.int 6)) (eNil)))))) (sSeq (sIf (tOrM (tNotM (tOf isB (eCall 2 m__law_says [] (eCons (eCall 2 m_is_sentence [] (eCons (eV 3) (eCons (eV 9) (eNil)))) (eCons (eV 10) (eNil)))))) (tNotM (tOf isB (eCall 2 m__law_says [] (eCons (eCallK 2 0 2 m_is_sentence g_is_sentence_0_thing_many eNil (eCons (eV 9) (eCons (eV 3) (eNil)))) (eCons (eV 10) (eNil))))))) (sRet (eC (.bl false))) (sNil)) (sSeq (sSet 11 (eCallL m__law_kind 1 (eNil) (fun env => some (opLam 0 (eCall 2 m_sentence_holds [] (eCons (eV 0) (eCons (eV 1) (eNil)))) (capsOf env [9, 5]))))) (sSeq (sIf (tOf isB (eBin dNe (eV 11) (eIf (tOf isB (eV 10)) (eC .non) (eOfL dTup (eCons (eC (.str "sentence")) (eCons (eC .non) (eNil))))))) (sRet (eC (.bl false))) (sNil)) (sIf (tAndM (tOf isB (eV 10)) (tNotM (tOf isB (eCall 2 m__law_says [] (eCons (eCallK 2 0 2 m_sentence_holds g_sentence_holds_0_words_sentence eNil (eCons (eOfL bTuple (eCons (eV 5) (eNil))) (eCons (eV 9) (eNil)))) (eCons (eCall 2 (m__law_holds 12) [] (eCons (eV 9) (eCons (eV 5) (eNil)))) (eNil))))))) (sRet (eC (.bl false))) (sNil))))))
abbrev le (a0 a2 : WL.Slot) (many : Nat) (x : D) (wd : List Int) (z6 z7 z8 z9 z10 z11 z12 z13 z14 : WL.Slot) : WL.Env := [a0, .d (.reg 1), a2, .d (.int many), .d x, .d (.lst (iD wd)), z6, z7, z8, z9, z10, z11, z12, z13, z14, .un, .un]
theorem call_g {m : List D → M D} {g : List D → List D → List D} {a b r : D} {ea eb : E} {env : WL.Env} (h1 : ea env S = .ok a S) (h2 : eb env S = .ok b S) (hg : g [] [a, b] = [b, a]) (h : m [b, a] S = .ok r S) : eCallK 2 0 2 m g eNil (eCons ea (eCons eb (eNil))) env S = .ok r S := by
  simp only [x_eCallK, x_eNil, x_bind_ok, x_eCons, h1, h2, hg, List.length_cons, List.length_nil, Nat.reduceAdd, and_self, if_true, h]
theorem l_thing {a0 a2 z6 z7 z8 z10 z11 z12 z13 z14 : WL.Slot} {x y : D} (hl : wd.length = many) (hm : 1 ≤ many ∧ many ≤ 4) (he : ∀ n ∈ wd, 0 ≤ n ∧ n ≤ 3) (hS : cleanS S.length S = true) (hp : pl y 50 = true) :
    ∃ z10' z11', B9 (le a0 a2 many x wd z6 z7 z8 (.d y) z10 z11 z12 z13 z14) S = .next (le a0 a2 many x wd z6 z7 z8 (.d y) z10' z11' z12 z13 z14) S := by
  have e1 := p_lis (S := S) (many := many) 6 12 50 y (by omega) hp (by omega)
  have e2 := p_is_sentence (many := many) hS hm.1 hm.2 hp
  have e3 := p_sholds (x := y) (Sq.l (iD wd)) hl hm he hS hp
  have e4 := p_sholds (x := y) (Sq.t (iD wd)) hl hm he hS hp
  have c1 : capsOf (le a0 a2 many x wd z6 z7 z8 (.d y) (.d (.bl (isS many 6 y))) z11 z12 z13 z14) [9, 5] = [.d y, .d (.lst (iD wd))] := rfl
  have op1 : opLam 0 (eCall 2 m_sentence_holds [] (eCons (eV 0) (eCons (eV 1) (eNil)))) [.d y, .d (.lst (iD wd))] [] S = m_sentence_holds [y, .lst (iD wd)] S := by
    simp only [opLam, List.length_nil, if_true, List.map_nil, List.nil_append, x_eCall, x_eCons, x_eV, x_eNil, List.getElem?_cons_zero, List.getElem?_cons_succ, x_bind_ok, List.append_nil, List.length_cons, List.length_nil, Nat.reduceAdd, if_true]
  have k1 : ∀ {q11 : WL.Slot}, eCallK 2 0 2 m_is_sentence g_is_sentence_0_thing_many eNil (eCons (eV 9) (eCons (eV 3) (eNil))) (le a0 a2 many x wd z6 z7 z8 (.d y) (.d (.bl (isS many 6 y))) q11 z12 z13 z14) S = .ok (.bl (isS many 6 y)) S := fun {q11} => call_g rfl rfl rfl e2
  refine ⟨.d (.bl (isS many 6 y)), .d (if isS many 6 y then .non else .tup [.str "sentence", .non]), ?_⟩
  have k0 : m__law_kind (opLam 0 (eCall 2 m_sentence_holds [] (eCons (eV 0) (eCons (eV 1) (eNil)))) [.d y, .d (.lst (iD wd))]) [] S = .ok (if isS many 6 y then .non else .tup [.str "sentence", .non]) S := by
    cases h : isS many 6 y with
    | true => rw [h, if_pos rfl] at e3; rw [if_pos rfl]; exact kind_ok (op1.trans e3) (Nat.le_refl _)
    | false => rw [h, if_neg (by decide)] at e3; rw [if_neg (by decide)]; exact k_sen (op1.trans e3) (Nat.le_refl _)
  unfold B9
  rw [x_sSeq]
  simp only [x_sSet, x_eCall, x_eCons, x_eV, x_eC, x_eNil, le, List.getElem?_cons_zero, List.getElem?_cons_succ, x_bind_ok, List.append_nil, List.length_cons, List.length_nil, Nat.reduceAdd, if_true]
  rw [show (6 : Int) = ((6 : Nat) : Int) from rfl, e1]
  simp only [x_bindE_ok, List.set_cons_succ, List.set_cons_zero]
  rw [x_sSeq]
  simp only [le] at k1
  have t1 : (tOrM (tNotM (tOf isB (eCall 2 m__law_says [] (eCons (eCall 2 m_is_sentence [] (eCons (eV 3) (eCons (eV 9) (eNil)))) (eCons (eV 10) (eNil)))))) (tNotM (tOf isB (eCall 2 m__law_says [] (eCons (eCallK 2 0 2 m_is_sentence g_is_sentence_0_thing_many eNil (eCons (eV 9) (eCons (eV 3) (eNil)))) (eCons (eV 10) (eNil))))))) [a0, .d (.reg 1), a2, .d (.int many), .d x, .d (.lst (iD wd)), z6, z7, z8, .d y, .d (.bl (isS many 6 y)), z11, z12, z13, z14, .un, .un] S = .ok false S := by
    rw [x_tOrM, x_tNotM, x_tOf]
    simp only [x_eCall, x_eCons, x_eV, x_eNil, List.getElem?_cons_zero, List.getElem?_cons_succ, x_bind_ok, List.append_nil, List.length_cons, List.length_nil, Nat.reduceAdd, if_true, e2, p_says, x_isB, Bool.not_true, Bool.false_eq_true, if_false]
    rw [x_tNotM, x_tOf, x_eCall, x_eCons, k1]
    simp only [x_eCons, x_eV, x_eNil, List.getElem?_cons_zero, List.getElem?_cons_succ, x_bind_ok, List.append_nil, List.length_cons, List.length_nil, Nat.reduceAdd, if_true, p_says, x_isB, Bool.not_true]
  rw [x_sIf, t1]
  simp only [x_bindE_ok, Bool.false_eq_true, if_false, x_sNil]
  rw [x_sSeq]
  simp only [le] at c1
  simp only [x_sSet, x_eCallL, c1, x_eNil, x_bind_ok, List.length_nil, Nat.zero_add, if_true, k0, x_bindE_ok, List.set_cons_succ, List.set_cons_zero]
  rw [x_sSeq]
  cases h : isS many 6 y with
  | true =>
    rw [h, if_pos rfl] at e3 e4
    have e5 := p_lholds (S := S) (Sq.l (iD wd)) hl 6 12 y (by omega) h
    have k2 : eCallK 2 0 2 m_sentence_holds g_sentence_holds_0_words_sentence eNil (eCons (eOfL bTuple (eCons (eV 5) (eNil))) (eCons (eV 9) (eNil))) [a0, .d (.reg 1), a2, .d (.int many), .d x, .d (.lst (iD wd)), z6, z7, z8, .d y, .d (.bl true), .d .non, z12, z13, z14, .un, .un] S = .ok (.bl (hold wd 6 y)) S := call_g (a := .tup (iD wd)) rfl rfl rfl e4
    simp only [if_true, x_sIf, x_tOf, x_eBin, x_eV, x_eIf, x_eC, List.getElem?_cons_zero, List.getElem?_cons_succ, x_bind_ok, x_isB, ne_non, x_bindE_ok, Bool.false_eq_true, if_false, x_sNil]
    rw [x_tAndM, x_tOf]
    simp only [x_eV, List.getElem?_cons_zero, List.getElem?_cons_succ, x_bind_ok, x_isB, if_true]
    rw [x_tNotM, x_tOf, x_eCall, x_eCons, k2]
    simp only [x_eCall, x_eCons, x_eV, x_eNil, List.getElem?_cons_zero, List.getElem?_cons_succ, x_bind_ok, List.append_nil, List.length_cons, List.length_nil, Nat.reduceAdd, if_true, e5, p_says, x_isB, Bool.not_true, x_bindE_ok, Bool.false_eq_true, if_false]
  | false =>
    simp only [Bool.false_eq_true, if_false, x_sIf, x_tOf, x_eBin, x_eV, x_eIf, x_eC, x_eOfL, x_eCons, x_eNil, t2, List.getElem?_cons_zero, List.getElem?_cons_succ, x_bind_ok, x_isB, ne_sen, x_bindE_ok, x_sNil, x_tAndM]
end
end K07
set_option Elab.async false
set_option linter.all false
set_option maxRecDepth 100000
set_option maxHeartbeats 400000
namespace K07
open PySem PySem.Spec L2 PyProof.Rows WL
section
variable {L : List Int} {r : Int} {c : List Int} {t : Int} {S : Store} {many : Nat} {wd : List Int}
abbrev deL (d : D) : List D := [.tup [.str "no", d], .tup [.str "both", d, .tup [.str "says", .int 0, .int 0]], .tup [.str "either", .tup [.str "says", .int 0, .int 3], d]]
abbrev dB : SS := (sSet 6 (eCall 2 m__law_pick [] (eCons (eV 1) (eCons (eOfL dLst (eCons (eOfL dTup (eCons (eC (.str "no")) (eCons (eV 6) (eNil)))) (eCons (eOfL dTup (eCons (eC (.str "both")) (eCons (eV 6) (eCons (eOfL dTup (eCons (eC (.str "says")) (eCons (eC (.int 0)) (eCons (eC (.int 0)) (eNil))))) (eNil))))) (eCons (eOfL dTup (eCons (eC (.str "either")) (eCons (eOfL dTup (eCons (eC (.str "says")) (eCons (eC (.int 0)) (eCons (eC (.int 3)) (eNil))))) (eCons (eV 6) (eNil))))) (eNil))))) (eNil)))))
theorem l_deep {a0 a2 z7 z8 z9 z10 z11 z12 z13 z14 : WL.Slot} {x d0 : D} (h0 : pl d0 1 = true) {m : Nat} (hm : m ≤ 8) : ∃ d z7' L' r' t', forGo (itN 0 m) (gN 7) dB (m + 1) 0 (le a0 a2 many x wd (.d d0) z7 z8 z9 z10 z11 z12 z13 z14) (tp L r c t []) = .next (le a0 a2 many x wd (.d d) z7' z8 z9 z10 z11 z12 z13 z14) (tp L' r' c t' []) ∧ pl d 10 = true := by
  obtain ⟨env', S', e1, L', r', t', d, z, rfl, rfl, h⟩ := forGo_inv (it := itN 0 m) (tm := gN 7) (mb := dB) (n := m)
    (fun i env S => ∃ L r t d z, S = tp L r c t [] ∧ env = le a0 a2 many x wd (.d d) z z8 z9 z10 z11 z12 z13 z14 ∧ pl d (i + 1) = true) (fun i env S hi hP => by
      obtain ⟨L, r, t, d, z, rfl, rfl, hd⟩ := hP
      obtain ⟨y, L2, r2, t2_, e2, hy⟩ := p_pick (L := L) (r := r) (c := c) (t := t) (T := []) (xs := deL d) (by show 1 ≤ 3; decide) (by show 3 ≤ 1000; decide)
      refine ⟨_, _, itN_get hi, rfl, _, _, ?_, L2, r2, t2_, y, .d (.int i), rfl, rfl, ?_⟩
      · simp only [dB, le, x_sSet, x_eCall, x_eCons, x_eV, x_eC, x_eOfL, x_eNil, List.set_cons_succ, List.set_cons_zero, List.getElem?_cons_succ, List.getElem?_cons_zero, x_bind_ok, t2, K07.t3, l3', List.append_nil, List.length_cons, List.length_nil, Nat.reduceAdd, if_true, e2, x_bindE_ok]
      · have h1 : pl d (i + 1) = true := hd
        simp only [deL, List.mem_cons, List.not_mem_nil, or_false] at hy
        rcases hy with rfl | rfl | rfl
        · simp [pl, plL, ok_no, h1]
        · simp [pl, plL, ok_both, ok_says, h1]
        · simp [pl, plL, ok_either, ok_says, h1]) (fun env S _ => itN_end rfl) (m + 1) 0 (le a0 a2 many x wd (.d d0) z7 z8 z9 z10 z11 z12 z13 z14) (tp L r c t []) (by omega) (by omega) ⟨L, r, t, d0, z7, rfl, rfl, h0⟩
  exact ⟨d, z, L', r', t', e1, pl_mono d (m + 1) 10 (by omega) h⟩
abbrev thL (many : Nat) (xs : List D) (d : D) : List D := [.tup xs, .tup [.str "no", .tup xs], .lst xs, .non, .int 5, .str "says", .tup [], .tup [.str "says"], .tup [.str "says", .int many, .int 0], .tup [.str "says", .int 0, .int 4], d, .tup [.str "both", d, .tup xs]]
abbrev thE : E := (eOfL dLst (eCons (eV 4) (eCons (eOfL dTup (eCons (eC (.str "no")) (eCons (eV 4) (eNil)))) (eCons (eOfL bList (eCons (eV 4) (eNil))) (eCons (eC .non) (eCons (eC (.int 5)) (eCons (eC (.str "says")) (eCons (eOfL dTup (eNil)) (eCons (eOfL dTup (eCons (eC (.str "says")) (eNil))) (eCons (eOfL dTup (eCons (eC (.str "says")) (eCons (eV 3) (eCons (eC (.int 0)) (eNil))))) (eCons (eOfL dTup (eCons (eC (.str "says")) (eCons (eC (.int 0)) (eCons (eC (.int 4)) (eNil))))) (eCons (eV 6) (eCons (eOfL dTup (eCons (eC (.str "both")) (eCons (eV 6) (eCons (eV 4) (eNil))))) (eNil))))))))))))))
theorem p_thE {a0 a2 z7 z8 z9 z10 z11 z12 z13 z14 : WL.Slot} {xs : List D} {d : D} : thE (le a0 a2 many (.tup xs) wd (.d d) z7 z8 z9 z10 z11 z12 z13 z14) S = .ok (.lst (thL many xs d)) S := by
  have q : ∀ {S : Store}, dLst (thL many xs d) S = .ok (.lst (thL many xs d)) S := fun {S} => dl (by show 12 ≤ 1000; decide)
  simp only [thE, le, x_eOfL, x_eCons, x_eV, x_eC, x_eNil, List.getElem?_cons_succ, List.getElem?_cons_zero, x_bind_ok, t0, t1, t2, K07.t3, list_t]
  exact q
theorem pl_tup' {xs : List D} {n : Nat} : pl (.tup xs) (n + 1) = plL xs n := by rw [pl]
theorem pl_lst' {xs : List D} {n : Nat} : pl (.lst xs) (n + 1) = plL xs n := by rw [pl]
theorem thL_pl {xs : List D} {d : D} (hx : pl (.tup xs) 7 = true) (hd : pl d 10 = true) : plL (thL many xs d) 50 = true := by
  have h1 : ∀ m, 7 ≤ m → pl (.tup xs) m = true := fun m h => pl_mono _ 7 m h hx
  have h2 : ∀ m, 10 ≤ m → pl d m = true := fun m h => pl_mono _ 10 m h hd
  have h3 : pl (.lst xs) 50 = true := by
    have := h1 50 (by omega)
    rw [show (50 : Nat) = 49 + 1 from rfl, pl_tup'] at this
    rw [show (50 : Nat) = 49 + 1 from rfl, pl_lst']
    exact this
  simp [thL, plL, h1 50 (by omega), h2 50 (by omega), h3]
  simp [pl, plL, ok_no, ok_says, ok_both]
  refine ⟨by have := h1 49 (by omega); rw [show (49 : Nat) = 48 + 1 from rfl, pl_tup'] at this; exact this, h2 49 (by omega), by have := h1 49 (by omega); rw [show (49 : Nat) = 48 + 1 from rfl, pl_tup'] at this; exact this⟩
theorem p_bents {env0 : WL.Env} {x : D} (hx : isS many 6 x = true) (hp : pl x 7 = true) (h1 : (env0.set 16 .un)[1]? = some (.d (.reg 1))) (h4 : (env0.set 16 .un)[4]? = some (.d x)) (hl : env0.length = 17) :
    ∃ bs L' r' t', eLc (iRng rng1 (eCons (eC (.int 8)) (eNil))) (gN 16) (tYesM) (eCall 2 (m__law_bent 16) [] (eCons (eV 1) (eCons (eV 4) (eNil)))) [16] env0 (tp L r c t []) = .ok (.lst bs) (tp L' r' c t' []) ∧ bs.length = 8 ∧ plL bs 50 = true := by
  obtain ⟨acc, S', e, L', r', t', rfl, h2, h3⟩ := lcGo_inv (it := itN 0 8) (tm := gN 16) (tt := tYesM) (te := eCall 2 (m__law_bent 16) [] (eCons (eV 1) (eCons (eV 4) (eNil)))) (env0 := env0.set 16 .un) (n := 8)
    (fun i acc S => ∃ L r t, S = tp L r c t [] ∧ acc.length = i ∧ plL acc 50 = true) (fun i acc S hi hP => by
      obtain ⟨L, r, t, rfl, q1, q2⟩ := hP
      obtain ⟨y, L2, r2, t2_, e2, hy⟩ := p_bent (many := many) (c := c) 16 7 x [] L r t (by omega) (.inl (isS_mono hx)) hp clT_nil
      refine ⟨_, _, itN_get hi, rfl, .inl ⟨_, y, tp L2 r2 c t2_ [], rfl, ?_, by rw [q1]; exact Nat.lt_of_lt_of_le hi (by decide), L2, r2, t2_, rfl, by simp [q1], ?_⟩⟩
      · have g1 : ((env0.set 16 .un).set 16 (.d (.int i)))[1]? = some (.d (.reg 1)) := by rw [List.getElem?_set_ne (by decide)]; exact h1
        have g4 : ((env0.set 16 .un).set 16 (.d (.int i)))[4]? = some (.d x) := by rw [List.getElem?_set_ne (by decide)]; exact h4
        simp only [x_eCall, x_eCons, x_eV, g1, g4, x_eNil, x_bind_ok, List.append_nil, List.length_cons, List.length_nil, Nat.reduceAdd, if_true, e2]
      · rw [plL_all] at q2 ⊢
        intro z hz
        rcases List.mem_append.mp hz with hz | hz
        · exact q2 z hz
        · rw [List.mem_singleton.mp hz]; exact pl_mono y 8 50 (by omega) hy) (fun acc S _ => itN_end rfl) 9 0 [] (tp L r c t []) (by omega) (by omega) ⟨L, r, t, rfl, rfl, rfl⟩
  refine ⟨acc, L', r', t', ?_, h2, h3⟩
  have q := rng1_nat (m := 8) (by omega)
  simp only [x_eLc, x_iRng1, x_eCons, x_eC, x_eNil, x_bind_ok, x_wipe, x_wipe0]
  rw [show (8 : Int) = ((8 : Nat) : Int) from rfl, q]
  simp only [x_bind_ok, e, x_only]
theorem l_things {a0 a2 z6 z7 z8 z9 z10 z11 z12 z13 z14 : WL.Slot} {x : D} (hl : wd.length = many) (hm : 1 ≤ many ∧ many ≤ 4) (he : ∀ n ∈ wd, 0 ≤ n ∧ n ≤ 3) {ys : List D} (hp : plL ys 50 = true) :
    ∃ z9' z10' z11', forGo (itL ys) (gN 9) B9 (ys.length + 1) 0 (le a0 a2 many x wd z6 z7 z8 z9 z10 z11 z12 z13 z14) (tp L r c t []) = .next (le a0 a2 many x wd z6 z7 z8 z9' z10' z11' z12 z13 z14) (tp L r c t []) := by
  obtain ⟨env', S', e1, w9, w10, w11, rfl, rfl⟩ := forGo_inv (it := itL ys) (tm := gN 9) (mb := B9) (n := ys.length)
    (fun i env S => ∃ z9 z10 z11, S = tp L r c t [] ∧ env = le a0 a2 many x wd z6 z7 z8 z9 z10 z11 z12 z13 z14) (fun i env S hi hP => by
      obtain ⟨z9, z10, z11, rfl, rfl⟩ := hP
      obtain ⟨z10', z11', e⟩ := l_thing (S := tp L r c t []) (a0 := a0) (a2 := a2) (z6 := z6) (z7 := z7) (z8 := z8) (z10 := z10) (z11 := z11) (z12 := z12) (z13 := z13) (z14 := z14) (x := x) hl hm he (cl_tpT clT_nil) (plL_all.mp hp _ (List.getElem_mem hi))
      exact ⟨_, _, itL_get hi, rfl, _, _, e, _, z10', z11', rfl, rfl⟩) (fun env S _ => itL_end rfl) (ys.length + 1) 0 (le a0 a2 many x wd z6 z7 z8 z9 z10 z11 z12 z13 z14) (tp L r c t []) (by omega) (by omega) ⟨z9, z10, z11, rfl, rfl⟩
  exact ⟨w9, w10, w11, e1⟩
end
end K07
set_option Elab.async false
set_option linter.all false
set_option maxRecDepth 100000
set_option maxHeartbeats 400000
namespace K07
open PySem PySem.Spec L2 PyProof.Rows WL
section
variable {L : List Int} {r : Int} {c : List Int} {t : Int} {S : Store} {many : Nat} {wd : List Int}
theorem cut_to {xs : List D} {m : Nat} : WL.cutD xs none (some (m : Int)) = xs.take m := by
  unfold WL.cutD
  rw [HT.sIx_none, HT.sIx_nat]
  simp [List.take_eq_take_iff]
theorem cut_from {xs : List D} {m : Nat} (h : m ≤ xs.length) : WL.cutD xs (some (m : Int)) none = xs.drop m := by
  unfold WL.cutD
  rw [HT.sIx_none, HT.sIx_nat, Nat.min_eq_left h]
  exact List.take_of_length_le (by simp)
theorem add_l {xs ys : List D} (h : xs.length + ys.length ≤ 1000) {S : Store} : dAdd (.lst xs) (.lst ys) S = .ok (.lst (xs ++ ys)) S := if_pos (Nat.le_trans h (by decide))
theorem rep_len (n : Nat) (x : D) : (repL n [x]).length = n := by
  unfold repL
  induction n with
  | zero => rfl
  | succ n ih => rw [List.replicate_succ, List.flatten_cons, List.length_append, ih]; simp; omega
theorem rep_mem {n : Nat} {x y : D} (h : y ∈ repL n [x]) : y = x := by
  unfold repL at h
  rw [List.mem_flatten] at h
  obtain ⟨l, h1, h2⟩ := h
  rw [(List.mem_replicate.mp h1).2] at h2
  exact List.mem_singleton.mp h2
theorem mul_l {k : Nat} (hk : k ≤ 100) : dMul (.lst [.int 0]) (.int (k : Int)) S = .ok (.lst (repL k [.int 0])) S := by
  simp only [dMul, List.length_cons, List.length_nil, Int.toNat_natCast]
  rw [if_pos ⟨by omega, by omega, by show (0 + 1) * k ≤ 1000000; omega⟩]
abbrev wrA : List D := [.int 0, .int 5, .int (-1), .non, .bl true, .str "2"]
abbrev wrB : List D := [.int 4, .int (-1), .non, .bl true, .str "0"]
abbrev wrC : List D := [.non, .lst [], .int 5, .lst (repL 5 [.int 0]), .str "00", .dk []]
theorem wrA_bad {d : D} (h : d ∈ wrA) : (tyD S d).isSome = true ∧ btw 1 4 d = false := by
  simp only [wrA, List.mem_cons, List.not_mem_nil, or_false] at h
  rcases h with rfl | rfl | rfl | rfl | rfl | rfl <;> exact ⟨rfl, by decide⟩
theorem wrB_bad {d : D} (h : d ∈ wrB) : (tyD S d).isSome = true ∧ btw 0 3 d = false := by
  simp only [wrB, List.mem_cons, List.not_mem_nil, or_false] at h
  rcases h with rfl | rfl | rfl | rfl | rfl <;> exact ⟨rfl, by decide⟩
theorem wrC_bad {x d : D} (h : d ∈ wrC) : m_sentence_holds [x, d] S = .exc ⟨"BadWords", [("index", .non)]⟩ S := by
  simp only [wrC, List.mem_cons, List.not_mem_nil, or_false] at h
  refine bw_none ?_
  rcases h with rfl | rfl | rfl | rfl | rfl | rfl
  · exact sh_bad_ty (t := "NoneType") rfl (by decide)
  · exact sh_bad_len (Sq.l _) (by simp)
  · exact sh_bad_ty (t := "int") rfl (by decide)
  · exact sh_bad_len (Sq.l _) (by rw [rep_len]; omega)
  · exact sh_bad_ty (t := "str") rfl (by decide)
  · exact sh_bad_ty (t := "dict") rfl (by decide)
/-- the odd words -/
theorem odd_at {i : Nat} {b : D} (hl : wd.length = many) (hm : many ≤ 4) (he : ∀ n ∈ wd, 0 ≤ n ∧ n ≤ 3) (hi : i < many) (hb : ∀ S, (tyD S b).isSome = true ∧ btw 0 3 b = false) {x : D} :
    m_sentence_holds [x, .lst ((iD wd).take i ++ [b] ++ (iD wd).drop (i + 1) ++ repL (4 - many) [.int 0])] S = .exc ⟨"BadWords", [("index", .int i)]⟩ S := by
  have hlen : (iD wd).length = many := by simp [iD, hl]
  have ity : ∀ y ∈ iD wd, (tyD S y).isSome = true := fun y hy => by obtain ⟨n, _, rfl⟩ := List.mem_map.mp hy; rfl
  have hll : ((iD wd).take i ++ [b] ++ (iD wd).drop (i + 1) ++ repL (4 - many) [D.int 0]).length = 4 := by
    simp only [List.length_append, List.length_take, List.length_drop, List.length_cons, List.length_nil, rep_len, hlen]; omega
  refine bw_at (Sq.l _) (by rw [hll]; omega) (fun y hy => ?_) ?_
  · simp only [List.mem_append, List.mem_singleton] at hy
    rcases hy with ((hy | rfl) | hy) | hy
    · exact ity y (List.mem_of_mem_take hy)
    · exact (hb S).1
    · exact ity y (List.mem_of_mem_drop hy)
    · rw [rep_mem hy]; rfl
  · have g : ((iD wd).take i).findIdx? (fun z => !btw 0 3 z) = none := by
      have := btw_none (ns := wd.take i) (fun n hn => he n (List.mem_of_mem_take hn))
      simpa [iD, List.map_take] using this
    rw [List.append_assoc, List.append_assoc, List.findIdx?_append, g]
    simp [List.findIdx?_cons, (hb S).2, hlen]
    omega
theorem p_pick' {xs : List D} (h1 : 1 ≤ xs.length) (h2 : xs.length ≤ 1000) : ∃ x L' r' t', m__law_pick [.reg 1, .lst xs] (tp L r c t []) = .ok x (tp L' r' c t' []) ∧ x ∈ xs := p_pick h1 h2
/-- the lambdas that draw -/
theorem lam_odd {x o : D} {i : Int} (h : ∀ z S, m_sentence_holds [z, o] S = .exc ⟨"BadWords", [("index", .int i)]⟩ S) : ∃ L' r' t', opLam 0 (eCall 2 m_sentence_holds [] (eCons (eCall 2 m__law_pick [] (eCons (eV 1) (eCons (eOfL dLst (eCons (eV 2) (eCons (eC .non) (eNil)))) (eNil)))) (eCons (eV 0) (eNil)))) [.d o, .d (.reg 1), .d x] [] (tp L r c t []) = .exc ⟨"BadWords", [("index", .int i)]⟩ (tp L' r' c t' []) := by
  obtain ⟨y, L2, r2, t2_, e2, _⟩ := p_pick' (L := L) (r := r) (c := c) (t := t) (xs := [x, .non]) (by simp) (by simp)
  refine ⟨L2, r2, t2_, ?_⟩
  simp only [opLam, List.length_nil, if_true, List.map_nil, List.nil_append, x_eCall, x_eCons, x_eOfL, x_eV, x_eC, x_eNil, List.getElem?_cons_zero, List.getElem?_cons_succ, x_bind_ok, l2, List.append_nil, List.length_cons, Nat.reduceAdd, e2, h]
theorem lam_none {x : D} : ∃ L' r' t', opLam 0 (eCall 2 m_sentence_holds [] (eCons (eV 0) (eCons (eCall 2 m__law_pick [] (eCons (eV 1) (eCons (eOfL dLst (eCons (eC .non) (eCons (eOfL dLst (eNil)) (eCons (eC (.int 5)) (eCons (eBin dMul (eOfL dLst (eCons (eC (.int 0)) (eNil))) (eC (.int 5))) (eCons (eC (.str "00")) (eCons (eC (.dk [])) (eNil)))))))) (eNil)))) (eNil)))) [.d x, .d (.reg 1)] [] (tp L r c t []) = .exc ⟨"BadWords", [("index", .non)]⟩ (tp L' r' c t' []) := by
  obtain ⟨y, L2, r2, t2_, e2, hy⟩ := p_pick' (L := L) (r := r) (c := c) (t := t) (xs := wrC) (by show 1 ≤ 6; decide) (by show 6 ≤ 1000; decide)
  refine ⟨L2, r2, t2_, ?_⟩
  have l0 : ∀ {S : Store}, dLst [] S = .ok (.lst []) S := fun {S} => x_dLst (by decide)
  have m5 : ∀ {S : Store}, dMul (.lst [.int 0]) (.int 5) S = .ok (.lst (repL 5 [.int 0])) S := fun {S} => mul_l (S := S) (k := 5) (by omega)
  have q : ∀ {S : Store}, dLst wrC S = .ok (.lst wrC) S := fun {S} => dl (by show 6 ≤ 1000; decide)
  have h := wrC_bad (S := tp L2 r2 c t2_ []) (x := x) hy
  simp only [opLam, List.length_nil, if_true, List.map_nil, List.nil_append, x_eCall, x_eCons, x_eOfL, x_eBin, x_eV, x_eC, x_eNil, List.getElem?_cons_zero, List.getElem?_cons_succ, x_bind_ok, l0, l1, m5, q, List.append_nil, List.length_cons, Nat.reduceAdd, e2, h]
end
end K07
set_option Elab.async false
set_option linter.all false
set_option maxRecDepth 100000
set_option maxHeartbeats 400000
namespace K07
open PySem PySem.Spec L2 PyProof.Rows WL
section
variable {L : List Int} {r : Int} {c : List Int} {t : Int} {S : Store} {many : Nat} {wd : List Int}
theorem isS_le {x : D} {n m : Nat} (h : n ≤ m) (hx : isS many n x = true) : isS many m x = true := by
  induction m with
  | zero => rw [show n = 0 by omega] at hx; exact hx
  | succ m ih =>
    by_cases e : n = m + 1
    · rw [← e]; exact hx
    · exact isS_mono (ih (by omega))
theorem seq_next {a b : SS} {env env1 : WL.Env} {S S1 : Store} (h : a env S = .next env1 S1) : sSeq a b env S = b env1 S1 := by
  rw [x_sSeq, h]
theorem if_off {tt : ET} {a : SS} {env : WL.Env} {S S1 : Store} (h : tt env S = .ok false S1) : sIf tt a sNil env S = .next env S1 := by
  rw [x_sIf, h]; rfl
abbrev lT : SS := (sSeq (sSet 3 (eBin dAdd (eC (.int 1)) (eCall 2 m__law_draw [] (eCons (eV 1) (eCons (eC (.int 4)) (eNil)))))) (sSeq (sSet 4 (eCall 3 (m__law_sentence 12) [] (eCons (eV 1) (eCons (eV 3) (eCons (eBin dAdd (eC (.int 1)) (eCall 2 m__law_draw [] (eCons (eV 1) (eCons (eC (.int 6)) (eNil))))) (eNil)))))) (sSeq (sSet 5 (eLc (iRng rng1 (eCons (eV 3) (eNil))) (gN 15) (tYesM) (eCall 2 m__law_draw [] (eCons (eV 1) (eCons (eC (.int 4)) (eNil)))) [15])) (sSeq (sSet 6 (eOfL dTup (eCons (eC (.str "says")) (eCons (eC (.int 0)) (eCons (eC (.int 1)) (eNil)))))) (sSeq (sFor (iRng rng1 (eCons (eBin dAdd (eC (.int 4)) (eCall 2 m__law_draw [] (eCons (eV 1) (eCons (eC (.int 4)) (eNil))))) (eNil))) (gN 7) dB) (sSeq (sSet 8 thE) (sSeq (sFor (iSeq (eBin dAdd (eV 8) (eLc (iRng rng1 (eCons (eC (.int 8)) (eNil))) (gN 16) (tYesM) (eCall 2 (m__law_bent 16) [] (eCons (eV 1) (eCons (eV 4) (eNil)))) [16]))) (gN 9) B9) (sSeq (sAsg (eOfL dTup (eCons (eCall 2 m__law_pick [] (eCons (eV 1) (eCons (eOfL dLst (eCons (eC (.int 0)) (eCons (eC (.int 5)) (eCons (eUn dNeg (eC (.int 1))) (eCons (eC .non) (eCons (eC (.bl true)) (eCons (eC (.str "2")) (eNil)))))))) (eNil)))) (eCons (eCall 2 m__law_draw [] (eCons (eV 1) (eCons (eV 3) (eNil)))) (eNil)))) (gT [gN 12, gN 13])) (sSeq (sIf (tOf isB (eBin dNe (eCallL m__law_kind 1 (eNil) (fun env => some (opLam 0 (eCall 2 m_is_sentence [] (eCons (eV 0) (eCons (eV 1) (eNil)))) (capsOf env [12, 4])))) (eOfL dTup (eCons (eC (.str "number")) (eCons (eC (.str "many")) (eNil)))))) (sRet (eC (.bl false))) (sNil)) (sSeq (sSet 14 (eBin dAdd (eBin dAdd (eBin dAdd (eSlice (eV 5) (oNone) (oSome (eV 13))) (eOfL dLst (eCons (eCall 2 m__law_pick [] (eCons (eV 1) (eCons (eOfL dLst (eCons (eC (.int 4)) (eCons (eUn dNeg (eC (.int 1))) (eCons (eC .non) (eCons (eC (.bl true)) (eCons (eC (.str "0")) (eNil))))))) (eNil)))) (eNil)))) (eSlice (eV 5) (oSome (eBin dAdd (eV 13) (eC (.int 1)))) (oNone))) (eBin dMul (eOfL dLst (eCons (eC (.int 0)) (eNil))) (eBin dSub (eC (.int 4)) (eV 3))))) (sSeq (sIf (tOf isB (eBin dNe (eCallL m__law_kind 1 (eNil) (fun env => some (opLam 0 (eCall 2 m_sentence_holds [] (eCons (eCall 2 m__law_pick [] (eCons (eV 1) (eCons (eOfL dLst (eCons (eV 2) (eCons (eC .non) (eNil)))) (eNil)))) (eCons (eV 0) (eNil)))) (capsOf env [14, 1, 4])))) (eOfL dTup (eCons (eC (.str "words")) (eCons (eV 13) (eNil)))))) (sRet (eC (.bl false))) (sNil)) (sIf (tOf isB (eBin dNe (eCallL m__law_kind 1 (eNil) (fun env => some (opLam 0 (eCall 2 m_sentence_holds [] (eCons (eV 0) (eCons (eCall 2 m__law_pick [] (eCons (eV 1) (eCons (eOfL dLst (eCons (eC .non) (eCons (eOfL dLst (eNil)) (eCons (eC (.int 5)) (eCons (eBin dMul (eOfL dLst (eCons (eC (.int 0)) (eNil))) (eC (.int 5))) (eCons (eC (.str "00")) (eCons (eC (.dk [])) (eNil)))))))) (eNil)))) (eNil)))) (capsOf env [4, 1])))) (eOfL dTup (eCons (eC (.str "words")) (eCons (eC .non) (eNil)))))) (sRet (eC (.bl false))) (sNil)))))))))))))
theorem l_draws {env0 : WL.Env} (h1 : (env0.set 15 .un)[1]? = some (.d (.reg 1))) (h3 : env0[3]? = some (.d (.int many))) (hm : many ≤ 4) (hl : env0.length = 17) : ∃ wd L' r' t', eLc (iRng rng1 (eCons (eV 3) (eNil))) (gN 15) (tYesM) (eCall 2 m__law_draw [] (eCons (eV 1) (eCons (eC (.int 4)) (eNil)))) [15] env0 (tp L r c t []) = .ok (.lst (iD wd)) (tp L' r' c t' []) ∧ wd.length = many ∧ ∀ n ∈ wd, 0 ≤ n ∧ n ≤ 3 := by
  obtain ⟨xs, L', r', t', e, h5, h6⟩ := lc_draws (L := L) (r := r) (c := c) (t := t) (T := []) (v := 15) (n := 4) (env0 := env0.set 15 .un) (te := eCall 2 m__law_draw [] (eCons (eV 1) (eCons (eC (.int 4)) (eNil)))) (by decide) (fun i L r t => by
    have g1 : ((env0.set 15 .un).set 15 (.d (.int i)))[1]? = some (.d (.reg 1)) := by rw [List.getElem?_set_ne (by decide)]; exact h1
    simp only [x_eCall, x_eCons, x_eV, x_eC, g1, x_eNil, x_bind_ok, List.append_nil, List.length_cons, List.length_nil, Nat.reduceAdd, if_true]) (m := many) (by omega)
  refine ⟨xs, L', r', t', ?_, h5, fun n hn => ⟨(h6 n hn).1, by have := (h6 n hn).2; omega⟩⟩
  have q := rng1_nat (m := many) (by omega)
  simp only [x_eLc, x_iRng1, x_eCons, x_eV, h3, x_eNil, x_bind_ok, x_wipe, x_wipe0, q, e, x_only]
theorem l_turn {a0 a2 z3 z4 z5 z6 z7 z8 z9 z10 z11 z12 z13 z14 : WL.Slot} : ∃ y3 y4 y5 y6 y7 y8 y9 y10 y11 y12 y13 y14 L' r' t', lT [a0, .d (.reg 1), a2, z3, z4, z5, z6, z7, z8, z9, z10, z11, z12, z13, z14, .un, .un] (tp L r c t []) = .next [a0, .d (.reg 1), a2, y3, y4, y5, y6, y7, y8, y9, y10, y11, y12, y13, y14, .un, .un] (tp L' r' c t' []) := by
  -- many
  obtain ⟨v, L1, r1, t1_, e1, v1, v2⟩ := p_draw (L := L) (r := r) (c := c) (t := t) (T := []) (n := 4) (by decide)
  obtain ⟨many, hmv⟩ : ∃ many : Nat, (1 : Int) + v = many := ⟨(1 + v).toNat, by omega⟩
  have hm : 1 ≤ many ∧ many ≤ 4 := by omega
  -- the sentence
  obtain ⟨w, L2, r2, t2_, e2, w1, w2⟩ := p_draw (L := L1) (r := r1) (c := c) (t := t1_) (T := []) (n := 6) (by decide)
  obtain ⟨d, hd⟩ : ∃ d : Nat, (1 : Int) + w = ((d + 1 : Nat) : Int) := ⟨w.toNat, by omega⟩
  obtain ⟨x, L3, r3, t3_, e3, px, sx⟩ := p_sent (c := c) (T := []) (many := many) hm (d + 1) 12 L2 r2 t2_ (by omega) (by omega)
  have sx6 : isS many 6 x = true := isS_le (by omega) sx
  obtain ⟨xs, rfl, hxl, _⟩ := cmp_tup sx px
  have px7 : pl (.tup xs) 7 = true := pl_mono _ (d + 1) 7 (by omega) px
  -- the words
  obtain ⟨wd, L4, r4, t4, e4, hl, he⟩ := l_draws (L := L3) (r := r3) (c := c) (t := t3_) (many := many) (env0 := [a0, .d (.reg 1), a2, .d (.int many), .d (.tup xs), z5, z6, z7, z8, z9, z10, z11, z12, z13, z14, .un, .un]) rfl rfl hm.2 rfl
  -- deep
  obtain ⟨u, L5, r5, t5, e5, u1, u2⟩ := p_draw (L := L4) (r := r4) (c := c) (t := t4) (T := []) (n := 4) (by decide)
  obtain ⟨m, hmu⟩ : ∃ m : Nat, (4 : Int) + u = m := ⟨(4 + u).toNat, by omega⟩
  obtain ⟨dp, z7', L6, r6, t6, e6, pd⟩ := l_deep (L := L5) (r := r5) (c := c) (t := t5) (many := many) (wd := wd) (a0 := a0) (a2 := a2) (x := .tup xs) (d0 := .tup [.str "says", .int 0, .int 1]) (z7 := z7) (z8 := z8) (z9 := z9) (z10 := z10) (z11 := z11) (z12 := z12) (z13 := z13) (z14 := z14) pl_says (m := m) (by omega)
  -- things
  have e7 := p_thE (S := tp L6 r6 c t6 []) (many := many) (wd := wd) (a0 := a0) (a2 := a2) (xs := xs) (d := dp) (z7 := z7') (z8 := z8) (z9 := z9) (z10 := z10) (z11 := z11) (z12 := z12) (z13 := z13) (z14 := z14)
  have p7 := thL_pl (many := many) px7 pd
  obtain ⟨bs, L8, r8, t8, e8, lb, pb⟩ := p_bents (L := L6) (r := r6) (c := c) (t := t6) (many := many) (x := .tup xs) (env0 := le a0 a2 many (.tup xs) wd (.d dp) z7' (.d (.lst (thL many xs dp))) z9 z10 z11 z12 z13 z14) sx6 px7 rfl rfl rfl
  obtain ⟨z9', z10', z11', e9⟩ := l_things (L := L8) (r := r8) (c := c) (t := t8) (a0 := a0) (a2 := a2) (x := .tup xs) (z6 := .d dp) (z7 := z7') (z8 := .d (.lst (thL many xs dp))) (z9 := z9) (z10 := z10) (z11 := z11) (z12 := z12) (z13 := z13) (z14 := z14) hl hm he (ys := thL many xs dp ++ bs) (by
    rw [plL_all] at p7 pb ⊢
    intro z hz
    rcases List.mem_append.mp hz with hz | hz
    · exact p7 z hz
    · exact pb z hz)
  -- wrong ones
  obtain ⟨wr, L10, r10, t10, e10, hwr⟩ := p_pick' (L := L8) (r := r8) (c := c) (t := t8) (xs := wrA) (by decide) (by decide)
  obtain ⟨i, L11, r11, t11, e11, i1, i2⟩ := p_draw (L := L10) (r := r10) (c := c) (t := t10) (T := []) (n := many) ⟨by omega, by omega⟩
  obtain ⟨i, rfl⟩ := Int.eq_ofNat_of_zero_le i1
  obtain ⟨b1, b2⟩ := wrA_bad (S := tp L11 r11 c t11 []) hwr
  have e12 := b_many (S := tp L11 r11 c t11 []) (x := .tup xs) b1 b2
  obtain ⟨ob, L13, r13, t13, e13, hob⟩ := p_pick' (L := L11) (r := r11) (c := c) (t := t11) (xs := wrB) (by decide) (by decide)
  have hlen : (iD wd).length = many := by simp [iD, hl]
  have ho := fun (z : D) (S : Store) => odd_at (S := S) (x := z) (b := ob) (i := i) hl hm.2 he (by omega) fun S => wrB_bad hob
  obtain ⟨L14, r14, t14, e14⟩ := lam_odd (L := L13) (r := r13) (c := c) (t := t13) (x := .tup xs) ho
  obtain ⟨L15, r15, t15, e15⟩ := lam_none (L := L14) (r := r14) (c := c) (t := t14) (x := .tup xs)
  refine ⟨.d (.int many), .d (.tup xs), .d (.lst (iD wd)), .d dp, z7', .d (.lst (thL many xs dp)), z9', z10', z11', .d wr, .d (.int i), .d (.lst ((iD wd).take i ++ [ob] ++ (iD wd).drop (i + 1) ++ repL (4 - many) [.int 0])), L15, r15, t15, ?_⟩
  refine (seq_next (env1 := [a0, .d (.reg 1), a2, .d (.int many), z4, z5, z6, z7, z8, z9, z10, z11, z12, z13, z14, .un, .un]) (S1 := tp L1 r1 c t1_ []) ?_).trans ?_
  · simp only [x_sSet, x_eBin, x_eC, x_eCall, x_eCons, x_eV, x_eNil, List.getElem?_cons_zero, List.getElem?_cons_succ, x_bind_ok, List.append_nil, List.length_cons, List.length_nil, Nat.reduceAdd, if_true, e1, x_dAdd, hmv, x_bindE_ok, List.set_cons_succ, List.set_cons_zero]
  refine (seq_next (env1 := [a0, .d (.reg 1), a2, .d (.int many), .d (.tup xs), z5, z6, z7, z8, z9, z10, z11, z12, z13, z14, .un, .un]) (S1 := tp L3 r3 c t3_ []) ?_).trans ?_
  · simp only [x_sSet, x_eBin, x_eC, x_eCall, x_eCons, x_eV, x_eNil, List.getElem?_cons_zero, List.getElem?_cons_succ, x_bind_ok, List.append_nil, List.length_cons, List.length_nil, Nat.reduceAdd, if_true, e2, x_dAdd, hd, e3, x_bindE_ok, List.set_cons_succ, List.set_cons_zero]
  refine (seq_next (env1 := [a0, .d (.reg 1), a2, .d (.int many), .d (.tup xs), .d (.lst (iD wd)), z6, z7, z8, z9, z10, z11, z12, z13, z14, .un, .un]) (S1 := tp L4 r4 c t4 []) ?_).trans ?_
  · simp only [x_sSet, e4, x_bindE_ok, List.set_cons_succ, List.set_cons_zero]
  refine (seq_next (env1 := le a0 a2 many (.tup xs) wd (.d (.tup [.str "says", .int 0, .int 1])) z7 z8 z9 z10 z11 z12 z13 z14) (S1 := tp L4 r4 c t4 []) ?_).trans ?_
  · simp only [x_sSet, x_eOfL, x_eCons, x_eC, x_eNil, x_bind_ok, K07.t3, x_bindE_ok, List.set_cons_succ, List.set_cons_zero, le]
  refine (seq_next (env1 := le a0 a2 many (.tup xs) wd (.d dp) z7' z8 z9 z10 z11 z12 z13 z14) (S1 := tp L6 r6 c t6 []) ?_).trans ?_
  · have q := rng1_nat (m := m) (by omega)
    simp only [le] at e6 ⊢
    simp only [x_sFor, x_iRng1, x_eCons, x_eBin, x_eC, x_eCall, x_eV, x_eNil, List.getElem?_cons_zero, List.getElem?_cons_succ, x_bind_ok, List.append_nil, List.length_cons, List.length_nil, Nat.reduceAdd, if_true, e5, x_dAdd, hmu, q, x_bindE_ok, e6]
  refine (seq_next (env1 := le a0 a2 many (.tup xs) wd (.d dp) z7' (.d (.lst (thL many xs dp))) z9 z10 z11 z12 z13 z14) (S1 := tp L6 r6 c t6 []) ?_).trans ?_
  · rw [x_sSet, e7]
    simp only [x_bindE_ok, le, List.set_cons_succ, List.set_cons_zero]
  refine (seq_next (env1 := le a0 a2 many (.tup xs) wd (.d dp) z7' (.d (.lst (thL many xs dp))) z9' z10' z11' z12 z13 z14) (S1 := tp L8 r8 c t8 []) ?_).trans ?_
  · have ad := add_l (S := tp L8 r8 c t8 []) (xs := thL many xs dp) (ys := bs) (by show 12 + bs.length ≤ 1000; omega)
    rw [x_sFor, x_iSeq, x_eBin]
    simp only [x_eV, le, List.getElem?_cons_zero, List.getElem?_cons_succ, x_bind_ok]
    simp only [le] at e8 e9
    rw [e8]
    simp only [x_bind_ok, ad, seqIt, SeqK.pr, x_bindE_ok, e9]
  refine (seq_next (env1 := le a0 a2 many (.tup xs) wd (.d dp) z7' (.d (.lst (thL many xs dp))) z9' z10' z11' (.d wr) (.d (.int i)) z14) (S1 := tp L11 r11 c t11 []) ?_).trans ?_
  · have qA : ∀ {S : Store}, dLst wrA S = .ok (.lst wrA) S := fun {S} => dl (by decide)
    simp only [le, x_sAsg, x_eOfL, x_eCons, x_eCall, x_eV, x_eC, x_eUn, x_dNeg, x_eNil, List.getElem?_cons_zero, List.getElem?_cons_succ, x_bind_ok, qA, List.append_nil, List.length_cons, List.length_nil, Nat.reduceAdd, if_true, e10, e11, t2, x_bindE_ok, x_gT, x_gL, x_gN, Option.bind, x_gL0, List.set_cons_succ, List.set_cons_zero]
  refine (seq_next (env1 := le a0 a2 many (.tup xs) wd (.d dp) z7' (.d (.lst (thL many xs dp))) z9' z10' z11' (.d wr) (.d (.int i)) z14) (S1 := tp L11 r11 c t11 []) (if_off ?_)).trans ?_
  · have c1 : capsOf (le a0 a2 many (.tup xs) wd (.d dp) z7' (.d (.lst (thL many xs dp))) z9' z10' z11' (.d wr) (.d (.int i)) z14) [12, 4] = [.d wr, .d (.tup xs)] := rfl
    have op1 : opLam 0 (eCall 2 m_is_sentence [] (eCons (eV 0) (eCons (eV 1) (eNil)))) [.d wr, .d (.tup xs)] [] (tp L11 r11 c t11 []) = .exc ⟨"BadNumber", [("part", .str "many")]⟩ (tp L11 r11 c t11 []) := by
      simp only [opLam, List.length_nil, if_true, List.map_nil, List.nil_append, x_eCall, x_eCons, x_eV, x_eNil, List.getElem?_cons_zero, List.getElem?_cons_succ, x_bind_ok, List.append_nil, List.length_cons, List.length_nil, Nat.reduceAdd, e12]
    have k := k_num op1 (Nat.le_refl _)
    simp only [x_tOf, x_eBin, x_eCallL, c1, x_eNil, x_bind_ok, List.length_nil, Nat.zero_add, if_true, k, x_eOfL, x_eCons, x_eC, t2, ne_num, x_isB]
  refine (seq_next (env1 := le a0 a2 many (.tup xs) wd (.d dp) z7' (.d (.lst (thL many xs dp))) z9' z10' z11' (.d wr) (.d (.int i)) (.d (.lst ((iD wd).take i ++ [ob] ++ (iD wd).drop (i + 1) ++ repL (4 - many) [.int 0])))) (S1 := tp L13 r13 c t13 []) ?_).trans ?_
  · have qB : ∀ {S : Store}, dLst wrB S = .ok (.lst wrB) S := fun {S} => dl (by decide)
    have a1 : ∀ {S : Store}, dAdd (.lst ((iD wd).take i)) (.lst [ob]) S = .ok (.lst ((iD wd).take i ++ [ob])) S := fun {S} => add_l (by simp [hlen]; omega)
    have a2_ : ∀ {S : Store}, dAdd (.lst ((iD wd).take i ++ [ob])) (.lst ((iD wd).drop (i + 1))) S = .ok (.lst ((iD wd).take i ++ [ob] ++ (iD wd).drop (i + 1))) S := fun {S} => add_l (by simp [hlen]; omega)
    have a3 : ∀ {S : Store}, dAdd (.lst ((iD wd).take i ++ [ob] ++ (iD wd).drop (i + 1))) (.lst (repL (4 - many) [.int 0])) S = .ok (.lst ((iD wd).take i ++ [ob] ++ (iD wd).drop (i + 1) ++ repL (4 - many) [.int 0])) S := fun {S} => add_l (by simp [hlen, rep_len]; omega)
    have s1 : ∀ {S : Store}, dSlice (.lst (iD wd)) none (some (i : Int)) S = .ok (.lst ((iD wd).take i)) S := fun {S} => by rw [dSlice, cut_to]
    have s2 : ∀ {S : Store}, dSlice (.lst (iD wd)) (some ((i : Int) + 1)) none S = .ok (.lst ((iD wd).drop (i + 1))) S := fun {S} => by
      rw [dSlice, show (i : Int) + 1 = ((i + 1 : Nat) : Int) from rfl, cut_from (by rw [hlen]; omega)]
    have m4 : ∀ {S : Store}, dMul (.lst [.int 0]) (.int (4 - (many : Int))) S = .ok (.lst (repL (4 - many) [.int 0])) S := fun {S} => by
      rw [show (4 : Int) - (many : Int) = ((4 - many : Nat) : Int) by omega]
      exact mul_l (by omega)
    simp only [le, x_sSet, x_eBin, eSlice, oNone, oSome, x_eOfL, x_eCons, x_eCall, x_eV, x_eC, x_eUn, x_dNeg, x_eNil, List.getElem?_cons_zero, List.getElem?_cons_succ, x_bind_ok, s1, qB, List.append_nil, List.length_cons, List.length_nil, Nat.reduceAdd, if_true, e13, l1, a1, x_dAdd, s2, a2_, x_dSub, m4, a3, x_bindE_ok, List.set_cons_succ, List.set_cons_zero]
  refine (seq_next (env1 := le a0 a2 many (.tup xs) wd (.d dp) z7' (.d (.lst (thL many xs dp))) z9' z10' z11' (.d wr) (.d (.int i)) (.d (.lst ((iD wd).take i ++ [ob] ++ (iD wd).drop (i + 1) ++ repL (4 - many) [.int 0])))) (S1 := tp L14 r14 c t14 []) (if_off ?_)).trans ?_
  · have c1 : capsOf (le a0 a2 many (.tup xs) wd (.d dp) z7' (.d (.lst (thL many xs dp))) z9' z10' z11' (.d wr) (.d (.int i)) (.d (.lst ((iD wd).take i ++ [ob] ++ (iD wd).drop (i + 1) ++ repL (4 - many) [.int 0])))) [14, 1, 4] = [.d (.lst ((iD wd).take i ++ [ob] ++ (iD wd).drop (i + 1) ++ repL (4 - many) [.int 0])), .d (.reg 1), .d (.tup xs)] := rfl
    have k := k_wrd e14 (Nat.le_refl _)
    simp only [x_tOf, x_eBin, x_eCallL, c1, x_eNil, x_bind_ok, List.length_nil, Nat.zero_add, if_true, k, x_eOfL, x_eCons, x_eV, le, List.getElem?_cons_zero, List.getElem?_cons_succ, x_eC, t2, ne_wrdI, x_isB]
  refine if_off ?_
  have c1 : capsOf (le a0 a2 many (.tup xs) wd (.d dp) z7' (.d (.lst (thL many xs dp))) z9' z10' z11' (.d wr) (.d (.int i)) (.d (.lst ((iD wd).take i ++ [ob] ++ (iD wd).drop (i + 1) ++ repL (4 - many) [.int 0])))) [4, 1] = [.d (.tup xs), .d (.reg 1)] := rfl
  have k := k_wrd e15 (Nat.le_refl _)
  simp only [x_tOf, x_eBin, x_eCallL, c1, x_eNil, x_bind_ok, List.length_nil, Nat.zero_add, if_true, k, x_eOfL, x_eCons, x_eC, t2, ne_wrdN, x_isB]
end
end K07
set_option Elab.async false
set_option linter.all false
set_option maxRecDepth 100000
set_option maxHeartbeats 400000
namespace K07
open PySem PySem.Spec L2 PyProof.Rows WL
theorem min2 {i j : Int} {S : Store} : bMin2 [.int i, .int j] S = .ok (.int (if j < i then j else i)) S := rfl
abbrev fX : D := .tup [.str "both", .tup [.str "says", .int 0, .int 1], .tup [.str "no", .tup [.str "says", .int 1, .int 0]]]
abbrev fY : D := .tup [.str "either", .tup [.str "says", .int 0, .int 0], .tup [.str "says", .int 1, .int 0]]
theorem fX_s : isS 2 6 fX = true := isS_le (n := 3) (by omega) (isS_two (.inl rfl) (isS_says ⟨by decide, by decide⟩ (by decide)) (isS_no (isS_says ⟨by decide, by decide⟩ (by decide))))
theorem fY_s : isS 2 6 fY = true := isS_le (n := 2) (by omega) (isS_two (.inr rfl) (isS_says ⟨by decide, by decide⟩ (by decide)) (isS_says ⟨by decide, by decide⟩ (by decide)))
theorem fX_p : pl fX 50 = true := by simp [pl, plL, ok_both, ok_says, ok_no]
theorem fY_p : pl fY 50 = true := by simp [pl, plL, ok_either, ok_says]
theorem fX_h : hold [1, 2] 6 fX = true := by decide +kernel
theorem fY_h : hold [1, 2] 6 fY = false := by decide +kernel
theorem good : K07.Good := fun ns hl => by
  obtain ⟨L, c, e0⟩ := p_begun hl
  obtain ⟨m, hm, hm2⟩ : ∃ m : Nat, (8 : Int) + (if (12 : Int) < (ns.length : Int) then 12 else (ns.length : Int)) = m ∧ m ≤ 20 := by
    by_cases h : (12 : Int) < (ns.length : Int)
    · exact ⟨20, by rw [if_pos h]; rfl, by omega⟩
    · exact ⟨8 + ns.length, by rw [if_neg h]; omega, by omega⟩
  obtain ⟨env', S', e1, L', r', t', y2, y3, y4, y5, y6, y7, y8, y9, y10, y11, y12, y13, y14, rfl, rfl⟩ := forGo_inv (it := itN 0 m) (tm := gN 2) (mb := lT) (n := m)
    (fun i env S => ∃ L r t y2 y3 y4 y5 y6 y7 y8 y9 y10 y11 y12 y13 y14, S = tp L r c t [] ∧ env = [.d (.scr ns), .d (.reg 1), y2, y3, y4, y5, y6, y7, y8, y9, y10, y11, y12, y13, y14, .un, .un]) (fun i env S hi hP => by
      obtain ⟨L, r, t, y2, y3, y4, y5, y6, y7, y8, y9, y10, y11, y12, y13, y14, rfl, rfl⟩ := hP
      obtain ⟨x3, x4, x5, x6, x7, x8, x9, x10, x11, x12, x13, x14, L2, r2, t2, e⟩ := l_turn (L := L) (r := r) (c := c) (t := t) (a0 := .d (.scr ns)) (a2 := .d (.int i)) (z3 := y3) (z4 := y4) (z5 := y5) (z6 := y6) (z7 := y7) (z8 := y8) (z9 := y9) (z10 := y10) (z11 := y11) (z12 := y12) (z13 := y13) (z14 := y14)
      exact ⟨_, _, itN_get hi, rfl, _, _, e, L2, r2, t2, .d (.int i), x3, x4, x5, x6, x7, x8, x9, x10, x11, x12, x13, x14, rfl, rfl⟩) (fun env S _ => itN_end rfl) (m + 1) 0 [.d (.scr ns), .d (.reg 1), .un, .un, .un, .un, .un, .un, .un, .un, .un, .un, .un, .un, .un, .un, .un] (tp L 0 c 0 []) (by omega) (by omega) ⟨L, 0, 0, .un, .un, .un, .un, .un, .un, .un, .un, .un, .un, .un, .un, .un, rfl, rfl⟩
  refine ⟨List.take 0 (tp L' r' c t' []), ?_⟩
  have q := rng1_nat (m := m) (by omega)
  have hw : ∀ n ∈ ([1, 2] : List Int), 0 ≤ n ∧ n ≤ 3 := by decide
  have e3 := p_sholds (S := tp L' r' c t' []) (x := fX) (many := 2) (wd := [1, 2]) (Sq.l (iD [1, 2])) rfl (by decide) hw (cl_tpT clT_nil) fX_p
  have e4 := p_sholds (S := tp L' r' c t' []) (x := fY) (many := 2) (wd := [1, 2]) (Sq.t (iD [1, 2])) rfl (by decide) hw (cl_tpT clT_nil) fY_p
  rw [fX_s, if_pos rfl, fX_h] at e3
  rw [fY_s, if_pos rfl, fY_h] at e4
  simp only [iD, List.map_cons, List.map_nil] at e3 e4
  have c0 : cleanS 0 (tp L' r' c t' []) = true := rfl
  rw [m_law, x_mkFn (np := 1) rfl, bm_law]
  simp only [lT, dB, thE, B9] at e1
  simp only [x_sSeq, x_sSet, x_eCall, x_eCons, x_eV, x_eNil, x_env0, List.map_cons, List.map_nil, List.cons_append, List.nil_append, List.length_cons, List.length_nil, Nat.reduceAdd, Nat.reduceSub, List.replicate, List.getElem?_cons_zero, List.getElem?_cons_succ, x_bind_ok, List.append_nil, if_true, e0, x_bindE_ok, List.set_cons_succ, List.set_cons_zero]
  simp only [x_sFor, x_iRng1, x_eCons, x_eBin, x_eC, x_eOfL, x_eV, x_eNil, List.getElem?_cons_zero, List.getElem?_cons_succ, x_bind_ok, x_len_s, min2, x_dAdd, hm, q, x_bindE_ok, e1]
  simp only [x_sRet, x_eAnd, x_eBin, x_eCall, x_eCons, x_eOfL, x_eV, x_eC, x_eNil, List.getElem?_cons_zero, List.getElem?_cons_succ, x_bind_ok, K07.t3, t2, l2, List.append_nil, List.length_cons, List.length_nil, Nat.reduceAdd, if_true, e3, e4, dIs, dIsB, decide_true, x_bindE_ok, x_ret_ret, Bool.false_eq_true, if_false]
  exact sealR_cut c0 rfl
end K07
theorem PySem.Challenge.cw_whyenough_k07_sentences_judged_and_held_holds : PySem.Challenge.rw_whyenough_k07_sentences_judged_and_held.Holds := by
  exact k07_holds K07.good
