import PyProof.Rows.All
import Wide.All
import OpenK.AllK
import Wide.FinOn
import HandS.ForMost
import HandS.Exc
import HandS.Defaults
import HandS.TupAny
import HandS.TupMul
import HandS.Deep
import HandS.Flow
import HandS.Style
import HandS.IsInst
import HandS.Zip
import HandS.Walk
import PyProof.EnumMake
import HandS.Property
import HandS.SortOrd
import HandS.Sort
import HandS.HeadHook1
import HandS.HeadHook2
import HandS.HeadEnd
import HandS.SortInts
import KE.KStateDown
import HandS.Head0
import HandS.Head1
import HandS.Head2
import PySem.Challenge.RW_poleheaps_k83_whole_twins
section
set_option Elab.async false
set_option linter.all false
set_option maxRecDepth 100000
set_option maxHeartbeats 4000000
/-! DA: data D without a heap, how it stands in an abstract heap (Rep), the frame's state (EnvOk), the judgements PD, PTD, PAD, PSD. -/
namespace DL
open PySem PySem.Spec PyProof.Rows L2

inductive D where
  | non | bl (b : Bool) | int (i : Int) | str (x : Str) | adr (a : Addr) | ty (n : String)
  | tup (xs : List D) | lst (xs : List D) | obj (c : Nat) (fs : List D)

/-- what is fixed through a law's run: the module's facts, the deck's address and its word, the classes -/
structure Gx where
  prog : Program
  w : World
  K : PySem.W.Frag
  mg : Str → Option Value
  base : Heap
  dk : Addr
  dkS : Addr → Prop
  dkOk : Hp → Prop
  dkIn : dkS dk
  dkSome : ∀ H, dkOk H → ∀ b, dkS b → H b ≠ none
  dkStay : ∀ H H', dkOk H → (∀ b, dkS b → H' b = H b) → dkOk H'
  cA : Nat → Addr
  cF : Nat → List Str

def TupAt (g : Gx) (H : Hp) (O : Addr → Prop) (a : Addr) (vs : List V) : Prop := (¬ O a ∧ Rd H a (.tup vs)) ∨ (∃ (o : Obj) (its : Array Value) (n : Nat), g.K.lookup a = some o ∧ o.cls = .type "tuple" ∧ o.data = .seq its n ∧ its.size ≤ sizeLine ∧ Vals vs its.toList)
def LstAt (g : Gx) (H : Hp) (O : Addr → Prop) (a : Addr) (vs : List V) : Prop := ¬ O a ∧ H a = some (.lst vs)

mutual
def Rep (g : Gx) (H : Hp) (O : Addr → Prop) : D → V → Prop
  | .non, v => v = .non
  | .bl b, v => v = .bl b
  | .int i, v => v = .int i
  | .str x, v => v = .str x
  | .adr a, v => v = .ref a
  | .ty n, v => v = .ty n
  | .tup xs, v => ∃ a vs, v = .ref a ∧ TupAt g H O a vs ∧ RepL g H O xs vs
  | .lst xs, v => ∃ a vs, v = .ref a ∧ LstAt g H O a vs ∧ RepL g H O xs vs
  | .obj c fs, v => ∃ a dx vs, v = .ref a ∧ ¬ O a ∧ H a = some (.ins (g.cA c) dx ((g.cF c).zip vs)) ∧ vs.length = (g.cF c).length ∧ RepL g H O fs vs
def RepL (g : Gx) (H : Hp) (O : Addr → Prop) : List D → List V → Prop
  | [], vs => vs = []
  | d :: ds, vs => ∃ v vs', vs = v :: vs' ∧ Rep g H O d v ∧ RepL g H O ds vs'
end

/-- all that stood stands, but for the deck's list -/
def ExtH (g : Gx) (H H' : Hp) : Prop := ∀ b o, b ≠ g.dk → H b = some o → H' b = some o
theorem ExtH.refl {g : Gx} (H : Hp) : ExtH g H H := fun _ _ _ h => h
theorem ExtH.trans {g : Gx} {H H1 H2 : Hp} (a : ExtH g H H1) (b : ExtH g H1 H2) : ExtH g H H2 := fun c o n h => b c o n (a c o n h)
theorem ExtH.of_same {g : Gx} {H H1 : Hp} (a : ∀ b o, H b = some o → H1 b = some o) : ExtH g H H1 := fun c o _ h => a c o h
theorem ext_new {g : Gx} {H : Hp} {p : Addr} {o : HO} (n : H p = none) : ExtH g H (upd H p o) := fun b u _ h => by
  rw [upd_ne (ne_of_none h n)]; exact h

section
variable {g : Gx} {H H' : Hp} {O O' : Addr → Prop}
theorem rd_move {a : Addr} {u : HO} (hO : ¬ O a) (h : ∀ b o, ¬ O b → H b = some o → H' b = some o) (r : Rd H a u) : Rd H' a u := by
  rcases r with r | ⟨o, r⟩
  · exact .inl (h _ _ hO r)
  · exact .inr ⟨o, h _ _ hO r⟩
theorem rd_tracked {a : Addr} {u : HO} (r : Rd H a u) : H a ≠ none := by
  rcases r with r | ⟨o, r⟩ <;> rw [r] <;> exact fun z => nomatch z
/-- the hidden ones may change, and more may be hidden if they aren't tracked, and fewer -/
theorem TupAt.move {a : Addr} {vs : List V} (h : ∀ b o, ¬ O b → H b = some o → H' b = some o) (hO : ∀ b, ¬ O b → H b ≠ none → ¬ O' b) (r : TupAt g H O a vs) : TupAt g H' O' a vs := by
  rcases r with ⟨n, r⟩ | r
  · exact .inl ⟨hO _ n (rd_tracked r), rd_move n h r⟩
  · exact .inr r
theorem LstAt.move {a : Addr} {vs : List V} (h : ∀ b o, ¬ O b → H b = some o → H' b = some o) (hO : ∀ b, ¬ O b → H b ≠ none → ¬ O' b) (r : LstAt g H O a vs) : LstAt g H' O' a vs :=
  ⟨hO _ r.1 (by rw [r.2]; exact fun z => nomatch z), h _ _ r.1 r.2⟩
mutual
theorem Rep.move (h : ∀ b o, ¬ O b → H b = some o → H' b = some o) (hO : ∀ b, ¬ O b → H b ≠ none → ¬ O' b) : ∀ (d : D) (v : V), Rep g H O d v → Rep g H' O' d v
  | .non, _, r => r
  | .bl _, _, r => r
  | .int _, _, r => r
  | .str _, _, r => r
  | .adr _, _, r => r
  | .ty _, _, r => r
  | .tup xs, _, ⟨a, vs, e, t, r⟩ => ⟨a, vs, e, t.move h hO, RepL.move h hO xs vs r⟩
  | .lst xs, _, ⟨a, vs, e, t, r⟩ => ⟨a, vs, e, t.move h hO, RepL.move h hO xs vs r⟩
  | .obj c fs, _, ⟨a, dx, vs, e, n, t, l, r⟩ => ⟨a, dx, vs, e, hO _ n (by rw [t]; exact fun z => nomatch z), h _ _ n t, l, RepL.move h hO fs vs r⟩
theorem RepL.move (h : ∀ b o, ¬ O b → H b = some o → H' b = some o) (hO : ∀ b, ¬ O b → H b ≠ none → ¬ O' b) : ∀ (ds : List D) (vs : List V), RepL g H O ds vs → RepL g H' O' ds vs
  | [], _, r => r
  | d :: ds, _, ⟨v, vs', e, r1, r2⟩ => ⟨v, vs', e, Rep.move h hO d v r1, RepL.move h hO ds vs' r2⟩
end
theorem RepL.length : ∀ {ds : List D} {vs : List V}, RepL g H O ds vs → ds.length = vs.length
  | [], _, r => by rw [show _ = [] from r]; rfl
  | d :: ds, _, ⟨v, vs', e, _, r2⟩ => by rw [e, List.length_cons, List.length_cons, r2.length]
theorem RepL.get : ∀ {ds : List D} {vs : List V} {i : Nat} {v : V}, RepL g H O ds vs → vs[i]? = some v → ∃ d, ds[i]? = some d ∧ Rep g H O d v
  | [], _, i, v, r, e => by rw [show _ = [] from r] at e; simp at e
  | d :: ds, _, 0, v, ⟨w, vs', e1, r1, _⟩, e => by
    rw [e1] at e
    have e2 : w = v := Option.some.inj e
    rw [← e2]
    exact ⟨d, rfl, r1⟩
  | d :: ds, _, i + 1, v, ⟨w, vs', e1, _, r2⟩, e => by
    rw [e1] at e
    obtain ⟨d', h1, h2⟩ := RepL.get (i := i) r2 e
    exact ⟨d', h1, h2⟩
theorem RepL.getD : ∀ {ds : List D} {vs : List V} {i : Nat} {d : D}, RepL g H O ds vs → ds[i]? = some d → ∃ v, vs[i]? = some v ∧ Rep g H O d v
  | [], _, i, v, r, e => by simp at e
  | d :: ds, _, 0, v, ⟨w, vs', e1, r1, _⟩, e => by
    have e2 : d = v := Option.some.inj e
    rw [← e2, e1]
    exact ⟨w, rfl, r1⟩
  | d :: ds, _, i + 1, v, ⟨w, vs', e1, _, r2⟩, e => by
    obtain ⟨d', h1, h2⟩ := RepL.getD (i := i) r2 e
    rw [e1]
    exact ⟨d', h1, h2⟩
theorem RepL.append : ∀ {ds es : List D} {vs us : List V}, RepL g H O ds vs → RepL g H O es us → RepL g H O (ds ++ es) (vs ++ us)
  | [], _, _, _, r, q => by rw [show _ = [] from r]; exact q
  | d :: ds, _, _, _, ⟨v, vs', e, r1, r2⟩, q => by
    rw [e]
    exact ⟨v, _, rfl, r1, RepL.append r2 q⟩
theorem RepL.nil : RepL g H O [] [] := rfl
theorem RepL.cons {d : D} {v : V} {ds : List D} {vs : List V} (r : Rep g H O d v) (q : RepL g H O ds vs) : RepL g H O (d :: ds) (v :: vs) := ⟨v, vs, rfl, r, q⟩
theorem RepL.one {d : D} {v : V} (r : Rep g H O d v) : RepL g H O [d] [v] := RepL.cons r RepL.nil
theorem RepL.set : ∀ {ds : List D} {vs : List V} {d : D} {v : V} (i : Nat), RepL g H O ds vs → Rep g H O d v → RepL g H O (ds.set i d) (vs.set i v)
  | [], _, _, _, _, r, _ => by rw [show _ = [] from r]; exact rfl
  | d :: ds, _, _, _, 0, ⟨v, vs', e, r1, r2⟩, q => by rw [e]; exact ⟨_, _, rfl, q, r2⟩
  | d :: ds, _, _, _, i + 1, ⟨v, vs', e, r1, r2⟩, q => by rw [e]; exact ⟨_, _, rfl, r1, RepL.set i r2 q⟩
theorem RepL.take : ∀ {ds : List D} {vs : List V} (n : Nat), RepL g H O ds vs → RepL g H O (ds.take n) (vs.take n)
  | _, _, 0, _ => rfl
  | [], _, n + 1, r => by rw [show _ = [] from r]; exact rfl
  | d :: ds, _, n + 1, ⟨v, vs', e, r1, r2⟩ => by rw [e]; exact ⟨_, _, rfl, r1, RepL.take n r2⟩
theorem RepL.drop : ∀ {ds : List D} {vs : List V} (n : Nat), RepL g H O ds vs → RepL g H O (ds.drop n) (vs.drop n)
  | _, _, 0, r => r
  | [], _, n + 1, r => by rw [show _ = [] from r]; exact rfl
  | d :: ds, _, n + 1, ⟨v, vs', e, r1, r2⟩ => by rw [e]; exact RepL.drop n r2
theorem RepL.reverse : ∀ {ds : List D} {vs : List V}, RepL g H O ds vs → RepL g H O ds.reverse vs.reverse
  | [], _, r => by rw [show _ = [] from r]; exact rfl
  | d :: ds, _, ⟨v, vs', e, r1, r2⟩ => by
    rw [e, List.reverse_cons, List.reverse_cons]
    exact RepL.append (RepL.reverse r2) (RepL.one r1)
theorem RepL.ints : ∀ {ns : List Int} {vs : List V}, RepL g H O (ns.map D.int) vs ↔ vs = ns.map V.int
  | [], vs => Iff.rfl
  | n :: ns, vs => by
    constructor
    · rintro ⟨v, vs', e, r1, r2⟩
      rw [e, show v = V.int n from r1, RepL.ints.mp r2]
      rfl
    · intro e
      exact ⟨V.int n, ns.map V.int, e, rfl, RepL.ints.mpr rfl⟩
/-- what stands stays -/
theorem Rep.ext {d : D} {v : V} (hO : O g.dk) (e : ExtH g H H') (r : Rep g H O d v) : Rep g H' O d v :=
  Rep.move (fun b o n h => e b o (fun z => n (z ▸ hO)) h) (fun _ n _ => n) d v r
theorem RepL.ext {ds : List D} {vs : List V} (hO : O g.dk) (e : ExtH g H H') (r : RepL g H O ds vs) : RepL g H' O ds vs :=
  RepL.move (fun b o n h => e b o (fun z => n (z ▸ hO)) h) (fun _ n _ => n) ds vs r
/-- more is seen -/
theorem Rep.less {d : D} {v : V} (h : ∀ b, O' b → O b) (r : Rep g H O d v) : Rep g H O' d v := Rep.move (fun _ _ _ h => h) (fun b n _ z => n (h b z)) d v r
theorem RepL.less {ds : List D} {vs : List V} (h : ∀ b, O' b → O b) (r : RepL g H O ds vs) : RepL g H O' ds vs := RepL.move (fun _ _ _ h => h) (fun b n _ z => n (h b z)) ds vs r
end

/-! ### slots -/
inductive Sl where
  | un | sh (d : D) | lv (xs : List D)
abbrev Env := List Sl
def hidO (O : Addr → Prop) (own : Nat → Option Addr) : Addr → Prop := fun a => O a ∨ ∃ i, own i = some a
def SlOk (g : Gx) (H : Hp) (O : Addr → Prop) : Sl → Option Addr → Option V → Prop
  | .un, ow, _ => ow = none
  | .sh d, ow, v => ow = none ∧ ∃ x, v = some x ∧ Rep g H O d x
  | .lv xs, ow, v => ∃ a vs, ow = some a ∧ v = some (.ref a) ∧ H a = some (.lst vs) ∧ RepL g H O xs vs
structure EnvOk (g : Gx) (H0 : Hp) (O : Addr → Prop) (σ : L2.St) (H : Hp) (ρ : Env) (own : Nat → Option Addr) : Prop where
  len : ρ.length = σ.length
  sl : ∀ i, SlOk g H (hidO O own) (ρ.getD i .un) (own i) (σ.getD i none)
  inj : ∀ i j a, own i = some a → own j = some a → i = j
  ofr : ∀ i a, own i = some a → ¬ O a ∧ H0 a = none
  ext : ExtH g H0 H
  dko : g.dkOk H
  dks : ∀ b, g.dkS b → O b
  oin : ∀ b, O b → H b ≠ none

section
variable {g : Gx} {H0 H H' : Hp} {O : Addr → Prop} {σ : L2.St} {ρ : Env} {own : Nat → Option Addr}
theorem dk_new {g : Gx} {H : Hp} {p : Addr} {o : HO} (dk : g.dkOk H) (n : H p = none) : g.dkOk (upd H p o) :=
  g.dkStay H _ dk fun b hb => upd_ne fun z => g.dkSome _ dk b hb (z ▸ n)
theorem EnvOk.odk (e : EnvOk g H0 O σ H ρ own) : O g.dk := e.dks _ g.dkIn
theorem EnvOk.ndk (e : EnvOk g H0 O σ H ρ own) {i : Nat} {a : Addr} (h : own i = some a) : a ≠ g.dk := fun z => (e.ofr i a h).1 (z ▸ e.odk)
theorem EnvOk.hdk (e : EnvOk g H0 O σ H ρ own) : hidO O own g.dk := .inl e.odk
theorem ExtH.in_ (e : ExtH g H H') (h : g.dkOk H') {b : Addr} (q : H b ≠ none) : H' b ≠ none := by
  by_cases hb : b = g.dk
  · rw [hb]; exact g.dkSome _ h _ g.dkIn
  · cases r : H b with
    | none => exact absurd r q
    | some o => rw [e b o hb r]; exact fun z => nomatch z
theorem EnvOk.move (e : EnvOk g H0 O σ H ρ own) (x : ExtH g H H') (d : g.dkOk H') : EnvOk g H0 O σ H' ρ own := by
  refine ⟨e.len, fun i => ?_, e.inj, e.ofr, e.ext.trans x, d, e.dks, fun b hb => ExtH.in_ x d (e.oin b hb)⟩
  have h := e.sl i
  cases q : ρ.getD i .un with
  | un => rw [q] at h; exact h
  | sh dd =>
    rw [q] at h
    obtain ⟨h1, x1, h2, h3⟩ := h
    exact ⟨h1, x1, h2, h3.ext e.hdk x⟩
  | lv xs =>
    rw [q] at h
    obtain ⟨a, vs, h1, h2, h3, h4⟩ := h
    exact ⟨a, vs, h1, h2, x a _ (e.ndk h1) h3, h4.ext e.hdk x⟩
end

/-- a view of the heap -/
structure Vw (g : Gx) (H : Hp) (O : Addr → Prop) : Prop where
  odk : O g.dk
  dko : g.dkOk H
  oin : ∀ b, O b → H b ≠ none
theorem EnvOk.vw {g : Gx} {H0 H : Hp} {O : Addr → Prop} {σ : L2.St} {ρ : Env} {own : Nat → Option Addr} (e : EnvOk g H0 O σ H ρ own) : Vw g H (hidO O own) := by
  refine ⟨e.hdk, e.dko, fun b hb => ?_⟩
  rcases hb with hb | ⟨i, hb⟩
  · exact e.oin b hb
  · have h := e.sl i
    cases q : ρ.getD i .un with
    | un =>
      rw [q] at h
      have h : own i = none := h
      rw [h] at hb; cases hb
    | sh dd =>
      rw [q] at h
      obtain ⟨h1, _⟩ := h
      rw [h1] at hb; cases hb
    | lv xs =>
      rw [q] at h
      obtain ⟨a, vs, h1, _, h3, _⟩ := h
      rw [h1] at hb
      rw [← Option.some.inj hb, h3]
      exact fun z => nomatch z
theorem Vw.move {g : Gx} {H H' : Hp} {O : Addr → Prop} (v : Vw g H O) (x : ExtH g H H') (d : g.dkOk H') : Vw g H' O := ⟨v.odk, d, fun b hb => ExtH.in_ x d (v.oin b hb)⟩
/-! ### readings -/
abbrev WE := Env → (D → Prop) → Prop
abbrev WT := Env → (Bool → Prop) → Prop
abbrev WA := Env → (List D → Prop) → Prop
/-- an exception of the program: its class, its word, its place -/
structure Exc where
  cls : Str
  word : Str
  place : D
def gaO (g : Gx) (x : Str) : Option Addr := match g.mg x with
  | some (.ref a) => some a
  | _ => none
def ExcRep (g : Gx) (H : Hp) (O : Addr → Prop) (x : Exc) (cls : Value) (od : Option Addr) : Prop :=
  ∃ C da fs v, gaO g x.cls = some C ∧ cls = .ref C ∧ od = some da ∧ H da = some (.xd fs) ∧ fs.lookup ("word" : Str) = some (.str x.word) ∧ fs.lookup ("place" : Str) = some v ∧ Rep g H O x.place v
structure XLink (X : Cx) (g : Gx) (H0 : Hp) (O : Addr → Prop) (xp : Exc → Prop) : Prop where
  ex : ∃ E : XK, Takes X (fun c d _ H => E c d H) ∧ ∀ x, xp x → ∀ cls od H', ExtH g H0 H' → g.dkOk H' → ExcRep g H' O x cls od → E cls od H'
def tD (g : Gx) (H0 : Hp) (O : Addr → Prop) (f : WE) : TE := fun σ H Q => ∃ ρ own, EnvOk g H0 O σ H ρ own ∧ f ρ fun d => ∀ v H', ExtH g H H' → g.dkOk H' → Rep g H' (hidO O own) d v → Q v H'
def tDT (g : Gx) (H0 : Hp) (O : Addr → Prop) (f : WT) : TT := fun σ H Q => ∃ ρ own, EnvOk g H0 O σ H ρ own ∧ f ρ fun b => ∀ H', ExtH g H H' → g.dkOk H' → Q b H'
def tDA (g : Gx) (H0 : Hp) (O : Addr → Prop) (f : WA) : TA := fun σ H Q => ∃ ρ own, EnvOk g H0 O σ H ρ own ∧ f ρ fun ds => ∀ vs H', ExtH g H H' → g.dkOk H' → RepL g H' (hidO O own) ds vs → Q vs H'
structure PD (X : Cx) (g : Gx) (xp : Exc → Prop) (e : Expr) (f : WE) : Prop where
  mono : ∀ ρ K K', (∀ d, K d → K' d) → f ρ K → f ρ K'
  pe : ∀ H0 O, XLink X g H0 O xp → PE X e (tD g H0 O f)
structure PDT (X : Cx) (g : Gx) (xp : Exc → Prop) (e : Expr) (f : WT) : Prop where
  mono : ∀ ρ K K', (∀ d, K d → K' d) → f ρ K → f ρ K'
  pt : ∀ H0 O, XLink X g H0 O xp → PT X e (tDT g H0 O f)
structure PDA (X : Cx) (g : Gx) (xp : Exc → Prop) (es : List Expr) (f : WA) : Prop where
  len : ∀ ρ K, f ρ K → f ρ fun ds => ds.length = es.length ∧ K ds
  mono : ∀ ρ K K', (∀ d, K d → K' d) → f ρ K → f ρ K'
  pa : ∀ H0 O, XLink X g H0 O xp → PA X es (tDA g H0 O f)

theorem _root_.L2.PE.imp' {X : Cx} {e : Expr} {t t' : TE} (h : PE X e t) (i : ∀ σ H Q, t' σ H Q → t σ H Q) : PE X e t' := ⟨fun pins s σ H Q I q => h.run pins s σ H Q I (i σ H Q q)⟩
theorem _root_.L2.PT.imp' {X : Cx} {e : Expr} {t t' : TT} (h : PT X e t) (i : ∀ σ H Q, t' σ H Q → t σ H Q) : PT X e t' := ⟨fun pins s σ H Q I q => h.run pins s σ H Q I (i σ H Q q)⟩
theorem _root_.L2.PA.imp' {X : Cx} {e : List Expr} {t t' : TA} (h : PA X e t) (i : ∀ σ H Q, t' σ H Q → t σ H Q) : PA X e t' := ⟨fun pos pins s σ H Q I q => h.run pos pins s σ H Q I (i σ H Q q)⟩

section
variable {X : Cx} {g : Gx} {xp : Exc → Prop} {a b e : Expr} {es : List Expr} {pos : Pos} {fa fb fe : WE} {fs : WA}

/-! ### names, constants -/
def wVar (i : Nat) : WE := fun ρ K => ∃ d, ρ[i]? = some (.sh d) ∧ K d
def wC (d : D) : WE := fun _ K => K d
theorem pd_var (i : Nat) {x : Str} (hN : X.N[i]? = some x := by rfl) (hv : Vis X.env.scope x := by first | exact Or.inl rfl | exact Or.inr (Or.inl rfl) | exact Or.inr (Or.inr rfl)) (hd : (x == ("__debug__" : Str)) = false := by decide)
    (hcd : (x == ("__classdict__" : Str)) = false := by decide) : PD X g xp (.Name x pos) (wVar i) := by
  refine ⟨fun ρ K K' h ⟨d, e, k⟩ => ⟨d, e, h d k⟩, fun H0 O _ => (pe_var hN hv hd hcd).imp' fun σ H Q h => ?_⟩
  obtain ⟨ρ, own, E, d, e1, k⟩ := h
  have s := E.sl i
  have e2 : ρ.getD i .un = .sh d := by rw [List.getD_eq_getElem?_getD, e1]; rfl
  rw [e2] at s
  obtain ⟨_, x, h2, h3⟩ := s
  refine ⟨x, ?_, k x H (ExtH.refl H) E.dko h3⟩
  rw [List.getD_eq_getElem?_getD] at h2
  cases q : σ[i]? with
  | none => rw [q] at h2; cases h2
  | some o => rw [q] at h2; rw [show o = some x from h2]
theorem pd_int {i j} : PD X g xp (.Constant (.int i) j pos) (wC (.int i)) :=
  ⟨fun _ _ _ h k => h _ k, fun H0 O _ => pe_int.imp' fun σ H Q ⟨ρ, own, E, k⟩ => k _ H (ExtH.refl H) E.dko rfl⟩
theorem pd_bl {b j} : PD X g xp (.Constant (.bool b) j pos) (wC (.bl b)) :=
  ⟨fun _ _ _ h k => h _ k, fun H0 O _ => pe_bl.imp' fun σ H Q ⟨ρ, own, E, k⟩ => k _ H (ExtH.refl H) E.dko rfl⟩
theorem pd_non {j} : PD X g xp (.Constant .none j pos) (wC .non) :=
  ⟨fun _ _ _ h k => h _ k, fun H0 O _ => pe_non.imp' fun σ H Q ⟨ρ, own, E, k⟩ => k _ H (ExtH.refl H) E.dko rfl⟩
theorem pd_str {x j} : PD X g xp (.Constant (.str x) j pos) (wC (.str x)) :=
  ⟨fun _ _ _ h k => h _ k, fun H0 O _ => pe_str.imp' fun σ H Q ⟨ρ, own, E, k⟩ => k _ H (ExtH.refl H) E.dko rfl⟩
/-- a constant of the module -/
def GloD (g : Gx) (x : Str) (d : D) : Prop := ∃ u v, g.mg x = some u ∧ RelV v u ∧ ∀ H O, Rep g H O d v
theorem pd_glob {x : Str} {d : D} (G : GloD g x d) (hm : X.mg = g.mg := by rfl) (hg : Gl X x := by rfl) (hd : (x == ("__debug__" : Str)) = false := by decide) : PD X g xp (.Name x pos) (wC d) := by
  obtain ⟨u, v, h1, h2, h3⟩ := G
  exact ⟨fun _ _ _ h k => h _ k, fun H0 O _ => (pe_glob hg (by rw [hm]; exact h1) h2 hd).imp' fun σ H Q ⟨ρ, own, E, k⟩ => k _ H (ExtH.refl H) E.dko (h3 _ _)⟩

/-- the context's module facts are g's -/
structure XG (X : Cx) (g : Gx) : Prop where
  prog : X.prog = g.prog
  w : X.w = g.w
  K : X.K = g.K
  mg : X.mg = g.mg
  base : X.base = g.base
/-- what is wanted of a result -/
abbrev Wish (g : Gx) (H : Hp) (O : Addr → Prop) (K : D → Prop) (Q : VK) : Prop := ∀ d, K d → ∀ u H', ExtH g H H' → g.dkOk H' → Rep g H' O d u → Q u H'
theorem wish_up {g : Gx} {H H3 : Hp} {O : Addr → Prop} {Q : VK} (e : ExtH g H H3) : Wish g H3 O (fun d => ∀ v H', ExtH g H H' → g.dkOk H' → Rep g H' O d v → Q v H') Q := fun d q u H4 e4 d4 r4 => q u H4 (e.trans e4) d4 r4
/-- an operator over D -/
structure OpD (X : Cx) (g : Gx) (f : Value → Value → Sem Value) (k : D → D → (D → Prop) → Prop) : Prop where
  mono : ∀ x y K K', (∀ d, K d → K' d) → k x y K → k x y K'
  ex : ∃ r : R2, OpR X f r ∧ ∀ x y K H O v w Q, Vw g H O → Rep g H O x v → Rep g H O y w → k x y K → Wish g H O K Q → r v w H Q
/-! ### two in a row -/
def wBin (k : D → D → (D → Prop) → Prop) (fa fb : WE) : WE := fun ρ K => fa ρ fun x => fb ρ fun y => k x y K
theorem pd_bin {r : R2} {k : D → D → (D → Prop) → Prop} (ha : PD X g xp a fa) (hb : PD X g xp b fb) (he : ∀ ta tb, PE X a ta → PE X b tb → PE X e (tOp r ta tb))
    (hm : ∀ x y K K', (∀ d, K d → K' d) → k x y K → k x y K')
    (hr : ∀ x y K H O v w Q, Vw g H O → Rep g H O x v → Rep g H O y w → k x y K → (∀ d, K d → ∀ u H', ExtH g H H' → g.dkOk H' → Rep g H' O d u → Q u H') → r v w H Q) : PD X g xp e (wBin k fa fb) := by
  refine ⟨fun ρ K K' h => ha.mono _ _ _ fun x => hb.mono _ _ _ fun y => hm x y K K' h, fun H0 O L => (he _ _ (ha.pe H0 O L) (hb.pe H0 O L)).imp' fun σ H Q ⟨ρ, own, E, k1⟩ => ?_⟩
  refine ⟨ρ, own, E, ha.mono _ _ _ (fun x k2 v H1 e1 d1 r1 => ?_) k1⟩
  refine ⟨ρ, own, E.move e1 d1, hb.mono _ _ _ (fun y k3 w H2 e2 d2 r2 => ?_) k2⟩
  exact hr x y _ H2 _ v w Q ((E.vw.move e1 d1).move e2 d2) (r1.ext E.hdk e2) r2 k3 fun d q u H3 e3 d3 r3 => q u H3 (e1.trans (e2.trans e3)) d3 r3
theorem pd_op {op : Operator} {k : D → D → (D → Prop) → Prop} (o : OpD X g (binaryOp op) k) (ha : PD X g xp a fa) (hb : PD X g xp b fb) : PD X g xp (.BinOp a op b pos) (wBin k fa fb) := by
  obtain ⟨r, ho, hr⟩ := o.ex
  exact pd_bin ha hb (fun ta tb pa pb => pe_op ho pa pb) o.mono hr
theorem pd_cmp {op : CmpOp} {k : D → D → (D → Prop) → Prop} (o : OpD X g (compareOp op) k) (ha : PD X g xp a fa) (hb : PD X g xp b fb) (hm : behindInMarks op b = false := by first | exact nomark _ | rfl) : PD X g xp (.Compare a [op] [b] pos) (wBin k fa fb) := by
  obtain ⟨r, ho, hr⟩ := o.ex
  exact pd_bin ha hb (fun ta tb pa pb => pe_cmpR ho pa pb hm) o.mono hr
/-- a value that is a bool, as a test -/
def wB (f : WE) : WT := fun ρ K => f ρ fun d => ∃ b, d = .bl b ∧ K b
theorem pdt_cmp {op : CmpOp} {k : D → D → (D → Prop) → Prop} (o : OpD X g (compareOp op) k) (ha : PD X g xp a fa) (hb : PD X g xp b fb) (hm : behindInMarks op b = false := by first | exact nomark _ | rfl) : PDT X g xp (.Compare a [op] [b] pos) (wB (wBin k fa fb)) := by
  obtain ⟨r, ho, hr⟩ := o.ex
  refine ⟨fun ρ K K' h => ha.mono _ _ _ fun x => hb.mono _ _ _ fun y => o.mono x y _ _ fun d ⟨b, e, q⟩ => ⟨b, e, h b q⟩, fun H0 O L => (pt_cmpR ho (ha.pe H0 O L) (hb.pe H0 O L) hm).imp' fun σ H Q ⟨ρ, own, E, k1⟩ => ?_⟩
  refine ⟨ρ, own, E, ha.mono _ _ _ (fun x k2 v H1 e1 d1 r1 => ?_) k1⟩
  refine ⟨ρ, own, E.move e1 d1, hb.mono _ _ _ (fun y k3 w H2 e2 d2 r2 => ?_) k2⟩
  refine hr x y _ H2 _ v w _ ((E.vw.move e1 d1).move e2 d2) (r1.ext E.hdk e2) r2 k3 fun d q u H3 e3 d3 r3 => ?_
  obtain ⟨b, rfl, q⟩ := q
  exact ⟨b, r3, q H3 (e1.trans (e2.trans e3)) d3⟩
def wUn (k : D → (D → Prop) → Prop) (fa : WE) : WE := fun ρ K => fa ρ fun x => k x K
theorem pd_un {r : V → Hp → VK → Prop} {k : D → (D → Prop) → Prop} (ha : PD X g xp a fa) (he : ∀ ta, PE X a ta → PE X e (tUn r ta)) (hm : ∀ x K K', (∀ d, K d → K' d) → k x K → k x K')
    (hr : ∀ x K H O v Q, Vw g H O → Rep g H O x v → k x K → (∀ d, K d → ∀ u H', ExtH g H H' → g.dkOk H' → Rep g H' O d u → Q u H') → r v H Q) : PD X g xp e (wUn k fa) := by
  refine ⟨fun ρ K K' h => ha.mono _ _ _ fun x => hm x K K' h, fun H0 O L => (he _ (ha.pe H0 O L)).imp' fun σ H Q ⟨ρ, own, E, k1⟩ => ?_⟩
  refine ⟨ρ, own, E, ha.mono _ _ _ (fun x k2 v H1 e1 d1 r1 => ?_) k1⟩
  exact hr x _ H1 _ v Q (E.vw.move e1 d1) r1 k2 fun d q u H3 e3 d3 r3 => q u H3 (e1.trans e3) d3 r3

/-! ### argument lists -/
def wNil : WA := fun _ K => K []
def wCons (fe : WE) (fs : WA) : WA := fun ρ K => fe ρ fun d => fs ρ fun ds => K (d :: ds)
theorem pda_nil : PDA X g xp [] wNil := ⟨fun _ _ k => ⟨rfl, k⟩, fun _ _ _ h k => h _ k, fun H0 O _ => pa_nil.imp' fun σ H Q ⟨ρ, own, E, k⟩ => k [] H (ExtH.refl H) E.dko rfl⟩
theorem pda_cons (he : PD X g xp e fe) (hs : PDA X g xp es fs) (hx : starEach (e :: es) X.env = (false, eval e X.env) :: starEach es X.env := by rfl) : PDA X g xp (e :: es) (wCons fe fs) := by
  refine ⟨fun ρ K => he.mono _ _ _ fun d k => hs.mono _ _ _ (fun ds ⟨e, q⟩ => ⟨by rw [List.length_cons, List.length_cons, e], q⟩) (hs.len _ _ k), fun ρ K K' h => he.mono _ _ _ fun x => hs.mono _ _ _ fun ds => h _, fun H0 O L => (pa_cons (he.pe H0 O L) (hs.pa H0 O L) hx).imp' fun σ H Q ⟨ρ, own, E, k1⟩ => ?_⟩
  refine ⟨ρ, own, E, he.mono _ _ _ (fun x k2 v H1 e1 d1 r1 => ?_) k1⟩
  refine ⟨ρ, own, E.move e1 d1, hs.mono _ _ _ (fun ds k3 vs H2 e2 d2 r2 => ?_) k2⟩
  exact k3 (v :: vs) H2 (e1.trans e2) d2 (RepL.cons (r1.ext E.hdk e2) r2)
end
end DL
end
section
set_option Elab.async false
set_option linter.all false
set_option maxRecDepth 100000
set_option maxHeartbeats 4000000
/-! DT: tuple * int for every int. -/
namespace DL
open PySem PySem.Spec PyProof.Rows L2
theorem tuple_mul_same (l : Addr) (items : Array Value) (n : Nat) (dd : Option Addr) (sl : Array (Option Value)) (x : Int) (u : Tok) (c0 : (decide (x < -(2 ^ 63)) || decide (x ≥ 2 ^ 63)) = false) (c1 : (items.isEmpty || x == 1) = true) :
    Meets (Builtin.«tuple.__mul__» ⟨[.ref l, .int x u], []⟩) (fun _ R s => s.heap.get? l = some { cls := .type "tuple", dict := dd, data := .seq items n, slots := sl } ∧ R (.ok (.ret (Value.ref l))) s) :=
  .of_wp fun prog w A R s h => by
    obtain ⟨hp, g, d, tk, os⟩ := s
    obtain ⟨hl, h⟩ := h
    have f1 := AutoSeq1.idx_int
    have f2 := AutoSeq1.sub_tuple_tuple
    wp_walk using wpAny_loadPart' hl
    repeat (first
      | (refine wpAny_ite_false (decide_eq_false (by rw [c0]; exact Bool.false_ne_true)) ?_; wp_walk using wpAny_loadPart' hl)
      | (refine wpAny_ite_true (decide_eq_true c1) ?_; wp_walk using wpAny_loadPart' hl))
    exact ⟨_, rfl, h⟩
theorem tuple_mul_none (l : Addr) (items : Array Value) (n : Nat) (dd : Option Addr) (sl : Array (Option Value)) (x : Int) (u : Tok) (c0 : (decide (x < -(2 ^ 63)) || decide (x ≥ 2 ^ 63)) = false) (c1 : (items.isEmpty || x == 1) = false) (c2 : (decide (x ≤ 0) || items.isEmpty) = true) :
    Meets (Builtin.«tuple.__mul__» ⟨[.ref l, .int x u], []⟩) (fun _ R s => s.heap.get? l = some { cls := .type "tuple", dict := dd, data := .seq items n, slots := sl } ∧
      R (.ok (.ret (Value.ref s.heap.objs.size))) { s with heap := s.heap.push { cls := Value.type "tuple", data := Data.seq #[] }, toks := s.toks }) :=
  .of_wp fun prog w A R s h => by
    obtain ⟨hp, g, d, tk, os⟩ := s
    obtain ⟨hl, h⟩ := h
    have f1 := AutoSeq1.idx_int
    wp_walk using wpAny_loadPart' hl
    repeat (first
      | (refine wpAny_ite_false (decide_eq_false (by rw [c0]; exact Bool.false_ne_true)) ?_; wp_walk using wpAny_loadPart' hl)
      | (refine wpAny_ite_false (decide_eq_false (by rw [c1]; exact Bool.false_ne_true)) ?_; wp_walk using wpAny_loadPart' hl)
      | (refine wpAny_ite_true (decide_eq_true c2) ?_; wp_walk using wpAny_loadPart' hl))
    exact ⟨_, rfl, h⟩
/-- t * k -/
def rRepA (K : PySem.W.Frag) : R2 := fun x y H Q => ∃ l k xs, x = .ref l ∧ y = .int k ∧ SqT K H l xs ∧ -(2 ^ 63) ≤ k ∧ k ≤ 1000 ∧ xs.length ≤ 1000 ∧
  (xs = [] → Q (.ref l) H) ∧ (k = 1 → Q (.ref l) H) ∧ (xs ≠ [] → k ≠ 1 → ∀ p, H p = none → Q (.ref p) (upd H p (.tup (List.replicate k.toNat xs).flatten)))
theorem op_repA {X : Cx} : OpR X (binaryOp .Mult) (rRepA X.K) := by
  intro pins s σ H x y v u Q I rx ry h
  obtain ⟨l, k, xs, rfl, rfl, hT, h1, h2, hz, q0, q1, q2⟩ := h
  by_cases hx : xs = []
  · subst hx
    cases rx
    obtain ⟨t, rfl⟩ := ry
    obtain ⟨its, r, ⟨⟨cls, dd, data, sl⟩, ho, hc, n, hd⟩, hs⟩ := I.tuple hT
    simp only at hc hd
    subst hc hd
    cases r
    have c0 : (decide (k < -(2 ^ 63)) || decide (k ≥ 2 ^ 63)) = false := by
      rw [decide_eq_false (by omega), decide_eq_false (by omega)] <;> rfl
    exact wpAny_binaryOp_repeat_ref (T := "tuple") (U := "int") (by decide) ⟨_, ho, rfl⟩ (fun s' => typeIs_int s' k t) noFill_tuple_mul F.fills_int_mul F.slot_int_rmul repeat_tuple F.slot_int_index.lookup
      (call_meets F.slot_int_rmul (typeIs_int s k t) F.entry_int_rmul (F.args_int_rmul_2 _ _) (int_rmul_tuple k t l _ n dd sl)
        ⟨ho, rfl, ⟨_, ho, rfl⟩, call_meets F.slot_tuple_mul ⟨_, ho, rfl⟩ F.entry_tuple_mul (F.args_tuple_mul_2 _ _) (tuple_mul_same l _ n dd sl k t c0 rfl) ⟨ho, ⟨.ref l, H, I, rfl, q0 rfl⟩⟩⟩)
  · by_cases hk : k = 1
    · cases rx
      obtain ⟨t, rfl⟩ := ry
      obtain ⟨its, r, ⟨⟨cls, dd, data, sl⟩, ho, hc, n, hd⟩, hs⟩ := I.tuple hT
      simp only at hc hd
      subst hc hd
      have c0 : (decide (k < -(2 ^ 63)) || decide (k ≥ 2 ^ 63)) = false := by
        rw [decide_eq_false (by omega), decide_eq_false (by omega)] <;> rfl
      have c1 : (its.toArray.isEmpty || k == 1) = true := by
        rw [hk]
        simp
      exact wpAny_binaryOp_repeat_ref (T := "tuple") (U := "int") (by decide) ⟨_, ho, rfl⟩ (fun s' => typeIs_int s' k t) noFill_tuple_mul F.fills_int_mul F.slot_int_rmul repeat_tuple F.slot_int_index.lookup
        (call_meets F.slot_int_rmul (typeIs_int s k t) F.entry_int_rmul (F.args_int_rmul_2 _ _) (int_rmul_tuple k t l _ n dd sl)
          ⟨ho, rfl, ⟨_, ho, rfl⟩, call_meets F.slot_tuple_mul ⟨_, ho, rfl⟩ F.entry_tuple_mul (F.args_tuple_mul_2 _ _) (tuple_mul_same l _ n dd sl k t c0 c1) ⟨ho, ⟨.ref l, H, I, rfl, q1 hk⟩⟩⟩)
    · by_cases hp : 2 ≤ k
      · exact op_repT pins s σ H _ _ v u Q I rx ry ⟨l, k, xs, rfl, rfl, hT, hx, hp, h2, hz, q2 hx hk⟩
      · cases rx
        obtain ⟨t, rfl⟩ := ry
        obtain ⟨its, r, ⟨⟨cls, dd, data, sl⟩, ho, hc, n, hd⟩, hs⟩ := I.tuple hT
        simp only at hc hd
        subst hc hd
        have hle := r.length
        have hi : its.toArray.isEmpty = false := by
          cases its with
          | nil => exact absurd (List.eq_nil_of_length_eq_zero hle) hx
          | cons a b => rfl
        have c0 : (decide (k < -(2 ^ 63)) || decide (k ≥ 2 ^ 63)) = false := by
          rw [decide_eq_false (by omega), decide_eq_false (by omega)] <;> rfl
        have c1 : (its.toArray.isEmpty || k == 1) = false := by
          rw [hi, Bool.false_or]
          exact beq_eq_false_iff_ne.mpr hk
        have c2 : (decide (k ≤ 0) || its.toArray.isEmpty) = true := by
          rw [decide_eq_true (by omega)]
          rfl
        have e0 : k.toNat = 0 := by omega
        have q := q2 hx hk
        rw [e0] at q
        refine wpAny_binaryOp_repeat_ref (T := "tuple") (U := "int") (by decide) ⟨_, ho, rfl⟩ (fun s' => typeIs_int s' k t) noFill_tuple_mul F.fills_int_mul F.slot_int_rmul repeat_tuple F.slot_int_index.lookup
          (call_meets F.slot_int_rmul (typeIs_int s k t) F.entry_int_rmul (F.args_int_rmul_2 _ _) (int_rmul_tuple k t l _ n dd sl)
            ⟨ho, rfl, ⟨_, ho, rfl⟩, call_meets F.slot_tuple_mul ⟨_, ho, rfl⟩ F.entry_tuple_mul (F.args_tuple_mul_2 _ _) (tuple_mul_none l _ n dd sl k t c0 c1 c2) ⟨ho, ?_⟩⟩)
        refine ⟨.ref s.heap.objs.size, _, I.laid (t' := s.toks) (o := .tup []) (fun b ob q => Heap.get?_push_of_some _ q) (Nat.le_refl _) ?_, rfl, q _ (I.hok.fresh (Nat.le_refl _))⟩
        exact ⟨by rw [sizeLine_eq]; decide, _, .nil, IsTup.new _ _⟩
end DL
end
section
set_option Elab.async false
set_option linter.all false
set_option maxRecDepth 100000
set_option maxHeartbeats 4000000
/-! DB: operators, comparisons, subscripts, calls of built-ins over D. -/
namespace DL
open PySem PySem.Spec PyProof.Rows L2

/-! ### D as the library's data -/
mutual
def D.py : D → PyData
  | .non => .none
  | .bl b => .bool b
  | .int i => .int i
  | .str x => .str x
  | .adr _ => .none
  | .ty _ => .none
  | .tup xs => .tuple (D.pyL xs)
  | .lst xs => .list (D.pyL xs)
  | .obj _ _ => .none
def D.pyL : List D → List PyData
  | [] => []
  | d :: ds => d.py :: D.pyL ds
end
mutual
def D.pure : D → Bool
  | .adr _ => false
  | .ty _ => false
  | .obj _ _ => false
  | .tup xs => D.pureL xs
  | .lst xs => D.pureL xs
  | _ => true
def D.pureL : List D → Bool
  | [] => true
  | d :: ds => d.pure && D.pureL ds
end
def D.shp (d : D) : Bool := d.pure && SeqAt.shaped d.py
section
variable {g : Gx} {H H' : Hp} {O : Addr → Prop}
theorem TupAt.sq {a : Addr} {vs : List V} (h : TupAt g H O a vs) : SqT g.K H a vs := by
  rcases h with ⟨_, h⟩ | h
  · exact .inl h
  · exact .inr h
theorem LstAt.sq {a : Addr} {vs : List V} (h : LstAt g H O a vs) : SqL g.K H a vs := .inl (.inl h.2)
mutual
theorem Rep.dp : ∀ (d : D) (v : V), d.pure = true → Rep g H O d v → Dp g.K H v d.py
  | .non, v, _, r => by rw [show v = V.non from r]; exact .non
  | .bl b, v, _, r => by rw [show v = V.bl b from r]; exact .bl b
  | .int b, v, _, r => by rw [show v = V.int b from r]; exact .int b
  | .str b, v, _, r => by rw [show v = V.str b from r]; exact .str b
  | .adr _, v, p, r => by cases p
  | .ty _, v, p, r => by cases p
  | .obj _ _, v, p, r => by cases p
  | .tup xs, v, p, ⟨a, vs, e, t, r⟩ => by rw [e]; exact .tup t.sq (RepL.dp xs vs p r)
  | .lst xs, v, p, ⟨a, vs, e, t, r⟩ => by rw [e]; exact .lst t.sq (RepL.dp xs vs p r)
theorem RepL.dp : ∀ (ds : List D) (vs : List V), D.pureL ds = true → RepL g H O ds vs → DpAll g.K H vs (D.pyL ds)
  | [], vs, _, r => by rw [show vs = [] from r]; exact .nil
  | d :: ds, vs, p, ⟨v, vs', e, r1, r2⟩ => by
    have p2 : d.pure = true ∧ D.pureL ds = true := by
      have : (d.pure && D.pureL ds) = true := p
      simpa using this
    rw [e]
    exact .cons (Rep.dp d v p2.1 r1) (RepL.dp ds vs' p2.2 r2)
end
theorem Rep.dps {d : D} {v : V} (p : d.shp = true) (r : Rep g H O d v) : Dp g.K H v d.py ∧ SeqAt.shaped d.py = true := by
  have p2 : d.pure = true ∧ SeqAt.shaped d.py = true := by
    have : (d.pure && SeqAt.shaped d.py) = true := p
    simpa using this
  exact ⟨Rep.dp d v p2.1 r, p2.2⟩
end

/-! ### a new object -/
section
variable {g : Gx} {H : Hp} {O : Addr → Prop} {K : D → Prop} {Q : VK}
theorem Wish.old (h : Wish g H O K Q) (w : Vw g H O) {d : D} {v : V} (k : K d) (r : Rep g H O d v) : Q v H := h d k v H (ExtH.refl H) w.dko r
theorem Wish.tup (h : Wish g H O K Q) (w : Vw g H O) {ds : List D} {vs : List V} (k : K (.tup ds)) (r : RepL g H O ds vs) : ∀ p, H p = none → Q (.ref p) (upd H p (.tup vs)) := fun p n => by
  refine h _ k _ _ (ext_new n) (dk_new w.dko n) ⟨p, vs, rfl, .inl ⟨fun z => w.oin p z n, .inl upd_same⟩, ?_⟩
  exact RepL.move (fun b o _ e => by rw [upd_ne (ne_of_none e n)]; exact e) (fun _ n _ => n) ds vs r
theorem Wish.lst (h : Wish g H O K Q) (w : Vw g H O) {ds : List D} {vs : List V} (k : K (.lst ds)) (r : RepL g H O ds vs) : ∀ p, H p = none → Q (.ref p) (upd H p (.lst vs)) := fun p n => by
  refine h _ k _ _ (ext_new n) (dk_new w.dko n) ⟨p, vs, rfl, ⟨fun z => w.oin p z n, upd_same⟩, ?_⟩
  exact RepL.move (fun b o _ e => by rw [upd_ne (ne_of_none e n)]; exact e) (fun _ n _ => n) ds vs r
theorem Rep.int_ {i : Int} {v : V} (r : Rep g H O (.int i) v) : v = .int i := r
theorem Rep.bl_ {i : Bool} {v : V} (r : Rep g H O (.bl i) v) : v = .bl i := r
theorem Rep.str_ {i : Str} {v : V} (r : Rep g H O (.str i) v) : v = .str i := r
end

theorem mil : (1000000 : Nat) ≤ sizeLine := by rw [sizeLine_eq]; decide
theorem RepL.nil_ {g : Gx} {H : Hp} {O : Addr → Prop} {ds : List D} (r : RepL g H O ds []) : ds = [] := by
  have := r.length
  exact List.length_eq_zero_iff.mp this
theorem rep_flat {g : Gx} {H : Hp} {O : Addr → Prop} {ds : List D} {vs : List V} (r : RepL g H O ds vs) : ∀ n, RepL g H O (List.replicate n ds).flatten (List.replicate n vs).flatten
  | 0 => rfl
  | n + 1 => by
    rw [List.replicate_succ, List.replicate_succ, List.flatten_cons, List.flatten_cons]
    exact r.append (rep_flat r n)

/-! ### + - * // % -/
def kAdd : D → D → (D → Prop) → Prop
  | .int i, .int j, K => K (.int (i + j))
  | .tup xs, .tup ys, K => xs.length + ys.length ≤ 1000000 ∧ K (.tup (xs ++ ys))
  | .lst xs, .lst ys, K => xs.length + ys.length ≤ 1000000 ∧ K (.lst (xs ++ ys))
  | .str x, .str y, K => x.length + y.length ≤ 1000000 ∧ K (.str (x ++ y))
  | _, _, _ => False
def kSub : D → D → (D → Prop) → Prop
  | .int i, .int j, K => K (.int (i - j))
  | _, _, _ => False
def kMul : D → D → (D → Prop) → Prop
  | .int i, .int j, K => CMul i j ∧ K (.int (i * j))
  | .tup xs, .int k, K => xs.length ≤ 1000 ∧ -1000 ≤ k ∧ k ≤ 1000 ∧ K (.tup (List.replicate k.toNat xs).flatten)
  | .lst xs, .int k, K => -1000000 ≤ k ∧ k ≤ 1000000 ∧ xs.length * k.toNat ≤ 1000000 ∧ K (.lst (List.replicate k.toNat xs).flatten)
  | _, _, _ => False
def kDiv : D → D → (D → Prop) → Prop
  | .int i, .int j, K => (0 < j ∧ j < 1073741824) ∧ K (.int (i / j))
  | _, _, _ => False
def kMod : D → D → (D → Prop) → Prop
  | .int i, .int j, K => 0 < j ∧ K (.int (i % j))
  | _, _, _ => False
section
variable {X : Cx} {g : Gx}
theorem od_add (G : XG X g) : OpD X g (binaryOp .Add) kAdd := by
  refine ⟨fun x y K K' h => ?_, _, op_add.or (op_catA.or (op_cat.or op_add_str)), fun x y K H O v w Q vw rx ry k q => ?_⟩
  · unfold kAdd; split <;> first | exact h _ | exact fun ⟨a, b⟩ => ⟨a, h _ b⟩ | exact id
  · unfold kAdd at k
    have hK := G.K
    have m := mil
    split at k
    · exact .inl ⟨_, _, rx, ry, Wish.old q vw k rfl⟩
    · rename_i xs ys
      obtain ⟨p, vs, rfl, hp, rp⟩ := rx
      obtain ⟨r, us, rfl, hr, rr⟩ := ry
      have l1 := rp.length
      have l2 := rr.length
      refine .inr (.inl ⟨p, r, vs, us, rfl, rfl, by rw [hK]; exact hp.sq, by rw [hK]; exact hr.sq, by omega, fun z => ?_, fun _ z => ?_, fun _ _ => Wish.tup q vw k.2 (rp.append rr)⟩)
      · subst z
        refine Wish.old q vw k.2 ⟨r, us, rfl, hr, ?_⟩
        rw [rp.nil_]
        exact rr
      · subst z
        refine Wish.old q vw k.2 ⟨p, vs, rfl, hp, ?_⟩
        rw [rr.nil_, List.append_nil]
        exact rp
    · rename_i xs ys
      obtain ⟨p, vs, rfl, hp, rp⟩ := rx
      obtain ⟨r, us, rfl, hr, rr⟩ := ry
      have l1 := rp.length
      have l2 := rr.length
      exact .inr (.inr (.inl ⟨p, r, vs, us, rfl, rfl, hp.2, hr.2, by omega, Wish.lst q vw k.2 (rp.append rr)⟩))
    · exact .inr (.inr (.inr ⟨_, _, rx, ry, by omega, Wish.old q vw k.2 rfl⟩))
    · exact k.elim
theorem od_sub : OpD X g (binaryOp .Sub) kSub := by
  refine ⟨fun x y K K' h => ?_, _, op_sub, fun x y K H O v w Q vw rx ry k q => ?_⟩
  · unfold kSub; split <;> first | exact h _ | exact id
  · unfold kSub at k
    split at k
    · exact ⟨_, _, rx, ry, Wish.old q vw k rfl⟩
    · exact k.elim
theorem od_mul (G : XG X g) : OpD X g (binaryOp .Mult) kMul := by
  refine ⟨fun x y K K' h => ?_, _, op_mul.or (op_repA.or op_rep), fun x y K H O v w Q vw rx ry k q => ?_⟩
  · unfold kMul; split <;> first | exact fun ⟨a, b⟩ => ⟨a, h _ b⟩ | exact fun ⟨a, b, c, d⟩ => ⟨a, b, c, h _ d⟩ | exact id
  · unfold kMul at k
    have hK := G.K
    have m := mil
    split at k
    · exact .inl ⟨_, _, rx, ry, k.1, Wish.old q vw k.2 rfl⟩
    · rename_i xs i
      obtain ⟨p, vs, rfl, hp, rp⟩ := rx
      obtain ⟨k1, k2, k3, k4⟩ := k
      have l1 := rp.length
      refine .inr (.inl ⟨p, i, vs, rfl, ry, by rw [hK]; exact hp.sq, by omega, by omega, by omega, fun z => ?_, fun z => ?_, fun _ _ => Wish.tup q vw k4 (rep_flat rp _)⟩)
      · subst z
        refine Wish.old q vw k4 ⟨p, [], rfl, hp, ?_⟩
        have := rep_flat rp i.toNat
        rw [show (List.replicate i.toNat ([] : List V)).flatten = [] by simp] at this
        exact this
      · subst z
        refine Wish.old q vw k4 ⟨p, vs, rfl, hp, ?_⟩
        have e : (List.replicate (1 : Int).toNat xs).flatten = xs := by simp
        rw [e]
        exact rp
    · rename_i xs i
      obtain ⟨p, vs, rfl, hp, rp⟩ := rx
      obtain ⟨k1, k2, k3, k4⟩ := k
      have l1 := rp.length
      refine .inr (.inr ⟨p, i, vs, rfl, ry, hp.2, by omega, by omega, ?_, Wish.lst q vw k4 (rep_flat rp _)⟩)
      rw [← l1]
      omega
    · exact k.elim
theorem od_div : OpD X g (binaryOp .FloorDiv) kDiv := by
  refine ⟨fun x y K K' h => ?_, _, op_fdiv, fun x y K H O v w Q vw rx ry k q => ?_⟩
  · unfold kDiv; split <;> first | exact fun ⟨a, b⟩ => ⟨a, h _ b⟩ | exact id
  · unfold kDiv at k
    split at k
    · exact ⟨_, _, rx, ry, k.1, Wish.old q vw k.2 rfl⟩
    · exact k.elim
theorem od_mod : OpD X g (binaryOp .Mod) kMod := by
  refine ⟨fun x y K K' h => ?_, _, op_mod, fun x y K H O v w Q vw rx ry k q => ?_⟩
  · unfold kMod; split <;> first | exact fun ⟨a, b⟩ => ⟨a, h _ b⟩ | exact id
  · unfold kMod at k
    split at k
    · exact ⟨_, _, rx, ry, k.1, Wish.old q vw k.2 rfl⟩
    · exact k.elim
/-! ### in place -/
theorem id_sub : OpD X g (inplaceOp .Sub) kSub := by
  refine ⟨od_sub (X := X) (g := g) |>.mono, _, iop_sub, fun x y K H O v w Q vw rx ry k q => ?_⟩
  unfold kSub at k
  split at k
  · exact ⟨_, _, rx, ry, Wish.old q vw k rfl⟩
  · exact k.elim
def kAddI : D → D → (D → Prop) → Prop
  | .int i, .int j, K => K (.int (i + j))
  | .str x, .str y, K => x.length + y.length ≤ 1000000 ∧ K (.str (x ++ y))
  | _, _, _ => False
theorem id_add : OpD X g (inplaceOp .Add) kAddI := by
  refine ⟨fun x y K K' h => ?_, _, iop_add.or iop_add_str, fun x y K H O v w Q vw rx ry k q => ?_⟩
  · unfold kAddI; split <;> first | exact h _ | exact fun ⟨a, b⟩ => ⟨a, h _ b⟩ | exact id
  · unfold kAddI at k
    have m := mil
    split at k
    · exact .inl ⟨_, _, rx, ry, Wish.old q vw k rfl⟩
    · exact .inr ⟨_, _, rx, ry, by omega, Wish.old q vw k.2 rfl⟩
    · exact k.elim
def kMulI : D → D → (D → Prop) → Prop
  | .int i, .int j, K => CMul i j ∧ K (.int (i * j))
  | _, _, _ => False
theorem id_mul : OpD X g (inplaceOp .Mult) kMulI := by
  refine ⟨fun x y K K' h => ?_, _, iop_mul, fun x y K H O v w Q vw rx ry k q => ?_⟩
  · unfold kMulI; split <;> first | exact fun ⟨a, b⟩ => ⟨a, h _ b⟩ | exact id
  · unfold kMulI at k
    split at k
    · exact ⟨_, _, rx, ry, k.1, Wish.old q vw k.2 rfl⟩
    · exact k.elim
theorem id_div : OpD X g (inplaceOp .FloorDiv) kDiv := by
  refine ⟨od_div (X := X) (g := g) |>.mono, _, iop_fdiv, fun x y K H O v w Q vw rx ry k q => ?_⟩
  unfold kDiv at k
  split at k
  · exact ⟨_, _, rx, ry, k.1, Wish.old q vw k.2 rfl⟩
  · exact k.elim
end
end DL
end
section
set_option Elab.async false
set_option linter.all false
set_option maxRecDepth 100000
set_option maxHeartbeats 4000000
/-! DS: slices, with and without a step. -/
namespace DL
open PySem PySem.Spec PyProof.Rows L2
/-- the items that a tuple's slice with a step has -/
def cutT {α : Type} (xs : List α) (lo hi : Option Int) (st : Int) : List α :=
  let r := Builtin.Slice.sliceAdjust lo hi st (xs.length : Int)
  (List.range (Builtin.Slice.slicePlaces r.1 r.2 st)).filterMap fun (k : Nat) => xs[(r.1 + (k : Int) * st).toNat]?
theorem sliceApplied_st {prog : Program} {w : World} {A : Around} {E : Value → Shared → Prop} {s : Shared} {sl : Addr} {vl vu vs : Value} {lo hi : Option Int} {st : Int} {n : Nat} {Q : Int × Int × Nat → Shared → Prop} (hs : s.heap.IsSliceOf sl vl vu vs) (pl : IsPart vl lo) (pu : IsPart vu hi) (ps : IsPart vs (some st)) (h0 : st ≠ 0)
    (h : Q ((Builtin.Slice.sliceAdjust lo hi st (n : Int)).1, st, Builtin.Slice.slicePlaces (Builtin.Slice.sliceAdjust lo hi st (n : Int)).1 (Builtin.Slice.sliceAdjust lo hi st (n : Int)).2 st) s) : wpAny (model prog w) A (Builtin.Slice.sliceApplied (.ref sl) (pure (n : Int))) Q E s := by
  obtain ⟨os, hos, hcs, hds⟩ := id hs
  unfold Builtin.Slice.sliceApplied Builtin.Slice.sliceFields
  refine wpAny_bind (wpAny_bind (wpAny_field hos hds (x := vl) rfl (wpAny_bind (wpAny_field hos hds (x := vu) rfl (wpAny_bind (wpAny_field hos hds (x := vs) rfl (wpAny_pure ?_)))))))
  refine wpAny_bind (HT.slicePart_ ps ?_)
  show wpAny _ _ (if (st == 0) = true then _ else _) _ _ s
  rw [if_neg (by simpa using h0)]
  refine wpAny_bind (HT.slicePart_ pl (wpAny_bind (HT.slicePart_ pu (wpAny_bind (wpAny_pure ?_)))))
  exact wpAny_pure h
theorem getItem_tuple_st {prog : Program} {w : World} {A : Around} {E : Value → Shared → Prop} {s : Shared} {t sl : Addr} {items : Array Value} {vl vu vs : Value} {lo hi : Option Int} {st : Int} {Q : Value → Shared → Prop} (ht : IsTup s.heap t items) (hs : s.heap.IsSliceOf sl vl vu vs) (pl : IsPart vl lo) (pu : IsPart vu hi) (ps : IsPart vs (some st))
    (h0 : st ≠ 0) (h1 : st ≠ 1) (h : Q (.ref s.heap.objs.size) { s with heap := s.heap.push { cls := .type "tuple", data := .seq (cutT items.toList lo hi st).toArray } })
    (hsz : (cutT items.toList lo hi st).length ≤ sizeLine) : wpAny (model prog w) A (getItem (.ref t) (.ref sl)) Q E s := by
  obtain ⟨os, hos, hcs, hds⟩ := id hs
  have hTs : s.TypeIs (.ref sl) "slice" := ⟨os, hos, hcs⟩
  have hlen : items.toList.length = items.size := by simp
  unfold getItem
  try with_reducible refine wpAny_holding ?_
  first | refine wpAny_bind (wpAny_pure ?_) | skip
  refine wpAny_bind (wpAny_sequenceKey ht.typeIs (by decide) ?_)
  refine wpAny_bind (wpAny_callSpecial?_slot (name := Str.ofString "__getitem__") ht.typeIs PyProof.Rows.slot_tuple_getitem
    (wpAny_call_entry PyProof.Rows.slot_tuple_getitem ht.typeIs entry_tuple_getitem ?_ (args_tuple_getitem _ _)))
  show wpAny _ _ (Builtin.Tuple.tupleItemsOf (.ref t) >>= _) _ _ s
  refine wpAny_bind (tupleItemsOf_ ht ?_)
  refine wpAny_bind (wpAny_typeOf hTs ?_)
  rw [if_pos (by decide)]
  refine wpAny_bind (sliceApplied_st hs pl pu ps h0 ?_)
  have e1 : (st == 1) = false := by simpa using h1
  show wpAny _ _ (if ((Builtin.Slice.sliceAdjust lo hi st (items.size : Int)).1 == 0 && st == 1 && _ == items.size) = true then _ else _) _ _ s
  rw [e1, Bool.and_false, Bool.false_and, if_neg (by decide)]
  have e2 : ((List.range (Builtin.Slice.slicePlaces (Builtin.Slice.sliceAdjust lo hi st (items.size : Int)).1 (Builtin.Slice.sliceAdjust lo hi st (items.size : Int)).2 st)).filterMap fun (k : Nat) => items[((Builtin.Slice.sliceAdjust lo hi st (items.size : Int)).1 + (k : Int) * st).toNat]?) = cutT items.toList lo hi st := by
    unfold cutT
    rw [hlen]
    simp only [Array.getElem?_toList]
  rw [e2]
  have htake : sizeOk (.seq (cutT items.toList lo hi st).toArray) := by
    show (cutT items.toList lo hi st).toArray.size ≤ sizeLine
    rw [List.size_toArray]
    exact hsz
  first
    | exact wpAny_bind (m := Builtin.Tuple.tupleExact _) (wpAny_newObj_type (wpAny_pure ⟨_, rfl, wpAny_pure h⟩) htake)
    | exact wpAny_bind (m := Builtin.Tuple.tupleExact _) (wpAny_newObj_type (wpAny_bind (wpAny_pure (wpAny_pure ⟨_, rfl, wpAny_pure h⟩))) htake)
    | exact wpAny_bind (wpAny_bind (m := Builtin.Tuple.tupleExact _) (wpAny_newObj_type (wpAny_pure (wpAny_pure ⟨_, rfl, wpAny_pure h⟩)) htake))
    | exact wpAny_bind (wpAny_bind (m := Builtin.Tuple.tupleExact _) (wpAny_newObj_type (wpAny_pure ⟨_, rfl, wpAny_pure h⟩) htake))

/-! ### picked items -/
theorem vals_pick {xs : List V} {us : List Value} (r : Vals xs us) : ∀ is : List Nat, Vals (is.filterMap (xs[·]?)) (is.filterMap (us[·]?))
  | [] => .nil
  | i :: is => by
    rw [List.filterMap_cons, List.filterMap_cons]
    cases q : xs[i]? with
    | none =>
      rw [Vals.none_of r q]
      exact vals_pick r is
    | some x =>
      obtain ⟨u, e, ru⟩ := r.get q
      rw [e]
      exact .cons ru (vals_pick r is)
theorem repl_pick {g : Gx} {H : Hp} {O : Addr → Prop} {ds : List D} {vs : List V} (r : RepL g H O ds vs) : ∀ is : List Nat, RepL g H O (is.filterMap (ds[·]?)) (is.filterMap (vs[·]?))
  | [] => rfl
  | i :: is => by
    rw [List.filterMap_cons, List.filterMap_cons]
    cases q : ds[i]? with
    | none =>
      have : vs[i]? = none := by
        rw [List.getElem?_eq_none_iff] at q ⊢
        rw [← r.length]; exact q
      rw [this]
      exact repl_pick r is
    | some x =>
      obtain ⟨u, e, ru⟩ := r.getD q
      rw [e]
      exact .cons ru (repl_pick r is)
def cutIs (n : Nat) (lo hi : Option Int) (st : Int) : List Nat :=
  let r := Builtin.Slice.sliceAdjust lo hi st (n : Int)
  (List.range (Builtin.Slice.slicePlaces r.1 r.2 st)).map fun (k : Nat) => (r.1 + (k : Int) * st).toNat
theorem cutT_is {α : Type} (xs : List α) (lo hi : Option Int) (st : Int) : cutT xs lo hi st = (cutIs xs.length lo hi st).filterMap (xs[·]?) := by
  unfold cutT cutIs
  simp only [List.filterMap_map]
  rfl
/-- a list's slice with a step -/
def cutL {α : Type} (xs : List α) (lo hi : Option Int) (st : Int) : List α :=
  (sliceRange (sliceBounds lo hi (some st) xs.length).1 (sliceBounds lo hi (some st) xs.length).2.1 (sliceBounds lo hi (some st) xs.length).2.2).filterMap (xs[·]?)
theorem pick_length {α : Type} (xs : List α) (is : List Nat) : (is.filterMap (xs[·]?)).length ≤ is.length := List.length_filterMap_le _ _
theorem repl_cutT {g : Gx} {H : Hp} {O : Addr → Prop} {ds : List D} {vs : List V} (r : RepL g H O ds vs) (lo hi : Option Int) (st : Int) : RepL g H O (cutT ds lo hi st) (cutT vs lo hi st) := by
  rw [cutT_is, cutT_is, r.length]; exact repl_pick r _
theorem repl_cutL {g : Gx} {H : Hp} {O : Addr → Prop} {ds : List D} {vs : List V} (r : RepL g H O ds vs) (lo hi : Option Int) (st : Int) : RepL g H O (cutL ds lo hi st) (cutL vs lo hi st) := by
  unfold cutL; rw [r.length]; exact repl_pick r _
theorem repl_cutV {g : Gx} {H : Hp} {O : Addr → Prop} {ds : List D} {vs : List V} (r : RepL g H O ds vs) (lo hi : Option Int) : RepL g H O ((ds.drop (HT.sIx ds.length 0 lo)).take (HT.sIx ds.length ds.length hi - HT.sIx ds.length 0 lo)) (cutV vs lo hi) := by
  unfold cutV
  rw [r.length]
  exact (r.drop _).take _
section
variable {X : Cx} {g : Gx} {xp : Exc → Prop} {a e : Expr} {pos p2 : Pos} {te : TE} {tl th ts : TO} {lo hi st : Option Expr} {fe : WE}
def rSt (K : PySem.W.Frag) : V → Option Int → Option Int → Option Int → Hp → VK → Prop := fun x lo hi st H Q => ∃ a xs c, x = .ref a ∧ st = some c ∧ c ≠ 0 ∧ c ≠ 1 ∧
  ((SqT K H a xs ∧ (cutT xs lo hi c).length ≤ sizeLine ∧ ∀ p, H p = none → Q (.ref p) (upd H p (.tup (cutT xs lo hi c)))) ∨ (SqL K H a xs ∧ (cutL xs lo hi c).length ≤ sizeLine ∧ ∀ p, H p = none → Q (.ref p) (upd H p (.lst (cutL xs lo hi c)))))
theorem pe_slice3 (b : Bool) (hsub : ∀ v u, subscripted (.Slice lo hi st p2) false v u = operate (if b = true then [v, u] else [u, v]) (getItem v u)) (he : PE X e te) (hl : PO X lo tl) (hu : PO X hi th) (hs : PO X st ts) : PE X (.Subscript e (.Slice lo hi st p2) pos) (fun σ H Q => te σ H fun x H1 => tl σ H1 fun l H2 => th σ H2 fun u H3 => ts σ H3 fun c H4 => rSt X.K x l u c H4 Q) := by
  refine ⟨fun pins s σ H Q I h => ?_⟩
  refine Subscript_ (thn (he.run pins s σ H _ I h) fun v s1 ⟨x, H1, I1, r1, q1⟩ => ?_)
  refine wpAny_Slice (thn (hl.run pins s1 σ H1 _ I1 q1) fun vl s2 ⟨l, H2, I2, pl, q2⟩ => thn (hu.run pins s2 σ H2 _ I2 q2) fun vu s3 ⟨u, H3, I3, pu, q3⟩ => thn (hs.run pins s3 σ H3 _ I3 q3) fun vs s4 ⟨o, H4, I4, ps, q4⟩ => ?_)
  obtain ⟨a, xs, c, ex, ec, c0, c1, q⟩ := q4
  subst ex ec
  cases r1
  have I5 : Inv X pins σ H4 { s4 with heap := s4.heap.push { cls := .type "slice", data := .fields #[vl, vu, vs] } } := I4.kept (t' := s4.toks) fun b ob q => Heap.get?_push_of_some _ q
  show wpAny (model X.prog X.w) X.A (subscriptTail e (.Slice lo hi st p2) (.ref a) (.ref s4.heap.objs.size)) (EP X pins σ Q) X.xe { s4 with heap := s4.heap.push { cls := .type "slice", data := .fields #[vl, vu, vs] } }
  rcases q with ⟨ha, hz, q⟩ | ⟨ha, hz, q⟩
  · obtain ⟨its, r, ht, hz2⟩ := I5.tuple ha
    have hlen := r.length
    have hv : Vals (cutT xs l u c) (cutT its l u c) := by
      rw [cutT_is, cutT_is, ← hlen]; exact vals_pick r _
    refine tail_any (ops := if b = true then [.ref a, .ref s4.heap.objs.size] else [.ref s4.heap.objs.size, .ref a]) ht.typeIs (PyProof.Rows.slot_tuple_getitem.lookup) ?_ (hsub _ _)
    refine getItem_tuple_st ht (Heap.IsSliceOf.new _ vl vu vs) pl pu ps c0 c1 ?_ (by rw [List.toList_toArray, ← hv.length]; exact hz)
    rw [List.toList_toArray]
    refine ⟨.ref _, _, I5.laid (t' := s4.toks) (o := .tup (cutT xs l u c)) (fun b ob q => Heap.get?_push_of_some _ q) (Nat.le_refl _) ?_, rfl, q _ (I5.hok.fresh (Nat.le_refl _))⟩
    exact ⟨hz, _, hv, IsTup.new _ _⟩
  · obtain ⟨its, r, ht, hz2⟩ := I5.list ha
    have hlen := r.length
    have hv : Vals (cutL xs l u c) (cutL its l u c) := by
      unfold cutL
      rw [← hlen]; exact vals_pick r _
    refine tail_any (ops := if b = true then [.ref a, .ref s4.heap.objs.size] else [.ref s4.heap.objs.size, .ref a]) ht.isList.typeIs (PySem.slot_list_getitem.lookup) ?_ (hsub _ _)
    refine wpAny_getItem_list_slice ht.isList (Heap.IsSliceOf.new _ vl vu vs) pl pu ps (by intro z; exact c0 (Option.some.inj z)) ?_ (by rw [List.size_toArray]; omega)
    have e : slicePick its.toArray l u (some c) = (cutL its l u c).toArray := by
      unfold slicePick cutL
      simp
    rw [e]
    refine ⟨.ref _, _, I5.laid (t' := s4.toks) (o := .lst (cutL xs l u c)) (fun b ob q => Heap.get?_push_of_some _ q) (Nat.le_refl _) ?_, rfl, q _ (I5.hok.fresh (Nat.le_refl _))⟩
    exact ⟨hz, _, 0, hv, Heap.get?_push_size _ rfl⟩

/-! ### over D -/
abbrev WO := Env → (Option Int → Prop) → Prop
def tDO (g : Gx) (H0 : Hp) (O : Addr → Prop) (f : WO) : TO := fun σ H Q => ∃ ρ own, EnvOk g H0 O σ H ρ own ∧ f ρ fun d => ∀ H', ExtH g H H' → g.dkOk H' → Q d H'
structure PDO (X : Cx) (g : Gx) (xp : Exc → Prop) (e : Option Expr) (f : WO) : Prop where
  mono : ∀ ρ K K', (∀ d, K d → K' d) → f ρ K → f ρ K'
  po : ∀ H0 O, XLink X g H0 O xp → PO X e (tDO g H0 O f)
theorem po_imp {e : Option Expr} {t t' : TO} (h : PO X e t) (i : ∀ σ H Q, t' σ H Q → t σ H Q) : PO X e t' := ⟨fun pins s σ H Q I q => h.run pins s σ H Q I (i σ H Q q)⟩
def wON : WO := fun _ K => K none
def wOS (fe : WE) : WO := fun ρ K => fe ρ fun d => ∃ i, d = .int i ∧ K (some i)
theorem pdo_none : PDO X g xp none wON := ⟨fun _ _ _ h k => h _ k, fun H0 O _ => po_imp po_none fun σ H Q ⟨ρ, own, E, k⟩ => k H (ExtH.refl H) E.dko⟩
theorem pdo_some (he : PD X g xp e fe) : PDO X g xp (some e) (wOS fe) := by
  refine ⟨fun ρ K K' h => he.mono _ _ _ fun d ⟨i, e, q⟩ => ⟨i, e, h _ q⟩, fun H0 O L => po_imp (po_some (he.pe H0 O L)) fun σ H Q ⟨ρ, own, E, k⟩ => ⟨ρ, own, E, he.mono _ _ _ (fun d ⟨i, e, q⟩ v H1 e1 d1 r1 => ?_) k⟩⟩
  subst e
  exact ⟨i, r1, q H1 e1 d1⟩
def cutD {α : Type} (xs : List α) (lo hi : Option Int) : List α := (xs.drop (HT.sIx xs.length 0 lo)).take (HT.sIx xs.length xs.length hi - HT.sIx xs.length 0 lo)
def kSlice (lo hi : Option Int) : D → (D → Prop) → Prop
  | .tup xs, K => K (.tup (cutD xs lo hi))
  | .lst xs, K => K (.lst (cutD xs lo hi))
  | _, _ => False
def wSlice (fe : WE) (fl fh : WO) : WE := fun ρ K => fe ρ fun x => fl ρ fun lo => fh ρ fun hi => kSlice lo hi x K
theorem kSlice_mono {lo hi : Option Int} {x : D} {K K' : D → Prop} (h : ∀ d, K d → K' d) : kSlice lo hi x K → kSlice lo hi x K' := by
  unfold kSlice; split <;> first | exact h _ | exact id
theorem sl_or {r r' : V → Option Int → Option Int → Hp → VK → Prop} (h : SlR X r) (h' : SlR X r') : SlR X (fun x lo hi H Q => r x lo hi H Q ∨ r' x lo hi H Q) := h.or h'
theorem pd_slice (G : XG X g) {fl fh : WO} (he : PD X g xp e fe) (hl : PDO X g xp lo fl) (hu : PDO X g xp hi fh) : PD X g xp (.Subscript e (.Slice lo hi none p2) pos) (wSlice fe fl fh) := by
  refine ⟨fun ρ K K' h => he.mono _ _ _ fun x => hl.mono _ _ _ fun l => hu.mono _ _ _ fun u => kSlice_mono h, fun H0 O L => (pe_slice (sl_tupA.or sl_list) (he.pe H0 O L) (hl.po H0 O L) (hu.po H0 O L)).imp' fun σ H Q ⟨ρ, own, E, k⟩ => ?_⟩
  refine ⟨ρ, own, E, he.mono _ _ _ (fun x k2 v H1 e1 d1 r1 => ?_) k⟩
  refine ⟨ρ, own, E.move e1 d1, hl.mono _ _ _ (fun l k3 H2 e2 d2 => ?_) k2⟩
  refine ⟨ρ, own, (E.move e1 d1).move e2 d2, hu.mono _ _ _ (fun u k4 H3 e3 d3 => ?_) k3⟩
  have vw := (((E.move e1 d1).move e2 d2).move e3 d3).vw
  have rx := (r1.ext E.hdk e2).ext E.hdk e3
  have q := wish_up (O := hidO O own) (Q := Q) (e1.trans (e2.trans e3))
  have hK := G.K
  unfold kSlice at k4
  split at k4
  · obtain ⟨p, vs, rfl, hp, rp⟩ := rx
    refine .inl ⟨p, vs, rfl, by rw [hK]; exact hp.sq, fun hw => ?_, fun hw => ?_⟩
    · refine Wish.old q vw k4 ⟨p, vs, rfl, hp, ?_⟩
      have := repl_cutV rp l u
      unfold cutV at this
      rw [hw.1, hw.2, List.drop_zero, Nat.sub_zero, List.take_length] at this
      exact this
    · exact Wish.tup q vw k4 (repl_cutV rp l u)
  · obtain ⟨p, vs, rfl, hp, rp⟩ := rx
    exact .inr ⟨p, vs, rfl, by rw [hK]; exact hp.sq, Wish.lst q vw k4 (repl_cutV rp l u)⟩
  · exact k4.elim
def kSlice3 (lo hi st : Option Int) : D → (D → Prop) → Prop
  | .tup xs, K => ∃ c, st = some c ∧ c ≠ 0 ∧ c ≠ 1 ∧ (cutT xs lo hi c).length ≤ 1000000 ∧ K (.tup (cutT xs lo hi c))
  | .lst xs, K => ∃ c, st = some c ∧ c ≠ 0 ∧ c ≠ 1 ∧ (cutL xs lo hi c).length ≤ 1000000 ∧ K (.lst (cutL xs lo hi c))
  | _, _ => False
theorem kSlice3_mono {lo hi st : Option Int} {x : D} {K K' : D → Prop} (h : ∀ d, K d → K' d) : kSlice3 lo hi st x K → kSlice3 lo hi st x K' := by
  unfold kSlice3; split <;> first | exact fun ⟨c, a, b, e, f, q⟩ => ⟨c, a, b, e, f, h _ q⟩ | exact id
def wSlice3 (fe : WE) (fl fh fs : WO) : WE := fun ρ K => fe ρ fun x => fl ρ fun lo => fh ρ fun hi => fs ρ fun st => kSlice3 lo hi st x K
theorem pd_slice3 (G : XG X g) {fl fh fs : WO} (b : Bool) (hsub : ∀ v u, subscripted (.Slice lo hi st p2) false v u = operate (if b = true then [v, u] else [u, v]) (getItem v u)) (he : PD X g xp e fe) (hl : PDO X g xp lo fl) (hu : PDO X g xp hi fh) (hs : PDO X g xp st fs) : PD X g xp (.Subscript e (.Slice lo hi st p2) pos) (wSlice3 fe fl fh fs) := by
  refine ⟨fun ρ K K' h => he.mono _ _ _ fun x => hl.mono _ _ _ fun l => hu.mono _ _ _ fun u => hs.mono _ _ _ fun c => kSlice3_mono h, fun H0 O L => (pe_slice3 b hsub (he.pe H0 O L) (hl.po H0 O L) (hu.po H0 O L) (hs.po H0 O L)).imp' fun σ H Q ⟨ρ, own, E, k⟩ => ?_⟩
  refine ⟨ρ, own, E, he.mono _ _ _ (fun x k2 v H1 e1 d1 r1 => ?_) k⟩
  refine ⟨ρ, own, E.move e1 d1, hl.mono _ _ _ (fun l k3 H2 e2 d2 => ?_) k2⟩
  refine ⟨ρ, own, (E.move e1 d1).move e2 d2, hu.mono _ _ _ (fun u k4 H3 e3 d3 => ?_) k3⟩
  refine ⟨ρ, own, ((E.move e1 d1).move e2 d2).move e3 d3, hs.mono _ _ _ (fun c k5 H4 e4 d4 => ?_) k4⟩
  have vw := ((((E.move e1 d1).move e2 d2).move e3 d3).move e4 d4).vw
  have rx := ((r1.ext E.hdk e2).ext E.hdk e3).ext E.hdk e4
  have q := wish_up (O := hidO O own) (Q := Q) (e1.trans (e2.trans (e3.trans e4)))
  have hK := G.K
  have m := mil
  unfold kSlice3 at k5
  split at k5
  · obtain ⟨p, vs, rfl, hp, rp⟩ := rx
    obtain ⟨c, rfl, c0, c1, hz, k⟩ := k5
    refine ⟨p, vs, c, rfl, rfl, c0, c1, .inl ⟨by rw [hK]; exact hp.sq, ?_, Wish.tup q vw k (repl_cutT rp l u c)⟩⟩
    rw [← (repl_cutT rp l u c).length]
    omega
  · obtain ⟨p, vs, rfl, hp, rp⟩ := rx
    obtain ⟨c, rfl, c0, c1, hz, k⟩ := k5
    refine ⟨p, vs, c, rfl, rfl, c0, c1, .inr ⟨by rw [hK]; exact hp.sq, ?_, Wish.lst q vw k (repl_cutL rp l u c)⟩⟩
    rw [← (repl_cutL rp l u c).length]
    omega
  · exact k5.elim
end
end DL
end
section
set_option Elab.async false
set_option linter.all false
set_option maxRecDepth 100000
set_option maxHeartbeats 4000000
/-! DC: comparisons, tests, subscripts, built-ins over D. -/
namespace DL
open PySem PySem.Spec PyProof.Rows L2

/-! ### equality -/
mutual
def D.eqb : D → D → Bool
  | .non, .non => true
  | .bl a, .bl b => a == b
  | .bl a, .int j => (if a then 1 else 0) == j
  | .int i, .bl b => i == (if b then 1 else 0)
  | .int i, .int j => i == j
  | .str x, .str y => x == y
  | .lst xs, .lst ys => D.eqbL xs ys
  | .tup xs, .tup ys => D.eqbL xs ys
  | _, _ => false
def D.eqbL : List D → List D → Bool
  | [], [] => true
  | x :: xs, y :: ys => D.eqb x y && D.eqbL xs ys
  | _, _ => false
end
mutual
theorem eqv_eqb : ∀ (x y : D), x.pure = true → y.pure = true → PyData.eqv x.py y.py = D.eqb x y
  | .adr _, _, h, _ => by cases h
  | .ty _, _, h, _ => by cases h
  | .obj _ _, _, h, _ => by cases h
  | .non, y, _, h => by cases y <;> first | rfl | cases h
  | .bl _, y, _, h => by cases y <;> first | rfl | cases h
  | .int _, y, _, h => by cases y <;> first | rfl | cases h
  | .str _, y, _, h => by cases y <;> first | rfl | cases h
  | .lst xs, y, hx, hy => by
    cases y with
    | lst ys =>
      show PyData.eqvAll (D.pyL xs) (D.pyL ys) = D.eqbL xs ys
      exact eqvL_eqbL xs ys hx hy
    | adr _ => cases hy
    | ty _ => cases hy
    | obj _ _ => cases hy
    | _ => rfl
  | .tup xs, y, hx, hy => by
    cases y with
    | tup ys =>
      show PyData.eqvAll (D.pyL xs) (D.pyL ys) = D.eqbL xs ys
      exact eqvL_eqbL xs ys hx hy
    | adr _ => cases hy
    | ty _ => cases hy
    | obj _ _ => cases hy
    | _ => rfl
theorem eqvL_eqbL : ∀ (xs ys : List D), D.pureL xs = true → D.pureL ys = true → PyData.eqvAll (D.pyL xs) (D.pyL ys) = D.eqbL xs ys
  | [], [], _, _ => rfl
  | [], _ :: _, _, _ => rfl
  | _ :: _, [], _, _ => rfl
  | x :: xs, y :: ys, hx, hy => by
    have h1 : x.pure = true ∧ D.pureL xs = true := by
      have : (x.pure && D.pureL xs) = true := hx
      simpa using this
    have h2 : y.pure = true ∧ D.pureL ys = true := by
      have : (y.pure && D.pureL ys) = true := hy
      simpa using this
    show (PyData.eqv x.py y.py && PyData.eqvAll (D.pyL xs) (D.pyL ys)) = (D.eqb x y && D.eqbL xs ys)
    rw [eqv_eqb x y h1.1 h2.1, eqvL_eqbL xs ys h1.2 h2.2]
end
theorem shp_pure {d : D} (h : d.shp = true) : d.pure = true := by
  have : (d.pure && SeqAt.shaped d.py) = true := h
  simp only [Bool.and_eq_true] at this
  exact this.1

def kEq : D → D → (D → Prop) → Prop
  | .int i, .int j, K => K (.bl (i == j))
  | x, y, K => x.shp = true ∧ y.shp = true ∧ K (.bl (D.eqb x y))
def kNe : D → D → (D → Prop) → Prop
  | .int i, .int j, K => K (.bl (i != j))
  | x, y, K => x.shp = true ∧ y.shp = true ∧ K (.bl (!D.eqb x y))
def kCmp (p : Int → Int → Bool) : D → D → (D → Prop) → Prop
  | .int i, .int j, K => K (.bl (p i j))
  | _, _, _ => False
abbrev kLt := kCmp fun i j => decide (i < j)
abbrev kLe := kCmp fun i j => decide (i ≤ j)
abbrev kGt := kCmp fun i j => decide (j < i)
abbrev kGe := kCmp fun i j => decide (j ≤ i)
def D.isNon : D → Bool
  | .non => true
  | _ => false
def kIsN : D → D → (D → Prop) → Prop := fun x y K => y = .non ∧ K (.bl x.isNon)
def kIsNotN : D → D → (D → Prop) → Prop := fun x y K => y = .non ∧ K (.bl (!x.isNon))
def D.flat : D → Bool
  | .non => true
  | .bl _ => true
  | .int _ => true
  | .str _ => true
  | _ => false
def kIn : D → D → (D → Prop) → Prop
  | x, .lst ys, K => x.shp = true ∧ (D.lst ys).shp = true ∧ K (.bl (ys.any fun z => D.eqb z x))
  | x, .tup ys, K => x.flat = true ∧ ys.all D.flat = true ∧ K (.bl (ys.any fun z => D.eqb z x))
  | _, _, _ => False
def kNotIn : D → D → (D → Prop) → Prop
  | x, .lst ys, K => x.shp = true ∧ (D.lst ys).shp = true ∧ K (.bl (!ys.any fun z => D.eqb z x))
  | x, .tup ys, K => x.flat = true ∧ ys.all D.flat = true ∧ K (.bl (!ys.any fun z => D.eqb z x))
  | _, _, _ => False
section
variable {X : Cx} {g : Gx}
theorem op_eq_int {i j : Int} : (i == j) = decide (V.int i = V.int j) := by
  rw [dec_int]
theorem od_eq (G : XG X g) (hu : X.A.units + 100 < cLine) : OpD X g (compareOp .Eq) kEq := by
  refine ⟨fun x y K K' h => ?_, _, op_eq.or (op_eqD (by omega)), fun x y K H O v w Q vw rx ry k q => ?_⟩
  · unfold kEq; split <;> first | exact h _ | exact fun ⟨a, b, c⟩ => ⟨a, b, h _ c⟩
  · unfold kEq at k
    have hK := G.K
    split at k
    · rename_i i j
      rw [show v = V.int i from rx, show w = V.int j from ry]
      refine .inl ⟨rfl, ?_⟩
      rw [op_eq_int] at k
      exact Wish.old q vw k rfl
    · obtain ⟨s1, s2, k⟩ := k
      obtain ⟨p1, z1⟩ := rx.dps s1
      obtain ⟨p2, z2⟩ := ry.dps s2
      rw [← eqv_eqb _ _ (shp_pure s1) (shp_pure s2)] at k
      exact .inr ⟨_, _, by rw [hK]; exact p1, by rw [hK]; exact p2, z1, z2, Wish.old q vw k rfl⟩
theorem od_ne (G : XG X g) (hu : X.A.units + 100 < cLine) : OpD X g (compareOp .NotEq) kNe := by
  refine ⟨fun x y K K' h => ?_, _, op_ne.or (op_neD (by omega)), fun x y K H O v w Q vw rx ry k q => ?_⟩
  · unfold kNe; split <;> first | exact h _ | exact fun ⟨a, b, c⟩ => ⟨a, b, h _ c⟩
  · unfold kNe at k
    have hK := G.K
    split at k
    · rename_i i j
      rw [show v = V.int i from rx, show w = V.int j from ry]
      refine .inl ⟨rfl, ?_⟩
      rw [show (i != j) = !(i == j) from rfl, op_eq_int] at k
      exact Wish.old q vw k rfl
    · obtain ⟨s1, s2, k⟩ := k
      obtain ⟨p1, z1⟩ := rx.dps s1
      obtain ⟨p2, z2⟩ := ry.dps s2
      rw [← eqv_eqb _ _ (shp_pure s1) (shp_pure s2)] at k
      exact .inr ⟨_, _, by rw [hK]; exact p1, by rw [hK]; exact p2, z1, z2, Wish.old q vw k rfl⟩
theorem od_cmp {f : Value → Value → Sem Value} {p : Int → Int → Bool} (ho : OpR X f (rI0 fun i j => .bl (p i j))) : OpD X g f (kCmp p) := by
  refine ⟨fun x y K K' h => ?_, _, ho, fun x y K H O v w Q vw rx ry k q => ?_⟩
  · unfold kCmp; split <;> first | exact h _ | exact id
  · unfold kCmp at k
    split at k
    · exact ⟨_, _, rx, ry, Wish.old q vw k rfl⟩
    · exact k.elim
theorem od_lt : OpD X g (compareOp .Lt) kLt := od_cmp op_lt
theorem od_le : OpD X g (compareOp .LtE) kLe := od_cmp op_le
theorem od_gt : OpD X g (compareOp .Gt) kGt := od_cmp op_gt
theorem od_ge : OpD X g (compareOp .GtE) kGe := od_cmp op_ge
theorem rep_isNon {H : Hp} {O : Addr → Prop} {d : D} {v : V} (r : Rep g H O d v) : decide (v = .non) = d.isNon := by
  cases d with
  | non => rw [show v = V.non from r]; rfl
  | bl _ => rw [show v = V.bl _ from r]; rfl
  | int _ => rw [show v = V.int _ from r]; rfl
  | str _ => rw [show v = V.str _ from r]; rfl
  | adr _ => rw [show v = V.ref _ from r]; rfl
  | ty _ => rw [show v = V.ty _ from r]; rfl
  | tup xs => obtain ⟨a, vs, e, _⟩ := r; rw [e]; rfl
  | lst xs => obtain ⟨a, vs, e, _⟩ := r; rw [e]; rfl
  | obj c fs => obtain ⟨a, dx, vs, e, _⟩ := r; rw [e]; rfl
theorem od_isN : OpD X g (compareOp .Is) kIsN := by
  refine ⟨fun x y K K' h ⟨a, b⟩ => ⟨a, h _ b⟩, _, op_isN, fun x y K H O v w Q vw rx ry ⟨e, k⟩ q => ?_⟩
  subst e
  refine ⟨ry, ?_⟩
  rw [rep_isNon rx]
  exact Wish.old q vw k rfl
theorem od_isNotN : OpD X g (compareOp .IsNot) kIsNotN := by
  refine ⟨fun x y K K' h ⟨a, b⟩ => ⟨a, h _ b⟩, _, op_notN, fun x y K H O v w Q vw rx ry ⟨e, k⟩ q => ?_⟩
  subst e
  refine ⟨ry, ?_⟩
  rw [rep_isNon rx]
  exact Wish.old q vw k rfl
/-! ### in -/
theorem rep_flat_v {H : Hp} {O : Addr → Prop} {d : D} {v : V} (r : Rep g H O d v) (f : d.flat = true) : flatV v = true := by
  cases d with
  | non => rw [show v = V.non from r]; rfl
  | bl _ => rw [show v = V.bl _ from r]; rfl
  | int _ => rw [show v = V.int _ from r]; rfl
  | str _ => rw [show v = V.str _ from r]; rfl
  | _ => cases f
theorem rep_eqV {H : Hp} {O : Addr → Prop} {d e : D} {v w : V} (r : Rep g H O d v) (q : Rep g H O e w) (f : d.flat = true) (f' : e.flat = true) : eqV v w = D.eqb d e := by
  cases d <;> cases e <;> first | (cases f; done) | (cases f'; done) | (rw [show v = _ from r, show w = _ from q]; rfl)
theorem repl_flat {H : Hp} {O : Addr → Prop} : ∀ {ds : List D} {vs : List V}, RepL g H O ds vs → ds.all D.flat = true → vs.all flatV = true
  | [], vs, r, _ => by rw [show vs = [] from r]; rfl
  | d :: ds, vs, ⟨v, vs', e, r1, r2⟩, h => by
    simp only [List.all_cons, Bool.and_eq_true] at h
    rw [e, List.all_cons, rep_flat_v r1 h.1, repl_flat r2 h.2]; rfl
theorem repl_inV {H : Hp} {O : Addr → Prop} {x : D} {v : V} (rx : Rep g H O x v) (fx : x.flat = true) : ∀ {ds : List D} {vs : List V}, RepL g H O ds vs → ds.all D.flat = true → inV v vs = ds.any fun z => D.eqb z x
  | [], vs, r, _ => by rw [show vs = [] from r]; rfl
  | d :: ds, vs, ⟨w, vs', e, r1, r2⟩, h => by
    simp only [List.all_cons, Bool.and_eq_true] at h
    have ih := repl_inV rx fx r2 h.2
    unfold inV at ih ⊢
    rw [e, List.any_cons, List.any_cons, rep_eqV r1 rx h.1 fx, ih]
theorem any_eqv {x : D} (hx : x.pure = true) : ∀ (ys : List D), D.pureL ys = true → ((D.pyL ys).any fun z => PyData.eqv z x.py) = ys.any fun z => D.eqb z x
  | [], _ => rfl
  | y :: ys, h => by
    have h2 : y.pure = true ∧ D.pureL ys = true := by
      have : (y.pure && D.pureL ys) = true := h
      simpa using this
    show (PyData.eqv y.py x.py || (D.pyL ys).any fun z => PyData.eqv z x.py) = (D.eqb y x || ys.any fun z => D.eqb z x)
    rw [eqv_eqb y x h2.1 hx, any_eqv hx ys h2.2]
theorem od_in (G : XG X g) (hu : X.A.units + 100 < cLine) : OpD X g (compareOp .In) kIn := by
  refine ⟨fun x y K K' h => ?_, _, (op_inD (by omega)).or op_in_seq, fun x y K H O v w Q vw rx ry k q => ?_⟩
  · unfold kIn; split <;> first | exact fun ⟨a, b, c⟩ => ⟨a, b, h _ c⟩ | exact id
  · unfold kIn at k
    have hK := G.K
    split at k
    · obtain ⟨s1, s2, k⟩ := k
      obtain ⟨p1, z1⟩ := rx.dps s1
      obtain ⟨p2, z2⟩ := ry.dps s2
      rw [← any_eqv (shp_pure s1) _ (shp_pure s2)] at k
      exact .inl ⟨_, _, by rw [hK]; exact p1, by rw [hK]; exact p2, z1, z2, Wish.old q vw k rfl⟩
    · rename_i ys
      obtain ⟨s1, s2, k⟩ := k
      obtain ⟨p, vs, rfl, hp, rp⟩ := ry
      rw [← repl_inV rx s1 rp s2] at k
      exact .inr ⟨p, vs, rfl, .inr (by rw [hK]; exact hp.sq), rep_flat_v rx s1, repl_flat rp s2, Wish.old q vw k rfl⟩
    · exact k.elim
theorem od_notIn (G : XG X g) (hu : X.A.units + 100 < cLine) : OpD X g (compareOp .NotIn) kNotIn := by
  refine ⟨fun x y K K' h => ?_, _, (op_notInD (by omega)).or op_notIn_seq, fun x y K H O v w Q vw rx ry k q => ?_⟩
  · unfold kNotIn; split <;> first | exact fun ⟨a, b, c⟩ => ⟨a, b, h _ c⟩ | exact id
  · unfold kNotIn at k
    have hK := G.K
    split at k
    · obtain ⟨s1, s2, k⟩ := k
      obtain ⟨p1, z1⟩ := rx.dps s1
      obtain ⟨p2, z2⟩ := ry.dps s2
      rw [← any_eqv (shp_pure s1) _ (shp_pure s2)] at k
      exact .inl ⟨_, _, by rw [hK]; exact p1, by rw [hK]; exact p2, z1, z2, Wish.old q vw k rfl⟩
    · rename_i ys
      obtain ⟨s1, s2, k⟩ := k
      obtain ⟨p, vs, rfl, hp, rp⟩ := ry
      rw [← repl_inV rx s1 rp s2] at k
      exact .inr ⟨p, vs, rfl, .inr (by rw [hK]; exact hp.sq), rep_flat_v rx s1, repl_flat rp s2, Wish.old q vw k rfl⟩
    · exact k.elim
end
end DL
end
section
set_option Elab.async false
set_option linter.all false
set_option maxRecDepth 100000
set_option maxHeartbeats 4000000
/-! DD: unary operators, tests, and | or | not, displays, subscripts, calls of built-ins. -/
namespace DL
open PySem PySem.Spec PyProof.Rows L2
section
variable {X : Cx} {g : Gx} {xp : Exc → Prop} {a b c e : Expr} {es rest : List Expr} {pos p : Pos} {fa fb fe : WE} {fs : WA} {ft fu : WT}

/-! ### - -/
def kNeg : D → (D → Prop) → Prop
  | .int i, K => K (.int (-i))
  | _, _ => False
theorem pd_neg (ha : PD X g xp a fa) : PD X g xp (.UnaryOp .USub a pos) (wUn kNeg fa) := by
  refine pd_un ha (fun ta pa => pe_un un_neg pa) (fun x K K' h => ?_) fun x K H O v Q vw rx k q => ?_
  · unfold kNeg; split <;> first | exact h _ | exact id
  · unfold kNeg at k
    split at k
    · exact ⟨_, rx, Wish.old q vw k rfl⟩
    · exact k.elim

/-! ### truth -/
def kTru : D → (Bool → Prop) → Prop
  | .non, K => K false
  | .bl b, K => K b
  | .int i, K => K (i != 0)
  | .tup xs, K => K (!xs.isEmpty)
  | .lst xs, K => K (!xs.isEmpty)
  | _, _ => False
theorem kTru_mono {x : D} {K K' : Bool → Prop} (h : ∀ d, K d → K' d) : kTru x K → kTru x K' := by
  unfold kTru; split <;> first | exact h _ | exact id
theorem empty_repl {H : Hp} {O : Addr → Prop} {ds : List D} {vs : List V} (r : RepL g H O ds vs) : ds.isEmpty = vs.isEmpty := by
  have := r.length
  cases ds <;> cases vs <;> first | rfl | (simp at this)
theorem tru_of (G : XG X g) {x : D} {v : V} {H : Hp} {O : Addr → Prop} {K : Bool → Prop} (r : Rep g H O x v) (k : kTru x K) : ∃ b, TruV X.K v H b ∧ K b := by
  have hK := G.K
  unfold kTru at k
  split at k
  · rw [show v = V.non from r]; exact ⟨_, rfl, k⟩
  · rw [show v = V.bl _ from r]; exact ⟨_, rfl, k⟩
  · rw [show v = V.int _ from r]; exact ⟨_, rfl, k⟩
  · obtain ⟨p, vs, rfl, hp, rp⟩ := r
    exact ⟨_, .inr (.inl ⟨vs, by rw [hK]; exact hp.sq, rfl⟩), by rw [← empty_repl rp]; exact k⟩
  · obtain ⟨p, vs, rfl, hp, rp⟩ := r
    exact ⟨_, .inl ⟨vs, by rw [hK]; exact hp.sq, rfl⟩, by rw [← empty_repl rp]; exact k⟩
  · exact k.elim
def wTru (fa : WE) : WT := fun ρ K => fa ρ fun x => kTru x K
theorem pdt_tru (G : XG X g) (ha : PD X g xp a fa) (he : ∀ whole, isTrue a X.env whole = (do let v ← whole; standAt a.pos; holding [v] (truthy v)) := by intro _; rfl) : PDT X g xp a (wTru fa) := by
  refine ⟨fun ρ K K' h => ha.mono _ _ _ fun x => kTru_mono h, fun H0 O L => (pt_truth (ha.pe H0 O L) he).imp' fun σ H Q ⟨ρ, own, E, k⟩ => ⟨ρ, own, E, ha.mono _ _ _ (fun x k2 v H1 e1 d1 r1 => ?_) k⟩⟩
  obtain ⟨b, t, q⟩ := tru_of G r1 k2
  exact ⟨b, t, q H1 e1 d1⟩
/-! ### and, or, not as tests -/
def wAnd (ft fu : WT) : WT := fun ρ K => ft ρ fun b => if b = true then fu ρ K else K false
def wOr (ft fu : WT) : WT := fun ρ K => ft ρ fun b => if b = true then K true else fu ρ K
def wNot (ft : WT) : WT := fun ρ K => ft ρ fun b => K (!b)
structure PDW (X : Cx) (g : Gx) (xp : Exc → Prop) (e : Expr) (f : WT) : Prop where
  mono : ∀ ρ K K', (∀ d, K d → K' d) → f ρ K → f ρ K'
  pw : ∀ H0 O, XLink X g H0 O xp → PW X e (tDT g H0 O f)
theorem pw_imp {e : Expr} {t t' : TT} (h : PW X e t) (i : ∀ σ H Q, t' σ H Q → t σ H Q) : PW X e t' := ⟨fun wh pins s σ H Q I q => h.run wh pins s σ H Q I (i σ H Q q)⟩
theorem pdw_and1 (ha : PDT X g xp a ft) : PDW X g xp (.BoolOp .And [a] pos) ft := ⟨ha.mono, fun H0 O L => pw_and1 (ha.pt H0 O L)⟩
theorem pdw_or1 (ha : PDT X g xp a ft) : PDW X g xp (.BoolOp .Or [a] pos) ft := ⟨ha.mono, fun H0 O L => pw_or1 (ha.pt H0 O L)⟩
theorem ite_mono {b : Bool} {A A' B B' : Prop} (h1 : A → A') (h2 : B → B') : (if b = true then A else B) → if b = true then A' else B' := by
  cases b
  · exact h2
  · exact h1
theorem pdw_and (ha : PDT X g xp a ft) (hb : PDW X g xp (.BoolOp .And (b :: rest) pos) fu) : PDW X g xp (.BoolOp .And (a :: b :: rest) pos) (wAnd ft fu) := by
  refine ⟨fun ρ K K' h => ha.mono _ _ _ fun x => ite_mono (hb.mono _ _ _ h) (h _), fun H0 O L => pw_imp (pw_and (ha.pt H0 O L) (hb.pw H0 O L)) fun σ H Q ⟨ρ, own, E, k⟩ => ⟨ρ, own, E, ha.mono _ _ _ (fun x k2 H1 e1 d1 => ?_) k⟩⟩
  cases x with
  | false => exact k2 H1 e1 d1
  | true => exact ⟨ρ, own, E.move e1 d1, hb.mono _ _ _ (fun y q H2 e2 d2 => q H2 (e1.trans e2) d2) k2⟩
theorem pdw_or (ha : PDT X g xp a ft) (hb : PDW X g xp (.BoolOp .Or (b :: rest) pos) fu) : PDW X g xp (.BoolOp .Or (a :: b :: rest) pos) (wOr ft fu) := by
  refine ⟨fun ρ K K' h => ha.mono _ _ _ fun x => ite_mono (h _) (hb.mono _ _ _ h), fun H0 O L => pw_imp (pw_or (ha.pt H0 O L) (hb.pw H0 O L)) fun σ H Q ⟨ρ, own, E, k⟩ => ⟨ρ, own, E, ha.mono _ _ _ (fun x k2 H1 e1 d1 => ?_) k⟩⟩
  cases x with
  | true => exact k2 H1 e1 d1
  | false => exact ⟨ρ, own, E.move e1 d1, hb.mono _ _ _ (fun y q H2 e2 d2 => q H2 (e1.trans e2) d2) k2⟩
theorem pdt_w (h : PDW X g xp e ft) : PDT X g xp e ft := ⟨h.mono, fun H0 O L => (h.pw H0 O L).pt⟩
theorem pdt_not (ha : PDT X g xp a ft) : PDT X g xp (.UnaryOp .Not a pos) (wNot ft) :=
  ⟨fun ρ K K' h => ha.mono _ _ _ fun x => h _, fun H0 O L => (pt_not (ha.pt H0 O L)).imp' fun σ H Q ⟨ρ, own, E, k⟩ => ⟨ρ, own, E, k⟩⟩
/-! ### and, or, not as values -/
/-- a and b: the first one if it isn't true -/
def wAndV (fa fb : WE) : WE := fun ρ K => fa ρ fun x => kTru x fun b => if b = true then fb ρ K else K x
def wOrV (fa fb : WE) : WE := fun ρ K => fa ρ fun x => kTru x fun b => if b = true then K x else fb ρ K
def wNotV (fa : WE) : WE := fun ρ K => fa ρ fun x => kTru x fun b => K (.bl (!b))
theorem pd_one {op} (ha : PD X g xp a fa) : PD X g xp (.BoolOp op [a] pos) fa := ⟨ha.mono, fun H0 O L => pe_one (ha.pe H0 O L)⟩
theorem pd_and (G : XG X g) (ha : PD X g xp a fa) (hb : PD X g xp (.BoolOp .And (b :: rest) pos) fb) : PD X g xp (.BoolOp .And (a :: b :: rest) pos) (wAndV fa fb) := by
  refine ⟨fun ρ K K' h => ha.mono _ _ _ fun x => kTru_mono fun b => ite_mono (hb.mono _ _ _ h) (h _), fun H0 O L => (pe_andT (ha.pe H0 O L) (hb.pe H0 O L)).imp' fun σ H Q ⟨ρ, own, E, k⟩ => ⟨ρ, own, E, ha.mono _ _ _ (fun x k2 v H1 e1 d1 r1 => ?_) k⟩⟩
  obtain ⟨b, t, q⟩ := tru_of G r1 k2
  refine ⟨b, t, ?_⟩
  cases b with
  | false => exact q v H1 e1 d1 r1
  | true => exact ⟨ρ, own, E.move e1 d1, hb.mono _ _ _ (fun y q u H2 e2 d2 r2 => q u H2 (e1.trans e2) d2 r2) q⟩
theorem pd_or (G : XG X g) (ha : PD X g xp a fa) (hb : PD X g xp (.BoolOp .Or (b :: rest) pos) fb) : PD X g xp (.BoolOp .Or (a :: b :: rest) pos) (wOrV fa fb) := by
  refine ⟨fun ρ K K' h => ha.mono _ _ _ fun x => kTru_mono fun b => ite_mono (h _) (hb.mono _ _ _ h), fun H0 O L => (pe_orT (ha.pe H0 O L) (hb.pe H0 O L)).imp' fun σ H Q ⟨ρ, own, E, k⟩ => ⟨ρ, own, E, ha.mono _ _ _ (fun x k2 v H1 e1 d1 r1 => ?_) k⟩⟩
  obtain ⟨b, t, q⟩ := tru_of G r1 k2
  refine ⟨b, t, ?_⟩
  cases b with
  | true => exact q v H1 e1 d1 r1
  | false => exact ⟨ρ, own, E.move e1 d1, hb.mono _ _ _ (fun y q u H2 e2 d2 r2 => q u H2 (e1.trans e2) d2 r2) q⟩
theorem pd_not (G : XG X g) (ha : PD X g xp a fa) : PD X g xp (.UnaryOp .Not a pos) (wNotV fa) := by
  refine ⟨fun ρ K K' h => ha.mono _ _ _ fun x => kTru_mono fun b => h _, fun H0 O L => (pe_notT (ha.pe H0 O L)).imp' fun σ H Q ⟨ρ, own, E, k⟩ => ⟨ρ, own, E, ha.mono _ _ _ (fun x k2 v H1 e1 d1 r1 => ?_) k⟩⟩
  obtain ⟨b, t, q⟩ := tru_of G r1 k2
  exact ⟨b, t, q _ H1 e1 d1 rfl⟩
/-- a if t else b -/
def wIf (ft : WT) (fa fb : WE) : WE := fun ρ K => ft ρ fun c => if c = true then fa ρ K else fb ρ K
theorem pd_if (hc : PDT X g xp c ft) (ha : PD X g xp a fa) (hb : PD X g xp b fb) : PD X g xp (.IfExp c a b pos) (wIf ft fa fb) := by
  refine ⟨fun ρ K K' h => hc.mono _ _ _ fun x => ite_mono (ha.mono _ _ _ h) (hb.mono _ _ _ h), fun H0 O L => (pe_ifExp (hc.pt H0 O L) (ha.pe H0 O L) (hb.pe H0 O L)).imp' fun σ H Q ⟨ρ, own, E, k⟩ => ⟨ρ, own, E, hc.mono _ _ _ (fun x k2 H1 e1 d1 => ?_) k⟩⟩
  cases x with
  | true => exact ⟨ρ, own, E.move e1 d1, ha.mono _ _ _ (fun y q u H2 e2 d2 r2 => q u H2 (e1.trans e2) d2 r2) k2⟩
  | false => exact ⟨ρ, own, E.move e1 d1, hb.mono _ _ _ (fun y q u H2 e2 d2 r2 => q u H2 (e1.trans e2) d2 r2) k2⟩
/-! ### a < b < c -/
def wChain (k1 k2 : D → D → (D → Prop) → Prop) (fa fb fc : WE) : WE := fun ρ K => fa ρ fun x => fb ρ fun y => k1 x y fun z => ∃ c, z = .bl c ∧ if c = true then fc ρ fun w => k2 y w K else K (.bl false)
theorem pdt_chain {op op' : CmpOp} {k1 k2 : D → D → (D → Prop) → Prop} {fc : WE} (o : OpD X g (compareOp op) k1) (o' : OpD X g (compareOp op') k2) (ha : PD X g xp a fa) (hb : PD X g xp b fb) (hc : PD X g xp c fc)
    (hm : lastMarks [op, op'] [b, c] = false := by with_unfolding_all rfl) : PDT X g xp (.Compare a [op, op'] [b, c] pos) (wB (wChain k1 k2 fa fb fc)) := by
  obtain ⟨r, ho, hr⟩ := o.ex
  obtain ⟨r', ho', hr'⟩ := o'.ex
  refine ⟨fun ρ K K' h => ha.mono _ _ _ fun x => hb.mono _ _ _ fun y => o.mono _ _ _ _ fun z ⟨c, e, q⟩ => ⟨c, e, ite_mono (hc.mono _ _ _ fun w => o'.mono _ _ _ _ fun d ⟨b, e, q⟩ => ⟨b, e, h b q⟩) (fun ⟨b, e, q⟩ => ⟨b, e, h b q⟩) q⟩,
    fun H0 O L => (pt_chain ho ho' (ha.pe H0 O L) (hb.pe H0 O L) (hc.pe H0 O L) hm).imp' fun σ H Q ⟨ρ, own, E, k⟩ => ⟨ρ, own, E, ha.mono _ _ _ (fun x k2 v H1 e1 d1 r1 => ?_) k⟩⟩
  refine ⟨ρ, own, E.move e1 d1, hb.mono _ _ _ (fun y k3 w H2 e2 d2 r2 => ?_) k2⟩
  have E2 := (E.move e1 d1).move e2 d2
  refine hr x y _ H2 _ v w _ E2.vw (r1.ext E.hdk e2) r2 k3 fun z ⟨cc, ez, q⟩ u H3 e3 d3 r3 => ?_
  subst ez
  refine ⟨cc, r3, ?_⟩
  cases cc with
  | false =>
    obtain ⟨b, e, q⟩ := q
    rw [if_neg (by decide)]
    exact ⟨b, by rw [show V.bl false = V.bl b from by injection e with e; rw [e]], q H3 (e1.trans (e2.trans e3)) d3⟩
  | true =>
    rw [if_pos rfl] at q ⊢
    refine ⟨ρ, own, E2.move e3 d3, hc.mono _ _ _ (fun w' k4 u' H4 e4 d4 r4 => ?_) q⟩
    refine hr' y w' _ H4 _ w u' _ ((E2.move e3 d3).move e4 d4).vw ((r2.ext E.hdk e3).ext E.hdk e4) r4 k4 fun d ⟨b, e, q⟩ u2 H5 e5 d5 r5 => ?_
    subst e
    exact ⟨b, r5, q H5 (e1.trans (e2.trans (e3.trans (e4.trans e5)))) d5⟩
/-! ### displays -/
def wTup (fs : WA) : WE := fun ρ K => fs ρ fun ds => ds.length ≤ 1000000 ∧ K (.tup ds)
def wLst (fs : WA) : WE := fun ρ K => fs ρ fun ds => ds.length ≤ 1000000 ∧ K (.lst ds)
theorem pd_tup {x1} (h : PDA X g xp es fs) : PD X g xp (.Tuple es x1 pos) (wTup fs) := by
  refine ⟨fun ρ K K' i => h.mono _ _ _ fun ds ⟨z, q⟩ => ⟨z, i _ q⟩, fun H0 O L => (pe_tup (h.pa H0 O L)).imp' fun σ H Q ⟨ρ, own, E, k⟩ => ⟨ρ, own, E, h.mono _ _ _ (fun ds ⟨z, q⟩ vs H1 e1 d1 r1 => ?_) k⟩⟩
  have m := mil
  exact ⟨by rw [← r1.length]; omega, Wish.tup (wish_up e1) (E.move e1 d1).vw q r1⟩
theorem pd_lst (h : PDA X g xp es fs) : PD X g xp (.List es pos) (wLst fs) := by
  refine ⟨fun ρ K K' i => h.mono _ _ _ fun ds ⟨z, q⟩ => ⟨z, i _ q⟩, fun H0 O L => (pe_lst (h.pa H0 O L)).imp' fun σ H Q ⟨ρ, own, E, k⟩ => ⟨ρ, own, E, h.mono _ _ _ (fun ds ⟨z, q⟩ vs H1 e1 d1 r1 => ?_) k⟩⟩
  have m := mil
  exact ⟨by rw [← r1.length]; omega, Wish.lst (wish_up e1) (E.move e1 d1).vw q r1⟩
/-! ### a[i] -/
def kIx : D → D → (D → Prop) → Prop
  | .tup xs, .int i, K => ∃ d, atI xs i = some d ∧ K d
  | .lst xs, .int i, K => ∃ d, atI xs i = some d ∧ K d
  | _, _, _ => False
theorem atI_repl {H : Hp} {O : Addr → Prop} {ds : List D} {vs : List V} {i : Int} {d : D} (r : RepL g H O ds vs) (h : atI ds i = some d) : ∃ v, atI vs i = some v ∧ Rep g H O d v := by
  unfold atI at h ⊢
  rw [r.length] at h
  cases q : ixN vs.length i with
  | none => rw [q] at h; cases h
  | some j => rw [q] at h; exact r.getD h
theorem pd_ix (G : XG X g) (ha : PD X g xp a fa) (hb : PD X g xp b fb) (hs : PlainIx b := by exact fun _ _ => rfl) : PD X g xp (.Subscript a b pos) (wBin kIx fa fb) := by
  refine pd_bin ha hb (fun ta tb pa pb => pe_ix (ix_list.or ix_tup) pa pb hs) (fun x y K K' h => ?_) fun x y K H O v w Q vw rx ry k q => ?_
  · unfold kIx; split <;> first | exact fun ⟨d, a, b⟩ => ⟨d, a, h _ b⟩ | exact id
  · unfold kIx at k
    have hK := G.K
    split at k
    · obtain ⟨p, vs, rfl, hp, rp⟩ := rx
      obtain ⟨d, h, k⟩ := k
      obtain ⟨u, hu, ru⟩ := atI_repl rp h
      exact .inr ⟨p, vs, _, u, rfl, ry, by rw [hK]; exact hp.sq, hu, Wish.old q vw k ru⟩
    · obtain ⟨p, vs, rfl, hp, rp⟩ := rx
      obtain ⟨d, h, k⟩ := k
      obtain ⟨u, hu, ru⟩ := atI_repl rp h
      exact .inl ⟨p, vs, _, u, rfl, ry, by rw [hK]; exact hp.sq, hu, Wish.old q vw k ru⟩
    · exact k.elim
/-! ### f(e, ..), f a built-in -/
/-- a built-in over D -/
structure CallD (X : Cx) (g : Gx) (f : Value) (k : List D → (D → Prop) → Prop) : Prop where
  mono : ∀ xs K K', (∀ d, K d → K' d) → k xs K → k xs K'
  ex : ∃ r : List V → Hp → VK → Prop, CallR X f r ∧ ∀ xs K H O vs Q, Vw g H O → RepL g H O xs vs → k xs K → Wish g H O K Q → r vs H Q
def wBlt (k : List D → (D → Prop) → Prop) (fs : WA) : WE := fun ρ K => fs ρ fun ds => k ds K
theorem pd_blt {id : String} {x : Str} {k : List D → (D → Prop) → Prop} (G : XG X g) (o : CallD X g (.builtin id) k) (hm : g.mg x = none) (hs : PDA X g xp (e :: es) fs) (hv : bootBuiltins x = some (.builtin id) := by decide +kernel) (hg : Gl X x := by rfl) (hn : x ≠ "__name__" := by decide) (hdb : (x == ("__debug__" : Str)) = false := by decide)
    (he : starEach (e :: es) X.env = (false, eval e X.env) :: starEach es X.env := by rfl) (hpl : (backTo pos (starEach es X.env)).any (·.1) = false := by rfl) : PD X g xp (.Call (.Name x p) (e :: es) [] pos) (wBlt k fs) := by
  obtain ⟨r, ho, hr⟩ := o.ex
  have hm' : X.mg x = none := by rw [G.mg]; exact hm
  refine ⟨fun ρ K K' h => hs.mono _ _ _ fun ds => o.mono ds _ _ h, fun H0 O L => (pe_callB ho hg hm' hv (hs.pa H0 O L) hn hdb he hpl).imp' fun σ H Q ⟨ρ, own, E, k⟩ => ⟨ρ, own, E, hs.mono _ _ _ (fun ds k2 vs H1 e1 d1 r1 => ?_) k⟩⟩
  exact hr ds _ H1 _ vs Q (E.move e1 d1).vw r1 k2 (wish_up e1)
theorem pd_bty {T : String} {x : Str} {k : List D → (D → Prop) → Prop} (G : XG X g) (o : CallD X g (.type T) k) (hm : g.mg x = none) (hs : PDA X g xp (e :: es) fs) (hv : bootBuiltins x = some (.type T) := by decide +kernel) (hg : Gl X x := by rfl) (hn : x ≠ "__name__" := by decide) (hdb : (x == ("__debug__" : Str)) = false := by decide)
    (he : starEach (e :: es) X.env = (false, eval e X.env) :: starEach es X.env := by rfl) (hpl : (backTo pos (starEach es X.env)).any (·.1) = false := by rfl) : PD X g xp (.Call (.Name x p) (e :: es) [] pos) (wBlt k fs) := by
  obtain ⟨r, ho, hr⟩ := o.ex
  have hm' : X.mg x = none := by rw [G.mg]; exact hm
  refine ⟨fun ρ K K' h => hs.mono _ _ _ fun ds => o.mono ds _ _ h, fun H0 O L => (pe_callTy ho hg hm' hv (hs.pa H0 O L) hn hdb he hpl).imp' fun σ H Q ⟨ρ, own, E, k⟩ => ⟨ρ, own, E, hs.mono _ _ _ (fun ds k2 vs H1 e1 d1 r1 => ?_) k⟩⟩
  exact hr ds _ H1 _ vs Q (E.move e1 d1).vw r1 k2 (wish_up e1)
end
end DL
end
section
set_option Elab.async false
set_option linter.all false
set_option maxRecDepth 100000
set_option maxHeartbeats 4000000
/-! DE: built-in functions over D. -/
namespace DL
open PySem PySem.Spec PyProof.Rows L2
section
variable {X : Cx} {g : Gx}
theorem repl1 {H : Hp} {O : Addr → Prop} {d : D} {vs : List V} (r : RepL g H O [d] vs) : ∃ v, vs = [v] ∧ Rep g H O d v := by
  obtain ⟨v, vs', e, r1, r2⟩ := r
  exact ⟨v, by rw [e, show vs' = [] from r2], r1⟩
theorem repl2 {H : Hp} {O : Addr → Prop} {d e : D} {vs : List V} (r : RepL g H O [d, e] vs) : ∃ v w, vs = [v, w] ∧ Rep g H O d v ∧ Rep g H O e w := by
  obtain ⟨v, vs', e, r1, r2⟩ := r
  obtain ⟨w, e2, r3⟩ := repl1 r2
  exact ⟨v, w, by rw [e, e2], r1, r3⟩
def cLen : List D → (D → Prop) → Prop
  | [.tup xs], K => K (.int xs.length)
  | [.lst xs], K => K (.int xs.length)
  | _, _ => False
theorem cd_len (G : XG X g) : CallD X g (.builtin "len") cLen := by
  refine ⟨fun xs K K' h => ?_, _, call_len, fun xs K H O vs Q vw r k q => ?_⟩
  · unfold cLen; split <;> first | exact h _ | exact id
  · unfold cLen at k
    have hK := G.K
    split at k
    · obtain ⟨v, rfl, rv⟩ := repl1 r
      obtain ⟨p, us, rfl, hp, rp⟩ := rv
      rw [rp.length] at k
      exact ⟨_, _, rfl, .inr ⟨us, by rw [hK]; exact hp.sq, rfl⟩, Wish.old q vw k rfl⟩
    · obtain ⟨v, rfl, rv⟩ := repl1 r
      obtain ⟨p, us, rfl, hp, rp⟩ := rv
      rw [rp.length] at k
      exact ⟨_, _, rfl, .inl ⟨us, by rw [hK]; exact hp.sq, rfl⟩, Wish.old q vw k rfl⟩
    · exact k.elim
def cAbs : List D → (D → Prop) → Prop
  | [.int i], K => K (.int (if i < 0 then -i else i))
  | _, _ => False
theorem cd_abs : CallD X g (.builtin "abs") cAbs := by
  refine ⟨fun xs K K' h => ?_, _, call_abs, fun xs K H O vs Q vw r k q => ?_⟩
  · unfold cAbs; split <;> first | exact h _ | exact id
  · unfold cAbs at k
    split at k
    · obtain ⟨v, rfl, rv⟩ := repl1 r
      exact ⟨_, by rw [Rep.int_ rv], Wish.old q vw k rfl⟩
    · exact k.elim
def cMax : List D → (D → Prop) → Prop
  | [.int i, .int j], K => K (.int (if j > i then j else i))
  | _, _ => False
def cMin : List D → (D → Prop) → Prop
  | [.int i, .int j], K => K (.int (if j < i then j else i))
  | _, _ => False
theorem cd_max (hc : X.calm = true := by rfl) : CallD X g (.builtin "max") cMax := by
  refine ⟨fun xs K K' h => ?_, _, call_max2 hc, fun xs K H O vs Q vw r k q => ?_⟩
  · unfold cMax; split <;> first | exact h _ | exact id
  · unfold cMax at k
    split at k
    · obtain ⟨v, w, rfl, rv, rw'⟩ := repl2 r
      exact ⟨_, _, by rw [Rep.int_ rv, Rep.int_ rw'], Wish.old q vw k rfl⟩
    · exact k.elim
theorem cd_min (hc : X.calm = true := by rfl) : CallD X g (.builtin "min") cMin := by
  refine ⟨fun xs K K' h => ?_, _, call_min2 hc, fun xs K H O vs Q vw r k q => ?_⟩
  · unfold cMin; split <;> first | exact h _ | exact id
  · unfold cMin at k
    split at k
    · obtain ⟨v, w, rfl, rv, rw'⟩ := repl2 r
      exact ⟨_, _, by rw [Rep.int_ rv, Rep.int_ rw'], Wish.old q vw k rfl⟩
    · exact k.elim
def cInt : List D → (D → Prop) → Prop
  | [.int i], K => K (.int i)
  | [.bl b], K => K (.int (if b then 1 else 0))
  | _, _ => False
theorem cd_int : CallD X g (.type "int") cInt := by
  refine ⟨fun xs K K' h => ?_, _, call_int1, fun xs K H O vs Q vw r k q => ?_⟩
  · unfold cInt; split <;> first | exact h _ | exact id
  · unfold cInt at k
    split at k
    · obtain ⟨v, rfl, rv⟩ := repl1 r
      exact .inl ⟨_, by rw [Rep.int_ rv], Wish.old q vw k rfl⟩
    · obtain ⟨v, rfl, rv⟩ := repl1 r
      exact .inr ⟨_, by rw [Rep.bl_ rv], Wish.old q vw k rfl⟩
    · exact k.elim
def cTuple : List D → (D → Prop) → Prop
  | [.tup xs], K => K (.tup xs)
  | [.lst xs], K => K (.tup xs)
  | _, _ => False
theorem cd_tuple (G : XG X g) : CallD X g (.type "tuple") cTuple := by
  refine ⟨fun xs K K' h => ?_, _, call_tuple_of, fun xs K H O vs Q vw r k q => ?_⟩
  · unfold cTuple; split <;> first | exact h _ | exact id
  · unfold cTuple at k
    have hK := G.K
    split at k
    · obtain ⟨v, rfl, rv⟩ := repl1 r
      obtain ⟨p, us, rfl, hp, rp⟩ := rv
      exact ⟨p, us, rfl, .inr ⟨by rw [hK]; exact hp.sq, Wish.old q vw k ⟨p, us, rfl, hp, rp⟩⟩⟩
    · obtain ⟨v, rfl, rv⟩ := repl1 r
      obtain ⟨p, us, rfl, hp, rp⟩ := rv
      exact ⟨p, us, rfl, .inl ⟨by rw [hK]; exact hp.sq, Wish.tup q vw k rp⟩⟩
    · exact k.elim
def cList : List D → (D → Prop) → Prop
  | [.tup xs], K => K (.lst xs)
  | [.lst xs], K => K (.lst xs)
  | _, _ => False
theorem cd_list (G : XG X g) : CallD X g (.type "list") cList := by
  refine ⟨fun xs K K' h => ?_, _, call_list_of, fun xs K H O vs Q vw r k q => ?_⟩
  · unfold cList; split <;> first | exact h _ | exact id
  · unfold cList at k
    have hK := G.K
    split at k
    · obtain ⟨v, rfl, rv⟩ := repl1 r
      obtain ⟨p, us, rfl, hp, rp⟩ := rv
      exact ⟨p, us, rfl, .inr (by rw [hK]; exact hp.sq), Wish.lst q vw k rp⟩
    · obtain ⟨v, rfl, rv⟩ := repl1 r
      obtain ⟨p, us, rfl, hp, rp⟩ := rv
      exact ⟨p, us, rfl, .inl (by rw [hK]; exact hp.sq), Wish.lst q vw k rp⟩
    · exact k.elim
/-! ### all, any, sum -/
def D.bls : List D → Option (List Bool)
  | [] => some []
  | .bl b :: ds => (D.bls ds).map (b :: ·)
  | _ :: _ => none
def D.ints : List D → Option (List Int)
  | [] => some []
  | .int b :: ds => (D.ints ds).map (b :: ·)
  | _ :: _ => none
theorem bls_repl {H : Hp} {O : Addr → Prop} : ∀ {ds : List D} {bs : List Bool} {vs : List V}, D.bls ds = some bs → RepL g H O ds vs → vs = bs.map V.bl
  | [], bs, vs, h, r => by
    have : ([] : List Bool) = bs := Option.some.inj h
    rw [← this, show vs = [] from r]; rfl
  | .bl b :: ds, bs, vs, h, ⟨v, vs', e, r1, r2⟩ => by
    unfold D.bls at h
    cases q : D.bls ds with
    | none => rw [q] at h; cases h
    | some cs =>
      rw [q] at h
      have : b :: cs = bs := Option.some.inj h
      rw [e, ← this, show v = V.bl b from r1, bls_repl q r2]; rfl
theorem ints_repl {H : Hp} {O : Addr → Prop} : ∀ {ds : List D} {bs : List Int} {vs : List V}, D.ints ds = some bs → RepL g H O ds vs → vs = bs.map V.int
  | [], bs, vs, h, r => by
    have : ([] : List Int) = bs := Option.some.inj h
    rw [← this, show vs = [] from r]; rfl
  | .int b :: ds, bs, vs, h, ⟨v, vs', e, r1, r2⟩ => by
    unfold D.ints at h
    cases q : D.ints ds with
    | none => rw [q] at h; cases h
    | some cs =>
      rw [q] at h
      have : b :: cs = bs := Option.some.inj h
      rw [e, ← this, show v = V.int b from r1, ints_repl q r2]; rfl
theorem bls_map (bs : List Bool) : D.bls (bs.map D.bl) = some bs := by
  induction bs with
  | nil => rfl
  | cons b bs ih => show (D.bls (bs.map D.bl)).map (b :: ·) = _; rw [ih]; rfl
theorem ints_map (bs : List Int) : D.ints (bs.map D.int) = some bs := by
  induction bs with
  | nil => rfl
  | cons b bs ih => show (D.ints (bs.map D.int)).map (b :: ·) = _; rw [ih]; rfl
def cAll : List D → (D → Prop) → Prop
  | [.lst xs], K => ∃ bs, D.bls xs = some bs ∧ K (.bl (bs.all id))
  | _, _ => False
def cAny : List D → (D → Prop) → Prop
  | [.lst xs], K => ∃ bs, D.bls xs = some bs ∧ K (.bl (bs.any id))
  | _, _ => False
def cSum : List D → (D → Prop) → Prop
  | [.lst xs], K => ∃ bs, D.ints xs = some bs ∧ K (.int bs.sum)
  | _, _ => False
theorem cd_all (G : XG X g) (hc : X.calm = true := by rfl) : CallD X g (.builtin "all") cAll := by
  refine ⟨fun xs K K' h => ?_, _, cr_all hc, fun xs K H O vs Q vw r k q => ?_⟩
  · unfold cAll; split <;> first | exact fun ⟨b, e, k⟩ => ⟨b, e, h _ k⟩ | exact id
  · unfold cAll at k
    have hK := G.K
    split at k
    · obtain ⟨v, rfl, rv⟩ := repl1 r
      obtain ⟨p, us, rfl, hp, rp⟩ := rv
      obtain ⟨bs, e, k⟩ := k
      have eu := bls_repl e rp
      subst eu
      exact ⟨p, bs, rfl, by rw [hK]; exact hp.sq, Wish.old q vw k rfl⟩
    · exact k.elim
theorem cd_any (G : XG X g) (hc : X.calm = true := by rfl) : CallD X g (.builtin "any") cAny := by
  refine ⟨fun xs K K' h => ?_, _, cr_any hc, fun xs K H O vs Q vw r k q => ?_⟩
  · unfold cAny; split <;> first | exact fun ⟨b, e, k⟩ => ⟨b, e, h _ k⟩ | exact id
  · unfold cAny at k
    have hK := G.K
    split at k
    · obtain ⟨v, rfl, rv⟩ := repl1 r
      obtain ⟨p, us, rfl, hp, rp⟩ := rv
      obtain ⟨bs, e, k⟩ := k
      have eu := bls_repl e rp
      subst eu
      exact ⟨p, bs, rfl, by rw [hK]; exact hp.sq, Wish.old q vw k rfl⟩
    · exact k.elim
theorem cd_sum (G : XG X g) (hc : X.calm = true := by rfl) : CallD X g (.builtin "sum") cSum := by
  refine ⟨fun xs K K' h => ?_, _, cr_sum hc, fun xs K H O vs Q vw r k q => ?_⟩
  · unfold cSum; split <;> first | exact fun ⟨b, e, k⟩ => ⟨b, e, h _ k⟩ | exact id
  · unfold cSum at k
    have hK := G.K
    split at k
    · obtain ⟨v, rfl, rv⟩ := repl1 r
      obtain ⟨p, us, rfl, hp, rp⟩ := rv
      obtain ⟨bs, e, k⟩ := k
      have eu := ints_repl e rp
      subst eu
      exact ⟨p, bs, rfl, by rw [hK]; exact hp.sq, Wish.old q vw k rfl⟩
    · exact k.elim
end
end DL
end
section
set_option Elab.async false
set_option linter.all false
set_option maxRecDepth 100000
set_option maxHeartbeats 4000000
/-! DF: a def's promise over D, its call; borrowed lists; slots written. -/
namespace DL
open PySem PySem.Spec PyProof.Rows L2

/-- what a def is worth: arguments, what is wanted of the result, of an exception -/
abbrev DSpec := List D → (D → Prop) → (Exc → Prop) → Prop
def spOf (g : Gx) (n : Nat) (sp : DSpec) : Sp := fun vs H Q E => ∃ (O : Addr → Prop) (ds : List D), Vw g H O ∧ (∀ b, g.dkS b → O b) ∧ RepL g H O ds vs ∧ vs.length = n ∧
  sp ds (fun d => ∀ v H', ExtH g H H' → g.dkOk H' → Rep g H' O d v → Q v H') (fun x => ∀ cls od H', ExtH g H H' → g.dkOk H' → ExcRep g H' O x cls od → E cls od H')
structure FnG (g : Gx) (k : Nat) (x : Str) (n : Nat) (dfl : List D) (sp : DSpec) : Prop where
  mono : ∀ ds K K' E E', (∀ d, K d → K' d) → (∀ x, E x → E' x) → sp ds K E → sp ds K' E'
  ex : ∃ (f : Addr) (fd : FuncData) (ps : List Str) (dvs : List V) (dus : List Value), FnOk g.prog g.w g.K g.mg g.base (CX g.prog g.w) k f fd ps (spOf g n sp) ∧ g.mg x = some (.ref f) ∧ PySem.W.keepIn g.K (.ref f) = true ∧ Binds g.K fd ps dus ∧ Vals dvs dus ∧ ∀ H O, RepL g H O dfl dvs
theorem FnG.up {g : Gx} {j k : Nat} {x : Str} {n : Nat} {dfl : List D} {sp : DSpec} (F : FnG g j x n dfl sp) (h : j ≤ k) : FnG g k x n dfl sp := by
  obtain ⟨f, fd, ps, dvs, dus, F1, r⟩ := F.ex
  exact ⟨F.mono, f, fd, ps, dvs, dus, F1.mono h, r⟩
section
variable {g : Gx} {H H' : Hp} {O O' : Addr → Prop}
theorem ExcRep.less {x : Exc} {cls : Value} {od : Option Addr} (h : ∀ b, O' b → O b) (r : ExcRep g H O x cls od) : ExcRep g H O' x cls od := by
  obtain ⟨C, da, fs, v, h1, h2, h3, h4, h5, h6, h7⟩ := r
  exact ⟨C, da, fs, v, h1, h2, h3, h4, h5, h6, h7.less h⟩
theorem hid_less {own : Nat → Option Addr} : ∀ b, O b → hidO O own b := fun _ h => .inl h
variable {X : Cx} {xp : Exc → Prop} {a b e : Expr} {es : List Expr} {pos p : Pos} {fe : WE} {fs : WA} {k n : Nat} {x : Str} {sp : DSpec} {dfl : List D}

def wCall (sp : DSpec) (dfl : List D) (xp : Exc → Prop) (fs : WA) : WE := fun ρ K => fs ρ fun ds => sp (ds ++ dfl) K xp
theorem pd_call (G : XG X g) (F : FnG g k x n dfl sp) (hr : Room k X.A) (hs : PDA X g xp (e :: es) fs) (hn : (e :: es).length + dfl.length = n := by rfl) (hg : Gl X x := by rfl) (hdb : (x == ("__debug__" : Str)) = false := by decide)
    (he : starEach (e :: es) X.env = (false, eval e X.env) :: starEach es X.env := by rfl) (hpl : (backTo pos (starEach es X.env)).any (·.1) = false := by rfl) : PD X g xp (.Call (.Name x p) (e :: es) [] pos) (wCall sp dfl xp fs) := by
  obtain ⟨f, fd, ps, dvs, dus, F1, m, kp, bi, rv, rd⟩ := F.ex
  refine ⟨fun ρ K K' h => hs.mono _ _ _ fun ds => F.mono _ _ _ _ _ h fun _ q => q, fun H0 O L => ?_⟩
  obtain ⟨E, tk, hE⟩ := L.ex
  have F2 : FnOk X.prog X.w X.K X.mg X.base (CX X.prog X.w) k f fd ps (spOf g n sp) := by
    rw [G.prog, G.w, G.K, G.mg, G.base]; exact F1
  refine (pe_call F2 hr hg (by rw [G.mg]; exact m) (by rw [G.K]; exact kp) (by rw [G.K]; exact bi) rv (passes_call tk fun _ _ _ _ h => h) (hs.pa H0 O L) hdb he hpl).imp' fun σ H Q ⟨ρ, own, Ev, k1⟩ => ?_
  refine ⟨ρ, own, Ev, hs.mono _ _ _ (fun ds ⟨el, k2⟩ vs H1 e1 d1 r1 => ?_) (hs.len _ _ k1)⟩
  have Ev1 := Ev.move e1 d1
  have ra := r1.append (rd H1 (hidO O own))
  refine ⟨hidO O own, ds ++ dfl, Ev1.vw, fun b hb => .inl (Ev.dks b hb), ra, ?_, F.mono _ _ _ _ _ (fun d q v H2 e2 d2 r2 => q v H2 (e1.trans e2) d2 r2) (fun x q cls od H2 e2 d2 r2 => ?_) k2⟩
  · rw [← ra.length, List.length_append, el]; exact hn
  · exact hE x q cls od H2 (Ev1.ext.trans e2) d2 (r2.less hid_less)

/-! ### a live list, read as a value -/
mutual
/-- no list stands in it -/
def D.nol : D → Bool
  | .lst _ => false
  | .tup xs => D.nolL xs
  | .obj _ xs => D.nolL xs
  | _ => true
def D.nolL : List D → Bool
  | [] => true
  | d :: ds => d.nol && D.nolL ds
end
mutual
theorem Rep.hide (h : ∀ b, O' b → ¬ O b → ∃ vs, H b = some (.lst vs)) : ∀ (d : D) (v : V), d.nol = true → Rep g H O d v → Rep g H O' d v
  | .non, _, _, r => r
  | .bl _, _, _, r => r
  | .int _, _, _, r => r
  | .str _, _, _, r => r
  | .adr _, _, _, r => r
  | .ty _, _, _, r => r
  | .lst _, _, n, _ => by cases n
  | .tup xs, _, n, ⟨a, vs, e, t, r⟩ => by
    refine ⟨a, vs, e, ?_, RepL.hide h xs vs n r⟩
    rcases t with ⟨hn, t⟩ | t
    · refine .inl ⟨fun z => ?_, t⟩
      obtain ⟨ws, hw⟩ := h a z hn
      rcases t with t | ⟨o, t⟩ <;> (rw [hw] at t; cases t)
    · exact .inr t
  | .obj c fs, _, n, ⟨a, dx, vs, e, hn, t, l, r⟩ => by
    refine ⟨a, dx, vs, e, fun z => ?_, t, l, RepL.hide h fs vs n r⟩
    obtain ⟨ws, hw⟩ := h a z hn
    rw [hw] at t; cases t
theorem RepL.hide (h : ∀ b, O' b → ¬ O b → ∃ vs, H b = some (.lst vs)) : ∀ (ds : List D) (vs : List V), D.nolL ds = true → RepL g H O ds vs → RepL g H O' ds vs
  | [], _, _, r => r
  | d :: ds, _, n, ⟨v, vs', e, r1, r2⟩ => by
    have n2 : d.nol = true ∧ D.nolL ds = true := by
      have : (d.nol && D.nolL ds) = true := n
      simpa using this
    exact ⟨v, vs', e, Rep.hide h d v n2.1 r1, RepL.hide h ds vs' n2.2 r2⟩
end
def ownSet (own : Nat → Option Addr) (i : Nat) (o : Option Addr) : Nat → Option Addr := fun j => if j = i then o else own j
theorem ownSet_same {own : Nat → Option Addr} {i : Nat} {o : Option Addr} : ownSet own i o i = o := by unfold ownSet; rw [if_pos rfl]
theorem ownSet_ne {own : Nat → Option Addr} {i j : Nat} {o : Option Addr} (h : j ≠ i) : ownSet own i o j = own j := by unfold ownSet; rw [if_neg h]
theorem hid_off {own : Nat → Option Addr} {i : Nat} : ∀ b, hidO O (ownSet own i none) b → hidO O own b := fun b h => by
  rcases h with h | ⟨j, h⟩
  · exact .inl h
  · by_cases hj : j = i
    · rw [hj, ownSet_same] at h; cases h
    · rw [ownSet_ne hj] at h; exact .inr ⟨j, h⟩
theorem getD_set {α : Type} (l : List α) (i j : Nat) (x d : α) : (l.set i x).getD j d = if j = i ∧ i < l.length then x else l.getD j d := by
  rw [List.getD_eq_getElem?_getD, List.getD_eq_getElem?_getD, List.getElem?_set]
  by_cases h : i = j
  · subst h
    by_cases h2 : i < l.length
    · simp [h2]
    · simp [h2, List.getElem?_eq_none (Nat.not_lt.mp h2)]
  · simp [h, Ne.symm h, fun e : j = i => h e.symm]
end
section
variable {g : Gx} {H0 H H' : Hp} {O : Addr → Prop} {σ : L2.St} {ρ : Env} {own : Nat → Option Addr}
theorem SlOk.less {O' : Addr → Prop} {s : Sl} {o : Option Addr} {v : Option V} (h : ∀ b, O' b → O b) (r : SlOk g H O s o v) : SlOk g H O' s o v := by
  cases s with
  | un => exact r
  | sh d => obtain ⟨h1, x, h2, h3⟩ := r; exact ⟨h1, x, h2, h3.less h⟩
  | lv xs => obtain ⟨a, vs, h1, h2, h3, h4⟩ := r; exact ⟨a, vs, h1, h2, h3, h4.less h⟩
theorem EnvOk.at_lv (E : EnvOk g H0 O σ H ρ own) {i : Nat} {xs : List D} (h : ρ[i]? = some (.lv xs)) : ∃ a vs, own i = some a ∧ σ[i]? = some (some (.ref a)) ∧ H a = some (.lst vs) ∧ RepL g H (hidO O own) xs vs := by
  have s := E.sl i
  have e2 : ρ.getD i .un = .lv xs := by rw [List.getD_eq_getElem?_getD, h]; rfl
  rw [e2] at s
  obtain ⟨a, vs, h1, h2, h3, h4⟩ := s
  refine ⟨a, vs, h1, ?_, h3, h4⟩
  rw [List.getD_eq_getElem?_getD] at h2
  cases q : σ[i]? with
  | none => rw [q] at h2; cases h2
  | some o => rw [q] at h2; rw [show o = some (.ref a) from h2]
/-- the slot i gets a value -/
theorem EnvOk.st (E : EnvOk g H0 O σ H ρ own) (i : Nat) {d : D} {v : V} (r : Rep g H (hidO O own) d v) : EnvOk g H0 O (σ.set i (some v)) H (ρ.set i (.sh d)) (ownSet own i none) := by
  refine ⟨by rw [List.length_set, List.length_set]; exact E.len, fun j => ?_, fun j l a h1 h2 => ?_, fun j a h => ?_, E.ext, E.dko, E.dks, E.oin⟩
  · rw [getD_set, getD_set, E.len]
    by_cases h : j = i ∧ i < σ.length
    · rw [if_pos h, if_pos h, h.1, ownSet_same]
      exact ⟨rfl, v, rfl, r.less hid_off⟩
    · rw [if_neg h, if_neg h]
      have s := (E.sl j).less (O' := hidO O (ownSet own i none)) hid_off
      by_cases hj : j = i
      · have hl : ¬ i < ρ.length := fun z => h ⟨hj, by rw [← E.len]; exact z⟩
        have e1 : ρ.getD j .un = .un := by rw [List.getD_eq_getElem?_getD, List.getElem?_eq_none (by omega)]; rfl
        rw [e1, hj, ownSet_same]; exact rfl
      · rw [ownSet_ne hj]; exact s
  · by_cases hj : j = i
    · rw [hj, ownSet_same] at h1; cases h1
    · by_cases hl : l = i
      · rw [hl, ownSet_same] at h2; cases h2
      · rw [ownSet_ne hj] at h1; rw [ownSet_ne hl] at h2; exact E.inj j l a h1 h2
  · by_cases hj : j = i
    · rw [hj, ownSet_same] at h; cases h
    · rw [ownSet_ne hj] at h; exact E.ofr j a h
/-- .. is forgotten -/
theorem EnvOk.unset (E : EnvOk g H0 O σ H ρ own) (i : Nat) (o : Option V) : EnvOk g H0 O (σ.set i o) H (ρ.set i .un) (ownSet own i none) := by
  refine ⟨by rw [List.length_set, List.length_set]; exact E.len, fun j => ?_, fun j l a h1 h2 => ?_, fun j a h => ?_, E.ext, E.dko, E.dks, E.oin⟩
  · rw [getD_set, getD_set, E.len]
    by_cases h : j = i ∧ i < σ.length
    · rw [if_pos h, if_pos h, h.1, ownSet_same]
      exact rfl
    · rw [if_neg h, if_neg h]
      have s := (E.sl j).less (O' := hidO O (ownSet own i none)) hid_off
      by_cases hj : j = i
      · have hl : ¬ i < ρ.length := fun z => h ⟨hj, by rw [← E.len]; exact z⟩
        have e1 : ρ.getD j .un = .un := by rw [List.getD_eq_getElem?_getD, List.getElem?_eq_none (by omega)]; rfl
        rw [e1, hj, ownSet_same]; exact rfl
      · rw [ownSet_ne hj]; exact s
  · by_cases hj : j = i
    · rw [hj, ownSet_same] at h1; cases h1
    · by_cases hl : l = i
      · rw [hl, ownSet_same] at h2; cases h2
      · rw [ownSet_ne hj] at h1; rw [ownSet_ne hl] at h2; exact E.inj j l a h1 h2
  · by_cases hj : j = i
    · rw [hj, ownSet_same] at h; cases h
    · rw [ownSet_ne hj] at h; exact E.ofr j a h
/-- a live list is frozen -/
theorem EnvOk.frz (E : EnvOk g H0 O σ H ρ own) {i : Nat} {xs : List D} (h : ρ[i]? = some (.lv xs)) : EnvOk g H0 O σ H (ρ.set i (.sh (.lst xs))) (ownSet own i none) := by
  obtain ⟨a, vs, h1, h2, h3, h4⟩ := E.at_lv h
  have na : ¬ hidO O (ownSet own i none) a := by
    rintro (z | ⟨j, z⟩)
    · exact (E.ofr i a h1).1 z
    · by_cases hj : j = i
      · rw [hj, ownSet_same] at z; cases z
      · rw [ownSet_ne hj] at z; exact hj (E.inj _ _ _ z h1)
  have hi : i < σ.length := (List.getElem?_eq_some_iff.mp h2).1
  have e : σ.set i (some (.ref a)) = σ := by
    apply List.ext_getElem?
    intro j
    rw [List.getElem?_set]
    by_cases hj : i = j
    · subst hj; rw [if_pos rfl, if_pos hi, h2]
    · rw [if_neg hj]
  refine ⟨by rw [List.length_set]; exact E.len, fun j => ?_, fun j l b z1 z2 => ?_, fun j b z => ?_, E.ext, E.dko, E.dks, E.oin⟩
  · rw [getD_set, E.len]
    by_cases hh : j = i ∧ i < σ.length
    · rw [if_pos hh, hh.1, ownSet_same]
      refine ⟨rfl, .ref a, ?_, a, vs, rfl, ⟨na, h3⟩, h4.less hid_off⟩
      rw [List.getD_eq_getElem?_getD, h2]; rfl
    · rw [if_neg hh]
      have s := (E.sl j).less (O' := hidO O (ownSet own i none)) hid_off
      by_cases hj : j = i
      · exact absurd ⟨hj, hi⟩ hh
      · rw [ownSet_ne hj]; exact s
  · by_cases hj : j = i
    · rw [hj, ownSet_same] at z1; cases z1
    · by_cases hl : l = i
      · rw [hl, ownSet_same] at z2; cases z2
      · rw [ownSet_ne hj] at z1; rw [ownSet_ne hl] at z2; exact E.inj j l b z1 z2
  · by_cases hj : j = i
    · rw [hj, ownSet_same] at z; cases z
    · rw [ownSet_ne hj] at z; exact E.ofr j b z
/-- a live list is written -/
theorem EnvOk.wr (E : EnvOk g H0 O σ H ρ own) {i : Nat} {xs ys : List D} {a : Addr} {ws : List V} (h : ρ[i]? = some (.lv xs)) (ha : own i = some a) (r : RepL g H (hidO O own) ys ws) : EnvOk g H0 O σ (upd H a (.lst ws)) (ρ.set i (.lv ys)) own := by
  obtain ⟨a', vs, h1, h2, h3, h4⟩ := E.at_lv h
  rw [ha] at h1
  obtain rfl : a = a' := Option.some.inj h1
  have hi : i < σ.length := (List.getElem?_eq_some_iff.mp h2).1
  obtain ⟨nO, n0⟩ := E.ofr i a ha
  have mv : ∀ b o, ¬ hidO O own b → H b = some o → upd H a (.lst ws) b = some o := fun b o hb e => by
    rw [upd_ne (fun z => hb (by rw [z]; exact .inr ⟨i, ha⟩))]; exact e
  have ext : ExtH g H0 (upd H a (.lst ws)) := fun b o hb e => by
    rw [upd_ne (fun z => by rw [z, n0] at e; cases e)]; exact E.ext b o hb e
  refine ⟨by rw [List.length_set]; exact E.len, fun j => ?_, E.inj, E.ofr, ext, g.dkStay H _ E.dko fun b hb => upd_ne fun z => nO (z ▸ E.dks b hb), E.dks, fun b hb => ?_⟩
  · rw [getD_set, E.len]
    by_cases hh : j = i ∧ i < σ.length
    · rw [if_pos hh, hh.1]
      refine ⟨a, ws, ha, ?_, upd_same, RepL.move mv (fun _ n _ => n) _ _ r⟩
      rw [List.getD_eq_getElem?_getD, h2]; rfl
    · rw [if_neg hh]
      have hj : j ≠ i := fun z => hh ⟨z, hi⟩
      have s := E.sl j
      cases q : ρ.getD j .un with
      | un => rw [q] at s; exact s
      | sh d =>
        rw [q] at s
        obtain ⟨s1, x, s2, s3⟩ := s
        exact ⟨s1, x, s2, Rep.move mv (fun _ n _ => n) _ _ s3⟩
      | lv zs =>
        rw [q] at s
        obtain ⟨b, us, s1, s2, s3, s4⟩ := s
        have hb : b ≠ a := fun z => hj (E.inj j i a (z ▸ s1) ha)
        exact ⟨b, us, s1, s2, by rw [upd_ne hb]; exact s3, RepL.move mv (fun _ n _ => n) _ _ s4⟩
  · by_cases hb2 : b = a
    · rw [hb2, upd_same]; exact fun z => nomatch z
    · rw [upd_ne hb2]; exact E.oin b hb
/-- a new list becomes live at slot i -/
theorem EnvOk.stL (E : EnvOk g H0 O σ H ρ own) (i : Nat) (hi : i < ρ.length) {xs : List D} {p : Addr} {vs : List V} (hp : H p = some (.lst vs)) (nO : ¬ hidO O own p) (n0 : H0 p = none)
    (sl : ∀ j, j ≠ i → SlOk g H (fun b => hidO O own b ∨ b = p) (ρ.getD j .un) (own j) (σ.getD j none)) (r : RepL g H (fun b => hidO O own b ∨ b = p) xs vs) :
    EnvOk g H0 O (σ.set i (some (.ref p))) H (ρ.set i (.lv xs)) (ownSet own i (some p)) := by
  have hid : ∀ b, hidO O (ownSet own i (some p)) b → hidO O own b ∨ b = p := fun b h => by
    rcases h with h | ⟨j, h⟩
    · exact .inl (.inl h)
    · by_cases hj : j = i
      · rw [hj, ownSet_same] at h; exact .inr (Option.some.inj h).symm
      · rw [ownSet_ne hj] at h; exact .inl (.inr ⟨j, h⟩)
  refine ⟨by rw [List.length_set, List.length_set]; exact E.len, fun j => ?_, fun j l b z1 z2 => ?_, fun j b z => ?_, E.ext, E.dko, E.dks, E.oin⟩
  · rw [getD_set, getD_set, E.len]
    by_cases hh : j = i ∧ i < σ.length
    · rw [if_pos hh, if_pos hh, hh.1, ownSet_same]
      exact ⟨p, vs, rfl, rfl, hp, r.less hid⟩
    · have hj : j ≠ i := fun z => hh ⟨z, by rw [← E.len]; exact hi⟩
      rw [if_neg hh, if_neg hh, ownSet_ne hj]
      exact (sl j hj).less hid
  · by_cases hj : j = i
    · by_cases hl : l = i
      · rw [hj, hl]
      · rw [hj, ownSet_same] at z1
        rw [ownSet_ne hl] at z2
        have : p = b := Option.some.inj z1
        exact absurd (.inr ⟨l, this ▸ z2⟩) nO
    · by_cases hl : l = i
      · rw [hl, ownSet_same] at z2
        rw [ownSet_ne hj] at z1
        have : p = b := Option.some.inj z2
        exact absurd (.inr ⟨j, this ▸ z1⟩) nO
      · rw [ownSet_ne hj] at z1; rw [ownSet_ne hl] at z2; exact E.inj j l b z1 z2
  · by_cases hj : j = i
    · rw [hj, ownSet_same] at z
      have e : p = b := Option.some.inj z
      rw [← e]
      exact ⟨fun h => nO (.inl h), n0⟩
    · rw [ownSet_ne hj] at z; exact E.ofr j b z
end
section
variable {g : Gx} {X : Cx} {xp : Exc → Prop} {e : Expr} {fe : WE} {ft : WT}
def wBor (i : Nat) (fe : WE) : WE := fun ρ K => ∃ xs, ρ[i]? = some (.lv xs) ∧ fe (ρ.set i (.sh (.lst xs))) fun d => d.nol = true ∧ K d
def wBorT (i : Nat) (ft : WT) : WT := fun ρ K => ∃ xs, ρ[i]? = some (.lv xs) ∧ ft (ρ.set i (.sh (.lst xs))) K
theorem pd_bor (i : Nat) (h : PD X g xp e fe) : PD X g xp e (wBor i fe) := by
  refine ⟨fun ρ K K' m ⟨xs, q, k⟩ => ⟨xs, q, h.mono _ _ _ (fun d ⟨n, k⟩ => ⟨n, m _ k⟩) k⟩, fun H0 O L => (h.pe H0 O L).imp' fun σ H Q ⟨ρ, own, E, xs, q, k⟩ => ?_⟩
  refine ⟨_, _, E.frz q, h.mono _ _ _ (fun d ⟨n, k⟩ v H1 e1 d1 r1 => k v H1 e1 d1 ?_) k⟩
  obtain ⟨a, vs, h1, h2, h3, h4⟩ := E.at_lv q
  refine Rep.hide (fun b z1 z2 => ?_) d v n r1
  have hb : b = a := by
    rcases z1 with z | ⟨j, z⟩
    · exact absurd (.inl z) z2
    · by_cases hj : j = i
      · rw [hj, h1] at z; exact (Option.some.inj z).symm
      · exact absurd (.inr ⟨j, by rw [ownSet_ne hj]; exact z⟩) z2
  rw [hb]
  exact ⟨vs, e1 a _ (E.ndk h1) h3⟩
theorem pdt_bor (i : Nat) (h : PDT X g xp e ft) : PDT X g xp e (wBorT i ft) := by
  refine ⟨fun ρ K K' m ⟨xs, q, k⟩ => ⟨xs, q, h.mono _ _ _ m k⟩, fun H0 O L => (h.pt H0 O L).imp' fun σ H Q ⟨ρ, own, E, xs, q, k⟩ => ?_⟩
  exact ⟨_, _, E.frz q, k⟩
end
end DL
end
section
set_option Elab.async false
set_option linter.all false
set_option maxRecDepth 100000
set_option maxHeartbeats 4000000
/-! DG: statements over D. -/
namespace DL
open PySem PySem.Spec PyProof.Rows L2

structure Post where
  nx : Env → Prop
  rt : D → Prop
  bk : Env → Prop := fun _ => False
  ct : Env → Prop := fun _ => False
structure Post.le (P P' : Post) : Prop where
  nx : ∀ ρ, P.nx ρ → P'.nx ρ
  rt : ∀ d, P.rt d → P'.rt d
  bk : ∀ ρ, P.bk ρ → P'.bk ρ
  ct : ∀ ρ, P.ct ρ → P'.ct ρ
theorem Post.le.refl (P : Post) : P.le P := ⟨fun _ h => h, fun _ h => h, fun _ h => h, fun _ h => h⟩
abbrev WS := Post → Env → Prop
structure PostOk (g : Gx) (H0 : Hp) (O : Addr → Prop) (P : Post) (Dn : Ends) : Prop where
  nx : ∀ ρ σ H own, P.nx ρ → EnvOk g H0 O σ H ρ own → Dn.nx σ H
  rt : ∀ d v H, P.rt d → ExtH g H0 H → Vw g H O → Rep g H O d v → Dn.rt v H
  bk : ∀ ρ σ H own, P.bk ρ → EnvOk g H0 O σ H ρ own → Dn.bk σ H
  ct : ∀ ρ σ H own, P.ct ρ → EnvOk g H0 O σ H ρ own → Dn.ct σ H
def tDS (g : Gx) (H0 : Hp) (O : Addr → Prop) (f : WS) : TS := fun Dn σ H => ∃ ρ own P, EnvOk g H0 O σ H ρ own ∧ PostOk g H0 O P Dn ∧ f P ρ
structure PSD (X : Cx) (g : Gx) (xp : Exc → Prop) (st : Stmt) (f : WS) : Prop where
  mono : ∀ P P' ρ, P.le P' → f P ρ → f P' ρ
  ps : ∀ H0 O, XLink X g H0 O xp → PS X st (tDS g H0 O f)
structure PSsD (X : Cx) (g : Gx) (xp : Exc → Prop) (st : List Stmt) (f : WS) : Prop where
  mono : ∀ P P' ρ, P.le P' → f P ρ → f P' ρ
  ps : ∀ H0 O, XLink X g H0 O xp → PSs X st (tDS g H0 O f)
theorem ps_imp {X : Cx} {st : Stmt} {t t' : TS} (h : PS X st t) (i : ∀ Dn σ H, t' Dn σ H → t Dn σ H) : PS X st t' := ⟨fun pins s σ H Dn I q => h.run pins s σ H Dn I (i Dn σ H q)⟩
theorem pss_imp {X : Cx} {st : List Stmt} {t t' : TS} (h : PSs X st t) (i : ∀ Dn σ H, t' Dn σ H → t Dn σ H) : PSs X st t' := ⟨fun pins s σ H Dn I q => h.run pins s σ H Dn I (i Dn σ H q)⟩
theorem EnvOk.vwO {g : Gx} {H0 H : Hp} {O : Addr → Prop} {σ : L2.St} {ρ : Env} {own : Nat → Option Addr} (E : EnvOk g H0 O σ H ρ own) : Vw g H O := ⟨E.odk, E.dko, E.oin⟩

section
variable {X : Cx} {g : Gx} {xp : Exc → Prop} {st : Stmt} {rest : List Stmt} {f h : WS} {a b c e : Expr} {fa fb fe : WE} {ft : WT} {pos p : Pos}
def wNext : WS := fun P ρ => P.nx ρ
def wSeq (f h : WS) : WS := fun P ρ => f { P with nx := h P } ρ
theorem pssd_nil : PSsD X g xp [] wNext := ⟨fun P P' ρ l k => l.nx ρ k, fun H0 O L => pss_imp pss_nil fun Dn σ H ⟨ρ, own, P, E, po, k⟩ => po.nx ρ σ H own k E⟩
theorem pssd_one (h1 : PSD X g xp st f) : PSsD X g xp [st] f := ⟨h1.mono, fun H0 O L => pss_one (h1.ps H0 O L)⟩
theorem pssd_cons (h1 : PSD X g xp st f) (h2 : PSsD X g xp rest h) : PSsD X g xp (st :: rest) (wSeq f h) := by
  refine ⟨fun P P' ρ l => h1.mono _ _ _ ⟨fun ρ => h2.mono _ _ _ l, l.rt, l.bk, l.ct⟩, fun H0 O L => pss_imp (pss_cons (h1.ps H0 O L) (h2.ps H0 O L)) fun Dn σ H ⟨ρ, own, P, E, po, k⟩ => ?_⟩
  exact ⟨ρ, own, { P with nx := h P }, E, ⟨fun ρ' σ' H' own' k' E' => ⟨ρ', own', P, E', po, k'⟩, po.rt, po.bk, po.ct⟩, k⟩
/-! ### small statements -/
def wBreak : WS := fun P ρ => P.bk ρ
def wCont : WS := fun P ρ => P.ct ρ
theorem psd_pass : PSD X g xp (.Pass pos) wNext := ⟨fun P P' ρ l k => l.nx ρ k, fun H0 O L => ps_imp ps_pass fun Dn σ H ⟨ρ, own, P, E, po, k⟩ => po.nx ρ σ H own k E⟩
theorem psd_break : PSD X g xp (.Break pos) wBreak := ⟨fun P P' ρ l k => l.bk ρ k, fun H0 O L => ps_imp ps_break fun Dn σ H ⟨ρ, own, P, E, po, k⟩ => po.bk ρ σ H own k E⟩
theorem psd_cont : PSD X g xp (.Continue pos) wCont := ⟨fun P P' ρ l k => l.ct ρ k, fun H0 O L => ps_imp ps_continue fun Dn σ H ⟨ρ, own, P, E, po, k⟩ => po.ct ρ σ H own k E⟩
def wExpr (fe : WE) : WS := fun P ρ => fe ρ fun _ => P.nx ρ
theorem psd_expr (he : PD X g xp e fe) (hs : swapsWith e none pos.line X.env = pure false := by rfl) : PSD X g xp (.Expr e pos) (wExpr fe) := by
  refine ⟨fun P P' ρ l => he.mono _ _ _ fun _ => l.nx ρ, fun H0 O L => ps_imp (ps_expr (he.pe H0 O L) hs) fun Dn σ H ⟨ρ, own, P, E, po, k⟩ => ⟨ρ, own, E, he.mono _ _ _ (fun d k v H1 e1 d1 _ => ?_) k⟩⟩
  exact po.nx ρ σ H1 own k (E.move e1 d1)
def wRet (fe : WE) : WS := fun P ρ => fe ρ P.rt
theorem psd_ret (he : PD X g xp e fe) : PSD X g xp (.Return (some e) pos) (wRet fe) := by
  refine ⟨fun P P' ρ l => he.mono _ _ _ l.rt, fun H0 O L => ps_imp (ps_ret (he.pe H0 O L)) fun Dn σ H ⟨ρ, own, P, E, po, k⟩ => ⟨ρ, own, E, he.mono _ _ _ (fun d k v H1 e1 d1 r1 => ?_) k⟩⟩
  exact po.rt d v H1 k (E.ext.trans e1) (E.move e1 d1).vwO (r1.less hid_less)
def wRetN : WS := fun P _ => P.rt .non
theorem psd_retN : PSD X g xp (.Return none pos) wRetN := ⟨fun P P' ρ l k => l.rt _ k, fun H0 O L => ps_imp ps_retN fun Dn σ H ⟨ρ, own, P, E, po, k⟩ => po.rt .non .non H k E.ext E.vwO rfl⟩
def wIfS (ft : WT) (f h : WS) : WS := fun P ρ => ft ρ fun c => if c = true then f P ρ else h P ρ
theorem psd_if {s1 s2 : List Stmt} (hc : PDT X g xp c ft) (h1 : PSsD X g xp s1 f) (h2 : PSsD X g xp s2 h) : PSD X g xp (.If c s1 s2 pos) (wIfS ft f h) := by
  refine ⟨fun P P' ρ l => hc.mono _ _ _ fun x => ite_mono (h1.mono _ _ _ l) (h2.mono _ _ _ l), fun H0 O L => ps_imp (ps_if (hc.pt H0 O L) (h1.ps H0 O L) (h2.ps H0 O L)) fun Dn σ H ⟨ρ, own, P, E, po, k⟩ => ⟨ρ, own, E, hc.mono _ _ _ (fun x k2 H1 e1 d1 => ?_) k⟩⟩
  cases x with
  | true => exact ⟨ρ, own, P, E.move e1 d1, po, k2⟩
  | false => exact ⟨ρ, own, P, E.move e1 d1, po, k2⟩
/-- slots of live lists frozen ahead of a statement -/
def wFrz (i : Nat) (f : WS) : WS := fun P ρ => ∃ xs, ρ[i]? = some (.lv xs) ∧ f P (ρ.set i (.sh (.lst xs)))
theorem psd_frz (i : Nat) (h1 : PSD X g xp st f) : PSD X g xp st (wFrz i f) :=
  ⟨fun P P' ρ l ⟨xs, q, k⟩ => ⟨xs, q, h1.mono _ _ _ l k⟩, fun H0 O L => ps_imp (h1.ps H0 O L) fun Dn σ H ⟨ρ, own, P, E, po, xs, q, k⟩ => ⟨_, _, P, E.frz q, po, k⟩⟩
/-! ### targets -/
abbrev WG := D → Env → (Env → Prop) → Prop
abbrev WGs := List D → Env → (Env → Prop) → Prop
/-- only the slots at is may have changed -/
def OnlyAt (is : List Nat) (σ σ' : L2.St) (own own' : Nat → Option Addr) : Prop := σ'.length = σ.length ∧ ∀ j, j ∉ is → σ'[j]? = σ[j]? ∧ own' j = own j
structure PGD (X : Cx) (g : Gx) (tg : Expr) (is : List Nat) (f : WG) : Prop where
  mono : ∀ d ρ K K', (∀ ρ, K ρ → K' ρ) → f d ρ K → f d ρ K'
  pg : ∀ H0 O, PG X tg (fun v σ H Q => ∃ ρ own d, EnvOk g H0 O σ H ρ own ∧ Rep g H (hidO O own) d v ∧ f d ρ fun ρ' => ∀ σ' own', EnvOk g H0 O σ' H ρ' own' → (∀ b, hidO O own' b → hidO O own b) → OnlyAt is σ σ' own own' → Q σ' H)
structure PGsD (X : Cx) (g : Gx) (tg : List Expr) (is : List Nat) (f : WGs) : Prop where
  mono : ∀ d ρ K K', (∀ ρ, K ρ → K' ρ) → f d ρ K → f d ρ K'
  pg : ∀ H0 O, PGs X tg (fun vs σ H Q => ∃ ρ own ds, EnvOk g H0 O σ H ρ own ∧ RepL g H (hidO O own) ds vs ∧ f ds ρ fun ρ' => ∀ σ' own', EnvOk g H0 O σ' H ρ' own' → (∀ b, hidO O own' b → hidO O own b) → OnlyAt is σ σ' own own' → Q σ' H)
theorem pg_imp {tg : Expr} {t t' : TG} (h : PG X tg t) (i : ∀ v σ H Q, t' v σ H Q → t v σ H Q) : PG X tg t' := ⟨fun pins s σ H v u Q I r q => h.run pins s σ H v u Q I r (i v σ H Q q)⟩
theorem pgs_imp {tg : List Expr} {t t' : TGs} (h : PGs X tg t) (i : ∀ v σ H Q, t' v σ H Q → t v σ H Q) : PGs X tg t' := ⟨fun pins s σ H v u Q I r q => h.run pins s σ H v u Q I r (i v σ H Q q)⟩
def gdName (i : Nat) : WG := fun d ρ K => K (ρ.set i (.sh d))
theorem pgd_name (i : Nat) {x : Str} (hN : X.N.Nodup) (hi : X.N[i]? = some x := by rfl) (hx : Loc X.env.scope x := by first | exact Or.inl rfl | exact Or.inr rfl) (hf : X.fn x = true ∨ X.env.scope.names.lookup x = some .local := by first | exact .inl rfl | exact .inr rfl | assumption) : PGD X g (.Name x pos) [i] (gdName i) :=
  ⟨fun d ρ K K' m => m _, fun H0 O => pg_imp (pg_name hN hi hx hf) fun v σ H Q ⟨ρ, own, d, E, r, k⟩ => k _ _ (E.st i r) hid_off ⟨List.length_set .., fun j hj => ⟨List.getElem?_set_ne (fun e => hj (by simp [e])), ownSet_ne (fun e => hj (by simp [e]))⟩⟩⟩
def gdNil : WGs := fun ds ρ K => ds = [] ∧ K ρ
def gdCons (t : WG) (u : WGs) : WGs := fun ds ρ K => ∃ d r, ds = d :: r ∧ t d ρ fun ρ' => u r ρ' K
theorem pgsd_nil : PGsD X g [] [] gdNil := by
  refine ⟨fun d ρ K K' m ⟨a, k⟩ => ⟨a, m _ k⟩, fun H0 O => pgs_imp pgs_nil fun vs σ H Q ⟨ρ, own, ds, E, r, e, k⟩ => ⟨?_, k _ _ E (fun _ h => h) ⟨rfl, fun _ _ => ⟨rfl, rfl⟩⟩⟩⟩
  subst e
  exact r
theorem pgsd_cons {ts : List Expr} {t : WG} {u : WGs} {is js : List Nat} (h1 : PGD X g e is t) (h2 : PGsD X g ts js u) (hs : (assignEach (e :: ts) X.env).map (·.2) = assign e X.env :: (assignEach ts X.env).map (·.2) := by rfl) : PGsD X g (e :: ts) (is ++ js) (gdCons t u) := by
  refine ⟨fun d ρ K K' m ⟨a, r, e, k⟩ => ⟨a, r, e, h1.mono _ _ _ _ (fun ρ' => h2.mono _ _ _ _ m) k⟩, fun H0 O => pgs_imp (pgs_cons (h1.pg H0 O) (h2.pg H0 O) hs) fun vs σ H Q ⟨ρ, own, ds, E, r, d, r2, e, k⟩ => ?_⟩
  subst e
  obtain ⟨v, vs', ev, r1, r3⟩ := r
  refine ⟨v, vs', ev, ρ, own, d, E, r1, h1.mono _ _ _ _ (fun ρ' k' σ' own' E' le oa => ⟨ρ', own', r2, E', r3.less le, ?_⟩) k⟩
  exact h2.mono _ _ _ _ (fun ρ2 q σ2 own2 E2 le2 oa2 => q σ2 own2 E2 (fun b hb => le b (le2 b hb)) ⟨oa2.1.trans oa.1, fun j hj => ⟨(oa2.2 j fun z => hj (List.mem_append_right _ z)).1.trans (oa.2 j fun z => hj (List.mem_append_left _ z)).1, (oa2.2 j fun z => hj (List.mem_append_right _ z)).2.trans (oa.2 j fun z => hj (List.mem_append_left _ z)).2⟩⟩) k'
def gdTup (n : Nat) (u : WGs) : WG := fun d ρ K => ∃ xs, d = .tup xs ∧ xs.length = n ∧ u xs ρ K
theorem pgd_tup {es : List Expr} {k : Nat} {u : WGs} {is : List Nat} (G : XG X g) (h : PGsD X g es is u) (hc : X.calm = true := by rfl) (hn : (assignEach es X.env).length = es.length := by rfl) (hst : (assignEach es X.env).findIdx? (·.1) = none := by rfl) : PGD X g (.Tuple es k pos) is (gdTup es.length u) := by
  refine ⟨fun d ρ K K' m ⟨xs, e, z, k⟩ => ⟨xs, e, z, h.mono _ _ _ _ m k⟩, fun H0 O => pg_imp (pg_tup hc (h.pg H0 O) hn hst) fun v σ H Q ⟨ρ, own, d, E, r, xs, e, z, k⟩ => ?_⟩
  subst e
  obtain ⟨a, vs, rfl, hp, rp⟩ := r
  have hK := G.K
  exact ⟨a, vs, rfl, by rw [hK]; exact hp.sq, by rw [← rp.length]; exact z, ρ, own, xs, E, rp, k⟩
/-! ### stores -/
def wAsg (fe : WE) (t : WG) : WS := fun P ρ => fe ρ fun d => t d ρ P.nx
theorem psd_asg {tg : Expr} {t : WG} {is : List Nat} (he : PD X g xp e fe) (hg : PGD X g tg is t) (hs : swapsWithSole [tg] e pos.line X.env = pure false := by rfl) (hw : swappedStores [tg] e X.env = pure none := by rfl)
    (h1 : (assignEach [tg] X.env).map (·.2) = [assign tg X.env] := by rfl) : PSD X g xp (.Assign [tg] e pos) (wAsg fe t) := by
  refine ⟨fun P P' ρ l => he.mono _ _ _ fun d => hg.mono _ _ _ _ l.nx, fun H0 O L => ps_imp (ps_asg (he.pe H0 O L) (hg.pg H0 O) hs hw h1) fun Dn σ H ⟨ρ, own, P, E, po, k⟩ => ⟨ρ, own, E, he.mono _ _ _ (fun d k v H1 e1 d1 r1 => ?_) k⟩⟩
  exact ⟨ρ, own, d, E.move e1 d1, r1, hg.mono _ _ _ _ (fun ρ' q σ' own' E' _ _ => po.nx _ _ _ _ q E') k⟩
/-- name = e -/
def wSet (i : Nat) (fe : WE) : WS := fun P ρ => fe ρ fun d => P.nx (ρ.set i (.sh d))
theorem psd_set (i : Nat) {x : Str} (hN : X.N.Nodup) (he : PD X g xp e fe) (hi : X.N[i]? = some x := by rfl) (hx : Loc X.env.scope x := by first | exact Or.inl rfl | exact Or.inr rfl) (hs : swapsWith e (some (.Name x p)) pos.line X.env = pure false := by rfl)
    (hf : X.fn x = true ∨ X.env.scope.names.lookup x = some .local := by first | exact .inl rfl | exact .inr rfl | assumption) : PSD X g xp (.Assign [.Name x p] e pos) (wSet i fe) := by
  refine ⟨fun P P' ρ l => he.mono _ _ _ fun d => l.nx _, fun H0 O L => ps_imp (ps_set (i := i) hN hi hx (he.pe H0 O L) hs hf) fun Dn σ H ⟨ρ, own, P, E, po, k⟩ => ⟨ρ, own, E, he.mono _ _ _ (fun d k v H1 e1 d1 r1 => ?_) k⟩⟩
  exact po.nx _ _ _ _ k ((E.move e1 d1).st i r1)
/-- a, b = x, y: stored from the right -/
def wPar (i j : Nat) (fa fb : WE) : WS := fun P ρ => fa ρ fun x => fb ρ fun y => P.nx ((ρ.set i (.sh x)).set j (.sh y))
theorem psd_par (i j : Nat) {x y : Str} {px py pt : Pos} {kt k2 pt2} (hN : X.N.Nodup) (ha : PD X g xp a fa) (hb : PD X g xp b fb) (hc : X.calm = true := by rfl) (hi : X.N[i]? = some x := by rfl) (hj : X.N[j]? = some y := by rfl) (hij : i ≠ j := by decide)
    (hx : X.env.scope.names.lookup x = some .local := by rfl) (hy : X.env.scope.names.lookup y = some .local := by rfl)
    (hw : swappedStores [.Tuple [.Name x px, .Name y py] kt pt] (.Tuple [a, b] k2 pt2) X.env = pure (some [x, y]) := by rfl)
    (hs : swapsWithSole [.Tuple [.Name x px, .Name y py] kt pt] (.Tuple [a, b] k2 pt2) pos.line X.env = pure false := by rfl)
    (h1 : starEach [a, b] X.env = (false, eval a X.env) :: starEach [b] X.env := by rfl) (h2 : starEach [b] X.env = (false, eval b X.env) :: starEach [] X.env := by rfl) :
    PSD X g xp (.Assign [.Tuple [.Name x px, .Name y py] kt pt] (.Tuple [a, b] k2 pt2) pos) (wPar i j fa fb) := by
  have hab : PDA X g xp [a, b] (wCons fa (wCons fb wNil)) := pda_cons ha (pda_cons hb pda_nil h2) h1
  refine ⟨fun P P' ρ l => ha.mono _ _ _ fun d => hb.mono _ _ _ fun d' => l.nx _, fun H0 O L => ps_imp (ps_par hc hN hi hj hij hx hy (hab.pa H0 O L) hw hs) fun Dn σ H ⟨ρ, own, P, E, po, k⟩ => ⟨ρ, own, E, ?_⟩⟩
  show fa ρ fun u => fb ρ fun w => ∀ vs H', ExtH g H H' → g.dkOk H' → RepL g H' (hidO O own) [u, w] vs → ∃ v w, vs = [v, w] ∧ Dn.nx ((σ.set i (some v)).set j (some w)) H'
  refine ha.mono _ _ _ (fun d k2 => hb.mono _ _ _ (fun d' k3 vs H1 e1 d1 r1 => ?_) k2) k
  obtain ⟨v, w, rfl, rv, rw'⟩ := repl2 r1
  exact ⟨v, w, rfl, po.nx _ _ _ _ k3 (((E.move e1 d1).st i rv).st j (rw'.less hid_off))⟩
/-- name op= e -/
def wAug (i : Nat) (k : D → D → (D → Prop) → Prop) (fe : WE) : WS := fun P ρ => ∃ x, ρ[i]? = some (.sh x) ∧ fe ρ fun y => k x y fun z => P.nx (ρ.set i (.sh z))
theorem EnvOk.at_sh {H0 H : Hp} {O : Addr → Prop} {σ : L2.St} {ρ : Env} {own : Nat → Option Addr} (E : EnvOk g H0 O σ H ρ own) {i : Nat} {d : D} (q : ρ[i]? = some (.sh d)) : ∃ v, σ[i]? = some (some v) ∧ Rep g H (hidO O own) d v := by
  have s := E.sl i
  have e2 : ρ.getD i .un = .sh d := by rw [List.getD_eq_getElem?_getD, q]; rfl
  rw [e2] at s
  obtain ⟨_, x, h2, h3⟩ := s
  rw [List.getD_eq_getElem?_getD] at h2
  refine ⟨x, ?_, h3⟩
  cases z : σ[i]? with
  | none => rw [z] at h2; cases h2
  | some o => rw [z] at h2; rw [show o = some x from h2]
theorem psd_aug (i : Nat) {x : Str} {op : Operator} {k : D → D → (D → Prop) → Prop} (hN : X.N.Nodup) (o : OpD X g (inplaceOp op) k) (he : PD X g xp e fe) (hi : X.N[i]? = some x := by rfl) (hx : Loc X.env.scope x := by first | exact Or.inl rfl | exact Or.inr rfl)
    (hf : X.fn x = true ∨ X.env.scope.names.lookup x = some .local := by first | exact .inl rfl | exact .inr rfl | assumption) : PSD X g xp (.AugAssign (.Name x p) op e pos) (wAug i k fe) := by
  obtain ⟨r, ho, hr⟩ := o.ex
  have ip : PIp X op (fun x y H Q => r x y H Q) := fun pins s σ H x y v u Q I r1 r2 h => ho pins s σ H x y v u Q I r1 r2 h
  refine ⟨fun P P' ρ l ⟨x, q, k⟩ => ⟨x, q, he.mono _ _ _ (fun y => o.mono _ _ _ _ fun z => l.nx _) k⟩, fun H0 O L => ps_imp (ps_aug (i := i) hN hi hx (he.pe H0 O L) ip hf) fun Dn σ H ⟨ρ, own, P, E, po, x, q, k⟩ => ?_⟩
  obtain ⟨v, h1, rv⟩ := E.at_sh q
  refine ⟨v, h1, ρ, own, E, he.mono _ _ _ (fun y k2 w H1 e1 d1 r1 => ?_) k⟩
  refine hr x y _ H1 _ v w _ (E.move e1 d1).vw (rv.ext E.hdk e1) r1 k2 fun z q u H2 e2 d2 r2 => ?_
  exact po.nx _ _ _ _ q (((E.move e1 d1).move e2 d2).st i r2)
end
end DL
end
section
set_option Elab.async false
set_option linter.all false
set_option maxRecDepth 100000
set_option maxHeartbeats 4000000
/-! DH: live lists over D: made, changed; while. -/
namespace DL
open PySem PySem.Spec PyProof.Rows L2
abbrev WL := Env → (List D → Prop) → Prop
def tDF (g : Gx) (H0 : Hp) (O : Addr → Prop) (f : WL) : TE := fun σ H Q => ∃ ρ own, EnvOk g H0 O σ H ρ own ∧ f ρ fun xs => ∀ p vs H2, H p = none → H2 p = some (.lst vs) → ExtH g H H2 → g.dkOk H2 → RepL g H2 (fun b => hidO O own b ∨ b = p) xs vs → Q (.ref p) H2
structure PDF (X : Cx) (g : Gx) (xp : Exc → Prop) (e : Expr) (f : WL) : Prop where
  mono : ∀ ρ K K', (∀ d, K d → K' d) → f ρ K → f ρ K'
  pe : ∀ H0 O, XLink X g H0 O xp → PE X e (tDF g H0 O f)
section
variable {g : Gx} {H0 H H2 : Hp} {O : Addr → Prop} {σ : L2.St} {ρ : Env} {own : Nat → Option Addr}
theorem EnvOk.noneOf (E : EnvOk g H0 O σ H ρ own) {p : Addr} (n : H p = none) : ¬ hidO O own p ∧ H0 p = none ∧ p ≠ g.dk := by
  have h1 : ¬ hidO O own p := fun z => E.vw.oin p z n
  have h2 : p ≠ g.dk := fun z => h1 (z ▸ E.hdk)
  refine ⟨h1, ?_, h2⟩
  cases q : H0 p with
  | none => rfl
  | some o => rw [E.ext p o h2 q] at n; cases n
theorem EnvOk.fresh (E : EnvOk g H0 O σ H ρ own) (i : Nat) (hi : i < ρ.length) {xs : List D} {p : Addr} {vs : List V} (n : H p = none) (hp : H2 p = some (.lst vs)) (e : ExtH g H H2) (dk : g.dkOk H2) (r : RepL g H2 (fun b => hidO O own b ∨ b = p) xs vs) :
    EnvOk g H0 O (σ.set i (some (.ref p))) H2 (ρ.set i (.lv xs)) (ownSet own i (some p)) := by
  obtain ⟨h1, h2, h3⟩ := E.noneOf n
  refine (E.move e dk).stL i hi hp h1 h2 (fun j hj => ?_) r
  have s := E.sl j
  have mv : ∀ b o, ¬ hidO O own b → H b = some o → H2 b = some o := fun b o hb q => e b o (fun z => hb (z ▸ E.hdk)) q
  have ho : ∀ b, ¬ hidO O own b → H b ≠ none → ¬ (hidO O own b ∨ b = p) := fun b hb q z => z.elim hb fun z => q (z ▸ n)
  cases q : ρ.getD j .un with
  | un => rw [q] at s; exact s
  | sh d =>
    rw [q] at s
    obtain ⟨s1, x, s2, s3⟩ := s
    exact ⟨s1, x, s2, Rep.move mv ho _ _ s3⟩
  | lv zs =>
    rw [q] at s
    obtain ⟨b, us, s1, s2, s3, s4⟩ := s
    exact ⟨b, us, s1, s2, e b _ (E.ndk s1) s3, RepL.move mv ho _ _ s4⟩
/-- what was there ahead of a new object does not name it -/
theorem RepL.newp {H : Hp} {O : Addr → Prop} {p : Addr} {o : HO} {ds : List D} {vs : List V} (n : H p = none) (r : RepL g H O ds vs) : RepL g (upd H p o) (fun b => O b ∨ b = p) ds vs :=
  RepL.move (fun b u _ h => by rw [upd_ne (ne_of_none h n)]; exact h) (fun b hb q z => z.elim hb fun z => q (z ▸ n)) ds vs r
theorem none_back {p : Addr} (E : EnvOk g H0 O σ H ρ own) (e : ExtH g H H2) (n : H2 p = none) (dk : g.dkOk H2) : H p = none := by
  have h : p ≠ g.dk := fun z => g.dkSome _ dk _ g.dkIn (z ▸ n)
  cases q : H p with
  | none => rfl
  | some o => rw [e p o h q] at n; cases n
end
section
variable {X : Cx} {g : Gx} {xp : Exc → Prop} {st : Stmt} {a b c e : Expr} {es : List Expr} {fa fb fe : WE} {fs : WA} {fl : WL} {ft : WT} {pos p : Pos}
/-! ### new lists -/
def lDisp (fs : WA) : WL := fun ρ K => fs ρ fun ds => ds.length ≤ 1000000 ∧ K ds
theorem pdf_disp (h : PDA X g xp es fs) : PDF X g xp (.List es pos) (lDisp fs) := by
  refine ⟨fun ρ K K' m => h.mono _ _ _ fun ds ⟨z, k⟩ => ⟨z, m _ k⟩, fun H0 O L => (pe_lst (h.pa H0 O L)).imp' fun σ H Q ⟨ρ, own, E, k⟩ => ⟨ρ, own, E, h.mono _ _ _ (fun ds ⟨z, k⟩ vs H1 e1 d1 r1 => ?_) k⟩⟩
  have m := mil
  refine ⟨by rw [← r1.length]; omega, fun q n => ?_⟩
  exact k q vs _ (none_back E e1 n d1) upd_same (e1.trans (ext_new n)) (dk_new d1 n) (r1.newp n)
def lRep (fa fb : WE) : WL := fun ρ K => fa ρ fun x => fb ρ fun y => ∃ xs k, x = .lst xs ∧ y = .int k ∧ -1000000 ≤ k ∧ k ≤ 1000000 ∧ xs.length * k.toNat ≤ 1000000 ∧ K (List.replicate k.toNat xs).flatten
theorem pdf_rep (ha : PD X g xp a fa) (hb : PD X g xp b fb) : PDF X g xp (.BinOp a .Mult b pos) (lRep fa fb) := by
  refine ⟨fun ρ K K' m => ha.mono _ _ _ fun x => hb.mono _ _ _ fun y ⟨xs, k, h1, h2, h3, h4, h5, q⟩ => ⟨xs, k, h1, h2, h3, h4, h5, m _ q⟩, fun H0 O L => (pe_op op_rep (ha.pe H0 O L) (hb.pe H0 O L)).imp' fun σ H Q ⟨ρ, own, E, k⟩ => ⟨ρ, own, E, ha.mono _ _ _ (fun x k2 v H1 e1 d1 r1 => ?_) k⟩⟩
  refine ⟨ρ, own, E.move e1 d1, hb.mono _ _ _ (fun y ⟨xs, k, ex, ey, h3, h4, h5, q⟩ w H2 e2 d2 r2 => ?_) k2⟩
  subst ex ey
  obtain ⟨l, vs, rfl, hp, rp⟩ := r1.ext E.hdk e2
  have m := mil
  refine ⟨l, k, vs, rfl, r2, hp.2, by omega, by omega, by rw [← rp.length]; omega, fun t n => ?_⟩
  exact q t _ _ (none_back E (e1.trans e2) n d2) upd_same ((e1.trans e2).trans (ext_new n)) (dk_new d2 n) ((rep_flat rp _).newp n)
def lCat (fa fb : WE) : WL := fun ρ K => fa ρ fun x => fb ρ fun y => ∃ xs ys, x = .lst xs ∧ y = .lst ys ∧ xs.length + ys.length ≤ 1000000 ∧ K (xs ++ ys)
theorem pdf_cat (ha : PD X g xp a fa) (hb : PD X g xp b fb) : PDF X g xp (.BinOp a .Add b pos) (lCat fa fb) := by
  refine ⟨fun ρ K K' m => ha.mono _ _ _ fun x => hb.mono _ _ _ fun y ⟨xs, ys, h1, h2, h3, q⟩ => ⟨xs, ys, h1, h2, h3, m _ q⟩, fun H0 O L => (pe_op op_cat (ha.pe H0 O L) (hb.pe H0 O L)).imp' fun σ H Q ⟨ρ, own, E, k⟩ => ⟨ρ, own, E, ha.mono _ _ _ (fun x k2 v H1 e1 d1 r1 => ?_) k⟩⟩
  refine ⟨ρ, own, E.move e1 d1, hb.mono _ _ _ (fun y ⟨xs, ys, ex, ey, h3, q⟩ w H2 e2 d2 r2 => ?_) k2⟩
  subst ex ey
  obtain ⟨l, vs, rfl, hp, rp⟩ := r1.ext E.hdk e2
  obtain ⟨l', us, rfl, hp', rp'⟩ := r2
  have m := mil
  refine ⟨l, l', vs, us, rfl, rfl, hp.2, hp'.2, by rw [← rp.length, ← rp'.length]; omega, fun t n => ?_⟩
  exact q t _ _ (none_back E (e1.trans e2) n d2) upd_same ((e1.trans e2).trans (ext_new n)) (dk_new d2 n) ((rp.append rp').newp n)
/-- list(x) -/
def lList (fa : WE) : WL := fun ρ K => fa ρ fun x => ∃ xs, (x = .lst xs ∨ x = .tup xs) ∧ K xs
theorem pdf_list (G : XG X g) (ha : PD X g xp a fa) (hm : g.mg "list" = none) (hv : bootBuiltins (Str.ofString "list") = some (.type "list") := by decide +kernel) (hg : Gl X "list" := by rfl)
    (he : starEach [a] X.env = (false, eval a X.env) :: starEach [] X.env := by rfl) (hpl : (backTo pos (starEach [] X.env)).any (·.1) = false := by rfl) : PDF X g xp (.Call (.Name "list" p) [a] [] pos) (lList fa) := by
  have hs : PDA X g xp [a] (wCons fa wNil) := pda_cons ha pda_nil he
  refine ⟨fun ρ K K' m => ha.mono _ _ _ fun x ⟨xs, h, k⟩ => ⟨xs, h, m _ k⟩, fun H0 O L => (pe_callTy call_list_of hg (by rw [G.mg]; exact hm) hv (hs.pa H0 O L) (by decide) (by decide) he hpl).imp' fun σ H Q ⟨ρ, own, E, k⟩ => ⟨ρ, own, E, ?_⟩⟩
  refine ha.mono _ _ _ (fun x ⟨xs, h, k⟩ vs H1 e1 d1 r1 => ?_) k
  obtain ⟨v, rfl, rv⟩ := repl1 r1
  have hK := G.K
  rcases h with h | h
  · subst h
    obtain ⟨l, us, rfl, hp, rp⟩ := rv
    exact ⟨l, us, rfl, .inl (by rw [hK]; exact hp.sq), fun t n => k t _ _ (none_back E e1 n d1) upd_same (e1.trans (ext_new n)) (dk_new d1 n) (rp.newp n)⟩
  · subst h
    obtain ⟨l, us, rfl, hp, rp⟩ := rv
    exact ⟨l, us, rfl, .inr (by rw [hK]; exact hp.sq), fun t n => k t _ _ (none_back E e1 n d1) upd_same (e1.trans (ext_new n)) (dk_new d1 n) (rp.newp n)⟩
/-- a new list is a value too -/
def wOfL (fl : WL) : WE := fun ρ K => fl ρ fun xs => K (.lst xs)
theorem pd_ofL (h : PDF X g xp e fl) : PD X g xp e (wOfL fl) := by
  refine ⟨fun ρ K K' m => h.mono _ _ _ fun xs => m _, fun H0 O L => (h.pe H0 O L).imp' fun σ H Q ⟨ρ, own, E, k⟩ => ⟨ρ, own, E, h.mono _ _ _ (fun xs k p vs H2 n hp e2 d2 r2 => ?_) k⟩⟩
  refine k _ H2 e2 d2 ⟨p, vs, rfl, ⟨(E.noneOf n).1, hp⟩, r2.less fun b hb => .inl hb⟩
/-- name = a new list that is to be changed -/
def wSetL (i : Nat) (fl : WL) : WS := fun P ρ => i < ρ.length ∧ fl ρ fun xs => P.nx (ρ.set i (.lv xs))
theorem psd_setL (i : Nat) {x : Str} (hN : X.N.Nodup) (he : PDF X g xp e fl) (hi : X.N[i]? = some x := by rfl) (hx : Loc X.env.scope x := by first | exact Or.inl rfl | exact Or.inr rfl) (hs : swapsWith e (some (.Name x p)) pos.line X.env = pure false := by rfl)
    (hf : X.fn x = true ∨ X.env.scope.names.lookup x = some .local := by first | exact .inl rfl | exact .inr rfl | assumption) : PSD X g xp (.Assign [.Name x p] e pos) (wSetL i fl) := by
  refine ⟨fun P P' ρ l ⟨h, k⟩ => ⟨h, he.mono _ _ _ (fun d => l.nx _) k⟩, fun H0 O L => ps_imp (ps_set (i := i) hN hi hx (he.pe H0 O L) hs hf) fun Dn σ H ⟨ρ, own, P, E, po, hl, k⟩ => ⟨ρ, own, E, he.mono _ _ _ (fun xs k p vs H2 n hp e2 d2 r2 => ?_) k⟩⟩
  exact po.nx _ _ _ _ k (E.fresh i hl n hp e2 d2 r2)
/-! ### changed -/
/-- what the rules of a list's methods ask of the call's text -/
theorem tyL {K : PySem.W.Frag} {H : Hp} {a : Addr} {vs : List V} (h : H a = some (.lst vs)) : tyV K "list" (.ref a) H := .inl ⟨rfl, vs, .inl (.inl h)⟩
def wApp (i : Nat) (fe : WE) : WS := fun P ρ => ∃ xs, ρ[i]? = some (.lv xs) ∧ fe ρ fun d => xs.length < 1000000 ∧ P.nx (ρ.set i (.lv (xs ++ [d])))
theorem psd_app (i : Nat) {x : Str} {p ap cp : Pos} (he : PD X g xp e fe) (hN : X.N[i]? = some x := by rfl) (hv : Vis X.env.scope x := by first | exact Or.inl rfl | exact Or.inr (Or.inl rfl) | exact Or.inr (Or.inr rfl)) (hd : (x == ("__debug__" : Str)) = false := by decide)
    (hcd : (x == ("__classdict__" : Str)) = false := by decide) (hsw : swapsWith (.Call (.Attribute (.Name x p) "append" ap) [e] [] cp) none pos.line X.env = pure false := by rfl)
    (hfew : ((backTo cp (starEach [e] X.env)).all (fun x => !x.1) && (backToKw cp (keywordEach [] X.env)).all (fun x => x.1.isSome)
      && decide ([e].length + ([] : List Keyword).length + (if ([] : List Keyword).isEmpty then 0 else 1) < 30)) = true := by rfl)
    (hline : (ap.endLine == cp.line) = true := by rfl) (hs : starEach [e] X.env = (false, eval e X.env) :: starEach [] X.env := by rfl) (hplain : (backTo cp (starEach [] X.env)).any (·.1) = false := by rfl) :
    PSD X g xp (.Expr (.Call (.Attribute (.Name x p) "append" ap) [e] [] cp) pos) (wApp i fe) := by
  have ha : PDA X g xp [e] (wCons fe wNil) := pda_cons he pda_nil hs
  refine ⟨fun P P' ρ l ⟨xs, q, k⟩ => ⟨xs, q, he.mono _ _ _ (fun d ⟨z, k⟩ => ⟨z, l.nx _ k⟩) k⟩, fun H0 O L => ps_imp (ps_expr (pe_bm PySem.F.plainAttrs_list PySem.F.slot_list_append PySem.F.type_list_append mt_append (pe_var hN hv hd hcd) (ha.pa H0 O L) rfl hfew hline hs hplain) hsw) fun Dn σ H ⟨ρ, own, P, E, po, xs, q, k⟩ => ?_⟩
  obtain ⟨a, vs, h1, h2, h3, h4⟩ := E.at_lv q
  refine ⟨.ref a, h2, tyL h3, ρ, own, E, he.mono _ _ _ (fun d ⟨z, k⟩ us H1 e1 d1 r1 => ?_) k⟩
  obtain ⟨v, rfl, rv⟩ := repl1 r1
  have m := mil
  have h5 := h4.ext E.hdk e1
  exact ⟨a, vs, v, rfl, rfl, e1 a _ (E.ndk h1) h3, by rw [← h4.length]; omega, po.nx _ _ _ _ k ((E.move e1 d1).wr q h1 (h5.append (RepL.one rv)))⟩
def wExt (i : Nat) (fe : WE) : WS := fun P ρ => ∃ xs, ρ[i]? = some (.lv xs) ∧ fe ρ fun d => ∃ ys, d = .lst ys ∧ xs.length + ys.length ≤ 1000000 ∧ P.nx (ρ.set i (.lv (xs ++ ys)))
theorem psd_ext (i : Nat) {x : Str} {p ap cp : Pos} (he : PD X g xp e fe) (hN : X.N[i]? = some x := by rfl) (hv : Vis X.env.scope x := by first | exact Or.inl rfl | exact Or.inr (Or.inl rfl) | exact Or.inr (Or.inr rfl)) (hd : (x == ("__debug__" : Str)) = false := by decide)
    (hcd : (x == ("__classdict__" : Str)) = false := by decide) (hsw : swapsWith (.Call (.Attribute (.Name x p) "extend" ap) [e] [] cp) none pos.line X.env = pure false := by rfl)
    (hfew : ((backTo cp (starEach [e] X.env)).all (fun x => !x.1) && (backToKw cp (keywordEach [] X.env)).all (fun x => x.1.isSome)
      && decide ([e].length + ([] : List Keyword).length + (if ([] : List Keyword).isEmpty then 0 else 1) < 30)) = true := by rfl)
    (hline : (ap.endLine == cp.line) = true := by rfl) (hs : starEach [e] X.env = (false, eval e X.env) :: starEach [] X.env := by rfl) (hplain : (backTo cp (starEach [] X.env)).any (·.1) = false := by rfl) :
    PSD X g xp (.Expr (.Call (.Attribute (.Name x p) "extend" ap) [e] [] cp) pos) (wExt i fe) := by
  have ha : PDA X g xp [e] (wCons fe wNil) := pda_cons he pda_nil hs
  refine ⟨fun P P' ρ l ⟨xs, q, k⟩ => ⟨xs, q, he.mono _ _ _ (fun d ⟨ys, z, z2, k⟩ => ⟨ys, z, z2, l.nx _ k⟩) k⟩, fun H0 O L => ps_imp (ps_expr (pe_bm PySem.F.plainAttrs_list PySem.F.slot_list_extend PySem.F.type_list_extend mt_extend (pe_var hN hv hd hcd) (ha.pa H0 O L) rfl hfew hline hs hplain) hsw) fun Dn σ H ⟨ρ, own, P, E, po, xs, q, k⟩ => ?_⟩
  obtain ⟨a, vs, h1, h2, h3, h4⟩ := E.at_lv q
  refine ⟨.ref a, h2, tyL h3, ρ, own, E, he.mono _ _ _ (fun d ⟨ys, ed, z, k⟩ us H1 e1 d1 r1 => ?_) k⟩
  subst ed
  obtain ⟨v, rfl, rv⟩ := repl1 r1
  obtain ⟨b, ws, rfl, hb, rb⟩ := rv
  have m := mil
  have h5 := h4.ext E.hdk e1
  exact ⟨a, b, vs, ws, rfl, rfl, e1 a _ (E.ndk h1) h3, hb.2, by rw [← h4.length, ← rb.length]; omega, po.nx _ _ _ _ k ((E.move e1 d1).wr q h1 (h5.append rb))⟩
theorem repl_dropLast {H : Hp} {O : Addr → Prop} {ds : List D} {vs : List V} (r : RepL g H O ds vs) : RepL g H O ds.dropLast vs.dropLast := by
  rw [List.dropLast_eq_take, List.dropLast_eq_take, r.length]; exact r.take _
/-- x.pop() -/
def wPop (i : Nat) : WS := fun P ρ => ∃ xs, ρ[i]? = some (.lv xs) ∧ xs ≠ [] ∧ P.nx (ρ.set i (.lv xs.dropLast))
theorem psd_pop (i : Nat) {x : Str} {p ap cp : Pos} (hN : X.N[i]? = some x := by rfl) (hv : Vis X.env.scope x := by first | exact Or.inl rfl | exact Or.inr (Or.inl rfl) | exact Or.inr (Or.inr rfl)) (hd : (x == ("__debug__" : Str)) = false := by decide)
    (hcd : (x == ("__classdict__" : Str)) = false := by decide) (hsw : swapsWith (.Call (.Attribute (.Name x p) "pop" ap) [] [] cp) none pos.line X.env = pure false := by rfl) (hline : (ap.endLine == cp.line) = true := by rfl) :
    PSD X g xp (.Expr (.Call (.Attribute (.Name x p) "pop" ap) [] [] cp) pos) (wPop i) := by
  refine ⟨fun P P' ρ l ⟨xs, q, z, k⟩ => ⟨xs, q, z, l.nx _ k⟩, fun H0 O L => ps_imp (ps_expr (pe_bm0 PySem.F.plainAttrs_list PySem.F.slot_list_pop PySem.F.type_list_pop mt_pop (pe_var hN hv hd hcd) rfl hline) hsw) fun Dn σ H ⟨ρ, own, P, E, po, xs, q, z, k⟩ => ?_⟩
  obtain ⟨a, vs, h1, h2, h3, h4⟩ := E.at_lv q
  have hl := h4.length
  have hv : vs ≠ [] := fun w => z (List.eq_nil_of_length_eq_zero (by rw [hl, w]; rfl))
  have hp : 0 < vs.length := List.length_pos_iff.mpr hv
  exact ⟨.ref a, h2, tyL h3, a, vs, vs[vs.length - 1], rfl, rfl, h3, by rw [List.getElem?_eq_getElem (by omega)], po.nx _ _ _ _ k (E.wr q h1 (repl_dropLast h4))⟩
/-- x[k] = e -/
def wSetI (i : Nat) (fk fe : WE) : WS := fun P ρ => ∃ xs, ρ[i]? = some (.lv xs) ∧ fe ρ fun d => fk ρ fun k => ∃ n j, k = .int n ∧ ixN xs.length n = some j ∧ P.nx (ρ.set i (.lv (xs.set j d)))
theorem psd_setI (i : Nat) {x : Str} {p sp : Pos} (hk : PD X g xp b fb) (he : PD X g xp e fe) (hN : X.N[i]? = some x := by rfl) (hv : Vis X.env.scope x := by first | exact Or.inl rfl | exact Or.inr (Or.inl rfl) | exact Or.inr (Or.inr rfl)) (hd : (x == ("__debug__" : Str)) = false := by decide)
    (hcd : (x == ("__classdict__" : Str)) = false := by decide) (ha : ∀ v, assign (.Subscript (.Name x p) b sp) X.env v = (do
      let ov ← holding [v] (eval (.Name x p) X.env)
      let iv ← holding [v, ov] (eval b X.env)
      standAt sp
      holding [v, ov, iv] (setItem ov iv v)
      release [v, ov, iv] []) := by intro _; rfl) (hs : swapsWithSole [.Subscript (.Name x p) b sp] e pos.line X.env = pure false := by rfl) (hw : swappedStores [.Subscript (.Name x p) b sp] e X.env = pure none := by rfl)
    (h1 : (assignEach [.Subscript (.Name x p) b sp] X.env).map (·.2) = [assign (.Subscript (.Name x p) b sp) X.env] := by rfl) : PSD X g xp (.Assign [.Subscript (.Name x p) b sp] e pos) (wSetI i fb fe) := by
  refine ⟨fun P P' ρ l ⟨xs, q, k⟩ => ⟨xs, q, he.mono _ _ _ (fun d => hk.mono _ _ _ fun k ⟨n, j, z1, z2, k⟩ => ⟨n, j, z1, z2, l.nx _ k⟩) k⟩, fun H0 O L => ps_imp (ps_asg (he.pe H0 O L) (pg_sub (pe_var hN hv hd hcd) (hk.pe H0 O L) set_list ha) hs hw h1) fun Dn σ H ⟨ρ, own, P, E, po, xs, q, k⟩ => ?_⟩
  obtain ⟨a, vs, h1, h2, h3, h4⟩ := E.at_lv q
  refine ⟨ρ, own, E, he.mono _ _ _ (fun d k v H1 e1 d1 r1 => ⟨.ref a, h2, ρ, own, E.move e1 d1, hk.mono _ _ _ (fun y ⟨n, j, ey, hj, k⟩ w H2 e2 d2 r2 => ?_) k⟩) k⟩
  subst ey
  have h5 := (h4.ext E.hdk e1).ext E.hdk e2
  exact ⟨a, vs, n, j, rfl, r2, e2 a _ (E.ndk h1) (e1 a _ (E.ndk h1) h3), by rw [← h4.length]; exact hj, po.nx _ _ _ _ k (((E.move e1 d1).move e2 d2).wr q h1 (RepL.set j h5 (r1.ext E.hdk e2)))⟩
/-- x[k] op= e -/
theorem get_list : PGet X (rIxL X.K) := by
  intro pins s σ H x y v u Q I rx ry h
  obtain ⟨p, xs, i, z, rfl, rfl, hq, he, q⟩ := h
  cases rx
  obtain ⟨t, rfl⟩ := ry
  obtain ⟨its, r, pl, hz⟩ := I.list hq
  obtain ⟨j, h1, h2, h3, h4, h5⟩ := atI_get he
  obtain ⟨w, ew, rw'⟩ := r.get h2
  have hl := r.length
  have hn := line63
  have fin : EP X pins σ Q w s := ⟨z, H, I, rw', q⟩
  by_cases h0 : 0 ≤ i
  · have hj : i.toNat = j := by
      rw [seqIndex_of h0 h5] at h1
      exact Option.some.inj h1
    exact wpAny_getItem_list pl.isList h0 (by omega) (by rw [hj]; simpa using ew) fin
  · have hj : (i + (its.toArray.size : Int)).toNat = j := by
      rw [seqIndex_neg (by omega) h4] at h1
      rw [List.size_toArray, ← hl]
      exact Option.some.inj h1
    exact wpAny_getItem_list_neg pl.isList (by omega) (by rw [List.size_toArray] <;> omega) (by omega) (by rw [hj]; simpa using ew) fin
def wAugI (i : Nat) (k : D → D → (D → Prop) → Prop) (fk fe : WE) : WS := fun P ρ => ∃ xs, ρ[i]? = some (.lv xs) ∧ fk ρ fun y => ∃ n j x, y = .int n ∧ ixN xs.length n = some j ∧ xs[j]? = some x ∧ fe ρ fun y => k x y fun z => P.nx (ρ.set i (.lv (xs.set j z)))
theorem psd_augI (i : Nat) {x : Str} {p sp : Pos} {op : Operator} {k : D → D → (D → Prop) → Prop} (G : XG X g) (o : OpD X g (inplaceOp op) k) (hk : PD X g xp b fb) (he : PD X g xp e fe) (hN : X.N[i]? = some x := by rfl) (hv : Vis X.env.scope x := by first | exact Or.inl rfl | exact Or.inr (Or.inl rfl) | exact Or.inr (Or.inr rfl)) (hd : (x == ("__debug__" : Str)) = false := by decide)
    (hcd : (x == ("__classdict__" : Str)) = false := by decide) (ha : ∀ ov iv new, augStore b ov iv new = (do holding [new, ov, iv] (setItem ov iv new); release [new, ov, iv] []; pure .next) := by intros; rfl) : PSD X g xp (.AugAssign (.Subscript (.Name x p) b sp) op e pos) (wAugI i k fb fe) := by
  obtain ⟨r, ho, hr⟩ := o.ex
  have ip : PIp X op (fun x y H Q => r x y H Q) := fun pins s σ H x y v u Q I r1 r2 h => ho pins s σ H x y v u Q I r1 r2 h
  refine ⟨fun P P' ρ l ⟨xs, q, k⟩ => ⟨xs, q, hk.mono _ _ _ (fun y ⟨n, j, x, z1, z2, z3, k⟩ => ⟨n, j, x, z1, z2, z3, he.mono _ _ _ (fun y => o.mono _ _ _ _ fun z => l.nx _) k⟩) k⟩, fun H0 O L => ps_imp (ps_augS (pe_var hN hv hd hcd) (hk.pe H0 O L) get_list (he.pe H0 O L) ip set_list ha) fun Dn σ H ⟨ρ, own, P, E, po, xs, q, k⟩ => ?_⟩
  obtain ⟨a, vs, h1, h2, h3, h4⟩ := E.at_lv q
  have hK := G.K
  refine ⟨.ref a, h2, ρ, own, E, hk.mono _ _ _ (fun y ⟨n, j, xd, ey, hj, hx, k⟩ w H1 e1 d1 r1 => ?_) k⟩
  subst ey
  have h5 := h4.ext E.hdk e1
  obtain ⟨xv, hxv, rxv⟩ := h5.getD hx
  refine ⟨a, vs, n, xv, rfl, r1, .inl (.inl (e1 a _ (E.ndk h1) h3)), by unfold atI; rw [← h4.length, hj]; exact hxv, ρ, own, E.move e1 d1, he.mono _ _ _ (fun y k2 u H2 e2 d2 r2 => ?_) k⟩
  refine hr xd y _ H2 _ xv u _ ((E.move e1 d1).move e2 d2).vw (rxv.ext E.hdk e2) r2 k2 fun z k3 t H3 e3 d3 r3 => ?_
  have h6 := (h5.ext E.hdk e2).ext E.hdk e3
  exact ⟨a, vs, n, j, rfl, r1, e3 a _ (E.ndk h1) (e2 a _ (E.ndk h1) (e1 a _ (E.ndk h1) h3)), by rw [← h4.length]; exact hj, po.nx _ _ _ _ k3 ((((E.move e1 d1).move e2 d2).move e3 d3).wr q h1 (RepL.set j h6 r3))⟩
/-! ### while -/
def wWhileN (ft : WT) (fb : WS) : Nat → WS
  | 0, _, _ => False
  | n + 1, P, ρ => ft ρ fun b => if b = true then fb { nx := wWhileN ft fb n P, rt := P.rt, bk := P.nx, ct := wWhileN ft fb n P } ρ else P.nx ρ
def wWhile (ft : WT) (fb : WS) : WS := fun P ρ => ∃ n, wWhileN ft fb n P ρ
theorem psd_while {body : List Stmt} {fb : WS} (hp : PassesOwn (model X.prog X.w) X.A X.env X.xe) (hc : PDT X g xp c ft) (hb : PSsD X g xp body fb) : PSD X g xp (.While c body [] pos) (wWhile ft fb) := by
  have mono : ∀ (P P' : Post), P.le P' → ∀ n ρ, wWhileN ft fb n P ρ → wWhileN ft fb n P' ρ := fun P P' l n => by
    induction n with
    | zero => exact fun ρ h => h
    | succ n ih => exact fun ρ => hc.mono _ _ _ fun b => ite_mono (hb.mono _ _ _ ⟨ih, l.rt, l.nx, ih⟩) (l.nx ρ)
  refine ⟨fun P P' ρ l ⟨n, k⟩ => ⟨n, mono P P' l n ρ k⟩, fun H0 O L => ps_imp (ps_while hp (hc.pt H0 O L) (hb.ps H0 O L)) fun Dn σ H ⟨ρ, own, P, E, po, n, k⟩ => ?_⟩
  refine ⟨fun m σ H => ∃ ρ own, EnvOk g H0 O σ H ρ own ∧ wWhileN ft fb m P ρ, ⟨n, ρ, own, E, k⟩, fun m σ H ⟨ρ, own, E, k⟩ => ?_⟩
  cases m with
  | zero => exact k.elim
  | succ m =>
    refine ⟨ρ, own, E, hc.mono _ _ _ (fun b k2 H1 e1 d1 => ?_) k⟩
    cases b with
    | false => exact po.nx ρ σ H1 own k2 (E.move e1 d1)
    | true =>
      rw [if_pos rfl] at k2 ⊢
      refine ⟨fun σ' H' => ∃ ρ own, EnvOk g H0 O σ' H' ρ own ∧ wWhileN ft fb m P ρ, fun σ' H' h => ⟨m, Nat.lt_succ_self m, h⟩, ρ, own, { nx := wWhileN ft fb m P, rt := P.rt, bk := P.nx, ct := wWhileN ft fb m P }, E.move e1 d1, ⟨fun ρ' σ' H' own' k' E' => ⟨ρ', own', E', k'⟩, po.rt, fun ρ' σ' H' own' k' E' => po.nx _ _ _ _ k' E', fun ρ' σ' H' own' k' E' => ⟨ρ', own', E', k'⟩⟩, k2⟩
end
end DL
end
section
set_option Elab.async false
set_option linter.all false
set_option maxRecDepth 100000
set_option maxHeartbeats 4000000
/-! DZ: enumerate and zip over lists and tuples alike. -/
namespace DL
open PySem PySem.Spec PyProof.Rows L2
/-- an iterator of a list (true) or of a tuple -/
def SIt : Bool → Heap → Addr → Addr → Nat → Prop
  | true, h, it, l, i => h.IsListIter it l i
  | false, h, it, l, i => h.IsTupleIter it l i
def SSq : Bool → Heap → Addr → Array Value → Prop
  | true, h, l, xs => h.IsList l xs
  | false, h, l, xs => h.IsTuple l xs
theorem SIt.ex {k : Bool} {h : Heap} {it l : Addr} {i : Nat} (x : SIt k h it l i) : ∃ o, h.get? it = some o ∧ ∀ v, o.data ≠ .cell v := by
  cases k <;> (obtain ⟨o, e, _, d⟩ := x; exact ⟨o, e, fun v q => by rw [d] at q; cases q⟩)
theorem SIt.to {k : Bool} {h h' : Heap} {it l : Addr} {i : Nat} (x : SIt k h it l i) (m : ∀ o, h.get? it = some o → h'.get? it = some o) : SIt k h' it l i := by
  cases k <;> (obtain ⟨o, e, c, d⟩ := x; exact ⟨o, m o e, c, d⟩)
theorem SSq.to {k : Bool} {h h' : Heap} {l : Addr} {xs : Array Value} (x : SSq k h l xs) (m : ∀ o, h.get? l = some o → h'.get? l = some o) : SSq k h' l xs := by
  cases k <;> (obtain ⟨o, e, r⟩ := x; exact ⟨o, m o e, r⟩)
theorem SSq.at_ {k : Bool} {h : Heap} {l : Addr} {xs : Array Value} (x : SSq k h l xs) : ∃ o, h.get? l = some o := by
  cases k <;> (obtain ⟨o, e, _⟩ := x; exact ⟨o, e⟩)
section
variable {prog : Program} {w : World} {A : Around} {E : Value → Shared → Prop} {s : Shared}
theorem sit_item {k : Bool} {it l : Addr} {i : Nat} {xs : Array Value} {x : Value} {Q : Value → Shared → Prop} (a : SIt k s.heap it l i) (b : SSq k s.heap l xs) (e : xs[i]? = some x)
    (q : ∀ h', SIt k h' it l (i + 1) → Heap.SameBut it s.heap h' → Q x { s with heap := h' }) : wpAny (model prog w) A (Builtin.SmallTypes.nextOf (.ref it)) Q E s := by
  cases k with
  | true => exact wpAny_nextOf_list_item a b e q
  | false => exact RZ.nextOf_tuple_item a b e q
theorem sit_end {k : Bool} {it l : Addr} {i : Nat} {xs : Array Value} {Q : Value → Shared → Prop} (hh : A.handled = none) (a : SIt k s.heap it l i) (b : SSq k s.heap l xs) (e : xs[i]? = none)
    (q : ∀ h' r, Heap.ExtBut it s.heap h' → (∃ o, h'.get? r = some o ∧ o.cls = .type "StopIteration") → E (.ref r) { s with heap := h' }) : wpAny (model prog w) A (Builtin.SmallTypes.nextOf (.ref it)) Q E s := by
  cases k with
  | true => exact wpAny_nextOf_list_end hh a b e q
  | false => exact RZ.nextOf_tuple_end hh a b e q
theorem sit_iter {k : Bool} {l : Addr} {xs : Array Value} {Q : Value → Shared → Prop} (b : SSq k s.heap l xs)
    (q : ∀ h', SIt k h' s.heap.objs.size l 0 → h'.objs.size = s.heap.objs.size + 1 → (∀ c o, s.heap.get? c = some o → h'.get? c = some o) → Q (.ref s.heap.objs.size) { s with heap := h' }) : wpAny (model prog w) A (pyIter (.ref l)) Q E s := by
  cases k with
  | true => exact wpAny_pyIter_list b (q _ ⟨_, Heap.get?_push_size _ rfl, rfl, rfl⟩ (Heap.size_push ..) fun c o x => Heap.get?_push_of_some _ x)
  | false => exact wpAny_pyIter_tuple b (q _ ⟨_, Heap.get?_push_size _ rfl, rfl, rfl⟩ (Heap.size_push ..) fun c o x => Heap.get?_push_of_some _ x)

/-! ### enumerate -/
theorem en_step {k : Bool} {e it l : Addr} {i : Nat} {xs : Array Value} {x old : Value} {Q : Option Value → Shared → Prop} (he : IsEnum s.heap e it i old) (hit : SIt k s.heap it l i) (hl : SSq k s.heap l xs) (hx : xs[i]? = some x) (hne : e ≠ it)
    (q : ∀ h', IsEnumOut h' e it ((i : Int) + 1) x s.heap.objs.size → SIt k h' it l (i + 1) → h'.get? s.heap.objs.size = some { cls := .type "tuple", data := .seq #[.int i s.toks, x] } →
      (∀ b o, b ≠ e → b ≠ it → s.heap.get? b = some o → h'.get? b = some o) → Q (some (.ref s.heap.objs.size)) { s with heap := h', toks := s.toks + 1 }) : wpAny (model prog w) A (pyNext (.ref e)) Q E s := by
  have ty : s.TypeIs (.ref e) "enumerate" := ⟨_, he, rfl⟩
  have core : wpAny (model prog w) A.in1 (Builtin.«enumerate.__next__» ⟨[.ref e], []⟩) (fun fin s' => ∃ v, fin = .done (.ret v) ∧ Q (some v) s') (fun v s' => wpAny (model prog w) A (do
      if ← isInstance v (.type "StopIteration") then pure none else throw v) Q E s') s := by
    obtain ⟨h0, g, d, tk, os⟩ := s
    show wpAny _ _ (field (.ref e) 2 >>= _) _ _ _
    refine wpAny_bind (wpAny_field he rfl (x := .ref it) rfl (wpAny_bind (sit_item hit hl hx fun h1 t1 b1 => ?_)))
    replace b1 : Heap.SameBut it h0 h1 := b1
    have e1 : IsEnum h1 e it i old := (b1.2 e hne).trans he
    show wpAny _ _ (field (.ref e) 3 >>= _) _ _ ⟨h1, g, d, tk, os⟩
    refine wpAny_bind (wpAny_field e1 rfl (x := rawInt i) rfl ?_)
    show wpAny _ _ (field (.ref e) 4 >>= _) _ _ ⟨h1, g, d, tk, os⟩
    refine wpAny_bind (wpAny_field e1 rfl (x := .none) rfl ?_)
    show wpAny _ _ (mkInt i >>= _) _ _ ⟨h1, g, d, tk, os⟩
    refine wpAny_bind (wpAny_mkInt ?_)
    show wpAny _ _ (setField (.ref e) 3 (rawInt ((i : Int) + 1)) >>= _) _ _ ⟨h1, g, d, tk + 1, os⟩
    refine wpAny_bind (wpAny_setField_rec e1 (by simp) fun h2 e2 b2 => ?_)
    replace b2 : Heap.SameBut e h1 h2 := b2
    replace e2 : IsEnum h2 e it ((i : Int) + 1) old := e2
    show wpAny _ _ (setField (.ref e) 4 .none >>= _) _ _ ⟨h2, g, d, tk + 1, os⟩
    refine wpAny_bind (wpAny_setField_rec e2 (by simp) fun h3 e3 b3 => ?_)
    replace b3 : Heap.SameBut e h2 h3 := b3
    replace e3 : IsEnum h3 e it ((i : Int) + 1) old := e3
    show wpAny _ _ (newTuple [.int i tk, x] >>= _) _ _ ⟨h3, g, d, tk + 1, os⟩
    refine wpAny_bind (wpAny_newTuple ?_)
    have sz : h3.objs.size = h0.objs.size := by rw [b3.1, b2.1, b1.1]
    have lt : e < h0.objs.size := Heap.lt_size he
    have keep3 : ∀ b o, b ≠ e → b ≠ it → h0.get? b = some o → h3.get? b = some o := fun b o n1 n2 z => (b3.2 b n1).trans ((b2.2 b n1).trans ((b1.2 b n2).trans z))
    have t3 : SIt k h3 it l (i + 1) := t1.to fun o z => (b3.2 it (Ne.symm hne)).trans ((b2.2 it (Ne.symm hne)).trans z)
    generalize hp : h3.push { cls := .type "tuple", data := .seq #[.int i tk, x] } = h4
    have up : ∀ b o, h3.get? b = some o → h4.get? b = some o := fun b o z => by rw [← hp]; exact Heap.get?_push_of_some _ z
    have e4 : IsEnum h4 e it ((i : Int) + 1) old := up _ _ e3
    have n4 : h4.get? h0.objs.size = some { cls := .type "tuple", data := .seq #[.int i tk, x] } := by rw [← hp, ← sz]; exact Heap.get?_push_size _ rfl
    show wpAny _ _ (Builtin.SmallTypes.ownedTupleIsFree (.ref e) >>= _) _ _ ⟨h4, g, d, tk + 1, os⟩
    rw [sz]
    refine wpAny_bind ?_
    unfold Builtin.SmallTypes.ownedTupleIsFree
    refine wpAny_bind (wpAny_field e4 rfl (x := .none) rfl (wpAny_pure ?_))
    simp only [if_true]
    refine wpAny_bind (wpAny_rule (wpAny_bind (wpAny_field e4 rfl (x := old) rfl ?_)))
    refine wpAny_bind (wpAny_setField_rec e4 (by simp) fun h5 e5 b5 => ?_)
    replace b5 : Heap.SameBut e h4 h5 := b5
    replace e5 : IsEnum h5 e it ((i : Int) + 1) x := e5
    show wpAny _ _ (Builtin.SmallTypes.ownedTupleHandOut (.ref e) (.ref h0.objs.size) >>= _) _ _ ⟨h5, g, d, tk + 1, os⟩
    refine wpAny_bind ?_
    unfold Builtin.SmallTypes.ownedTupleHandOut
    refine wpAny_bind (wpAny_setField_rec e5 (by simp) fun h6 e6 b6 => ?_)
    replace b6 : Heap.SameBut e h5 h6 := b6
    replace e6 : IsEnumOut h6 e it ((i : Int) + 1) x h0.objs.size := e6
    refine wpAny_setField_rec e6 (by simp) fun h7 e7 b7 => ?_
    replace b7 : Heap.SameBut e h6 h7 := b7
    replace e7 : IsEnumOut h7 e it ((i : Int) + 1) x h0.objs.size := e7
    have fin7 : ∀ b o, b ≠ e → h4.get? b = some o → h7.get? b = some o := fun b o n z => (b7.2 b n).trans ((b6.2 b n).trans ((b5.2 b n).trans z))
    refine wpAny_bind (wpAny_letGo (wpAny_pure ⟨_, rfl, q h7 e7 (t3.to fun o z => fin7 _ o (Ne.symm hne) (up _ o z)) (fin7 _ _ (Nat.ne_of_gt lt) n4) fun b o n1 n2 z => fin7 b o n1 (up b o (keep3 b o n1 n2 z))⟩))
  unfold pyNext
  refine wpAny_bind (wpAny_attempt (wpAny_callSpecial?_slot (name := Str.ofString "__next__") ty F.slot_enumerate_next (wpAny_call_entry F.slot_enumerate_next ty F.entry_enumerate_next ?_ (F.args_enumerate_next_1 _))))
  exact wpAny_mono core (fun fin s' ⟨v, e1, h⟩ => ⟨v, e1, wpAny_pure h⟩) fun v s' h => h
theorem en_stop {k : Bool} {e it l : Addr} {i : Nat} {xs : Array Value} {old : Value} {Q : Option Value → Shared → Prop} (hh : A.handled = none) (he : IsEnum s.heap e it i old) (hit : SIt k s.heap it l i) (hl : SSq k s.heap l xs) (hx : xs[i]? = none)
    (q : ∀ h', Heap.ExtBut it s.heap h' → Q none { s with heap := h' }) : wpAny (model prog w) A (pyNext (.ref e)) Q E s := by
  have ty : s.TypeIs (.ref e) "enumerate" := ⟨_, he, rfl⟩
  unfold pyNext
  refine wpAny_bind (wpAny_attempt (wpAny_callSpecial?_slot (name := Str.ofString "__next__") ty F.slot_enumerate_next (wpAny_call_entry F.slot_enumerate_next ty F.entry_enumerate_next ?_ (F.args_enumerate_next_1 _))))
  show wpAny _ _ (field (.ref e) 2 >>= _) _ _ _
  refine wpAny_bind (wpAny_field he rfl (x := .ref it) rfl (wpAny_bind (sit_end hh hit hl hx fun h' r x y => ?_)))
  obtain ⟨o, ho, hc⟩ := y
  exact wpAny_bind (wpAny_isInstance (T := "StopIteration") (b := true) ⟨o, ho, hc⟩ isSubtype_stop (wpAny_pure (q _ x)))
abbrev enH (k : Bool) (h : Heap) (l : Addr) : Heap := (h.push { cls := .type (if k then "list_iterator" else "tuple_iterator"), data := .fields #[.ref l, .int 0 0] }).push { cls := .type "enumerate", data := .fields #[.none, .bool false, .ref h.objs.size, rawInt 0, .none, .none] }
theorem en_new (k : Bool) (l : Addr) (xs : Array Value) : Meets (Builtin.«enumerate.__new__» ⟨[.type "enumerate", .ref l], []⟩) (fun _ R s => SSq k s.heap l xs ∧ R (.ok (.ret (.ref (s.heap.objs.size + 1)))) { s with heap := enH k s.heap l }) :=
  .of_wp fun prog w A R s h => by
    obtain ⟨hp, g, d, tk, os⟩ := s
    obtain ⟨hl, h⟩ := h
    have sub := sub_enumerate
    have z1 : (hp.push { cls := .type (if k then "list_iterator" else "tuple_iterator"), data := .fields #[.ref l, .int 0 0] }).objs.size = hp.objs.size + 1 := Heap.size_push ..
    have z2 : ∃ r, r = hp.objs.size + 1 ∧ R (.ok (.ret (.ref r))) ⟨enH k hp l, g, d, tk, os⟩ := ⟨_, rfl, h⟩
    obtain ⟨r, er, h⟩ := z2
    rw [← z1] at er
    subst er
    clear z1
    cases k with
    | true =>
      have hL : Heap.IsList (Shared.heap ⟨hp, g, d, tk, os⟩) l xs := hl
      wp_walk
      refine wpAny_stack_any fun st => wpAny_pure ?_
      split
      · rename_i c _ _ _ _ _
        cases (c == Value.type "enumerate") <;> (wp_walk using wpAny_pyIter_list hL; exact ⟨_, rfl, h⟩)
      · wp_walk using wpAny_pyIter_list hL
        exact ⟨_, rfl, h⟩
    | false =>
      have hL : Heap.IsTuple (Shared.heap ⟨hp, g, d, tk, os⟩) l xs := hl
      wp_walk
      refine wpAny_stack_any fun st => wpAny_pure ?_
      split
      · rename_i c _ _ _ _ _
        cases (c == Value.type "enumerate") <;> (wp_walk using wpAny_pyIter_tuple hL; exact ⟨_, rfl, h⟩)
      · wp_walk using wpAny_pyIter_tuple hL
        exact ⟨_, rfl, h⟩
theorem en_call {k : Bool} {l : Addr} {xs : Array Value} {Q : Value → Shared → Prop} (hL : SSq k s.heap l xs)
    (h : ∀ h', IsEnum h' (s.heap.objs.size + 1) s.heap.objs.size 0 .none → SIt k h' s.heap.objs.size l 0 → (∀ b o, s.heap.get? b = some o → h'.get? b = some o) → Q (.ref (s.heap.objs.size + 1)) { s with heap := h' }) :
    wpAny (model prog w) A (call (.type "enumerate") [.ref l]) Q E s := by
  refine callType_new F.called_enumerate (by decide) (F.typeCall_enumerate_1 _) (F.newCall_enumerate_1 _) (fun obj => F.args_object_init_2 obj _) F.entry_enumerate_new (en_new k l xs) ⟨hL, ?_⟩
  have z1 : (s.heap.push { cls := .type (if k then "list_iterator" else "tuple_iterator"), data := .fields #[.ref l, .int 0 0] }).objs.size = s.heap.objs.size + 1 := Heap.size_push ..
  have he : IsEnum (enH k s.heap l) (s.heap.objs.size + 1) s.heap.objs.size 0 .none := by rw [← z1]; exact Heap.get?_push_size _ rfl
  have up : ∀ b o, s.heap.get? b = some o → (enH k s.heap l).get? b = some o := fun b o x => Heap.get?_push_of_some _ (Heap.get?_push_of_some _ x)
  refine ⟨⟨_, he, rfl⟩, h _ he ?_ up⟩
  cases k <;> exact ⟨_, Heap.get?_push_of_some _ (Heap.get?_push_size _ rfl), rfl, rfl⟩

/-! ### zip -/
theorem zp_step {k m : Bool} {z TI TO i1 i2 l1 l2 : Addr} {n : Nat} {xs ys : Array Value} {x y a b : Value} {Q : Option Value → Shared → Prop} (D : ZipApart z TI TO i1 i2 l1 l2) (hz : IsZip s.heap z TI TO .none) (hTI : IsPair s.heap TI (.ref i1) (.ref i2)) (hTO : IsPair s.heap TO a b)
    (h1 : SIt k s.heap i1 l1 n) (h2 : SIt m s.heap i2 l2 n) (q1 : SSq k s.heap l1 xs) (q2 : SSq m s.heap l2 ys) (hx : xs[n]? = some x) (hy : ys[n]? = some y)
    (hQ : ∀ h', IsZip h' z TI TO (rawInt s.heap.objs.size) → IsPair h' TO x y → SIt k h' i1 l1 (n + 1) → SIt m h' i2 l2 (n + 1) → IsPair h' s.heap.objs.size x y →
      (∀ c o, c ≠ z → c ≠ TO → c ≠ i1 → c ≠ i2 → s.heap.get? c = some o → h'.get? c = some o) → Q (some (.ref s.heap.objs.size)) { s with heap := h' }) : wpAny (model prog w) A (pyNext (.ref z)) Q E s := by
  have ty : s.TypeIs (.ref z) "zip" := ⟨_, hz, rfl⟩
  have core : wpAny (model prog w) A.in1 (Builtin.«zip.__next__» ⟨[.ref z], []⟩) (fun fin s' => ∃ v, fin = .done (.ret v) ∧ Q (some v) s') (fun v s' => wpAny (model prog w) A (do
      if ← isInstance v (.type "StopIteration") then pure none else throw v) Q E s') s := by
    obtain ⟨h0, g, d, tk, os⟩ := s
    show wpAny _ _ (field (.ref z) 2 >>= _) _ _ _
    refine wpAny_bind (wpAny_field hz rfl (x := .bool false) rfl ?_)
    show wpAny _ _ (field (.ref z) 3 >>= _) _ _ _
    refine wpAny_bind (wpAny_field hz rfl (x := .ref TI) rfl (wpAny_bind (wpAny_seqItems hTI rfl ?_)))
    show wpAny _ _ (Builtin.SmallTypes.ownedTupleIsFree (.ref z) >>= _) _ _ _
    refine wpAny_bind ?_
    unfold Builtin.SmallTypes.ownedTupleIsFree
    refine wpAny_bind (wpAny_field hz rfl (x := .none) rfl (wpAny_pure ?_))
    simp only [if_true]
    refine wpAny_bind (wpAny_rule (wpAny_bind (wpAny_field hz rfl (x := .ref TO) rfl ?_)))
    refine wpAny_bind (wpAny_setField_rec hz (by simp) fun ha za ba => ?_)
    replace ba : Heap.SameBut z h0 ha := ba
    replace za : IsZip ha z TI TO .ellipsis := za
    refine wpAny_bind ?_
    simp only [List.zipIdx_cons, List.zipIdx_nil, List.forIn_cons, List.forIn_nil]
    refine wpAny_bind (wpAny_bind (wpAny_onRaise ?_))
    show wpAny _ _ (Builtin.SmallTypes.nextOf (.ref i1) >>= _) _ _ _
    refine wpAny_bind (sit_item (h1.to fun o e => (ba.2 i1 D.i1z).trans e) (q1.to fun o e => (ba.2 l1 D.l1z).trans e) hx fun hb tb bb => wpAny_pure ?_)
    replace bb : Heap.SameBut i1 ha hb := bb
    have Tb : IsPair hb TO a b := (bb.2 TO D.TOi1).trans ((ba.2 TO D.TOz).trans hTO)
    refine wpAny_bind (wpAny_seqItems Tb rfl (wpAny_bind (wpAny_updateSeq_pair Tb fun hc Tc bc => ?_)))
    replace bc : Heap.SameBut TO hb hc := bc
    replace Tc : IsPair hc TO x b := Tc
    refine wpAny_bind (wpAny_letGo (wpAny_pure ?_))
    refine wpAny_bind (wpAny_bind (wpAny_onRaise ?_))
    show wpAny _ _ (Builtin.SmallTypes.nextOf (.ref i2) >>= _) _ _ _
    refine wpAny_bind (sit_item (h2.to fun o e => (bc.2 i2 D.TOi2.symm).trans ((bb.2 i2 D.i12.symm).trans ((ba.2 i2 D.i2z).trans e))) (q2.to fun o e => (bc.2 l2 D.l2TO).trans ((bb.2 l2 D.l2i1).trans ((ba.2 l2 D.l2z).trans e))) hy fun hd td bd => wpAny_pure ?_)
    replace bd : Heap.SameBut i2 hc hd := bd
    have Td : IsPair hd TO x b := (bd.2 TO D.TOi2).trans Tc
    refine wpAny_bind (wpAny_seqItems Td rfl (wpAny_bind (wpAny_updateSeq_pair Td fun he Te be => ?_)))
    replace be : Heap.SameBut TO hd he := be
    replace Te : IsPair he TO x y := Te
    refine wpAny_bind (wpAny_letGo (wpAny_pure (wpAny_pure ?_)))
    refine wpAny_bind (wpAny_seqItems Te rfl (wpAny_bind (wpAny_newTuple ?_)))
    have sz : he.objs.size = h0.objs.size := by rw [be.1, bd.1, bc.1, bb.1, ba.1]
    have ze : IsZip he z TI TO .ellipsis := (be.2 z D.TOz.symm).trans ((bd.2 z D.i2z.symm).trans ((bc.2 z D.TOz.symm).trans ((bb.2 z D.i1z.symm).trans za)))
    have ke : ∀ c o, c ≠ z → c ≠ TO → c ≠ i1 → c ≠ i2 → h0.get? c = some o → he.get? c = some o := fun c o c1 c2 c3 c4 e =>
      (be.2 c c2).trans ((bd.2 c c4).trans ((bc.2 c c2).trans ((bb.2 c c3).trans ((ba.2 c c1).trans e))))
    have t1 : SIt k he i1 l1 (n + 1) := tb.to fun o e => (be.2 i1 D.TOi1.symm).trans ((bd.2 i1 D.i12).trans ((bc.2 i1 D.TOi1.symm).trans e))
    have t2 : SIt m he i2 l2 (n + 1) := td.to fun o e => (be.2 i2 D.TOi2.symm).trans e
    have zl : z < he.objs.size := Heap.lt_size ze
    show wpAny _ _ (Builtin.SmallTypes.ownedTupleHandOut (.ref z) (.ref he.objs.size) >>= _) _ _ _
    refine wpAny_bind ?_
    unfold Builtin.SmallTypes.ownedTupleHandOut
    have zf : IsZip (he.push { cls := .type "tuple", data := .seq #[x, y] }) z TI TO .ellipsis := Heap.get?_push_of_some _ ze
    refine wpAny_bind (wpAny_setField_rec zf (by simp) fun hg zg bg => ?_)
    replace zg : IsZip hg z TI TO (rawInt he.objs.size) := zg
    refine wpAny_setField_rec zg (by simp) fun hk zk bk => ?_
    replace zk : IsZip hk z TI TO (rawInt he.objs.size) := zk
    have up : ∀ c o, c ≠ z → he.get? c = some o → hk.get? c = some o := fun c o c1 e => (bk.2 c c1).trans ((bg.2 c c1).trans (Heap.get?_push_of_some _ e))
    have nk : IsPair hk he.objs.size x y := (bk.2 _ (Nat.ne_of_gt zl)).trans ((bg.2 _ (Nat.ne_of_gt zl)).trans (Heap.get?_push_size _ rfl))
    rw [sz] at zk nk
    refine wpAny_pure ⟨_, rfl, ?_⟩
    show Q (some (.ref he.objs.size)) _
    rw [sz]
    exact hQ hk zk (up _ _ D.TOz Te) (t1.to fun o e => up _ o D.i1z e) (t2.to fun o e => up _ o D.i2z e) nk fun c o c1 c2 c3 c4 e => up c o c1 (ke c o c1 c2 c3 c4 e)
  unfold pyNext
  refine wpAny_bind (wpAny_attempt (wpAny_callSpecial?_slot (name := Str.ofString "__next__") ty F.slot_zip_next (wpAny_call_entry F.slot_zip_next ty F.entry_zip_next ?_ (F.args_zip_next_1 _))))
  exact wpAny_mono core (fun fin s' ⟨v, e1, h⟩ => ⟨v, e1, wpAny_pure h⟩) fun v s' h => h
theorem zp_stop {k m : Bool} {z TI TO i1 i2 l1 l2 : Addr} {n : Nat} {xs ys : Array Value} {a b : Value} {Q : Option Value → Shared → Prop} (hh : A.handled = none) (D : ZipApart z TI TO i1 i2 l1 l2) (hz : IsZip s.heap z TI TO .none) (hTI : IsPair s.heap TI (.ref i1) (.ref i2)) (hTO : IsPair s.heap TO a b)
    (h1 : SIt k s.heap i1 l1 n) (h2 : SIt m s.heap i2 l2 n) (q1 : SSq k s.heap l1 xs) (q2 : SSq m s.heap l2 ys) (hend : xs[n]? = none ∨ ys[n]? = none)
    (hQ : ∀ h', (∀ c o, c ≠ z → c ≠ TO → c ≠ i1 → c ≠ i2 → s.heap.get? c = some o → h'.get? c = some o) → Q none { s with heap := h' }) : wpAny (model prog w) A (pyNext (.ref z)) Q E s := by
  have ty : s.TypeIs (.ref z) "zip" := ⟨_, hz, rfl⟩
  have core : wpAny (model prog w) A.in1 (Builtin.«zip.__next__» ⟨[.ref z], []⟩) (fun fin s' => ∃ v, fin = .done (.ret v) ∧ Q (some v) s') (fun v s' => wpAny (model prog w) A (do
      if ← isInstance v (.type "StopIteration") then pure none else throw v) Q E s') s := by
    obtain ⟨h0, g, d, tk, os⟩ := s
    have fin : ∀ hf e, (∀ c o, c ≠ z → c ≠ TO → c ≠ i1 → c ≠ i2 → h0.get? c = some o → hf.get? c = some o) → (∃ o, hf.get? e = some o ∧ o.cls = .type "StopIteration") →
        wpAny (model prog w) A (do if ← isInstance (.ref e) (.type "StopIteration") then pure none else throw (.ref e)) Q E ⟨hf, g, d, tk, os⟩ := fun hf e kp ⟨o, ho, hc⟩ =>
      wpAny_bind (wpAny_isInstance (T := "StopIteration") (b := true) ⟨o, ho, hc⟩ isSubtype_stop (wpAny_pure (hQ _ kp)))
    show wpAny _ _ (field (.ref z) 2 >>= _) _ _ _
    refine wpAny_bind (wpAny_field hz rfl (x := .bool false) rfl ?_)
    show wpAny _ _ (field (.ref z) 3 >>= _) _ _ _
    refine wpAny_bind (wpAny_field hz rfl (x := .ref TI) rfl (wpAny_bind (wpAny_seqItems hTI rfl ?_)))
    show wpAny _ _ (Builtin.SmallTypes.ownedTupleIsFree (.ref z) >>= _) _ _ _
    refine wpAny_bind ?_
    unfold Builtin.SmallTypes.ownedTupleIsFree
    refine wpAny_bind (wpAny_field hz rfl (x := .none) rfl (wpAny_pure ?_))
    simp only [if_true]
    refine wpAny_bind (wpAny_rule (wpAny_bind (wpAny_field hz rfl (x := .ref TO) rfl ?_)))
    refine wpAny_bind (wpAny_setField_rec hz (by simp) fun ha za ba => ?_)
    replace ba : Heap.SameBut z h0 ha := ba
    replace za : IsZip ha z TI TO .ellipsis := za
    refine wpAny_bind ?_
    simp only [List.zipIdx_cons, List.zipIdx_nil, List.forIn_cons, List.forIn_nil]
    refine wpAny_bind (wpAny_bind (wpAny_onRaise ?_))
    show wpAny _ _ (Builtin.SmallTypes.nextOf (.ref i1) >>= _) _ _ _
    have h1a : SIt k ha i1 l1 n := h1.to fun o e => (ba.2 i1 D.i1z).trans e
    have q1a : SSq k ha l1 xs := q1.to fun o e => (ba.2 l1 D.l1z).trans e
    cases hx : xs[n]? with
    | none =>
      refine wpAny_bind (sit_end hh h1a q1a hx fun hb e bb hr => ?_)
      obtain ⟨oe, hoe, hce⟩ := hr
      have zb : IsZip hb z TI TO .ellipsis := bb _ _ D.i1z.symm za
      have ne : e ≠ z := fun x => by subst x; rw [zb] at hoe; cases hoe; simp at hce
      refine wpAny_setField_rec zb (by simp) fun hc _ bc => fin hc e (fun c o c1 _ c3 _ x => (bc.2 c c1).trans (bb _ _ c3 ((ba.2 c c1).trans x))) ⟨oe, (bc.2 e ne).trans hoe, hce⟩
    | some x =>
      have hy : ys[n]? = none := by
        rcases hend with h | h
        · rw [hx] at h; cases h
        · exact h
      refine wpAny_bind (sit_item h1a q1a hx fun hb tb bb => wpAny_pure ?_)
      replace bb : Heap.SameBut i1 ha hb := bb
      have Tb : IsPair hb TO a b := (bb.2 TO D.TOi1).trans ((ba.2 TO D.TOz).trans hTO)
      refine wpAny_bind (wpAny_seqItems Tb rfl (wpAny_bind (wpAny_updateSeq_pair Tb fun hc Tc bc => ?_)))
      replace bc : Heap.SameBut TO hb hc := bc
      refine wpAny_bind (wpAny_letGo (wpAny_pure ?_))
      refine wpAny_bind (wpAny_bind (wpAny_onRaise ?_))
      show wpAny _ _ (Builtin.SmallTypes.nextOf (.ref i2) >>= _) _ _ _
      refine wpAny_bind (sit_end hh (h2.to fun o e => (bc.2 i2 D.TOi2.symm).trans ((bb.2 i2 D.i12.symm).trans ((ba.2 i2 D.i2z).trans e))) (q2.to fun o e => (bc.2 l2 D.l2TO).trans ((bb.2 l2 D.l2i1).trans ((ba.2 l2 D.l2z).trans e))) hy fun hd e bd hr => ?_)
      obtain ⟨oe, hoe, hce⟩ := hr
      have zd : IsZip hd z TI TO .ellipsis := bd _ _ D.i2z.symm ((bc.2 z D.TOz.symm).trans ((bb.2 z D.i1z.symm).trans za))
      have ne : e ≠ z := fun x => by subst x; rw [zd] at hoe; cases hoe; simp at hce
      refine wpAny_setField_rec zd (by simp) fun hf _ bf => fin hf e (fun c o c1 c2 c3 c4 x => (bf.2 c c1).trans (bd _ _ c4 ((bc.2 c c2).trans ((bb.2 c c3).trans ((ba.2 c c1).trans x))))) ⟨oe, (bf.2 e ne).trans hoe, hce⟩
  unfold pyNext
  refine wpAny_bind (wpAny_attempt (wpAny_callSpecial?_slot (name := Str.ofString "__next__") ty F.slot_zip_next (wpAny_call_entry F.slot_zip_next ty F.entry_zip_next ?_ (F.args_zip_next_1 _))))
  exact wpAny_mono core (fun fin s' ⟨v, e1, h⟩ => ⟨v, e1, wpAny_pure h⟩) fun v s' h => h
abbrev itO (k : Bool) (l : Addr) : Obj := { cls := .type (if k then "list_iterator" else "tuple_iterator"), data := .fields #[.ref l, .int 0 0] }
abbrev zpH (k m : Bool) (h : Heap) (l1 l2 : Addr) : Heap := ((((h.push (itO k l1)).push (itO m l2)).push { cls := .type "tuple", data := .seq #[.ref h.objs.size, .ref (h.push (itO k l1)).objs.size] }).push { cls := .type "tuple", data := .seq #[.none, .none] }).push
  { cls := .type "zip", data := .fields #[.none, .bool false, .bool false, .ref ((h.push (itO k l1)).push (itO m l2)).objs.size, .ref (((h.push (itO k l1)).push (itO m l2)).push { cls := .type "tuple", data := .seq #[.ref h.objs.size, .ref (h.push (itO k l1)).objs.size] }).objs.size] }
theorem zp_new (k m : Bool) (l1 l2 : Addr) (xs ys : Array Value) : Meets (Builtin.«zip.__new__» ⟨[.type "zip", .ref l1, .ref l2], []⟩) (fun _ R s => SSq k s.heap l1 xs ∧ SSq m s.heap l2 ys ∧ R (.ok (.ret (.ref (s.heap.objs.size + 4)))) { s with heap := zpH k m s.heap l1 l2 }) :=
  .of_wp fun prog w A R s h => by
    obtain ⟨hp, g, d, tk, os⟩ := s
    obtain ⟨q1, q2, h⟩ := h
    have sub := sub_zip
    have z4 : ((((hp.push (itO k l1)).push (itO m l2)).push { cls := .type "tuple", data := .seq #[.ref hp.objs.size, .ref (hp.push (itO k l1)).objs.size] }).push { cls := .type "tuple", data := .seq #[.none, .none] }).objs.size = hp.objs.size + 4 := by
      rw [Heap.size_push, Heap.size_push, Heap.size_push, Heap.size_push]
    replace h : R (.ok (.ret (.ref (hp.objs.size + 4)))) ⟨zpH k m hp l1 l2, g, d, tk, os⟩ := h
    rw [← z4] at h
    clear z4
    cases k <;> cases m
    · have e1 : Heap.IsTuple (Shared.heap ⟨hp, g, d, tk, os⟩) l1 xs := q1
      have e2 : Heap.IsTuple (Shared.heap ⟨hp.push { cls := .type "tuple_iterator", data := .fields #[.ref l1, .int 0 0] }, g, d, tk, os⟩) l2 ys := SSq.to (k := false) q2 fun o x => Heap.get?_push_of_some _ x
      wp_walk using wpAny_pyIter_tuple e1, wpAny_pyIter_tuple e2
      exact ⟨_, rfl, h⟩
    · have e1 : Heap.IsTuple (Shared.heap ⟨hp, g, d, tk, os⟩) l1 xs := q1
      have e2 : Heap.IsList (Shared.heap ⟨hp.push { cls := .type "tuple_iterator", data := .fields #[.ref l1, .int 0 0] }, g, d, tk, os⟩) l2 ys := SSq.to (k := true) q2 fun o x => Heap.get?_push_of_some _ x
      wp_walk using wpAny_pyIter_tuple e1, wpAny_pyIter_list e2
      exact ⟨_, rfl, h⟩
    · have e1 : Heap.IsList (Shared.heap ⟨hp, g, d, tk, os⟩) l1 xs := q1
      have e2 : Heap.IsTuple (Shared.heap ⟨hp.push { cls := .type "list_iterator", data := .fields #[.ref l1, .int 0 0] }, g, d, tk, os⟩) l2 ys := SSq.to (k := false) q2 fun o x => Heap.get?_push_of_some _ x
      wp_walk using wpAny_pyIter_list e1, wpAny_pyIter_tuple e2
      exact ⟨_, rfl, h⟩
    · have e1 : Heap.IsList (Shared.heap ⟨hp, g, d, tk, os⟩) l1 xs := q1
      have e2 : Heap.IsList (Shared.heap ⟨hp.push { cls := .type "list_iterator", data := .fields #[.ref l1, .int 0 0] }, g, d, tk, os⟩) l2 ys := SSq.to (k := true) q2 fun o x => Heap.get?_push_of_some _ x
      wp_walk using wpAny_pyIter_list e1, wpAny_pyIter_list e2
      exact ⟨_, rfl, h⟩
theorem zp_call {k m : Bool} {l1 l2 : Addr} {xs ys : Array Value} {Q : Value → Shared → Prop} (q1 : SSq k s.heap l1 xs) (q2 : SSq m s.heap l2 ys)
    (h : ∀ h', IsZip h' (s.heap.objs.size + 4) (s.heap.objs.size + 2) (s.heap.objs.size + 3) .none → IsPair h' (s.heap.objs.size + 2) (.ref s.heap.objs.size) (.ref (s.heap.objs.size + 1)) → IsPair h' (s.heap.objs.size + 3) .none .none →
      SIt k h' s.heap.objs.size l1 0 → SIt m h' (s.heap.objs.size + 1) l2 0 → (∀ c o, s.heap.get? c = some o → h'.get? c = some o) → Q (.ref (s.heap.objs.size + 4)) { s with heap := h' }) :
    wpAny (model prog w) A (call (.type "zip") [.ref l1, .ref l2]) Q E s := by
  refine callType_new F.called_zip (by decide) (F.typeCall_zip_2 _ _) (F.newCall_zip_2 _ _) (fun obj => F.args_object_init_3 obj _ _) F.entry_zip_new (zp_new k m l1 l2 xs ys) ⟨q1, q2, ?_⟩
  generalize hA : s.heap = H
  have a1 : (H.push (itO k l1)).objs.size = H.objs.size + 1 := Heap.size_push ..
  have a2 : ((H.push (itO k l1)).push (itO m l2)).objs.size = H.objs.size + 2 := by rw [Heap.size_push, a1]
  have a3 : (((H.push (itO k l1)).push (itO m l2)).push { cls := .type "tuple", data := .seq #[.ref H.objs.size, .ref (H.push (itO k l1)).objs.size] }).objs.size = H.objs.size + 3 := by rw [Heap.size_push, a2]
  have g5 : (zpH k m H l1 l2).get? (((((H.push (itO k l1)).push (itO m l2)).push { cls := .type "tuple", data := .seq #[.ref H.objs.size, .ref (H.push (itO k l1)).objs.size] }).push { cls := .type "tuple", data := .seq #[.none, .none] }).objs.size) = some _ := Heap.get?_push_size _ rfl
  have g4 : (zpH k m H l1 l2).get? (((H.push (itO k l1)).push (itO m l2)).push { cls := .type "tuple", data := .seq #[.ref H.objs.size, .ref (H.push (itO k l1)).objs.size] }).objs.size = some _ := Heap.get?_push_of_some _ (Heap.get?_push_size _ rfl)
  have g3 : (zpH k m H l1 l2).get? ((H.push (itO k l1)).push (itO m l2)).objs.size = some _ := Heap.get?_push_of_some _ (Heap.get?_push_of_some _ (Heap.get?_push_size _ rfl))
  have g2 : (zpH k m H l1 l2).get? (H.push (itO k l1)).objs.size = some (itO m l2) := Heap.get?_push_of_some _ (Heap.get?_push_of_some _ (Heap.get?_push_of_some _ (Heap.get?_push_size _ rfl)))
  have g1 : (zpH k m H l1 l2).get? H.objs.size = some (itO k l1) := Heap.get?_push_of_some _ (Heap.get?_push_of_some _ (Heap.get?_push_of_some _ (Heap.get?_push_of_some _ (Heap.get?_push_size _ rfl))))
  rw [Heap.size_push, a3] at g5
  try rw [a2] at g5
  rw [a3] at g4
  rw [a1, a2] at g3
  rw [a1] at g2
  rw [hA] at h
  refine ⟨⟨_, g5, rfl⟩, h _ g5 g3 g4 ?_ ?_ fun c o x => Heap.get?_push_of_some _ (Heap.get?_push_of_some _ (Heap.get?_push_of_some _ (Heap.get?_push_of_some _ (Heap.get?_push_of_some _ x))))⟩
  · cases k <;> exact ⟨_, g1, rfl, rfl⟩
  · cases m <;> exact ⟨_, g2, rfl, rfl⟩
end

/-! ### walked by a loop -/
theorem vals_at {xs : List V} {us : List Value} (r : Vals xs us) {i : Nat} {x : V} (e : xs[i]? = some x) : ∃ u, us.toArray[i]? = some u ∧ RelV x u := by
  obtain ⟨u, h1, h2⟩ := r.get e
  exact ⟨u, by simpa using h1, h2⟩
/-- what stands at a: a list, a tuple -/
def SqK (k : Bool) (K : PySem.W.Frag) (H : Hp) (a : Addr) (xs : List V) : Prop := match k with
  | true => SqL K H a xs
  | false => SqT K H a xs
theorem sqk_inv {X : Cx} {pins : List (Addr × Obj)} {σ : L2.St} {H : Hp} {s : Shared} {k : Bool} {a : Addr} {xs : List V} (I : L2.Inv X pins σ H s) (q : SqK k X.K H a xs) : ∃ us : List Value, Vals xs us ∧ SSq k s.heap a us.toArray ∧ a < s.heap.objs.size ∧ xs.length ≤ sizeLine := by
  cases k with
  | true => obtain ⟨us, r, p, z⟩ := I.list q; exact ⟨us, r, p.isList, p.lt, z⟩
  | false => obtain ⟨us, r, p, z⟩ := I.tuple q; obtain ⟨o, e, _⟩ := id p; exact ⟨us, r, p, Heap.lt_size e, z⟩
theorem sqk_inj {X : Cx} {pins : List (Addr × Obj)} {σ : L2.St} {H : Hp} {s : Shared} {k : Bool} {a : Addr} {xs ys : List V} (I : L2.Inv X pins σ H s) (q : SqK k X.K H a xs) (q' : SqK k X.K H a ys) : xs = ys := by
  cases k with
  | true => exact I.list_inj q q'
  | false => exact I.tuple_inj q q'
def ItE (k : Bool) (K : PySem.W.Frag) (a : Addr) : It :=
  ⟨fun i H => ∃ xs x, SqK k K H a xs ∧ xs[i]? = some x, fun i H v H' => ∃ T x, v = .ref T ∧ H T = none ∧ H' = upd H T (.tup [.int (i : Nat), x]) ∧ ∀ xs, SqK k K H a xs → xs[i]? = some x, fun i H => ∃ xs, SqK k K H a xs ∧ xs.length ≤ i⟩
def ItZ (k m : Bool) (K : PySem.W.Frag) (a b : Addr) : It :=
  ⟨fun i H => ∃ xs ys x y, SqK k K H a xs ∧ SqK m K H b ys ∧ xs[i]? = some x ∧ ys[i]? = some y,
    fun i H v H' => ∃ T x y, v = .ref T ∧ H T = none ∧ H' = upd H T (.tup [x, y]) ∧ (∀ xs, SqK k K H a xs → xs[i]? = some x) ∧ ∀ ys, SqK m K H b ys → ys[i]? = some y,
    fun i H => ∃ xs ys, SqK k K H a xs ∧ SqK m K H b ys ∧ (xs.length ≤ i ∨ ys.length ≤ i)⟩
theorem pair_ok {P : Program} {w : World} {H : Hp} {h : Heap} {T : Addr} {x y : V} {u v : Value} (ru : RelV x u) (rv : RelV y v) (e : h.get? T = some { cls := .type "tuple", data := .seq #[u, v] }) : ObjOk P w (upd H T (.tup [x, y])) h T (.tup [x, y]) :=
  ⟨by show 2 ≤ sizeLine; rw [sizeLine_eq]; decide, [u, v], .cons ru (.cons rv .nil), ⟨_, e, rfl, _, rfl⟩⟩
theorem turn_e {P : Program} {w : World} {K : PySem.W.Frag} {k : Bool} {elts : List Expr} {kk : Nat} {tpos : Pos} (a e it : Addr) :
    Turn P w K (.Tuple elts kk tpos) (ItE k K a) [e, it] e (fun i h => (∃ old, IsEnum h e it ((i : Nat) : Int) old) ∧ SIt k h it a i ∧ e ≠ it) := by
  have two : ∀ c, c ∈ [e, it] → c = e ∨ c = it := fun c hc => by simpa using hc
  refine ⟨by simp, fun i h st c hc => ?_, fun i h h' st m => ?_, fun X hP hw hK hc i pins s σ H E I hf st hg => ?_, fun X hP hw hK hc i pins s σ H E I hf st hg => ?_, fun A i s Q E st h => let ⟨⟨_, he⟩, _⟩ := st; wpAny_pyIter_enum he h⟩
  · obtain ⟨⟨old, he⟩, t, _⟩ := st
    rcases two c hc with z | z <;> subst z
    · exact ⟨_, he, fun v q => nomatch q⟩
    · exact t.ex
  · obtain ⟨⟨old, he⟩, t, ne⟩ := st
    exact ⟨⟨old, m e (by simp) _ he⟩, t.to fun o q => m it (by simp) o q, ne⟩
  · subst hP hw hK
    obtain ⟨⟨old, he⟩, t, ne⟩ := st
    obtain ⟨xs, x, hq, hx⟩ := hg
    obtain ⟨us, rv, p, _⟩ := sqk_inv I hq
    obtain ⟨u, hu, ru⟩ := vals_at rv hx
    have l1 : e < s.heap.objs.size := Heap.lt_size he
    have l2 : it < s.heap.objs.size := by obtain ⟨o, q, _⟩ := t.ex; exact Heap.lt_size q
    refine en_step he t p hu ne fun h1 o1 t1 n1 k1 => ⟨_, rfl, ?_⟩
    refine wpAny_letOwnedTupleGo_enum (s := { s with heap := h1, toks := s.toks + 1 }) o1 fun h2 e2 sb => ?_
    have n2 := (sb.2 _ (Nat.ne_of_gt l1)).trans n1
    refine ⟨.ref s.heap.objs.size, _, I.turnedNew (ch := [e, it]) (fun c ob hb q => (sb.2 c fun z => hb (by simp [z])).trans (k1 c ob (fun z => hb (by simp [z])) (fun z => hb (by simp [z])) q)) hf (Nat.le_refl _) (pair_ok (show RelV (.int ((i : Nat) : Int)) (.int (i : Int) s.toks) from ⟨_, rfl⟩) ru n2), rfl,
      ⟨_, x, rfl, I.hok.fresh (Nat.le_refl _), rfl, fun ys hy => by rw [sqk_inj I hy hq]; exact hx⟩, ⟨⟨u, by rw [show ((i + 1 : Nat) : Int) = (i : Int) + 1 by omega]; exact e2⟩, t1.to fun o q => (sb.2 it (Ne.symm ne)).trans q, ne⟩, fun c hc2 => ?_⟩
    have lc : c < s.heap.objs.size := by rcases two c hc2 with z | z <;> (subst z; assumption)
    rw [upd_ne (Nat.ne_of_lt lc)]
    exact (hf c hc2).1
  · subst hP hw hK
    obtain ⟨⟨old, he⟩, t, ne⟩ := st
    obtain ⟨xs, hq, hx⟩ := hg
    obtain ⟨us, rv, p, _⟩ := sqk_inv I hq
    obtain ⟨f0, f1, f2, f3, f4, f5⟩ := hf it (by simp)
    have hl := rv.length
    exact en_stop (I.ok.hd hc) he t p (by simp; omega) fun h' eb => ⟨rfl, I.turned (t' := s.toks) (fun b o hb q => eb b o hb q) f0 f1 f3 f4 f5⟩
theorem turn_z {P : Program} {w : World} {K : PySem.W.Frag} {k m : Bool} {elts : List Expr} {kk : Nat} {tpos : Pos} {a b z TI TO i1 i2 : Addr} (D : ZipApart z TI TO i1 i2 a b) :
    Turn P w K (.Tuple elts kk tpos) (ItZ k m K a b) [z, TI, TO, i1, i2] z (fun i h => IsZip h z TI TO .none ∧ IsPair h TI (.ref i1) (.ref i2) ∧ (∃ x y, IsPair h TO x y) ∧ SIt k h i1 a i ∧ SIt m h i2 b i) := by
  have five : ∀ c, c ∈ [z, TI, TO, i1, i2] → c = z ∨ c = TI ∨ c = TO ∨ c = i1 ∨ c = i2 := fun c hc => by simpa using hc
  refine ⟨by simp, fun i h st c hc => ?_, fun i h h' st mv => ?_, fun X hP hw hK hc i pins s σ H E I hf st hg => ?_, fun X hP hw hK hc i pins s σ H E I hf st hg => ?_, fun A i s Q E st h => wpAny_pyIter_zip st.1 h⟩
  · obtain ⟨hz, hTI, ⟨x, y, hTO⟩, t1, t2⟩ := st
    rcases five c hc with q | q | q | q | q <;> subst q
    · exact ⟨_, hz, fun v q => nomatch q⟩
    · exact ⟨_, hTI, fun v q => nomatch q⟩
    · exact ⟨_, hTO, fun v q => nomatch q⟩
    · exact t1.ex
    · exact t2.ex
  · obtain ⟨hz, hTI, ⟨x, y, hTO⟩, t1, t2⟩ := st
    exact ⟨mv z (by simp) _ hz, mv TI (by simp) _ hTI, ⟨x, y, mv TO (by simp) _ hTO⟩, t1.to fun o q => mv i1 (by simp) o q, t2.to fun o q => mv i2 (by simp) o q⟩
  · subst hP hw hK
    obtain ⟨hz, hTI, ⟨x0, y0, hTO⟩, t1, t2⟩ := st
    obtain ⟨xs, ys, x, y, hqx, hqy, hx, hy⟩ := hg
    obtain ⟨us, rv, p, _⟩ := sqk_inv I hqx
    obtain ⟨us2, rv2, p2, _⟩ := sqk_inv I hqy
    obtain ⟨u, hu, ru⟩ := vals_at rv hx
    obtain ⟨u2, hu2, ru2⟩ := vals_at rv2 hy
    have lz : z < s.heap.objs.size := Heap.lt_size hz
    have lTI : TI < s.heap.objs.size := Heap.lt_size hTI
    have lTO : TO < s.heap.objs.size := Heap.lt_size hTO
    have l1 : i1 < s.heap.objs.size := by obtain ⟨o, q, _⟩ := t1.ex; exact Heap.lt_size q
    have l2 : i2 < s.heap.objs.size := by obtain ⟨o, q, _⟩ := t2.ex; exact Heap.lt_size q
    refine zp_step D hz hTI hTO t1 t2 p p2 hu hu2 fun h1 z1 o1 s1 s2 n1 k1 => ⟨_, rfl, ?_⟩
    refine wpAny_letOwnedTupleGo_zip (s := { s with heap := h1 }) z1 fun h2 z2 sb => ?_
    have n2 := (sb.2 _ (Nat.ne_of_gt lz)).trans n1
    refine ⟨.ref s.heap.objs.size, _, I.turnedNew (t' := s.toks) (ch := [z, TI, TO, i1, i2]) (fun c o hb q => (sb.2 c fun e => hb (by simp [e])).trans (k1 c o (fun e => hb (by simp [e])) (fun e => hb (by simp [e])) (fun e => hb (by simp [e])) (fun e => hb (by simp [e])) q)) hf (Nat.le_refl _) (pair_ok ru ru2 n2), rfl,
      ⟨_, x, y, rfl, I.hok.fresh (Nat.le_refl _), rfl, fun l hl => by rw [sqk_inj I hl hqx]; exact hx, fun l hl => by rw [sqk_inj I hl hqy]; exact hy⟩, ⟨z2, (sb.2 _ D.TIz).trans (k1 _ _ D.TIz D.TITO D.TIi1 D.TIi2 hTI), ⟨u, u2, (sb.2 _ D.TOz).trans o1⟩, s1.to fun o q => (sb.2 _ D.i1z).trans q, s2.to fun o q => (sb.2 _ D.i2z).trans q⟩, fun c hc2 => ?_⟩
    have lc : c < s.heap.objs.size := by rcases five c hc2 with q | q | q | q | q <;> (subst q; assumption)
    rw [upd_ne (Nat.ne_of_lt lc)]
    exact (hf c hc2).1
  · subst hP hw hK
    obtain ⟨hz, hTI, ⟨x0, y0, hTO⟩, t1, t2⟩ := st
    obtain ⟨xs, ys, hqx, hqy, hend⟩ := hg
    obtain ⟨us, rv, p, _⟩ := sqk_inv I hqx
    obtain ⟨us2, rv2, p2, _⟩ := sqk_inv I hqy
    have l1 := rv.length
    have l2 := rv2.length
    refine zp_stop (I.ok.hd hc) D hz hTI hTO t1 t2 p p2 (hend.elim (fun q => .inl (by simp; omega)) fun q => .inr (by simp; omega)) fun h' hk => ⟨rfl, I.turnedL (t' := s.toks) (ch := [z, TI, TO, i1, i2]) (fun c o hb q => ?_) hf⟩
    exact hk c o (fun e => hb (by simp [e])) (fun e => hb (by simp [e])) (fun e => hb (by simp [e])) (fun e => hb (by simp [e])) q
def iEn (K : PySem.W.Frag) (ta : TA) : TI := fun σ H R => ta σ H fun vs H1 => ∃ k a xs, vs = [.ref a] ∧ SqK k K H1 a xs ∧ (xs.length ≤ sizeLine → R (ItE k K a) H1)
theorem pi_en {X : Cx} {e : Expr} {ta : TA} {p pos tpos : Pos} {elts : List Expr} {kk : Nat} (hg : Gl X "enumerate") (hm : X.mg "enumerate" = none) (ha : PA X [e] ta) (hs : starEach [e] X.env = [(false, eval e X.env)] := by rfl) :
    PI X (.Tuple elts kk tpos) (.Call (.Name "enumerate" p) [e] [] pos) (iEn X.K ta) := by
  refine ⟨fun pins s σ H R I h => Call_ (ld_blt I hg hm boot_enumerate (PyProof.Rows.callWith_type1 (thn (ha.run pos pins s σ H _ I h) fun us s1 ⟨vs, H1, I1, r1, k, a, xs, ex, hq, q⟩ => ?_) hs rfl))⟩
  subst ex
  cases r1 with
  | cons r rr =>
    cases rr
    cases r
    obtain ⟨us, rv, p', _, zl⟩ := sqk_inv I1 hq
    refine en_call p' fun h' he hit hk => wpAny_pyIter_enum he ?_
    refine ⟨s1.heap.objs.size + 1, [s1.heap.objs.size + 1, s1.heap.objs.size], _, _, H1, rfl, I1.kept (t' := s1.toks) hk, turn_e a (s1.heap.objs.size + 1) s1.heap.objs.size, ⟨⟨.none, he⟩, hit, Nat.succ_ne_self _⟩, fun b hb => ?_, q zl⟩
    have hle : s1.heap.objs.size ≤ b := by
      have : b = s1.heap.objs.size + 1 ∨ b = s1.heap.objs.size := by simpa using hb
      rcases this with z | z <;> rw [z] <;> first | exact Nat.le_add_right _ _ | exact Nat.le_refl _
    exact I1.fpOk hle (I1.hok.fresh hle)
def iZp (K : PySem.W.Frag) (ta : TA) : TI := fun σ H R => ta σ H fun vs H1 => ∃ k m a b xs ys, vs = [.ref a, .ref b] ∧ SqK k K H1 a xs ∧ SqK m K H1 b ys ∧ (xs.length ≤ sizeLine → R (ItZ k m K a b) H1)
theorem pi_zp {X : Cx} {e e2 : Expr} {ta : TA} {p pos tpos : Pos} {elts : List Expr} {kk : Nat} (hg : Gl X "zip") (hm : X.mg "zip" = none) (ha : PA X [e, e2] ta) (hs : starEach [e, e2] X.env = (false, eval e X.env) :: starEach [e2] X.env := by rfl)
    (hpl : (backTo pos (starEach [e2] X.env)).any (·.1) = false := by rfl) : PI X (.Tuple elts kk tpos) (.Call (.Name "zip" p) [e, e2] [] pos) (iZp X.K ta) := by
  refine ⟨fun pins s σ H R I h => Call_ (ld_blt I hg hm PyProof.Rows.boot_zip (PyProof.Rows.callWith_type1 (thn (ha.run pos pins s σ H _ I h) fun us s1 ⟨vs, H1, I1, r1, k, m, a, b, xs, ys, ex, hqx, hqy, q⟩ => ?_) hs hpl))⟩
  subst ex
  cases r1 with
  | cons r rr =>
    cases rr with
    | cons r' rr =>
      cases rr
      cases r
      cases r'
      obtain ⟨us, rv, p1, lt1, zl⟩ := sqk_inv I1 hqx
      obtain ⟨us2, rv2, p2, lt2, _⟩ := sqk_inv I1 hqy
      refine zp_call p1 p2 fun h' hz hTI hTO t1 t2 hk => wpAny_pyIter_zip hz ?_
      refine ⟨s1.heap.objs.size + 4, [s1.heap.objs.size + 4, s1.heap.objs.size + 2, s1.heap.objs.size + 3, s1.heap.objs.size, s1.heap.objs.size + 1], _, _, H1, rfl, I1.kept (t' := s1.toks) hk, turn_z (PySem.W.ktu_apart s1.heap.objs.size a b lt1 lt2), ⟨hz, hTI, ⟨_, _, hTO⟩, t1, t2⟩, fun c hc => ?_, q zl⟩
      have hle : s1.heap.objs.size ≤ c := by
        have : c = s1.heap.objs.size + 4 ∨ c = s1.heap.objs.size + 2 ∨ c = s1.heap.objs.size + 3 ∨ c = s1.heap.objs.size ∨ c = s1.heap.objs.size + 1 := by simpa using hc
        rcases this with z | z | z | z | z <;> rw [z] <;> first | exact Nat.le_add_right _ _ | exact Nat.le_refl _
      exact I1.fpOk hle (I1.hok.fresh hle)
/-- a list or a tuple -/
def iSq (K : PySem.W.Frag) (tl : TE) : TI := fun σ H R => tl σ H fun x H1 => ∃ a, x = .ref a ∧ ((∃ xs, SqL K H1 a xs ∧ (xs.length ≤ sizeLine → R (Itl K a) H1)) ∨ ∃ xs, SqT K H1 a xs ∧ (xs.length ≤ sizeLine → R (Itt K a) H1))
theorem pi_sq {X : Cx} {tg l : Expr} {tl : TE} (hl : PE X l tl) : PI X tg l (iSq X.K tl) := by
  refine ⟨fun pins s σ H R I h => thn (hl.run pins s σ H _ I h) fun v s1 ⟨x, H1, I1, r1, a, e, q⟩ => ?_⟩
  subst e
  cases r1
  have one : ∀ b, b ∈ [s1.heap.objs.size] → b = s1.heap.objs.size := fun b hb => by simpa using hb
  rcases q with ⟨xs, hq, q⟩ | ⟨xs, hq, q⟩
  · obtain ⟨us, rv, p, _, zl⟩ := sqk_inv (k := true) I1 hq
    refine sit_iter p fun h' t sz kp => ⟨s1.heap.objs.size, [s1.heap.objs.size], _, _, H1, rfl, I1.kept (t' := s1.toks) kp, turn_list a _, t, fun b hb => ?_, q zl⟩
    rw [one b hb]
    exact I1.fpOk (Nat.le_refl _) (I1.hok.fresh (Nat.le_refl _))
  · obtain ⟨us, rv, p, _, zl⟩ := sqk_inv (k := false) I1 hq
    refine sit_iter p fun h' t sz kp => ⟨s1.heap.objs.size, [s1.heap.objs.size], _, _, H1, rfl, I1.kept (t' := s1.toks) kp, turn_tuple a _, t, fun b hb => ?_, q zl⟩
    rw [one b hb]
    exact I1.fpOk (Nat.le_refl _) (I1.hok.fresh (Nat.le_refl _))
/-! ### as walks -/
theorem walk_e {k : Bool} {K : PySem.W.Frag} {a : Addr} {xs : List V} : Walk (ItE k K a) xs.length (fun H => SqK k K H a xs) (YPair (fun i => some (.int (i : Nat))) (fun i => xs[i]?)) :=
  ⟨fun i H hi h => ⟨xs, xs[i], h, List.getElem?_eq_getElem hi⟩, fun H h => ⟨xs, h, Nat.le_refl _⟩, fun i H v H' _ h ⟨T, x, e1, e2, e3, e4⟩ => ⟨T, _, x, e1, e2, e3, rfl, e4 xs h⟩⟩
theorem walk_z {k m : Bool} {K : PySem.W.Frag} {a b : Addr} {xs ys : List V} : Walk (ItZ k m K a b) (min xs.length ys.length) (fun H => SqK k K H a xs ∧ SqK m K H b ys) (YPair (fun i => xs[i]?) (fun i => ys[i]?)) :=
  ⟨fun i H hi h => ⟨xs, ys, xs[i]'(by omega), ys[i]'(by omega), h.1, h.2, List.getElem?_eq_getElem (by omega), List.getElem?_eq_getElem (by omega)⟩, fun H h => ⟨xs, ys, h.1, h.2, by omega⟩, fun i H v H' _ h ⟨T, x, y, e1, e2, e3, e4, e5⟩ => ⟨T, x, y, e1, e2, e3, e4 xs h.1, e5 ys h.2⟩⟩
end DL
end
section
set_option Elab.async false
set_option linter.all false
set_option maxRecDepth 100000
set_option maxHeartbeats 4000000
/-! DI: what is walked over, for, list comprehensions. -/
namespace DL
open PySem PySem.Spec PyProof.Rows L2
/-- the heap H without the live lists of own -/
noncomputable def bareH (H : Hp) (own : Nat → Option Addr) : Hp := fun b => by
  classical exact if ∃ i, own i = some b then none else H b
def KeptO (O : Addr → Prop) (H H' : Hp) : Prop := ∀ b o, ¬ O b → H b = some o → H' b = some o
structure ItD (g : Gx) (O : Addr → Prop) (J : It) (H1 : Hp) (ds : List D) : Prop where
  len : ds.length ≤ sizeLine
  step : ∀ H2 O2, KeptO O H1 H2 → Vw g H2 O2 → (∀ b, O2 b → O b ∨ H1 b = none) → (∀ i, i < ds.length → J.go i H2) ∧ J.stop ds.length H2 ∧
    ∀ i x H3, i < ds.length → J.yld i H2 x H3 → ∃ d, ds[i]? = some d ∧ ExtH g H2 H3 ∧ g.dkOk H3 ∧ Rep g H3 O2 d x
structure PID (X : Cx) (g : Gx) (xp : Exc → Prop) (tg iter : Expr) (f : WL) : Prop where
  mono : ∀ ρ K K', (∀ d, K d → K' d) → f ρ K → f ρ K'
  pi : ∀ H0 O, XLink X g H0 O xp → PI X tg iter (fun σ H R => ∃ ρ own, EnvOk g H0 O σ H ρ own ∧ f ρ fun ds => ∀ J H1, ExtH g H H1 → g.dkOk H1 → ItD g (hidO O own) J H1 ds → R J H1)
theorem pi_imp {X : Cx} {tg iter : Expr} {t t' : TI} (h : PI X tg iter t) (i : ∀ σ H R, t' σ H R → t σ H R) : PI X tg iter t' := ⟨fun pins s σ H R I q => h.run pins s σ H R I (i σ H R q)⟩
section
variable {g : Gx} {H0 H H1 H2 : Hp} {O O2 : Addr → Prop} {σ : L2.St} {ρ : Env} {own : Nat → Option Addr}
theorem bare_own {i : Nat} {a : Addr} (h : own i = some a) : bareH H own a = none := by unfold bareH; rw [if_pos ⟨i, h⟩]
theorem bare_of {b : Addr} {o : HO} (e : bareH H own b = some o) : H b = some o := by
  unfold bareH at e
  split at e
  · cases e
  · exact e
theorem bare_to {b : Addr} (n : ∀ i, own i ≠ some b) : bareH H own b = H b := by unfold bareH; rw [if_neg (fun ⟨i, h⟩ => n i h)]
/-- the same frame, seen from where it stands now -/
theorem EnvOk.rebase (E : EnvOk g H0 O σ H ρ own) : EnvOk g (bareH H own) O σ H ρ own :=
  ⟨E.len, E.sl, E.inj, fun i a h => ⟨(E.ofr i a h).1, bare_own h⟩, fun b o _ e => bare_of e, E.dko, E.dks, E.oin⟩
theorem EnvOk.exB (E : EnvOk g H0 O σ H ρ own) : ExtH g H0 (bareH H own) := fun b o n e => by
  rw [bare_to fun i h => by rw [(E.ofr i b h).2] at e; cases e]
  exact E.ext b o n e
theorem EnvOk.base {H0' : Hp} (e : ExtH g H0 H0') (E : EnvOk g H0' O σ H ρ own) : EnvOk g H0 O σ H ρ own :=
  ⟨E.len, E.sl, E.inj, fun i a h => ⟨(E.ofr i a h).1, by
    cases q : H0 a with
    | none => rfl
    | some o => rw [← e a o (E.ndk h) q, (E.ofr i a h).2]⟩, e.trans E.ext, E.dko, E.dks, E.oin⟩
theorem XLink.up {X : Cx} {xp : Exc → Prop} (L : XLink X g H0 O xp) (e : ExtH g H0 H1) : XLink X g H1 O xp := by
  obtain ⟨E, t, h⟩ := L.ex
  exact ⟨E, t, fun x hx cls od H' e' d' r' => h x hx cls od H' (e.trans e') d' r'⟩
theorem PostOk.up {P : Post} {Dn : Ends} (po : PostOk g H0 O P Dn) (e : ExtH g H0 H1) : PostOk g H1 O P Dn :=
  ⟨fun ρ σ H own k E => po.nx ρ σ H own k (E.base e), fun d v H k e' v' r => po.rt d v H k (e.trans e') v' r, fun ρ σ H own k E => po.bk ρ σ H own k (E.base e), fun ρ σ H own k E => po.ct ρ σ H own k (E.base e)⟩
/-- what a later state of a loop keeps -/
theorem kept_of (E1 : EnvOk g H0 O σ H1 ρ own) {σ2 : L2.St} {ρ2 : Env} {own2 : Nat → Option Addr} (E2 : EnvOk g (bareH H1 own) O2 σ2 H2 ρ2 own2) : KeptO (hidO O own) H1 H2 := fun b o hb e =>
  E2.ext b o (fun z => hb (z ▸ E1.hdk)) (by rw [bare_to fun i h => hb (.inr ⟨i, h⟩)]; exact e)
theorem new_of (E1 : EnvOk g H0 O σ H1 ρ own) {σ2 : L2.St} {ρ2 : Env} {own2 : Nat → Option Addr} (E2 : EnvOk g (bareH H1 own) O2 σ2 H2 ρ2 own2) (ho : ∀ b, O2 b → O b ∨ H1 b = none) : ∀ b, hidO O2 own2 b → hidO O own b ∨ H1 b = none := fun b hb => by
  rcases hb with hb | ⟨i, hb⟩
  · exact (ho b hb).elim (fun z => .inl (.inl z)) .inr
  · by_cases h : ∃ i, own i = some b
    · exact .inl (.inr h)
    · have q := (E2.ofr i b hb).2
      rw [bare_to fun i z => h ⟨i, z⟩] at q
      exact .inr q
/-- kinds of iterators -/
theorem itd_seq {K : PySem.W.Frag} {ds : List D} {vs : List V} {a : Addr} (hK : K = g.K) (r : RepL g H1 O ds vs) (zl : vs.length ≤ sizeLine) (h : LstAt g H1 O a vs) : ItD g O (Itl K a) H1 ds := by
  subst hK
  refine ⟨by rw [r.length]; exact zl, fun H2 O2 kp vw nw => ?_⟩
  have h2 : SqL g.K H2 a vs := .inl (.inl (kp a _ h.1 h.2))
  have w := walk_list (K := g.K) (a := a) (xs := vs)
  refine ⟨fun i hi => w.goes i H2 (by rw [← r.length]; exact hi) h2, by rw [r.length]; exact w.stops H2 h2, fun i x H3 hi y => ?_⟩
  obtain ⟨rfl, e⟩ := w.yields i H2 x H3 (by rw [← r.length]; exact hi) h2 y
  obtain ⟨d, hd, rd⟩ := r.get e
  exact ⟨d, hd, ExtH.refl _, vw.dko, Rep.move kp (fun b hb hn z => (nw b z).elim hb hn) _ _ rd⟩
theorem TupAt.keep {vs : List V} {a : Addr} (kp : KeptO O H1 H2) (h : TupAt g H1 O a vs) : SqT g.K H2 a vs := by
  rcases h with ⟨n, h⟩ | h
  · exact TupAt.sq (O := fun _ => False) (.inl ⟨id, rd_move n kp h⟩)
  · exact TupAt.sq (O := fun _ => False) (.inr h)
theorem itd_tup {K : PySem.W.Frag} {ds : List D} {vs : List V} {a : Addr} (hK : K = g.K) (r : RepL g H1 O ds vs) (zl : vs.length ≤ sizeLine) (h : TupAt g H1 O a vs) : ItD g O (Itt K a) H1 ds := by
  subst hK
  refine ⟨by rw [r.length]; exact zl, fun H2 O2 kp vw nw => ?_⟩
  have h2 : SqT g.K H2 a vs := h.keep kp
  have w := walk_tup (K := g.K) (a := a) (xs := vs)
  refine ⟨fun i hi => w.goes i H2 (by rw [← r.length]; exact hi) h2, by rw [r.length]; exact w.stops H2 h2, fun i x H3 hi y => ?_⟩
  obtain ⟨rfl, e⟩ := w.yields i H2 x H3 (by rw [← r.length]; exact hi) h2 y
  obtain ⟨d, hd, rd⟩ := r.get e
  exact ⟨d, hd, ExtH.refl _, vw.dko, Rep.move kp (fun b hb hn z => (nw b z).elim hb hn) _ _ rd⟩
def ranD (lo c : Int) (n : Nat) : List D := (List.range n).map fun (i : Nat) => D.int (lo + (i : Int) * c)
theorem ranD_get {lo c : Int} {n i : Nat} (h : i < n) : (ranD lo c n)[i]? = some (.int (lo + (i : Int) * c)) := by
  unfold ranD; rw [List.getElem?_map, List.getElem?_range h]; rfl
theorem ranD_len {lo c : Int} {n : Nat} : (ranD lo c n).length = n := by unfold ranD; rw [List.length_map, List.length_range]
theorem itd_rng {lo : Int} {n : Nat} (h : n ≤ sizeLine) : ItD g O (Itr lo n) H1 (ranD lo 1 n) := by
  refine ⟨by rw [ranD_len]; exact h, fun H2 O2 kp vw nw => ⟨fun i hi => by rw [ranD_len] at hi; exact hi, by rw [ranD_len]; exact Nat.le_refl n, fun i x H3 hi y => ?_⟩⟩
  rw [ranD_len] at hi
  obtain ⟨rfl, rfl⟩ := y
  exact ⟨_, ranD_get hi, ExtH.refl _, vw.dko, by rw [Int.mul_one]; exact rfl⟩
theorem itd_rngC {lo c : Int} {n : Nat} (h : n ≤ sizeLine) : ItD g O (Itc lo c n) H1 (ranD lo c n) := by
  refine ⟨by rw [ranD_len]; exact h, fun H2 O2 kp vw nw => ⟨fun i hi => by rw [ranD_len] at hi; exact hi, by rw [ranD_len]; exact Nat.le_refl n, fun i x H3 hi y => ?_⟩⟩
  rw [ranD_len] at hi
  obtain ⟨rfl, rfl⟩ := y
  exact ⟨_, ranD_get hi, ExtH.refl _, vw.dko, rfl⟩
def enD (n : Nat) : List D → List D
  | [] => []
  | d :: ds => .tup [.int (n : Int), d] :: enD (n + 1) ds
theorem enD_len : ∀ (ds : List D) (n : Nat), (enD n ds).length = ds.length
  | [], _ => rfl
  | d :: ds, n => by unfold enD; rw [List.length_cons, List.length_cons, enD_len ds]
theorem enD_get : ∀ (ds : List D) (n i : Nat) (d : D), ds[i]? = some d → (enD n ds)[i]? = some (.tup [.int ((n + i : Nat) : Int), d])
  | [], _, i, d, h => by simp at h
  | e :: ds, n, 0, d, h => by
    have h : e = d := Option.some.inj h
    subst h; rfl
  | e :: ds, n, i + 1, d, h => by
    have q := enD_get ds (n + 1) i d h
    rw [show n + 1 + i = n + (i + 1) by omega] at q
    exact q
def zpD : List D → List D → List D
  | d :: ds, e :: es => .tup [d, e] :: zpD ds es
  | _, _ => []
theorem zpD_len : ∀ (ds es : List D), (zpD ds es).length = min ds.length es.length
  | [], _ => by unfold zpD; simp
  | _ :: _, [] => by unfold zpD; simp
  | d :: ds, e :: es => by unfold zpD; rw [List.length_cons, List.length_cons, List.length_cons, zpD_len ds es]; omega
theorem zpD_get : ∀ (ds es : List D) (i : Nat) (d e : D), ds[i]? = some d → es[i]? = some e → (zpD ds es)[i]? = some (.tup [d, e])
  | [], _, i, d, e, h, _ => by simp at h
  | _ :: _, [], i, d, e, _, h => by simp at h
  | d' :: ds, e' :: es, 0, d, e, h, h' => by
    have h : d' = d := Option.some.inj h
    have h' : e' = e := Option.some.inj h'
    subst h; subst h'; rfl
  | d' :: ds, e' :: es, i + 1, d, e, h, h' => zpD_get ds es i d e h h'
theorem pair_rep {T : Addr} {x y : V} {d e : D} (vw : Vw g H2 O2) (n : H2 T = none) (rd : Rep g H2 O2 d x) (re : Rep g H2 O2 e y) : Rep g (upd H2 T (.tup [x, y])) O2 (.tup [d, e]) (.ref T) := by
  have ex := ext_new (g := g) (o := .tup [x, y]) n
  refine ⟨T, [x, y], rfl, .inl ⟨fun z => vw.oin T z n, .inl upd_same⟩, RepL.cons (rd.ext vw.odk ex) (RepL.one (re.ext vw.odk ex))⟩
theorem itd_en {K : PySem.W.Frag} {k : Bool} {ds : List D} {vs : List V} {a : Addr} (hK : K = g.K) (r : RepL g H1 O ds vs) (zl : vs.length ≤ sizeLine) (h : ∀ H2, KeptO O H1 H2 → SqK k g.K H2 a vs) : ItD g O (ItE k K a) H1 (enD 0 ds) := by
  subst hK
  refine ⟨by rw [enD_len, r.length]; exact zl, fun H2 O2 kp vw nw => ?_⟩
  have h2 := h H2 kp
  have w := walk_e (k := k) (K := g.K) (a := a) (xs := vs)
  refine ⟨fun i hi => w.goes i H2 (by rw [← r.length, ← enD_len ds 0]; exact hi) h2, by rw [enD_len, r.length]; exact w.stops H2 h2, fun i x H3 hi y => ?_⟩
  obtain ⟨T, x1, y1, rfl, n, rfl, e1, e2⟩ := w.yields i H2 x H3 (by rw [← r.length, ← enD_len ds 0]; exact hi) h2 y
  obtain ⟨d, hd, rd⟩ := r.get e2
  have e1 : V.int (i : Nat) = x1 := Option.some.inj e1
  subst e1
  refine ⟨_, enD_get ds 0 i d hd, ext_new n, dk_new vw.dko n, pair_rep vw n ?_ (Rep.move kp (fun b hb hn z => (nw b z).elim hb hn) _ _ rd)⟩
  rw [Nat.zero_add]; exact rfl
theorem itd_zp {K : PySem.W.Frag} {k m : Bool} {ds es : List D} {vs us : List V} {a b : Addr} (hK : K = g.K) (r : RepL g H1 O ds vs) (r' : RepL g H1 O es us) (zl : vs.length ≤ sizeLine) (h : ∀ H2, KeptO O H1 H2 → SqK k g.K H2 a vs) (h' : ∀ H2, KeptO O H1 H2 → SqK m g.K H2 b us) : ItD g O (ItZ k m K a b) H1 (zpD ds es) := by
  subst hK
  have el : (zpD ds es).length = min vs.length us.length := by rw [zpD_len, r.length, r'.length]
  refine ⟨by rw [el]; omega, fun H2 O2 kp vw nw => ?_⟩
  have h2 := h H2 kp
  have h2' := h' H2 kp
  have w := walk_z (k := k) (m := m) (K := g.K) (a := a) (b := b) (xs := vs) (ys := us)
  refine ⟨fun i hi => w.goes i H2 (by rw [← el]; exact hi) ⟨h2, h2'⟩, by rw [el]; exact w.stops H2 ⟨h2, h2'⟩, fun i x H3 hi y => ?_⟩
  obtain ⟨T, x1, y1, rfl, n, rfl, e1, e2⟩ := w.yields i H2 x H3 (by rw [← el]; exact hi) ⟨h2, h2'⟩ y
  obtain ⟨d, hd, rd⟩ := r.get e1
  obtain ⟨e, he, re⟩ := r'.get e2
  have mv : ∀ b, ¬ O b → H1 b ≠ none → ¬ O2 b := fun b hb hn z => (nw b z).elim hb hn
  exact ⟨_, zpD_get ds es i d e hd he, ext_new n, dk_new vw.dko n, pair_rep vw n (Rep.move kp mv _ _ rd) (Rep.move kp mv _ _ re)⟩
end
section
variable {X : Cx} {g : Gx} {xp : Exc → Prop} {tg e a b c : Expr} {fe fa fb fc : WE} {pos p : Pos}
theorem repl3 {H : Hp} {O : Addr → Prop} {x y z : D} {vs : List V} (r : RepL g H O [x, y, z] vs) : ∃ v w u, vs = [v, w, u] ∧ Rep g H O x v ∧ Rep g H O y w ∧ Rep g H O z u := by
  obtain ⟨v, vs', e, r1, r2⟩ := r
  obtain ⟨w, u, e', r3, r4⟩ := repl2 r2
  exact ⟨v, w, u, by rw [e, e'], r1, r3, r4⟩
/-! ### iterables -/
def iSeq (fe : WE) : WL := fun ρ K => fe ρ fun d => ∃ xs, (d = .lst xs ∨ d = .tup xs) ∧ K xs
theorem pid_seq (G : XG X g) (he : PD X g xp e fe) : PID X g xp tg e (iSeq fe) := by
  refine ⟨fun ρ K K' m => he.mono _ _ _ fun d ⟨xs, h, k⟩ => ⟨xs, h, m _ k⟩, fun H0 O L => pi_imp (pi_sq (he.pe H0 O L)) fun σ H R ⟨ρ, own, E, k⟩ => ⟨ρ, own, E, he.mono _ _ _ (fun d ⟨xs, h, k⟩ v H1 e1 d1 r1 => ?_) k⟩⟩
  have hK := G.K
  rcases h with rfl | rfl
  · obtain ⟨l, vs, rfl, hp, rp⟩ := r1
    exact ⟨l, rfl, .inl ⟨vs, by rw [hK]; exact hp.sq, fun zl => k _ _ e1 d1 (itd_seq hK rp zl hp)⟩⟩
  · obtain ⟨l, vs, rfl, hp, rp⟩ := r1
    exact ⟨l, rfl, .inr ⟨vs, by rw [hK]; exact hp.sq, fun zl => k _ _ e1 d1 (itd_tup hK rp zl hp)⟩⟩
def iR1 (fa : WE) : WL := fun ρ K => fa ρ fun x => ∃ j : Int, x = .int j ∧ -1000000 ≤ j ∧ j ≤ 1000000 ∧ K (ranD 0 1 j.toNat)
theorem pid_r1 (G : XG X g) (ha : PD X g xp a fa) (hm : g.mg "range" = none) (hg : Gl X "range" := by rfl) (hs : starEach [a] X.env = [(false, eval a X.env)] := by rfl) : PID X g xp tg (.Call (.Name "range" p) [a] [] pos) (iR1 fa) := by
  have hl : PDA X g xp [a] (wCons fa wNil) := pda_cons ha pda_nil hs
  refine ⟨fun ρ K K' m => ha.mono _ _ _ fun x ⟨j, z1, z2, z3, k⟩ => ⟨j, z1, z2, z3, m _ k⟩, fun H0 O L => pi_imp (pi_range1 hg (by rw [G.mg]; exact hm) (hl.pa H0 O L) hs) fun σ H R ⟨ρ, own, E, k⟩ => ⟨ρ, own, E, ha.mono _ _ _ (fun x ⟨j, z1, z2, z3, k⟩ vs H1 e1 d1 r1 => ?_) k⟩⟩
  subst z1
  obtain ⟨v, rfl, rv⟩ := repl1 r1
  have rv : v = .int j := rv
  subst rv
  have m := mil
  exact ⟨j, rfl, by omega, by omega, k _ _ e1 d1 (itd_rng (by omega))⟩
def iR2 (fa fb : WE) : WL := fun ρ K => fa ρ fun x => fb ρ fun y => ∃ i j : Int, x = .int i ∧ y = .int j ∧ -400000 ≤ i ∧ i ≤ 400000 ∧ -400000 ≤ j ∧ j ≤ 400000 ∧ K (ranD i 1 (j - i).toNat)
theorem pid_r2 (G : XG X g) (ha : PD X g xp a fa) (hb : PD X g xp b fb) (hm : g.mg "range" = none) (hg : Gl X "range" := by rfl) (hs : starEach [a, b] X.env = [(false, eval a X.env), (false, eval b X.env)] := by rfl) (hs2 : starEach [b] X.env = [(false, eval b X.env)] := by rfl) : PID X g xp tg (.Call (.Name "range" p) [a, b] [] pos) (iR2 fa fb) := by
  have hl : PDA X g xp [a, b] (wCons fa (wCons fb wNil)) := pda_cons ha (pda_cons hb pda_nil hs2) (by rw [hs, hs2])
  refine ⟨fun ρ K K' m => ha.mono _ _ _ fun x => hb.mono _ _ _ fun y ⟨i, j, z1, z2, z3, z4, z5, z6, k⟩ => ⟨i, j, z1, z2, z3, z4, z5, z6, m _ k⟩, fun H0 O L => pi_imp (pi_range2 hg (by rw [G.mg]; exact hm) (hl.pa H0 O L) hs hs2) fun σ H R ⟨ρ, own, E, k⟩ => ⟨ρ, own, E, ?_⟩⟩
  refine ha.mono _ _ _ (fun x k1 => hb.mono _ _ _ (fun y ⟨i, j, z1, z2, z3, z4, z5, z6, k2⟩ vs H1 e1 d1 r1 => ?_) k1) k
  subst z1 z2
  obtain ⟨v, w, rfl, rv, rw'⟩ := repl2 r1
  have rv : v = .int i := rv
  have rw' : w = .int j := rw'
  subst rv rw'
  have m := mil
  exact ⟨i, j, rfl, ⟨by omega, by omega, by omega, by omega⟩, k2 _ _ e1 d1 (itd_rng (by omega))⟩
/-- range(i, j, -1) -/
def iR3 (fa fb fc : WE) : WL := fun ρ K => fa ρ fun x => fb ρ fun y => fc ρ fun z => ∃ i j : Int, x = .int i ∧ y = .int j ∧ z = .int (-1) ∧ -400000 ≤ i ∧ i ≤ 400000 ∧ -400000 ≤ j ∧ j ≤ 400000 ∧ K (ranD i (-1) (i - j).toNat)
theorem pid_r3 (G : XG X g) (ha : PD X g xp a fa) (hb : PD X g xp b fb) (hc : PD X g xp c fc) (hm : g.mg "range" = none) (hg : Gl X "range" := by rfl) (hs : starEach [a, b, c] X.env = (false, eval a X.env) :: starEach [b, c] X.env := by rfl) (hs2 : starEach [b, c] X.env = (false, eval b X.env) :: starEach [c] X.env := by rfl) (hs3 : starEach [c] X.env = (false, eval c X.env) :: starEach [] X.env := by rfl)
    (hpl : (backTo pos (starEach [b, c] X.env)).any (·.1) = false := by rfl) : PID X g xp tg (.Call (.Name "range" p) [a, b, c] [] pos) (iR3 fa fb fc) := by
  have hl : PDA X g xp [a, b, c] (wCons fa (wCons fb (wCons fc wNil))) := pda_cons ha (pda_cons hb (pda_cons hc pda_nil hs3) hs2) hs
  refine ⟨fun ρ K K' m => ha.mono _ _ _ fun x => hb.mono _ _ _ fun y => hc.mono _ _ _ fun z ⟨i, j, z1, z2, z0, z3, z4, z5, z6, k⟩ => ⟨i, j, z1, z2, z0, z3, z4, z5, z6, m _ k⟩, fun H0 O L => pi_imp (pi_range3 hg (by rw [G.mg]; exact hm) (hl.pa H0 O L) hs hpl) fun σ H R ⟨ρ, own, E, k⟩ => ⟨ρ, own, E, ?_⟩⟩
  refine ha.mono _ _ _ (fun x k1 => hb.mono _ _ _ (fun y k2 => hc.mono _ _ _ (fun z ⟨i, j, z1, z2, z0, z3, z4, z5, z6, k3⟩ vs H1 e1 d1 r1 => ?_) k2) k1) k
  subst z1 z2 z0
  obtain ⟨v, w, u, rfl, rv, rw', ru⟩ := repl3 r1
  have rv : v = .int i := rv
  have rw' : w = .int j := rw'
  have ru : u = .int (-1) := ru
  subst rv rw' ru
  have m := mil
  exact ⟨i, j, -1, _, rfl, RgC.neg (by omega) (by omega) (by omega) (by omega), k3 _ _ e1 d1 (itd_rngC (by omega))⟩
/-- a list or a tuple, whichever kind -/
theorem rep_sqk {H1 : Hp} {O : Addr → Prop} {d : D} {v : V} {xs : List D} (h : d = .lst xs ∨ d = .tup xs) (r : Rep g H1 O d v) : ∃ k l vs, v = .ref l ∧ SqK k g.K H1 l vs ∧ (∀ H2, KeptO O H1 H2 → SqK k g.K H2 l vs) ∧ RepL g H1 O xs vs := by
  rcases h with rfl | rfl
  · obtain ⟨l, vs, rfl, hp, rp⟩ := r
    exact ⟨true, l, vs, rfl, hp.sq, fun H2 kp => .inl (.inl (kp l _ hp.1 hp.2)), rp⟩
  · obtain ⟨l, vs, rfl, hp, rp⟩ := r
    exact ⟨false, l, vs, rfl, hp.sq, fun H2 kp => hp.keep kp, rp⟩
def iEnD (fe : WE) : WL := fun ρ K => fe ρ fun d => ∃ xs, (d = .lst xs ∨ d = .tup xs) ∧ K (enD 0 xs)
theorem pid_en {elts : List Expr} {kk : Nat} {tpos : Pos} (G : XG X g) (he : PD X g xp e fe) (hm : g.mg "enumerate" = none) (hg : Gl X "enumerate" := by rfl) (hs : starEach [e] X.env = [(false, eval e X.env)] := by rfl) : PID X g xp (.Tuple elts kk tpos) (.Call (.Name "enumerate" p) [e] [] pos) (iEnD fe) := by
  have hl : PDA X g xp [e] (wCons fe wNil) := pda_cons he pda_nil hs
  refine ⟨fun ρ K K' m => he.mono _ _ _ fun x ⟨xs, z, k⟩ => ⟨xs, z, m _ k⟩, fun H0 O L => pi_imp (pi_en hg (by rw [G.mg]; exact hm) (hl.pa H0 O L) hs) fun σ H R ⟨ρ, own, E, k⟩ => ⟨ρ, own, E, he.mono _ _ _ (fun d ⟨xs, h, k⟩ vs H1 e1 d1 r1 => ?_) k⟩⟩
  obtain ⟨v, rfl, rv⟩ := repl1 r1
  obtain ⟨kd, l, us, rfl, h1, h2, h3⟩ := rep_sqk h rv
  have hK := G.K
  exact ⟨kd, l, us, rfl, by rw [hK]; exact h1, fun zl => k _ _ e1 d1 (itd_en hK h3 zl h2)⟩
def iZpD (fa fb : WE) : WL := fun ρ K => fa ρ fun x => fb ρ fun y => ∃ xs ys, (x = .lst xs ∨ x = .tup xs) ∧ (y = .lst ys ∨ y = .tup ys) ∧ K (zpD xs ys)
theorem pid_zp {elts : List Expr} {kk : Nat} {tpos : Pos} (G : XG X g) (ha : PD X g xp a fa) (hb : PD X g xp b fb) (hm : g.mg "zip" = none) (hg : Gl X "zip" := by rfl) (hs : starEach [a, b] X.env = (false, eval a X.env) :: starEach [b] X.env := by rfl) (hs2 : starEach [b] X.env = (false, eval b X.env) :: starEach [] X.env := by rfl)
    (hpl : (backTo pos (starEach [b] X.env)).any (·.1) = false := by rfl) : PID X g xp (.Tuple elts kk tpos) (.Call (.Name "zip" p) [a, b] [] pos) (iZpD fa fb) := by
  have hl : PDA X g xp [a, b] (wCons fa (wCons fb wNil)) := pda_cons ha (pda_cons hb pda_nil hs2) hs
  refine ⟨fun ρ K K' m => ha.mono _ _ _ fun x => hb.mono _ _ _ fun y ⟨xs, ys, z1, z2, k⟩ => ⟨xs, ys, z1, z2, m _ k⟩, fun H0 O L => pi_imp (pi_zp hg (by rw [G.mg]; exact hm) (hl.pa H0 O L) hs hpl) fun σ H R ⟨ρ, own, E, k⟩ => ⟨ρ, own, E, ?_⟩⟩
  refine ha.mono _ _ _ (fun x k1 => hb.mono _ _ _ (fun y ⟨xs, ys, z1, z2, k2⟩ vs H1 e1 d1 r1 => ?_) k1) k
  obtain ⟨v, w, rfl, rv, rw'⟩ := repl2 r1
  obtain ⟨kd, l, us, rfl, h1, h2, h3⟩ := rep_sqk z1 rv
  obtain ⟨kd', l', us', rfl, h1', h2', h3'⟩ := rep_sqk z2 rw'
  have hK := G.K
  exact ⟨kd, kd', l, l', us, us', rfl, by rw [hK]; exact h1, by rw [hK]; exact h1', fun zl => k2 _ _ e1 d1 (itd_zp hK h3 h3' zl h2 h2')⟩
/-- a live list, read while one walks: borrowed for the walk's making only -/
def iBor (i : Nat) (f : WL) : WL := fun ρ K => ∃ xs, ρ[i]? = some (.lv xs) ∧ f (ρ.set i (.sh (.lst xs))) K

/-! ### for -/
def wForL (t : WG) (fb : WS) : List D → WS
  | [], P, ρ => P.nx ρ
  | d :: ds, P, ρ => t d ρ fun ρ1 => fb { nx := wForL t fb ds P, rt := P.rt, bk := P.nx, ct := wForL t fb ds P } ρ1
def wFor (fi : WL) (t : WG) (fb : WS) : WS := fun P ρ => fi ρ fun ds => wForL t fb ds P ρ
theorem psd_for {iter : Expr} {body : List Stmt} {is : List Nat} {t : WG} {fi : WL} {fb : WS} (hp : PassesOwn (model X.prog X.w) X.A X.env X.xe) (hi : PID X g xp tg iter fi) (hg : PGD X g tg is t) (hb : PSsD X g xp body fb) (hc : X.calm = true := by rfl)
    (hs : ∀ x, foldedSetIterable iter X.env x = pure x := by intro _; rfl) : PSD X g xp (.For tg iter body [] pos) (wFor fi t fb) := by
  have mono : ∀ (P P' : Post), P.le P' → ∀ ds ρ, wForL t fb ds P ρ → wForL t fb ds P' ρ := fun P P' l ds => by
    induction ds with
    | nil => exact fun ρ h => l.nx ρ h
    | cons d ds ih => exact fun ρ => hg.mono _ _ _ _ fun ρ1 => hb.mono _ _ _ ⟨ih, l.rt, l.nx, ih⟩
  refine ⟨fun P P' ρ l => hi.mono _ _ _ fun ds => mono P P' l ds ρ, fun H0 O L => ?_⟩
  have hgt : PG X tg (fun v σ H Q => ∃ H0', ∃ ρ own d, EnvOk g H0' O σ H ρ own ∧ Rep g H (hidO O own) d v ∧ t d ρ fun ρ' => ∀ σ' own', EnvOk g H0' O σ' H ρ' own' → (∀ b, hidO O own' b → hidO O own b) → OnlyAt is σ σ' own own' → Q σ' H) :=
    ⟨fun pins s σ H v u Q I r ⟨H0', q⟩ => (hg.pg H0' O).run pins s σ H v u Q I r q⟩
  have hbt : PSs X body (fun Dn σ H => ∃ H0', XLink X g H0' O xp ∧ tDS g H0' O fb Dn σ H) := ⟨fun pins s σ H Dn I ⟨H0', L', q⟩ => (hb.ps H0' O L').run pins s σ H Dn I q⟩
  refine ps_imp (ps_for hp hc (hi.pi H0 O L) hgt hbt hs) fun Dn σ H ⟨ρ, own, P, E, po, k⟩ => ⟨ρ, own, E, hi.mono _ _ _ (fun ds k J H1 e1 d1 it => ?_) k⟩
  have E1 := E.move e1 d1
  have xb := E1.exB
  have L1 := L.up xb
  refine ⟨fun i m σ H => m = ds.length - i ∧ i ≤ ds.length ∧ ∃ ρ own2, EnvOk g (bareH H1 own) O σ H ρ own2 ∧ wForL t fb (ds.drop i) P ρ, ⟨ds.length, by simp, Nat.zero_le _, ρ, own, E1.rebase, k⟩, ?_⟩
  rintro i m σ2 H2 ⟨rfl, hi2, ρ2, own2, E2, k2⟩
  obtain ⟨go, stop, yld⟩ := it.step H2 (hidO O own2) (kept_of E1 E2) E2.vw (new_of E1 E2 fun b hb => .inl hb)
  by_cases hlt : i < ds.length
  · refine .inr ⟨go i hlt, fun σ' H' => ∃ ρ own2, EnvOk g (bareH H1 own) O σ' H' ρ own2 ∧ wForL t fb (ds.drop (i + 1)) P ρ, fun σ' H' h => ⟨ds.length - (i + 1), by omega, rfl, hlt, h⟩, fun x H3 y => ?_⟩
    obtain ⟨d, hd, e3, d3, r3⟩ := yld i x H3 hlt y
    rw [List.drop_eq_getElem_cons hlt] at k2
    have ed : ds[i] = d := by rw [List.getElem?_eq_getElem hlt] at hd; exact Option.some.inj hd
    rw [ed] at k2
    refine ⟨bareH H1 own, ρ2, own2, d, E2.move e3 d3, r3, hg.mono _ _ _ _ (fun ρ4 k4 σ4 own4 E4 _ _ => ⟨bareH H1 own, L1, ρ4, own4, _, E4, ?_, k4⟩) k2⟩
    exact ⟨fun ρ' σ' H' own' k' E' => ⟨ρ', own', E', k'⟩, (po.up xb).rt, fun ρ' σ' H' own' k' E' => (po.up xb).nx _ _ _ _ k' E', fun ρ' σ' H' own' k' E' => ⟨ρ', own', E', k'⟩⟩
  · have e : i = ds.length := by omega
    subst e
    rw [List.drop_length] at k2
    exact .inl ⟨stop, (po.up xb).nx _ _ _ _ k2 E2⟩
end
end DL
end
section
set_option Elab.async false
set_option linter.all false
set_option maxRecDepth 100000
set_option maxHeartbeats 4000000
/-! DJ: list comprehensions of one clause. -/
namespace DL
open PySem PySem.Spec PyProof.Rows L2
def wipeE (ρ : Env) : List Nat → Env
  | [] => ρ
  | v :: vs => (wipeE ρ vs).set v .un
/-- none of the slots is live -/
def noLv (ρ : Env) (vs : List Nat) : Prop := ∀ i, i ∈ vs → ∀ xs, ρ[i]? ≠ some (.lv xs)
section
variable {g : Gx} {H0 H H1 H2 : Hp} {O O2 : Addr → Prop} {σ : L2.St} {ρ : Env} {own : Nat → Option Addr}
theorem EnvOk.wipe (E : EnvOk g H0 O σ H ρ own) : ∀ (vs : List Nat), (∀ i, i ∈ vs → own i = none) → EnvOk g H0 O (L2.wipe σ vs) H (wipeE ρ vs) own
  | [], _ => E
  | v :: vs, h => by
    have e := (EnvOk.wipe E vs fun i hi => h i (List.mem_cons_of_mem _ hi)).unset v none
    have eo : ownSet own v none = own := by
      funext j
      by_cases hj : j = v
      · rw [hj, ownSet_same, h v (List.mem_cons_self ..)]
      · rw [ownSet_ne hj]
    rw [eo] at e
    exact e
theorem EnvOk.noOwn (E : EnvOk g H0 O σ H ρ own) {vs : List Nat} (n : noLv ρ vs) : ∀ i, i ∈ vs → own i = none := fun i hi => by
  have s := E.sl i
  cases q : ρ.getD i .un with
  | un => rw [q] at s; exact s
  | sh d => rw [q] at s; exact s.1
  | lv xs =>
    rw [List.getD_eq_getElem?_getD] at q
    cases z : ρ[i]? with
    | none => rw [z] at q; cases q
    | some o =>
      rw [z] at q
      exact absurd (by rw [z]; exact congrArg some q) (n i hi xs)
theorem wipe_get {vs : List Nat} {j : Nat} (σ : L2.St) : (L2.wipe σ vs)[j]? = if j ∈ vs then (if j < σ.length then some none else none) else σ[j]? := by
  induction vs with
  | nil => simp [L2.wipe]
  | cons v vs ih =>
    unfold L2.wipe
    rw [List.getElem?_set, wipe_length, ih]
    by_cases h : v = j
    · subst h; simp
    · have h' : ¬ j = v := fun e => h e.symm
      simp [h, h']
theorem only_wipe {is vs : List Nat} {σ σ2 : L2.St} (hs : ∀ i, i ∈ is → i ∈ vs) {own own' : Nat → Option Addr} (h : OnlyAt is (L2.wipe σ vs) σ2 own own') : L2.wipe σ2 vs = L2.wipe σ vs := by
  apply List.ext_getElem?
  intro j
  rw [wipe_get, wipe_get, h.1, wipe_length]
  by_cases hj : j ∈ vs
  · rw [if_pos hj, if_pos hj]
  · rw [if_neg hj, if_neg hj, (h.2 j (fun z => hj (hs j z))).1, wipe_get, if_neg hj]
/-- a hidden list is written -/
theorem EnvOk.wrO (E : EnvOk g H0 O σ H ρ own) {q : Addr} {ws : List V} (hq : O q) (n0 : H0 q = none) (nk : ¬ g.dkS q) : EnvOk g H0 O σ (upd H q (.lst ws)) ρ own := by
  have mv : ∀ b o, ¬ hidO O own b → H b = some o → upd H q (.lst ws) b = some o := fun b o hb e => by
    rw [upd_ne (fun z : b = q => hb (.inl (by rw [z]; exact hq)))]; exact e
  refine ⟨E.len, fun j => ?_, E.inj, E.ofr, fun b o hb e => ?_, g.dkStay H _ E.dko fun b hb => upd_ne fun z => nk (z ▸ hb), E.dks, fun b hb => ?_⟩
  · have s := E.sl j
    cases z : ρ.getD j .un with
    | un => rw [z] at s; exact s
    | sh d =>
      rw [z] at s
      obtain ⟨s1, x, s2, s3⟩ := s
      exact ⟨s1, x, s2, Rep.move mv (fun _ n _ => n) _ _ s3⟩
    | lv zs =>
      rw [z] at s
      obtain ⟨b, us, s1, s2, s3, s4⟩ := s
      have hb : b ≠ q := fun e => (E.ofr j b s1).1 (e ▸ hq)
      exact ⟨b, us, s1, s2, by rw [upd_ne hb]; exact s3, RepL.move mv (fun _ n _ => n) _ _ s4⟩
  · rw [upd_ne (fun z => by rw [z, n0] at e; cases e)]; exact E.ext b o hb e
  · by_cases hb2 : b = q
    · rw [hb2, upd_same]; exact fun z => nomatch z
    · rw [upd_ne hb2]; exact E.oin b hb
/-- .. is new, the frame seen with it hidden -/
theorem EnvOk.newO (E : EnvOk g H0 O σ H ρ own) {q : Addr} {ws : List V} (n : H q = none) : EnvOk g H0 (fun b => O b ∨ b = q) σ (upd H q (.lst ws)) ρ own := by
  obtain ⟨n1, n2, n3⟩ := E.noneOf n
  have ex := ext_new (g := g) (o := .lst ws) n
  have E1 := E.move ex (dk_new E.dko n)
  have hh : ∀ b, ¬ hidO O own b → H b ≠ none → ¬ hidO (fun b => O b ∨ b = q) own b := fun b hb hn z => by
    rcases z with (z | z) | z
    · exact hb (.inl z)
    · exact hn (z ▸ n)
    · exact hb (.inr z)
  have mv : ∀ b o, ¬ hidO O own b → H b = some o → upd H q (.lst ws) b = some o := fun b o _ e => by rw [upd_ne (ne_of_none e n)]; exact e
  refine ⟨E.len, fun j => ?_, E.inj, fun i a h => ⟨?_, (E.ofr i a h).2⟩, E1.ext, E1.dko, fun b hb => .inl (E.dks b hb), fun b hb => ?_⟩
  · have s := E.sl j
    cases z : ρ.getD j .un with
    | un => rw [z] at s; exact s
    | sh d =>
      rw [z] at s
      obtain ⟨s1, x, s2, s3⟩ := s
      exact ⟨s1, x, s2, Rep.move mv hh _ _ s3⟩
    | lv zs =>
      rw [z] at s
      obtain ⟨b, us, s1, s2, s3, s4⟩ := s
      exact ⟨b, us, s1, s2, ex b _ (E.ndk s1) s3, RepL.move mv hh _ _ s4⟩
  · rintro (z | z)
    · exact (E.ofr i a h).1 z
    · exact n1 (.inr ⟨i, z ▸ h⟩)
  · rcases hb with hb | hb
    · exact E1.oin b hb
    · rw [hb, upd_same]; exact fun z => nomatch z
end
/-- the turns of a comprehension -/
def lcL (t : WG) (ft : WT) (fe : WE) (ρ0 : Env) : List D → List D → (List D → Prop) → Prop
  | [], acc, K => K acc
  | d :: ds, acc, K => t d ρ0 fun ρ1 => ft ρ1 fun b => if b = true then fe ρ1 fun y => lcL t ft fe ρ0 ds (acc ++ [y]) K else lcL t ft fe ρ0 ds acc K
def lComp (fi : WL) (t : WG) (ft : WT) (fe : WE) (vs : List Nat) : WL := fun ρ K => fi ρ fun ds => noLv ρ vs ∧ lcL t ft fe (wipeE ρ vs) ds [] K
/-- a clause's tests -/
structure PDTs (X : Cx) (g : Gx) (ifs : List Expr) (f : WT) : Prop where
  mono : ∀ ρ K K', (∀ d, K d → K' d) → f ρ K → f ρ K'
  pt : ∀ H0 O, PTs X ifs (tDT g H0 O f)
theorem xlink_no {X : Cx} {g : Gx} {H0 : Hp} {O : Addr → Prop} : XLink X g H0 O (fun _ => False) := ⟨fun _ _ _ => False, fun u s' ⟨_, _, _, _, _, _, _, _, _, _, _, _, _, _, _, _, h⟩ => h.elim, fun _ h => h.elim⟩
section
variable {X : Cx} {g : Gx}
def wYes : WT := fun ρ K => K true
theorem pdts_nil : PDTs X g [] wYes := ⟨fun _ _ _ m k => m _ k, fun H0 O => ⟨fun pins s σ H Q I ⟨ρ, own, E, k⟩ => pts_nil.run pins s σ H Q I (k H (ExtH.refl H) E.dko)⟩⟩
theorem pdts_one {c : Expr} {ft : WT} (h : PDT X g (fun _ => False) c ft) : PDTs X g [c] ft := ⟨h.mono, fun H0 O => pts_one (h.pt H0 O xlink_no)⟩
end
section
variable {X : Cx} {g : Gx} {xp : Exc → Prop} {elt tg iter : Expr} {ifs : List Expr} {scope : Scope} {own0 : List (Str × Nat)} {is : List Nat} {pos p : Pos} {fi : WL} {t : WG} {ft : WT} {fe : WE}
abbrev BlkAll (X : Cx) (scope : Scope) (p : Cx → Prop) : Prop := ∀ (s : Shared) (H : Hp) (C : Addr) (cl : List (Str × Addr)) (fp : List Addr), p (X.blk s H scope (compEnvC scope cl C X.env) fp)
def gAny (g : Gx) (is : List Nat) (t : WG) : TG := fun v σ H Q => ∃ H0 O, ∃ ρ own d, EnvOk g H0 O σ H ρ own ∧ Rep g H (hidO O own) d v ∧ t d ρ fun ρ' => ∀ σ' own', EnvOk g H0 O σ' H ρ' own' → (∀ b, hidO O own' b → hidO O own b) → OnlyAt is σ σ' own own' → Q σ' H
def tAnyT (g : Gx) (ft : WT) : TT := fun σ H Q => ∃ H0 O, tDT g H0 O ft σ H Q
def tAnyE (g : Gx) (fe : WE) : TE := fun σ H Q => ∃ H0 O, tD g H0 O fe σ H Q
theorem lcL_mono (hg : ∀ d ρ K K', (∀ ρ, K ρ → K' ρ) → t d ρ K → t d ρ K') (ht : ∀ ρ K K', (∀ d, K d → K' d) → ft ρ K → ft ρ K') (he : ∀ ρ K K', (∀ d, K d → K' d) → fe ρ K → fe ρ K') {ρ0 : Env} {K K' : List D → Prop} (m : ∀ d, K d → K' d) :
    ∀ ds acc, lcL t ft fe ρ0 ds acc K → lcL t ft fe ρ0 ds acc K'
  | [], acc, h => m acc h
  | d :: ds, acc, h => hg _ _ _ _ (fun ρ1 => ht _ _ _ fun b => ite_mono (he _ _ _ fun y => lcL_mono hg ht he m ds _) (lcL_mono hg ht he m ds _)) h
/-- a comprehension's reading from the pure one -/
theorem lc_imp (hgm : ∀ d ρ K K', (∀ ρ, K ρ → K' ρ) → t d ρ K → t d ρ K') (htm : ∀ ρ K K', (∀ d, K d → K' d) → ft ρ K → ft ρ K') (hem : ∀ ρ K K', (∀ d, K d → K' d) → fe ρ K → fe ρ K')
    (him : ∀ ρ K K', (∀ d, K d → K' d) → fi ρ K → fi ρ K') {vs : List Nat} (his : ∀ i, i ∈ is → i ∈ vs) {H0 : Hp} {O : Addr → Prop} {σ : L2.St} {H : Hp} {Q : VK} (h : tDF g H0 O (lComp fi t ft fe vs) σ H Q) :
    tLc (fun σ H R => ∃ ρ own, EnvOk g H0 O σ H ρ own ∧ fi ρ fun ds => ∀ J H1, ExtH g H H1 → g.dkOk H1 → ItD g (hidO O own) J H1 ds → R J H1) (gAny g is t) (tAnyT g ft) (tAnyE g fe) vs σ H Q := by
  obtain ⟨ρ, own, E, k⟩ := h
  refine ⟨ρ, own, E, him _ _ _ (fun ds ⟨nl, k⟩ J H1 e1 d1 it Dn nD => ?_) k⟩
  have no := E.noOwn nl
  have E1 := E.move e1 d1
  have E2 : EnvOk g (bareH H1 own) O (L2.wipe σ vs) H1 (wipeE ρ vs) own := E1.rebase.wipe vs no
  have E3 : EnvOk g (bareH H1 own) (fun b => O b ∨ b = Dn) (L2.wipe σ vs) (upd H1 Dn (.lst [])) (wipeE ρ vs) own := E2.newO nD
  obtain ⟨nD1, nD2, nD3⟩ := E2.noneOf nD
  have nDk : ¬ g.dkS Dn := fun z => nD1 (.inl (E2.dks _ z))
  let KK : List D → Prop := fun xs => ∀ p ws H2, H p = none → H2 p = some (.lst ws) → ExtH g H H2 → g.dkOk H2 → RepL g H2 (fun b => hidO O own b ∨ b = p) xs ws → Q (.ref p) H2
  let Iv : Nat → Hp → Prop := fun i H' => ∃ acc ws, H' Dn = some (.lst ws) ∧ RepL g H' (hidO (fun b => O b ∨ b = Dn) own) acc ws ∧ acc.length ≤ i ∧ ExtH g H1 H' ∧ EnvOk g (bareH H1 own) (fun b => O b ∨ b = Dn) (L2.wipe σ vs) H' (wipeE ρ vs) own ∧ lcL t ft fe (wipeE ρ vs) (ds.drop i) acc KK
  have hp : ∀ b, (hidO O own b ∨ b = Dn) → hidO (fun b => O b ∨ b = Dn) own b := fun b hb => hb.elim (fun z => z.elim (fun z => .inl (.inl z)) .inr) fun z => .inl (.inr z)
  refine ⟨fun i m H' => m = ds.length - i ∧ i ≤ ds.length ∧ Iv i H', ⟨ds.length, by simp, Nat.zero_le _, [], [], upd_same, RepL.nil, Nat.le_refl _, ext_new nD, E3, k⟩, ?_⟩
  rintro i m H2 ⟨rfl, hi2, acc, ws, hD, ra, la, x2, E4, k2⟩
  obtain ⟨go, stop, yld⟩ := it.step H2 (hidO (fun b => O b ∨ b = Dn) own) (kept_of E1 E4) E4.vw (new_of E1 E4 fun b hb => hb.elim .inl fun z => .inr (z ▸ nD))
  by_cases hlt : i < ds.length
  · refine .inr ⟨go i hlt, Iv (i + 1), fun H' h => ⟨ds.length - (i + 1), by omega, rfl, hlt, h⟩, fun x H3 y => ?_⟩
    obtain ⟨d, hd, e3, d3, r3⟩ := yld i x H3 hlt y
    rw [List.drop_eq_getElem_cons hlt] at k2
    have ed : ds[i] = d := by rw [List.getElem?_eq_getElem hlt] at hd; exact Option.some.inj hd
    rw [ed] at k2
    have E5 := E4.move e3 d3
    have nDd : Dn ≠ g.dk := nD3
    refine ⟨bareH H1 own, _, wipeE ρ vs, own, d, E5, r3, hgm _ _ _ _ (fun ρ1 k3 σ1 own1 E6 le oa => ⟨only_wipe his oa, ?_⟩) k2⟩
    refine ⟨bareH H1 own, _, ρ1, own1, E6, htm _ _ _ (fun b k4 H6 e6 d6 => ?_) k3⟩
    have E7 := E5.move e6 d6
    have x6 := (x2.trans e3).trans e6
    cases b with
    | false => exact ⟨acc, ws, e6 _ _ nDd (e3 _ _ nDd hD), (ra.ext E4.hdk e3).ext E4.hdk e6, Nat.le_succ_of_le la, x6, E7, k4⟩
    | true =>
      refine ⟨bareH H1 own, _, ρ1, own1, E6.move e6 d6, hem _ _ _ (fun yd k5 v H7 e7 d7 r7 => ?_) k4⟩
      have E8 := E7.move e7 d7
      have x7 := x6.trans e7
      have hD7 : H7 Dn = some (.lst ws) := e7 _ _ nDd (e6 _ _ nDd (e3 _ _ nDd hD))
      have ra7 := ((ra.ext E4.hdk e3).ext E4.hdk e6).ext E4.hdk e7
      have nb : bareH H1 own Dn = none := nD2
      have r7' : Rep g H7 (hidO (fun b => O b ∨ b = Dn) own) yd v := by
        refine Rep.move (H := H7) (fun b o _ e => e) (fun b hb hn z => ?_) _ _ r7
        refine hb ?_
        rcases z with z | ⟨j, z⟩
        · exact .inl z
        · refine .inr ⟨j, ?_⟩
          rw [(oa.2 j fun hj => by rw [no j (his j hj)] at z; cases z).2]
          exact z
      have ra8 := ra7.append (RepL.one r7')
      refine ⟨ws, hD7, ?_, acc ++ [yd], ws ++ [v], upd_same, ?_, by rw [List.length_append]; simp; omega, fun b o hb e => ?_, E8.wrO (.inr rfl) nb nDk, k5⟩
      · rw [← ra7.length]; have := it.len; omega
      · exact RepL.move (fun b o hb e => by rw [upd_ne (fun z : b = Dn => hb (.inl (.inr z)))]; exact e) (fun _ n _ => n) _ _ ra8
      · rw [upd_ne (fun z : b = Dn => by rw [z, nD] at e; cases e)]; exact x7 b o hb e
  · have e : i = ds.length := by omega
    subst e
    rw [List.drop_length] at k2
    refine .inl ⟨stop, ?_⟩
    exact k2 Dn ws H2 (none_back E e1 nD d1) hD (e1.trans x2) E4.dko (ra.less hp)
theorem pdf_comp (hN : X.N.Nodup) (hi : PID X g xp tg iter fi) (ok : blkC X.N X.env.scope scope own0 = true) (hg : BlkAll X scope fun Y => PGD Y g tg is t) (ht : BlkAll X scope fun Y => PDTs Y g ifs ft) (he : BlkAll X scope fun Y => PD Y g (fun _ => False) elt fe)
    (his : ∀ i, i ∈ is → i ∈ own0.map (·.2) := by decide) (hc : X.calm = true := by rfl) (hs : ∀ x, foldedSetIterable iter X.env x = pure x := by intro _; rfl) : PDF X g xp (.ListComp elt [⟨tg, iter, ifs, 0⟩] scope pos) (lComp fi t ft fe (own0.map (·.2))) := by
  have m1 := (hg X.s_0 X.H_0 0 [] []).mono
  have m2 := (ht X.s_0 X.H_0 0 [] []).mono
  have m3 := (he X.s_0 X.H_0 0 [] []).mono
  refine ⟨fun ρ K K' m => hi.mono _ _ _ fun ds ⟨n, k⟩ => ⟨n, lcL_mono m1 m2 m3 m ds _ k⟩, fun H0 O L => ?_⟩
  refine (pe_lc (g := gAny g is t) (tt := tAnyT g ft) (te := tAnyE g fe) hc hN (hi.pi H0 O L) (blkOk_by ok) (fun s H C cl fp => ?_) (fun s H C cl fp => ?_) (fun s H C cl fp => ?_) hs).imp' fun σ H Q h => lc_imp m1 m2 m3 hi.mono his h
  · exact ⟨fun pins s σ H v u Q I r ⟨H0, O, q⟩ => ((hg _ _ _ _ _).pg H0 O).run pins s σ H v u Q I r q⟩
  · exact ⟨fun pins s σ H Q I ⟨H0, O, q⟩ => ((ht _ _ _ _ _).pt H0 O).run pins s σ H Q I q⟩
  · exact ⟨fun pins s σ H Q I ⟨H0, O, q⟩ => ((he _ _ _ _ _).pe H0 O xlink_no).run pins s σ H Q I q⟩
theorem ps_lcAsg {i : Nat} {y : Str} {py spos : Pos} (hN : X.N.Nodup) (hy : X.N[i]? = some y) (hyl : X.env.scope.names.lookup y = some .local) (hsw : swapsWith (.ListComp elt [⟨tg, iter, ifs, 0⟩] scope pos) (some (.Name y py)) spos.line X.env = pure true)
    (hi : PID X g xp tg iter fi) (ok : blkC X.N X.env.scope scope own0 = true) (hg : BlkAll X scope fun Y => PGD Y g tg is t) (ht : BlkAll X scope fun Y => PDTs Y g ifs ft) (he : BlkAll X scope fun Y => PD Y g (fun _ => False) elt fe)
    (his : ∀ i, i ∈ is → i ∈ own0.map (·.2)) (hc : X.calm = true) (hs : ∀ x, foldedSetIterable iter X.env x = pure x) {H0 : Hp} {O : Addr → Prop} (L : XLink X g H0 O xp) :
    PS X (.Assign [.Name y py] (.ListComp elt [⟨tg, iter, ifs, 0⟩] scope pos) spos) (tAsg (tDF g H0 O (lComp fi t ft fe (own0.map (·.2)))) (gName i)) := by
  have m1 := (hg X.s_0 X.H_0 0 [] []).mono
  have m2 := (ht X.s_0 X.H_0 0 [] []).mono
  have m3 := (he X.s_0 X.H_0 0 [] []).mono
  refine ps_imp (ps_setLc (g := gAny g is t) (tt := tAnyT g ft) (te := tAnyE g fe) hc hN hy hyl hsw (hi.pi H0 O L) (blkOk_by ok) (fun s H C cl fp => ?_) (fun s H C cl fp => ?_) (fun s H C cl fp => ?_) hs) fun Dn σ H h => lc_imp m1 m2 m3 hi.mono his h
  · exact ⟨fun pins s σ H v u Q I r ⟨H0, O, q⟩ => ((hg _ _ _ _ _).pg H0 O).run pins s σ H v u Q I r q⟩
  · exact ⟨fun pins s σ H Q I ⟨H0, O, q⟩ => ((ht _ _ _ _ _).pt H0 O).run pins s σ H Q I q⟩
  · exact ⟨fun pins s σ H Q I ⟨H0, O, q⟩ => ((he _ _ _ _ _).pe H0 O xlink_no).run pins s σ H Q I q⟩
theorem lComp_mono (m1 : ∀ d ρ K K', (∀ ρ, K ρ → K' ρ) → t d ρ K → t d ρ K') (m2 : ∀ ρ K K', (∀ d, K d → K' d) → ft ρ K → ft ρ K') (m3 : ∀ ρ K K', (∀ d, K d → K' d) → fe ρ K → fe ρ K') (m4 : ∀ ρ K K', (∀ d, K d → K' d) → fi ρ K → fi ρ K') {vs : List Nat}
    (ρ : Env) (K K' : List D → Prop) (m : ∀ d, K d → K' d) (h : lComp fi t ft fe vs ρ K) : lComp fi t ft fe vs ρ K' := m4 _ _ _ (fun ds ⟨n, k⟩ => ⟨n, lcL_mono m1 m2 m3 m ds _ k⟩) h
/-- name = [..], kept as a value -/
theorem psd_setLc (i : Nat) {y : Str} {py spos : Pos} (hN : X.N.Nodup) (hi : PID X g xp tg iter fi) (ok : blkC X.N X.env.scope scope own0 = true) (hg : BlkAll X scope fun Y => PGD Y g tg is t) (ht : BlkAll X scope fun Y => PDTs Y g ifs ft) (he : BlkAll X scope fun Y => PD Y g (fun _ => False) elt fe)
    (his : ∀ i, i ∈ is → i ∈ own0.map (·.2) := by decide) (hy : X.N[i]? = some y := by rfl) (hyl : X.env.scope.names.lookup y = some .local := by rfl) (hsw : swapsWith (.ListComp elt [⟨tg, iter, ifs, 0⟩] scope pos) (some (.Name y py)) spos.line X.env = pure true := by exact sw_true rfl rfl rfl rfl)
    (hc : X.calm = true := by rfl) (hs : ∀ x, foldedSetIterable iter X.env x = pure x := by intro _; rfl) : PSD X g xp (.Assign [.Name y py] (.ListComp elt [⟨tg, iter, ifs, 0⟩] scope pos) spos) (wSet i (wOfL (lComp fi t ft fe (own0.map (·.2))))) := by
  have m1 := (hg X.s_0 X.H_0 0 [] []).mono
  have m2 := (ht X.s_0 X.H_0 0 [] []).mono
  have m3 := (he X.s_0 X.H_0 0 [] []).mono
  refine ⟨fun P P' ρ l => lComp_mono m1 m2 m3 hi.mono _ _ _ fun xs => l.nx _, fun H0 O L => ps_imp (ps_lcAsg (i := i) hN hy hyl hsw hi ok hg ht he his hc hs L) fun Dn σ H ⟨ρ, own, P, E, po, k⟩ => ⟨ρ, own, E, ?_⟩⟩
  refine lComp_mono m1 m2 m3 hi.mono _ _ _ (fun xs k p vs H2 n hp e2 d2 r2 => ?_) k
  exact po.nx _ _ _ _ k ((E.move e2 d2).st i ⟨p, vs, rfl, ⟨(E.noneOf n).1, hp⟩, r2.less fun b hb => .inl hb⟩)
/-- name = [..], to be changed -/
theorem psd_setLcL (i : Nat) {y : Str} {py spos : Pos} (hN : X.N.Nodup) (hi : PID X g xp tg iter fi) (ok : blkC X.N X.env.scope scope own0 = true) (hg : BlkAll X scope fun Y => PGD Y g tg is t) (ht : BlkAll X scope fun Y => PDTs Y g ifs ft) (he : BlkAll X scope fun Y => PD Y g (fun _ => False) elt fe)
    (his : ∀ i, i ∈ is → i ∈ own0.map (·.2) := by decide) (hy : X.N[i]? = some y := by rfl) (hyl : X.env.scope.names.lookup y = some .local := by rfl) (hsw : swapsWith (.ListComp elt [⟨tg, iter, ifs, 0⟩] scope pos) (some (.Name y py)) spos.line X.env = pure true := by exact sw_true rfl rfl rfl rfl)
    (hc : X.calm = true := by rfl) (hs : ∀ x, foldedSetIterable iter X.env x = pure x := by intro _; rfl) : PSD X g xp (.Assign [.Name y py] (.ListComp elt [⟨tg, iter, ifs, 0⟩] scope pos) spos) (wSetL i (lComp fi t ft fe (own0.map (·.2)))) := by
  have m1 := (hg X.s_0 X.H_0 0 [] []).mono
  have m2 := (ht X.s_0 X.H_0 0 [] []).mono
  have m3 := (he X.s_0 X.H_0 0 [] []).mono
  refine ⟨fun P P' ρ l ⟨z, k⟩ => ⟨z, lComp_mono m1 m2 m3 hi.mono _ _ _ (fun xs => l.nx _) k⟩, fun H0 O L => ps_imp (ps_lcAsg (i := i) hN hy hyl hsw hi ok hg ht he his hc hs L) fun Dn σ H ⟨ρ, own, P, E, po, z, k⟩ => ⟨ρ, own, E, ?_⟩⟩
  refine lComp_mono m1 m2 m3 hi.mono _ _ _ (fun xs k p vs H2 n hp e2 d2 r2 => ?_) k
  exact po.nx _ _ _ _ k (E.fresh i z n hp e2 d2 r2)
end
end DL
end
section
set_option Elab.async false
set_option linter.all false
set_option maxRecDepth 100000
set_option maxHeartbeats 4000000
/-! DK: from a def's body to its promise. -/
namespace DL
open PySem PySem.Spec PyProof.Rows L2
def startE (N : List Str) (ds : List D) : Env := ds.map Sl.sh ++ List.replicate (N.length - ds.length) .un
abbrev dcx (g : Gx) (N : List Str) (qual : Str) (scope : Scope) (f : Addr) (cd : Value) (A : Around) (outer : List PySem.Env) (s : Shared) (H : Hp) (E : XK) : Cx := cxOf (CX g.prog g.w) g.prog g.w g.K g.mg g.base N qual scope f cd A outer s H E
theorem envok_start {g : Gx} {N : List Str} {H : Hp} {O : Addr → Prop} {ds : List D} {vs : List V} (vw : Vw g H O) (dks : ∀ b, g.dkS b → O b) (r : RepL g H O ds vs) : EnvOk g H O (start N vs) H (startE N ds) (fun _ => none) := by
  have hl := r.length
  have hh : ∀ b, hidO O (fun _ => none) b → O b := fun b hb => hb.elim id fun ⟨i, z⟩ => nomatch z
  refine ⟨?_, fun i => ?_, fun i j a h => (nomatch h), fun i a h => (nomatch h), ExtH.refl H, vw.dko, dks, vw.oin⟩
  · unfold startE L2.start
    rw [List.length_append, List.length_append, List.length_map, List.length_map, List.length_replicate, List.length_replicate, hl]
  · by_cases hi : i < ds.length
    · have e1 : (startE N ds).getD i .un = .sh ds[i] := by
        unfold startE
        rw [List.getD_eq_getElem?_getD, List.getElem?_append_left (by rw [List.length_map]; exact hi), List.getElem?_map, List.getElem?_eq_getElem hi]; rfl
      obtain ⟨v, hv, rv⟩ := r.getD (List.getElem?_eq_getElem hi)
      have e2 : (start N vs).getD i none = some v := by
        unfold L2.start
        rw [List.getD_eq_getElem?_getD, List.getElem?_append_left (by rw [List.length_map, ← hl]; exact hi), List.getElem?_map, hv]; rfl
      rw [e1, e2]
      exact ⟨rfl, v, rfl, rv.less hh⟩
    · have e1 : (startE N ds).getD i .un = .un := by
        unfold startE
        rw [List.getD_eq_getElem?_getD, List.getElem?_append_right (by rw [List.length_map]; omega), List.getElem?_replicate]
        split <;> rfl
      rw [e1]; exact rfl
theorem fnok_of {g : Gx} {k : Nat} {x qual : Str} {params : Arguments} {body : List Stmt} {scope : Scope} {dvs : List V} {kws : List (Str × V)} {f : Addr} {fd : FuncData} {N ps : List Str} {sp : DSpec} {fb : (Exc → Prop) → WS} {n : Nat}
    (F : FunD g.K x qual params body scope dvs kws f fd) (S : FnScope N ps scope) (hn : ps.length = n)
    (hbody : ∀ (cd : Value) (A : Around) (outer : List PySem.Env) (s : Shared) (H : Hp) (E : XK) (xp : Exc → Prop), Room k (dcx g N qual scope f cd A outer s H E).A → PSsD (dcx g N qual scope f cd A outer s H E) g xp body (fb xp))
    (hsp : ∀ ds K E, sp ds K E → ds.length = n → fb E { nx := fun _ => K .non, rt := K } (startE N ds)) : FnOk g.prog g.w g.K g.mg g.base (CX g.prog g.w) (k + 1) f fd ps (spOf g n sp) := by
  refine F.ok S (fun vs H Q E ⟨O, ds, _, _, _, h, _⟩ => h.trans hn.symm) (fun cdv A outer s H vs Q E hr ⟨O, ds, vw, dks, r, hl, h⟩ => ?_)
  refine ⟨_, (hbody cdv A outer s H E _ hr).ps H O ⟨E, ?_, fun x h => h⟩, startE N ds, fun _ => none, { nx := fun _ => ∀ v H', ExtH g H H' → g.dkOk H' → Rep g H' O .non v → Q v H', rt := fun d => ∀ v H', ExtH g H H' → g.dkOk H' → Rep g H' O d v → Q v H' }, envok_start vw dks r, ⟨fun ρ σ H1 own k E1 => k _ _ E1.ext E1.dko rfl, fun d v H1 k e1 v1 r1 => k v H1 e1 v1.dko r1, fun _ _ _ _ k => k.elim, fun _ _ _ _ k => k.elim⟩, hsp ds _ _ h (r.length.trans hl)⟩
  exact takes_of rfl rfl rfl rfl
theorem FnG.of {g : Gx} {k : Nat} {x qual : Str} {params : Arguments} {body : List Stmt} {scope : Scope} {dvs : List V} {dus : List Value} {kws : List (Str × V)} {f : Addr} {fd : FuncData} {N ps : List Str} {dvs' : List V} {dfl : List D} {sp : DSpec} {fb : (Exc → Prop) → WS} {n : Nat}
    (F : FunD g.K x qual params body scope dvs kws f fd) (S : FnScope N ps scope) (hn : ps.length = n) (hg : g.mg x = some (.ref f)) (bi : Binds g.K fd ps dus) (rv : Vals dvs' dus) (rd : ∀ H O, RepL g H O dfl dvs')
    (mono : ∀ ds K K' E E', (∀ d, K d → K' d) → (∀ x, E x → E' x) → sp ds K E → sp ds K' E')
    (hbody : ∀ (cd : Value) (A : Around) (outer : List PySem.Env) (s : Shared) (H : Hp) (E : XK) (xp : Exc → Prop), Room k (dcx g N qual scope f cd A outer s H E).A → PSsD (dcx g N qual scope f cd A outer s H E) g xp body (fb xp))
    (hsp : ∀ ds K E, sp ds K E → ds.length = n → fb E { nx := fun _ => K .non, rt := K } (startE N ds)) : FnG g (k + 1) x n dfl sp :=
  ⟨mono, f, fd, ps, dvs', dus, fnok_of F S hn hbody hsp, hg, F.kp, bi, rv, rd⟩
theorem XG.dcx {g : Gx} {N : List Str} {qual : Str} {scope : Scope} {f : Addr} {cd : Value} {A : Around} {outer : List PySem.Env} {s : Shared} {H : Hp} {E : XK} : XG (DL.dcx g N qual scope f cd A outer s H E) g := ⟨rfl, rfl, rfl, rfl, rfl⟩
theorem XG.blk {X : Cx} {g : Gx} {s : Shared} {H : Hp} {scope : Scope} {cenv : PySem.Env} {fp : List Addr} (G : XG X g) : XG (X.blk s H scope cenv fp) g := ⟨G.prog, G.w, G.K, G.mg, G.base⟩
theorem rmu {k : Nat} {A : Around} (r : Room k A) : A.units + 100 < cLine := by have := r.un; omega
end DL
end
section
set_option Elab.async false
set_option linter.all false
set_option maxRecDepth 100000
set_option maxHeartbeats 4000000
/-! DM: small rules: dead code, three at once, types and classes as values, isinstance, fields, properties, instances. -/
namespace DL
open PySem PySem.Spec PyProof.Rows L2
section
variable {X : Cx} {g : Gx} {xp : Exc → Prop} {st : Stmt} {a b c e : Expr} {es : List Expr} {fa fb fc fe : WE} {fs : WA} {pos p : Pos}
/-- what is never reached -/
def wDead : WS := fun _ _ => False
theorem psd_dead : PSD X g xp st wDead := ⟨fun _ _ _ _ h => h, fun H0 O L => ⟨fun pins s σ H Dn I ⟨_, _, _, _, _, h⟩ => h.elim⟩⟩
def wPar3 (i j l : Nat) (fa fb fc : WE) : WS := fun P ρ => fa ρ fun x => fb ρ fun y => fc ρ fun z => P.nx (((ρ.set i (.sh x)).set j (.sh y)).set l (.sh z))
theorem psd_par3 (i j l : Nat) {x y z : Str} {px py pz pt : Pos} {kt k2 pt2} (hN : X.N.Nodup) (ha : PD X g xp a fa) (hb : PD X g xp b fb) (hd : PD X g xp c fc) (hc : X.calm = true := by rfl) (hi : X.N[i]? = some x := by rfl) (hj : X.N[j]? = some y := by rfl) (hl : X.N[l]? = some z := by rfl) (hij : i ≠ j := by decide) (hil : i ≠ l := by decide) (hjl : j ≠ l := by decide)
    (hx : X.env.scope.names.lookup x = some .local := by rfl) (hy : X.env.scope.names.lookup y = some .local := by rfl) (hz : X.env.scope.names.lookup z = some .local := by rfl)
    (hw : swappedStores [.Tuple [.Name x px, .Name y py, .Name z pz] kt pt] (.Tuple [a, b, c] k2 pt2) X.env = pure (some [x, y, z]) := by rfl)
    (hs : swapsWithSole [.Tuple [.Name x px, .Name y py, .Name z pz] kt pt] (.Tuple [a, b, c] k2 pt2) pos.line X.env = pure false := by rfl)
    (h1 : starEach [a, b, c] X.env = (false, eval a X.env) :: starEach [b, c] X.env := by rfl) (h2 : starEach [b, c] X.env = (false, eval b X.env) :: starEach [c] X.env := by rfl) (h3 : starEach [c] X.env = (false, eval c X.env) :: starEach [] X.env := by rfl) :
    PSD X g xp (.Assign [.Tuple [.Name x px, .Name y py, .Name z pz] kt pt] (.Tuple [a, b, c] k2 pt2) pos) (wPar3 i j l fa fb fc) := by
  have hab : PDA X g xp [a, b, c] (wCons fa (wCons fb (wCons fc wNil))) := pda_cons ha (pda_cons hb (pda_cons hd pda_nil h3) h2) h1
  refine ⟨fun P P' ρ m => ha.mono _ _ _ fun d => hb.mono _ _ _ fun d' => hd.mono _ _ _ fun d'' => m.nx _, fun H0 O L => ps_imp (ps_par3 hc hN hi hj hl hij hil hjl hx hy hz (hab.pa H0 O L) hw hs) fun Dn σ H ⟨ρ, own, P, E, po, k⟩ => ⟨ρ, own, E, ?_⟩⟩
  refine ha.mono _ _ _ (fun d k2 => hb.mono _ _ _ (fun d' k3 => hd.mono _ _ _ (fun d'' k4 vs H1 e1 d1 r1 => ?_) k3) k2) k
  obtain ⟨v, w, u, rfl, rv, rw', ru⟩ := repl3 r1
  exact ⟨v, w, u, rfl, po.nx _ _ _ _ k4 ((((E.move e1 d1).st i rv).st j (rw'.less hid_off)).st l ((ru.less hid_off).less hid_off))⟩
/-! ### types, classes -/
theorem pd_ty {x : Str} {n : String} (G : XG X g) (hm : g.mg x = none) (hv : bootBuiltins x = some (.type n) := by decide +kernel) (hg : Gl X x := by rfl) (hn : x ≠ "__name__" := by decide) (hd : (x == ("__debug__" : Str)) = false := by decide) : PD X g xp (.Name x pos) (wC (.ty n)) :=
  ⟨fun _ _ _ h k => h _ k, fun H0 O _ => (pe_bltn (v := V.ty n) hg (by rw [G.mg]; exact hm) hv rfl hn hd).imp' fun σ H Q ⟨ρ, own, E, k⟩ => k _ H (ExtH.refl H) E.dko rfl⟩
theorem pd_cls {x : Str} {C : Addr} (G : XG X g) (hm : g.mg x = some (.ref C)) (hg : Gl X x := by rfl) (hd : (x == ("__debug__" : Str)) = false := by decide) : PD X g xp (.Name x pos) (wC (.adr C)) :=
  ⟨fun _ _ _ h k => h _ k, fun H0 O _ => (pe_glob (v := V.ref C) hg (by rw [G.mg]; exact hm) rfl hd).imp' fun σ H Q ⟨ρ, own, E, k⟩ => k (.ref C) H (ExtH.refl H) E.dko rfl⟩
/-! ### isinstance -/
def D.tyN : D → Option String
  | .non => some "NoneType"
  | .bl _ => some "bool"
  | .int _ => some "int"
  | .str _ => some "str"
  | .tup _ => some "tuple"
  | .lst _ => some "list"
  | _ => none
theorem rep_ty {H : Hp} {O : Addr → Prop} {d : D} {v : V} {n : String} (h : d.tyN = some n) (r : Rep g H O d v) : TyX g.K H v (.type n) := by
  cases d with
  | non =>
    cases h
    rw [show v = V.non from r]; exact .base .non
  | bl b =>
    cases h
    rw [show v = V.bl b from r]; exact .base (.bl b)
  | int b =>
    cases h
    rw [show v = V.int b from r]; exact .base (.int b)
  | str b =>
    cases h
    rw [show v = V.str b from r]; exact .base (.str b)
  | adr b => cases h
  | ty b => cases h
  | tup xs =>
    cases h
    obtain ⟨a, vs, rfl, t, _⟩ := r
    rcases t with ⟨_, t⟩ | ⟨o, its, n, h1, h2, _⟩
    · rcases t with t | ⟨o, t⟩
      · exact .base (.tup t)
      · exact .fTuple t
    · exact .kTuple h1 h2
  | lst xs =>
    cases h
    obtain ⟨a, vs, rfl, t, _⟩ := r
    exact .base (.lst t.2)
  | obj c fs => cases h
def cIsi : List D → (D → Prop) → Prop
  | [d, .ty n], K => ∃ m b, d.tyN = some m ∧ kitB m n = some b ∧ K (.bl b)
  | _, _ => False
theorem cd_isi (G : XG X g) : CallD X g (.builtin "isinstance") cIsi := by
  have hK := G.K
  refine ⟨?_, _, call_isi, ?_⟩
  · intro xs K K' m h
    unfold cIsi at h ⊢
    split at h
    · obtain ⟨m', b, h1, h2, h3⟩ := h
      exact ⟨m', b, h1, h2, m _ h3⟩
    · exact h
  · intro xs K H O vs Q vw r h w
    unfold cIsi at h
    split at h
    · obtain ⟨m', b, h1, h2, h3⟩ := h
      obtain ⟨v, u, rfl, rv, ru⟩ := repl2 r
      have ru : u = .ty _ := ru
      subst ru
      exact ⟨v, _, .type m', _, b, rfl, .ty _, by rw [hK]; exact rep_ty h1 rv, kit_ty h2, w _ h3 _ H (ExtH.refl H) vw.dko rfl⟩
    · exact h.elim
end
end DL
end
section
set_option Elab.async false
set_option linter.all false
set_option maxRecDepth 100000
set_option maxHeartbeats 4000000
/-! DN: instances: fields, properties, making. -/
namespace DL
open PySem PySem.Spec PyProof.Rows L2
theorem lk_at : ∀ (ks : List Str) (vs : List V) (i : Nat) (f : Str), ks.Nodup → ks[i]? = some f → vs.length = ks.length → (ks.zip vs).lookup f = vs[i]?
  | [], _, i, f, _, h, _ => by simp at h
  | k :: ks, [], i, f, _, _, hl => by simp at hl
  | k :: ks, v :: vs, 0, f, _, h, _ => by
    have h : k = f := Option.some.inj h
    subst h
    simp [List.lookup]
  | k :: ks, v :: vs, i + 1, f, nd, h, hl => by
    have hm : f ∈ ks := List.mem_of_getElem? (i := i) h
    have hk : (f == k) = false := by
      rw [beq_eq_false_iff_ne]
      intro e
      exact (List.nodup_cons.mp nd).1 (e ▸ hm)
    show (match f == k with | true => some v | false => (ks.zip vs).lookup f) = vs[i]?
    rw [hk]
    exact lk_at ks vs i f (List.nodup_cons.mp nd).2 h (by simpa using hl)
/-- what a class of the text has -/
structure ClsG (g : Gx) (c : Nat) (fs : List Str) : Prop where
  cl : Cls g.K (g.cA c)
  fe : g.cF c = fs
  nd : fs.Nodup
  no : ∀ f, f ∈ fs → NoAttr g.K (g.cA c) f
  few : fs.length < 1000
section
variable {X : Cx} {g : Gx} {xp : Exc → Prop} {e : Expr} {es : List Expr} {fe : WE} {fs : WA} {pos p : Pos} {c : Nat} {ks : List Str} {sp : DSpec} {k n : Nat}
def wFld (c i : Nat) (fe : WE) : WE := fun ρ K => fe ρ fun d => ∃ fs x, d = .obj c fs ∧ fs[i]? = some x ∧ K x
theorem pd_fld (c i : Nat) {f : Str} (G : XG X g) (C : ClsG g c ks) (hi : ks[i]? = some f) (he : PD X g xp e fe) (hb : attributeBase e f X.env (eval e X.env) = eval e X.env := by rfl) : PD X g xp (.Attribute e f pos) (wFld c i fe) := by
  refine ⟨fun ρ K K' m => he.mono _ _ _ fun d ⟨fs, x, h1, h2, k⟩ => ⟨fs, x, h1, h2, m _ k⟩, fun H0 O L => (pe_fld (he.pe H0 O L) hb).imp' fun σ H Q ⟨ρ, own, E, k⟩ => ⟨ρ, own, E, he.mono _ _ _ (fun d ⟨fs, x, h1, h2, k⟩ v H1 e1 d1 r1 => ?_) k⟩⟩
  subst h1
  obtain ⟨a, dx, vs, rfl, nO, ha, hl, rf⟩ := r1
  obtain ⟨y, hy, ry⟩ := rf.getD h2
  refine ⟨a, g.cA c, dx, _, y, rfl, ha, by rw [G.K]; exact C.cl, by rw [G.K]; exact C.no f (List.mem_of_getElem? hi), ?_, k y H1 e1 d1 ry⟩
  rw [lk_at _ vs i f (by rw [C.fe]; exact C.nd) (by rw [C.fe]; exact hi) hl]
  exact hy
structure PropG (g : Gx) (k : Nat) (c : Nat) (f : Str) (sp : DSpec) : Prop where
  mono : ∀ ds K K' E E', (∀ d, K d → K' d) → (∀ x, E x → E' x) → sp ds K E → sp ds K' E'
  ex : ∃ (p gt : Addr) (fd : FuncData) (ps : List Str), PropOf g.K (g.cA c) f p gt ∧ FnOk g.prog g.w g.K g.mg g.base (CX g.prog g.w) k gt fd ps (spOf g 1 sp) ∧ Binds g.K fd ps []
def wProp (c : Nat) (sp : DSpec) (fe : WE) : WE := fun ρ K => fe ρ fun d => ∃ fs, d = .obj c fs ∧ sp [d] K (fun _ => False)
theorem pd_prop {f : Str} (G : XG X g) (C : ClsG g c ks) (F : PropG g k c f sp) (hr : Room (k + 1) X.A) (he : PD X g xp e fe) (hb : attributeBase e f X.env (eval e X.env) = eval e X.env := by rfl) : PD X g xp (.Attribute e f pos) (wProp c sp fe) := by
  obtain ⟨pa, gt, fd, ps, P1, F1, bi⟩ := F.ex
  have F2 : FnOk X.prog X.w X.K X.mg X.base (CX X.prog X.w) k gt fd ps (spOf g 1 sp) := by
    rw [G.prog, G.w, G.K, G.mg, G.base]; exact F1
  refine ⟨fun ρ K K' m => he.mono _ _ _ fun d ⟨fs, h1, k⟩ => ⟨fs, h1, F.mono _ _ _ _ _ m (fun _ h => h) k⟩, fun H0 O L => (pe_prop (dvs := []) (ds := []) (E := fun _ _ _ => False) (he.pe H0 O L) (by rw [G.K]; exact C.cl) (by rw [G.K]; exact P1) F2 hr (by rw [G.K]; exact bi) .nil (fun pins σ H s e s' I ⟨_, _, _, _, _, _, _, _, _, _, _, _, h⟩ => h.elim) hb).imp' fun σ H Q ⟨ρ, own, E, k⟩ => ⟨ρ, own, E, he.mono _ _ _ (fun d ⟨fs, h1, k⟩ v H1 e1 d1 r1 => ?_) k⟩⟩
  subst h1
  have r0 := r1
  obtain ⟨a, dx, vs, rfl, nO, ha, hl, rf⟩ := r1
  have Ev := E.move e1 d1
  refine ⟨a, dx, _, rfl, ha, hidO O own, [.obj c fs], Ev.vw, fun b hb => .inl (Ev.dks b hb), RepL.one r0, rfl, F.mono _ _ _ _ _ (fun d q v H2 e2 d2 r2 => q v H2 (e1.trans e2) d2 r2) (fun x q => q.elim) k⟩
/-! ### making -/
def spI (g : Gx) (c n : Nat) (sp : DSpec) : Sp := fun vs H Q E => ∃ (O : Addr → Prop) (x dx : Addr) (us : List V) (ds : List D), vs = .ref x :: us ∧ Vw g H O ∧ (∀ b, g.dkS b → O b) ∧ ¬ O x ∧ H x = some (.ins (g.cA c) dx []) ∧ H dx = some (.own x) ∧ dx ≠ x ∧
  RepL g H (fun b => O b ∨ b = x ∨ b = dx) ds us ∧ us.length = n ∧ sp ds (fun d => ∃ fs, d = .obj c fs ∧ ∀ vs' H', (∀ b o, b ≠ g.dk → b ≠ x → H b = some o → H' b = some o) → g.dkOk H' → H' x = some (.ins (g.cA c) dx ((g.cF c).zip vs')) → vs'.length = (g.cF c).length →
    RepL g H' O fs vs' → Q .non H') (fun x => ∀ cls od H', ExtH g H H' → g.dkOk H' → ExcRep g H' O x cls od → E cls od H')
structure MkG (g : Gx) (k : Nat) (x : Str) (c n : Nat) (sp : DSpec) : Prop where
  mono : ∀ ds K K' E E', (∀ d, K d → K' d) → (∀ x, E x → E' x) → sp ds K E → sp ds K' E'
  obj : ∀ ds K E, sp ds K E → sp ds (fun d => (∃ fs, d = .obj c fs) ∧ K d) E
  gl : g.mg x = some (.ref (g.cA c))
  ex : ∃ (f : Addr) (fd : FuncData) (ps : List Str), Mk g.K (g.cA c) f ∧ FnOk g.prog g.w g.K g.mg g.base (CX g.prog g.w) k f fd ps (spI g c n sp) ∧ Binds g.K fd ps []
theorem pd_make {x : Str} (G : XG X g) (F : MkG g k x c n sp) (hr : Room (k + 1) X.A) (hs : PDA X g xp (e :: es) fs) (hn : (e :: es).length = n := by rfl) (hg : Gl X x := by rfl) (hdb : (x == ("__debug__" : Str)) = false := by decide)
    (he : starEach (e :: es) X.env = (false, eval e X.env) :: starEach es X.env := by rfl) (hpl : (backTo pos (starEach es X.env)).any (·.1) = false := by rfl) : PD X g xp (.Call (.Name x p) (e :: es) [] pos) (wCall sp [] xp fs) := by
  obtain ⟨f, fd, ps, M, F1, bi⟩ := F.ex
  refine ⟨fun ρ K K' h => hs.mono _ _ _ fun ds => F.mono _ _ _ _ _ h fun _ q => q, fun H0 O L => ?_⟩
  obtain ⟨E, tk, hE⟩ := L.ex
  have F2 : FnOk X.prog X.w X.K X.mg X.base (CX X.prog X.w) k f fd ps (spI g c n sp) := by
    rw [G.prog, G.w, G.K, G.mg, G.base]; exact F1
  refine (pe_make (dvs := []) (ds := []) (by rw [G.K]; exact M) F2 hr hg (by rw [G.mg]; exact F.gl) (by rw [G.K]; exact bi) .nil (passes_call tk fun _ _ _ _ h => h) (hs.pa H0 O L) hdb he hpl).imp' fun σ H Q ⟨ρ, own, Ev, k1⟩ => ?_
  refine ⟨ρ, own, Ev, hs.mono _ _ _ (fun ds ⟨el, k2⟩ vs H1 e1 d1 r1 y dx ny nd hne => ?_) (hs.len _ _ k1)⟩
  have Ev1 := Ev.move e1 d1
  have x1 : ExtH g H1 (upd H1 dx (.own y)) := ext_new nd
  have d2 : g.dkOk (upd H1 dx (.own y)) := dk_new d1 nd
  have ny2 : upd H1 dx (.own y) y = none := by rw [upd_ne (Ne.symm hne)]; exact ny
  have x2 := ext_new (g := g) (o := .ins (g.cA c) dx []) ny2
  have d3 : g.dkOk (upd (upd H1 dx (.own y)) y (.ins (g.cA c) dx [])) := dk_new d2 ny2
  have Ev2 := (Ev1.move x1 d2).move x2 d3
  have nh : ¬ hidO O own y := (Ev1.noneOf ny).1
  have nk2 : y ≠ g.dk := (Ev1.noneOf ny).2.2
  have fresh : ∀ H', (∀ b o, b ≠ g.dk → b ≠ y → upd (upd H1 dx (.own y)) y (.ins (g.cA c) dx []) b = some o → H' b = some o) → ExtH g H1 H' := fun H' h b o hb e => by
    have hby : b ≠ y := ne_of_none e ny
    refine h b o hb hby ?_
    rw [upd_ne hby, upd_ne (ne_of_none e nd)]; exact e
  refine ⟨hidO O own, y, dx, vs, ds, by rw [List.append_nil], Ev2.vw, fun b hb => .inl (Ev.dks b hb), nh, upd_same, ?_, hne, ?_, by rw [← r1.length, el]; exact hn, ?_⟩
  · rw [upd_ne hne]; exact upd_same
  · refine RepL.move (fun b o hb h => ?_) (fun b hb q z => ?_) _ _ r1
    · rw [upd_ne (ne_of_none h ny), upd_ne (ne_of_none h nd)]; exact h
    · rcases z with z | z | z
      · exact hb z
      · exact q (z ▸ ny)
      · exact q (z ▸ nd)
  · have k2' : sp ds (fun d => ∀ v H', ExtH g H H' → g.dkOk H' → Rep g H' (hidO O own) d v → Q v H') xp := by
      have := k2
      rw [List.append_nil] at this
      exact this
    refine F.mono _ _ _ _ _ (fun d ⟨⟨fs, ed⟩, q⟩ => ?_) (fun x q cls od H2 e2 d2 r2 => ?_) (F.obj _ _ _ k2')
    · exact hE x q cls od H2 (Ev2.ext.trans e2) d2 (r2.less hid_less)
    · exact ⟨fs, ed, fun vs' H' h1 h2 h3 h4 h5 => ⟨rfl, q _ H' (e1.trans (fresh H' h1)) h2 (by rw [ed]; exact ⟨y, dx, vs', rfl, nh, h3, h4, h5⟩)⟩⟩
end
end DL
end
section
set_option Elab.async false
set_option linter.all false
set_option maxRecDepth 100000
set_option maxHeartbeats 4000000
/-! DO: an __init__ of two tests and two fields; a getter. -/
namespace DL
open PySem PySem.Spec PyProof.Rows L2
theorem init2_of {g : Gx} {k : Nat} {qual : Str} {params : Arguments} {body : List Stmt} {scope : Scope} {f : Addr} {fd : FuncData} {a1 a2 f1 f2 : Str} {c : Nat} {sp : DSpec} {w1 w2 : (Exc → Prop) → WS} {s1 s2 : Stmt} {p1 p2 p3 p4 q1 q2 q3 q4 : Pos}
    (F : FunD g.K "__init__" qual params body scope [] [] f fd) (eb : body = [s1, s2, .Assign [.Attribute (.Name "self" p1) f1 p2] (.Name a1 p3) p4, .Assign [.Attribute (.Name "self" q1) f2 q2] (.Name a2 q3) q4])
    (S : FnScope ["self", a1, a2] ["self", a1, a2] scope) (C : ClsG g c [f1, f2]) (hd1 : (a1 == ("__debug__" : Str)) = false := by decide) (hc1 : (a1 == ("__classdict__" : Str)) = false := by decide) (hd2 : (a2 == ("__debug__" : Str)) = false := by decide) (hc2 : (a2 == ("__classdict__" : Str)) = false := by decide)
    (hbody : ∀ (cd : Value) (A : Around) (outer : List PySem.Env) (s : Shared) (H : Hp) (E : XK) (xp : Exc → Prop), Room k (dcx g ["self", a1, a2] qual scope f cd A outer s H E).A → PSD (dcx g ["self", a1, a2] qual scope f cd A outer s H E) g xp s1 (w1 xp) ∧ PSD (dcx g ["self", a1, a2] qual scope f cd A outer s H E) g xp s2 (w2 xp))
    (hsw : ∀ (cd : Value) (A : Around) (outer : List PySem.Env) (s : Shared) (H : Hp) (E : XK), swapsWith (.Name a1 p3) (some (.Attribute (.Name "self" p1) f1 p2)) p4.line (dcx g ["self", a1, a2] qual scope f cd A outer s H E).env = pure false ∧ swapsWith (.Name a2 q3) (some (.Attribute (.Name "self" q1) f2 q2)) q4.line (dcx g ["self", a1, a2] qual scope f cd A outer s H E).env = pure false)
    (hsp : ∀ y p x K E, sp [p, x] K E → w1 E { nx := w2 E { nx := fun ρ => ρ = [.sh (.adr y), .sh p, .sh x] ∧ K (.obj c [p, x]), rt := fun _ => False }, rt := fun _ => False } [.sh (.adr y), .sh p, .sh x])
    : FnOk g.prog g.w g.K g.mg g.base (CX g.prog g.w) (k + 1) f fd ["self", a1, a2] (spI g c 2 sp) := by
  have ne : f1 ≠ f2 := fun e => by
    have := C.nd
    rw [e] at this
    exact (List.nodup_cons.mp this).1 List.mem_cons_self
  refine F.ok S (fun vs H Q E ⟨O, x, dx, us, ds, e, _, _, _, _, _, _, _, hl, _⟩ => by rw [e, List.length_cons, hl]; rfl) (fun cdv A outer s H vs Q E hr ⟨O, y, dx, us, ds, e, vw, dks, nO, hy, hdx, hne, r, hl, h⟩ => ?_)
  subst eb e
  have hlen := r.length
  obtain ⟨v1, v2, rfl⟩ : ∃ v1 v2, us = [v1, v2] := by
    match us, hl with
    | [v1, v2], _ => exact ⟨v1, v2, rfl⟩
  obtain ⟨d1, d2, rfl⟩ : ∃ d1 d2, ds = [d1, d2] := by
    match ds, hlen with
    | [d1, d2], _ => exact ⟨d1, d2, rfl⟩
  have hself : (("self" : Str) == ("__debug__" : Str)) = false := by decide
  have vis : ∀ x : Str, x ∈ (["self", a1, a2] : List Str) → Vis scope x := fun x hx => (S.par x hx).elim .inl fun z => .inr (.inl z)
  have P1 : PE (dcx g ["self", a1, a2] qual scope f cdv A outer s H E) (.Name "self" p1) (tVar 0) := pe_var rfl (vis _ (by simp)) (by decide) (by decide)
  have P1' : PE (dcx g ["self", a1, a2] qual scope f cdv A outer s H E) (.Name "self" q1) (tVar 0) := pe_var rfl (vis _ (by simp)) (by decide) (by decide)
  have P2 : PE (dcx g ["self", a1, a2] qual scope f cdv A outer s H E) (.Name a1 p3) (tVar 1) := pe_var rfl (vis _ (by simp)) hd1 hc1
  have P3 : PE (dcx g ["self", a1, a2] qual scope f cdv A outer s H E) (.Name a2 q3) (tVar 2) := pe_var rfl (vis _ (by simp)) hd2 hc2
  obtain ⟨hb1, hb2⟩ := hbody cdv A outer s H E (fun x => ∀ cls od H', ExtH g H H' → g.dkOk H' → ExcRep g H' O x cls od → E cls od H') hr
  obtain ⟨sw1, sw2⟩ := hsw cdv A outer s H E
  have L : XLink (dcx g ["self", a1, a2] qual scope f cdv A outer s H E) g H (fun b => O b ∨ b = y ∨ b = dx) (fun x => ∀ cls od H', ExtH g H H' → g.dkOk H' → ExcRep g H' O x cls od → E cls od H') :=
    ⟨E, takes_of rfl rfl rfl rfl, fun x h cls od H' e' d' r' => h cls od H' e' d' (r'.less fun b hb => .inl hb)⟩
  refine ⟨_, pss_cons (hb1.ps H _ L) (pss_cons (hb2.ps H _ L) (pss_cons (ps_fld P1 P2 sw1) (pss_one (ps_fld P1' P3 sw2)))), ?_⟩
  have vw' : Vw g H (fun b => O b ∨ b = y ∨ b = dx) := ⟨.inl vw.odk, vw.dko, fun b hb => by
    rcases hb with hb | hb | hb
    · exact vw.oin b hb
    · rw [hb, hy]; exact fun z => nomatch z
    · rw [hb, hdx]; exact fun z => nomatch z⟩
  have r3 : RepL g H (fun b => O b ∨ b = y ∨ b = dx) [.adr y, d1, d2] [.ref y, v1, v2] := RepL.cons rfl r
  have E0 := envok_start (N := ["self", a1, a2]) vw' (fun b hb => .inl (dks b hb)) r3
  have k0 := hsp y d1 d2 _ _ h
  refine ⟨_, _, { nx := w2 _ { nx := fun ρ => ρ = [.sh (.adr y), .sh d1, .sh d2] ∧ _, rt := fun _ => False }, rt := fun _ => False }, E0, ⟨fun ρ1 σ1 H1 own1 kk E1 => ?_, fun d v H z _ _ _ => z.elim, fun _ _ _ _ z => z.elim, fun _ _ _ _ z => z.elim⟩, k0⟩
  refine ⟨ρ1, own1, { nx := fun ρ => ρ = [.sh (.adr y), .sh d1, .sh d2] ∧ _, rt := fun _ => False }, E1, ⟨fun ρ2 σ2 H2 own2 hz2 E2 => ?_, fun d v H z _ _ _ => z.elim, fun _ _ _ _ z => z.elim, fun _ _ _ _ z => z.elim⟩, kk⟩
  obtain ⟨eρ, fs, ed, kf⟩ := hz2
  subst eρ
  cases ed
  have nko : y ≠ g.dk := fun z => nO (z ▸ vw.odk)
  obtain ⟨w0, s0, rep0⟩ := E2.at_sh (i := 0) rfl
  obtain ⟨w1', s1', rep1⟩ := E2.at_sh (i := 1) rfl
  obtain ⟨w2', s2', rep2⟩ := E2.at_sh (i := 2) rfl
  have rep0 : w0 = .ref y := rep0
  subst rep0
  have hy2 : H2 y = some (.ins (g.cA c) dx []) := E2.ext y _ nko hy
  refine ⟨w1', s1', .ref y, s0, y, g.cA c, dx, [], rfl, hy2, C.cl, C.no f1 (by simp), by simp, ?_⟩
  refine ⟨w2', s2', .ref y, s0, y, g.cA c, dx, _, rfl, upd_same, C.cl, C.no f2 (by simp), by simp [putF], ?_⟩
  have e5 : putF f2 w2' (putF f1 w1' []) = (g.cF c).zip [w1', w2'] := by
    rw [C.fe]
    show (if f1 = f2 then _ else _) = _
    rw [if_neg ne]; rfl
  rw [e5]
  have mv : ∀ b o, b ≠ y → H2 b = some o → upd (upd H2 y (.ins (g.cA c) dx (putF f1 w1' []))) y (.ins (g.cA c) dx ((g.cF c).zip [w1', w2'])) b = some o := fun b o hb e => by rw [upd_ne hb, upd_ne hb]; exact e
  refine kf [w1', w2'] _ (fun b o hb hby e => mv b o hby (E2.ext b o hb e)) (g.dkStay H2 _ E2.dko fun b hb => ?_) upd_same (by rw [C.fe]; rfl) ?_
  · have hby : b ≠ y := fun z => nO (z ▸ dks b hb)
    rw [upd_ne hby, upd_ne hby]
  · have m1 : ∀ b o, ¬ hidO (fun b => O b ∨ b = y ∨ b = dx) own2 b → H2 b = some o → upd (upd H2 y (.ins (g.cA c) dx (putF f1 w1' []))) y (.ins (g.cA c) dx ((g.cF c).zip [w1', w2'])) b = some o := fun b o hb e => mv b o (fun z => hb (.inl (.inr (.inl z)))) e
    have m2 : ∀ b, ¬ hidO (fun b => O b ∨ b = y ∨ b = dx) own2 b → H2 b ≠ none → ¬ O b := fun b hb _ z => hb (.inl (.inl z))
    exact RepL.cons (Rep.move m1 m2 _ _ rep1) (RepL.one (Rep.move m1 m2 _ _ rep2))
end DL
end
section
set_option Elab.async false
set_option linter.all false
set_option maxRecDepth 100000
set_option maxHeartbeats 4000000
/-! DP: repr, and the defs that ask it (nothing is being shown around them). -/
namespace DL
open PySem PySem.Spec PyProof.Rows L2
mutual
theorem D.noDict : ∀ d : D, d.pure = true → d.py.hasDict = false
  | .non, _ => rfl
  | .bl _, _ => rfl
  | .int _, _ => rfl
  | .str _, _ => rfl
  | .adr _, h => by cases h
  | .ty _, h => by cases h
  | .obj _ _, h => by cases h
  | .tup xs, h => D.noDictL xs h
  | .lst xs, h => D.noDictL xs h
theorem D.noDictL : ∀ ds : List D, D.pureL ds = true → PyData.hasDictAll (D.pyL ds) = false
  | [], _ => rfl
  | d :: ds, h => by
    have h1 : d.pure = true ∧ D.pureL ds = true := by
      have : (d.pure && D.pureL ds) = true := h
      simpa using this
    show (d.py.hasDict || PyData.hasDictAll (D.pyL ds)) = false
    rw [D.noDict d h1.1, D.noDictL ds h1.2]; rfl
end
def cRepr : List D → (D → Prop) → Prop
  | [d], K => d.pure = true ∧ d.py.showable = true ∧ d.py.depth ≤ 50 ∧ d.py.shown.length ≤ sizeLine ∧ K (.str d.py.shown)
  | _, _ => False
section
variable {X : Cx} {g : Gx}
theorem cd_repr (G : XG X g) (hu : X.A.units + 100 < cLine) (hgd : X.A.guards = some []) : CallD X g (.builtin "repr") cRepr := by
  refine ⟨fun xs K K' h => ?_, fun xs H Q => ∃ (v : V) (d : PyData), xs = [v] ∧ Dp X.K H v d ∧ d.showable = true ∧ d.hasDict = false ∧ d.depth ≤ 50 ∧ d.shown.length ≤ sizeLine ∧ Q (.str d.shown) H, ?_, fun xs K H O vs Q vw r k q => ?_⟩
  · unfold cRepr; split <;> first | exact fun ⟨a, b, c, d, e⟩ => ⟨a, b, c, d, h _ e⟩ | exact id
  · intro pins s σ H xs us Q I r h
    obtain ⟨v, d, rfl, hd, hs, hn, hp, hz, q⟩ := h
    obtain ⟨u, rfl, ru⟩ := vals1 r
    have fin : ∀ t h' tk, (∀ b o, s.heap.get? b = some o → h'.get? b = some o) → EP X pins σ Q (.str d.shown t) { s with heap := h', toks := tk } := fun t h' tk hk => ⟨.str d.shown, H, I.kept (t' := tk) hk, ⟨t, rfl⟩, q⟩
    obtain ⟨as, rd⟩ := Dp.reads I d v u hd ru
    cases u with
    | ref a => exact repr_of_reads' rd hs (fun e => by rw [hn] at e; cases e) hgd (by omega) (fun _ _ e => e) (fun h' t tk hk => fin t h' tk hk) hz
    | none => cases rd; exact PySem.P.repr_of_none (fin _ s.heap _ fun _ _ e => e)
    | bool b => cases rd; exact PySem.P.repr_of_bool (fin _ s.heap _ fun _ _ e => e)
    | int i t => cases rd; exact PySem.P.repr_of_int (of_decide_eq_true hs) (fin _ s.heap _ fun _ _ e => e)
    | str x t => cases rd; exact PySem.P.repr_of_str (fin _ s.heap _ fun _ _ e => e) hz
    | _ => cases rd
  · unfold cRepr at k
    split at k
    · obtain ⟨h1, h2, h3, h4, k⟩ := k
      obtain ⟨v, rfl, rv⟩ := repl1 r
      exact ⟨v, _, rfl, by rw [G.K]; exact Rep.dp _ _ h1 rv, h2, D.noDict _ h1, h3, h4, Wish.old q vw k rfl⟩
    · exact k.elim
end
/-! ### defs that run where nothing is being shown -/
structure FnRun (g : Gx) (k : Nat) (f : Addr) (fd : FuncData) (ps : List Str) (sp : Sp) : Prop where
  len : ∀ vs H Q E, sp vs H Q E → vs.length = ps.length
  run : ∀ (A : Around) (outer : List PySem.Env) (s : Shared) (H : Hp) (args : Args) (us : List Value) (vs : List V) (Q : VK) (E : XK), Room k A → A.guards = some [] → Env0 g.prog g.w g.K g.mg g.base A outer s H → BindsTo s fd args (ps.zip us) → Vals vs us → sp vs H Q E →
    codeAny (model g.prog g.w) A (.call (.ref f) args) (CR (CX g.prog g.w) outer g.prog g.w H s Q E) s
theorem run_of {g : Gx} {k : Nat} {x qual : Str} {params : Arguments} {body : List Stmt} {scope : Scope} {dvs : List V} {kws : List (Str × V)} {f : Addr} {fd : FuncData} {N ps : List Str} {sp : Sp}
    (F : FunD g.K x qual params body scope dvs kws f fd) (S : FnScope N ps scope) (len : ∀ vs H Q E, sp vs H Q E → vs.length = ps.length)
    (hbody : ∀ (cd : Value) (A : Around) (outer : List PySem.Env) (s : Shared) (H : Hp) (vs : List V) (Q : VK) (E : XK), Room k (dcx g N qual scope f cd A outer s H E).A → A.guards = some [] → sp vs H Q E →
      ∃ t, PSs (dcx g N qual scope f cd A outer s H E) body t ∧ t { nx := fun _ H' => Q .non H', rt := Q } (L2.start N vs) H) : FnRun g (k + 1) f fd ps sp := by
  obtain ⟨oc, od, dV, kV, doc, pm, an, cdv, ct, osl, rfl, lk, hcd, _, _⟩ := F.ex
  refine ⟨len, fun A outer s H args us vs Q E hr hgd e0 hb r hsp => ?_⟩
  have up : ∀ b o, g.base.get? b = some o → s.heap.get? b = some o := fun b o e => (e0.bs b o e).1
  have KX := e0.mod.kin.keeps up
  have kinds : ∀ y ∈ ps.zip us, scope.names.lookup y.1 = some .local ∨ (scope.names.lookup y.1 = some .cell ∧ ((cellsFrom (s.heap.objs.size + 1) scope.names []).lookup y.1).isSome = true) := fun y hy =>
    (S.par y.1 (List.of_mem_zip hy).1).imp id fun q => ⟨q, PySem.W.cellsFrom_some _ _ _ (.inl q)⟩
  refine codeAny_call_function hr.depth (KX _ _ lk) rfl S.co S.gen rfl (PySem.W.codeRec_of KX hcd) (hb _ _ _ _ (wpAny_newFunctionEnv_cells S.kind kinds fun env he s1 x => ?_))
  subst he
  refine ⟨(e0.mod.nolimit.keeps up).keeps x.toInCall.keep, codeAny_func ?_⟩
  obtain ⟨t, ht, hq⟩ := hbody cdv A outer s H vs Q E (hr.deeper _) hgd hsp
  have I : L2.Inv (dcx g N qual scope f cdv A outer s H E) [] (L2.start N vs) H s1 := inv_start S hr.hd e0 (len _ _ _ _ hsp) r x
  refine wpAny_mono (ht.run [] s1 (L2.start N vs) H _ I hq) (fun fl s' hs => ?_) fun e s' hs => hs
  cases fl with
  | next => obtain ⟨σ', H', J, q⟩ := hs; exact ⟨.non, H', J.os, J.bare, J.base, J.hok, rfl, q⟩
  | ret u => obtain ⟨v, σ', H', J, rv, q⟩ := hs; exact ⟨v, H', J.os, J.bare, J.base, J.hok, rv, q⟩
  | brk => obtain ⟨_, _, _, q⟩ := hs; exact q.elim
  | cont => obtain ⟨_, _, _, q⟩ := hs; exact q.elim
structure FnGR (g : Gx) (k : Nat) (x : Str) (n : Nat) (dfl : List D) (sp : DSpec) : Prop where
  mono : ∀ ds K K' E E', (∀ d, K d → K' d) → (∀ x, E x → E' x) → sp ds K E → sp ds K' E'
  ex : ∃ (f : Addr) (fd : FuncData) (ps : List Str) (dvs : List V) (dus : List Value), FnRun g k f fd ps (spOf g n sp) ∧ g.mg x = some (.ref f) ∧ PySem.W.keepIn g.K (.ref f) = true ∧ Binds g.K fd ps dus ∧ Vals dvs dus ∧ ∀ H O, RepL g H O dfl dvs
theorem fnrun_of {g : Gx} {k : Nat} {x qual : Str} {params : Arguments} {body : List Stmt} {scope : Scope} {dvs : List V} {kws : List (Str × V)} {f : Addr} {fd : FuncData} {N ps : List Str} {sp : DSpec} {fb : (Exc → Prop) → WS} {n : Nat}
    (F : FunD g.K x qual params body scope dvs kws f fd) (S : FnScope N ps scope) (hn : ps.length = n)
    (hbody : ∀ (cd : Value) (A : Around) (outer : List PySem.Env) (s : Shared) (H : Hp) (E : XK) (xp : Exc → Prop), A.guards = some [] → Room k (dcx g N qual scope f cd A outer s H E).A → PSsD (dcx g N qual scope f cd A outer s H E) g xp body (fb xp))
    (hsp : ∀ ds K E, sp ds K E → ds.length = n → fb E { nx := fun _ => K .non, rt := K } (startE N ds)) : FnRun g (k + 1) f fd ps (spOf g n sp) := by
  refine run_of F S (fun vs H Q E ⟨O, ds, _, _, _, h, _⟩ => h.trans hn.symm) (fun cdv A outer s H vs Q E hr hgd ⟨O, ds, vw, dks, r, hl, h⟩ => ?_)
  refine ⟨_, (hbody cdv A outer s H E _ hgd hr).ps H O ⟨E, takes_of rfl rfl rfl rfl, fun x h => h⟩, startE N ds, fun _ => none, { nx := fun _ => ∀ v H', ExtH g H H' → g.dkOk H' → Rep g H' O .non v → Q v H', rt := fun d => ∀ v H', ExtH g H H' → g.dkOk H' → Rep g H' O d v → Q v H' }, envok_start vw dks r, ⟨?_, ?_, fun _ _ _ _ k => k.elim, fun _ _ _ _ k => k.elim⟩, hsp ds _ _ h (r.length.trans hl)⟩
  · exact fun ρ σ H1 own k E1 => k _ _ E1.ext E1.dko rfl
  · exact fun d v H1 k e1 v1 r1 => k v H1 e1 v1.dko r1
theorem FnGR.of {g : Gx} {k : Nat} {x qual : Str} {params : Arguments} {body : List Stmt} {scope : Scope} {dvs : List V} {dus : List Value} {kws : List (Str × V)} {f : Addr} {fd : FuncData} {N ps : List Str} {dvs' : List V} {dfl : List D} {sp : DSpec} {fb : (Exc → Prop) → WS} {n : Nat}
    (F : FunD g.K x qual params body scope dvs kws f fd) (S : FnScope N ps scope) (hn : ps.length = n) (hg : g.mg x = some (.ref f)) (bi : Binds g.K fd ps dus) (rv : Vals dvs' dus) (rd : ∀ H O, RepL g H O dfl dvs')
    (mono : ∀ ds K K' E E', (∀ d, K d → K' d) → (∀ x, E x → E' x) → sp ds K E → sp ds K' E')
    (hbody : ∀ (cd : Value) (A : Around) (outer : List PySem.Env) (s : Shared) (H : Hp) (E : XK) (xp : Exc → Prop), A.guards = some [] → Room k (dcx g N qual scope f cd A outer s H E).A → PSsD (dcx g N qual scope f cd A outer s H E) g xp body (fb xp))
    (hsp : ∀ ds K E, sp ds K E → ds.length = n → fb E { nx := fun _ => K .non, rt := K } (startE N ds)) : FnGR g (k + 1) x n dfl sp :=
  ⟨mono, f, fd, ps, dvs', dus, fnrun_of F S hn hbody hsp, hg, F.kp, bi, rv, rd⟩
section
variable {X : Cx} {g : Gx} {xp : Exc → Prop} {e : Expr} {es : List Expr} {pos p : Pos} {fs : WA} {k n : Nat} {x : Str} {sp : DSpec} {dfl : List D}
theorem pe_callR {f : Addr} {fd : FuncData} {ps : List Str} {spv : Sp} {dvs : List V} {ds : List Value} {E : XK} {t : TA} (G : XG X g) (F : FnRun g k f fd ps spv) (hgd : X.A.guards = some []) (hr : Room k X.A) (hg : Gl X x) (hm : g.mg x = some (.ref f)) (hk : PySem.W.keepIn g.K (.ref f) = true) (hb : Binds g.K fd ps ds) (hd : Vals dvs ds)
    (hx : Passes (CX X.prog X.w) X E) (ha : PA X (e :: es) t) (hdb : (x == ("__debug__" : Str)) = false) (he : starEach (e :: es) X.env = (false, eval e X.env) :: starEach es X.env) (hpl : (backTo pos (starEach es X.env)).any (·.1) = false) : PE X (.Call (.Name x p) (e :: es) [] pos) (tCall spv dvs E t) := by
  refine ⟨fun pins s σ H Q I h => wpAny_Call_Name_kw (ld_glob I hg (by rw [G.mg]; exact hm) ?_ hdb)⟩
  refine PySem.W.callWith_K (h₀ := X.base) I.ok.mod.kin (by rw [G.K]; exact hk) (thn (ha.run pos pins s σ H _ I h) fun us s1 ⟨vs, H1, I1, r, q⟩ => ⟨I1.kIn, ?_⟩) he hpl
  have rr : Vals (vs ++ dvs) (us ++ ds) := r.append hd
  have hl : (us ++ ds).length = ps.length := by rw [← rr.length]; exact F.len _ _ _ _ q
  have ki : g.K.In s1.heap := by rw [← G.K]; exact I1.kIn
  have e0 : Env0 g.prog g.w g.K g.mg g.base X.A X.stack s1 H1 := by rw [← G.prog, ← G.w, ← G.K, ← G.mg, ← G.base]; exact I1.env0
  have go := F.run X.A X.stack s1 H1 ⟨us, []⟩ (us ++ ds) (vs ++ dvs) Q E hr hgd e0 (hb s1 us ki hl) rr q
  rw [← G.prog, ← G.w] at go
  refine wpAny_call (codeAny_mono go fun r s' hq => ?_)
  cases r with
  | error er => exact hx pins σ H1 s1 er s' I1 hq
  | ok fl =>
    cases fl with
    | ret u => exact I1.after hq
    | next => exact hq.elim
    | brk => exact hq.elim
    | cont => exact hq.elim
theorem pd_callR (G : XG X g) (F : FnGR g k x n dfl sp) (hr : Room k X.A) (hgd : X.A.guards = some []) (hs : PDA X g xp (e :: es) fs) (hn : (e :: es).length + dfl.length = n := by rfl) (hg : Gl X x := by rfl) (hdb : (x == ("__debug__" : Str)) = false := by decide)
    (he : starEach (e :: es) X.env = (false, eval e X.env) :: starEach es X.env := by rfl) (hpl : (backTo pos (starEach es X.env)).any (·.1) = false := by rfl) : PD X g xp (.Call (.Name x p) (e :: es) [] pos) (wCall sp dfl xp fs) := by
  obtain ⟨f, fd, ps, dvs, dus, F1, m, kp, bi, rv, rd⟩ := F.ex
  refine ⟨fun ρ K K' h => hs.mono _ _ _ fun ds => F.mono _ _ _ _ _ h fun _ q => q, fun H0 O L => ?_⟩
  obtain ⟨E, tk, hE⟩ := L.ex
  refine (pe_callR G F1 hgd hr hg m kp bi rv (passes_call tk fun _ _ _ _ h => h) (hs.pa H0 O L) hdb he hpl).imp' fun σ H Q ⟨ρ, own, Ev, k1⟩ => ⟨ρ, own, Ev, hs.mono _ _ _ (fun ds ⟨el, k2⟩ vs H1 e1 d1 r1 => ?_) (hs.len _ _ k1)⟩
  have Ev1 := Ev.move e1 d1
  have ra := r1.append (rd H1 (hidO O own))
  refine ⟨hidO O own, ds ++ dfl, Ev1.vw, fun b hb => .inl (Ev.dks b hb), ra, by rw [← ra.length, List.length_append, el]; exact hn, F.mono _ _ _ _ _ (fun d q v H2 e2 d2 r2 => q v H2 (e1.trans e2) d2 r2) (fun x q cls od H2 e2 d2 r2 => hE x q cls od H2 (Ev1.ext.trans e2) d2 (r2.less hid_less)) k2⟩
end
end DL
end
section
set_option Elab.async false
set_option linter.all false
set_option maxRecDepth 100000
set_option maxHeartbeats 4000000
/-! DQ: sorted lists of tuples of ints, any number of them. -/
namespace DL
open PySem PySem.Spec PyProof.Rows L2
def tupI (m : List Int) : D := .tup (m.map D.int)
def All2 {α β : Type} (R : α → β → Prop) : List α → List β → Prop
  | [], [] => True
  | a :: as, b :: bs => R a b ∧ All2 R as bs
  | _, _ => False
theorem All2.len {α β : Type} {R : α → β → Prop} : ∀ {as : List α} {bs : List β}, All2 R as bs → as.length = bs.length
  | [], [], _ => rfl
  | _ :: _, _ :: _, h => by rw [List.length_cons, List.length_cons, All2.len h.2]
  | [], _ :: _, h => h.elim
  | _ :: _, [], h => h.elim
theorem All2.mem {α β : Type} {R : α → β → Prop} : ∀ {as : List α} {bs : List β}, All2 R as bs → ∀ a ∈ as, ∃ b, b ∈ bs ∧ R a b
  | [], [], _, a, h => by simp at h
  | x :: as, y :: bs, h, a, ha => by
    rcases List.mem_cons.mp ha with e | e
    · rw [e]; exact ⟨y, List.mem_cons_self, h.1⟩
    · obtain ⟨b, hb, r⟩ := All2.mem h.2 a e
      exact ⟨b, List.mem_cons_of_mem _ hb, r⟩
  | [], _ :: _, h, _, _ => h.elim
  | _ :: _, [], h, _, _ => h.elim
theorem All2.of_map {α β γ : Type} {R : α → β → Prop} {f : γ → α} {k : γ → β} : ∀ {l : List γ}, (∀ c ∈ l, R (f c) (k c)) → All2 R (l.map f) (l.map k)
  | [], _ => trivial
  | c :: l, h => ⟨h c List.mem_cons_self, All2.of_map fun c hc => h c (List.mem_cons_of_mem _ hc)⟩
theorem ints_of : ∀ {ns : List Int} {us : List Value}, Vals (ns.map V.int) us → IntsAre us ns
  | [], _, h => by cases h; exact .nil
  | n :: ns, _, h => by
    cases h with
    | cons r rr =>
      obtain ⟨t, e⟩ := r
      rw [e]
      exact .cons n t (ints_of rr)
/-- values and what stands for them -/
def vOf : Value → V
  | .ref a => .ref a
  | _ => .non
open Srt TS in
theorem sort_vals {X : Cx} {pins : List (Addr × Obj)} {σ : L2.St} {H : Hp} {s : Shared} (I : L2.Inv X pins σ H s) {R : V → List Int → Prop} (hR : ∀ v m, R v m → ∃ b, v = .ref b ∧ SqT X.K H b (m.map V.int)) :
    ∀ {vs : List V} {ms : List (List Int)} {us : List Value}, All2 R vs ms → Vals vs us → us.map vOf = vs ∧ us.map (intsOf s.heap) = ms ∧ ∀ u ∈ us, TupInts s.heap u (intsOf s.heap u) ∧ R (vOf u) (intsOf s.heap u)
  | [], [], _, _, h => by cases h; exact ⟨rfl, rfl, fun u hu => by simp at hu⟩
  | v :: vs, m :: ms, _, a, h => by
    cases h with
    | @cons _ u _ us r rr =>
      obtain ⟨b, rfl, hq⟩ := hR v m a.1
      obtain rfl : u = Value.ref b := r
      obtain ⟨ws, rv, hp, _, _⟩ := sqk_inv (k := false) I hq
      have ti : TupInts s.heap (.ref b) m := ⟨b, ws.toArray, rfl, hp, by simpa using ints_of rv⟩
      obtain ⟨e1, e2, e3⟩ := sort_vals I hR a.2 rr
      refine ⟨by rw [List.map_cons, e1]; rfl, by rw [List.map_cons, e2, ti.ints], fun u hu => ?_⟩
      rcases List.mem_cons.mp hu with e | e
      · rw [e, ti.ints]; exact ⟨ti, a.1⟩
      · exact e3 u e
  | [], _ :: _, _, h, _ => h.elim
  | _ :: _, [], _, h, _ => h.elim
def rSortT (K : PySem.W.Frag) : List V → Hp → VK → Prop := fun xs H Q => ∃ (R : V → List Int → Prop) (a : Addr) (vs : List V) (ms : List (List Int)) (B : Int) (d : Nat), xs = [.ref a] ∧ SqL K H a vs ∧ (∀ v m, R v m → ∃ b, v = .ref b ∧ SqT K H b (m.map V.int)) ∧ All2 R vs ms ∧
  1 ≤ d ∧ (∀ m ∈ ms, m.length = d ∧ TS.Bd B m) ∧ ∀ out ws t, out.Perm ms → out.Pairwise (fun m n => TS.code B m ≤ TS.code B n) → All2 R ws out → H t = none → Q (.ref t) (upd H t (.lst ws))
open Srt TS SrtO in
theorem call_sortT {X : Cx} : CallR X (.builtin "sorted") (rSortT X.K) := by
  intro pins s σ H xs us0 Q I r h
  obtain ⟨R, a, vs, ms, B, d, rfl, hq, hR, al, hd, hm, q⟩ := h
  obtain ⟨u0, rfl, ru⟩ := vals1 r
  obtain rfl : u0 = Value.ref a := ru
  obtain ⟨us, rv, hl, _, zl⟩ := sqk_inv (k := true) I hq
  obtain ⟨e1, e2, e3⟩ := sort_vals I hR al rv
  have ok : TupsOk s.heap d B us := fun u hu => by
    have hmem : intsOf s.heap u ∈ ms := by rw [← e2]; exact List.mem_map.mpr ⟨u, hu, rfl⟩
    exact ⟨_, (e3 u hu).1, hm _ hmem⟩
  have hz : us.length ≤ sizeLine := by rw [← rv.length]; exact zl
  refine sorted_ord (ltv := fun v u => decide (code B (intsOf s.heap v) < code B (intsOf s.heap u))) ⟨fun x y h => ?_, fun x y z h1 h2 => ?_⟩ hl hz (fun h2 h₁ b hb kk h' keep => ?_) fun out hs hst => ?_
  · have := of_decide_eq_true h
    exact decide_eq_false (by omega)
  · have h1 := of_decide_eq_false h1
    have h2 := of_decide_eq_false h2
    exact decide_eq_false (by omega)
  · have k1 : ∀ c o, s.heap.get? c = some o → o.cls = .type "tuple" → h'.get? c = some o := fun c o e _ => keep c o (kk c o e).1 (kk c o e).2
    have ok' := ok.keeps k1
    obtain ⟨fs, kt, kl, ki⟩ := TS.firsts_of hd us ok'
    refine ⟨tuples' true, fun Q E hq => ?_, fun p p' hp hp' => ?_⟩
    · refine PySem.W.kat_kind (T := Value.type "int") kt (by omega) (fun f hf => ?_) rfl hq
      obtain ⟨n, t, rfl⟩ := ki f hf
      exact PySem.W.Looks.of_pure rfl
    · have t1 := (e3 _ hp).1.keeps k1
      have t2 := (e3 _ hp').1.keeps k1
      obtain ⟨m1, m2, m3⟩ := ok _ hp
      obtain ⟨n1, n2, n3⟩ := ok _ hp'
      have em : m1 = intsOf s.heap p.1 := m2.ints.symm
      have en : n1 = intsOf s.heap p'.1 := n2.ints.symm
      obtain ⟨x, xs, ex, ⟨o, ho, hc, n, hdt⟩, i⟩ := t1
      obtain ⟨x', ys, ex', ⟨o', ho', hc', n', hdt'⟩, i'⟩ := t2
      show wpAny _ _ (keyLt' (tuples' true) p.1 p'.1) (fun r s' => s' = _ ∧ r = decide (code B (intsOf s.heap p.1) < code B (intsOf s.heap p'.1))) _ _
      rw [← em] at i ⊢
      rw [← en] at i' ⊢
      rw [ex, ex']
      refine PySem.W.kat_lt ho hdt ho' hdt' ?_
      have sz : decide (xs.size < ys.size) = false := by
        have l1 := i.length
        have l2 := i'.length
        rw [Array.length_toList] at l1 l2
        have := m3.1; have := n3.1
        exact decide_eq_false (by omega)
      rw [sz]
      exact lex_ints 0 i i' (by rw [m3.1, n3.1]) m3.2 n3.2 ⟨rfl, rfl⟩
  · obtain ⟨ep, he'⟩ := sortedAll_at s.heap us out.toArray
    have mem : ∀ u ∈ out, u ∈ us := fun u hu => hst.perm.mem_iff.mp hu
    have hlen : (out.map vOf).length ≤ sizeLine := by rw [List.length_map, hst.perm.length_eq]; exact hz
    have rv2 : Vals (out.map vOf) out := by
      have : ∀ l : List Value, (∀ u ∈ l, u ∈ us) → Vals (l.map vOf) l := fun l => by
        induction l with
        | nil => exact fun _ => .nil
        | cons u l ih =>
          intro h
          refine .cons ?_ (ih fun v hv => h v (List.mem_cons_of_mem _ hv))
          obtain ⟨c, ws, ec, _⟩ := (e3 u (h u List.mem_cons_self)).1
          rw [ec]; exact rfl
      exact this out mem
    refine ⟨.ref _, upd H (s.heap.objs.size + 1) (.lst (out.map vOf)), I.laid (t' := s.toks) (fun _ _ => sortedAll_old) (Nat.le_succ _) ⟨hlen, out, ep, rv2, he'⟩, rfl, q (out.map (intsOf s.heap)) (out.map vOf) _ ?_ ?_ ?_ (I.hok.fresh (Nat.le_succ _))⟩
    · rw [← e2]; exact hst.perm.map _
    · rw [List.pairwise_map]
      refine List.Pairwise.imp (fun {u v} h => ?_) hs
      have := of_decide_eq_false h
      omega
    · exact All2.of_map fun u hu => (e3 u (mem u hu)).2
def cSorted : List D → (D → Prop) → Prop
  | [.lst ds], K => ∃ (B : Int) (d : Nat) (ms : List (List Int)), ds = ms.map tupI ∧ 1 ≤ d ∧ (∀ m ∈ ms, m.length = d ∧ TS.Bd B m) ∧ ∀ out : List (List Int), out.Perm ms → out.Pairwise (fun m n => TS.code B m ≤ TS.code B n) → K (.lst (out.map tupI))
  | _, _ => False
theorem all2_rep {g : Gx} {H : Hp} {O : Addr → Prop} : ∀ {ms : List (List Int)} {vs : List V}, RepL g H O (ms.map tupI) vs → All2 (fun v m => Rep g H O (tupI m) v) vs ms
  | [], _, r => by rw [show _ = [] from r]; trivial
  | m :: ms, _, ⟨v, vs', e, r1, r2⟩ => by rw [e]; exact ⟨r1, all2_rep r2⟩
theorem rep_all2 {g : Gx} {H : Hp} {O : Addr → Prop} : ∀ {ms : List (List Int)} {vs : List V}, All2 (fun v m => Rep g H O (tupI m) v) vs ms → RepL g H O (ms.map tupI) vs
  | [], [], _ => rfl
  | m :: ms, v :: vs, h => ⟨v, vs, rfl, h.1, rep_all2 h.2⟩
  | [], _ :: _, h => h.elim
  | _ :: _, [], h => h.elim
section
variable {X : Cx} {g : Gx}
theorem cd_sorted (G : XG X g) : CallD X g (.builtin "sorted") cSorted := by
  have hK := G.K
  refine ⟨fun xs K K' h => ?_, _, call_sortT, fun xs K H O vs Q vw r k q => ?_⟩
  · unfold cSorted; split <;> first | exact fun ⟨B, d, ms, a, b, c, e⟩ => ⟨B, d, ms, a, b, c, fun o p w => h _ (e o p w)⟩ | exact id
  · unfold cSorted at k
    split at k
    · obtain ⟨B, d, ms, rfl, h1, h2, k⟩ := k
      obtain ⟨v, rfl, rv⟩ := repl1 r
      obtain ⟨l, us, rfl, hp, rp⟩ := rv
      refine ⟨fun v m => Rep g H O (tupI m) v, l, us, ms, B, d, rfl, by rw [hK]; exact hp.sq, fun v m hv => ?_, all2_rep rp, h1, h2, fun out ws t p w a n => ?_⟩
      · obtain ⟨b, xs, rfl, hb, rb⟩ := hv
        rw [RepL.ints.mp rb] at hb
        exact ⟨b, rfl, by rw [hK]; exact hb.sq⟩
      · have ro := rep_all2 a
        refine q _ (k out p w) _ _ (ext_new n) (dk_new vw.dko n) ⟨t, ws, rfl, ⟨fun z => vw.oin t z n, upd_same⟩, ro.ext vw.odk (ext_new n)⟩
    · exact k.elim
end
end DL
end
section
set_option Elab.async false
set_option linter.all false
set_option maxRecDepth 100000
set_option maxHeartbeats 4000000
/-! DR: what the head tells, by paths; a law called where nothing is being shown. -/
namespace DL
open PySem PySem.Spec PyProof.Rows L2
/-- one def, found by a path -/
structure DefP where
  ad : PySem.W.Frag → Addr
  name : Str
  qual : Str
  params : Arguments
  body : List Stmt
  scope : Scope
  dfl : List He.Dv := []
def DefP.seen (K : PySem.W.Frag) (d : DefP) : He.FnW := match K.lookup (d.ad K) with
  | some ⟨_, _, .func q, _⟩ => some (q.name, q.qualname, q.params, q.body, q.scope, q.globals, q.closure, q.builtins)
  | _ => none
def DefP.want (d : DefP) : He.FnW := some (d.name, d.qual, d.params, .stmts d.body, d.scope, mainGlobals, [], builtinsNs)
def DefP.dvs (K : PySem.W.Frag) (d : DefP) : List V := d.dfl.map (He.Dv.v K)
def DefP.good (K : PySem.W.Frag) (d : DefP) : Bool := PySem.W.keepIn K (.ref (d.ad K)) && (match K.lookup (d.ad K) with
  | some ⟨_, _, .func q, _⟩ => PySem.W.codeIn K q.code d.qual && He.dflB K q.defaults (d.dvs K)
  | _ => false)
theorem DefP.funD {K : PySem.W.Frag} {d : DefP} (e : d.seen K = d.want) (c : d.good K = true) : ∃ fd, FunD K d.name d.qual d.params d.body d.scope (d.dvs K) [] (d.ad K) fd := by
  obtain ⟨kp, c2⟩ := He.ba c
  unfold DefP.seen at e
  split at e
  · rename_i oc od q osl lk
    rw [lk] at c2
    obtain ⟨c3, c4⟩ := He.ba c2
    obtain ⟨a1, a2, a3, a4, a5, a6, a7, a8, a9, a10, a11, a12, a13, a14, a15⟩ := q
    have e2 : (some (a1, a2, a3, a4, a5, a6, a7, a15) : He.FnW) = some (d.name, d.qual, d.params, .stmts d.body, d.scope, mainGlobals, [], builtinsNs) := e
    simp only [Option.some.injEq, Prod.mk.injEq] at e2
    obtain ⟨h1, h2, h3, h4, h5, h6, h7, h8⟩ := e2
    subst h1 h2 h3 h4 h5 h6 h7 h8
    exact ⟨_, ⟨_, _, _, _, _, _, _, _, _, _, rfl, lk, c3, He.dflB_ok c4, .inl rfl⟩, kp⟩
  · cases e
abbrev AlP : Type := Bool × List He.FnW
def obsP (fa : List He.Fa) (ex : PySem.W.Frag → Bool) (fn : List DefP) (K : PySem.W.Frag) : AlP := ((fa.all fun f => f.ok K) && (ex K && fn.all fun d => d.good K), fn.map fun d => d.seen K)
def valP (fn : List DefP) : AlP := (true, fn.map DefP.want)
def obsPG (n : Nat) (fa : List He.Fa) (ex : PySem.W.Frag → Bool) (fn : List DefP) (gt : Addr → Option Obj) : AlP := obsP fa ex fn (He.frG gt (He.asD gt n))
def SaysP (fa : List He.Fa) (ex : PySem.W.Frag → Bool) (fn : List DefP) (K : PySem.W.Frag) : Prop := obsP fa ex fn K = valP fn
def hookP (n : Nat) (fa : List He.Fa) (ex : PySem.W.Frag → Bool) (fn : List DefP) : PySem.W.Hook where
  α := AlP
  obs := fun sh => obsPG n fa ex fn sh.heap.get?
  val := fun _ => valP fn
  says := fun _ hp => ∃ K : PySem.W.Frag, K.In hp ∧ SaysP fa ex fn K
  of := fun _ _ eq => ⟨_, He.frG_in, eq⟩
  keeps := fun _ _ _ ⟨K, inK, sy⟩ kp => ⟨K, PySem.W.Frag.In.keeps inK kp, sy⟩
theorem obsPG_eq {n : Nat} {fa : List He.Fa} {ex : PySem.W.Frag → Bool} {fn : List DefP} {gt : Addr → Option Obj} {s : Shared} (h : ∀ a, gt a = s.heap.get? a) : obsPG n fa ex fn gt = (hookP n fa ex fn).obs s := by
  have e : gt = s.heap.get? := funext h
  subst e; rfl
section
variable {fa : List He.Fa} {ex : PySem.W.Frag → Bool} {fn : List DefP} {K : PySem.W.Frag}
theorem SaysP.all (c : SaysP fa ex fn K) : (fa.all fun f => f.ok K) = true ∧ ex K = true ∧ (fn.all fun d => d.good K) = true := by
  have c1 : ((fa.all fun f => f.ok K) && (ex K && fn.all fun d => d.good K)) = true := congrArg (fun z : AlP => z.1) c
  exact ⟨(He.ba c1).1, He.ba (He.ba c1).2⟩
theorem SaysP.fact (c : SaysP fa ex fn K) {f : He.Fa} (h : f ∈ fa) : f.ok K = true := List.all_eq_true.mp c.all.1 f h
theorem SaysP.def_ (c : SaysP fa ex fn K) (i : Nat) {d : DefP} (h : fn[i]? = some d) : ∃ fd, FunD K d.name d.qual d.params d.body d.scope (d.dvs K) [] (d.ad K) fd := by
  have e : fn.map (fun d => d.seen K) = fn.map DefP.want := congrArg (fun z : AlP => z.2) c
  have e2 := congrArg (fun l : List He.FnW => l[i]?) e
  simp only [List.getElem?_map, h] at e2
  exact DefP.funD (Option.some.inj e2) (List.all_eq_true.mp c.all.2.2 d (List.mem_of_getElem? h))
end
/-! ### properties, constants -/
def gtA (K : PySem.W.Frag) (p : Addr) : Addr := match PySem.W.recIn K p "property" with
  | some (.ref a :: _) => a
  | _ => 0
def propB (K : PySem.W.Frag) (C : Addr) (f : Str) : Bool := He.eqO (PySem.W.findIn K (.ref C) f) (some (some (.ref (He.ma K C f)))) && (He.eqO (PySem.W.specialIn K (.ref (He.ma K C f)) "__get__") (some (some (.builtin "property.__get__"))) &&
  (decide (PySem.W.takesIn K (.ref (He.ma K C f)) = some true) && (match PySem.W.recIn K (He.ma K C f) "property" with
    | some (.ref _ :: _) => true
    | _ => false)))
theorem propB_ok {K : PySem.W.Frag} {C : Addr} {f : Str} (h : propB K C f = true) : PropOf K C f (He.ma K C f) (gtA K (He.ma K C f)) := by
  obtain ⟨h1, h⟩ := He.ba h
  obtain ⟨h2, h⟩ := He.ba h
  obtain ⟨h3, h4⟩ := He.ba h
  refine ⟨He.eqO_ok h1, He.eqO_ok h2, of_decide_eq_true h3, ?_⟩
  unfold gtA
  split at h4
  · rename_i a l q
    rw [q]; exact ⟨l, rfl⟩
  · cases h4
/-- the module's name x is a tuple of these ints -/
def tupN (K : PySem.W.Frag) (x : Str) (ns : List Int) : Bool := match K.lookup (He.ga K x) with
  | some ⟨.type c, _, .seq its _, _⟩ => decide (c = "tuple") && (decide (its.size ≤ sizeLine) && He.relAll (ns.map V.int) its.toList)
  | _ => false
theorem tupN_ok {g : Gx} {h : Heap} {x : Str} {ns : List Int} (X : g.K.In h) (G : h.Ns mainGlobals g.mg) (c : (He.Fa.glo x).ok g.K = true) (t : tupN g.K x ns = true) : GloD g x (.tup (ns.map D.int)) := by
  refine ⟨_, .ref (He.ga g.K x), He.glo_ok X G c, rfl, fun H O => ⟨He.ga g.K x, ns.map V.int, rfl, .inr ?_, RepL.ints.mpr rfl⟩⟩
  unfold tupN at t
  split at t
  · rename_i cl od its n osl lk
    obtain ⟨t1, t2⟩ := He.ba t
    obtain ⟨t3, t4⟩ := He.ba t2
    exact ⟨_, its, n, lk, congrArg Value.type (of_decide_eq_true t1), rfl, of_decide_eq_true t3, He.relAll_ok t4⟩
  · cases t
theorem intN_ok {g : Gx} {h : Heap} {x : Str} {i : Int} (X : g.K.In h) (G : h.Ns mainGlobals g.mg) (c : (He.Fa.int x i).ok g.K = true) : GloD g x (.int i) := by
  obtain ⟨t, e⟩ := He.int_ok X G c
  exact ⟨_, .int i, e, ⟨t, rfl⟩, fun _ _ => rfl⟩
end DL
namespace DL
open PySem PySem.Spec PyProof.Rows L2
/-- the law's call at the heap behind the top, nothing being shown around it -/
theorem law_at {P : Program} {w : World} {K : PySem.W.Frag} {mg mb : Str → Option Value} {fa a : Addr} {sh : Shared} {us : List Value} {ns : List Int}
    (hK : K.In sh.heap) (hG : sh.heap.Ns mainGlobals mg) (hB : sh.heap.Ns builtinsNs mb) (hbb : ∀ x : Str, x ≠ "__name__" → mb x = bootBuiltins x) (hL : sh.heap.NoLimit) (hg : sh.gens = #[])
    (ho : sh.heap.get? a = some { cls := .type "list", data := .seq us.toArray }) (hi : IntsAre us ns) (hz : ns.length ≤ sizeLine)
    (F : ∀ (base : Heap) (H : Hp), K.In base → base.Ns mainGlobals mg → Env0 P w K mg base callerA [] sh H → Only H → SqL K H a (ns.map V.int) →
      codeAny (model P w) callerA (.call (.ref fa) ⟨[.ref a], []⟩) (CR (CX P w) [] P w H sh (fun v _ => v = .bl true) fun _ _ _ => False) sh) :
    codeAny (model P w) callerA (.call (.ref fa) ⟨[.ref a], []⟩) (fun r s' => r = .ok (.ret (.bool true)) ∧ OldK sh.heap s'.heap ∧ s'.os = sh.os ∧ AllBare s'.gens) sh := by
  have rv := vals_ints hi
  -- whatever abstract heap tells of the script alone
  have go : ∀ H : Hp, Only H → SqL K H a (ns.map V.int) → HOk P w H sh.heap → (∀ b u, H b = some u → b = a ∧ K.lookup a = none) →
      codeAny (model P w) callerA (.call (.ref fa) ⟨[.ref a], []⟩) (fun r s' => r = .ok (.ret (.bool true)) ∧ OldK sh.heap s'.heap ∧ s'.os = sh.os ∧ AllBare s'.gens) sh := by
    intro H only sq hok own
    have off : ∀ b : Addr, (∀ u, H b ≠ some u) → H b = none := fun b h => by
      cases q : H b with
      | none => rfl
      | some u => exact absurd q (h u)
    have nsTo : ∀ {d : Addr} {m : Str → Option Value}, sh.heap.Ns d m → (hidT sh.heap H).Ns d m := by
      rintro d m ⟨o, es, ep, e, dt, r⟩
      refine ⟨o, es, ep, hidT_get e (off d fun u z => ?_), dt, r⟩
      obtain ⟨rfl, _⟩ := own d u z
      rw [ho] at e
      cases e
      cases dt
    have kIn : K.In (hidT sh.heap H) := fun b o e => hidT_get (hK b o e) (off b fun u z => by
      obtain ⟨rfl, q⟩ := own b u z
      rw [q] at e; cases e)
    obtain ⟨ml, l1, l2⟩ := hL
    have e0 : Env0 P w K mg (hidT sh.heap H) callerA [] sh H :=
      ⟨rfl, ⟨kIn, nsTo hG, ⟨mb, nsTo hB, hbb⟩, ⟨ml, nsTo l1, l2⟩⟩, fun b o e => of_hidT e, Nat.le_of_eq (hidT_size _ _), trivial, fun b hb => (nomatch hb), hok, .of_eq hg⟩
    refine codeAny_mono (F (hidT sh.heap H) H kIn (nsTo hG) e0 only sq) fun r s' h => ?_
    cases r with
    | error e =>
      obtain ⟨_, _, _, _, _, _, _, _, _, _, _, _, no⟩ := h
      exact no.elim
    | ok fl =>
      cases fl with
      | ret u =>
        obtain ⟨v, H', os, bare, un, hok', ru, rfl⟩ := h
        refine ⟨by rw [show u = Value.bool true from ru], OldK.of_keep fun b o e => ?_, os, bare⟩
        cases q : H b with
        | none => exact un.keep b o e q (fun z => nomatch (show b ∈ ([] : List Addr) from z)) (fun z => nomatch z)
        | some t =>
          rcases only b with z | ⟨ob, xs, z⟩
          · rw [q] at z; cases z
          · obtain ⟨g1, _⟩ := hok b _ z
            obtain ⟨g2, _⟩ := hok' b _ (un.frzs b ob _ z)
            rw [e] at g1
            cases g1
            exact g2
      | next => exact h.elim
      | brk => exact h.elim
      | cont => exact h.elim
  cases lk : K.lookup a with
  | some o =>
    have e := hK a o lk
    rw [ho] at e
    cases e
    exact go (fun _ => none) (fun _ => .inl rfl) (.inr ⟨_, us.toArray, _, lk, rfl, rfl, rfl, by rw [List.size_toArray, hi.length]; exact hz, by simpa using rv⟩) (fun b u z => nomatch z) fun b u z => nomatch z
  | none =>
    let Ha : Hp := fun b => if b = a then some (.frz { cls := .type "list", data := .seq us.toArray } (.lst (ns.map V.int))) else none
    have at_ : ∀ b u, Ha b = some u → b = a ∧ u = .frz { cls := .type "list", data := .seq us.toArray } (.lst (ns.map V.int)) := fun b u z => by
      by_cases hb : b = a
      · have z2 : (if b = a then _ else _) = some u := z
        rw [if_pos hb] at z2
        exact ⟨hb, (Option.some.inj z2).symm⟩
      · have z2 : (if b = a then _ else _) = some u := z
        rw [if_neg hb] at z2
        cases z2
    refine go Ha (fun b => ?_) (.inl (.inr ⟨_, if_pos rfl⟩)) (fun b u z => ?_) fun b u z => ⟨(at_ b u z).1, lk⟩
    · cases q : Ha b with
      | none => exact .inl rfl
      | some u => exact .inr ⟨_, _, by rw [(at_ b u q).2]⟩
    · obtain ⟨rfl, rfl⟩ := at_ b u z
      exact ⟨ho, by rw [List.length_map]; exact hz, us, _, rv, ho⟩
/-- the end of a law, from a def's promise where nothing is being shown -/
theorem walk_at {l : PySem.W.OpenLaw} {n k : Nat} {q : Program} {loose : List Str} {XP : (Str → Option Value) → Heap → Prop} {YP : World → Heap → Prop} {d : DefRec} {x : Str}
    (hn : l.most = some n) (hn2 : n ≤ sizeLine) (hdf : d.params.defaults = []) (hr : Room k callerA)
    (F : ∀ (w : World) (mg : Str → Option Value) (fa : Addr) (h : Heap), YP w h → h.Ns mainGlobals mg → mg d.name = some (.ref fa) →
      ∃ K : PySem.W.Frag, K.In h ∧ ∀ base : Heap, K.In base → base.Ns mainGlobals mg → ∃ (g : Gx) (fd : FuncData) (sp : Sp), g.prog = l.prog ∧ g.w = w ∧ g.K = K ∧ g.mg = mg ∧ g.base = base ∧ (∀ (s : Shared) (u : Value), BindsTo s fd ⟨[u], []⟩ [(x, u)]) ∧
        (∀ (H : Hp) (a : Addr) (ns : List Int), ns.length ≤ n → Only H → SqL K H a (ns.map V.int) → sp [.ref a] H (fun v _ => v = .bl true) fun _ _ _ => False) ∧ FnRun g k fa fd [x] sp) :
    PySem.W.WalkO q loose XP YP l.row.toRowW d [] (fun f vs => PySem.call f vs) := by
  refine Att.attach_call hn hdf fun w s0 s1 mg mb fa o pm cd doc a vs ns G Y ho hd hcd hmg hobj hints hlen hg => ?_
  obtain ⟨K, KX, hF⟩ := F w mg fa _ Y G.T.g hmg
  refine law_at KX G.T.g G.T.b G.T.builtins G.T.nolimit hg hobj hints (Nat.le_trans hlen hn2) fun base H kb nb e0 only sq => ?_
  obtain ⟨g, fd, sp, h1, h2, h3, h4, h5, hb, hsp, R⟩ := hF base kb nb
  have e0' : Env0 g.prog g.w g.K g.mg g.base callerA [] s1 H := by rw [h1, h2, h3, h4, h5]; exact e0
  have go := R.run callerA [] s1 H ⟨[.ref a], []⟩ [.ref a] [.ref a] _ _ hr rfl e0' (hb s1 (.ref a)) (.cons rfl .nil) (hsp H a ns hlen only sq)
  rw [h1, h2] at go
  exact go
end DL
end
section
set_option Elab.async false
set_option linter.all false
set_option maxRecDepth 100000
set_option maxHeartbeats 4000000
/-! DV: a list by a conditional, isinstance of an own class, sorted whole numbers, comprehensions of two clauses. -/
namespace DL
open PySem PySem.Spec PyProof.Rows L2
section
variable {X : Cx} {g : Gx} {xp : Exc → Prop} {a b c e : Expr} {es : List Expr} {fe : WE} {ft : WT} {fl hl : WL} {pos p : Pos}
def lIf (ft : WT) (fl hl : WL) : WL := fun ρ K => ft ρ fun c => if c = true then fl ρ K else hl ρ K
theorem pdf_if (hc : PDT X g xp c ft) (ha : PDF X g xp a fl) (hb : PDF X g xp b hl) : PDF X g xp (.IfExp c a b pos) (lIf ft fl hl) := by
  refine ⟨fun ρ K K' h => hc.mono _ _ _ fun x => ite_mono (ha.mono _ _ _ h) (hb.mono _ _ _ h), fun H0 O L => (pe_ifExp (hc.pt H0 O L) (ha.pe H0 O L) (hb.pe H0 O L)).imp' fun σ H Q ⟨ρ, own, E, k⟩ => ⟨ρ, own, E, hc.mono _ _ _ (fun x k2 H1 e1 d1 => ?_) k⟩⟩
  cases x with
  | true => exact ⟨ρ, own, E.move e1 d1, ha.mono _ _ _ (fun y q p vs H2 n hp e2 d2 r2 => q p vs H2 (none_back E e1 n d1) hp (e1.trans e2) d2 r2) k2⟩
  | false => exact ⟨ρ, own, E.move e1 d1, hb.mono _ _ _ (fun y q p vs H2 n hp e2 d2 r2 => q p vs H2 (none_back E e1 n d1) hp (e1.trans e2) d2 r2) k2⟩
theorem pd_imp {f f' : WE} (h : PD X g xp e f) (m : ∀ ρ K K', (∀ d, K d → K' d) → f' ρ K → f' ρ K') (i : ∀ ρ K, f' ρ K → f ρ K) : PD X g xp e f' :=
  ⟨m, fun H0 O L => (h.pe H0 O L).imp' fun σ H Q ⟨ρ, own, E, k⟩ => ⟨ρ, own, E, i _ _ k⟩⟩
end
/-! ### isinstance(x, C), x of the class C -/
def isiB (K : PySem.W.Frag) (C : Addr) : Bool := He.eqO (PySem.W.findIn K (.ref C) "__class__") (some (some (.builtin "object.__class__"))) && (He.eqO (PySem.W.specialIn K (.builtin "object.__class__") "__get__") (some (some (.builtin "getset_descriptor.__get__"))) &&
  (decide (PySem.W.takesIn K (.builtin "object.__class__") = some true) && decide (PySem.W.mroIn K C (.type "object") = some true)))
structure IsiG (g : Gx) (c : Nat) : Prop where
  ok : isiB g.K (g.cA c) = true
def cIsO (g : Gx) : List D → (D → Prop) → Prop
  | [.obj c _, .adr a], K => a = g.cA c ∧ IsiG g c ∧ Cls g.K (g.cA c) ∧ K (.bl true)
  | _, _ => False
section
variable {X : Cx} {g : Gx} {xp : Exc → Prop} {e : Expr} {fe : WE} {pos p q : Pos}
theorem cd_isO (G : XG X g) : CallD X g (.builtin "isinstance") (cIsO g) := by
  have hK := G.K
  refine ⟨?_, _, call_isi, ?_⟩
  · intro xs K K' m h
    unfold cIsO at h ⊢
    split at h
    · exact ⟨h.1, h.2.1, h.2.2.1, m _ h.2.2.2⟩
    · exact h
  · intro xs K H O vs Q vw r h w
    have h2 : ∃ c fs a, xs = [.obj c fs, .adr a] ∧ a = g.cA c ∧ IsiG g c ∧ Cls g.K (g.cA c) ∧ K (.bl true) := by
      unfold cIsO at h
      split at h
      · exact ⟨_, _, _, rfl, h⟩
      · exact h.elim
    obtain ⟨c, fs, a, rfl, ea, is, cl, hk⟩ := h2
    · skip
      obtain ⟨v, u, rfl, rv, ru⟩ := repl2 r
      have ru : u = .ref _ := ru
      subst ru
      obtain ⟨x, dx, vs, rfl, nO, hx, hl, rf⟩ := rv
      obtain ⟨h1, h2⟩ := He.ba is.ok
      obtain ⟨h3, h4⟩ := He.ba h2
      obtain ⟨h5, h6⟩ := He.ba h4
      subst ea
      refine ⟨.ref x, .ref (g.cA c), .ref (g.cA c), .ref (g.cA c), true, rfl, .own _, ?_, ?_, w _ hk _ H (ExtH.refl H) vw.dko rfl⟩
      · rw [hK]
        exact .base (.ins hx cl (He.eqO_ok h1) (He.eqO_ok h3) (of_decide_eq_true h5) (of_decide_eq_true h6))
      · unfold PySem.W.kitOne
        rw [if_pos (by simp)]
def wIsIns (c : Nat) (fe : WE) : WE := fun ρ K => fe ρ fun d => ∃ fs, d = .obj c fs ∧ K (.bl true)
theorem pd_isins {x : Str} (c : Nat) {ks : List Str} (G : XG X g) (C : ClsG g c ks) (I : IsiG g c) (gl : g.mg x = some (.ref (g.cA c))) (hm : g.mg "isinstance" = none) (he : PD X g xp e fe) (hg : Gl X x := by rfl) (hd : (x == ("__debug__" : Str)) = false := by decide) (hgi : Gl X "isinstance" := by rfl)
    (hs : starEach [e, .Name x q] X.env = (false, eval e X.env) :: starEach [.Name x q] X.env := by rfl) (hpl : (backTo pos (starEach [.Name x q] X.env)).any (·.1) = false := by rfl) (hs2 : starEach [.Name x q] X.env = (false, eval (.Name x q) X.env) :: starEach [] X.env := by rfl) : PD X g xp (.Call (.Name "isinstance" p) [e, .Name x q] [] pos) (wIsIns c fe) := by
  refine pd_imp (pd_blt G (cd_isO G) hm (pda_cons he (pda_cons (pd_glob (d := .adr (g.cA c)) ⟨_, .ref _, gl, rfl, fun _ _ => rfl⟩ G.mg hg hd) pda_nil hs2) hs) (hg := hgi) (he := hs) (hpl := hpl)) (fun ρ K K' m => he.mono _ _ _ fun d ⟨fs, e1, k⟩ => ⟨fs, e1, m _ k⟩) fun ρ K h => ?_
  exact he.mono _ _ _ (fun d ⟨fs, e1, k⟩ => by subst e1; exact ⟨rfl, I, C.cl, k⟩) h
/-! ### sorted of whole numbers -/
def cSortI : List D → (D → Prop) → Prop
  | [.lst ds], K => ∃ ns : List Int, ds = ns.map D.int ∧ ∀ out : List Int, out.Perm ns → out.Pairwise (· ≤ ·) → K (.lst (out.map D.int))
  | _, _ => False
theorem cd_sortI (G : XG X g) : CallD X g (.builtin "sorted") cSortI := by
  have hK := G.K
  refine ⟨fun xs K K' h => ?_, _, cr_sortedI, fun xs K H O vs Q vw r k q => ?_⟩
  · unfold cSortI; split <;> first | exact fun ⟨ms, a, e⟩ => ⟨ms, a, fun o p w => h _ (e o p w)⟩ | exact id
  · unfold cSortI at k
    split at k
    · obtain ⟨ns, rfl, k⟩ := k
      obtain ⟨v, rfl, rv⟩ := repl1 r
      obtain ⟨l, us, rfl, hp, rp⟩ := rv
      have e := RepL.ints.mp rp
      subst e
      refine ⟨l, ns, rfl, by rw [hK]; exact hp.sq, fun out p a w n => ?_⟩
      refine q _ (k out a w) _ _ (ext_new n) (dk_new vw.dko n) ?_
      exact ⟨p, out.map V.int, rfl, ⟨fun z => vw.oin p z n, upd_same⟩, RepL.ints.mpr rfl⟩
    · exact k.elim
theorem CallD.or {f : Value} {c c' : List D → (D → Prop) → Prop} (h : CallD X g f c) (h' : CallD X g f c') : CallD X g f (fun ds K => c ds K ∨ c' ds K) := by
  obtain ⟨m, r, cr, hr⟩ := h
  obtain ⟨m', r', cr', hr'⟩ := h'
  refine ⟨fun xs K K' i => Or.imp (m xs K K' i) (m' xs K K' i), fun xs H Q => r xs H Q ∨ r' xs H Q, ?_, ?_⟩
  · intro pins s σ H xs us Q I rr hh
    exact hh.elim (cr pins s σ H xs us Q I rr) (cr' pins s σ H xs us Q I rr)
  · intro xs K H O vs Q vw rr k w
    exact k.elim (fun k => .inl (hr xs K H O vs Q vw rr k w)) (fun k => .inr (hr' xs K H O vs Q vw rr k w))
def cSortX : List D → (D → Prop) → Prop := fun ds K => cSorted ds K ∨ cSortI ds K
theorem cd_sortX (G : XG X g) : CallD X g (.builtin "sorted") cSortX := (cd_sorted G).or (cd_sortI G)
end
/-! ### comprehensions of two clauses -/
def lcI (t : WG) (ft : WT) (fe : WE) (ρ0 : Env) : List D → List D → (List D → Prop) → Prop
  | [], acc, K => K acc
  | d :: ds, acc, K => t d ρ0 fun ρ1 => ft ρ1 fun b => if b = true then fe ρ1 fun y => acc.length < 1000000 ∧ lcI t ft fe ρ0 ds (acc ++ [y]) K else lcI t ft fe ρ0 ds acc K
def lcL2 (t : WG) (ft : WT) (fi1 : WL) (vs1 : List Nat) (t1 : WG) (ft1 : WT) (fe : WE) (ρ0 : Env) : List D → List D → (List D → Prop) → Prop
  | [], acc, K => K acc
  | d :: ds, acc, K => t d ρ0 fun ρ1 => ft ρ1 fun b => if b = true then fi1 ρ1 fun es => noLv ρ1 vs1 ∧ lcI t1 ft1 fe (wipeE ρ1 vs1) es acc (fun acc' => lcL2 t ft fi1 vs1 t1 ft1 fe ρ0 ds acc' K) else lcL2 t ft fi1 vs1 t1 ft1 fe ρ0 ds acc K
def lComp2 (fi : WL) (t : WG) (ft : WT) (fi1 : WL) (vs1 : List Nat) (t1 : WG) (ft1 : WT) (fe : WE) (vs : List Nat) : WL := fun ρ K => fi ρ fun ds => noLv ρ vs ∧ lcL2 t ft fi1 vs1 t1 ft1 fe (wipeE ρ vs) ds [] K
section
variable {X : Cx} {g : Gx} {xp : Exc → Prop} {elt tg iter tg1 iter1 : Expr} {ifs ifs1 : List Expr} {scope : Scope} {own0 : List (Str × Nat)} {is is1 vs1 : List Nat} {pos p : Pos} {fi fi1 : WL} {t t1 : WG} {ft ft1 : WT} {fe : WE}
theorem lcI_mono (hg : ∀ d ρ K K', (∀ ρ, K ρ → K' ρ) → t d ρ K → t d ρ K') (ht : ∀ ρ K K', (∀ d, K d → K' d) → ft ρ K → ft ρ K') (he : ∀ ρ K K', (∀ d, K d → K' d) → fe ρ K → fe ρ K') {ρ0 : Env} {K K' : List D → Prop} (m : ∀ d, K d → K' d) :
    ∀ ds acc, lcI t ft fe ρ0 ds acc K → lcI t ft fe ρ0 ds acc K'
  | [], acc, h => m acc h
  | d :: ds, acc, h => hg _ _ _ _ (fun ρ1 => ht _ _ _ fun b => ite_mono (he _ _ _ fun y => And.imp id (lcI_mono hg ht he m ds _)) (lcI_mono hg ht he m ds _)) h
theorem lcL2_mono (hg : ∀ d ρ K K', (∀ ρ, K ρ → K' ρ) → t d ρ K → t d ρ K') (ht : ∀ ρ K K', (∀ d, K d → K' d) → ft ρ K → ft ρ K') (hi1 : ∀ ρ K K', (∀ d, K d → K' d) → fi1 ρ K → fi1 ρ K') (hg1 : ∀ d ρ K K', (∀ ρ, K ρ → K' ρ) → t1 d ρ K → t1 d ρ K') (ht1 : ∀ ρ K K', (∀ d, K d → K' d) → ft1 ρ K → ft1 ρ K')
    (he : ∀ ρ K K', (∀ d, K d → K' d) → fe ρ K → fe ρ K') {ρ0 : Env} {K K' : List D → Prop} (m : ∀ d, K d → K' d) :
    ∀ ds acc, lcL2 t ft fi1 vs1 t1 ft1 fe ρ0 ds acc K → lcL2 t ft fi1 vs1 t1 ft1 fe ρ0 ds acc K'
  | [], acc, h => m acc h
  | d :: ds, acc, h => hg _ _ _ _ (fun ρ1 => ht _ _ _ fun b => ite_mono (hi1 _ _ _ fun es => And.imp id (lcI_mono hg1 ht1 he (fun acc' => lcL2_mono hg ht hi1 hg1 ht1 he m ds acc') es _)) (lcL2_mono hg ht hi1 hg1 ht1 he m ds _)) h
def tAnyI (g : Gx) (fi : WL) : TI := fun σ H R => ∃ H0 O, ∃ ρ own, EnvOk g H0 O σ H ρ own ∧ fi ρ fun ds => ∀ J H1, ExtH g H H1 → g.dkOk H1 → ItD g (hidO O own) J H1 ds → R J H1
/-- the base without the list that is made -/
theorem lc2_imp (hgm : ∀ d ρ K K', (∀ ρ, K ρ → K' ρ) → t d ρ K → t d ρ K') (htm : ∀ ρ K K', (∀ d, K d → K' d) → ft ρ K → ft ρ K') (hgm1 : ∀ d ρ K K', (∀ ρ, K ρ → K' ρ) → t1 d ρ K → t1 d ρ K') (htm1 : ∀ ρ K K', (∀ d, K d → K' d) → ft1 ρ K → ft1 ρ K') (hem : ∀ ρ K K', (∀ d, K d → K' d) → fe ρ K → fe ρ K')
    (him : ∀ ρ K K', (∀ d, K d → K' d) → fi ρ K → fi ρ K') (him1 : ∀ ρ K K', (∀ d, K d → K' d) → fi1 ρ K → fi1 ρ K') {vs : List Nat} (his : ∀ i, i ∈ is → i ∈ vs) (his1 : ∀ i, i ∈ is1 → i ∈ vs1) {H0 : Hp} {O : Addr → Prop} {σ : L2.St} {H : Hp} {Q : VK} (h : tDF g H0 O (lComp2 fi t ft fi1 vs1 t1 ft1 fe vs) σ H Q) :
    tLc2 (fun σ H R => ∃ ρ own, EnvOk g H0 O σ H ρ own ∧ fi ρ fun ds => ∀ J H1, ExtH g H H1 → g.dkOk H1 → ItD g (hidO O own) J H1 ds → R J H1) (gAny g is t) (tAnyT g ft) (tAnyI g fi1) (gAny g is1 t1) (tAnyT g ft1) (tAnyE g fe) vs vs1 σ H Q := by
  obtain ⟨ρ, own, E, k⟩ := h
  refine ⟨ρ, own, E, him _ _ _ (fun ds ⟨nl, k⟩ J H1 e1 d1 it Dn nD => ?_) k⟩
  have no := E.noOwn nl
  have E1 := E.move e1 d1
  have E2 : EnvOk g (bareH H1 own) O (L2.wipe σ vs) H1 (wipeE ρ vs) own := E1.rebase.wipe vs no
  have E3 : EnvOk g (bareH H1 own) (fun b => O b ∨ b = Dn) (L2.wipe σ vs) (upd H1 Dn (.lst [])) (wipeE ρ vs) own := E2.newO nD
  obtain ⟨nD1, nD2, nD3⟩ := E2.noneOf nD
  have nDk : ¬ g.dkS Dn := fun z => nD1 (.inl (E2.dks _ z))
  have nDd : Dn ≠ g.dk := nD3
  have nb : bareH H1 own Dn = none := nD2
  let KK : List D → Prop := fun xs => ∀ p ws H2, H p = none → H2 p = some (.lst ws) → ExtH g H H2 → g.dkOk H2 → RepL g H2 (fun b => hidO O own b ∨ b = p) xs ws → Q (.ref p) H2
  let Iv : Nat → Hp → Prop := fun i H' => ∃ acc ws, H' Dn = some (.lst ws) ∧ RepL g H' (hidO (fun b => O b ∨ b = Dn) own) acc ws ∧ ExtH g H1 H' ∧ EnvOk g (bareH H1 own) (fun b => O b ∨ b = Dn) (L2.wipe σ vs) H' (wipeE ρ vs) own ∧ lcL2 t ft fi1 vs1 t1 ft1 fe (wipeE ρ vs) (ds.drop i) acc KK
  have hp : ∀ b, (hidO O own b ∨ b = Dn) → hidO (fun b => O b ∨ b = Dn) own b := fun b hb => hb.elim (fun z => z.elim (fun z => .inl (.inl z)) .inr) fun z => .inl (.inr z)
  refine ⟨fun i m H' => m = ds.length - i ∧ i ≤ ds.length ∧ Iv i H', ⟨ds.length, by simp, Nat.zero_le _, [], [], upd_same, RepL.nil, ext_new nD, E3, k⟩, ?_⟩
  rintro i m H2 ⟨rfl, hi2, acc, ws, hD, ra, x2, E4, k2⟩
  obtain ⟨go, stop, yld⟩ := it.step H2 (hidO (fun b => O b ∨ b = Dn) own) (kept_of E1 E4) E4.vw (new_of E1 E4 fun b hb => hb.elim .inl fun z => .inr (z ▸ nD))
  by_cases hlt : i < ds.length
  · refine .inr ⟨go i hlt, Iv (i + 1), fun H' h => ⟨ds.length - (i + 1), by omega, rfl, hlt, h⟩, fun x H3 y => ?_⟩
    obtain ⟨d, hd, e3, d3, r3⟩ := yld i x H3 hlt y
    rw [List.drop_eq_getElem_cons hlt] at k2
    have ed : ds[i] = d := by rw [List.getElem?_eq_getElem hlt] at hd; exact Option.some.inj hd
    rw [ed] at k2
    have E5 := E4.move e3 d3
    refine ⟨bareH H1 own, _, wipeE ρ vs, own, d, E5, r3, hgm _ _ _ _ (fun ρ1 k3 σ1 own1 E6 le oa => ⟨only_wipe his oa, ?_⟩) k2⟩
    refine ⟨bareH H1 own, _, ρ1, own1, E6, htm _ _ _ (fun b k4 H6 e6 d6 => ?_) k3⟩
    have E7 := E5.move e6 d6
    have x6 := (x2.trans e3).trans e6
    have hD6 : H6 Dn = some (.lst ws) := e6 _ _ nDd (e3 _ _ nDd hD)
    have ra6 := (ra.ext E4.hdk e3).ext E4.hdk e6
    cases b with
    | false => exact ⟨acc, ws, hD6, ra6, x6, E7, k4⟩
    | true =>
      have E6m := E6.move e6 d6
      refine ⟨bareH H1 own, _, ρ1, own1, E6m, him1 _ _ _ (fun es ⟨nl1, k5⟩ J1 H7 e7 d7 it1 => ?_) k4⟩
      have no1 := E6m.noOwn nl1
      have E9 := E7.move e7 d7
      have F0 := E6m.move e7 d7
      have hD7 : H7 Dn = some (.lst ws) := e7 _ _ nDd hD6
      have ra7 := ra6.ext E7.hdk e7
      have x7 := x6.trans e7
      -- the inner frame, from a base without the list that is made
      let B : Hp := fun b => if b = Dn then none else bareH H7 own1 b
      have hB0 : B Dn = none := if_pos rfl
      have hB1 : ∀ b, b ≠ Dn → B b = bareH H7 own1 b := fun b hb => if_neg hb
      have hBo : ∀ b o, B b = some o → H7 b = some o := fun b o e => by
        by_cases z : b = Dn
        · rw [z, hB0] at e; cases e
        · rw [hB1 b z] at e; exact bare_of e
      have F1 : EnvOk g B (fun b => O b ∨ b = Dn) (L2.wipe σ1 vs1) H7 (wipeE ρ1 vs1) own1 := by
        have F : EnvOk g B (fun b => O b ∨ b = Dn) σ1 H7 ρ1 own1 := by
          refine ⟨F0.len, F0.sl, F0.inj, fun i a h => ⟨(F0.ofr i a h).1, ?_⟩, fun b o _ e => hBo b o e, F0.dko, F0.dks, F0.oin⟩
          rw [hB1 a (fun z => (F0.ofr i a h).1 (.inr z))]
          exact bare_own h
        exact F.wipe vs1 no1
      let Iw : Nat → Hp → Prop := fun j H' => ∃ acc ws, H' Dn = some (.lst ws) ∧ RepL g H' (hidO (fun b => O b ∨ b = Dn) own) acc ws ∧ ExtH g H1 H' ∧ EnvOk g (bareH H1 own) (fun b => O b ∨ b = Dn) (L2.wipe σ vs) H' (wipeE ρ vs) own ∧
        EnvOk g B (fun b => O b ∨ b = Dn) (L2.wipe σ1 vs1) H' (wipeE ρ1 vs1) own1 ∧ lcI t1 ft1 fe (wipeE ρ1 vs1) (es.drop j) acc (fun acc' => lcL2 t ft fi1 vs1 t1 ft1 fe (wipeE ρ vs) (ds.drop (i + 1)) acc' KK)
      refine ⟨fun j k H' => k = es.length - j ∧ j ≤ es.length ∧ Iw j H', ⟨es.length, by simp, Nat.zero_le _, acc, ws, hD7, ra7, x7, E9, F1, k5⟩, ?_⟩
      rintro j k H8 ⟨rfl, hj2, acc2, ws2, hD8, ra8, x8, E10, F2, k6⟩
      obtain ⟨go1, stop1, yld1⟩ := it1.step H8 (hidO (fun b => O b ∨ b = Dn) own1) (fun b o hb e => F2.ext b o (fun z => hb (z ▸ F2.hdk)) (by
          rw [hB1 b (fun z => hb (.inl (.inr z))), bare_to fun i z => hb (.inr ⟨i, z⟩)]; exact e)) F2.vw (fun b hb => .inl hb)
      by_cases hlj : j < es.length
      · refine .inr ⟨go1 j hlj, Iw (j + 1), fun H' h => ⟨es.length - (j + 1), by omega, rfl, hlj, h⟩, fun x H9 y => ?_⟩
        obtain ⟨d', hd', e9, d9, r9⟩ := yld1 j x H9 hlj y
        rw [List.drop_eq_getElem_cons hlj] at k6
        have ed' : es[j] = d' := by rw [List.getElem?_eq_getElem hlj] at hd'; exact Option.some.inj hd'
        rw [ed'] at k6
        have F3 := F2.move e9 d9
        refine ⟨B, _, wipeE ρ1 vs1, own1, d', F3, r9, hgm1 _ _ _ _ (fun ρ2 k7 σ2 own2 F4 le2 oa2 => ⟨only_wipe his1 oa2, ?_⟩) k6⟩
        refine ⟨B, _, ρ2, own2, F4, htm1 _ _ _ (fun b k8 H10 e10 d10 => ?_) k7⟩
        have E11 := (E10.move e9 d9).move e10 d10
        have F5 := F3.move e10 d10
        have x10 := (x8.trans e9).trans e10
        have hD10 : H10 Dn = some (.lst ws2) := e10 _ _ nDd (e9 _ _ nDd hD8)
        have ra10 := (ra8.ext E10.hdk e9).ext E10.hdk e10
        cases b with
        | false => exact ⟨acc2, ws2, hD10, ra10, x10, E11, F5, k8⟩
        | true =>
          refine ⟨B, _, ρ2, own2, F4.move e10 d10, hem _ _ _ (fun yd ⟨hlen, k9⟩ v H11 e11 d11 r11 => ?_) k8⟩
          have E12 := E11.move e11 d11
          have F6 := F5.move e11 d11
          have x11 := x10.trans e11
          have hD11 : H11 Dn = some (.lst ws2) := e11 _ _ nDd hD10
          have ra11 := ra10.ext E11.hdk e11
          have r11' : Rep g H11 (hidO (fun b => O b ∨ b = Dn) own) yd v := by
            refine Rep.move (H := H11) (fun b o _ e => e) (fun b hb hn z => ?_) _ _ r11
            refine hb ?_
            rcases z with z | ⟨q, z⟩
            · exact .inl z
            · have h1 : own1 q = some b := by
                rw [(oa.2 q fun hq => by rw [no q (his q hq)] at z; cases z).2]
                exact z
              refine .inr ⟨q, ?_⟩
              rw [(oa2.2 q fun hq => by rw [no1 q (his1 q hq)] at h1; cases h1).2]
              exact h1
          have ra12 := ra11.append (RepL.one r11')
          have m := mil
          refine ⟨ws2, hD11, ?_, acc2 ++ [yd], ws2 ++ [v], upd_same, ?_, fun b o hb e => ?_, E12.wrO (.inr rfl) nb nDk, F6.wrO (.inr rfl) hB0 nDk, k9⟩
          · rw [← ra11.length]; omega
          · exact RepL.move (fun b o hb e => by rw [upd_ne (fun z : b = Dn => hb (.inl (.inr z)))]; exact e) (fun _ n _ => n) _ _ ra12
          · rw [upd_ne (fun z : b = Dn => by rw [z, nD] at e; cases e)]; exact x11 b o hb e
      · have e : j = es.length := by omega
        subst e
        rw [List.drop_length] at k6
        exact .inl ⟨stop1, acc2, ws2, hD8, ra8, x8, E10, k6⟩
  · have e : i = ds.length := by omega
    subst e
    rw [List.drop_length] at k2
    refine .inl ⟨stop, ?_⟩
    exact k2 Dn ws H2 (none_back E e1 nD d1) hD (e1.trans x2) E4.dko (ra.less hp)
theorem pdf_comp2 (hN : X.N.Nodup) (hi : PID X g xp tg iter fi) (ok : blkC X.N X.env.scope scope own0 = true) (hg : BlkAll X scope fun Y => PGD Y g tg is t) (ht : BlkAll X scope fun Y => PDTs Y g ifs ft) (hi1 : BlkAll X scope fun Y => PID Y g (fun _ => False) tg1 iter1 fi1) (hg1 : BlkAll X scope fun Y => PGD Y g tg1 is1 t1) (ht1 : BlkAll X scope fun Y => PDTs Y g ifs1 ft1)
    (he : BlkAll X scope fun Y => PD Y g (fun _ => False) elt fe) (hv : ∀ i ∈ vs1, i ∈ own0.map (·.2) := by decide) (his : ∀ i, i ∈ is → i ∈ own0.map (·.2) := by decide) (his1 : ∀ i, i ∈ is1 → i ∈ vs1 := by decide) (hc : X.calm = true := by rfl) (hs : ∀ x, foldedSetIterable iter X.env x = pure x := by intro _; rfl) (hs1 : ∀ env x, foldedSetIterable iter1 env x = pure x := by intro _ _; rfl) :
    PDF X g xp (.ListComp elt [⟨tg, iter, ifs, 0⟩, ⟨tg1, iter1, ifs1, 0⟩] scope pos) (lComp2 fi t ft fi1 vs1 t1 ft1 fe (own0.map (·.2))) := by
  have m1 := (hg X.s_0 X.H_0 0 [] []).mono
  have m2 := (ht X.s_0 X.H_0 0 [] []).mono
  have m3 := (he X.s_0 X.H_0 0 [] []).mono
  have m4 := (hi1 X.s_0 X.H_0 0 [] []).mono
  have m5 := (hg1 X.s_0 X.H_0 0 [] []).mono
  have m6 := (ht1 X.s_0 X.H_0 0 [] []).mono
  refine ⟨fun ρ K K' m => hi.mono _ _ _ fun ds ⟨n, k⟩ => ⟨n, lcL2_mono m1 m2 m4 m5 m6 m3 m ds _ k⟩, fun H0 O L => ?_⟩
  refine (pe_lc2 (g := gAny g is t) (tt := tAnyT g ft) (wi1 := tAnyI g fi1) (g1 := gAny g is1 t1) (tt1 := tAnyT g ft1) (te := tAnyE g fe) hc hN (hi.pi H0 O L) (blkOk_by ok) hv (fun s H C cl fp => ?_) (fun s H C cl fp => ?_) (fun s H C cl fp => ?_) (fun s H C cl fp => ?_) (fun s H C cl fp => ?_) (fun s H C cl fp => ?_) hs hs1).imp' fun σ H Q h => lc2_imp m1 m2 m5 m6 m3 hi.mono m4 his his1 h
  · exact ⟨fun pins s σ H v u Q I r ⟨H0, O, q⟩ => ((hg _ _ _ _ _).pg H0 O).run pins s σ H v u Q I r q⟩
  · exact ⟨fun pins s σ H Q I ⟨H0, O, q⟩ => ((ht _ _ _ _ _).pt H0 O).run pins s σ H Q I q⟩
  · exact ⟨fun pins s σ H R I ⟨H0, O, q⟩ => ((hi1 _ _ _ _ _).pi H0 O xlink_no).run pins s σ H R I q⟩
  · exact ⟨fun pins s σ H v u Q I r ⟨H0, O, q⟩ => ((hg1 _ _ _ _ _).pg H0 O).run pins s σ H v u Q I r q⟩
  · exact ⟨fun pins s σ H Q I ⟨H0, O, q⟩ => ((ht1 _ _ _ _ _).pt H0 O).run pins s σ H Q I q⟩
  · exact ⟨fun pins s σ H Q I ⟨H0, O, q⟩ => ((he _ _ _ _ _).pe H0 O xlink_no).run pins s σ H Q I q⟩
theorem lComp2_mono (m1 : ∀ d ρ K K', (∀ ρ, K ρ → K' ρ) → t d ρ K → t d ρ K') (m2 : ∀ ρ K K', (∀ d, K d → K' d) → ft ρ K → ft ρ K') (m4 : ∀ ρ K K', (∀ d, K d → K' d) → fi1 ρ K → fi1 ρ K') (m5 : ∀ d ρ K K', (∀ ρ, K ρ → K' ρ) → t1 d ρ K → t1 d ρ K') (m6 : ∀ ρ K K', (∀ d, K d → K' d) → ft1 ρ K → ft1 ρ K')
    (m3 : ∀ ρ K K', (∀ d, K d → K' d) → fe ρ K → fe ρ K') (m0 : ∀ ρ K K', (∀ d, K d → K' d) → fi ρ K → fi ρ K') {vs : List Nat} (ρ : Env) (K K' : List D → Prop) (m : ∀ d, K d → K' d) (h : lComp2 fi t ft fi1 vs1 t1 ft1 fe vs ρ K) : lComp2 fi t ft fi1 vs1 t1 ft1 fe vs ρ K' :=
  m0 _ _ _ (fun ds ⟨n, k⟩ => ⟨n, lcL2_mono m1 m2 m4 m5 m6 m3 m ds _ k⟩) h
/-- name = [.. for .. for ..], kept as a value -/
theorem psd_setLc2 (i : Nat) {y : Str} {py spos : Pos} (hN : X.N.Nodup) (hi : PID X g xp tg iter fi) (ok : blkC X.N X.env.scope scope own0 = true) (hg : BlkAll X scope fun Y => PGD Y g tg is t) (ht : BlkAll X scope fun Y => PDTs Y g ifs ft) (hi1 : BlkAll X scope fun Y => PID Y g (fun _ => False) tg1 iter1 fi1) (hg1 : BlkAll X scope fun Y => PGD Y g tg1 is1 t1) (ht1 : BlkAll X scope fun Y => PDTs Y g ifs1 ft1)
    (he : BlkAll X scope fun Y => PD Y g (fun _ => False) elt fe) (hv : ∀ i ∈ vs1, i ∈ own0.map (·.2) := by decide) (his : ∀ i, i ∈ is → i ∈ own0.map (·.2) := by decide) (his1 : ∀ i, i ∈ is1 → i ∈ vs1 := by decide) (hy : X.N[i]? = some y := by rfl) (hyl : X.env.scope.names.lookup y = some .local := by rfl)
    (hsw : swapsWith (.ListComp elt [⟨tg, iter, ifs, 0⟩, ⟨tg1, iter1, ifs1, 0⟩] scope pos) (some (.Name y py)) spos.line X.env = pure true := by exact sw_true rfl rfl rfl rfl) (hc : X.calm = true := by rfl) (hs : ∀ x, foldedSetIterable iter X.env x = pure x := by intro _; rfl) (hs1 : ∀ env x, foldedSetIterable iter1 env x = pure x := by intro _ _; rfl) :
    PSD X g xp (.Assign [.Name y py] (.ListComp elt [⟨tg, iter, ifs, 0⟩, ⟨tg1, iter1, ifs1, 0⟩] scope pos) spos) (wSet i (wOfL (lComp2 fi t ft fi1 vs1 t1 ft1 fe (own0.map (·.2))))) := by
  have m1 := (hg X.s_0 X.H_0 0 [] []).mono
  have m2 := (ht X.s_0 X.H_0 0 [] []).mono
  have m3 := (he X.s_0 X.H_0 0 [] []).mono
  have m4 := (hi1 X.s_0 X.H_0 0 [] []).mono
  have m5 := (hg1 X.s_0 X.H_0 0 [] []).mono
  have m6 := (ht1 X.s_0 X.H_0 0 [] []).mono
  have mm := fun ρ K K' m h => lComp2_mono (vs := own0.map (·.2)) (vs1 := vs1) m1 m2 m4 m5 m6 m3 hi.mono ρ K K' m h
  refine ⟨fun P P' ρ l => mm _ _ _ fun xs => l.nx _, fun H0 O L => ps_imp (ps_setLc2 (g := gAny g is t) (tt := tAnyT g ft) (wi1 := tAnyI g fi1) (g1 := gAny g is1 t1) (tt1 := tAnyT g ft1) (te := tAnyE g fe) hc hN hy hyl hsw (hi.pi H0 O L) (blkOk_by ok) hv (fun s H C cl fp => ?_) (fun s H C cl fp => ?_) (fun s H C cl fp => ?_) (fun s H C cl fp => ?_) (fun s H C cl fp => ?_) (fun s H C cl fp => ?_) hs hs1) fun Dn σ H ⟨ρ, own, P, E, po, k⟩ => lc2_imp m1 m2 m5 m6 m3 hi.mono m4 his his1 ⟨ρ, own, E, ?_⟩⟩
  · exact ⟨fun pins s σ H v u Q I r ⟨H0, O, q⟩ => ((hg _ _ _ _ _).pg H0 O).run pins s σ H v u Q I r q⟩
  · exact ⟨fun pins s σ H Q I ⟨H0, O, q⟩ => ((ht _ _ _ _ _).pt H0 O).run pins s σ H Q I q⟩
  · exact ⟨fun pins s σ H R I ⟨H0, O, q⟩ => ((hi1 _ _ _ _ _).pi H0 O xlink_no).run pins s σ H R I q⟩
  · exact ⟨fun pins s σ H v u Q I r ⟨H0, O, q⟩ => ((hg1 _ _ _ _ _).pg H0 O).run pins s σ H v u Q I r q⟩
  · exact ⟨fun pins s σ H Q I ⟨H0, O, q⟩ => ((ht1 _ _ _ _ _).pt H0 O).run pins s σ H Q I q⟩
  · exact ⟨fun pins s σ H Q I ⟨H0, O, q⟩ => ((he _ _ _ _ _).pe H0 O xlink_no).run pins s σ H Q I q⟩
  · refine mm _ _ _ (fun xs k p vs H2 n hp e2 d2 r2 => ?_) k
    exact po.nx _ _ _ _ k ((E.move e2 d2).st i ⟨p, vs, rfl, ⟨(E.noneOf n).1, hp⟩, r2.less fun b hb => .inl hb⟩)
end
/-! ### a fresh list told from a live one -/
section
variable {g : Gx} {X : Cx} {xp : Exc → Prop} {e : Expr} {fl : WL}
def lBor (i : Nat) (fl : WL) : WL := fun ρ K => ∃ xs, ρ[i]? = some (.lv xs) ∧ fl (ρ.set i (.sh (.lst xs))) fun ys => D.nolL ys = true ∧ K ys
theorem pdf_bor (i : Nat) (h : PDF X g xp e fl) : PDF X g xp e (lBor i fl) := by
  refine ⟨fun ρ K K' m ⟨xs, q, k⟩ => ⟨xs, q, h.mono _ _ _ (fun d ⟨n, k⟩ => ⟨n, m _ k⟩) k⟩, fun H0 O L => (h.pe H0 O L).imp' fun σ H Q ⟨ρ, own, E, xs, q, k⟩ => ?_⟩
  refine ⟨_, _, E.frz q, h.mono _ _ _ (fun ys ⟨n, k⟩ p vs2 H2 nn hp e2 d2 r2 => k p vs2 H2 nn hp e2 d2 ?_) k⟩
  obtain ⟨a, vs, h1, h2, h3, h4⟩ := E.at_lv q
  refine RepL.hide (fun b z1 z2 => ?_) ys vs2 n r2
  rcases z1 with z1 | z1
  · have hb : b = a := by
      rcases z1 with z | ⟨j, z⟩
      · exact absurd (.inl (.inl z)) z2
      · by_cases hj : j = i
        · rw [hj, h1] at z; exact (Option.some.inj z).symm
        · exact absurd (.inl (.inr ⟨j, by rw [ownSet_ne hj]; exact z⟩)) z2
    rw [hb]
    exact ⟨vs, e2 a _ (E.ndk h1) h3⟩
  · exact absurd (.inr z1) z2
end
end DL
end
section
set_option Elab.async false
set_option linter.all false
set_option maxRecDepth 100000
set_option maxHeartbeats 4000000
/-! printed by gen.py: slots, readings, derivations of the defs of poleheaps_k83_whole_twins. -/
namespace K83
open PySem PySem.Spec PyProof.Rows L2 DL
def top (i : Nat) : Stmt := PySem.Challenge.pw_poleheaps_k83_whole_twins.main.body.getD i (.Pass ⟨0, 0, 0, 0⟩)
structure Sps where
  s__law_deck : DSpec
  s__law_draw : DSpec
  s_is_integer : DSpec
  s_is_count : DSpec
  s_is_prime : DSpec
  s_raised : DSpec
  s_primes_of : DSpec
  s_divisors : DSpec
  s_inverse : DSpec
  s_root : DSpec
  s_is_polynomial : DSpec
  s_trimmed : DSpec
  s_degree : DSpec
  s_index : DSpec
  s_of_index : DSpec
  s_scaled : DSpec
  s_monic : DSpec
  s_combined : DSpec
  s_sum_of : DSpec
  s_product : DSpec
  s_slope : DSpec
  s_value_at : DSpec
  s_put_in : DSpec
  s_divided : DSpec
  s_remainder : DSpec
  s_common : DSpec
  s_power_modulo : DSpec
  s_prime_polynomials : DSpec
  s_any_root : DSpec
  s_root_modulo : DSpec
  p_p : DSpec
  p_f : DSpec
  s_kind_over : DSpec
  s_places_over : DSpec
  s_places : DSpec
  s_place_count : DSpec
  s_zeros_of : DSpec
  s_turned_numbers : DSpec
  s_ways : DSpec
  s_plain_turns : DSpec
  s_other_turns : DSpec
  p_genus : DSpec
  s_turns : DSpec
  s_turn_between : DSpec
  m_Curve : DSpec
  s_twin : DSpec
  s_list_made : DSpec
  s_counts_of : DSpec
  s_list_over : DSpec
  s_check_size : DSpec
  s_sign_of_number : DSpec
  s_sign_at : DSpec
  s_points_counted : DSpec
  s_curve_polynomial : DSpec
  s_class_count : DSpec
  s__law_is : DSpec
  s__law_trim : DSpec
  s__law_inv : DSpec
  s__law_div : DSpec
  s__law_common : DSpec
  s__law_slope : DSpec
  s__law_f : DSpec
  s__law_curve : DSpec
  s_law : DSpec
structure Fx (g : Gx) : Prop where
  int : g.mg "int" = none
  isinstance : g.mg "isinstance" = none
  bool : g.mg "bool" = none
  PRIME_MOST : GloD g "PRIME_MOST" (.int 61)
  range : g.mg "range" = none
  all : g.mg "all" = none
  sorted : g.mg "sorted" = none
  tuple : g.mg "tuple" = none
  len : g.mg "len" = none
  max : g.mg "max" = none
  zip : g.mg "zip" = none
  enumerate : g.mg "enumerate" = none
  list : g.mg "list" = none
  LISTED_MOST : GloD g "LISTED_MOST" (.int 5000)
  Curve : ClsG g 0 ["_p", "_f"]
  any : g.mg "any" = none
  DEGREES : GloD g "DEGREES" (.tup [.int 3, .int 5, .int 7, .int 9])
  sum : g.mg "sum" = none
  min : g.mg "min" = none
  repr : g.mg "repr" = none
  isi_Curve : IsiG g 0
  gl_Curve : g.mg "Curve" = some (.ref (g.cA 0))
  abs : g.mg "abs" = none
def bodyAt (st : Stmt) (i : Nat) : Stmt := (defBody st).getD i (.Pass ⟨0, 0, 0, 0⟩)
def N_s_is_integer : List Str := ["value"]
theorem sc_s_is_integer : FnScope N_s_is_integer ["value"] (defScope (top 10)) := ⟨rfl, rfl, rfl, by decide +kernel, rfl, by decide +kernel, by decide +kernel⟩
def W_s_is_integer (S : Sps) (xp : Exc → Prop) : WS := (wRet (wAndV (wBlt cIsi (wCons (wVar 0) (wCons (wC (.ty "int")) wNil))) (wNotV (wBlt cIsi (wCons (wVar 0) (wCons (wC (.ty "bool")) wNil))))))
theorem bd_s_is_integer {g : Gx} (S : Sps) (fx : Fx g)  {f : Addr} (cd : Value) (A : Around) (outer : List PySem.Env) (s : Shared) (H : Hp) (E : XK) (xp : Exc → Prop) (hr : Room 1 (dcx g N_s_is_integer "is_integer" (defScope (top 10)) f cd A outer s H E).A) : PSsD (dcx g N_s_is_integer "is_integer" (defScope (top 10)) f cd A outer s H E) g xp (defBody (top 10)) (W_s_is_integer S xp) := by
  have G : XG (dcx g N_s_is_integer "is_integer" (defScope (top 10)) f cd A outer s H E) g := XG.dcx
  have hN : N_s_is_integer.Nodup := sc_s_is_integer.nd
  have hp : PassesOwn (model g.prog g.w) (dcx g N_s_is_integer "is_integer" (defScope (top 10)) f cd A outer s H E).A (dcx g N_s_is_integer "is_integer" (defScope (top 10)) f cd A outer s H E).env (dcx g N_s_is_integer "is_integer" (defScope (top 10)) f cd A outer s H E).xe := passes_of rfl
  exact (pssd_one (psd_ret (pd_and G (pd_blt G (cd_isi G) fx.isinstance (pda_cons (pd_var 0) (pda_cons (pd_ty G fx.int) pda_nil))) (pd_one (pd_not G (pd_blt G (cd_isi G) fx.isinstance (pda_cons (pd_var 0) (pda_cons (pd_ty G fx.bool) pda_nil))))))))

def N_s_is_count : List Str := ["value", "least", "most"]
theorem sc_s_is_count : FnScope N_s_is_count ["value", "least", "most"] (defScope (top 11)) := ⟨rfl, rfl, rfl, by decide +kernel, rfl, by decide +kernel, by decide +kernel⟩
def W_s_is_count (S : Sps) (xp : Exc → Prop) : WS := (wSeq (wIfS (wOr (wNot (wTru (wCall S.s_is_integer [] xp (wCons (wVar 0) wNil)))) (wB (wBin kLt (wVar 0) (wVar 1)))) (wRet (wC (.bl false))) wNext) (wRet (wOrV (wBin kIsN (wVar 2) (wC .non)) (wBin kLe (wVar 0) (wVar 2)))))
theorem bd_s_is_count {g : Gx} (S : Sps) (fx : Fx g) (c_is_integer : FnG g 2 "is_integer" 1 [] S.s_is_integer) {f : Addr} (cd : Value) (A : Around) (outer : List PySem.Env) (s : Shared) (H : Hp) (E : XK) (xp : Exc → Prop) (hr : Room 2 (dcx g N_s_is_count "is_count" (defScope (top 11)) f cd A outer s H E).A) : PSsD (dcx g N_s_is_count "is_count" (defScope (top 11)) f cd A outer s H E) g xp (defBody (top 11)) (W_s_is_count S xp) := by
  have G : XG (dcx g N_s_is_count "is_count" (defScope (top 11)) f cd A outer s H E) g := XG.dcx
  have hN : N_s_is_count.Nodup := sc_s_is_count.nd
  have hp : PassesOwn (model g.prog g.w) (dcx g N_s_is_count "is_count" (defScope (top 11)) f cd A outer s H E).A (dcx g N_s_is_count "is_count" (defScope (top 11)) f cd A outer s H E).env (dcx g N_s_is_count "is_count" (defScope (top 11)) f cd A outer s H E).xe := passes_of rfl
  exact (pssd_cons (psd_if (pdt_w (pdw_or (pdt_not (pdt_tru G (pd_call G c_is_integer (hr.mono (by decide)) (pda_cons (pd_var 0) pda_nil)))) (pdw_or1 (pdt_cmp (od_lt) (pd_var 0) (pd_var 1))))) (pssd_one (psd_ret pd_bl)) pssd_nil) (pssd_one (psd_ret (pd_or G (pd_cmp (od_isN) (pd_var 2) pd_non) (pd_one (pd_cmp (od_le) (pd_var 0) (pd_var 2)))))))

def N_s_is_prime : List Str := ["value", "part"]
theorem sc_s_is_prime : FnScope N_s_is_prime ["value"] (defScope (top 12)) := ⟨rfl, rfl, rfl, by decide +kernel, rfl, by decide +kernel, by decide +kernel⟩
def W_s_is_prime (S : Sps) (xp : Exc → Prop) : WS := (wSeq (wIfS (wNot (wTru (wCall S.s_is_count [] xp (wCons (wVar 0) (wCons (wC (.int 3)) (wCons (wC (.int 61)) wNil)))))) (wRet (wC (.bl false))) wNext) (wRet (wBlt cAll (wCons (wOfL (lComp (iR2 (wC (.int 2)) (wVar 0)) (gdName 1) wYes (wBin kNe (wBin kMod (wVar 0) (wVar 1)) (wC (.int 0))) [1])) wNil))))
theorem bd_s_is_prime {g : Gx} (S : Sps) (fx : Fx g) (c_is_count : FnG g 3 "is_count" 3 [] S.s_is_count) {f : Addr} (cd : Value) (A : Around) (outer : List PySem.Env) (s : Shared) (H : Hp) (E : XK) (xp : Exc → Prop) (hr : Room 3 (dcx g N_s_is_prime "is_prime" (defScope (top 12)) f cd A outer s H E).A) : PSsD (dcx g N_s_is_prime "is_prime" (defScope (top 12)) f cd A outer s H E) g xp (defBody (top 12)) (W_s_is_prime S xp) := by
  have G : XG (dcx g N_s_is_prime "is_prime" (defScope (top 12)) f cd A outer s H E) g := XG.dcx
  have hN : N_s_is_prime.Nodup := sc_s_is_prime.nd
  have hp : PassesOwn (model g.prog g.w) (dcx g N_s_is_prime "is_prime" (defScope (top 12)) f cd A outer s H E).A (dcx g N_s_is_prime "is_prime" (defScope (top 12)) f cd A outer s H E).env (dcx g N_s_is_prime "is_prime" (defScope (top 12)) f cd A outer s H E).xe := passes_of rfl
  exact (pssd_cons (psd_if (pdt_not (pdt_tru G (pd_call G c_is_count (hr.mono (by decide)) (pda_cons (pd_var 0) (pda_cons pd_int (pda_cons (pd_glob fx.PRIME_MOST) pda_nil)))))) (pssd_one (psd_ret pd_bl)) pssd_nil) (pssd_one (psd_ret (pd_blt G (cd_all G) fx.all (pda_cons (pd_ofL (pdf_comp (own0 := [("part", 1)]) hN (pid_r2 G pd_int (pd_var 0) fx.range) (by kernel_rfl) (fun s H C cl fp => (pgd_name 1 hN)) (fun s H C cl fp => pdts_nil) (fun s H C cl fp => (pd_cmp (od_ne (XG.blk G) (rmu hr)) (pd_op (od_mod) (pd_var 0) (pd_var 1)) pd_int)))) pda_nil)))))

def N_s_raised : List Str := ["a", "e", "found"]
theorem sc_s_raised : FnScope N_s_raised ["a", "e"] (defScope (top 13)) := ⟨rfl, rfl, rfl, by decide +kernel, rfl, by decide +kernel, by decide +kernel⟩
def W_s_raised (S : Sps) (xp : Exc → Prop) : WS := (wSeq (wSet 2 (wC (.int 1))) (wSeq (wWhile (wB (wBin kGt (wVar 1) (wC (.int 0)))) (wSeq (wIfS (wB (wBin kEq (wBin kMod (wVar 1) (wC (.int 2))) (wC (.int 1)))) (wAug 2 kMulI (wVar 0)) wNext) (wSeq (wAug 1 kDiv (wC (.int 2))) (wIfS (wB (wBin kGt (wVar 1) (wC (.int 0)))) (wAug 0 kMulI (wVar 0)) wNext)))) (wRet (wVar 2))))
theorem bd_s_raised {g : Gx} (S : Sps) (fx : Fx g)  {f : Addr} (cd : Value) (A : Around) (outer : List PySem.Env) (s : Shared) (H : Hp) (E : XK) (xp : Exc → Prop) (hr : Room 1 (dcx g N_s_raised "raised" (defScope (top 13)) f cd A outer s H E).A) : PSsD (dcx g N_s_raised "raised" (defScope (top 13)) f cd A outer s H E) g xp (defBody (top 13)) (W_s_raised S xp) := by
  have G : XG (dcx g N_s_raised "raised" (defScope (top 13)) f cd A outer s H E) g := XG.dcx
  have hN : N_s_raised.Nodup := sc_s_raised.nd
  have hp : PassesOwn (model g.prog g.w) (dcx g N_s_raised "raised" (defScope (top 13)) f cd A outer s H E).A (dcx g N_s_raised "raised" (defScope (top 13)) f cd A outer s H E).env (dcx g N_s_raised "raised" (defScope (top 13)) f cd A outer s H E).xe := passes_of rfl
  exact (pssd_cons (psd_set 2 hN pd_int) (pssd_cons (psd_while hp (pdt_cmp (od_gt) (pd_var 1) pd_int) (pssd_cons (psd_if (pdt_cmp (od_eq G (rmu hr)) (pd_op (od_mod) (pd_var 1) pd_int) pd_int) (pssd_one (psd_aug 2 hN (id_mul) (pd_var 0))) pssd_nil) (pssd_cons (psd_aug 1 hN (id_div) pd_int) (pssd_one (psd_if (pdt_cmp (od_gt) (pd_var 1) pd_int) (pssd_one (psd_aug 0 hN (id_mul) (pd_var 0))) pssd_nil))))) (pssd_one (psd_ret (pd_var 2)))))

def N_s_primes_of : List Str := ["n", "found", "prime", "count"]
theorem sc_s_primes_of : FnScope N_s_primes_of ["n"] (defScope (top 14)) := ⟨rfl, rfl, rfl, by decide +kernel, rfl, by decide +kernel, by decide +kernel⟩
def W_s_primes_of (S : Sps) (xp : Exc → Prop) : WS := (wSeq (wSetL 1 (lDisp wNil)) (wSeq (wSet 2 (wC (.int 2))) (wSeq (wWhile (wB (wBin kLe (wBin kMul (wVar 2) (wVar 2)) (wVar 0))) (wSeq (wSet 3 (wC (.int 0))) (wSeq (wWhile (wB (wBin kEq (wBin kMod (wVar 0) (wVar 2)) (wC (.int 0)))) (wSeq (wAug 0 kDiv (wVar 2)) (wAug 3 kAddI (wC (.int 1))))) (wSeq (wIfS (wB (wBin kGt (wVar 3) (wC (.int 0)))) (wApp 1 (wTup (wCons (wVar 2) (wCons (wVar 3) wNil)))) wNext) (wAug 2 kAddI (wIf (wB (wBin kEq (wVar 2) (wC (.int 2)))) (wC (.int 1)) (wC (.int 2)))))))) (wSeq (wIfS (wB (wBin kGt (wVar 0) (wC (.int 1)))) (wApp 1 (wTup (wCons (wVar 0) (wCons (wC (.int 1)) wNil)))) wNext) (wFrz 1 (wRet (wVar 1)))))))
theorem bd_s_primes_of {g : Gx} (S : Sps) (fx : Fx g)  {f : Addr} (cd : Value) (A : Around) (outer : List PySem.Env) (s : Shared) (H : Hp) (E : XK) (xp : Exc → Prop) (hr : Room 1 (dcx g N_s_primes_of "primes_of" (defScope (top 14)) f cd A outer s H E).A) : PSsD (dcx g N_s_primes_of "primes_of" (defScope (top 14)) f cd A outer s H E) g xp (defBody (top 14)) (W_s_primes_of S xp) := by
  have G : XG (dcx g N_s_primes_of "primes_of" (defScope (top 14)) f cd A outer s H E) g := XG.dcx
  have hN : N_s_primes_of.Nodup := sc_s_primes_of.nd
  have hp : PassesOwn (model g.prog g.w) (dcx g N_s_primes_of "primes_of" (defScope (top 14)) f cd A outer s H E).A (dcx g N_s_primes_of "primes_of" (defScope (top 14)) f cd A outer s H E).env (dcx g N_s_primes_of "primes_of" (defScope (top 14)) f cd A outer s H E).xe := passes_of rfl
  exact (pssd_cons (psd_setL 1 hN (pdf_disp pda_nil)) (pssd_cons (psd_set 2 hN pd_int) (pssd_cons (psd_while hp (pdt_cmp (od_le) (pd_op (od_mul G) (pd_var 2) (pd_var 2)) (pd_var 0)) (pssd_cons (psd_set 3 hN pd_int) (pssd_cons (psd_while hp (pdt_cmp (od_eq G (rmu hr)) (pd_op (od_mod) (pd_var 0) (pd_var 2)) pd_int) (pssd_cons (psd_aug 0 hN (id_div) (pd_var 2)) (pssd_one (psd_aug 3 hN (id_add) pd_int)))) (pssd_cons (psd_if (pdt_cmp (od_gt) (pd_var 3) pd_int) (pssd_one (psd_app 1 (pd_tup (pda_cons (pd_var 2) (pda_cons (pd_var 3) pda_nil))))) pssd_nil) (pssd_one (psd_aug 2 hN (id_add) (pd_if (pdt_cmp (od_eq G (rmu hr)) (pd_var 2) pd_int) pd_int pd_int))))))) (pssd_cons (psd_if (pdt_cmp (od_gt) (pd_var 0) pd_int) (pssd_one (psd_app 1 (pd_tup (pda_cons (pd_var 0) (pda_cons pd_int pda_nil))))) pssd_nil) (pssd_one (psd_frz 1 (psd_ret (pd_var 1))))))))

def N_s_divisors : List Str := ["n", "found", "prime", "count", "part", "number"]
theorem sc_s_divisors : FnScope N_s_divisors ["n"] (defScope (top 15)) := ⟨rfl, rfl, rfl, by decide +kernel, rfl, by decide +kernel, by decide +kernel⟩
def W_s_divisors (S : Sps) (xp : Exc → Prop) : WS := (wSeq (wSet 1 (wLst (wCons (wC (.int 1)) wNil))) (wSeq (wFor (iSeq (wCall S.s_primes_of [] xp (wCons (wVar 0) wNil))) (gdTup 2 (gdCons (gdName 2) (gdCons (gdName 3) gdNil))) (wSet 1 (wOfL (lComp2 (iSeq (wVar 1)) (gdName 4) wYes (iR1 (wBin kAdd (wVar 3) (wC (.int 1)))) [5] (gdName 5) wYes (wBin kMul (wVar 4) (wCall S.s_raised [] (fun _ => False) (wCons (wVar 2) (wCons (wVar 5) wNil)))) [4, 5])))) (wRet (wBlt cSortX (wCons (wVar 1) wNil)))))
theorem bd_s_divisors {g : Gx} (S : Sps) (fx : Fx g) (c_primes_of : FnG g 2 "primes_of" 1 [] S.s_primes_of) (c_raised : FnG g 2 "raised" 2 [] S.s_raised) {f : Addr} (cd : Value) (A : Around) (outer : List PySem.Env) (s : Shared) (H : Hp) (E : XK) (xp : Exc → Prop) (hr : Room 2 (dcx g N_s_divisors "divisors" (defScope (top 15)) f cd A outer s H E).A) : PSsD (dcx g N_s_divisors "divisors" (defScope (top 15)) f cd A outer s H E) g xp (defBody (top 15)) (W_s_divisors S xp) := by
  have G : XG (dcx g N_s_divisors "divisors" (defScope (top 15)) f cd A outer s H E) g := XG.dcx
  have hN : N_s_divisors.Nodup := sc_s_divisors.nd
  have hp : PassesOwn (model g.prog g.w) (dcx g N_s_divisors "divisors" (defScope (top 15)) f cd A outer s H E).A (dcx g N_s_divisors "divisors" (defScope (top 15)) f cd A outer s H E).env (dcx g N_s_divisors "divisors" (defScope (top 15)) f cd A outer s H E).xe := passes_of rfl
  exact (pssd_cons (psd_set 1 hN (pd_lst (pda_cons pd_int pda_nil))) (pssd_cons (psd_for hp (pid_seq G (pd_call G c_primes_of (hr.mono (by decide)) (pda_cons (pd_var 0) pda_nil))) (pgd_tup G (pgsd_cons (pgd_name 2 hN) (pgsd_cons (pgd_name 3 hN) pgsd_nil))) (pssd_one (psd_setLc2 1 (own0 := [("part", 4), ("number", 5)]) (vs1 := [5]) hN (pid_seq G (pd_var 1)) (by kernel_rfl) (fun s H C cl fp => (pgd_name 4 hN)) (fun s H C cl fp => pdts_nil) (fun s H C cl fp => (pid_r1 (XG.blk G) (pd_op (od_add (XG.blk G)) (pd_var 3) pd_int) fx.range)) (fun s H C cl fp => (pgd_name 5 hN)) (fun s H C cl fp => pdts_nil) (fun s H C cl fp => (pd_op (od_mul (XG.blk G)) (pd_var 4) (pd_call (XG.blk G) c_raised (hr.mono (by decide)) (pda_cons (pd_var 2) (pda_cons (pd_var 5) pda_nil)))))))) (pssd_one (psd_ret (pd_blt G (cd_sortX G) fx.sorted (pda_cons (pd_var 1) pda_nil))))))

def N_s_inverse : List Str := ["p", "a", "found", "e"]
theorem sc_s_inverse : FnScope N_s_inverse ["p", "a"] (defScope (top 16)) := ⟨rfl, rfl, rfl, by decide +kernel, rfl, by decide +kernel, by decide +kernel⟩
def W_s_inverse (S : Sps) (xp : Exc → Prop) : WS := (wSeq (wIfS (wB (wBin kEq (wVar 1) (wC (.int 0)))) wDead wNext) (wSeq (wPar 2 3 (wC (.int 1)) (wBin kSub (wVar 0) (wC (.int 2)))) (wSeq (wWhile (wB (wBin kGt (wVar 3) (wC (.int 0)))) (wSeq (wIfS (wB (wBin kEq (wBin kMod (wVar 3) (wC (.int 2))) (wC (.int 1)))) (wSet 2 (wBin kMod (wBin kMul (wVar 2) (wVar 1)) (wVar 0))) wNext) (wSeq (wSet 1 (wBin kMod (wBin kMul (wVar 1) (wVar 1)) (wVar 0))) (wAug 3 kDiv (wC (.int 2)))))) (wRet (wVar 2)))))
theorem bd_s_inverse {g : Gx} (S : Sps) (fx : Fx g)  {f : Addr} (cd : Value) (A : Around) (outer : List PySem.Env) (s : Shared) (H : Hp) (E : XK) (xp : Exc → Prop) (hr : Room 1 (dcx g N_s_inverse "inverse" (defScope (top 16)) f cd A outer s H E).A) : PSsD (dcx g N_s_inverse "inverse" (defScope (top 16)) f cd A outer s H E) g xp (defBody (top 16)) (W_s_inverse S xp) := by
  have G : XG (dcx g N_s_inverse "inverse" (defScope (top 16)) f cd A outer s H E) g := XG.dcx
  have hN : N_s_inverse.Nodup := sc_s_inverse.nd
  have hp : PassesOwn (model g.prog g.w) (dcx g N_s_inverse "inverse" (defScope (top 16)) f cd A outer s H E).A (dcx g N_s_inverse "inverse" (defScope (top 16)) f cd A outer s H E).env (dcx g N_s_inverse "inverse" (defScope (top 16)) f cd A outer s H E).xe := passes_of rfl
  exact (pssd_cons (psd_if (pdt_cmp (od_eq G (rmu hr)) (pd_var 1) pd_int) (pssd_one psd_dead) pssd_nil) (pssd_cons (psd_par 2 3 hN pd_int (pd_op (od_sub) (pd_var 0) pd_int)) (pssd_cons (psd_while hp (pdt_cmp (od_gt) (pd_var 3) pd_int) (pssd_cons (psd_if (pdt_cmp (od_eq G (rmu hr)) (pd_op (od_mod) (pd_var 3) pd_int) pd_int) (pssd_one (psd_set 2 hN (pd_op (od_mod) (pd_op (od_mul G) (pd_var 2) (pd_var 1)) (pd_var 0)))) pssd_nil) (pssd_cons (psd_set 1 hN (pd_op (od_mod) (pd_op (od_mul G) (pd_var 1) (pd_var 1)) (pd_var 0))) (pssd_one (psd_aug 3 hN (id_div) pd_int))))) (pssd_one (psd_ret (pd_var 2))))))

def N_s_root : List Str := ["p", "a", "x"]
theorem sc_s_root : FnScope N_s_root ["p", "a"] (defScope (top 17)) := ⟨rfl, rfl, rfl, by decide +kernel, rfl, by decide +kernel, by decide +kernel⟩
def W_s_root (S : Sps) (xp : Exc → Prop) : WS := (wSeq (wFor (iR1 (wVar 0)) (gdName 2) (wIfS (wB (wBin kEq (wBin kMod (wBin kMul (wVar 2) (wVar 2)) (wVar 0)) (wVar 1))) (wRet (wVar 2)) wNext)) (wRet (wC .non)))
theorem bd_s_root {g : Gx} (S : Sps) (fx : Fx g)  {f : Addr} (cd : Value) (A : Around) (outer : List PySem.Env) (s : Shared) (H : Hp) (E : XK) (xp : Exc → Prop) (hr : Room 1 (dcx g N_s_root "root" (defScope (top 17)) f cd A outer s H E).A) : PSsD (dcx g N_s_root "root" (defScope (top 17)) f cd A outer s H E) g xp (defBody (top 17)) (W_s_root S xp) := by
  have G : XG (dcx g N_s_root "root" (defScope (top 17)) f cd A outer s H E) g := XG.dcx
  have hN : N_s_root.Nodup := sc_s_root.nd
  have hp : PassesOwn (model g.prog g.w) (dcx g N_s_root "root" (defScope (top 17)) f cd A outer s H E).A (dcx g N_s_root "root" (defScope (top 17)) f cd A outer s H E).env (dcx g N_s_root "root" (defScope (top 17)) f cd A outer s H E).xe := passes_of rfl
  exact (pssd_cons (psd_for hp (pid_r1 G (pd_var 0) fx.range) (pgd_name 2 hN) (pssd_one (psd_if (pdt_cmp (od_eq G (rmu hr)) (pd_op (od_mod) (pd_op (od_mul G) (pd_var 2) (pd_var 2)) (pd_var 0)) (pd_var 1)) (pssd_one (psd_ret (pd_var 2))) pssd_nil))) (pssd_one (psd_ret pd_non)))

def N_s_is_polynomial : List Str := ["p", "value", "item"]
theorem sc_s_is_polynomial : FnScope N_s_is_polynomial ["p", "value"] (defScope (top 20)) := ⟨rfl, rfl, rfl, by decide +kernel, rfl, by decide +kernel, by decide +kernel⟩
def W_s_is_polynomial (S : Sps) (xp : Exc → Prop) : WS := (wSeq (wIfS (wOr (wNot (wTru (wBlt cIsi (wCons (wVar 1) (wCons (wC (.ty "tuple")) wNil))))) (wNot (wTru (wBlt cAll (wCons (wOfL (lComp (iSeq (wVar 1)) (gdName 2) wYes (wCall S.s_is_count [] (fun _ => False) (wCons (wVar 2) (wCons (wC (.int 0)) (wCons (wBin kSub (wVar 0) (wC (.int 1))) wNil)))) [2])) wNil))))) (wRet (wC (.bl false))) wNext) (wRet (wOrV (wNotV (wVar 1)) (wBin kNe (wBin kIx (wVar 1) (wUn kNeg (wC (.int 1)))) (wC (.int 0))))))
theorem bd_s_is_polynomial {g : Gx} (S : Sps) (fx : Fx g) (c_is_count : FnG g 3 "is_count" 3 [] S.s_is_count) {f : Addr} (cd : Value) (A : Around) (outer : List PySem.Env) (s : Shared) (H : Hp) (E : XK) (xp : Exc → Prop) (hr : Room 3 (dcx g N_s_is_polynomial "is_polynomial" (defScope (top 20)) f cd A outer s H E).A) : PSsD (dcx g N_s_is_polynomial "is_polynomial" (defScope (top 20)) f cd A outer s H E) g xp (defBody (top 20)) (W_s_is_polynomial S xp) := by
  have G : XG (dcx g N_s_is_polynomial "is_polynomial" (defScope (top 20)) f cd A outer s H E) g := XG.dcx
  have hN : N_s_is_polynomial.Nodup := sc_s_is_polynomial.nd
  have hp : PassesOwn (model g.prog g.w) (dcx g N_s_is_polynomial "is_polynomial" (defScope (top 20)) f cd A outer s H E).A (dcx g N_s_is_polynomial "is_polynomial" (defScope (top 20)) f cd A outer s H E).env (dcx g N_s_is_polynomial "is_polynomial" (defScope (top 20)) f cd A outer s H E).xe := passes_of rfl
  exact (pssd_cons (psd_if (pdt_w (pdw_or (pdt_not (pdt_tru G (pd_blt G (cd_isi G) fx.isinstance (pda_cons (pd_var 1) (pda_cons (pd_ty G fx.tuple) pda_nil))))) (pdw_or1 (pdt_not (pdt_tru G (pd_blt G (cd_all G) fx.all (pda_cons (pd_ofL (pdf_comp (own0 := [("item", 2)]) hN (pid_seq G (pd_var 1)) (by kernel_rfl) (fun s H C cl fp => (pgd_name 2 hN)) (fun s H C cl fp => pdts_nil) (fun s H C cl fp => (pd_call (XG.blk G) c_is_count (hr.mono (by decide)) (pda_cons (pd_var 2) (pda_cons pd_int (pda_cons (pd_op (od_sub) (pd_var 0) pd_int) pda_nil))))))) pda_nil))))))) (pssd_one (psd_ret pd_bl)) pssd_nil) (pssd_one (psd_ret (pd_or G (pd_not G (pd_var 1)) (pd_one (pd_cmp (od_ne G (rmu hr)) (pd_ix G (pd_var 1) (pd_neg pd_int)) pd_int))))))

def N_s_trimmed : List Str := ["p", "items", "found", "item"]
theorem sc_s_trimmed : FnScope N_s_trimmed ["p", "items"] (defScope (top 21)) := ⟨rfl, rfl, rfl, by decide +kernel, rfl, by decide +kernel, by decide +kernel⟩
def W_s_trimmed (S : Sps) (xp : Exc → Prop) : WS := (wSeq (wSetL 2 (lComp (iSeq (wVar 1)) (gdName 3) wYes (wBin kMod (wVar 3) (wVar 0)) [3])) (wSeq (wWhile (wBorT 2 (wAnd (wTru (wVar 2)) (wB (wBin kEq (wBin kIx (wVar 2) (wUn kNeg (wC (.int 1)))) (wC (.int 0)))))) (wPop 2)) (wRet (wBor 2 (wBlt cTuple (wCons (wVar 2) wNil))))))
theorem bd_s_trimmed {g : Gx} (S : Sps) (fx : Fx g)  {f : Addr} (cd : Value) (A : Around) (outer : List PySem.Env) (s : Shared) (H : Hp) (E : XK) (xp : Exc → Prop) (hr : Room 1 (dcx g N_s_trimmed "trimmed" (defScope (top 21)) f cd A outer s H E).A) : PSsD (dcx g N_s_trimmed "trimmed" (defScope (top 21)) f cd A outer s H E) g xp (defBody (top 21)) (W_s_trimmed S xp) := by
  have G : XG (dcx g N_s_trimmed "trimmed" (defScope (top 21)) f cd A outer s H E) g := XG.dcx
  have hN : N_s_trimmed.Nodup := sc_s_trimmed.nd
  have hp : PassesOwn (model g.prog g.w) (dcx g N_s_trimmed "trimmed" (defScope (top 21)) f cd A outer s H E).A (dcx g N_s_trimmed "trimmed" (defScope (top 21)) f cd A outer s H E).env (dcx g N_s_trimmed "trimmed" (defScope (top 21)) f cd A outer s H E).xe := passes_of rfl
  exact (pssd_cons (psd_setLcL 2 (own0 := [("item", 3)]) hN (pid_seq G (pd_var 1)) (by kernel_rfl) (fun s H C cl fp => (pgd_name 3 hN)) (fun s H C cl fp => pdts_nil) (fun s H C cl fp => (pd_op (od_mod) (pd_var 3) (pd_var 0)))) (pssd_cons (psd_while hp (pdt_bor 2 (pdt_w (pdw_and (pdt_tru G (pd_var 2)) (pdw_and1 (pdt_cmp (od_eq G (rmu hr)) (pd_ix G (pd_var 2) (pd_neg pd_int)) pd_int))))) (pssd_one (psd_pop 2))) (pssd_one (psd_ret (pd_bor 2 (pd_bty G (cd_tuple G) fx.tuple (pda_cons (pd_var 2) pda_nil)))))))

def N_s_degree : List Str := ["a"]
theorem sc_s_degree : FnScope N_s_degree ["a"] (defScope (top 22)) := ⟨rfl, rfl, rfl, by decide +kernel, rfl, by decide +kernel, by decide +kernel⟩
def W_s_degree (S : Sps) (xp : Exc → Prop) : WS := (wRet (wBin kSub (wBlt cLen (wCons (wVar 0) wNil)) (wC (.int 1))))
theorem bd_s_degree {g : Gx} (S : Sps) (fx : Fx g)  {f : Addr} (cd : Value) (A : Around) (outer : List PySem.Env) (s : Shared) (H : Hp) (E : XK) (xp : Exc → Prop) (hr : Room 1 (dcx g N_s_degree "degree" (defScope (top 22)) f cd A outer s H E).A) : PSsD (dcx g N_s_degree "degree" (defScope (top 22)) f cd A outer s H E) g xp (defBody (top 22)) (W_s_degree S xp) := by
  have G : XG (dcx g N_s_degree "degree" (defScope (top 22)) f cd A outer s H E) g := XG.dcx
  have hN : N_s_degree.Nodup := sc_s_degree.nd
  have hp : PassesOwn (model g.prog g.w) (dcx g N_s_degree "degree" (defScope (top 22)) f cd A outer s H E).A (dcx g N_s_degree "degree" (defScope (top 22)) f cd A outer s H E).env (dcx g N_s_degree "degree" (defScope (top 22)) f cd A outer s H E).xe := passes_of rfl
  exact (pssd_one (psd_ret (pd_op (od_sub) (pd_blt G (cd_len G) fx.len (pda_cons (pd_var 0) pda_nil)) pd_int)))

def N_s_index : List Str := ["p", "a", "found", "item"]
theorem sc_s_index : FnScope N_s_index ["p", "a"] (defScope (top 23)) := ⟨rfl, rfl, rfl, by decide +kernel, rfl, by decide +kernel, by decide +kernel⟩
def W_s_index (S : Sps) (xp : Exc → Prop) : WS := (wSeq (wSet 2 (wC (.int 0))) (wSeq (wFor (iSeq (wSlice3 (wVar 1) wON wON (wOS (wUn kNeg (wC (.int 1)))))) (gdName 3) (wSet 2 (wBin kAdd (wBin kMul (wVar 2) (wVar 0)) (wVar 3)))) (wRet (wVar 2))))
theorem bd_s_index {g : Gx} (S : Sps) (fx : Fx g)  {f : Addr} (cd : Value) (A : Around) (outer : List PySem.Env) (s : Shared) (H : Hp) (E : XK) (xp : Exc → Prop) (hr : Room 1 (dcx g N_s_index "index" (defScope (top 23)) f cd A outer s H E).A) : PSsD (dcx g N_s_index "index" (defScope (top 23)) f cd A outer s H E) g xp (defBody (top 23)) (W_s_index S xp) := by
  have G : XG (dcx g N_s_index "index" (defScope (top 23)) f cd A outer s H E) g := XG.dcx
  have hN : N_s_index.Nodup := sc_s_index.nd
  have hp : PassesOwn (model g.prog g.w) (dcx g N_s_index "index" (defScope (top 23)) f cd A outer s H E).A (dcx g N_s_index "index" (defScope (top 23)) f cd A outer s H E).env (dcx g N_s_index "index" (defScope (top 23)) f cd A outer s H E).xe := passes_of rfl
  exact (pssd_cons (psd_set 2 hN pd_int) (pssd_cons (psd_for hp (pid_seq G (pd_slice3 G true (fun _ _ => rfl) (pd_var 1) pdo_none pdo_none (pdo_some (pd_neg pd_int)))) (pgd_name 3 hN) (pssd_one (psd_set 2 hN (pd_op (od_add G) (pd_op (od_mul G) (pd_var 2) (pd_var 0)) (pd_var 3))))) (pssd_one (psd_ret (pd_var 2)))))

def N_s_of_index : List Str := ["p", "n", "found"]
theorem sc_s_of_index : FnScope N_s_of_index ["p", "n"] (defScope (top 24)) := ⟨rfl, rfl, rfl, by decide +kernel, rfl, by decide +kernel, by decide +kernel⟩
def W_s_of_index (S : Sps) (xp : Exc → Prop) : WS := (wSeq (wSetL 2 (lDisp wNil)) (wSeq (wWhile (wB (wBin kGt (wVar 1) (wC (.int 0)))) (wSeq (wApp 2 (wBin kMod (wVar 1) (wVar 0))) (wAug 1 kDiv (wVar 0)))) (wRet (wBor 2 (wBlt cTuple (wCons (wVar 2) wNil))))))
theorem bd_s_of_index {g : Gx} (S : Sps) (fx : Fx g)  {f : Addr} (cd : Value) (A : Around) (outer : List PySem.Env) (s : Shared) (H : Hp) (E : XK) (xp : Exc → Prop) (hr : Room 1 (dcx g N_s_of_index "of_index" (defScope (top 24)) f cd A outer s H E).A) : PSsD (dcx g N_s_of_index "of_index" (defScope (top 24)) f cd A outer s H E) g xp (defBody (top 24)) (W_s_of_index S xp) := by
  have G : XG (dcx g N_s_of_index "of_index" (defScope (top 24)) f cd A outer s H E) g := XG.dcx
  have hN : N_s_of_index.Nodup := sc_s_of_index.nd
  have hp : PassesOwn (model g.prog g.w) (dcx g N_s_of_index "of_index" (defScope (top 24)) f cd A outer s H E).A (dcx g N_s_of_index "of_index" (defScope (top 24)) f cd A outer s H E).env (dcx g N_s_of_index "of_index" (defScope (top 24)) f cd A outer s H E).xe := passes_of rfl
  exact (pssd_cons (psd_setL 2 hN (pdf_disp pda_nil)) (pssd_cons (psd_while hp (pdt_cmp (od_gt) (pd_var 1) pd_int) (pssd_cons (psd_app 2 (pd_op (od_mod) (pd_var 1) (pd_var 0))) (pssd_one (psd_aug 1 hN (id_div) (pd_var 0))))) (pssd_one (psd_ret (pd_bor 2 (pd_bty G (cd_tuple G) fx.tuple (pda_cons (pd_var 2) pda_nil)))))))

def N_s_scaled : List Str := ["p", "a", "x", "item"]
theorem sc_s_scaled : FnScope N_s_scaled ["p", "a", "x"] (defScope (top 25)) := ⟨rfl, rfl, rfl, by decide +kernel, rfl, by decide +kernel, by decide +kernel⟩
def W_s_scaled (S : Sps) (xp : Exc → Prop) : WS := (wRet (wCall S.s_trimmed [] xp (wCons (wVar 0) (wCons (wOfL (lComp (iSeq (wVar 1)) (gdName 3) wYes (wBin kMul (wVar 3) (wVar 2)) [3])) wNil))))
theorem bd_s_scaled {g : Gx} (S : Sps) (fx : Fx g) (c_trimmed : FnG g 2 "trimmed" 2 [] S.s_trimmed) {f : Addr} (cd : Value) (A : Around) (outer : List PySem.Env) (s : Shared) (H : Hp) (E : XK) (xp : Exc → Prop) (hr : Room 2 (dcx g N_s_scaled "scaled" (defScope (top 25)) f cd A outer s H E).A) : PSsD (dcx g N_s_scaled "scaled" (defScope (top 25)) f cd A outer s H E) g xp (defBody (top 25)) (W_s_scaled S xp) := by
  have G : XG (dcx g N_s_scaled "scaled" (defScope (top 25)) f cd A outer s H E) g := XG.dcx
  have hN : N_s_scaled.Nodup := sc_s_scaled.nd
  have hp : PassesOwn (model g.prog g.w) (dcx g N_s_scaled "scaled" (defScope (top 25)) f cd A outer s H E).A (dcx g N_s_scaled "scaled" (defScope (top 25)) f cd A outer s H E).env (dcx g N_s_scaled "scaled" (defScope (top 25)) f cd A outer s H E).xe := passes_of rfl
  exact (pssd_one (psd_ret (pd_call G c_trimmed (hr.mono (by decide)) (pda_cons (pd_var 0) (pda_cons (pd_ofL (pdf_comp (own0 := [("item", 3)]) hN (pid_seq G (pd_var 1)) (by kernel_rfl) (fun s H C cl fp => (pgd_name 3 hN)) (fun s H C cl fp => pdts_nil) (fun s H C cl fp => (pd_op (od_mul (XG.blk G)) (pd_var 3) (pd_var 2))))) pda_nil)))))

def N_s_monic : List Str := ["p", "a"]
theorem sc_s_monic : FnScope N_s_monic ["p", "a"] (defScope (top 26)) := ⟨rfl, rfl, rfl, by decide +kernel, rfl, by decide +kernel, by decide +kernel⟩
def W_s_monic (S : Sps) (xp : Exc → Prop) : WS := (wRet (wIf (wTru (wVar 1)) (wCall S.s_scaled [] xp (wCons (wVar 0) (wCons (wVar 1) (wCons (wCall S.s_inverse [] xp (wCons (wVar 0) (wCons (wBin kIx (wVar 1) (wUn kNeg (wC (.int 1)))) wNil))) wNil)))) (wTup wNil)))
theorem bd_s_monic {g : Gx} (S : Sps) (fx : Fx g) (c_inverse : FnG g 2 "inverse" 2 [] S.s_inverse) (c_scaled : FnG g 3 "scaled" 3 [] S.s_scaled) {f : Addr} (cd : Value) (A : Around) (outer : List PySem.Env) (s : Shared) (H : Hp) (E : XK) (xp : Exc → Prop) (hr : Room 3 (dcx g N_s_monic "monic" (defScope (top 26)) f cd A outer s H E).A) : PSsD (dcx g N_s_monic "monic" (defScope (top 26)) f cd A outer s H E) g xp (defBody (top 26)) (W_s_monic S xp) := by
  have G : XG (dcx g N_s_monic "monic" (defScope (top 26)) f cd A outer s H E) g := XG.dcx
  have hN : N_s_monic.Nodup := sc_s_monic.nd
  have hp : PassesOwn (model g.prog g.w) (dcx g N_s_monic "monic" (defScope (top 26)) f cd A outer s H E).A (dcx g N_s_monic "monic" (defScope (top 26)) f cd A outer s H E).env (dcx g N_s_monic "monic" (defScope (top 26)) f cd A outer s H E).xe := passes_of rfl
  exact (pssd_one (psd_ret (pd_if (pdt_tru G (pd_var 1)) (pd_call G c_scaled (hr.mono (by decide)) (pda_cons (pd_var 0) (pda_cons (pd_var 1) (pda_cons (pd_call G c_inverse (hr.mono (by decide)) (pda_cons (pd_var 0) (pda_cons (pd_ix G (pd_var 1) (pd_neg pd_int)) pda_nil))) pda_nil)))) (pd_tup pda_nil))))

def N_s_combined : List Str := ["p", "a", "b", "x", "length", "left", "right", "one", "two"]
theorem sc_s_combined : FnScope N_s_combined ["p", "a", "b", "x"] (defScope (top 27)) := ⟨rfl, rfl, rfl, by decide +kernel, rfl, by decide +kernel, by decide +kernel⟩
def W_s_combined (S : Sps) (xp : Exc → Prop) : WS := (wSeq (wSet 4 (wBlt cMax (wCons (wBlt cLen (wCons (wVar 1) wNil)) (wCons (wBlt cLen (wCons (wVar 2) wNil)) wNil)))) (wSeq (wSet 5 (wBin kAdd (wVar 1) (wBin kMul (wTup (wCons (wC (.int 0)) wNil)) (wBin kSub (wVar 4) (wBlt cLen (wCons (wVar 1) wNil)))))) (wSeq (wSet 6 (wBin kAdd (wVar 2) (wBin kMul (wTup (wCons (wC (.int 0)) wNil)) (wBin kSub (wVar 4) (wBlt cLen (wCons (wVar 2) wNil)))))) (wRet (wCall S.s_trimmed [] xp (wCons (wVar 0) (wCons (wOfL (lComp (iZpD (wVar 5) (wVar 6)) (gdTup 2 (gdCons (gdName 7) (gdCons (gdName 8) gdNil))) wYes (wBin kAdd (wVar 7) (wBin kMul (wVar 3) (wVar 8))) [7, 8])) wNil)))))))
theorem bd_s_combined {g : Gx} (S : Sps) (fx : Fx g) (c_trimmed : FnG g 2 "trimmed" 2 [] S.s_trimmed) {f : Addr} (cd : Value) (A : Around) (outer : List PySem.Env) (s : Shared) (H : Hp) (E : XK) (xp : Exc → Prop) (hr : Room 2 (dcx g N_s_combined "combined" (defScope (top 27)) f cd A outer s H E).A) : PSsD (dcx g N_s_combined "combined" (defScope (top 27)) f cd A outer s H E) g xp (defBody (top 27)) (W_s_combined S xp) := by
  have G : XG (dcx g N_s_combined "combined" (defScope (top 27)) f cd A outer s H E) g := XG.dcx
  have hN : N_s_combined.Nodup := sc_s_combined.nd
  have hp : PassesOwn (model g.prog g.w) (dcx g N_s_combined "combined" (defScope (top 27)) f cd A outer s H E).A (dcx g N_s_combined "combined" (defScope (top 27)) f cd A outer s H E).env (dcx g N_s_combined "combined" (defScope (top 27)) f cd A outer s H E).xe := passes_of rfl
  exact (pssd_cons (psd_set 4 hN (pd_blt G (cd_max) fx.max (pda_cons (pd_blt G (cd_len G) fx.len (pda_cons (pd_var 1) pda_nil)) (pda_cons (pd_blt G (cd_len G) fx.len (pda_cons (pd_var 2) pda_nil)) pda_nil)))) (pssd_cons (psd_set 5 hN (pd_op (od_add G) (pd_var 1) (pd_op (od_mul G) (pd_tup (pda_cons pd_int pda_nil)) (pd_op (od_sub) (pd_var 4) (pd_blt G (cd_len G) fx.len (pda_cons (pd_var 1) pda_nil)))))) (pssd_cons (psd_set 6 hN (pd_op (od_add G) (pd_var 2) (pd_op (od_mul G) (pd_tup (pda_cons pd_int pda_nil)) (pd_op (od_sub) (pd_var 4) (pd_blt G (cd_len G) fx.len (pda_cons (pd_var 2) pda_nil)))))) (pssd_one (psd_ret (pd_call G c_trimmed (hr.mono (by decide)) (pda_cons (pd_var 0) (pda_cons (pd_ofL (pdf_comp (own0 := [("one", 7), ("two", 8)]) hN (pid_zp G (pd_var 5) (pd_var 6) fx.zip) (by kernel_rfl) (fun s H C cl fp => (pgd_tup (XG.blk G) (pgsd_cons (pgd_name 7 hN) (pgsd_cons (pgd_name 8 hN) pgsd_nil)))) (fun s H C cl fp => pdts_nil) (fun s H C cl fp => (pd_op (od_add (XG.blk G)) (pd_var 7) (pd_op (od_mul (XG.blk G)) (pd_var 3) (pd_var 8)))))) pda_nil))))))))

def N_s_sum_of : List Str := ["p", "a", "b"]
theorem sc_s_sum_of : FnScope N_s_sum_of ["p", "a", "b"] (defScope (top 28)) := ⟨rfl, rfl, rfl, by decide +kernel, rfl, by decide +kernel, by decide +kernel⟩
def W_s_sum_of (S : Sps) (xp : Exc → Prop) : WS := (wRet (wCall S.s_combined [] xp (wCons (wVar 0) (wCons (wVar 1) (wCons (wVar 2) (wCons (wC (.int 1)) wNil))))))
theorem bd_s_sum_of {g : Gx} (S : Sps) (fx : Fx g) (c_combined : FnG g 3 "combined" 4 [] S.s_combined) {f : Addr} (cd : Value) (A : Around) (outer : List PySem.Env) (s : Shared) (H : Hp) (E : XK) (xp : Exc → Prop) (hr : Room 3 (dcx g N_s_sum_of "sum_of" (defScope (top 28)) f cd A outer s H E).A) : PSsD (dcx g N_s_sum_of "sum_of" (defScope (top 28)) f cd A outer s H E) g xp (defBody (top 28)) (W_s_sum_of S xp) := by
  have G : XG (dcx g N_s_sum_of "sum_of" (defScope (top 28)) f cd A outer s H E) g := XG.dcx
  have hN : N_s_sum_of.Nodup := sc_s_sum_of.nd
  have hp : PassesOwn (model g.prog g.w) (dcx g N_s_sum_of "sum_of" (defScope (top 28)) f cd A outer s H E).A (dcx g N_s_sum_of "sum_of" (defScope (top 28)) f cd A outer s H E).env (dcx g N_s_sum_of "sum_of" (defScope (top 28)) f cd A outer s H E).xe := passes_of rfl
  exact (pssd_one (psd_ret (pd_call G c_combined (hr.mono (by decide)) (pda_cons (pd_var 0) (pda_cons (pd_var 1) (pda_cons (pd_var 2) (pda_cons pd_int pda_nil)))))))

def N_s_product : List Str := ["p", "a", "b", "found", "place", "item", "more", "other"]
theorem sc_s_product : FnScope N_s_product ["p", "a", "b"] (defScope (top 29)) := ⟨rfl, rfl, rfl, by decide +kernel, rfl, by decide +kernel, by decide +kernel⟩
def W_s_product (S : Sps) (xp : Exc → Prop) : WS := (wSeq (wIfS (wOr (wNot (wTru (wVar 1))) (wNot (wTru (wVar 2)))) (wRet (wTup wNil)) wNext) (wSeq (wSetL 3 (lRep (wLst (wCons (wC (.int 0)) wNil)) (wBin kSub (wBin kAdd (wBlt cLen (wCons (wVar 1) wNil)) (wBlt cLen (wCons (wVar 2) wNil))) (wC (.int 1))))) (wSeq (wFor (iEnD (wVar 1)) (gdTup 2 (gdCons (gdName 4) (gdCons (gdName 5) gdNil))) (wFor (iEnD (wVar 2)) (gdTup 2 (gdCons (gdName 6) (gdCons (gdName 7) gdNil))) (wAugI 3 kAddI (wBin kAdd (wVar 4) (wVar 6)) (wBin kMul (wVar 5) (wVar 7))))) (wRet (wBor 3 (wCall S.s_trimmed [] xp (wCons (wVar 0) (wCons (wVar 3) wNil))))))))
theorem bd_s_product {g : Gx} (S : Sps) (fx : Fx g) (c_trimmed : FnG g 2 "trimmed" 2 [] S.s_trimmed) {f : Addr} (cd : Value) (A : Around) (outer : List PySem.Env) (s : Shared) (H : Hp) (E : XK) (xp : Exc → Prop) (hr : Room 2 (dcx g N_s_product "product" (defScope (top 29)) f cd A outer s H E).A) : PSsD (dcx g N_s_product "product" (defScope (top 29)) f cd A outer s H E) g xp (defBody (top 29)) (W_s_product S xp) := by
  have G : XG (dcx g N_s_product "product" (defScope (top 29)) f cd A outer s H E) g := XG.dcx
  have hN : N_s_product.Nodup := sc_s_product.nd
  have hp : PassesOwn (model g.prog g.w) (dcx g N_s_product "product" (defScope (top 29)) f cd A outer s H E).A (dcx g N_s_product "product" (defScope (top 29)) f cd A outer s H E).env (dcx g N_s_product "product" (defScope (top 29)) f cd A outer s H E).xe := passes_of rfl
  exact (pssd_cons (psd_if (pdt_w (pdw_or (pdt_not (pdt_tru G (pd_var 1))) (pdw_or1 (pdt_not (pdt_tru G (pd_var 2)))))) (pssd_one (psd_ret (pd_tup pda_nil))) pssd_nil) (pssd_cons (psd_setL 3 hN (pdf_rep (pd_lst (pda_cons pd_int pda_nil)) (pd_op (od_sub) (pd_op (od_add G) (pd_blt G (cd_len G) fx.len (pda_cons (pd_var 1) pda_nil)) (pd_blt G (cd_len G) fx.len (pda_cons (pd_var 2) pda_nil))) pd_int))) (pssd_cons (psd_for hp (pid_en G (pd_var 1) fx.enumerate) (pgd_tup G (pgsd_cons (pgd_name 4 hN) (pgsd_cons (pgd_name 5 hN) pgsd_nil))) (pssd_one (psd_for hp (pid_en G (pd_var 2) fx.enumerate) (pgd_tup G (pgsd_cons (pgd_name 6 hN) (pgsd_cons (pgd_name 7 hN) pgsd_nil))) (pssd_one (psd_augI 3 G (id_add) (pd_op (od_add G) (pd_var 4) (pd_var 6)) (pd_op (od_mul G) (pd_var 5) (pd_var 7))))))) (pssd_one (psd_ret (pd_bor 3 (pd_call G c_trimmed (hr.mono (by decide)) (pda_cons (pd_var 0) (pda_cons (pd_var 3) pda_nil)))))))))

def N_s_slope : List Str := ["p", "a", "place", "item"]
theorem sc_s_slope : FnScope N_s_slope ["p", "a"] (defScope (top 30)) := ⟨rfl, rfl, rfl, by decide +kernel, rfl, by decide +kernel, by decide +kernel⟩
def W_s_slope (S : Sps) (xp : Exc → Prop) : WS := (wRet (wCall S.s_trimmed [] xp (wCons (wVar 0) (wCons (wSlice (wOfL (lComp (iEnD (wVar 1)) (gdTup 2 (gdCons (gdName 2) (gdCons (gdName 3) gdNil))) wYes (wBin kMul (wVar 2) (wVar 3)) [2, 3])) (wOS (wC (.int 1))) wON) wNil))))
theorem bd_s_slope {g : Gx} (S : Sps) (fx : Fx g) (c_trimmed : FnG g 2 "trimmed" 2 [] S.s_trimmed) {f : Addr} (cd : Value) (A : Around) (outer : List PySem.Env) (s : Shared) (H : Hp) (E : XK) (xp : Exc → Prop) (hr : Room 2 (dcx g N_s_slope "slope" (defScope (top 30)) f cd A outer s H E).A) : PSsD (dcx g N_s_slope "slope" (defScope (top 30)) f cd A outer s H E) g xp (defBody (top 30)) (W_s_slope S xp) := by
  have G : XG (dcx g N_s_slope "slope" (defScope (top 30)) f cd A outer s H E) g := XG.dcx
  have hN : N_s_slope.Nodup := sc_s_slope.nd
  have hp : PassesOwn (model g.prog g.w) (dcx g N_s_slope "slope" (defScope (top 30)) f cd A outer s H E).A (dcx g N_s_slope "slope" (defScope (top 30)) f cd A outer s H E).env (dcx g N_s_slope "slope" (defScope (top 30)) f cd A outer s H E).xe := passes_of rfl
  exact (pssd_one (psd_ret (pd_call G c_trimmed (hr.mono (by decide)) (pda_cons (pd_var 0) (pda_cons (pd_slice G (pd_ofL (pdf_comp (own0 := [("place", 2), ("item", 3)]) hN (pid_en G (pd_var 1) fx.enumerate) (by kernel_rfl) (fun s H C cl fp => (pgd_tup (XG.blk G) (pgsd_cons (pgd_name 2 hN) (pgsd_cons (pgd_name 3 hN) pgsd_nil)))) (fun s H C cl fp => pdts_nil) (fun s H C cl fp => (pd_op (od_mul (XG.blk G)) (pd_var 2) (pd_var 3))))) (pdo_some pd_int) pdo_none) pda_nil)))))

def N_s_value_at : List Str := ["p", "a", "x", "found", "item"]
theorem sc_s_value_at : FnScope N_s_value_at ["p", "a", "x"] (defScope (top 31)) := ⟨rfl, rfl, rfl, by decide +kernel, rfl, by decide +kernel, by decide +kernel⟩
def W_s_value_at (S : Sps) (xp : Exc → Prop) : WS := (wSeq (wSet 3 (wC (.int 0))) (wSeq (wFor (iSeq (wSlice3 (wVar 1) wON wON (wOS (wUn kNeg (wC (.int 1)))))) (gdName 4) (wSet 3 (wBin kMod (wBin kAdd (wBin kMul (wVar 3) (wVar 2)) (wVar 4)) (wVar 0)))) (wRet (wVar 3))))
theorem bd_s_value_at {g : Gx} (S : Sps) (fx : Fx g)  {f : Addr} (cd : Value) (A : Around) (outer : List PySem.Env) (s : Shared) (H : Hp) (E : XK) (xp : Exc → Prop) (hr : Room 1 (dcx g N_s_value_at "value_at" (defScope (top 31)) f cd A outer s H E).A) : PSsD (dcx g N_s_value_at "value_at" (defScope (top 31)) f cd A outer s H E) g xp (defBody (top 31)) (W_s_value_at S xp) := by
  have G : XG (dcx g N_s_value_at "value_at" (defScope (top 31)) f cd A outer s H E) g := XG.dcx
  have hN : N_s_value_at.Nodup := sc_s_value_at.nd
  have hp : PassesOwn (model g.prog g.w) (dcx g N_s_value_at "value_at" (defScope (top 31)) f cd A outer s H E).A (dcx g N_s_value_at "value_at" (defScope (top 31)) f cd A outer s H E).env (dcx g N_s_value_at "value_at" (defScope (top 31)) f cd A outer s H E).xe := passes_of rfl
  exact (pssd_cons (psd_set 3 hN pd_int) (pssd_cons (psd_for hp (pid_seq G (pd_slice3 G true (fun _ _ => rfl) (pd_var 1) pdo_none pdo_none (pdo_some (pd_neg pd_int)))) (pgd_name 4 hN) (pssd_one (psd_set 3 hN (pd_op (od_mod) (pd_op (od_add G) (pd_op (od_mul G) (pd_var 3) (pd_var 2)) (pd_var 4)) (pd_var 0))))) (pssd_one (psd_ret (pd_var 3)))))

def N_s_put_in : List Str := ["p", "a", "b", "found", "item"]
theorem sc_s_put_in : FnScope N_s_put_in ["p", "a", "b"] (defScope (top 32)) := ⟨rfl, rfl, rfl, by decide +kernel, rfl, by decide +kernel, by decide +kernel⟩
def W_s_put_in (S : Sps) (xp : Exc → Prop) : WS := (wSeq (wSet 3 (wTup wNil)) (wSeq (wFor (iSeq (wSlice3 (wVar 1) wON wON (wOS (wUn kNeg (wC (.int 1)))))) (gdName 4) (wSet 3 (wCall S.s_sum_of [] xp (wCons (wVar 0) (wCons (wCall S.s_product [] xp (wCons (wVar 0) (wCons (wVar 3) (wCons (wVar 2) wNil)))) (wCons (wCall S.s_trimmed [] xp (wCons (wVar 0) (wCons (wLst (wCons (wVar 4) wNil)) wNil))) wNil)))))) (wRet (wVar 3))))
theorem bd_s_put_in {g : Gx} (S : Sps) (fx : Fx g) (c_product : FnG g 3 "product" 3 [] S.s_product) (c_trimmed : FnG g 2 "trimmed" 2 [] S.s_trimmed) (c_sum_of : FnG g 4 "sum_of" 3 [] S.s_sum_of) {f : Addr} (cd : Value) (A : Around) (outer : List PySem.Env) (s : Shared) (H : Hp) (E : XK) (xp : Exc → Prop) (hr : Room 4 (dcx g N_s_put_in "put_in" (defScope (top 32)) f cd A outer s H E).A) : PSsD (dcx g N_s_put_in "put_in" (defScope (top 32)) f cd A outer s H E) g xp (defBody (top 32)) (W_s_put_in S xp) := by
  have G : XG (dcx g N_s_put_in "put_in" (defScope (top 32)) f cd A outer s H E) g := XG.dcx
  have hN : N_s_put_in.Nodup := sc_s_put_in.nd
  have hp : PassesOwn (model g.prog g.w) (dcx g N_s_put_in "put_in" (defScope (top 32)) f cd A outer s H E).A (dcx g N_s_put_in "put_in" (defScope (top 32)) f cd A outer s H E).env (dcx g N_s_put_in "put_in" (defScope (top 32)) f cd A outer s H E).xe := passes_of rfl
  exact (pssd_cons (psd_set 3 hN (pd_tup pda_nil)) (pssd_cons (psd_for hp (pid_seq G (pd_slice3 G true (fun _ _ => rfl) (pd_var 1) pdo_none pdo_none (pdo_some (pd_neg pd_int)))) (pgd_name 4 hN) (pssd_one (psd_set 3 hN (pd_call G c_sum_of (hr.mono (by decide)) (pda_cons (pd_var 0) (pda_cons (pd_call G c_product (hr.mono (by decide)) (pda_cons (pd_var 0) (pda_cons (pd_var 3) (pda_cons (pd_var 2) pda_nil)))) (pda_cons (pd_call G c_trimmed (hr.mono (by decide)) (pda_cons (pd_var 0) (pda_cons (pd_lst (pda_cons (pd_var 4) pda_nil)) pda_nil))) pda_nil))))))) (pssd_one (psd_ret (pd_var 3)))))

def N_s_divided : List Str := ["p", "a", "b", "lead", "rest", "found", "place", "part", "more", "item"]
theorem sc_s_divided : FnScope N_s_divided ["p", "a", "b"] (defScope (top 33)) := ⟨rfl, rfl, rfl, by decide +kernel, rfl, by decide +kernel, by decide +kernel⟩
def W_s_divided (S : Sps) (xp : Exc → Prop) : WS := (wSeq (wIfS (wNot (wTru (wVar 2))) wDead wNext) (wSeq (wSet 3 (wCall S.s_inverse [] xp (wCons (wVar 0) (wCons (wBin kIx (wVar 2) (wUn kNeg (wC (.int 1)))) wNil)))) (wSeq (wSetL 4 (lList (wVar 1))) (wSeq (wSetL 5 (lRep (wLst (wCons (wC (.int 0)) wNil)) (wBlt cMax (wCons (wC (.int 0)) (wCons (wBin kAdd (wBin kSub (wBlt cLen (wCons (wVar 1) wNil)) (wBlt cLen (wCons (wVar 2) wNil))) (wC (.int 1))) wNil))))) (wSeq (wFor (iR3 (wBin kSub (wBlt cLen (wCons (wVar 1) wNil)) (wBlt cLen (wCons (wVar 2) wNil))) (wUn kNeg (wC (.int 1))) (wUn kNeg (wC (.int 1)))) (gdName 6) (wSeq (wSet 7 (wBor 4 (wBin kMod (wBin kMul (wBin kIx (wVar 4) (wBin kSub (wBin kAdd (wVar 6) (wBlt cLen (wCons (wVar 2) wNil))) (wC (.int 1)))) (wVar 3)) (wVar 0)))) (wSeq (wSetI 5 (wVar 6) (wVar 7)) (wIfS (wB (wBin kNe (wVar 7) (wC (.int 0)))) (wFor (iEnD (wVar 2)) (gdTup 2 (gdCons (gdName 8) (gdCons (gdName 9) gdNil))) (wAugI 4 kSub (wBin kAdd (wVar 6) (wVar 8)) (wBin kMul (wVar 7) (wVar 9)))) wNext)))) (wRet (wBor 5 (wBor 4 (wTup (wCons (wCall S.s_trimmed [] xp (wCons (wVar 0) (wCons (wVar 5) wNil))) (wCons (wCall S.s_trimmed [] xp (wCons (wVar 0) (wCons (wSlice (wVar 4) wON (wOS (wBin kSub (wBlt cLen (wCons (wVar 2) wNil)) (wC (.int 1))))) wNil))) wNil)))))))))))
theorem bd_s_divided {g : Gx} (S : Sps) (fx : Fx g) (c_inverse : FnG g 2 "inverse" 2 [] S.s_inverse) (c_trimmed : FnG g 2 "trimmed" 2 [] S.s_trimmed) {f : Addr} (cd : Value) (A : Around) (outer : List PySem.Env) (s : Shared) (H : Hp) (E : XK) (xp : Exc → Prop) (hr : Room 2 (dcx g N_s_divided "divided" (defScope (top 33)) f cd A outer s H E).A) : PSsD (dcx g N_s_divided "divided" (defScope (top 33)) f cd A outer s H E) g xp (defBody (top 33)) (W_s_divided S xp) := by
  have G : XG (dcx g N_s_divided "divided" (defScope (top 33)) f cd A outer s H E) g := XG.dcx
  have hN : N_s_divided.Nodup := sc_s_divided.nd
  have hp : PassesOwn (model g.prog g.w) (dcx g N_s_divided "divided" (defScope (top 33)) f cd A outer s H E).A (dcx g N_s_divided "divided" (defScope (top 33)) f cd A outer s H E).env (dcx g N_s_divided "divided" (defScope (top 33)) f cd A outer s H E).xe := passes_of rfl
  exact (pssd_cons (psd_if (pdt_not (pdt_tru G (pd_var 2))) (pssd_one psd_dead) pssd_nil) (pssd_cons (psd_set 3 hN (pd_call G c_inverse (hr.mono (by decide)) (pda_cons (pd_var 0) (pda_cons (pd_ix G (pd_var 2) (pd_neg pd_int)) pda_nil)))) (pssd_cons (psd_setL 4 hN (pdf_list G (pd_var 1) fx.list)) (pssd_cons (psd_setL 5 hN (pdf_rep (pd_lst (pda_cons pd_int pda_nil)) (pd_blt G (cd_max) fx.max (pda_cons pd_int (pda_cons (pd_op (od_add G) (pd_op (od_sub) (pd_blt G (cd_len G) fx.len (pda_cons (pd_var 1) pda_nil)) (pd_blt G (cd_len G) fx.len (pda_cons (pd_var 2) pda_nil))) pd_int) pda_nil))))) (pssd_cons (psd_for hp (pid_r3 G (pd_op (od_sub) (pd_blt G (cd_len G) fx.len (pda_cons (pd_var 1) pda_nil)) (pd_blt G (cd_len G) fx.len (pda_cons (pd_var 2) pda_nil))) (pd_neg pd_int) (pd_neg pd_int) fx.range) (pgd_name 6 hN) (pssd_cons (psd_set 7 hN (pd_bor 4 (pd_op (od_mod) (pd_op (od_mul G) (pd_ix G (pd_var 4) (pd_op (od_sub) (pd_op (od_add G) (pd_var 6) (pd_blt G (cd_len G) fx.len (pda_cons (pd_var 2) pda_nil))) pd_int)) (pd_var 3)) (pd_var 0)))) (pssd_cons (psd_setI 5 (pd_var 6) (pd_var 7)) (pssd_one (psd_if (pdt_cmp (od_ne G (rmu hr)) (pd_var 7) pd_int) (pssd_one (psd_for hp (pid_en G (pd_var 2) fx.enumerate) (pgd_tup G (pgsd_cons (pgd_name 8 hN) (pgsd_cons (pgd_name 9 hN) pgsd_nil))) (pssd_one (psd_augI 4 G (id_sub) (pd_op (od_add G) (pd_var 6) (pd_var 8)) (pd_op (od_mul G) (pd_var 7) (pd_var 9)))))) pssd_nil))))) (pssd_one (psd_ret (pd_bor 5 (pd_bor 4 (pd_tup (pda_cons (pd_call G c_trimmed (hr.mono (by decide)) (pda_cons (pd_var 0) (pda_cons (pd_var 5) pda_nil))) (pda_cons (pd_call G c_trimmed (hr.mono (by decide)) (pda_cons (pd_var 0) (pda_cons (pd_slice G (pd_var 4) pdo_none (pdo_some (pd_op (od_sub) (pd_blt G (cd_len G) fx.len (pda_cons (pd_var 2) pda_nil)) pd_int))) pda_nil))) pda_nil))))))))))))

def N_s_remainder : List Str := ["p", "a", "b"]
theorem sc_s_remainder : FnScope N_s_remainder ["p", "a", "b"] (defScope (top 34)) := ⟨rfl, rfl, rfl, by decide +kernel, rfl, by decide +kernel, by decide +kernel⟩
def W_s_remainder (S : Sps) (xp : Exc → Prop) : WS := (wRet (wBin kIx (wCall S.s_divided [] xp (wCons (wVar 0) (wCons (wVar 1) (wCons (wVar 2) wNil)))) (wC (.int 1))))
theorem bd_s_remainder {g : Gx} (S : Sps) (fx : Fx g) (c_divided : FnG g 3 "divided" 3 [] S.s_divided) {f : Addr} (cd : Value) (A : Around) (outer : List PySem.Env) (s : Shared) (H : Hp) (E : XK) (xp : Exc → Prop) (hr : Room 3 (dcx g N_s_remainder "remainder" (defScope (top 34)) f cd A outer s H E).A) : PSsD (dcx g N_s_remainder "remainder" (defScope (top 34)) f cd A outer s H E) g xp (defBody (top 34)) (W_s_remainder S xp) := by
  have G : XG (dcx g N_s_remainder "remainder" (defScope (top 34)) f cd A outer s H E) g := XG.dcx
  have hN : N_s_remainder.Nodup := sc_s_remainder.nd
  have hp : PassesOwn (model g.prog g.w) (dcx g N_s_remainder "remainder" (defScope (top 34)) f cd A outer s H E).A (dcx g N_s_remainder "remainder" (defScope (top 34)) f cd A outer s H E).env (dcx g N_s_remainder "remainder" (defScope (top 34)) f cd A outer s H E).xe := passes_of rfl
  exact (pssd_one (psd_ret (pd_ix G (pd_call G c_divided (hr.mono (by decide)) (pda_cons (pd_var 0) (pda_cons (pd_var 1) (pda_cons (pd_var 2) pda_nil)))) pd_int)))

def N_s_common : List Str := ["p", "a", "b"]
theorem sc_s_common : FnScope N_s_common ["p", "a", "b"] (defScope (top 35)) := ⟨rfl, rfl, rfl, by decide +kernel, rfl, by decide +kernel, by decide +kernel⟩
def W_s_common (S : Sps) (xp : Exc → Prop) : WS := (wSeq (wWhile (wTru (wVar 2)) (wPar 1 2 (wVar 2) (wCall S.s_remainder [] xp (wCons (wVar 0) (wCons (wVar 1) (wCons (wVar 2) wNil)))))) (wRet (wCall S.s_monic [] xp (wCons (wVar 0) (wCons (wVar 1) wNil)))))
theorem bd_s_common {g : Gx} (S : Sps) (fx : Fx g) (c_remainder : FnG g 4 "remainder" 3 [] S.s_remainder) (c_monic : FnG g 4 "monic" 2 [] S.s_monic) {f : Addr} (cd : Value) (A : Around) (outer : List PySem.Env) (s : Shared) (H : Hp) (E : XK) (xp : Exc → Prop) (hr : Room 4 (dcx g N_s_common "common" (defScope (top 35)) f cd A outer s H E).A) : PSsD (dcx g N_s_common "common" (defScope (top 35)) f cd A outer s H E) g xp (defBody (top 35)) (W_s_common S xp) := by
  have G : XG (dcx g N_s_common "common" (defScope (top 35)) f cd A outer s H E) g := XG.dcx
  have hN : N_s_common.Nodup := sc_s_common.nd
  have hp : PassesOwn (model g.prog g.w) (dcx g N_s_common "common" (defScope (top 35)) f cd A outer s H E).A (dcx g N_s_common "common" (defScope (top 35)) f cd A outer s H E).env (dcx g N_s_common "common" (defScope (top 35)) f cd A outer s H E).xe := passes_of rfl
  exact (pssd_cons (psd_while hp (pdt_tru G (pd_var 2)) (pssd_one (psd_par 1 2 hN (pd_var 2) (pd_call G c_remainder (hr.mono (by decide)) (pda_cons (pd_var 0) (pda_cons (pd_var 1) (pda_cons (pd_var 2) pda_nil))))))) (pssd_one (psd_ret (pd_call G c_monic (hr.mono (by decide)) (pda_cons (pd_var 0) (pda_cons (pd_var 1) pda_nil))))))

def N_s_power_modulo : List Str := ["p", "a", "e", "m", "found"]
theorem sc_s_power_modulo : FnScope N_s_power_modulo ["p", "a", "e", "m"] (defScope (top 36)) := ⟨rfl, rfl, rfl, by decide +kernel, rfl, by decide +kernel, by decide +kernel⟩
def W_s_power_modulo (S : Sps) (xp : Exc → Prop) : WS := (wSeq (wSet 4 (wCall S.s_remainder [] xp (wCons (wVar 0) (wCons (wTup (wCons (wC (.int 1)) wNil)) (wCons (wVar 3) wNil))))) (wSeq (wSet 1 (wCall S.s_remainder [] xp (wCons (wVar 0) (wCons (wVar 1) (wCons (wVar 3) wNil))))) (wSeq (wWhile (wB (wBin kGt (wVar 2) (wC (.int 0)))) (wSeq (wIfS (wB (wBin kEq (wBin kMod (wVar 2) (wC (.int 2))) (wC (.int 1)))) (wSet 4 (wCall S.s_remainder [] xp (wCons (wVar 0) (wCons (wCall S.s_product [] xp (wCons (wVar 0) (wCons (wVar 4) (wCons (wVar 1) wNil)))) (wCons (wVar 3) wNil))))) wNext) (wSeq (wAug 2 kDiv (wC (.int 2))) (wIfS (wB (wBin kGt (wVar 2) (wC (.int 0)))) (wSet 1 (wCall S.s_remainder [] xp (wCons (wVar 0) (wCons (wCall S.s_product [] xp (wCons (wVar 0) (wCons (wVar 1) (wCons (wVar 1) wNil)))) (wCons (wVar 3) wNil))))) wNext)))) (wRet (wVar 4)))))
theorem bd_s_power_modulo {g : Gx} (S : Sps) (fx : Fx g) (c_remainder : FnG g 4 "remainder" 3 [] S.s_remainder) (c_product : FnG g 3 "product" 3 [] S.s_product) {f : Addr} (cd : Value) (A : Around) (outer : List PySem.Env) (s : Shared) (H : Hp) (E : XK) (xp : Exc → Prop) (hr : Room 4 (dcx g N_s_power_modulo "power_modulo" (defScope (top 36)) f cd A outer s H E).A) : PSsD (dcx g N_s_power_modulo "power_modulo" (defScope (top 36)) f cd A outer s H E) g xp (defBody (top 36)) (W_s_power_modulo S xp) := by
  have G : XG (dcx g N_s_power_modulo "power_modulo" (defScope (top 36)) f cd A outer s H E) g := XG.dcx
  have hN : N_s_power_modulo.Nodup := sc_s_power_modulo.nd
  have hp : PassesOwn (model g.prog g.w) (dcx g N_s_power_modulo "power_modulo" (defScope (top 36)) f cd A outer s H E).A (dcx g N_s_power_modulo "power_modulo" (defScope (top 36)) f cd A outer s H E).env (dcx g N_s_power_modulo "power_modulo" (defScope (top 36)) f cd A outer s H E).xe := passes_of rfl
  exact (pssd_cons (psd_set 4 hN (pd_call G c_remainder (hr.mono (by decide)) (pda_cons (pd_var 0) (pda_cons (pd_tup (pda_cons pd_int pda_nil)) (pda_cons (pd_var 3) pda_nil))))) (pssd_cons (psd_set 1 hN (pd_call G c_remainder (hr.mono (by decide)) (pda_cons (pd_var 0) (pda_cons (pd_var 1) (pda_cons (pd_var 3) pda_nil))))) (pssd_cons (psd_while hp (pdt_cmp (od_gt) (pd_var 2) pd_int) (pssd_cons (psd_if (pdt_cmp (od_eq G (rmu hr)) (pd_op (od_mod) (pd_var 2) pd_int) pd_int) (pssd_one (psd_set 4 hN (pd_call G c_remainder (hr.mono (by decide)) (pda_cons (pd_var 0) (pda_cons (pd_call G c_product (hr.mono (by decide)) (pda_cons (pd_var 0) (pda_cons (pd_var 4) (pda_cons (pd_var 1) pda_nil)))) (pda_cons (pd_var 3) pda_nil)))))) pssd_nil) (pssd_cons (psd_aug 2 hN (id_div) pd_int) (pssd_one (psd_if (pdt_cmp (od_gt) (pd_var 2) pd_int) (pssd_one (psd_set 1 hN (pd_call G c_remainder (hr.mono (by decide)) (pda_cons (pd_var 0) (pda_cons (pd_call G c_product (hr.mono (by decide)) (pda_cons (pd_var 0) (pda_cons (pd_var 1) (pda_cons (pd_var 1) pda_nil)))) (pda_cons (pd_var 3) pda_nil)))))) pssd_nil))))) (pssd_one (psd_ret (pd_var 4))))))

def N_s_prime_polynomials : List Str := ["p", "m", "many", "parted", "low", "first", "one", "second", "other", "place", "is_parted"]
theorem sc_s_prime_polynomials : FnScope N_s_prime_polynomials ["p", "m"] (defScope (top 37)) := ⟨rfl, rfl, rfl, by decide +kernel, rfl, by decide +kernel, by decide +kernel⟩
def W_s_prime_polynomials (S : Sps) (xp : Exc → Prop) : WS := (wSeq (wSet 2 (wCall S.s_raised [] xp (wCons (wVar 0) (wCons (wVar 1) wNil)))) (wSeq (wIfS (wB (wBin kGt (wVar 2) (wC (.int 5000)))) wDead wNext) (wSeq (wSetL 3 (lRep (wLst (wCons (wC (.bl false)) wNil)) (wVar 2))) (wSeq (wFor (iR2 (wC (.int 1)) (wBin kAdd (wBin kDiv (wVar 1) (wC (.int 2))) (wC (.int 1)))) (gdName 4) (wFor (iR1 (wCall S.s_raised [] xp (wCons (wVar 0) (wCons (wVar 4) wNil)))) (gdName 5) (wSeq (wSet 6 (wCall S.s_of_index [] xp (wCons (wVar 0) (wCons (wBin kAdd (wCall S.s_raised [] xp (wCons (wVar 0) (wCons (wVar 4) wNil))) (wVar 5)) wNil)))) (wFor (iR1 (wCall S.s_raised [] xp (wCons (wVar 0) (wCons (wBin kSub (wVar 1) (wVar 4)) wNil)))) (gdName 7) (wSeq (wSet 8 (wCall S.s_of_index [] xp (wCons (wVar 0) (wCons (wBin kAdd (wCall S.s_raised [] xp (wCons (wVar 0) (wCons (wBin kSub (wVar 1) (wVar 4)) wNil))) (wVar 7)) wNil)))) (wSetI 3 (wBin kSub (wCall S.s_index [] xp (wCons (wVar 0) (wCons (wCall S.s_product [] xp (wCons (wVar 0) (wCons (wVar 6) (wCons (wVar 8) wNil)))) wNil))) (wVar 2)) (wC (.bl true)))))))) (wRet (wOfL (lBor 3 (lComp (iEnD (wVar 3)) (gdTup 2 (gdCons (gdName 9) (gdCons (gdName 10) gdNil))) (wNot (wTru (wVar 10))) (wCall S.s_of_index [] (fun _ => False) (wCons (wVar 0) (wCons (wBin kAdd (wVar 2) (wVar 9)) wNil))) [9, 10]))))))))
theorem bd_s_prime_polynomials {g : Gx} (S : Sps) (fx : Fx g) (c_raised : FnG g 2 "raised" 2 [] S.s_raised) (c_of_index : FnG g 2 "of_index" 2 [] S.s_of_index) (c_product : FnG g 3 "product" 3 [] S.s_product) (c_index : FnG g 2 "index" 2 [] S.s_index) {f : Addr} (cd : Value) (A : Around) (outer : List PySem.Env) (s : Shared) (H : Hp) (E : XK) (xp : Exc → Prop) (hr : Room 3 (dcx g N_s_prime_polynomials "prime_polynomials" (defScope (top 37)) f cd A outer s H E).A) : PSsD (dcx g N_s_prime_polynomials "prime_polynomials" (defScope (top 37)) f cd A outer s H E) g xp (defBody (top 37)) (W_s_prime_polynomials S xp) := by
  have G : XG (dcx g N_s_prime_polynomials "prime_polynomials" (defScope (top 37)) f cd A outer s H E) g := XG.dcx
  have hN : N_s_prime_polynomials.Nodup := sc_s_prime_polynomials.nd
  have hp : PassesOwn (model g.prog g.w) (dcx g N_s_prime_polynomials "prime_polynomials" (defScope (top 37)) f cd A outer s H E).A (dcx g N_s_prime_polynomials "prime_polynomials" (defScope (top 37)) f cd A outer s H E).env (dcx g N_s_prime_polynomials "prime_polynomials" (defScope (top 37)) f cd A outer s H E).xe := passes_of rfl
  exact (pssd_cons (psd_set 2 hN (pd_call G c_raised (hr.mono (by decide)) (pda_cons (pd_var 0) (pda_cons (pd_var 1) pda_nil)))) (pssd_cons (psd_if (pdt_cmp (od_gt) (pd_var 2) (pd_glob fx.LISTED_MOST)) (pssd_one psd_dead) pssd_nil) (pssd_cons (psd_setL 3 hN (pdf_rep (pd_lst (pda_cons pd_bl pda_nil)) (pd_var 2))) (pssd_cons (psd_for hp (pid_r2 G pd_int (pd_op (od_add G) (pd_op (od_div) (pd_var 1) pd_int) pd_int) fx.range) (pgd_name 4 hN) (pssd_one (psd_for hp (pid_r1 G (pd_call G c_raised (hr.mono (by decide)) (pda_cons (pd_var 0) (pda_cons (pd_var 4) pda_nil))) fx.range) (pgd_name 5 hN) (pssd_cons (psd_set 6 hN (pd_call G c_of_index (hr.mono (by decide)) (pda_cons (pd_var 0) (pda_cons (pd_op (od_add G) (pd_call G c_raised (hr.mono (by decide)) (pda_cons (pd_var 0) (pda_cons (pd_var 4) pda_nil))) (pd_var 5)) pda_nil)))) (pssd_one (psd_for hp (pid_r1 G (pd_call G c_raised (hr.mono (by decide)) (pda_cons (pd_var 0) (pda_cons (pd_op (od_sub) (pd_var 1) (pd_var 4)) pda_nil))) fx.range) (pgd_name 7 hN) (pssd_cons (psd_set 8 hN (pd_call G c_of_index (hr.mono (by decide)) (pda_cons (pd_var 0) (pda_cons (pd_op (od_add G) (pd_call G c_raised (hr.mono (by decide)) (pda_cons (pd_var 0) (pda_cons (pd_op (od_sub) (pd_var 1) (pd_var 4)) pda_nil))) (pd_var 7)) pda_nil)))) (pssd_one (psd_setI 3 (pd_op (od_sub) (pd_call G c_index (hr.mono (by decide)) (pda_cons (pd_var 0) (pda_cons (pd_call G c_product (hr.mono (by decide)) (pda_cons (pd_var 0) (pda_cons (pd_var 6) (pda_cons (pd_var 8) pda_nil)))) pda_nil))) (pd_var 2)) pd_bl))))))))) (pssd_one (psd_ret (pd_ofL (pdf_bor 3 (pdf_comp (own0 := [("place", 9), ("is_parted", 10)]) hN (pid_en G (pd_var 3) fx.enumerate) (by kernel_rfl) (fun s H C cl fp => (pgd_tup (XG.blk G) (pgsd_cons (pgd_name 9 hN) (pgsd_cons (pgd_name 10 hN) pgsd_nil)))) (fun s H C cl fp => (pdts_one (pdt_not (pdt_tru (XG.blk G) (pd_var 10))))) (fun s H C cl fp => (pd_call (XG.blk G) c_of_index (hr.mono (by decide)) (pda_cons (pd_var 0) (pda_cons (pd_op (od_add (XG.blk G)) (pd_var 2) (pd_var 9)) pda_nil)))))))))))))

def N_s_any_root : List Str := ["p", "a", "m", "size", "number", "step", "found", "rest", "odd", "twos", "count", "here", "_"]
theorem sc_s_any_root : FnScope N_s_any_root ["p", "a", "m"] (defScope (top 42)) := ⟨rfl, rfl, rfl, by decide +kernel, rfl, by decide +kernel, by decide +kernel⟩
def W_s_any_root (S : Sps) (xp : Exc → Prop) : WS := (wSeq (wSet 3 (wCall S.s_raised [] xp (wCons (wVar 0) (wCons (wCall S.s_degree [] xp (wCons (wVar 2) wNil)) wNil)))) (wSeq (wPar 8 9 (wBin kSub (wVar 3) (wC (.int 1))) (wC (.int 0))) (wSeq (wWhile (wB (wBin kEq (wBin kMod (wVar 8) (wC (.int 2))) (wC (.int 0)))) (wSeq (wAug 8 kDiv (wC (.int 2))) (wAug 9 kAddI (wC (.int 1))))) (wSeq (wSet 4 (wC (.int 1))) (wSeq (wSet 5 (wTup (wCons (wC (.int 1)) wNil))) (wSeq (wWhile (wB (wBin kEq (wCall S.s_power_modulo [] xp (wCons (wVar 0) (wCons (wVar 5) (wCons (wBin kDiv (wBin kSub (wVar 3) (wC (.int 1))) (wC (.int 2))) (wCons (wVar 2) wNil))))) (wTup (wCons (wC (.int 1)) wNil)))) (wSeq (wAug 4 kAddI (wC (.int 1))) (wSet 5 (wCall S.s_of_index [] xp (wCons (wVar 0) (wCons (wVar 4) wNil)))))) (wSeq (wSet 5 (wCall S.s_power_modulo [] xp (wCons (wVar 0) (wCons (wVar 5) (wCons (wVar 8) (wCons (wVar 2) wNil)))))) (wSeq (wSet 6 (wCall S.s_power_modulo [] xp (wCons (wVar 0) (wCons (wVar 1) (wCons (wBin kDiv (wBin kAdd (wVar 8) (wC (.int 1))) (wC (.int 2))) (wCons (wVar 2) wNil)))))) (wSeq (wSet 7 (wCall S.s_power_modulo [] xp (wCons (wVar 0) (wCons (wVar 1) (wCons (wVar 8) (wCons (wVar 2) wNil)))))) (wSeq (wWhile (wB (wBin kNe (wVar 7) (wTup (wCons (wC (.int 1)) wNil)))) (wSeq (wSet 10 (wC (.int 0))) (wSeq (wSet 11 (wVar 7)) (wSeq (wWhile (wB (wBin kNe (wVar 11) (wTup (wCons (wC (.int 1)) wNil)))) (wSeq (wSet 11 (wCall S.s_remainder [] xp (wCons (wVar 0) (wCons (wCall S.s_product [] xp (wCons (wVar 0) (wCons (wVar 11) (wCons (wVar 11) wNil)))) (wCons (wVar 2) wNil))))) (wAug 10 kAddI (wC (.int 1))))) (wSeq (wFor (iR1 (wBin kSub (wBin kSub (wVar 9) (wVar 10)) (wC (.int 1)))) (gdName 12) (wSet 5 (wCall S.s_remainder [] xp (wCons (wVar 0) (wCons (wCall S.s_product [] xp (wCons (wVar 0) (wCons (wVar 5) (wCons (wVar 5) wNil)))) (wCons (wVar 2) wNil)))))) (wSeq (wSet 6 (wCall S.s_remainder [] xp (wCons (wVar 0) (wCons (wCall S.s_product [] xp (wCons (wVar 0) (wCons (wVar 6) (wCons (wVar 5) wNil)))) (wCons (wVar 2) wNil))))) (wSeq (wSet 5 (wCall S.s_remainder [] xp (wCons (wVar 0) (wCons (wCall S.s_product [] xp (wCons (wVar 0) (wCons (wVar 5) (wCons (wVar 5) wNil)))) (wCons (wVar 2) wNil))))) (wSeq (wSet 7 (wCall S.s_remainder [] xp (wCons (wVar 0) (wCons (wCall S.s_product [] xp (wCons (wVar 0) (wCons (wVar 7) (wCons (wVar 5) wNil)))) (wCons (wVar 2) wNil))))) (wSet 9 (wVar 10)))))))))) (wRet (wVar 6))))))))))))
theorem bd_s_any_root {g : Gx} (S : Sps) (fx : Fx g) (c_degree : FnG g 2 "degree" 1 [] S.s_degree) (c_raised : FnG g 2 "raised" 2 [] S.s_raised) (c_power_modulo : FnG g 5 "power_modulo" 4 [] S.s_power_modulo) (c_of_index : FnG g 2 "of_index" 2 [] S.s_of_index) (c_product : FnG g 3 "product" 3 [] S.s_product) (c_remainder : FnG g 4 "remainder" 3 [] S.s_remainder) {f : Addr} (cd : Value) (A : Around) (outer : List PySem.Env) (s : Shared) (H : Hp) (E : XK) (xp : Exc → Prop) (hr : Room 5 (dcx g N_s_any_root "any_root" (defScope (top 42)) f cd A outer s H E).A) : PSsD (dcx g N_s_any_root "any_root" (defScope (top 42)) f cd A outer s H E) g xp (defBody (top 42)) (W_s_any_root S xp) := by
  have G : XG (dcx g N_s_any_root "any_root" (defScope (top 42)) f cd A outer s H E) g := XG.dcx
  have hN : N_s_any_root.Nodup := sc_s_any_root.nd
  have hp : PassesOwn (model g.prog g.w) (dcx g N_s_any_root "any_root" (defScope (top 42)) f cd A outer s H E).A (dcx g N_s_any_root "any_root" (defScope (top 42)) f cd A outer s H E).env (dcx g N_s_any_root "any_root" (defScope (top 42)) f cd A outer s H E).xe := passes_of rfl
  exact (pssd_cons (psd_set 3 hN (pd_call G c_raised (hr.mono (by decide)) (pda_cons (pd_var 0) (pda_cons (pd_call G c_degree (hr.mono (by decide)) (pda_cons (pd_var 2) pda_nil)) pda_nil)))) (pssd_cons (psd_par 8 9 hN (pd_op (od_sub) (pd_var 3) pd_int) pd_int) (pssd_cons (psd_while hp (pdt_cmp (od_eq G (rmu hr)) (pd_op (od_mod) (pd_var 8) pd_int) pd_int) (pssd_cons (psd_aug 8 hN (id_div) pd_int) (pssd_one (psd_aug 9 hN (id_add) pd_int)))) (pssd_cons (psd_set 4 hN pd_int) (pssd_cons (psd_set 5 hN (pd_tup (pda_cons pd_int pda_nil))) (pssd_cons (psd_while hp (pdt_cmp (od_eq G (rmu hr)) (pd_call G c_power_modulo (hr.mono (by decide)) (pda_cons (pd_var 0) (pda_cons (pd_var 5) (pda_cons (pd_op (od_div) (pd_op (od_sub) (pd_var 3) pd_int) pd_int) (pda_cons (pd_var 2) pda_nil))))) (pd_tup (pda_cons pd_int pda_nil))) (pssd_cons (psd_aug 4 hN (id_add) pd_int) (pssd_one (psd_set 5 hN (pd_call G c_of_index (hr.mono (by decide)) (pda_cons (pd_var 0) (pda_cons (pd_var 4) pda_nil))))))) (pssd_cons (psd_set 5 hN (pd_call G c_power_modulo (hr.mono (by decide)) (pda_cons (pd_var 0) (pda_cons (pd_var 5) (pda_cons (pd_var 8) (pda_cons (pd_var 2) pda_nil)))))) (pssd_cons (psd_set 6 hN (pd_call G c_power_modulo (hr.mono (by decide)) (pda_cons (pd_var 0) (pda_cons (pd_var 1) (pda_cons (pd_op (od_div) (pd_op (od_add G) (pd_var 8) pd_int) pd_int) (pda_cons (pd_var 2) pda_nil)))))) (pssd_cons (psd_set 7 hN (pd_call G c_power_modulo (hr.mono (by decide)) (pda_cons (pd_var 0) (pda_cons (pd_var 1) (pda_cons (pd_var 8) (pda_cons (pd_var 2) pda_nil)))))) (pssd_cons (psd_while hp (pdt_cmp (od_ne G (rmu hr)) (pd_var 7) (pd_tup (pda_cons pd_int pda_nil))) (pssd_cons (psd_set 10 hN pd_int) (pssd_cons (psd_set 11 hN (pd_var 7)) (pssd_cons (psd_while hp (pdt_cmp (od_ne G (rmu hr)) (pd_var 11) (pd_tup (pda_cons pd_int pda_nil))) (pssd_cons (psd_set 11 hN (pd_call G c_remainder (hr.mono (by decide)) (pda_cons (pd_var 0) (pda_cons (pd_call G c_product (hr.mono (by decide)) (pda_cons (pd_var 0) (pda_cons (pd_var 11) (pda_cons (pd_var 11) pda_nil)))) (pda_cons (pd_var 2) pda_nil))))) (pssd_one (psd_aug 10 hN (id_add) pd_int)))) (pssd_cons (psd_for hp (pid_r1 G (pd_op (od_sub) (pd_op (od_sub) (pd_var 9) (pd_var 10)) pd_int) fx.range) (pgd_name 12 hN) (pssd_one (psd_set 5 hN (pd_call G c_remainder (hr.mono (by decide)) (pda_cons (pd_var 0) (pda_cons (pd_call G c_product (hr.mono (by decide)) (pda_cons (pd_var 0) (pda_cons (pd_var 5) (pda_cons (pd_var 5) pda_nil)))) (pda_cons (pd_var 2) pda_nil))))))) (pssd_cons (psd_set 6 hN (pd_call G c_remainder (hr.mono (by decide)) (pda_cons (pd_var 0) (pda_cons (pd_call G c_product (hr.mono (by decide)) (pda_cons (pd_var 0) (pda_cons (pd_var 6) (pda_cons (pd_var 5) pda_nil)))) (pda_cons (pd_var 2) pda_nil))))) (pssd_cons (psd_set 5 hN (pd_call G c_remainder (hr.mono (by decide)) (pda_cons (pd_var 0) (pda_cons (pd_call G c_product (hr.mono (by decide)) (pda_cons (pd_var 0) (pda_cons (pd_var 5) (pda_cons (pd_var 5) pda_nil)))) (pda_cons (pd_var 2) pda_nil))))) (pssd_cons (psd_set 7 hN (pd_call G c_remainder (hr.mono (by decide)) (pda_cons (pd_var 0) (pda_cons (pd_call G c_product (hr.mono (by decide)) (pda_cons (pd_var 0) (pda_cons (pd_var 7) (pda_cons (pd_var 5) pda_nil)))) (pda_cons (pd_var 2) pda_nil))))) (pssd_one (psd_set 9 hN (pd_var 10))))))))))) (pssd_one (psd_ret (pd_var 6)))))))))))))

def N_s_root_modulo : List Str := ["p", "a", "m", "one", "other"]
theorem sc_s_root_modulo : FnScope N_s_root_modulo ["p", "a", "m"] (defScope (top 43)) := ⟨rfl, rfl, rfl, by decide +kernel, rfl, by decide +kernel, by decide +kernel⟩
def W_s_root_modulo (S : Sps) (xp : Exc → Prop) : WS := (wSeq (wSet 1 (wCall S.s_remainder [] xp (wCons (wVar 0) (wCons (wVar 1) (wCons (wVar 2) wNil))))) (wSeq (wIfS (wNot (wTru (wVar 1))) (wRet (wTup wNil)) wNext) (wSeq (wIfS (wB (wBin kNe (wCall S.s_power_modulo [] xp (wCons (wVar 0) (wCons (wVar 1) (wCons (wBin kDiv (wBin kSub (wCall S.s_raised [] xp (wCons (wVar 0) (wCons (wCall S.s_degree [] xp (wCons (wVar 2) wNil)) wNil))) (wC (.int 1))) (wC (.int 2))) (wCons (wVar 2) wNil))))) (wTup (wCons (wC (.int 1)) wNil)))) (wRet (wC .non)) wNext) (wSeq (wSet 3 (wCall S.s_any_root [] xp (wCons (wVar 0) (wCons (wVar 1) (wCons (wVar 2) wNil))))) (wSeq (wSet 4 (wCall S.s_scaled [] xp (wCons (wVar 0) (wCons (wVar 3) (wCons (wUn kNeg (wC (.int 1))) wNil))))) (wRet (wIf (wB (wBin kLt (wCall S.s_index [] xp (wCons (wVar 0) (wCons (wVar 3) wNil))) (wCall S.s_index [] xp (wCons (wVar 0) (wCons (wVar 4) wNil))))) (wVar 3) (wVar 4))))))))
theorem bd_s_root_modulo {g : Gx} (S : Sps) (fx : Fx g) (c_remainder : FnG g 4 "remainder" 3 [] S.s_remainder) (c_degree : FnG g 2 "degree" 1 [] S.s_degree) (c_raised : FnG g 2 "raised" 2 [] S.s_raised) (c_power_modulo : FnG g 5 "power_modulo" 4 [] S.s_power_modulo) (c_any_root : FnG g 6 "any_root" 3 [] S.s_any_root) (c_scaled : FnG g 3 "scaled" 3 [] S.s_scaled) (c_index : FnG g 2 "index" 2 [] S.s_index) {f : Addr} (cd : Value) (A : Around) (outer : List PySem.Env) (s : Shared) (H : Hp) (E : XK) (xp : Exc → Prop) (hr : Room 6 (dcx g N_s_root_modulo "root_modulo" (defScope (top 43)) f cd A outer s H E).A) : PSsD (dcx g N_s_root_modulo "root_modulo" (defScope (top 43)) f cd A outer s H E) g xp (defBody (top 43)) (W_s_root_modulo S xp) := by
  have G : XG (dcx g N_s_root_modulo "root_modulo" (defScope (top 43)) f cd A outer s H E) g := XG.dcx
  have hN : N_s_root_modulo.Nodup := sc_s_root_modulo.nd
  have hp : PassesOwn (model g.prog g.w) (dcx g N_s_root_modulo "root_modulo" (defScope (top 43)) f cd A outer s H E).A (dcx g N_s_root_modulo "root_modulo" (defScope (top 43)) f cd A outer s H E).env (dcx g N_s_root_modulo "root_modulo" (defScope (top 43)) f cd A outer s H E).xe := passes_of rfl
  exact (pssd_cons (psd_set 1 hN (pd_call G c_remainder (hr.mono (by decide)) (pda_cons (pd_var 0) (pda_cons (pd_var 1) (pda_cons (pd_var 2) pda_nil))))) (pssd_cons (psd_if (pdt_not (pdt_tru G (pd_var 1))) (pssd_one (psd_ret (pd_tup pda_nil))) pssd_nil) (pssd_cons (psd_if (pdt_cmp (od_ne G (rmu hr)) (pd_call G c_power_modulo (hr.mono (by decide)) (pda_cons (pd_var 0) (pda_cons (pd_var 1) (pda_cons (pd_op (od_div) (pd_op (od_sub) (pd_call G c_raised (hr.mono (by decide)) (pda_cons (pd_var 0) (pda_cons (pd_call G c_degree (hr.mono (by decide)) (pda_cons (pd_var 2) pda_nil)) pda_nil))) pd_int) pd_int) (pda_cons (pd_var 2) pda_nil))))) (pd_tup (pda_cons pd_int pda_nil))) (pssd_one (psd_ret pd_non)) pssd_nil) (pssd_cons (psd_set 3 hN (pd_call G c_any_root (hr.mono (by decide)) (pda_cons (pd_var 0) (pda_cons (pd_var 1) (pda_cons (pd_var 2) pda_nil))))) (pssd_cons (psd_set 4 hN (pd_call G c_scaled (hr.mono (by decide)) (pda_cons (pd_var 0) (pda_cons (pd_var 3) (pda_cons (pd_neg pd_int) pda_nil))))) (pssd_one (psd_ret (pd_if (pdt_cmp (od_lt) (pd_call G c_index (hr.mono (by decide)) (pda_cons (pd_var 0) (pda_cons (pd_var 3) pda_nil))) (pd_call G c_index (hr.mono (by decide)) (pda_cons (pd_var 0) (pda_cons (pd_var 4) pda_nil)))) (pd_var 3) (pd_var 4)))))))))

def N_p_p : List Str := ["self"]
theorem sc_p_p : FnScope N_p_p ["self"] (defScope (inClass (top 40) 1)) := ⟨rfl, rfl, rfl, by decide +kernel, rfl, by decide +kernel, by decide +kernel⟩
def W_p_p (S : Sps) (xp : Exc → Prop) : WS := (wRet (wFld 0 0 (wVar 0)))
theorem bd_p_p {g : Gx} (S : Sps) (fx : Fx g)  {f : Addr} (cd : Value) (A : Around) (outer : List PySem.Env) (s : Shared) (H : Hp) (E : XK) (xp : Exc → Prop) (hr : Room 1 (dcx g N_p_p "Curve.p" (defScope (inClass (top 40) 1)) f cd A outer s H E).A) : PSsD (dcx g N_p_p "Curve.p" (defScope (inClass (top 40) 1)) f cd A outer s H E) g xp (defBody (inClass (top 40) 1)) (W_p_p S xp) := by
  have G : XG (dcx g N_p_p "Curve.p" (defScope (inClass (top 40) 1)) f cd A outer s H E) g := XG.dcx
  have hN : N_p_p.Nodup := sc_p_p.nd
  have hp : PassesOwn (model g.prog g.w) (dcx g N_p_p "Curve.p" (defScope (inClass (top 40) 1)) f cd A outer s H E).A (dcx g N_p_p "Curve.p" (defScope (inClass (top 40) 1)) f cd A outer s H E).env (dcx g N_p_p "Curve.p" (defScope (inClass (top 40) 1)) f cd A outer s H E).xe := passes_of rfl
  exact (pssd_one (psd_ret (pd_fld 0 0 G fx.Curve rfl (pd_var 0))))

def N_p_f : List Str := ["self"]
theorem sc_p_f : FnScope N_p_f ["self"] (defScope (inClass (top 40) 2)) := ⟨rfl, rfl, rfl, by decide +kernel, rfl, by decide +kernel, by decide +kernel⟩
def W_p_f (S : Sps) (xp : Exc → Prop) : WS := (wRet (wFld 0 1 (wVar 0)))
theorem bd_p_f {g : Gx} (S : Sps) (fx : Fx g)  {f : Addr} (cd : Value) (A : Around) (outer : List PySem.Env) (s : Shared) (H : Hp) (E : XK) (xp : Exc → Prop) (hr : Room 1 (dcx g N_p_f "Curve.f" (defScope (inClass (top 40) 2)) f cd A outer s H E).A) : PSsD (dcx g N_p_f "Curve.f" (defScope (inClass (top 40) 2)) f cd A outer s H E) g xp (defBody (inClass (top 40) 2)) (W_p_f S xp) := by
  have G : XG (dcx g N_p_f "Curve.f" (defScope (inClass (top 40) 2)) f cd A outer s H E) g := XG.dcx
  have hN : N_p_f.Nodup := sc_p_f.nd
  have hp : PassesOwn (model g.prog g.w) (dcx g N_p_f "Curve.f" (defScope (inClass (top 40) 2)) f cd A outer s H E).A (dcx g N_p_f "Curve.f" (defScope (inClass (top 40) 2)) f cd A outer s H E).env (dcx g N_p_f "Curve.f" (defScope (inClass (top 40) 2)) f cd A outer s H E).xe := passes_of rfl
  exact (pssd_one (psd_ret (pd_fld 0 1 G fx.Curve rfl (pd_var 0))))

def N_s_kind_over : List Str := ["curve", "part", "found"]
theorem sc_s_kind_over : FnScope N_s_kind_over ["curve", "part"] (defScope (top 45)) := ⟨rfl, rfl, rfl, by decide +kernel, rfl, by decide +kernel, by decide +kernel⟩
def W_s_kind_over (S : Sps) (xp : Exc → Prop) : WS := (wSeq (wIfS (wNot (wTru (wCall S.s_remainder [] xp (wCons (wProp 0 S.p_p (wVar 0)) (wCons (wProp 0 S.p_f (wVar 0)) (wCons (wVar 1) wNil)))))) (wRet (wTup (wCons (wC (.str "one")) (wCons (wTup wNil) wNil)))) wNext) (wSeq (wSet 2 (wCall S.s_root_modulo [] xp (wCons (wProp 0 S.p_p (wVar 0)) (wCons (wProp 0 S.p_f (wVar 0)) (wCons (wVar 1) wNil))))) (wRet (wIf (wB (wBin kIsN (wVar 2) (wC .non))) (wTup (wCons (wC (.str "still")) (wCons (wC .non) wNil))) (wTup (wCons (wC (.str "two")) (wCons (wVar 2) wNil)))))))
theorem bd_s_kind_over {g : Gx} (S : Sps) (fx : Fx g) (c_p_p : PropG g 2 0 "p" S.p_p) (c_p_f : PropG g 2 0 "f" S.p_f) (c_remainder : FnG g 4 "remainder" 3 [] S.s_remainder) (c_root_modulo : FnG g 7 "root_modulo" 3 [] S.s_root_modulo) {f : Addr} (cd : Value) (A : Around) (outer : List PySem.Env) (s : Shared) (H : Hp) (E : XK) (xp : Exc → Prop) (hr : Room 7 (dcx g N_s_kind_over "kind_over" (defScope (top 45)) f cd A outer s H E).A) : PSsD (dcx g N_s_kind_over "kind_over" (defScope (top 45)) f cd A outer s H E) g xp (defBody (top 45)) (W_s_kind_over S xp) := by
  have G : XG (dcx g N_s_kind_over "kind_over" (defScope (top 45)) f cd A outer s H E) g := XG.dcx
  have hN : N_s_kind_over.Nodup := sc_s_kind_over.nd
  have hp : PassesOwn (model g.prog g.w) (dcx g N_s_kind_over "kind_over" (defScope (top 45)) f cd A outer s H E).A (dcx g N_s_kind_over "kind_over" (defScope (top 45)) f cd A outer s H E).env (dcx g N_s_kind_over "kind_over" (defScope (top 45)) f cd A outer s H E).xe := passes_of rfl
  exact (pssd_cons (psd_if (pdt_not (pdt_tru G (pd_call G c_remainder (hr.mono (by decide)) (pda_cons (pd_prop G fx.Curve c_p_p (hr.mono (by decide)) (pd_var 0)) (pda_cons (pd_prop G fx.Curve c_p_f (hr.mono (by decide)) (pd_var 0)) (pda_cons (pd_var 1) pda_nil)))))) (pssd_one (psd_ret (pd_tup (pda_cons pd_str (pda_cons (pd_tup pda_nil) pda_nil))))) pssd_nil) (pssd_cons (psd_set 2 hN (pd_call G c_root_modulo (hr.mono (by decide)) (pda_cons (pd_prop G fx.Curve c_p_p (hr.mono (by decide)) (pd_var 0)) (pda_cons (pd_prop G fx.Curve c_p_f (hr.mono (by decide)) (pd_var 0)) (pda_cons (pd_var 1) pda_nil))))) (pssd_one (psd_ret (pd_if (pdt_cmp (od_isN) (pd_var 2) pd_non) (pd_tup (pda_cons pd_str (pda_cons pd_non pda_nil))) (pd_tup (pda_cons pd_str (pda_cons (pd_var 2) pda_nil))))))))

def N_s_places_over : List Str := ["curve", "part", "kind", "found"]
theorem sc_s_places_over : FnScope N_s_places_over ["curve", "part"] (defScope (top 46)) := ⟨rfl, rfl, rfl, by decide +kernel, rfl, by decide +kernel, by decide +kernel⟩
def W_s_places_over (S : Sps) (xp : Exc → Prop) : WS := (wSeq (wAsg (wCall S.s_kind_over [] xp (wCons (wVar 0) (wCons (wVar 1) wNil))) (gdTup 2 (gdCons (gdName 2) (gdCons (gdName 3) gdNil)))) (wSeq (wIfS (wB (wBin kEq (wVar 2) (wC (.str "two")))) (wRet (wLst (wCons (wTup (wCons (wC (.str "two")) (wCons (wVar 1) (wCons (wVar 3) wNil)))) (wCons (wTup (wCons (wC (.str "two")) (wCons (wVar 1) (wCons (wCall S.s_scaled [] xp (wCons (wProp 0 S.p_p (wVar 0)) (wCons (wVar 3) (wCons (wUn kNeg (wC (.int 1))) wNil)))) wNil)))) wNil)))) wNext) (wRet (wLst (wCons (wTup (wCons (wVar 2) (wCons (wVar 1) wNil))) wNil)))))
theorem bd_s_places_over {g : Gx} (S : Sps) (fx : Fx g) (c_kind_over : FnG g 8 "kind_over" 2 [] S.s_kind_over) (c_p_p : PropG g 2 0 "p" S.p_p) (c_scaled : FnG g 3 "scaled" 3 [] S.s_scaled) {f : Addr} (cd : Value) (A : Around) (outer : List PySem.Env) (s : Shared) (H : Hp) (E : XK) (xp : Exc → Prop) (hr : Room 8 (dcx g N_s_places_over "places_over" (defScope (top 46)) f cd A outer s H E).A) : PSsD (dcx g N_s_places_over "places_over" (defScope (top 46)) f cd A outer s H E) g xp (defBody (top 46)) (W_s_places_over S xp) := by
  have G : XG (dcx g N_s_places_over "places_over" (defScope (top 46)) f cd A outer s H E) g := XG.dcx
  have hN : N_s_places_over.Nodup := sc_s_places_over.nd
  have hp : PassesOwn (model g.prog g.w) (dcx g N_s_places_over "places_over" (defScope (top 46)) f cd A outer s H E).A (dcx g N_s_places_over "places_over" (defScope (top 46)) f cd A outer s H E).env (dcx g N_s_places_over "places_over" (defScope (top 46)) f cd A outer s H E).xe := passes_of rfl
  exact (pssd_cons (psd_asg (pd_call G c_kind_over (hr.mono (by decide)) (pda_cons (pd_var 0) (pda_cons (pd_var 1) pda_nil))) (pgd_tup G (pgsd_cons (pgd_name 2 hN) (pgsd_cons (pgd_name 3 hN) pgsd_nil)))) (pssd_cons (psd_if (pdt_cmp (od_eq G (rmu hr)) (pd_var 2) pd_str) (pssd_one (psd_ret (pd_lst (pda_cons (pd_tup (pda_cons pd_str (pda_cons (pd_var 1) (pda_cons (pd_var 3) pda_nil)))) (pda_cons (pd_tup (pda_cons pd_str (pda_cons (pd_var 1) (pda_cons (pd_call G c_scaled (hr.mono (by decide)) (pda_cons (pd_prop G fx.Curve c_p_p (hr.mono (by decide)) (pd_var 0)) (pda_cons (pd_var 3) (pda_cons (pd_neg pd_int) pda_nil)))) pda_nil)))) pda_nil))))) pssd_nil) (pssd_one (psd_ret (pd_lst (pda_cons (pd_tup (pda_cons (pd_var 2) (pda_cons (pd_var 1) pda_nil))) pda_nil))))))

def N_s_places : List Str := ["curve", "d", "many", "found", "part", "place"]
theorem sc_s_places : FnScope N_s_places ["curve", "d"] (defScope (top 47)) := ⟨rfl, rfl, rfl, by decide +kernel, rfl, by decide +kernel, by decide +kernel⟩
def W_s_places (S : Sps) (xp : Exc → Prop) : WS := (wSeq (wSet 2 (wCall S.s_raised [] xp (wCons (wProp 0 S.p_p (wVar 0)) (wCons (wVar 1) wNil)))) (wSeq (wIfS (wB (wBin kGt (wVar 2) (wC (.int 5000)))) wDead wNext) (wSeq (wSetL 3 (lIf (wB (wBin kEq (wVar 1) (wC (.int 1)))) (lDisp (wCons (wTup (wCons (wC (.str "end")) wNil)) wNil)) (lDisp wNil))) (wSeq (wIfS (wB (wBin kEq (wBin kMod (wVar 1) (wC (.int 2))) (wC (.int 0)))) (wFor (iSeq (wCall S.s_prime_polynomials [] xp (wCons (wProp 0 S.p_p (wVar 0)) (wCons (wBin kDiv (wVar 1) (wC (.int 2))) wNil)))) (gdName 4) (wIfS (wB (wBin kEq (wBin kIx (wCall S.s_kind_over [] xp (wCons (wVar 0) (wCons (wVar 4) wNil))) (wC (.int 0))) (wC (.str "still")))) (wApp 3 (wTup (wCons (wC (.str "still")) (wCons (wVar 4) wNil)))) wNext)) wNext) (wSeq (wFor (iSeq (wCall S.s_prime_polynomials [] xp (wCons (wProp 0 S.p_p (wVar 0)) (wCons (wVar 1) wNil)))) (gdName 4) (wExt 3 (wOfL (lComp (iSeq (wCall S.s_places_over [] xp (wCons (wVar 0) (wCons (wVar 4) wNil)))) (gdName 5) (wB (wBin kNe (wBin kIx (wVar 5) (wC (.int 0))) (wC (.str "still")))) (wVar 5) [5])))) (wFrz 3 (wRet (wVar 3))))))))
theorem bd_s_places {g : Gx} (S : Sps) (fx : Fx g) (c_p_p : PropG g 2 0 "p" S.p_p) (c_raised : FnG g 2 "raised" 2 [] S.s_raised) (c_prime_polynomials : FnG g 4 "prime_polynomials" 2 [] S.s_prime_polynomials) (c_kind_over : FnG g 8 "kind_over" 2 [] S.s_kind_over) (c_places_over : FnG g 9 "places_over" 2 [] S.s_places_over) {f : Addr} (cd : Value) (A : Around) (outer : List PySem.Env) (s : Shared) (H : Hp) (E : XK) (xp : Exc → Prop) (hr : Room 9 (dcx g N_s_places "places" (defScope (top 47)) f cd A outer s H E).A) : PSsD (dcx g N_s_places "places" (defScope (top 47)) f cd A outer s H E) g xp (defBody (top 47)) (W_s_places S xp) := by
  have G : XG (dcx g N_s_places "places" (defScope (top 47)) f cd A outer s H E) g := XG.dcx
  have hN : N_s_places.Nodup := sc_s_places.nd
  have hp : PassesOwn (model g.prog g.w) (dcx g N_s_places "places" (defScope (top 47)) f cd A outer s H E).A (dcx g N_s_places "places" (defScope (top 47)) f cd A outer s H E).env (dcx g N_s_places "places" (defScope (top 47)) f cd A outer s H E).xe := passes_of rfl
  exact (pssd_cons (psd_set 2 hN (pd_call G c_raised (hr.mono (by decide)) (pda_cons (pd_prop G fx.Curve c_p_p (hr.mono (by decide)) (pd_var 0)) (pda_cons (pd_var 1) pda_nil)))) (pssd_cons (psd_if (pdt_cmp (od_gt) (pd_var 2) (pd_glob fx.LISTED_MOST)) (pssd_one psd_dead) pssd_nil) (pssd_cons (psd_setL 3 hN (pdf_if (pdt_cmp (od_eq G (rmu hr)) (pd_var 1) pd_int) (pdf_disp (pda_cons (pd_tup (pda_cons pd_str pda_nil)) pda_nil)) (pdf_disp pda_nil))) (pssd_cons (psd_if (pdt_cmp (od_eq G (rmu hr)) (pd_op (od_mod) (pd_var 1) pd_int) pd_int) (pssd_one (psd_for hp (pid_seq G (pd_call G c_prime_polynomials (hr.mono (by decide)) (pda_cons (pd_prop G fx.Curve c_p_p (hr.mono (by decide)) (pd_var 0)) (pda_cons (pd_op (od_div) (pd_var 1) pd_int) pda_nil)))) (pgd_name 4 hN) (pssd_one (psd_if (pdt_cmp (od_eq G (rmu hr)) (pd_ix G (pd_call G c_kind_over (hr.mono (by decide)) (pda_cons (pd_var 0) (pda_cons (pd_var 4) pda_nil))) pd_int) pd_str) (pssd_one (psd_app 3 (pd_tup (pda_cons pd_str (pda_cons (pd_var 4) pda_nil))))) pssd_nil)))) pssd_nil) (pssd_cons (psd_for hp (pid_seq G (pd_call G c_prime_polynomials (hr.mono (by decide)) (pda_cons (pd_prop G fx.Curve c_p_p (hr.mono (by decide)) (pd_var 0)) (pda_cons (pd_var 1) pda_nil)))) (pgd_name 4 hN) (pssd_one (psd_ext 3 (pd_ofL (pdf_comp (own0 := [("place", 5)]) hN (pid_seq G (pd_call G c_places_over (hr.mono (by decide)) (pda_cons (pd_var 0) (pda_cons (pd_var 4) pda_nil)))) (by kernel_rfl) (fun s H C cl fp => (pgd_name 5 hN)) (fun s H C cl fp => (pdts_one (pdt_cmp (od_ne (XG.blk G) (rmu hr)) (pd_ix (XG.blk G) (pd_var 5) pd_int) pd_str))) (fun s H C cl fp => (pd_var 5))))))) (pssd_one (psd_frz 3 (psd_ret (pd_var 3)))))))))

def N_s_place_count : List Str := ["curve", "d"]
theorem sc_s_place_count : FnScope N_s_place_count ["curve", "d"] (defScope (top 48)) := ⟨rfl, rfl, rfl, by decide +kernel, rfl, by decide +kernel, by decide +kernel⟩
def W_s_place_count (S : Sps) (xp : Exc → Prop) : WS := (wRet (wBlt cLen (wCons (wCall S.s_places [] xp (wCons (wVar 0) (wCons (wVar 1) wNil))) wNil)))
theorem bd_s_place_count {g : Gx} (S : Sps) (fx : Fx g) (c_places : FnG g 10 "places" 2 [] S.s_places) {f : Addr} (cd : Value) (A : Around) (outer : List PySem.Env) (s : Shared) (H : Hp) (E : XK) (xp : Exc → Prop) (hr : Room 10 (dcx g N_s_place_count "place_count" (defScope (top 48)) f cd A outer s H E).A) : PSsD (dcx g N_s_place_count "place_count" (defScope (top 48)) f cd A outer s H E) g xp (defBody (top 48)) (W_s_place_count S xp) := by
  have G : XG (dcx g N_s_place_count "place_count" (defScope (top 48)) f cd A outer s H E) g := XG.dcx
  have hN : N_s_place_count.Nodup := sc_s_place_count.nd
  have hp : PassesOwn (model g.prog g.w) (dcx g N_s_place_count "place_count" (defScope (top 48)) f cd A outer s H E).A (dcx g N_s_place_count "place_count" (defScope (top 48)) f cd A outer s H E).env (dcx g N_s_place_count "place_count" (defScope (top 48)) f cd A outer s H E).xe := passes_of rfl
  exact (pssd_one (psd_ret (pd_blt G (cd_len G) fx.len (pda_cons (pd_call G c_places (hr.mono (by decide)) (pda_cons (pd_var 0) (pda_cons (pd_var 1) pda_nil))) pda_nil))))

def N_s_zeros_of : List Str := ["curve", "x"]
theorem sc_s_zeros_of : FnScope N_s_zeros_of ["curve"] (defScope (top 50)) := ⟨rfl, rfl, rfl, by decide +kernel, rfl, by decide +kernel, by decide +kernel⟩
def W_s_zeros_of (S : Sps) (xp : Exc → Prop) : WS := (wRet (wOfL (lComp (iR1 (wProp 0 S.p_p (wVar 0))) (gdName 1) (wB (wBin kEq (wCall S.s_value_at [] (fun _ => False) (wCons (wProp 0 S.p_p (wVar 0)) (wCons (wProp 0 S.p_f (wVar 0)) (wCons (wVar 1) wNil)))) (wC (.int 0)))) (wVar 1) [1])))
theorem bd_s_zeros_of {g : Gx} (S : Sps) (fx : Fx g) (c_p_p : PropG g 2 0 "p" S.p_p) (c_p_f : PropG g 2 0 "f" S.p_f) (c_value_at : FnG g 2 "value_at" 3 [] S.s_value_at) {f : Addr} (cd : Value) (A : Around) (outer : List PySem.Env) (s : Shared) (H : Hp) (E : XK) (xp : Exc → Prop) (hr : Room 3 (dcx g N_s_zeros_of "zeros_of" (defScope (top 50)) f cd A outer s H E).A) : PSsD (dcx g N_s_zeros_of "zeros_of" (defScope (top 50)) f cd A outer s H E) g xp (defBody (top 50)) (W_s_zeros_of S xp) := by
  have G : XG (dcx g N_s_zeros_of "zeros_of" (defScope (top 50)) f cd A outer s H E) g := XG.dcx
  have hN : N_s_zeros_of.Nodup := sc_s_zeros_of.nd
  have hp : PassesOwn (model g.prog g.w) (dcx g N_s_zeros_of "zeros_of" (defScope (top 50)) f cd A outer s H E).A (dcx g N_s_zeros_of "zeros_of" (defScope (top 50)) f cd A outer s H E).env (dcx g N_s_zeros_of "zeros_of" (defScope (top 50)) f cd A outer s H E).xe := passes_of rfl
  exact (pssd_one (psd_ret (pd_ofL (pdf_comp (own0 := [("x", 1)]) hN (pid_r1 G (pd_prop G fx.Curve c_p_p (hr.mono (by decide)) (pd_var 0)) fx.range) (by kernel_rfl) (fun s H C cl fp => (pgd_name 1 hN)) (fun s H C cl fp => (pdts_one (pdt_cmp (od_eq (XG.blk G) (rmu hr)) (pd_call (XG.blk G) c_value_at (hr.mono (by decide)) (pda_cons (pd_prop (XG.blk G) fx.Curve c_p_p (hr.mono (by decide)) (pd_var 0)) (pda_cons (pd_prop (XG.blk G) fx.Curve c_p_f (hr.mono (by decide)) (pd_var 0)) (pda_cons (pd_var 1) pda_nil)))) pd_int))) (fun s H C cl fp => (pd_var 1))))))

def N_s_turned_numbers : List Str := ["p", "row", "k", "found", "factor", "item"]
theorem sc_s_turned_numbers : FnScope N_s_turned_numbers ["p", "row", "k"] (defScope (top 51)) := ⟨rfl, rfl, rfl, by decide +kernel, rfl, by decide +kernel, by decide +kernel⟩
def W_s_turned_numbers (S : Sps) (xp : Exc → Prop) : WS := (wSeq (wSetL 3 (lDisp wNil)) (wSeq (wSet 4 (wC (.int 1))) (wSeq (wFor (iSeq (wVar 1)) (gdName 5) (wSeq (wApp 3 (wBin kMod (wBin kMul (wVar 5) (wVar 4)) (wVar 0))) (wSet 4 (wBin kMod (wBin kMul (wVar 4) (wVar 2)) (wVar 0))))) (wFrz 3 (wRet (wVar 3))))))
theorem bd_s_turned_numbers {g : Gx} (S : Sps) (fx : Fx g)  {f : Addr} (cd : Value) (A : Around) (outer : List PySem.Env) (s : Shared) (H : Hp) (E : XK) (xp : Exc → Prop) (hr : Room 1 (dcx g N_s_turned_numbers "turned_numbers" (defScope (top 51)) f cd A outer s H E).A) : PSsD (dcx g N_s_turned_numbers "turned_numbers" (defScope (top 51)) f cd A outer s H E) g xp (defBody (top 51)) (W_s_turned_numbers S xp) := by
  have G : XG (dcx g N_s_turned_numbers "turned_numbers" (defScope (top 51)) f cd A outer s H E) g := XG.dcx
  have hN : N_s_turned_numbers.Nodup := sc_s_turned_numbers.nd
  have hp : PassesOwn (model g.prog g.w) (dcx g N_s_turned_numbers "turned_numbers" (defScope (top 51)) f cd A outer s H E).A (dcx g N_s_turned_numbers "turned_numbers" (defScope (top 51)) f cd A outer s H E).env (dcx g N_s_turned_numbers "turned_numbers" (defScope (top 51)) f cd A outer s H E).xe := passes_of rfl
  exact (pssd_cons (psd_setL 3 hN (pdf_disp pda_nil)) (pssd_cons (psd_set 4 hN pd_int) (pssd_cons (psd_for hp (pid_seq G (pd_var 1)) (pgd_name 5 hN) (pssd_cons (psd_app 3 (pd_op (od_mod) (pd_op (od_mul G) (pd_var 5) (pd_var 4)) (pd_var 0))) (pssd_one (psd_set 4 hN (pd_op (od_mod) (pd_op (od_mul G) (pd_var 4) (pd_var 2)) (pd_var 0)))))) (pssd_one (psd_frz 3 (psd_ret (pd_var 3)))))))

def N_s_ways : List Str := ["p", "left", "right", "factor", "e", "one", "two"]
theorem sc_s_ways : FnScope N_s_ways ["p", "left", "right"] (defScope (top 52)) := ⟨rfl, rfl, rfl, by decide +kernel, rfl, by decide +kernel, by decide +kernel⟩
def W_s_ways (S : Sps) (xp : Exc → Prop) : WS := (wSeq (wSet 3 (wBin kMod (wBin kMul (wBin kIx (wVar 1) (wUn kNeg (wC (.int 1)))) (wCall S.s_inverse [] xp (wCons (wVar 0) (wCons (wBin kIx (wVar 2) (wUn kNeg (wC (.int 1)))) wNil)))) (wVar 0))) (wSeq (wIfS (wTru (wBlt cAny (wCons (wOfL (lComp (iZpD (wVar 1) (wVar 2)) (gdTup 2 (gdCons (gdName 5) (gdCons (gdName 6) gdNil))) wYes (wBin kNe (wBin kMod (wBin kSub (wVar 5) (wBin kMul (wVar 3) (wVar 6))) (wVar 0)) (wC (.int 0))) [5, 6])) wNil))) (wRet (wLst wNil)) wNext) (wSeq (wSet 4 (wCall S.s_root [] xp (wCons (wVar 0) (wCons (wVar 3) wNil)))) (wRet (wIf (wB (wBin kIsN (wVar 4) (wC .non))) (wLst wNil) (wLst (wCons (wVar 4) (wCons (wBin kSub (wVar 0) (wVar 4)) wNil))))))))
theorem bd_s_ways {g : Gx} (S : Sps) (fx : Fx g) (c_inverse : FnG g 2 "inverse" 2 [] S.s_inverse) (c_root : FnG g 2 "root" 2 [] S.s_root) {f : Addr} (cd : Value) (A : Around) (outer : List PySem.Env) (s : Shared) (H : Hp) (E : XK) (xp : Exc → Prop) (hr : Room 2 (dcx g N_s_ways "ways" (defScope (top 52)) f cd A outer s H E).A) : PSsD (dcx g N_s_ways "ways" (defScope (top 52)) f cd A outer s H E) g xp (defBody (top 52)) (W_s_ways S xp) := by
  have G : XG (dcx g N_s_ways "ways" (defScope (top 52)) f cd A outer s H E) g := XG.dcx
  have hN : N_s_ways.Nodup := sc_s_ways.nd
  have hp : PassesOwn (model g.prog g.w) (dcx g N_s_ways "ways" (defScope (top 52)) f cd A outer s H E).A (dcx g N_s_ways "ways" (defScope (top 52)) f cd A outer s H E).env (dcx g N_s_ways "ways" (defScope (top 52)) f cd A outer s H E).xe := passes_of rfl
  exact (pssd_cons (psd_set 3 hN (pd_op (od_mod) (pd_op (od_mul G) (pd_ix G (pd_var 1) (pd_neg pd_int)) (pd_call G c_inverse (hr.mono (by decide)) (pda_cons (pd_var 0) (pda_cons (pd_ix G (pd_var 2) (pd_neg pd_int)) pda_nil)))) (pd_var 0))) (pssd_cons (psd_if (pdt_tru G (pd_blt G (cd_any G) fx.any (pda_cons (pd_ofL (pdf_comp (own0 := [("one", 5), ("two", 6)]) hN (pid_zp G (pd_var 1) (pd_var 2) fx.zip) (by kernel_rfl) (fun s H C cl fp => (pgd_tup (XG.blk G) (pgsd_cons (pgd_name 5 hN) (pgsd_cons (pgd_name 6 hN) pgsd_nil)))) (fun s H C cl fp => pdts_nil) (fun s H C cl fp => (pd_cmp (od_ne (XG.blk G) (rmu hr)) (pd_op (od_mod) (pd_op (od_sub) (pd_var 5) (pd_op (od_mul (XG.blk G)) (pd_var 3) (pd_var 6))) (pd_var 0)) pd_int)))) pda_nil))) (pssd_one (psd_ret (pd_lst pda_nil))) pssd_nil) (pssd_cons (psd_set 4 hN (pd_call G c_root (hr.mono (by decide)) (pda_cons (pd_var 0) (pda_cons (pd_var 3) pda_nil)))) (pssd_one (psd_ret (pd_if (pdt_cmp (od_isN) (pd_var 4) pd_non) (pd_lst pda_nil) (pd_lst (pda_cons (pd_var 4) (pda_cons (pd_op (od_sub) (pd_var 0) (pd_var 4)) pda_nil)))))))))

def N_s_plain_turns : List Str := ["first", "second", "p", "found", "b", "row", "a", "e"]
theorem sc_s_plain_turns : FnScope N_s_plain_turns ["first", "second"] (defScope (top 53)) := ⟨rfl, rfl, rfl, by decide +kernel, rfl, by decide +kernel, by decide +kernel⟩
def W_s_plain_turns (S : Sps) (xp : Exc → Prop) : WS := (wSeq (wSet 2 (wProp 0 S.p_p (wVar 0))) (wSeq (wSetL 3 (lDisp wNil)) (wSeq (wFor (iR1 (wVar 2)) (gdName 4) (wSeq (wSet 5 (wCall S.s_put_in [] xp (wCons (wVar 2) (wCons (wProp 0 S.p_f (wVar 1)) (wCons (wCall S.s_trimmed [] xp (wCons (wVar 2) (wCons (wLst (wCons (wVar 4) (wCons (wC (.int 1)) wNil))) wNil))) wNil))))) (wFor (iR2 (wC (.int 1)) (wVar 2)) (gdName 6) (wExt 3 (wOfL (lComp (iSeq (wCall S.s_ways [] xp (wCons (wVar 2) (wCons (wCall S.s_turned_numbers [] xp (wCons (wVar 2) (wCons (wVar 5) (wCons (wVar 6) wNil)))) (wCons (wProp 0 S.p_f (wVar 0)) wNil))))) (gdName 7) wYes (wTup (wCons (wVar 6) (wCons (wVar 4) (wCons (wC (.int 0)) (wCons (wC (.int 1)) (wCons (wVar 7) wNil)))))) [7])))))) (wFrz 3 (wRet (wVar 3))))))
theorem bd_s_plain_turns {g : Gx} (S : Sps) (fx : Fx g) (c_p_p : PropG g 2 0 "p" S.p_p) (c_p_f : PropG g 2 0 "f" S.p_f) (c_trimmed : FnG g 2 "trimmed" 2 [] S.s_trimmed) (c_put_in : FnG g 5 "put_in" 3 [] S.s_put_in) (c_turned_numbers : FnG g 2 "turned_numbers" 3 [] S.s_turned_numbers) (c_ways : FnG g 3 "ways" 3 [] S.s_ways) {f : Addr} (cd : Value) (A : Around) (outer : List PySem.Env) (s : Shared) (H : Hp) (E : XK) (xp : Exc → Prop) (hr : Room 5 (dcx g N_s_plain_turns "plain_turns" (defScope (top 53)) f cd A outer s H E).A) : PSsD (dcx g N_s_plain_turns "plain_turns" (defScope (top 53)) f cd A outer s H E) g xp (defBody (top 53)) (W_s_plain_turns S xp) := by
  have G : XG (dcx g N_s_plain_turns "plain_turns" (defScope (top 53)) f cd A outer s H E) g := XG.dcx
  have hN : N_s_plain_turns.Nodup := sc_s_plain_turns.nd
  have hp : PassesOwn (model g.prog g.w) (dcx g N_s_plain_turns "plain_turns" (defScope (top 53)) f cd A outer s H E).A (dcx g N_s_plain_turns "plain_turns" (defScope (top 53)) f cd A outer s H E).env (dcx g N_s_plain_turns "plain_turns" (defScope (top 53)) f cd A outer s H E).xe := passes_of rfl
  exact (pssd_cons (psd_set 2 hN (pd_prop G fx.Curve c_p_p (hr.mono (by decide)) (pd_var 0))) (pssd_cons (psd_setL 3 hN (pdf_disp pda_nil)) (pssd_cons (psd_for hp (pid_r1 G (pd_var 2) fx.range) (pgd_name 4 hN) (pssd_cons (psd_set 5 hN (pd_call G c_put_in (hr.mono (by decide)) (pda_cons (pd_var 2) (pda_cons (pd_prop G fx.Curve c_p_f (hr.mono (by decide)) (pd_var 1)) (pda_cons (pd_call G c_trimmed (hr.mono (by decide)) (pda_cons (pd_var 2) (pda_cons (pd_lst (pda_cons (pd_var 4) (pda_cons pd_int pda_nil))) pda_nil))) pda_nil))))) (pssd_one (psd_for hp (pid_r2 G pd_int (pd_var 2) fx.range) (pgd_name 6 hN) (pssd_one (psd_ext 3 (pd_ofL (pdf_comp (own0 := [("e", 7)]) hN (pid_seq G (pd_call G c_ways (hr.mono (by decide)) (pda_cons (pd_var 2) (pda_cons (pd_call G c_turned_numbers (hr.mono (by decide)) (pda_cons (pd_var 2) (pda_cons (pd_var 5) (pda_cons (pd_var 6) pda_nil)))) (pda_cons (pd_prop G fx.Curve c_p_f (hr.mono (by decide)) (pd_var 0)) pda_nil))))) (by kernel_rfl) (fun s H C cl fp => (pgd_name 7 hN)) (fun s H C cl fp => pdts_nil) (fun s H C cl fp => (pd_tup (pda_cons (pd_var 6) (pda_cons (pd_var 4) (pda_cons pd_int (pda_cons pd_int (pda_cons (pd_var 7) pda_nil))))))))))))))) (pssd_one (psd_frz 3 (psd_ret (pd_var 3)))))))

def N_s_other_turns : List Str := ["first", "second", "p", "found", "x", "right", "a", "row", "k", "left", "e"]
theorem sc_s_other_turns : FnScope N_s_other_turns ["first", "second"] (defScope (top 54)) := ⟨rfl, rfl, rfl, by decide +kernel, rfl, by decide +kernel, by decide +kernel⟩
def W_s_other_turns (S : Sps) (xp : Exc → Prop) : WS := (wSeq (wSet 2 (wProp 0 S.p_p (wVar 0))) (wSeq (wSetL 3 (lDisp wNil)) (wSeq (wFor (iSeq (wCall S.s_zeros_of [] xp (wCons (wVar 0) wNil))) (gdName 4) (wSeq (wSet 5 (wSlice3 (wCall S.s_put_in [] xp (wCons (wVar 2) (wCons (wProp 0 S.p_f (wVar 0)) (wCons (wCall S.s_trimmed [] xp (wCons (wVar 2) (wCons (wLst (wCons (wVar 4) (wCons (wC (.int 1)) wNil))) wNil))) wNil)))) wON (wOS (wC (.int 0))) (wOS (wUn kNeg (wC (.int 1)))))) (wFor (iSeq (wCall S.s_zeros_of [] xp (wCons (wVar 1) wNil))) (gdName 6) (wSeq (wSet 7 (wCall S.s_put_in [] xp (wCons (wVar 2) (wCons (wProp 0 S.p_f (wVar 1)) (wCons (wCall S.s_trimmed [] xp (wCons (wVar 2) (wCons (wLst (wCons (wVar 6) (wCons (wC (.int 1)) wNil))) wNil))) wNil))))) (wFor (iR2 (wC (.int 1)) (wVar 2)) (gdName 8) (wSeq (wSet 9 (wSlice (wCall S.s_turned_numbers [] xp (wCons (wVar 2) (wCons (wVar 7) (wCons (wVar 8) wNil)))) (wOS (wC (.int 1))) wON)) (wExt 3 (wOfL (lComp (iSeq (wCall S.s_ways [] xp (wCons (wVar 2) (wCons (wVar 9) (wCons (wVar 5) wNil))))) (gdName 10) wYes (wTup (wCons (wVar 6) (wCons (wBin kMod (wBin kSub (wVar 8) (wBin kMul (wVar 6) (wVar 4))) (wVar 2)) (wCons (wC (.int 1)) (wCons (wBin kMod (wUn kNeg (wVar 4)) (wVar 2)) (wCons (wVar 10) wNil)))))) [10]))))))))) (wFrz 3 (wRet (wVar 3))))))
theorem bd_s_other_turns {g : Gx} (S : Sps) (fx : Fx g) (c_p_p : PropG g 2 0 "p" S.p_p) (c_zeros_of : FnG g 4 "zeros_of" 1 [] S.s_zeros_of) (c_p_f : PropG g 2 0 "f" S.p_f) (c_trimmed : FnG g 2 "trimmed" 2 [] S.s_trimmed) (c_put_in : FnG g 5 "put_in" 3 [] S.s_put_in) (c_turned_numbers : FnG g 2 "turned_numbers" 3 [] S.s_turned_numbers) (c_ways : FnG g 3 "ways" 3 [] S.s_ways) {f : Addr} (cd : Value) (A : Around) (outer : List PySem.Env) (s : Shared) (H : Hp) (E : XK) (xp : Exc → Prop) (hr : Room 5 (dcx g N_s_other_turns "other_turns" (defScope (top 54)) f cd A outer s H E).A) : PSsD (dcx g N_s_other_turns "other_turns" (defScope (top 54)) f cd A outer s H E) g xp (defBody (top 54)) (W_s_other_turns S xp) := by
  have G : XG (dcx g N_s_other_turns "other_turns" (defScope (top 54)) f cd A outer s H E) g := XG.dcx
  have hN : N_s_other_turns.Nodup := sc_s_other_turns.nd
  have hp : PassesOwn (model g.prog g.w) (dcx g N_s_other_turns "other_turns" (defScope (top 54)) f cd A outer s H E).A (dcx g N_s_other_turns "other_turns" (defScope (top 54)) f cd A outer s H E).env (dcx g N_s_other_turns "other_turns" (defScope (top 54)) f cd A outer s H E).xe := passes_of rfl
  exact (pssd_cons (psd_set 2 hN (pd_prop G fx.Curve c_p_p (hr.mono (by decide)) (pd_var 0))) (pssd_cons (psd_setL 3 hN (pdf_disp pda_nil)) (pssd_cons (psd_for hp (pid_seq G (pd_call G c_zeros_of (hr.mono (by decide)) (pda_cons (pd_var 0) pda_nil))) (pgd_name 4 hN) (pssd_cons (psd_set 5 hN (pd_slice3 G true (fun _ _ => rfl) (pd_call G c_put_in (hr.mono (by decide)) (pda_cons (pd_var 2) (pda_cons (pd_prop G fx.Curve c_p_f (hr.mono (by decide)) (pd_var 0)) (pda_cons (pd_call G c_trimmed (hr.mono (by decide)) (pda_cons (pd_var 2) (pda_cons (pd_lst (pda_cons (pd_var 4) (pda_cons pd_int pda_nil))) pda_nil))) pda_nil)))) pdo_none (pdo_some pd_int) (pdo_some (pd_neg pd_int)))) (pssd_one (psd_for hp (pid_seq G (pd_call G c_zeros_of (hr.mono (by decide)) (pda_cons (pd_var 1) pda_nil))) (pgd_name 6 hN) (pssd_cons (psd_set 7 hN (pd_call G c_put_in (hr.mono (by decide)) (pda_cons (pd_var 2) (pda_cons (pd_prop G fx.Curve c_p_f (hr.mono (by decide)) (pd_var 1)) (pda_cons (pd_call G c_trimmed (hr.mono (by decide)) (pda_cons (pd_var 2) (pda_cons (pd_lst (pda_cons (pd_var 6) (pda_cons pd_int pda_nil))) pda_nil))) pda_nil))))) (pssd_one (psd_for hp (pid_r2 G pd_int (pd_var 2) fx.range) (pgd_name 8 hN) (pssd_cons (psd_set 9 hN (pd_slice G (pd_call G c_turned_numbers (hr.mono (by decide)) (pda_cons (pd_var 2) (pda_cons (pd_var 7) (pda_cons (pd_var 8) pda_nil)))) (pdo_some pd_int) pdo_none)) (pssd_one (psd_ext 3 (pd_ofL (pdf_comp (own0 := [("e", 10)]) hN (pid_seq G (pd_call G c_ways (hr.mono (by decide)) (pda_cons (pd_var 2) (pda_cons (pd_var 9) (pda_cons (pd_var 5) pda_nil))))) (by kernel_rfl) (fun s H C cl fp => (pgd_name 10 hN)) (fun s H C cl fp => pdts_nil) (fun s H C cl fp => (pd_tup (pda_cons (pd_var 6) (pda_cons (pd_op (od_mod) (pd_op (od_sub) (pd_var 8) (pd_op (od_mul (XG.blk G)) (pd_var 6) (pd_var 4))) (pd_var 2)) (pda_cons pd_int (pda_cons (pd_op (od_mod) (pd_neg (pd_var 4)) (pd_var 2)) (pda_cons (pd_var 10) pda_nil))))))))))))))))))) (pssd_one (psd_frz 3 (psd_ret (pd_var 3)))))))

def N_p_genus : List Str := ["self"]
theorem sc_p_genus : FnScope N_p_genus ["self"] (defScope (inClass (top 40) 3)) := ⟨rfl, rfl, rfl, by decide +kernel, rfl, by decide +kernel, by decide +kernel⟩
def W_p_genus (S : Sps) (xp : Exc → Prop) : WS := (wRet (wBin kDiv (wCall S.s_degree [] xp (wCons (wFld 0 1 (wVar 0)) wNil)) (wC (.int 2))))
theorem bd_p_genus {g : Gx} (S : Sps) (fx : Fx g) (c_degree : FnG g 2 "degree" 1 [] S.s_degree) {f : Addr} (cd : Value) (A : Around) (outer : List PySem.Env) (s : Shared) (H : Hp) (E : XK) (xp : Exc → Prop) (hr : Room 2 (dcx g N_p_genus "Curve.genus" (defScope (inClass (top 40) 3)) f cd A outer s H E).A) : PSsD (dcx g N_p_genus "Curve.genus" (defScope (inClass (top 40) 3)) f cd A outer s H E) g xp (defBody (inClass (top 40) 3)) (W_p_genus S xp) := by
  have G : XG (dcx g N_p_genus "Curve.genus" (defScope (inClass (top 40) 3)) f cd A outer s H E) g := XG.dcx
  have hN : N_p_genus.Nodup := sc_p_genus.nd
  have hp : PassesOwn (model g.prog g.w) (dcx g N_p_genus "Curve.genus" (defScope (inClass (top 40) 3)) f cd A outer s H E).A (dcx g N_p_genus "Curve.genus" (defScope (inClass (top 40) 3)) f cd A outer s H E).env (dcx g N_p_genus "Curve.genus" (defScope (inClass (top 40) 3)) f cd A outer s H E).xe := passes_of rfl
  exact (pssd_one (psd_ret (pd_op (od_div) (pd_call G c_degree (hr.mono (by decide)) (pda_cons (pd_fld 0 1 G fx.Curve rfl (pd_var 0)) pda_nil)) pd_int)))

def N_s_turns : List Str := ["first", "second"]
theorem sc_s_turns : FnScope N_s_turns ["first", "second"] (defScope (top 55)) := ⟨rfl, rfl, rfl, by decide +kernel, rfl, by decide +kernel, by decide +kernel⟩
def W_s_turns (S : Sps) (xp : Exc → Prop) : WS := (wSeq (wIfS (wB (wBin kNe (wTup (wCons (wProp 0 S.p_p (wVar 0)) (wCons (wProp 0 S.p_genus (wVar 0)) wNil))) (wTup (wCons (wProp 0 S.p_p (wVar 1)) (wCons (wProp 0 S.p_genus (wVar 1)) wNil))))) (wRet (wLst wNil)) wNext) (wRet (wBlt cSortX (wCons (wBin kAdd (wCall S.s_plain_turns [] xp (wCons (wVar 0) (wCons (wVar 1) wNil))) (wCall S.s_other_turns [] xp (wCons (wVar 0) (wCons (wVar 1) wNil)))) wNil))))
theorem bd_s_turns {g : Gx} (S : Sps) (fx : Fx g) (c_p_p : PropG g 2 0 "p" S.p_p) (c_p_genus : PropG g 3 0 "genus" S.p_genus) (c_plain_turns : FnG g 6 "plain_turns" 2 [] S.s_plain_turns) (c_other_turns : FnG g 6 "other_turns" 2 [] S.s_other_turns) {f : Addr} (cd : Value) (A : Around) (outer : List PySem.Env) (s : Shared) (H : Hp) (E : XK) (xp : Exc → Prop) (hr : Room 6 (dcx g N_s_turns "turns" (defScope (top 55)) f cd A outer s H E).A) : PSsD (dcx g N_s_turns "turns" (defScope (top 55)) f cd A outer s H E) g xp (defBody (top 55)) (W_s_turns S xp) := by
  have G : XG (dcx g N_s_turns "turns" (defScope (top 55)) f cd A outer s H E) g := XG.dcx
  have hN : N_s_turns.Nodup := sc_s_turns.nd
  have hp : PassesOwn (model g.prog g.w) (dcx g N_s_turns "turns" (defScope (top 55)) f cd A outer s H E).A (dcx g N_s_turns "turns" (defScope (top 55)) f cd A outer s H E).env (dcx g N_s_turns "turns" (defScope (top 55)) f cd A outer s H E).xe := passes_of rfl
  exact (pssd_cons (psd_if (pdt_cmp (od_ne G (rmu hr)) (pd_tup (pda_cons (pd_prop G fx.Curve c_p_p (hr.mono (by decide)) (pd_var 0)) (pda_cons (pd_prop G fx.Curve c_p_genus (hr.mono (by decide)) (pd_var 0)) pda_nil))) (pd_tup (pda_cons (pd_prop G fx.Curve c_p_p (hr.mono (by decide)) (pd_var 1)) (pda_cons (pd_prop G fx.Curve c_p_genus (hr.mono (by decide)) (pd_var 1)) pda_nil)))) (pssd_one (psd_ret (pd_lst pda_nil))) pssd_nil) (pssd_one (psd_ret (pd_blt G (cd_sortX G) fx.sorted (pda_cons (pd_op (od_add G) (pd_call G c_plain_turns (hr.mono (by decide)) (pda_cons (pd_var 0) (pda_cons (pd_var 1) pda_nil))) (pd_call G c_other_turns (hr.mono (by decide)) (pda_cons (pd_var 0) (pda_cons (pd_var 1) pda_nil)))) pda_nil)))))

def N_s_turn_between : List Str := ["first", "second", "found"]
theorem sc_s_turn_between : FnScope N_s_turn_between ["first", "second"] (defScope (top 56)) := ⟨rfl, rfl, rfl, by decide +kernel, rfl, by decide +kernel, by decide +kernel⟩
def W_s_turn_between (S : Sps) (xp : Exc → Prop) : WS := (wSeq (wSet 2 (wCall S.s_turns [] xp (wCons (wVar 0) (wCons (wVar 1) wNil)))) (wRet (wIf (wTru (wVar 2)) (wBin kIx (wVar 2) (wC (.int 0))) (wC .non))))
theorem bd_s_turn_between {g : Gx} (S : Sps) (fx : Fx g) (c_turns : FnG g 7 "turns" 2 [] S.s_turns) {f : Addr} (cd : Value) (A : Around) (outer : List PySem.Env) (s : Shared) (H : Hp) (E : XK) (xp : Exc → Prop) (hr : Room 7 (dcx g N_s_turn_between "turn_between" (defScope (top 56)) f cd A outer s H E).A) : PSsD (dcx g N_s_turn_between "turn_between" (defScope (top 56)) f cd A outer s H E) g xp (defBody (top 56)) (W_s_turn_between S xp) := by
  have G : XG (dcx g N_s_turn_between "turn_between" (defScope (top 56)) f cd A outer s H E) g := XG.dcx
  have hN : N_s_turn_between.Nodup := sc_s_turn_between.nd
  have hp : PassesOwn (model g.prog g.w) (dcx g N_s_turn_between "turn_between" (defScope (top 56)) f cd A outer s H E).A (dcx g N_s_turn_between "turn_between" (defScope (top 56)) f cd A outer s H E).env (dcx g N_s_turn_between "turn_between" (defScope (top 56)) f cd A outer s H E).xe := passes_of rfl
  exact (pssd_cons (psd_set 2 hN (pd_call G c_turns (hr.mono (by decide)) (pda_cons (pd_var 0) (pda_cons (pd_var 1) pda_nil)))) (pssd_one (psd_ret (pd_if (pdt_tru G (pd_var 2)) (pd_ix G (pd_var 2) pd_int) pd_non))))

def N_m_Curve : List Str := ["self", "p", "f"]
theorem sc_m_Curve : FnScope N_m_Curve ["self", "p", "f"] (defScope (inClass (top 40) 0)) := ⟨rfl, rfl, rfl, by decide +kernel, rfl, by decide +kernel, by decide +kernel⟩
def W1_m_Curve (S : Sps) (xp : Exc → Prop) : WS := (wIfS (wNot (wTru (wCall S.s_is_prime [] xp (wCons (wVar 1) wNil)))) wDead wNext)
def W2_m_Curve (S : Sps) (xp : Exc → Prop) : WS := (wIfS (wOr (wNot (wTru (wCall S.s_is_polynomial [] xp (wCons (wVar 1) (wCons (wVar 2) wNil))))) (wOr (wB (wBin kNotIn (wCall S.s_degree [] xp (wCons (wVar 2) wNil)) (wC (.tup [.int 3, .int 5, .int 7, .int 9])))) (wB (wBin kGt (wCall S.s_degree [] xp (wCons (wCall S.s_common [] xp (wCons (wVar 1) (wCons (wVar 2) (wCons (wCall S.s_slope [] xp (wCons (wVar 1) (wCons (wVar 2) wNil))) wNil)))) wNil)) (wC (.int 0)))))) wDead wNext)
theorem bd_m_Curve {g : Gx} (S : Sps) (fx : Fx g) (c_is_prime : FnG g 4 "is_prime" 1 [] S.s_is_prime) (c_is_polynomial : FnG g 4 "is_polynomial" 2 [] S.s_is_polynomial) (c_degree : FnG g 2 "degree" 1 [] S.s_degree) (c_slope : FnG g 3 "slope" 2 [] S.s_slope) (c_common : FnG g 5 "common" 3 [] S.s_common) {f : Addr} (cd : Value) (A : Around) (outer : List PySem.Env) (s : Shared) (H : Hp) (E : XK) (xp : Exc → Prop) (hr : Room 5 (dcx g N_m_Curve "Curve.__init__" (defScope (inClass (top 40) 0)) f cd A outer s H E).A) : PSD (dcx g N_m_Curve "Curve.__init__" (defScope (inClass (top 40) 0)) f cd A outer s H E) g xp (bodyAt (inClass (top 40) 0) 0) (W1_m_Curve S xp) ∧ PSD (dcx g N_m_Curve "Curve.__init__" (defScope (inClass (top 40) 0)) f cd A outer s H E) g xp (bodyAt (inClass (top 40) 0) 1) (W2_m_Curve S xp) := by
  have G : XG (dcx g N_m_Curve "Curve.__init__" (defScope (inClass (top 40) 0)) f cd A outer s H E) g := XG.dcx
  have hN : N_m_Curve.Nodup := sc_m_Curve.nd
  have hp : PassesOwn (model g.prog g.w) (dcx g N_m_Curve "Curve.__init__" (defScope (inClass (top 40) 0)) f cd A outer s H E).A (dcx g N_m_Curve "Curve.__init__" (defScope (inClass (top 40) 0)) f cd A outer s H E).env (dcx g N_m_Curve "Curve.__init__" (defScope (inClass (top 40) 0)) f cd A outer s H E).xe := passes_of rfl
  exact ⟨(psd_if (pdt_not (pdt_tru G (pd_call G c_is_prime (hr.mono (by decide)) (pda_cons (pd_var 1) pda_nil)))) (pssd_one psd_dead) pssd_nil), (psd_if (pdt_w (pdw_or (pdt_not (pdt_tru G (pd_call G c_is_polynomial (hr.mono (by decide)) (pda_cons (pd_var 1) (pda_cons (pd_var 2) pda_nil))))) (pdw_or (pdt_cmp (od_notIn G (rmu hr)) (pd_call G c_degree (hr.mono (by decide)) (pda_cons (pd_var 2) pda_nil)) (pd_glob fx.DEGREES)) (pdw_or1 (pdt_cmp (od_gt) (pd_call G c_degree (hr.mono (by decide)) (pda_cons (pd_call G c_common (hr.mono (by decide)) (pda_cons (pd_var 1) (pda_cons (pd_var 2) (pda_cons (pd_call G c_slope (hr.mono (by decide)) (pda_cons (pd_var 1) (pda_cons (pd_var 2) pda_nil))) pda_nil)))) pda_nil)) pd_int))))) (pssd_one psd_dead) pssd_nil)⟩

def N_s_twin : List Str := ["curve", "part", "x"]
theorem sc_s_twin : FnScope N_s_twin ["curve"] (defScope (top 57)) := ⟨rfl, rfl, rfl, by decide +kernel, rfl, by decide +kernel, by decide +kernel⟩
def W_s_twin (S : Sps) (xp : Exc → Prop) : WS := (wSeq (wSet 1 (wBin kIx (wOfL (lComp (iR2 (wC (.int 1)) (wProp 0 S.p_p (wVar 0))) (gdName 2) (wB (wBin kIsN (wCall S.s_root [] (fun _ => False) (wCons (wProp 0 S.p_p (wVar 0)) (wCons (wVar 2) wNil))) (wC .non))) (wVar 2) [2])) (wC (.int 0)))) (wRet (wCall S.m_Curve [] xp (wCons (wProp 0 S.p_p (wVar 0)) (wCons (wCall S.s_scaled [] xp (wCons (wProp 0 S.p_p (wVar 0)) (wCons (wProp 0 S.p_f (wVar 0)) (wCons (wVar 1) wNil)))) wNil)))))
theorem bd_s_twin {g : Gx} (S : Sps) (fx : Fx g) (c_p_p : PropG g 2 0 "p" S.p_p) (c_root : FnG g 2 "root" 2 [] S.s_root) (c_p_f : PropG g 2 0 "f" S.p_f) (c_scaled : FnG g 3 "scaled" 3 [] S.s_scaled) (c_m_Curve : MkG g 6 "Curve" 0 2 S.m_Curve) {f : Addr} (cd : Value) (A : Around) (outer : List PySem.Env) (s : Shared) (H : Hp) (E : XK) (xp : Exc → Prop) (hr : Room 7 (dcx g N_s_twin "twin" (defScope (top 57)) f cd A outer s H E).A) : PSsD (dcx g N_s_twin "twin" (defScope (top 57)) f cd A outer s H E) g xp (defBody (top 57)) (W_s_twin S xp) := by
  have G : XG (dcx g N_s_twin "twin" (defScope (top 57)) f cd A outer s H E) g := XG.dcx
  have hN : N_s_twin.Nodup := sc_s_twin.nd
  have hp : PassesOwn (model g.prog g.w) (dcx g N_s_twin "twin" (defScope (top 57)) f cd A outer s H E).A (dcx g N_s_twin "twin" (defScope (top 57)) f cd A outer s H E).env (dcx g N_s_twin "twin" (defScope (top 57)) f cd A outer s H E).xe := passes_of rfl
  exact (pssd_cons (psd_set 1 hN (pd_ix G (pd_ofL (pdf_comp (own0 := [("x", 2)]) hN (pid_r2 G pd_int (pd_prop G fx.Curve c_p_p (hr.mono (by decide)) (pd_var 0)) fx.range) (by kernel_rfl) (fun s H C cl fp => (pgd_name 2 hN)) (fun s H C cl fp => (pdts_one (pdt_cmp (od_isN) (pd_call (XG.blk G) c_root (hr.mono (by decide)) (pda_cons (pd_prop (XG.blk G) fx.Curve c_p_p (hr.mono (by decide)) (pd_var 0)) (pda_cons (pd_var 2) pda_nil))) pd_non))) (fun s H C cl fp => (pd_var 2)))) pd_int)) (pssd_one (psd_ret (pd_make G c_m_Curve (hr.mono (by decide)) (pda_cons (pd_prop G fx.Curve c_p_p (hr.mono (by decide)) (pd_var 0)) (pda_cons (pd_call G c_scaled (hr.mono (by decide)) (pda_cons (pd_prop G fx.Curve c_p_p (hr.mono (by decide)) (pd_var 0)) (pda_cons (pd_prop G fx.Curve c_p_f (hr.mono (by decide)) (pd_var 0)) (pda_cons (pd_var 1) pda_nil)))) pda_nil))))))

def N_s_list_made : List Str := ["q", "counts", "found", "n", "i", "total"]
theorem sc_s_list_made : FnScope N_s_list_made ["q", "counts"] (defScope (top 59)) := ⟨rfl, rfl, rfl, by decide +kernel, rfl, by decide +kernel, by decide +kernel⟩
def W_s_list_made (S : Sps) (xp : Exc → Prop) : WS := (wSeq (wSetL 2 (lDisp (wCons (wC (.int 1)) wNil))) (wSeq (wFor (iR2 (wC (.int 1)) (wBin kAdd (wBlt cLen (wCons (wVar 1) wNil)) (wC (.int 1)))) (gdName 3) (wSeq (wSet 5 (wBor 2 (wBlt cSum (wCons (wOfL (lComp (iR1 (wVar 3)) (gdName 4) wYes (wBin kMul (wBin kSub (wBin kSub (wBin kIx (wVar 1) (wBin kSub (wBin kSub (wVar 3) (wVar 4)) (wC (.int 1)))) (wCall S.s_raised [] (fun _ => False) (wCons (wVar 0) (wCons (wBin kSub (wVar 3) (wVar 4)) wNil)))) (wC (.int 1))) (wBin kIx (wVar 2) (wVar 4))) [4])) wNil)))) (wSeq (wIfS (wB (wBin kNe (wBin kMod (wVar 5) (wVar 3)) (wC (.int 0)))) (wRet (wC .non)) wNext) (wApp 2 (wBin kDiv (wVar 5) (wVar 3)))))) (wSeq (wFor (iR3 (wBin kSub (wBlt cLen (wCons (wVar 1) wNil)) (wC (.int 1))) (wUn kNeg (wC (.int 1))) (wUn kNeg (wC (.int 1)))) (gdName 4) (wApp 2 (wBor 2 (wBin kMul (wCall S.s_raised [] xp (wCons (wVar 0) (wCons (wBin kSub (wBlt cLen (wCons (wVar 1) wNil)) (wVar 4)) wNil))) (wBin kIx (wVar 2) (wVar 4)))))) (wFrz 2 (wRet (wVar 2))))))
theorem bd_s_list_made {g : Gx} (S : Sps) (fx : Fx g) (c_raised : FnG g 2 "raised" 2 [] S.s_raised) {f : Addr} (cd : Value) (A : Around) (outer : List PySem.Env) (s : Shared) (H : Hp) (E : XK) (xp : Exc → Prop) (hr : Room 2 (dcx g N_s_list_made "list_made" (defScope (top 59)) f cd A outer s H E).A) : PSsD (dcx g N_s_list_made "list_made" (defScope (top 59)) f cd A outer s H E) g xp (defBody (top 59)) (W_s_list_made S xp) := by
  have G : XG (dcx g N_s_list_made "list_made" (defScope (top 59)) f cd A outer s H E) g := XG.dcx
  have hN : N_s_list_made.Nodup := sc_s_list_made.nd
  have hp : PassesOwn (model g.prog g.w) (dcx g N_s_list_made "list_made" (defScope (top 59)) f cd A outer s H E).A (dcx g N_s_list_made "list_made" (defScope (top 59)) f cd A outer s H E).env (dcx g N_s_list_made "list_made" (defScope (top 59)) f cd A outer s H E).xe := passes_of rfl
  exact (pssd_cons (psd_setL 2 hN (pdf_disp (pda_cons pd_int pda_nil))) (pssd_cons (psd_for hp (pid_r2 G pd_int (pd_op (od_add G) (pd_blt G (cd_len G) fx.len (pda_cons (pd_var 1) pda_nil)) pd_int) fx.range) (pgd_name 3 hN) (pssd_cons (psd_set 5 hN (pd_bor 2 (pd_blt G (cd_sum G) fx.sum (pda_cons (pd_ofL (pdf_comp (own0 := [("i", 4)]) hN (pid_r1 G (pd_var 3) fx.range) (by kernel_rfl) (fun s H C cl fp => (pgd_name 4 hN)) (fun s H C cl fp => pdts_nil) (fun s H C cl fp => (pd_op (od_mul (XG.blk G)) (pd_op (od_sub) (pd_op (od_sub) (pd_ix (XG.blk G) (pd_var 1) (pd_op (od_sub) (pd_op (od_sub) (pd_var 3) (pd_var 4)) pd_int)) (pd_call (XG.blk G) c_raised (hr.mono (by decide)) (pda_cons (pd_var 0) (pda_cons (pd_op (od_sub) (pd_var 3) (pd_var 4)) pda_nil)))) pd_int) (pd_ix (XG.blk G) (pd_var 2) (pd_var 4)))))) pda_nil)))) (pssd_cons (psd_if (pdt_cmp (od_ne G (rmu hr)) (pd_op (od_mod) (pd_var 5) (pd_var 3)) pd_int) (pssd_one (psd_ret pd_non)) pssd_nil) (pssd_one (psd_app 2 (pd_op (od_div) (pd_var 5) (pd_var 3))))))) (pssd_cons (psd_for hp (pid_r3 G (pd_op (od_sub) (pd_blt G (cd_len G) fx.len (pda_cons (pd_var 1) pda_nil)) pd_int) (pd_neg pd_int) (pd_neg pd_int) fx.range) (pgd_name 4 hN) (pssd_one (psd_app 2 (pd_bor 2 (pd_op (od_mul G) (pd_call G c_raised (hr.mono (by decide)) (pda_cons (pd_var 0) (pda_cons (pd_op (od_sub) (pd_blt G (cd_len G) fx.len (pda_cons (pd_var 1) pda_nil)) (pd_var 4)) pda_nil))) (pd_ix G (pd_var 2) (pd_var 4))))))) (pssd_one (psd_frz 2 (psd_ret (pd_var 2)))))))

def N_s_counts_of : List Str := ["p", "items", "most", "sums", "n", "lead", "one", "i"]
theorem sc_s_counts_of : FnScope N_s_counts_of ["p", "items", "most"] (defScope (top 60)) := ⟨rfl, rfl, rfl, by decide +kernel, rfl, by decide +kernel, by decide +kernel⟩
def W_s_counts_of (S : Sps) (xp : Exc → Prop) : WS := (wSeq (wSetL 3 (lDisp wNil)) (wSeq (wFor (iR2 (wC (.int 1)) (wBin kAdd (wVar 2) (wC (.int 1)))) (gdName 4) (wSeq (wSet 5 (wIf (wB (wBin kLt (wVar 4) (wBlt cLen (wCons (wVar 1) wNil)))) (wBin kMul (wVar 4) (wBin kIx (wVar 1) (wVar 4))) (wC (.int 0)))) (wApp 3 (wBor 3 (wBin kSub (wVar 5) (wBlt cSum (wCons (wOfL (lComp (iR2 (wC (.int 1)) (wBlt cMin (wCons (wVar 4) (wCons (wBlt cLen (wCons (wVar 1) wNil)) wNil)))) (gdName 7) wYes (wBin kMul (wBin kIx (wVar 3) (wBin kSub (wBin kSub (wVar 4) (wVar 7)) (wC (.int 1)))) (wBin kIx (wVar 1) (wVar 7))) [7])) wNil))))))) (wRet (wOfL (lBor 3 (lComp (iEnD (wVar 3)) (gdTup 2 (gdCons (gdName 4) (gdCons (gdName 6) gdNil))) wYes (wBin kAdd (wBin kAdd (wVar 6) (wCall S.s_raised [] (fun _ => False) (wCons (wVar 0) (wCons (wBin kAdd (wVar 4) (wC (.int 1))) wNil)))) (wC (.int 1))) [4, 6]))))))
theorem bd_s_counts_of {g : Gx} (S : Sps) (fx : Fx g) (c_raised : FnG g 2 "raised" 2 [] S.s_raised) {f : Addr} (cd : Value) (A : Around) (outer : List PySem.Env) (s : Shared) (H : Hp) (E : XK) (xp : Exc → Prop) (hr : Room 2 (dcx g N_s_counts_of "counts_of" (defScope (top 60)) f cd A outer s H E).A) : PSsD (dcx g N_s_counts_of "counts_of" (defScope (top 60)) f cd A outer s H E) g xp (defBody (top 60)) (W_s_counts_of S xp) := by
  have G : XG (dcx g N_s_counts_of "counts_of" (defScope (top 60)) f cd A outer s H E) g := XG.dcx
  have hN : N_s_counts_of.Nodup := sc_s_counts_of.nd
  have hp : PassesOwn (model g.prog g.w) (dcx g N_s_counts_of "counts_of" (defScope (top 60)) f cd A outer s H E).A (dcx g N_s_counts_of "counts_of" (defScope (top 60)) f cd A outer s H E).env (dcx g N_s_counts_of "counts_of" (defScope (top 60)) f cd A outer s H E).xe := passes_of rfl
  exact (pssd_cons (psd_setL 3 hN (pdf_disp pda_nil)) (pssd_cons (psd_for hp (pid_r2 G pd_int (pd_op (od_add G) (pd_var 2) pd_int) fx.range) (pgd_name 4 hN) (pssd_cons (psd_set 5 hN (pd_if (pdt_cmp (od_lt) (pd_var 4) (pd_blt G (cd_len G) fx.len (pda_cons (pd_var 1) pda_nil))) (pd_op (od_mul G) (pd_var 4) (pd_ix G (pd_var 1) (pd_var 4))) pd_int)) (pssd_one (psd_app 3 (pd_bor 3 (pd_op (od_sub) (pd_var 5) (pd_blt G (cd_sum G) fx.sum (pda_cons (pd_ofL (pdf_comp (own0 := [("i", 7)]) hN (pid_r2 G pd_int (pd_blt G (cd_min) fx.min (pda_cons (pd_var 4) (pda_cons (pd_blt G (cd_len G) fx.len (pda_cons (pd_var 1) pda_nil)) pda_nil))) fx.range) (by kernel_rfl) (fun s H C cl fp => (pgd_name 7 hN)) (fun s H C cl fp => pdts_nil) (fun s H C cl fp => (pd_op (od_mul (XG.blk G)) (pd_ix (XG.blk G) (pd_var 3) (pd_op (od_sub) (pd_op (od_sub) (pd_var 4) (pd_var 7)) pd_int)) (pd_ix (XG.blk G) (pd_var 1) (pd_var 7)))))) pda_nil)))))))) (pssd_one (psd_ret (pd_ofL (pdf_bor 3 (pdf_comp (own0 := [("n", 4), ("one", 6)]) hN (pid_en G (pd_var 3) fx.enumerate) (by kernel_rfl) (fun s H C cl fp => (pgd_tup (XG.blk G) (pgsd_cons (pgd_name 4 hN) (pgsd_cons (pgd_name 6 hN) pgsd_nil)))) (fun s H C cl fp => pdts_nil) (fun s H C cl fp => (pd_op (od_add (XG.blk G)) (pd_op (od_add (XG.blk G)) (pd_var 6) (pd_call (XG.blk G) c_raised (hr.mono (by decide)) (pda_cons (pd_var 0) (pda_cons (pd_op (od_add (XG.blk G)) (pd_var 4) pd_int) pda_nil)))) pd_int)))))))))

def N_s_list_over : List Str := ["p", "items", "n", "g", "counts", "k"]
theorem sc_s_list_over : FnScope N_s_list_over ["p", "items", "n"] (defScope (top 61)) := ⟨rfl, rfl, rfl, by decide +kernel, rfl, by decide +kernel, by decide +kernel⟩
def W_s_list_over (S : Sps) (xp : Exc → Prop) : WS := (wSeq (wSet 3 (wBin kDiv (wBlt cLen (wCons (wVar 1) wNil)) (wC (.int 2)))) (wSeq (wSet 4 (wCall S.s_counts_of [] xp (wCons (wVar 0) (wCons (wVar 1) (wCons (wBin kMul (wVar 3) (wVar 2)) wNil))))) (wRet (wCall S.s_list_made [] xp (wCons (wCall S.s_raised [] xp (wCons (wVar 0) (wCons (wVar 2) wNil))) (wCons (wOfL (lComp (iR2 (wC (.int 1)) (wBin kAdd (wVar 3) (wC (.int 1)))) (gdName 5) wYes (wBin kIx (wVar 4) (wBin kSub (wBin kMul (wVar 2) (wVar 5)) (wC (.int 1)))) [5])) wNil))))))
theorem bd_s_list_over {g : Gx} (S : Sps) (fx : Fx g) (c_counts_of : FnG g 3 "counts_of" 3 [] S.s_counts_of) (c_raised : FnG g 2 "raised" 2 [] S.s_raised) (c_list_made : FnG g 3 "list_made" 2 [] S.s_list_made) {f : Addr} (cd : Value) (A : Around) (outer : List PySem.Env) (s : Shared) (H : Hp) (E : XK) (xp : Exc → Prop) (hr : Room 3 (dcx g N_s_list_over "list_over" (defScope (top 61)) f cd A outer s H E).A) : PSsD (dcx g N_s_list_over "list_over" (defScope (top 61)) f cd A outer s H E) g xp (defBody (top 61)) (W_s_list_over S xp) := by
  have G : XG (dcx g N_s_list_over "list_over" (defScope (top 61)) f cd A outer s H E) g := XG.dcx
  have hN : N_s_list_over.Nodup := sc_s_list_over.nd
  have hp : PassesOwn (model g.prog g.w) (dcx g N_s_list_over "list_over" (defScope (top 61)) f cd A outer s H E).A (dcx g N_s_list_over "list_over" (defScope (top 61)) f cd A outer s H E).env (dcx g N_s_list_over "list_over" (defScope (top 61)) f cd A outer s H E).xe := passes_of rfl
  exact (pssd_cons (psd_set 3 hN (pd_op (od_div) (pd_blt G (cd_len G) fx.len (pda_cons (pd_var 1) pda_nil)) pd_int)) (pssd_cons (psd_set 4 hN (pd_call G c_counts_of (hr.mono (by decide)) (pda_cons (pd_var 0) (pda_cons (pd_var 1) (pda_cons (pd_op (od_mul G) (pd_var 3) (pd_var 2)) pda_nil))))) (pssd_one (psd_ret (pd_call G c_list_made (hr.mono (by decide)) (pda_cons (pd_call G c_raised (hr.mono (by decide)) (pda_cons (pd_var 0) (pda_cons (pd_var 2) pda_nil))) (pda_cons (pd_ofL (pdf_comp (own0 := [("k", 5)]) hN (pid_r2 G pd_int (pd_op (od_add G) (pd_var 3) pd_int) fx.range) (by kernel_rfl) (fun s H C cl fp => (pgd_name 5 hN)) (fun s H C cl fp => pdts_nil) (fun s H C cl fp => (pd_ix (XG.blk G) (pd_var 4) (pd_op (od_sub) (pd_op (od_mul (XG.blk G)) (pd_var 2) (pd_var 5)) pd_int))))) pda_nil)))))))

def N_s_check_size : List Str := ["curve", "many"]
theorem sc_s_check_size : FnScope N_s_check_size ["curve"] (defScope (top 63)) := ⟨rfl, rfl, rfl, by decide +kernel, rfl, by decide +kernel, by decide +kernel⟩
def W_s_check_size (S : Sps) (xp : Exc → Prop) : WS := (wSeq (wSet 1 (wCall S.s_raised [] xp (wCons (wProp 0 S.p_p (wVar 0)) (wCons (wProp 0 S.p_genus (wVar 0)) wNil)))) (wIfS (wB (wBin kGt (wVar 1) (wC (.int 5000)))) wDead wNext))
theorem bd_s_check_size {g : Gx} (S : Sps) (fx : Fx g) (c_p_p : PropG g 2 0 "p" S.p_p) (c_p_genus : PropG g 3 0 "genus" S.p_genus) (c_raised : FnG g 2 "raised" 2 [] S.s_raised) {f : Addr} (cd : Value) (A : Around) (outer : List PySem.Env) (s : Shared) (H : Hp) (E : XK) (xp : Exc → Prop) (hr : Room 4 (dcx g N_s_check_size "check_size" (defScope (top 63)) f cd A outer s H E).A) : PSsD (dcx g N_s_check_size "check_size" (defScope (top 63)) f cd A outer s H E) g xp (defBody (top 63)) (W_s_check_size S xp) := by
  have G : XG (dcx g N_s_check_size "check_size" (defScope (top 63)) f cd A outer s H E) g := XG.dcx
  have hN : N_s_check_size.Nodup := sc_s_check_size.nd
  have hp : PassesOwn (model g.prog g.w) (dcx g N_s_check_size "check_size" (defScope (top 63)) f cd A outer s H E).A (dcx g N_s_check_size "check_size" (defScope (top 63)) f cd A outer s H E).env (dcx g N_s_check_size "check_size" (defScope (top 63)) f cd A outer s H E).xe := passes_of rfl
  exact (pssd_cons (psd_set 1 hN (pd_call G c_raised (hr.mono (by decide)) (pda_cons (pd_prop G fx.Curve c_p_p (hr.mono (by decide)) (pd_var 0)) (pda_cons (pd_prop G fx.Curve c_p_genus (hr.mono (by decide)) (pd_var 0)) pda_nil)))) (pssd_one (psd_if (pdt_cmp (od_gt) (pd_var 1) (pd_glob fx.LISTED_MOST)) (pssd_one psd_dead) pssd_nil)))

def N_s_sign_of_number : List Str := ["p", "x", "y"]
theorem sc_s_sign_of_number : FnScope N_s_sign_of_number ["p", "x"] (defScope (top 64)) := ⟨rfl, rfl, rfl, by decide +kernel, rfl, by decide +kernel, by decide +kernel⟩
def W_s_sign_of_number (S : Sps) (xp : Exc → Prop) : WS := (wRet (wIf (wTru (wBlt cAny (wCons (wOfL (lComp (iR2 (wC (.int 1)) (wVar 0)) (gdName 2) wYes (wBin kEq (wBin kMod (wBin kMul (wVar 2) (wVar 2)) (wVar 0)) (wVar 1)) [2])) wNil))) (wC (.int 1)) (wUn kNeg (wC (.int 1)))))
theorem bd_s_sign_of_number {g : Gx} (S : Sps) (fx : Fx g)  {f : Addr} (cd : Value) (A : Around) (outer : List PySem.Env) (s : Shared) (H : Hp) (E : XK) (xp : Exc → Prop) (hr : Room 1 (dcx g N_s_sign_of_number "sign_of_number" (defScope (top 64)) f cd A outer s H E).A) : PSsD (dcx g N_s_sign_of_number "sign_of_number" (defScope (top 64)) f cd A outer s H E) g xp (defBody (top 64)) (W_s_sign_of_number S xp) := by
  have G : XG (dcx g N_s_sign_of_number "sign_of_number" (defScope (top 64)) f cd A outer s H E) g := XG.dcx
  have hN : N_s_sign_of_number.Nodup := sc_s_sign_of_number.nd
  have hp : PassesOwn (model g.prog g.w) (dcx g N_s_sign_of_number "sign_of_number" (defScope (top 64)) f cd A outer s H E).A (dcx g N_s_sign_of_number "sign_of_number" (defScope (top 64)) f cd A outer s H E).env (dcx g N_s_sign_of_number "sign_of_number" (defScope (top 64)) f cd A outer s H E).xe := passes_of rfl
  exact (pssd_one (psd_ret (pd_if (pdt_tru G (pd_blt G (cd_any G) fx.any (pda_cons (pd_ofL (pdf_comp (own0 := [("y", 2)]) hN (pid_r2 G pd_int (pd_var 0) fx.range) (by kernel_rfl) (fun s H C cl fp => (pgd_name 2 hN)) (fun s H C cl fp => pdts_nil) (fun s H C cl fp => (pd_cmp (od_eq (XG.blk G) (rmu hr)) (pd_op (od_mod) (pd_op (od_mul (XG.blk G)) (pd_var 2) (pd_var 2)) (pd_var 0)) (pd_var 1))))) pda_nil))) pd_int (pd_neg pd_int))))

def N_s_sign_at : List Str := ["p", "a", "m", "found"]
theorem sc_s_sign_at : FnScope N_s_sign_at ["p", "a", "m"] (defScope (top 65)) := ⟨rfl, rfl, rfl, by decide +kernel, rfl, by decide +kernel, by decide +kernel⟩
def W_s_sign_at (S : Sps) (xp : Exc → Prop) : WS := (wSeq (wSet 3 (wC (.int 1))) (wSeq (wSet 1 (wCall S.s_remainder [] xp (wCons (wVar 0) (wCons (wVar 1) (wCons (wVar 2) wNil))))) (wSeq (wWhile (wTru (wVar 1)) (wSeq (wIfS (wB (wBin kEq (wBin kMod (wCall S.s_degree [] xp (wCons (wVar 2) wNil)) (wC (.int 2))) (wC (.int 1)))) (wAug 3 kMulI (wCall S.s_sign_of_number [] xp (wCons (wVar 0) (wCons (wBin kIx (wVar 1) (wUn kNeg (wC (.int 1)))) wNil)))) wNext) (wSeq (wSet 1 (wCall S.s_scaled [] xp (wCons (wVar 0) (wCons (wVar 1) (wCons (wCall S.s_inverse [] xp (wCons (wVar 0) (wCons (wBin kIx (wVar 1) (wUn kNeg (wC (.int 1)))) wNil))) wNil))))) (wSeq (wIfS (wB (wBin kEq (wCall S.s_degree [] xp (wCons (wVar 1) wNil)) (wC (.int 0)))) (wRet (wVar 3)) wNext) (wSeq (wIfS (wAnd (wB (wBin kEq (wBin kMod (wVar 0) (wC (.int 4))) (wC (.int 3)))) (wAnd (wB (wBin kEq (wBin kMod (wCall S.s_degree [] xp (wCons (wVar 1) wNil)) (wC (.int 2))) (wC (.int 1)))) (wB (wBin kEq (wBin kMod (wCall S.s_degree [] xp (wCons (wVar 2) wNil)) (wC (.int 2))) (wC (.int 1)))))) (wSet 3 (wUn kNeg (wVar 3))) wNext) (wPar 1 2 (wCall S.s_remainder [] xp (wCons (wVar 0) (wCons (wVar 2) (wCons (wVar 1) wNil)))) (wVar 1))))))) (wRet (wC (.int 0))))))
theorem bd_s_sign_at {g : Gx} (S : Sps) (fx : Fx g) (c_remainder : FnG g 4 "remainder" 3 [] S.s_remainder) (c_degree : FnG g 2 "degree" 1 [] S.s_degree) (c_sign_of_number : FnG g 2 "sign_of_number" 2 [] S.s_sign_of_number) (c_inverse : FnG g 2 "inverse" 2 [] S.s_inverse) (c_scaled : FnG g 3 "scaled" 3 [] S.s_scaled) {f : Addr} (cd : Value) (A : Around) (outer : List PySem.Env) (s : Shared) (H : Hp) (E : XK) (xp : Exc → Prop) (hr : Room 4 (dcx g N_s_sign_at "sign_at" (defScope (top 65)) f cd A outer s H E).A) : PSsD (dcx g N_s_sign_at "sign_at" (defScope (top 65)) f cd A outer s H E) g xp (defBody (top 65)) (W_s_sign_at S xp) := by
  have G : XG (dcx g N_s_sign_at "sign_at" (defScope (top 65)) f cd A outer s H E) g := XG.dcx
  have hN : N_s_sign_at.Nodup := sc_s_sign_at.nd
  have hp : PassesOwn (model g.prog g.w) (dcx g N_s_sign_at "sign_at" (defScope (top 65)) f cd A outer s H E).A (dcx g N_s_sign_at "sign_at" (defScope (top 65)) f cd A outer s H E).env (dcx g N_s_sign_at "sign_at" (defScope (top 65)) f cd A outer s H E).xe := passes_of rfl
  exact (pssd_cons (psd_set 3 hN pd_int) (pssd_cons (psd_set 1 hN (pd_call G c_remainder (hr.mono (by decide)) (pda_cons (pd_var 0) (pda_cons (pd_var 1) (pda_cons (pd_var 2) pda_nil))))) (pssd_cons (psd_while hp (pdt_tru G (pd_var 1)) (pssd_cons (psd_if (pdt_cmp (od_eq G (rmu hr)) (pd_op (od_mod) (pd_call G c_degree (hr.mono (by decide)) (pda_cons (pd_var 2) pda_nil)) pd_int) pd_int) (pssd_one (psd_aug 3 hN (id_mul) (pd_call G c_sign_of_number (hr.mono (by decide)) (pda_cons (pd_var 0) (pda_cons (pd_ix G (pd_var 1) (pd_neg pd_int)) pda_nil))))) pssd_nil) (pssd_cons (psd_set 1 hN (pd_call G c_scaled (hr.mono (by decide)) (pda_cons (pd_var 0) (pda_cons (pd_var 1) (pda_cons (pd_call G c_inverse (hr.mono (by decide)) (pda_cons (pd_var 0) (pda_cons (pd_ix G (pd_var 1) (pd_neg pd_int)) pda_nil))) pda_nil))))) (pssd_cons (psd_if (pdt_cmp (od_eq G (rmu hr)) (pd_call G c_degree (hr.mono (by decide)) (pda_cons (pd_var 1) pda_nil)) pd_int) (pssd_one (psd_ret (pd_var 3))) pssd_nil) (pssd_cons (psd_if (pdt_w (pdw_and (pdt_cmp (od_eq G (rmu hr)) (pd_op (od_mod) (pd_var 0) pd_int) pd_int) (pdw_and (pdt_cmp (od_eq G (rmu hr)) (pd_op (od_mod) (pd_call G c_degree (hr.mono (by decide)) (pda_cons (pd_var 1) pda_nil)) pd_int) pd_int) (pdw_and1 (pdt_cmp (od_eq G (rmu hr)) (pd_op (od_mod) (pd_call G c_degree (hr.mono (by decide)) (pda_cons (pd_var 2) pda_nil)) pd_int) pd_int))))) (pssd_one (psd_set 3 hN (pd_neg (pd_var 3)))) pssd_nil) (pssd_one (psd_par 1 2 hN (pd_call G c_remainder (hr.mono (by decide)) (pda_cons (pd_var 0) (pda_cons (pd_var 2) (pda_cons (pd_var 1) pda_nil)))) (pd_var 1)))))))) (pssd_one (psd_ret pd_int)))))

def N_s_points_counted : List Str := ["curve", "n", "total", "d", "part", "here"]
theorem sc_s_points_counted : FnScope N_s_points_counted ["curve", "n"] (defScope (top 66)) := ⟨rfl, rfl, rfl, by decide +kernel, rfl, by decide +kernel, by decide +kernel⟩
def W_s_points_counted (S : Sps) (xp : Exc → Prop) : WS := (wSeq (wSet 2 (wC (.int 1))) (wSeq (wFor (iSeq (wCall S.s_divisors [] xp (wCons (wVar 1) wNil))) (gdName 3) (wFor (iSeq (wCall S.s_prime_polynomials [] xp (wCons (wProp 0 S.p_p (wVar 0)) (wCons (wVar 3) wNil)))) (gdName 4) (wSeq (wSet 5 (wCall S.s_sign_at [] xp (wCons (wProp 0 S.p_p (wVar 0)) (wCons (wProp 0 S.p_f (wVar 0)) (wCons (wVar 4) wNil))))) (wAug 2 kAddI (wBin kMul (wVar 3) (wBin kAdd (wC (.int 1)) (wIf (wB (wBin kEq (wBin kMod (wBin kDiv (wVar 1) (wVar 3)) (wC (.int 2))) (wC (.int 1)))) (wVar 5) (wBin kMul (wVar 5) (wVar 5))))))))) (wRet (wVar 2))))
theorem bd_s_points_counted {g : Gx} (S : Sps) (fx : Fx g) (c_divisors : FnG g 3 "divisors" 1 [] S.s_divisors) (c_p_p : PropG g 2 0 "p" S.p_p) (c_prime_polynomials : FnG g 4 "prime_polynomials" 2 [] S.s_prime_polynomials) (c_p_f : PropG g 2 0 "f" S.p_f) (c_sign_at : FnG g 5 "sign_at" 3 [] S.s_sign_at) {f : Addr} (cd : Value) (A : Around) (outer : List PySem.Env) (s : Shared) (H : Hp) (E : XK) (xp : Exc → Prop) (hr : Room 5 (dcx g N_s_points_counted "points_counted" (defScope (top 66)) f cd A outer s H E).A) : PSsD (dcx g N_s_points_counted "points_counted" (defScope (top 66)) f cd A outer s H E) g xp (defBody (top 66)) (W_s_points_counted S xp) := by
  have G : XG (dcx g N_s_points_counted "points_counted" (defScope (top 66)) f cd A outer s H E) g := XG.dcx
  have hN : N_s_points_counted.Nodup := sc_s_points_counted.nd
  have hp : PassesOwn (model g.prog g.w) (dcx g N_s_points_counted "points_counted" (defScope (top 66)) f cd A outer s H E).A (dcx g N_s_points_counted "points_counted" (defScope (top 66)) f cd A outer s H E).env (dcx g N_s_points_counted "points_counted" (defScope (top 66)) f cd A outer s H E).xe := passes_of rfl
  exact (pssd_cons (psd_set 2 hN pd_int) (pssd_cons (psd_for hp (pid_seq G (pd_call G c_divisors (hr.mono (by decide)) (pda_cons (pd_var 1) pda_nil))) (pgd_name 3 hN) (pssd_one (psd_for hp (pid_seq G (pd_call G c_prime_polynomials (hr.mono (by decide)) (pda_cons (pd_prop G fx.Curve c_p_p (hr.mono (by decide)) (pd_var 0)) (pda_cons (pd_var 3) pda_nil)))) (pgd_name 4 hN) (pssd_cons (psd_set 5 hN (pd_call G c_sign_at (hr.mono (by decide)) (pda_cons (pd_prop G fx.Curve c_p_p (hr.mono (by decide)) (pd_var 0)) (pda_cons (pd_prop G fx.Curve c_p_f (hr.mono (by decide)) (pd_var 0)) (pda_cons (pd_var 4) pda_nil))))) (pssd_one (psd_aug 2 hN (id_add) (pd_op (od_mul G) (pd_var 3) (pd_op (od_add G) pd_int (pd_if (pdt_cmp (od_eq G (rmu hr)) (pd_op (od_mod) (pd_op (od_div) (pd_var 1) (pd_var 3)) pd_int) pd_int) (pd_var 5) (pd_op (od_mul G) (pd_var 5) (pd_var 5))))))))))) (pssd_one (psd_ret (pd_var 2)))))

def N_s_curve_polynomial : List Str := ["curve", "n"]
theorem sc_s_curve_polynomial : FnScope N_s_curve_polynomial ["curve"] (defScope (top 67)) := ⟨rfl, rfl, rfl, by decide +kernel, rfl, by decide +kernel, by decide +kernel⟩
def W_s_curve_polynomial (S : Sps) (xp : Exc → Prop) : WS := (wSeq (wExpr (wCall S.s_check_size [] xp (wCons (wVar 0) wNil))) (wRet (wCall S.s_list_made [] xp (wCons (wProp 0 S.p_p (wVar 0)) (wCons (wOfL (lComp (iR2 (wC (.int 1)) (wBin kAdd (wProp 0 S.p_genus (wVar 0)) (wC (.int 1)))) (gdName 1) wYes (wCall S.s_points_counted [] (fun _ => False) (wCons (wVar 0) (wCons (wVar 1) wNil))) [1])) wNil)))))
theorem bd_s_curve_polynomial {g : Gx} (S : Sps) (fx : Fx g) (c_check_size : FnG g 5 "check_size" 1 [] S.s_check_size) (c_p_p : PropG g 2 0 "p" S.p_p) (c_p_genus : PropG g 3 0 "genus" S.p_genus) (c_points_counted : FnG g 6 "points_counted" 2 [] S.s_points_counted) (c_list_made : FnG g 3 "list_made" 2 [] S.s_list_made) {f : Addr} (cd : Value) (A : Around) (outer : List PySem.Env) (s : Shared) (H : Hp) (E : XK) (xp : Exc → Prop) (hr : Room 6 (dcx g N_s_curve_polynomial "curve_polynomial" (defScope (top 67)) f cd A outer s H E).A) : PSsD (dcx g N_s_curve_polynomial "curve_polynomial" (defScope (top 67)) f cd A outer s H E) g xp (defBody (top 67)) (W_s_curve_polynomial S xp) := by
  have G : XG (dcx g N_s_curve_polynomial "curve_polynomial" (defScope (top 67)) f cd A outer s H E) g := XG.dcx
  have hN : N_s_curve_polynomial.Nodup := sc_s_curve_polynomial.nd
  have hp : PassesOwn (model g.prog g.w) (dcx g N_s_curve_polynomial "curve_polynomial" (defScope (top 67)) f cd A outer s H E).A (dcx g N_s_curve_polynomial "curve_polynomial" (defScope (top 67)) f cd A outer s H E).env (dcx g N_s_curve_polynomial "curve_polynomial" (defScope (top 67)) f cd A outer s H E).xe := passes_of rfl
  exact (pssd_cons (psd_expr (pd_call G c_check_size (hr.mono (by decide)) (pda_cons (pd_var 0) pda_nil))) (pssd_one (psd_ret (pd_call G c_list_made (hr.mono (by decide)) (pda_cons (pd_prop G fx.Curve c_p_p (hr.mono (by decide)) (pd_var 0)) (pda_cons (pd_ofL (pdf_comp (own0 := [("n", 1)]) hN (pid_r2 G pd_int (pd_op (od_add G) (pd_prop G fx.Curve c_p_genus (hr.mono (by decide)) (pd_var 0)) pd_int) fx.range) (by kernel_rfl) (fun s H C cl fp => (pgd_name 1 hN)) (fun s H C cl fp => pdts_nil) (fun s H C cl fp => (pd_call (XG.blk G) c_points_counted (hr.mono (by decide)) (pda_cons (pd_var 0) (pda_cons (pd_var 1) pda_nil)))))) pda_nil))))))

def N_s_class_count : List Str := ["curve", "n"]
theorem sc_s_class_count : FnScope N_s_class_count ["curve", "n"] (defScope (top 68)) := ⟨rfl, rfl, rfl, by decide +kernel, rfl, by decide +kernel, by decide +kernel⟩
def W_s_class_count (S : Sps) (xp : Exc → Prop) : WS := (wRet (wBlt cSum (wCons (wCall S.s_list_over [] xp (wCons (wProp 0 S.p_p (wVar 0)) (wCons (wCall S.s_curve_polynomial [] xp (wCons (wVar 0) wNil)) (wCons (wVar 1) wNil)))) wNil)))
theorem bd_s_class_count {g : Gx} (S : Sps) (fx : Fx g) (c_p_p : PropG g 2 0 "p" S.p_p) (c_curve_polynomial : FnG g 7 "curve_polynomial" 1 [] S.s_curve_polynomial) (c_list_over : FnG g 4 "list_over" 3 [] S.s_list_over) {f : Addr} (cd : Value) (A : Around) (outer : List PySem.Env) (s : Shared) (H : Hp) (E : XK) (xp : Exc → Prop) (hr : Room 7 (dcx g N_s_class_count "class_count" (defScope (top 68)) f cd A outer s H E).A) : PSsD (dcx g N_s_class_count "class_count" (defScope (top 68)) f cd A outer s H E) g xp (defBody (top 68)) (W_s_class_count S xp) := by
  have G : XG (dcx g N_s_class_count "class_count" (defScope (top 68)) f cd A outer s H E) g := XG.dcx
  have hN : N_s_class_count.Nodup := sc_s_class_count.nd
  have hp : PassesOwn (model g.prog g.w) (dcx g N_s_class_count "class_count" (defScope (top 68)) f cd A outer s H E).A (dcx g N_s_class_count "class_count" (defScope (top 68)) f cd A outer s H E).env (dcx g N_s_class_count "class_count" (defScope (top 68)) f cd A outer s H E).xe := passes_of rfl
  exact (pssd_one (psd_ret (pd_blt G (cd_sum G) fx.sum (pda_cons (pd_call G c_list_over (hr.mono (by decide)) (pda_cons (pd_prop G fx.Curve c_p_p (hr.mono (by decide)) (pd_var 0)) (pda_cons (pd_call G c_curve_polynomial (hr.mono (by decide)) (pda_cons (pd_var 0) pda_nil)) (pda_cons (pd_var 1) pda_nil)))) pda_nil))))

def N_s__law_is : List Str := ["value", "due"]
theorem sc_s__law_is : FnScope N_s__law_is ["value", "due"] (defScope (top 72)) := ⟨rfl, rfl, rfl, by decide +kernel, rfl, by decide +kernel, by decide +kernel⟩
def W_s__law_is (S : Sps) (xp : Exc → Prop) : WS := (wRet (wBin kEq (wBlt cRepr (wCons (wVar 0) wNil)) (wBlt cRepr (wCons (wVar 1) wNil))))
theorem bd_s__law_is {g : Gx} (S : Sps) (fx : Fx g)  {f : Addr} (cd : Value) (A : Around) (outer : List PySem.Env) (s : Shared) (H : Hp) (E : XK) (xp : Exc → Prop) (hgd : A.guards = some []) (hr : Room 1 (dcx g N_s__law_is "_law_is" (defScope (top 72)) f cd A outer s H E).A) : PSsD (dcx g N_s__law_is "_law_is" (defScope (top 72)) f cd A outer s H E) g xp (defBody (top 72)) (W_s__law_is S xp) := by
  have G : XG (dcx g N_s__law_is "_law_is" (defScope (top 72)) f cd A outer s H E) g := XG.dcx
  have hN : N_s__law_is.Nodup := sc_s__law_is.nd
  have hp : PassesOwn (model g.prog g.w) (dcx g N_s__law_is "_law_is" (defScope (top 72)) f cd A outer s H E).A (dcx g N_s__law_is "_law_is" (defScope (top 72)) f cd A outer s H E).env (dcx g N_s__law_is "_law_is" (defScope (top 72)) f cd A outer s H E).xe := passes_of rfl
  exact (pssd_one (psd_ret (pd_cmp (od_eq G (rmu hr)) (pd_blt G (cd_repr G (rmu hr) hgd) fx.repr (pda_cons (pd_var 0) pda_nil)) (pd_blt G (cd_repr G (rmu hr) hgd) fx.repr (pda_cons (pd_var 1) pda_nil)))))

def N_s__law_trim : List Str := ["p", "items", "found", "item"]
theorem sc_s__law_trim : FnScope N_s__law_trim ["p", "items"] (defScope (top 73)) := ⟨rfl, rfl, rfl, by decide +kernel, rfl, by decide +kernel, by decide +kernel⟩
def W_s__law_trim (S : Sps) (xp : Exc → Prop) : WS := (wSeq (wSetL 2 (lComp (iSeq (wVar 1)) (gdName 3) wYes (wBin kMod (wBlt cInt (wCons (wVar 3) wNil)) (wVar 0)) [3])) (wSeq (wWhile (wBorT 2 (wAnd (wB (wBin kGt (wBlt cLen (wCons (wVar 2) wNil)) (wC (.int 0)))) (wB (wBin kEq (wBin kIx (wVar 2) (wUn kNeg (wC (.int 1)))) (wC (.int 0)))))) (wPop 2)) (wRet (wBor 2 (wBlt cTuple (wCons (wVar 2) wNil))))))
theorem bd_s__law_trim {g : Gx} (S : Sps) (fx : Fx g)  {f : Addr} (cd : Value) (A : Around) (outer : List PySem.Env) (s : Shared) (H : Hp) (E : XK) (xp : Exc → Prop) (hr : Room 1 (dcx g N_s__law_trim "_law_trim" (defScope (top 73)) f cd A outer s H E).A) : PSsD (dcx g N_s__law_trim "_law_trim" (defScope (top 73)) f cd A outer s H E) g xp (defBody (top 73)) (W_s__law_trim S xp) := by
  have G : XG (dcx g N_s__law_trim "_law_trim" (defScope (top 73)) f cd A outer s H E) g := XG.dcx
  have hN : N_s__law_trim.Nodup := sc_s__law_trim.nd
  have hp : PassesOwn (model g.prog g.w) (dcx g N_s__law_trim "_law_trim" (defScope (top 73)) f cd A outer s H E).A (dcx g N_s__law_trim "_law_trim" (defScope (top 73)) f cd A outer s H E).env (dcx g N_s__law_trim "_law_trim" (defScope (top 73)) f cd A outer s H E).xe := passes_of rfl
  exact (pssd_cons (psd_setLcL 2 (own0 := [("item", 3)]) hN (pid_seq G (pd_var 1)) (by kernel_rfl) (fun s H C cl fp => (pgd_name 3 hN)) (fun s H C cl fp => pdts_nil) (fun s H C cl fp => (pd_op (od_mod) (pd_bty (XG.blk G) (cd_int) fx.int (pda_cons (pd_var 3) pda_nil)) (pd_var 0)))) (pssd_cons (psd_while hp (pdt_bor 2 (pdt_w (pdw_and (pdt_cmp (od_gt) (pd_blt G (cd_len G) fx.len (pda_cons (pd_var 2) pda_nil)) pd_int) (pdw_and1 (pdt_cmp (od_eq G (rmu hr)) (pd_ix G (pd_var 2) (pd_neg pd_int)) pd_int))))) (pssd_one (psd_pop 2))) (pssd_one (psd_ret (pd_bor 2 (pd_bty G (cd_tuple G) fx.tuple (pda_cons (pd_var 2) pda_nil)))))))

def N_s__law_inv : List Str := ["p", "a", "x"]
theorem sc_s__law_inv : FnScope N_s__law_inv ["p", "a"] (defScope (top 74)) := ⟨rfl, rfl, rfl, by decide +kernel, rfl, by decide +kernel, by decide +kernel⟩
def W_s__law_inv (S : Sps) (xp : Exc → Prop) : WS := (wRet (wBin kIx (wOfL (lComp (iR2 (wC (.int 1)) (wVar 0)) (gdName 2) (wB (wBin kEq (wBin kMod (wBlt cInt (wCons (wBin kMul (wVar 1) (wVar 2)) wNil)) (wVar 0)) (wC (.int 1)))) (wVar 2) [2])) (wC (.int 0))))
theorem bd_s__law_inv {g : Gx} (S : Sps) (fx : Fx g)  {f : Addr} (cd : Value) (A : Around) (outer : List PySem.Env) (s : Shared) (H : Hp) (E : XK) (xp : Exc → Prop) (hr : Room 1 (dcx g N_s__law_inv "_law_inv" (defScope (top 74)) f cd A outer s H E).A) : PSsD (dcx g N_s__law_inv "_law_inv" (defScope (top 74)) f cd A outer s H E) g xp (defBody (top 74)) (W_s__law_inv S xp) := by
  have G : XG (dcx g N_s__law_inv "_law_inv" (defScope (top 74)) f cd A outer s H E) g := XG.dcx
  have hN : N_s__law_inv.Nodup := sc_s__law_inv.nd
  have hp : PassesOwn (model g.prog g.w) (dcx g N_s__law_inv "_law_inv" (defScope (top 74)) f cd A outer s H E).A (dcx g N_s__law_inv "_law_inv" (defScope (top 74)) f cd A outer s H E).env (dcx g N_s__law_inv "_law_inv" (defScope (top 74)) f cd A outer s H E).xe := passes_of rfl
  exact (pssd_one (psd_ret (pd_ix G (pd_ofL (pdf_comp (own0 := [("x", 2)]) hN (pid_r2 G pd_int (pd_var 0) fx.range) (by kernel_rfl) (fun s H C cl fp => (pgd_name 2 hN)) (fun s H C cl fp => (pdts_one (pdt_cmp (od_eq (XG.blk G) (rmu hr)) (pd_op (od_mod) (pd_bty (XG.blk G) (cd_int) fx.int (pda_cons (pd_op (od_mul (XG.blk G)) (pd_var 1) (pd_var 2)) pda_nil)) (pd_var 0)) pd_int))) (fun s H C cl fp => (pd_var 2)))) pd_int)))

def N_s__law_div : List Str := ["p", "a", "b", "rest", "found", "turn", "k", "j"]
theorem sc_s__law_div : FnScope N_s__law_div ["p", "a", "b"] (defScope (top 75)) := ⟨rfl, rfl, rfl, by decide +kernel, rfl, by decide +kernel, by decide +kernel⟩
def W_s__law_div (S : Sps) (xp : Exc → Prop) : WS := (wSeq (wSetL 3 (lList (wVar 1))) (wSeq (wSetL 4 (lRep (wLst (wCons (wC (.int 0)) wNil)) (wBlt cMax (wCons (wC (.int 0)) (wCons (wBin kAdd (wBin kSub (wBlt cLen (wCons (wVar 1) wNil)) (wBlt cLen (wCons (wVar 2) wNil))) (wC (.int 1))) wNil))))) (wSeq (wSet 5 (wCall S.s__law_inv [] xp (wCons (wVar 0) (wCons (wBin kIx (wVar 2) (wUn kNeg (wC (.int 1)))) wNil)))) (wSeq (wFor (iR3 (wBin kSub (wBlt cLen (wCons (wVar 1) wNil)) (wBlt cLen (wCons (wVar 2) wNil))) (wUn kNeg (wC (.int 1))) (wUn kNeg (wC (.int 1)))) (gdName 6) (wSeq (wSetI 4 (wVar 6) (wBor 3 (wBin kMod (wBlt cInt (wCons (wBin kMul (wBin kIx (wVar 3) (wBin kSub (wBin kAdd (wVar 6) (wBlt cLen (wCons (wVar 2) wNil))) (wC (.int 1)))) (wVar 5)) wNil)) (wVar 0)))) (wFor (iR1 (wBlt cLen (wCons (wVar 2) wNil))) (gdName 7) (wSetI 3 (wBin kAdd (wVar 6) (wVar 7)) (wBor 4 (wBor 3 (wBin kSub (wBin kIx (wVar 3) (wBin kAdd (wVar 6) (wVar 7))) (wBin kMul (wBin kIx (wVar 4) (wVar 6)) (wBin kIx (wVar 2) (wVar 7)))))))))) (wRet (wBor 4 (wBor 3 (wTup (wCons (wCall S.s__law_trim [] xp (wCons (wVar 0) (wCons (wVar 4) wNil))) (wCons (wCall S.s__law_trim [] xp (wCons (wVar 0) (wCons (wVar 3) wNil))) wNil))))))))))
theorem bd_s__law_div {g : Gx} (S : Sps) (fx : Fx g) (c__law_inv : FnG g 2 "_law_inv" 2 [] S.s__law_inv) (c__law_trim : FnG g 2 "_law_trim" 2 [] S.s__law_trim) {f : Addr} (cd : Value) (A : Around) (outer : List PySem.Env) (s : Shared) (H : Hp) (E : XK) (xp : Exc → Prop) (hr : Room 2 (dcx g N_s__law_div "_law_div" (defScope (top 75)) f cd A outer s H E).A) : PSsD (dcx g N_s__law_div "_law_div" (defScope (top 75)) f cd A outer s H E) g xp (defBody (top 75)) (W_s__law_div S xp) := by
  have G : XG (dcx g N_s__law_div "_law_div" (defScope (top 75)) f cd A outer s H E) g := XG.dcx
  have hN : N_s__law_div.Nodup := sc_s__law_div.nd
  have hp : PassesOwn (model g.prog g.w) (dcx g N_s__law_div "_law_div" (defScope (top 75)) f cd A outer s H E).A (dcx g N_s__law_div "_law_div" (defScope (top 75)) f cd A outer s H E).env (dcx g N_s__law_div "_law_div" (defScope (top 75)) f cd A outer s H E).xe := passes_of rfl
  exact (pssd_cons (psd_setL 3 hN (pdf_list G (pd_var 1) fx.list)) (pssd_cons (psd_setL 4 hN (pdf_rep (pd_lst (pda_cons pd_int pda_nil)) (pd_blt G (cd_max) fx.max (pda_cons pd_int (pda_cons (pd_op (od_add G) (pd_op (od_sub) (pd_blt G (cd_len G) fx.len (pda_cons (pd_var 1) pda_nil)) (pd_blt G (cd_len G) fx.len (pda_cons (pd_var 2) pda_nil))) pd_int) pda_nil))))) (pssd_cons (psd_set 5 hN (pd_call G c__law_inv (hr.mono (by decide)) (pda_cons (pd_var 0) (pda_cons (pd_ix G (pd_var 2) (pd_neg pd_int)) pda_nil)))) (pssd_cons (psd_for hp (pid_r3 G (pd_op (od_sub) (pd_blt G (cd_len G) fx.len (pda_cons (pd_var 1) pda_nil)) (pd_blt G (cd_len G) fx.len (pda_cons (pd_var 2) pda_nil))) (pd_neg pd_int) (pd_neg pd_int) fx.range) (pgd_name 6 hN) (pssd_cons (psd_setI 4 (pd_var 6) (pd_bor 3 (pd_op (od_mod) (pd_bty G (cd_int) fx.int (pda_cons (pd_op (od_mul G) (pd_ix G (pd_var 3) (pd_op (od_sub) (pd_op (od_add G) (pd_var 6) (pd_blt G (cd_len G) fx.len (pda_cons (pd_var 2) pda_nil))) pd_int)) (pd_var 5)) pda_nil)) (pd_var 0)))) (pssd_one (psd_for hp (pid_r1 G (pd_blt G (cd_len G) fx.len (pda_cons (pd_var 2) pda_nil)) fx.range) (pgd_name 7 hN) (pssd_one (psd_setI 3 (pd_op (od_add G) (pd_var 6) (pd_var 7)) (pd_bor 4 (pd_bor 3 (pd_op (od_sub) (pd_ix G (pd_var 3) (pd_op (od_add G) (pd_var 6) (pd_var 7))) (pd_op (od_mul G) (pd_ix G (pd_var 4) (pd_var 6)) (pd_ix G (pd_var 2) (pd_var 7)))))))))))) (pssd_one (psd_ret (pd_bor 4 (pd_bor 3 (pd_tup (pda_cons (pd_call G c__law_trim (hr.mono (by decide)) (pda_cons (pd_var 0) (pda_cons (pd_var 4) pda_nil))) (pda_cons (pd_call G c__law_trim (hr.mono (by decide)) (pda_cons (pd_var 0) (pda_cons (pd_var 3) pda_nil))) pda_nil)))))))))))

def N_s__law_common : List Str := ["p", "a", "b", "item"]
theorem sc_s__law_common : FnScope N_s__law_common ["p", "a", "b"] (defScope (top 76)) := ⟨rfl, rfl, rfl, by decide +kernel, rfl, by decide +kernel, by decide +kernel⟩
def W_s__law_common (S : Sps) (xp : Exc → Prop) : WS := (wSeq (wWhile (wB (wBin kGt (wBlt cLen (wCons (wVar 2) wNil)) (wC (.int 0)))) (wAsg (wTup (wCons (wVar 2) (wCons (wBin kIx (wCall S.s__law_div [] xp (wCons (wVar 0) (wCons (wVar 1) (wCons (wVar 2) wNil)))) (wC (.int 1))) wNil))) (gdTup 2 (gdCons (gdName 1) (gdCons (gdName 2) gdNil))))) (wSeq (wIfS (wB (wBin kEq (wBlt cLen (wCons (wVar 1) wNil)) (wC (.int 0)))) (wRet (wTup wNil)) wNext) (wRet (wCall S.s__law_trim [] xp (wCons (wVar 0) (wCons (wOfL (lComp (iSeq (wVar 1)) (gdName 3) wYes (wBin kMul (wVar 3) (wCall S.s__law_inv [] (fun _ => False) (wCons (wVar 0) (wCons (wBin kIx (wVar 1) (wUn kNeg (wC (.int 1)))) wNil)))) [3])) wNil))))))
theorem bd_s__law_common {g : Gx} (S : Sps) (fx : Fx g) (c__law_div : FnG g 3 "_law_div" 3 [] S.s__law_div) (c__law_inv : FnG g 2 "_law_inv" 2 [] S.s__law_inv) (c__law_trim : FnG g 2 "_law_trim" 2 [] S.s__law_trim) {f : Addr} (cd : Value) (A : Around) (outer : List PySem.Env) (s : Shared) (H : Hp) (E : XK) (xp : Exc → Prop) (hr : Room 3 (dcx g N_s__law_common "_law_common" (defScope (top 76)) f cd A outer s H E).A) : PSsD (dcx g N_s__law_common "_law_common" (defScope (top 76)) f cd A outer s H E) g xp (defBody (top 76)) (W_s__law_common S xp) := by
  have G : XG (dcx g N_s__law_common "_law_common" (defScope (top 76)) f cd A outer s H E) g := XG.dcx
  have hN : N_s__law_common.Nodup := sc_s__law_common.nd
  have hp : PassesOwn (model g.prog g.w) (dcx g N_s__law_common "_law_common" (defScope (top 76)) f cd A outer s H E).A (dcx g N_s__law_common "_law_common" (defScope (top 76)) f cd A outer s H E).env (dcx g N_s__law_common "_law_common" (defScope (top 76)) f cd A outer s H E).xe := passes_of rfl
  exact (pssd_cons (psd_while hp (pdt_cmp (od_gt) (pd_blt G (cd_len G) fx.len (pda_cons (pd_var 2) pda_nil)) pd_int) (pssd_one (psd_asg (pd_tup (pda_cons (pd_var 2) (pda_cons (pd_ix G (pd_call G c__law_div (hr.mono (by decide)) (pda_cons (pd_var 0) (pda_cons (pd_var 1) (pda_cons (pd_var 2) pda_nil)))) pd_int) pda_nil))) (pgd_tup G (pgsd_cons (pgd_name 1 hN) (pgsd_cons (pgd_name 2 hN) pgsd_nil)))))) (pssd_cons (psd_if (pdt_cmp (od_eq G (rmu hr)) (pd_blt G (cd_len G) fx.len (pda_cons (pd_var 1) pda_nil)) pd_int) (pssd_one (psd_ret (pd_tup pda_nil))) pssd_nil) (pssd_one (psd_ret (pd_call G c__law_trim (hr.mono (by decide)) (pda_cons (pd_var 0) (pda_cons (pd_ofL (pdf_comp (own0 := [("item", 3)]) hN (pid_seq G (pd_var 1)) (by kernel_rfl) (fun s H C cl fp => (pgd_name 3 hN)) (fun s H C cl fp => pdts_nil) (fun s H C cl fp => (pd_op (od_mul (XG.blk G)) (pd_var 3) (pd_call (XG.blk G) c__law_inv (hr.mono (by decide)) (pda_cons (pd_var 0) (pda_cons (pd_ix (XG.blk G) (pd_var 1) (pd_neg pd_int)) pda_nil))))))) pda_nil)))))))

def N_s__law_slope : List Str := ["p", "a", "k"]
theorem sc_s__law_slope : FnScope N_s__law_slope ["p", "a"] (defScope (top 77)) := ⟨rfl, rfl, rfl, by decide +kernel, rfl, by decide +kernel, by decide +kernel⟩
def W_s__law_slope (S : Sps) (xp : Exc → Prop) : WS := (wRet (wCall S.s__law_trim [] xp (wCons (wVar 0) (wCons (wOfL (lComp (iR2 (wC (.int 1)) (wBlt cLen (wCons (wVar 1) wNil))) (gdName 2) wYes (wBin kMul (wVar 2) (wBin kIx (wVar 1) (wVar 2))) [2])) wNil))))
theorem bd_s__law_slope {g : Gx} (S : Sps) (fx : Fx g) (c__law_trim : FnG g 2 "_law_trim" 2 [] S.s__law_trim) {f : Addr} (cd : Value) (A : Around) (outer : List PySem.Env) (s : Shared) (H : Hp) (E : XK) (xp : Exc → Prop) (hr : Room 2 (dcx g N_s__law_slope "_law_slope" (defScope (top 77)) f cd A outer s H E).A) : PSsD (dcx g N_s__law_slope "_law_slope" (defScope (top 77)) f cd A outer s H E) g xp (defBody (top 77)) (W_s__law_slope S xp) := by
  have G : XG (dcx g N_s__law_slope "_law_slope" (defScope (top 77)) f cd A outer s H E) g := XG.dcx
  have hN : N_s__law_slope.Nodup := sc_s__law_slope.nd
  have hp : PassesOwn (model g.prog g.w) (dcx g N_s__law_slope "_law_slope" (defScope (top 77)) f cd A outer s H E).A (dcx g N_s__law_slope "_law_slope" (defScope (top 77)) f cd A outer s H E).env (dcx g N_s__law_slope "_law_slope" (defScope (top 77)) f cd A outer s H E).xe := passes_of rfl
  exact (pssd_one (psd_ret (pd_call G c__law_trim (hr.mono (by decide)) (pda_cons (pd_var 0) (pda_cons (pd_ofL (pdf_comp (own0 := [("k", 2)]) hN (pid_r2 G pd_int (pd_blt G (cd_len G) fx.len (pda_cons (pd_var 1) pda_nil)) fx.range) (by kernel_rfl) (fun s H C cl fp => (pgd_name 2 hN)) (fun s H C cl fp => pdts_nil) (fun s H C cl fp => (pd_op (od_mul (XG.blk G)) (pd_var 2) (pd_ix (XG.blk G) (pd_var 1) (pd_var 2)))))) pda_nil)))))

def N_s__law_f : List Str := ["deck", "p", "degree_v", "items", "turn", "a", "k"]
theorem sc_s__law_f : FnScope N_s__law_f ["deck", "p", "degree_v"] (defScope (top 78)) := ⟨rfl, rfl, rfl, by decide +kernel, rfl, by decide +kernel, by decide +kernel⟩
def W_s__law_f (S : Sps) (xp : Exc → Prop) : WS := (wSeq (wSetL 3 (lCat (wOfL (lComp (iR1 (wVar 2)) (gdName 6) wYes (wCall S.s__law_draw [] (fun _ => False) (wCons (wVar 0) (wCons (wVar 1) wNil))) [6])) (wLst (wCons (wBin kAdd (wC (.int 1)) (wCall S.s__law_draw [] xp (wCons (wVar 0) (wCons (wBin kSub (wVar 1) (wC (.int 1))) wNil)))) wNil)))) (wSeq (wFor (iR1 (wBin kMul (wVar 1) (wVar 1))) (gdName 4) (wSeq (wSet 5 (wBor 3 (wCall S.s__law_trim [] xp (wCons (wVar 1) (wCons (wVar 3) wNil))))) (wSeq (wIfS (wB (wBin kEq (wBlt cLen (wCons (wCall S.s__law_common [] xp (wCons (wVar 1) (wCons (wVar 5) (wCons (wCall S.s__law_slope [] xp (wCons (wVar 1) (wCons (wVar 5) wNil))) wNil)))) wNil)) (wC (.int 1)))) (wRet (wVar 5)) wNext) (wSeq (wSetI 3 (wBin kMod (wBin kDiv (wVar 4) (wVar 1)) (wC (.int 2))) (wBor 3 (wBin kAdd (wBin kIx (wVar 3) (wBin kMod (wBin kDiv (wVar 4) (wVar 1)) (wC (.int 2)))) (wC (.int 1))))) (wSetI 3 (wC (.int 0)) (wBor 3 (wBin kAdd (wBin kIx (wVar 3) (wC (.int 0))) (wC (.int 1))))))))) (wRet (wC .non))))
theorem bd_s__law_f {g : Gx} (S : Sps) (fx : Fx g) (c__law_draw : FnG g 1 "_law_draw" 2 [] S.s__law_draw) (c__law_trim : FnG g 2 "_law_trim" 2 [] S.s__law_trim) (c__law_slope : FnG g 3 "_law_slope" 2 [] S.s__law_slope) (c__law_common : FnG g 4 "_law_common" 3 [] S.s__law_common) {f : Addr} (cd : Value) (A : Around) (outer : List PySem.Env) (s : Shared) (H : Hp) (E : XK) (xp : Exc → Prop) (hr : Room 4 (dcx g N_s__law_f "_law_f" (defScope (top 78)) f cd A outer s H E).A) : PSsD (dcx g N_s__law_f "_law_f" (defScope (top 78)) f cd A outer s H E) g xp (defBody (top 78)) (W_s__law_f S xp) := by
  have G : XG (dcx g N_s__law_f "_law_f" (defScope (top 78)) f cd A outer s H E) g := XG.dcx
  have hN : N_s__law_f.Nodup := sc_s__law_f.nd
  have hp : PassesOwn (model g.prog g.w) (dcx g N_s__law_f "_law_f" (defScope (top 78)) f cd A outer s H E).A (dcx g N_s__law_f "_law_f" (defScope (top 78)) f cd A outer s H E).env (dcx g N_s__law_f "_law_f" (defScope (top 78)) f cd A outer s H E).xe := passes_of rfl
  exact (pssd_cons (psd_setL 3 hN (pdf_cat (pd_ofL (pdf_comp (own0 := [("k", 6)]) hN (pid_r1 G (pd_var 2) fx.range) (by kernel_rfl) (fun s H C cl fp => (pgd_name 6 hN)) (fun s H C cl fp => pdts_nil) (fun s H C cl fp => (pd_call (XG.blk G) c__law_draw (hr.mono (by decide)) (pda_cons (pd_var 0) (pda_cons (pd_var 1) pda_nil)))))) (pd_lst (pda_cons (pd_op (od_add G) pd_int (pd_call G c__law_draw (hr.mono (by decide)) (pda_cons (pd_var 0) (pda_cons (pd_op (od_sub) (pd_var 1) pd_int) pda_nil)))) pda_nil)))) (pssd_cons (psd_for hp (pid_r1 G (pd_op (od_mul G) (pd_var 1) (pd_var 1)) fx.range) (pgd_name 4 hN) (pssd_cons (psd_set 5 hN (pd_bor 3 (pd_call G c__law_trim (hr.mono (by decide)) (pda_cons (pd_var 1) (pda_cons (pd_var 3) pda_nil))))) (pssd_cons (psd_if (pdt_cmp (od_eq G (rmu hr)) (pd_blt G (cd_len G) fx.len (pda_cons (pd_call G c__law_common (hr.mono (by decide)) (pda_cons (pd_var 1) (pda_cons (pd_var 5) (pda_cons (pd_call G c__law_slope (hr.mono (by decide)) (pda_cons (pd_var 1) (pda_cons (pd_var 5) pda_nil))) pda_nil)))) pda_nil)) pd_int) (pssd_one (psd_ret (pd_var 5))) pssd_nil) (pssd_cons (psd_setI 3 (pd_op (od_mod) (pd_op (od_div) (pd_var 4) (pd_var 1)) pd_int) (pd_bor 3 (pd_op (od_add G) (pd_ix G (pd_var 3) (pd_op (od_mod) (pd_op (od_div) (pd_var 4) (pd_var 1)) pd_int)) pd_int))) (pssd_one (psd_setI 3 pd_int (pd_bor 3 (pd_op (od_add G) (pd_ix G (pd_var 3) pd_int) pd_int)))))))) (pssd_one (psd_ret pd_non))))

def N_s__law_curve : List Str := ["deck", "primes", "degrees", "p", "f"]
theorem sc_s__law_curve : FnScope N_s__law_curve ["deck", "primes", "degrees"] (defScope (top 79)) := ⟨rfl, rfl, rfl, by decide +kernel, rfl, by decide +kernel, by decide +kernel⟩
def W_s__law_curve (S : Sps) (xp : Exc → Prop) : WS := (wSeq (wSet 3 (wBin kIx (wVar 1) (wCall S.s__law_draw [] xp (wCons (wVar 0) (wCons (wBlt cLen (wCons (wVar 1) wNil)) wNil))))) (wSeq (wSet 4 (wCall S.s__law_f [] xp (wCons (wVar 0) (wCons (wVar 3) (wCons (wBin kIx (wVar 2) (wCall S.s__law_draw [] xp (wCons (wVar 0) (wCons (wBlt cLen (wCons (wVar 2) wNil)) wNil)))) wNil))))) (wSeq (wIfS (wB (wBin kIsN (wVar 4) (wC .non))) (wRet (wTup (wCons (wC (.int 5)) (wCons (wTup (wCons (wC (.int 1)) (wCons (wC (.int 1)) (wCons (wC (.int 0)) (wCons (wC (.int 1)) wNil))))) wNil)))) wNext) (wRet (wTup (wCons (wVar 3) (wCons (wVar 4) wNil)))))))
theorem bd_s__law_curve {g : Gx} (S : Sps) (fx : Fx g) (c__law_draw : FnG g 1 "_law_draw" 2 [] S.s__law_draw) (c__law_f : FnG g 5 "_law_f" 3 [] S.s__law_f) {f : Addr} (cd : Value) (A : Around) (outer : List PySem.Env) (s : Shared) (H : Hp) (E : XK) (xp : Exc → Prop) (hr : Room 5 (dcx g N_s__law_curve "_law_curve" (defScope (top 79)) f cd A outer s H E).A) : PSsD (dcx g N_s__law_curve "_law_curve" (defScope (top 79)) f cd A outer s H E) g xp (defBody (top 79)) (W_s__law_curve S xp) := by
  have G : XG (dcx g N_s__law_curve "_law_curve" (defScope (top 79)) f cd A outer s H E) g := XG.dcx
  have hN : N_s__law_curve.Nodup := sc_s__law_curve.nd
  have hp : PassesOwn (model g.prog g.w) (dcx g N_s__law_curve "_law_curve" (defScope (top 79)) f cd A outer s H E).A (dcx g N_s__law_curve "_law_curve" (defScope (top 79)) f cd A outer s H E).env (dcx g N_s__law_curve "_law_curve" (defScope (top 79)) f cd A outer s H E).xe := passes_of rfl
  exact (pssd_cons (psd_set 3 hN (pd_ix G (pd_var 1) (pd_call G c__law_draw (hr.mono (by decide)) (pda_cons (pd_var 0) (pda_cons (pd_blt G (cd_len G) fx.len (pda_cons (pd_var 1) pda_nil)) pda_nil))))) (pssd_cons (psd_set 4 hN (pd_call G c__law_f (hr.mono (by decide)) (pda_cons (pd_var 0) (pda_cons (pd_var 3) (pda_cons (pd_ix G (pd_var 2) (pd_call G c__law_draw (hr.mono (by decide)) (pda_cons (pd_var 0) (pda_cons (pd_blt G (cd_len G) fx.len (pda_cons (pd_var 2) pda_nil)) pda_nil)))) pda_nil))))) (pssd_cons (psd_if (pdt_cmp (od_isN) (pd_var 4) pd_non) (pssd_one (psd_ret (pd_tup (pda_cons pd_int (pda_cons (pd_tup (pda_cons pd_int (pda_cons pd_int (pda_cons pd_int (pda_cons pd_int pda_nil))))) pda_nil))))) pssd_nil) (pssd_one (psd_ret (pd_tup (pda_cons (pd_var 3) (pda_cons (pd_var 4) pda_nil))))))))

def N_s_law : List Str := ["script", "deck", "curve", "g", "other", "squares", "part", "z", "scaled_v", "size", "step", "row", "p", "f", "one", "two", "x", "item", "i"]
theorem sc_s_law : FnScope N_s_law ["script"] (defScope (top 80)) := ⟨rfl, rfl, rfl, by decide +kernel, rfl, by decide +kernel, by decide +kernel⟩
def W_s_law (S : Sps) (xp : Exc → Prop) : WS := (wSeq (wAsg (wCall S.s__law_curve [] xp (wCons (wVar 1) (wCons (wLst (wCons (wC (.int 3)) (wCons (wC (.int 5)) (wCons (wC (.int 7)) (wCons (wC (.int 3)) (wCons (wC (.int 5)) (wCons (wC (.int 11)) (wCons (wC (.int 13)) (wCons (wC (.int 17)) (wCons (wC (.int 61)) wNil)))))))))) (wCons (wLst (wCons (wC (.int 3)) (wCons (wC (.int 5)) (wCons (wC (.int 7)) (wCons (wC (.int 9)) wNil))))) wNil)))) (gdTup 2 (gdCons (gdName 12) (gdCons (gdName 13) gdNil)))) (wSeq (wSet 2 (wCall S.m_Curve [] xp (wCons (wVar 12) (wCons (wVar 13) wNil)))) (wSeq (wSet 3 (wProp 0 S.p_genus (wVar 2))) (wSeq (wSet 4 (wCall S.s_twin [] xp (wCons (wVar 2) wNil))) (wSeq (wSet 5 (wOfL (lComp (iR2 (wC (.int 1)) (wVar 12)) (gdName 16) wYes (wBin kMod (wBlt cInt (wCons (wBin kMul (wVar 16) (wVar 16)) wNil)) (wVar 12)) [16]))) (wSeq (wSet 6 (wBin kIx (wOfL (lComp (iR2 (wC (.int 1)) (wVar 12)) (gdName 16) (wB (wBin kNotIn (wVar 16) (wVar 5))) (wVar 16) [16])) (wC (.int 0)))) (wSeq (wIfS (wOr (wNot (wTru (wIsIns 0 (wVar 4)))) (wNot (wTru (wCall S.s__law_is [] xp (wCons (wLst (wCons (wProp 0 S.p_p (wVar 4)) (wCons (wProp 0 S.p_f (wVar 4)) wNil))) (wCons (wLst (wCons (wVar 12) (wCons (wCall S.s__law_trim [] xp (wCons (wVar 12) (wCons (wOfL (lComp (iSeq (wVar 13)) (gdName 17) wYes (wBin kMul (wVar 6) (wVar 17)) [17])) wNil))) wNil))) wNil)))))) (wRet (wC (.bl false))) wNext) (wSeq (wIfS (wB (wBin kNe (wBin kAdd (wCall S.s_place_count [] xp (wCons (wVar 2) (wCons (wC (.int 1)) wNil))) (wCall S.s_place_count [] xp (wCons (wVar 4) (wCons (wC (.int 1)) wNil)))) (wBin kAdd (wBin kMul (wC (.int 2)) (wVar 12)) (wC (.int 2))))) (wRet (wC (.bl false))) wNext) (wSeq (wSet 7 (wBin kAdd (wC (.int 1)) (wCall S.s__law_draw [] xp (wCons (wVar 1) (wCons (wBin kSub (wVar 12) (wC (.int 1))) wNil))))) (wSeq (wSet 8 (wCall S.m_Curve [] xp (wCons (wVar 12) (wCons (wCall S.s__law_trim [] xp (wCons (wVar 12) (wCons (wOfL (lComp (iSeq (wVar 13)) (gdName 17) wYes (wBin kMul (wVar 7) (wVar 17)) [17])) wNil))) wNil)))) (wSeq (wIfS (wOr (wB (wBin kIsN (wCall S.s_turn_between [] xp (wCons (wVar 8) (wCons (wBin kIx (wLst (wCons (wVar 4) (wCons (wVar 2) wNil))) (wBlt cInt (wCons (wBin kIn (wVar 7) (wVar 5)) wNil))) wNil))) (wC .non))) (wB (wBin kIsN (wCall S.s_turn_between [] xp (wCons (wVar 2) (wCons (wCall S.s_twin [] xp (wCons (wVar 4) wNil)) wNil))) (wC .non)))) (wRet (wC (.bl false))) wNext) (wSeq (wSet 9 (wC (.int 1))) (wSeq (wFor (iR1 (wVar 3)) (gdName 10) (wSet 9 (wBin kMul (wVar 9) (wVar 12)))) (wSeq (wIfS (wB (wBin kGt (wVar 9) (wC (.int 200)))) (wRet (wC (.bl true))) wNext) (wSeq (wSet 11 (wCall S.s_curve_polynomial [] xp (wCons (wVar 2) wNil))) (wSeq (wIfS (wNot (wTru (wCall S.s__law_is [] xp (wCons (wCall S.s_curve_polynomial [] xp (wCons (wVar 4) wNil)) (wCons (wOfL (lComp (iR1 (wBin kAdd (wBin kMul (wC (.int 2)) (wVar 3)) (wC (.int 1)))) (gdName 18) wYes (wBin kMul (wBin kIx (wVar 11) (wVar 18)) (wBin kSub (wC (.int 1)) (wBin kMul (wC (.int 2)) (wBin kMod (wBlt cInt (wCons (wVar 18) wNil)) (wC (.int 2)))))) [18])) wNil))))) (wRet (wC (.bl false))) wNext) (wSeq (wPar 14 15 (wCall S.s_class_count [] xp (wCons (wVar 2) (wCons (wC (.int 1)) wNil))) (wCall S.s_class_count [] xp (wCons (wVar 2) (wCons (wC (.int 2)) wNil)))) (wSeq (wIfS (wOr (wB (wBin kNe (wBin kMul (wVar 14) (wCall S.s_class_count [] xp (wCons (wVar 4) (wCons (wC (.int 1)) wNil)))) (wVar 15))) (wB (wBin kNe (wCall S.s_class_count [] xp (wCons (wVar 4) (wCons (wC (.int 2)) wNil))) (wVar 15)))) (wRet (wC (.bl false))) wNext) (wRet (wBin kEq (wCall S.s_class_count [] xp (wCons (wVar 2) (wCons (wC (.int 4)) wNil))) (wCall S.s_class_count [] xp (wCons (wVar 4) (wCons (wC (.int 4)) wNil)))))))))))))))))))))))
theorem bd_s_law {g : Gx} (S : Sps) (fx : Fx g) (c__law_curve : FnG g 6 "_law_curve" 3 [] S.s__law_curve) (c_m_Curve : MkG g 6 "Curve" 0 2 S.m_Curve) (c_p_genus : PropG g 3 0 "genus" S.p_genus) (c_twin : FnG g 8 "twin" 1 [] S.s_twin) (c_p_p : PropG g 2 0 "p" S.p_p) (c_p_f : PropG g 2 0 "f" S.p_f) (c__law_trim : FnG g 2 "_law_trim" 2 [] S.s__law_trim) (c__law_is : FnGR g 2 "_law_is" 2 [] S.s__law_is) (c_place_count : FnG g 11 "place_count" 2 [] S.s_place_count) (c__law_draw : FnG g 1 "_law_draw" 2 [] S.s__law_draw) (c_turn_between : FnG g 8 "turn_between" 2 [] S.s_turn_between) (c_curve_polynomial : FnG g 7 "curve_polynomial" 1 [] S.s_curve_polynomial) (c_class_count : FnG g 8 "class_count" 2 [] S.s_class_count) {f : Addr} (cd : Value) (A : Around) (outer : List PySem.Env) (s : Shared) (H : Hp) (E : XK) (xp : Exc → Prop) (hgd : A.guards = some []) (hr : Room 11 (dcx g N_s_law "law" (defScope (top 80)) f cd A outer s H E).A) : PSsD (dcx g N_s_law "law" (defScope (top 80)) f cd A outer s H E) g xp ((defBody (top 80)).drop 1) (W_s_law S xp) := by
  have G : XG (dcx g N_s_law "law" (defScope (top 80)) f cd A outer s H E) g := XG.dcx
  have hN : N_s_law.Nodup := sc_s_law.nd
  have hp : PassesOwn (model g.prog g.w) (dcx g N_s_law "law" (defScope (top 80)) f cd A outer s H E).A (dcx g N_s_law "law" (defScope (top 80)) f cd A outer s H E).env (dcx g N_s_law "law" (defScope (top 80)) f cd A outer s H E).xe := passes_of rfl
  exact (pssd_cons (psd_asg (pd_call G c__law_curve (hr.mono (by decide)) (pda_cons (pd_var 1) (pda_cons (pd_lst (pda_cons pd_int (pda_cons pd_int (pda_cons pd_int (pda_cons pd_int (pda_cons pd_int (pda_cons pd_int (pda_cons pd_int (pda_cons pd_int (pda_cons pd_int pda_nil)))))))))) (pda_cons (pd_lst (pda_cons pd_int (pda_cons pd_int (pda_cons pd_int (pda_cons pd_int pda_nil))))) pda_nil)))) (pgd_tup G (pgsd_cons (pgd_name 12 hN) (pgsd_cons (pgd_name 13 hN) pgsd_nil)))) (pssd_cons (psd_set 2 hN (pd_make G c_m_Curve (hr.mono (by decide)) (pda_cons (pd_var 12) (pda_cons (pd_var 13) pda_nil)))) (pssd_cons (psd_set 3 hN (pd_prop G fx.Curve c_p_genus (hr.mono (by decide)) (pd_var 2))) (pssd_cons (psd_set 4 hN (pd_call G c_twin (hr.mono (by decide)) (pda_cons (pd_var 2) pda_nil))) (pssd_cons (psd_set 5 hN (pd_ofL (pdf_comp (own0 := [("x", 16)]) hN (pid_r2 G pd_int (pd_var 12) fx.range) (by kernel_rfl) (fun s H C cl fp => (pgd_name 16 hN)) (fun s H C cl fp => pdts_nil) (fun s H C cl fp => (pd_op (od_mod) (pd_bty (XG.blk G) (cd_int) fx.int (pda_cons (pd_op (od_mul (XG.blk G)) (pd_var 16) (pd_var 16)) pda_nil)) (pd_var 12)))))) (pssd_cons (psd_set 6 hN (pd_ix G (pd_ofL (pdf_comp (own0 := [("x", 16)]) hN (pid_r2 G pd_int (pd_var 12) fx.range) (by kernel_rfl) (fun s H C cl fp => (pgd_name 16 hN)) (fun s H C cl fp => (pdts_one (pdt_cmp (od_notIn (XG.blk G) (rmu hr)) (pd_var 16) (pd_var 5)))) (fun s H C cl fp => (pd_var 16)))) pd_int)) (pssd_cons (psd_if (pdt_w (pdw_or (pdt_not (pdt_tru G (pd_isins 0 G fx.Curve fx.isi_Curve fx.gl_Curve fx.isinstance (pd_var 4)))) (pdw_or1 (pdt_not (pdt_tru G (pd_callR G c__law_is (hr.mono (by decide)) hgd (pda_cons (pd_lst (pda_cons (pd_prop G fx.Curve c_p_p (hr.mono (by decide)) (pd_var 4)) (pda_cons (pd_prop G fx.Curve c_p_f (hr.mono (by decide)) (pd_var 4)) pda_nil))) (pda_cons (pd_lst (pda_cons (pd_var 12) (pda_cons (pd_call G c__law_trim (hr.mono (by decide)) (pda_cons (pd_var 12) (pda_cons (pd_ofL (pdf_comp (own0 := [("item", 17)]) hN (pid_seq G (pd_var 13)) (by kernel_rfl) (fun s H C cl fp => (pgd_name 17 hN)) (fun s H C cl fp => pdts_nil) (fun s H C cl fp => (pd_op (od_mul (XG.blk G)) (pd_var 6) (pd_var 17))))) pda_nil))) pda_nil))) pda_nil)))))))) (pssd_one (psd_ret pd_bl)) pssd_nil) (pssd_cons (psd_if (pdt_cmp (od_ne G (rmu hr)) (pd_op (od_add G) (pd_call G c_place_count (hr.mono (by decide)) (pda_cons (pd_var 2) (pda_cons pd_int pda_nil))) (pd_call G c_place_count (hr.mono (by decide)) (pda_cons (pd_var 4) (pda_cons pd_int pda_nil)))) (pd_op (od_add G) (pd_op (od_mul G) pd_int (pd_var 12)) pd_int)) (pssd_one (psd_ret pd_bl)) pssd_nil) (pssd_cons (psd_set 7 hN (pd_op (od_add G) pd_int (pd_call G c__law_draw (hr.mono (by decide)) (pda_cons (pd_var 1) (pda_cons (pd_op (od_sub) (pd_var 12) pd_int) pda_nil))))) (pssd_cons (psd_set 8 hN (pd_make G c_m_Curve (hr.mono (by decide)) (pda_cons (pd_var 12) (pda_cons (pd_call G c__law_trim (hr.mono (by decide)) (pda_cons (pd_var 12) (pda_cons (pd_ofL (pdf_comp (own0 := [("item", 17)]) hN (pid_seq G (pd_var 13)) (by kernel_rfl) (fun s H C cl fp => (pgd_name 17 hN)) (fun s H C cl fp => pdts_nil) (fun s H C cl fp => (pd_op (od_mul (XG.blk G)) (pd_var 7) (pd_var 17))))) pda_nil))) pda_nil)))) (pssd_cons (psd_if (pdt_w (pdw_or (pdt_cmp (od_isN) (pd_call G c_turn_between (hr.mono (by decide)) (pda_cons (pd_var 8) (pda_cons (pd_ix G (pd_lst (pda_cons (pd_var 4) (pda_cons (pd_var 2) pda_nil))) (pd_bty G (cd_int) fx.int (pda_cons (pd_cmp (od_in G (rmu hr)) (pd_var 7) (pd_var 5)) pda_nil))) pda_nil))) pd_non) (pdw_or1 (pdt_cmp (od_isN) (pd_call G c_turn_between (hr.mono (by decide)) (pda_cons (pd_var 2) (pda_cons (pd_call G c_twin (hr.mono (by decide)) (pda_cons (pd_var 4) pda_nil)) pda_nil))) pd_non)))) (pssd_one (psd_ret pd_bl)) pssd_nil) (pssd_cons (psd_set 9 hN pd_int) (pssd_cons (psd_for hp (pid_r1 G (pd_var 3) fx.range) (pgd_name 10 hN) (pssd_one (psd_set 9 hN (pd_op (od_mul G) (pd_var 9) (pd_var 12))))) (pssd_cons (psd_if (pdt_cmp (od_gt) (pd_var 9) pd_int) (pssd_one (psd_ret pd_bl)) pssd_nil) (pssd_cons (psd_set 11 hN (pd_call G c_curve_polynomial (hr.mono (by decide)) (pda_cons (pd_var 2) pda_nil))) (pssd_cons (psd_if (pdt_not (pdt_tru G (pd_callR G c__law_is (hr.mono (by decide)) hgd (pda_cons (pd_call G c_curve_polynomial (hr.mono (by decide)) (pda_cons (pd_var 4) pda_nil)) (pda_cons (pd_ofL (pdf_comp (own0 := [("i", 18)]) hN (pid_r1 G (pd_op (od_add G) (pd_op (od_mul G) pd_int (pd_var 3)) pd_int) fx.range) (by kernel_rfl) (fun s H C cl fp => (pgd_name 18 hN)) (fun s H C cl fp => pdts_nil) (fun s H C cl fp => (pd_op (od_mul (XG.blk G)) (pd_ix (XG.blk G) (pd_var 11) (pd_var 18)) (pd_op (od_sub) pd_int (pd_op (od_mul (XG.blk G)) pd_int (pd_op (od_mod) (pd_bty (XG.blk G) (cd_int) fx.int (pda_cons (pd_var 18) pda_nil)) pd_int))))))) pda_nil))))) (pssd_one (psd_ret pd_bl)) pssd_nil) (pssd_cons (psd_par 14 15 hN (pd_call G c_class_count (hr.mono (by decide)) (pda_cons (pd_var 2) (pda_cons pd_int pda_nil))) (pd_call G c_class_count (hr.mono (by decide)) (pda_cons (pd_var 2) (pda_cons pd_int pda_nil)))) (pssd_cons (psd_if (pdt_w (pdw_or (pdt_cmp (od_ne G (rmu hr)) (pd_op (od_mul G) (pd_var 14) (pd_call G c_class_count (hr.mono (by decide)) (pda_cons (pd_var 4) (pda_cons pd_int pda_nil)))) (pd_var 15)) (pdw_or1 (pdt_cmp (od_ne G (rmu hr)) (pd_call G c_class_count (hr.mono (by decide)) (pda_cons (pd_var 4) (pda_cons pd_int pda_nil))) (pd_var 15))))) (pssd_one (psd_ret pd_bl)) pssd_nil) (pssd_one (psd_ret (pd_cmp (od_eq G (rmu hr)) (pd_call G c_class_count (hr.mono (by decide)) (pda_cons (pd_var 2) (pda_cons pd_int pda_nil))) (pd_call G c_class_count (hr.mono (by decide)) (pda_cons (pd_var 4) (pda_cons pd_int pda_nil))))))))))))))))))))))))
end K83
end
section
set_option Elab.async false
set_option linter.all false
set_option maxRecDepth 100000
set_option maxHeartbeats 0
/-! printed by gen.py: the head of poleheaps_k83_whole_twins. -/
namespace K83
open PySem PySem.Spec PyProof.Rows L2 DL
def d_s__law_deck : DefP := ⟨fun K => He.ga K "_law_deck", "_law_deck", "_law_deck", defArgs (top 70), defBody (top 70), defScope (top 70), []⟩
def d_s__law_draw : DefP := ⟨fun K => He.ga K "_law_draw", "_law_draw", "_law_draw", defArgs (top 71), defBody (top 71), defScope (top 71), []⟩
def d_s_is_integer : DefP := ⟨fun K => He.ga K "is_integer", "is_integer", "is_integer", defArgs (top 10), defBody (top 10), defScope (top 10), []⟩
def d_s_is_count : DefP := ⟨fun K => He.ga K "is_count", "is_count", "is_count", defArgs (top 11), defBody (top 11), defScope (top 11), [.int 0, .non]⟩
def d_s_is_prime : DefP := ⟨fun K => He.ga K "is_prime", "is_prime", "is_prime", defArgs (top 12), defBody (top 12), defScope (top 12), []⟩
def d_s_raised : DefP := ⟨fun K => He.ga K "raised", "raised", "raised", defArgs (top 13), defBody (top 13), defScope (top 13), []⟩
def d_s_primes_of : DefP := ⟨fun K => He.ga K "primes_of", "primes_of", "primes_of", defArgs (top 14), defBody (top 14), defScope (top 14), []⟩
def d_s_divisors : DefP := ⟨fun K => He.ga K "divisors", "divisors", "divisors", defArgs (top 15), defBody (top 15), defScope (top 15), []⟩
def d_s_inverse : DefP := ⟨fun K => He.ga K "inverse", "inverse", "inverse", defArgs (top 16), defBody (top 16), defScope (top 16), []⟩
def d_s_root : DefP := ⟨fun K => He.ga K "root", "root", "root", defArgs (top 17), defBody (top 17), defScope (top 17), []⟩
def d_s_is_polynomial : DefP := ⟨fun K => He.ga K "is_polynomial", "is_polynomial", "is_polynomial", defArgs (top 20), defBody (top 20), defScope (top 20), []⟩
def d_s_trimmed : DefP := ⟨fun K => He.ga K "trimmed", "trimmed", "trimmed", defArgs (top 21), defBody (top 21), defScope (top 21), []⟩
def d_s_degree : DefP := ⟨fun K => He.ga K "degree", "degree", "degree", defArgs (top 22), defBody (top 22), defScope (top 22), []⟩
def d_s_index : DefP := ⟨fun K => He.ga K "index", "index", "index", defArgs (top 23), defBody (top 23), defScope (top 23), []⟩
def d_s_of_index : DefP := ⟨fun K => He.ga K "of_index", "of_index", "of_index", defArgs (top 24), defBody (top 24), defScope (top 24), []⟩
def d_s_scaled : DefP := ⟨fun K => He.ga K "scaled", "scaled", "scaled", defArgs (top 25), defBody (top 25), defScope (top 25), []⟩
def d_s_monic : DefP := ⟨fun K => He.ga K "monic", "monic", "monic", defArgs (top 26), defBody (top 26), defScope (top 26), []⟩
def d_s_combined : DefP := ⟨fun K => He.ga K "combined", "combined", "combined", defArgs (top 27), defBody (top 27), defScope (top 27), []⟩
def d_s_sum_of : DefP := ⟨fun K => He.ga K "sum_of", "sum_of", "sum_of", defArgs (top 28), defBody (top 28), defScope (top 28), []⟩
def d_s_product : DefP := ⟨fun K => He.ga K "product", "product", "product", defArgs (top 29), defBody (top 29), defScope (top 29), []⟩
def d_s_slope : DefP := ⟨fun K => He.ga K "slope", "slope", "slope", defArgs (top 30), defBody (top 30), defScope (top 30), []⟩
def d_s_value_at : DefP := ⟨fun K => He.ga K "value_at", "value_at", "value_at", defArgs (top 31), defBody (top 31), defScope (top 31), []⟩
def d_s_put_in : DefP := ⟨fun K => He.ga K "put_in", "put_in", "put_in", defArgs (top 32), defBody (top 32), defScope (top 32), []⟩
def d_s_divided : DefP := ⟨fun K => He.ga K "divided", "divided", "divided", defArgs (top 33), defBody (top 33), defScope (top 33), []⟩
def d_s_remainder : DefP := ⟨fun K => He.ga K "remainder", "remainder", "remainder", defArgs (top 34), defBody (top 34), defScope (top 34), []⟩
def d_s_common : DefP := ⟨fun K => He.ga K "common", "common", "common", defArgs (top 35), defBody (top 35), defScope (top 35), []⟩
def d_s_power_modulo : DefP := ⟨fun K => He.ga K "power_modulo", "power_modulo", "power_modulo", defArgs (top 36), defBody (top 36), defScope (top 36), []⟩
def d_s_prime_polynomials : DefP := ⟨fun K => He.ga K "prime_polynomials", "prime_polynomials", "prime_polynomials", defArgs (top 37), defBody (top 37), defScope (top 37), []⟩
def d_s_any_root : DefP := ⟨fun K => He.ga K "any_root", "any_root", "any_root", defArgs (top 42), defBody (top 42), defScope (top 42), []⟩
def d_s_root_modulo : DefP := ⟨fun K => He.ga K "root_modulo", "root_modulo", "root_modulo", defArgs (top 43), defBody (top 43), defScope (top 43), []⟩
def d_p_p : DefP := ⟨fun K => gtA K (He.ma K (He.ga K "Curve") "p"), "p", "Curve.p", defArgs (inClass (top 40) 1), defBody (inClass (top 40) 1), defScope (inClass (top 40) 1), []⟩
def d_p_f : DefP := ⟨fun K => gtA K (He.ma K (He.ga K "Curve") "f"), "f", "Curve.f", defArgs (inClass (top 40) 2), defBody (inClass (top 40) 2), defScope (inClass (top 40) 2), []⟩
def d_s_kind_over : DefP := ⟨fun K => He.ga K "kind_over", "kind_over", "kind_over", defArgs (top 45), defBody (top 45), defScope (top 45), []⟩
def d_s_places_over : DefP := ⟨fun K => He.ga K "places_over", "places_over", "places_over", defArgs (top 46), defBody (top 46), defScope (top 46), []⟩
def d_s_places : DefP := ⟨fun K => He.ga K "places", "places", "places", defArgs (top 47), defBody (top 47), defScope (top 47), []⟩
def d_s_place_count : DefP := ⟨fun K => He.ga K "place_count", "place_count", "place_count", defArgs (top 48), defBody (top 48), defScope (top 48), []⟩
def d_s_zeros_of : DefP := ⟨fun K => He.ga K "zeros_of", "zeros_of", "zeros_of", defArgs (top 50), defBody (top 50), defScope (top 50), []⟩
def d_s_turned_numbers : DefP := ⟨fun K => He.ga K "turned_numbers", "turned_numbers", "turned_numbers", defArgs (top 51), defBody (top 51), defScope (top 51), []⟩
def d_s_ways : DefP := ⟨fun K => He.ga K "ways", "ways", "ways", defArgs (top 52), defBody (top 52), defScope (top 52), []⟩
def d_s_plain_turns : DefP := ⟨fun K => He.ga K "plain_turns", "plain_turns", "plain_turns", defArgs (top 53), defBody (top 53), defScope (top 53), []⟩
def d_s_other_turns : DefP := ⟨fun K => He.ga K "other_turns", "other_turns", "other_turns", defArgs (top 54), defBody (top 54), defScope (top 54), []⟩
def d_p_genus : DefP := ⟨fun K => gtA K (He.ma K (He.ga K "Curve") "genus"), "genus", "Curve.genus", defArgs (inClass (top 40) 3), defBody (inClass (top 40) 3), defScope (inClass (top 40) 3), []⟩
def d_s_turns : DefP := ⟨fun K => He.ga K "turns", "turns", "turns", defArgs (top 55), defBody (top 55), defScope (top 55), []⟩
def d_s_turn_between : DefP := ⟨fun K => He.ga K "turn_between", "turn_between", "turn_between", defArgs (top 56), defBody (top 56), defScope (top 56), []⟩
def d_m_Curve : DefP := ⟨fun K => He.ma K (He.ga K "Curve") "__init__", "__init__", "Curve.__init__", defArgs (inClass (top 40) 0), defBody (inClass (top 40) 0), defScope (inClass (top 40) 0), []⟩
def d_s_twin : DefP := ⟨fun K => He.ga K "twin", "twin", "twin", defArgs (top 57), defBody (top 57), defScope (top 57), []⟩
def d_s_list_made : DefP := ⟨fun K => He.ga K "list_made", "list_made", "list_made", defArgs (top 59), defBody (top 59), defScope (top 59), []⟩
def d_s_counts_of : DefP := ⟨fun K => He.ga K "counts_of", "counts_of", "counts_of", defArgs (top 60), defBody (top 60), defScope (top 60), []⟩
def d_s_list_over : DefP := ⟨fun K => He.ga K "list_over", "list_over", "list_over", defArgs (top 61), defBody (top 61), defScope (top 61), []⟩
def d_s_check_size : DefP := ⟨fun K => He.ga K "check_size", "check_size", "check_size", defArgs (top 63), defBody (top 63), defScope (top 63), []⟩
def d_s_sign_of_number : DefP := ⟨fun K => He.ga K "sign_of_number", "sign_of_number", "sign_of_number", defArgs (top 64), defBody (top 64), defScope (top 64), []⟩
def d_s_sign_at : DefP := ⟨fun K => He.ga K "sign_at", "sign_at", "sign_at", defArgs (top 65), defBody (top 65), defScope (top 65), []⟩
def d_s_points_counted : DefP := ⟨fun K => He.ga K "points_counted", "points_counted", "points_counted", defArgs (top 66), defBody (top 66), defScope (top 66), []⟩
def d_s_curve_polynomial : DefP := ⟨fun K => He.ga K "curve_polynomial", "curve_polynomial", "curve_polynomial", defArgs (top 67), defBody (top 67), defScope (top 67), []⟩
def d_s_class_count : DefP := ⟨fun K => He.ga K "class_count", "class_count", "class_count", defArgs (top 68), defBody (top 68), defScope (top 68), []⟩
def d_s__law_is : DefP := ⟨fun K => He.ga K "_law_is", "_law_is", "_law_is", defArgs (top 72), defBody (top 72), defScope (top 72), []⟩
def d_s__law_trim : DefP := ⟨fun K => He.ga K "_law_trim", "_law_trim", "_law_trim", defArgs (top 73), defBody (top 73), defScope (top 73), []⟩
def d_s__law_inv : DefP := ⟨fun K => He.ga K "_law_inv", "_law_inv", "_law_inv", defArgs (top 74), defBody (top 74), defScope (top 74), []⟩
def d_s__law_div : DefP := ⟨fun K => He.ga K "_law_div", "_law_div", "_law_div", defArgs (top 75), defBody (top 75), defScope (top 75), []⟩
def d_s__law_common : DefP := ⟨fun K => He.ga K "_law_common", "_law_common", "_law_common", defArgs (top 76), defBody (top 76), defScope (top 76), []⟩
def d_s__law_slope : DefP := ⟨fun K => He.ga K "_law_slope", "_law_slope", "_law_slope", defArgs (top 77), defBody (top 77), defScope (top 77), []⟩
def d_s__law_f : DefP := ⟨fun K => He.ga K "_law_f", "_law_f", "_law_f", defArgs (top 78), defBody (top 78), defScope (top 78), []⟩
def d_s__law_curve : DefP := ⟨fun K => He.ga K "_law_curve", "_law_curve", "_law_curve", defArgs (top 79), defBody (top 79), defScope (top 79), []⟩
def d_s_law : DefP := ⟨fun K => He.ga K "law", "law", "law", defArgs (top 80), defBody (top 80), defScope (top 80), []⟩
def fnL0 : List DefP := [d_s__law_deck, d_s__law_draw, d_s_is_integer, d_s_is_count, d_s_is_prime, d_s_raised, d_s_primes_of, d_s_divisors, d_s_inverse, d_s_root, d_s_is_polynomial, d_s_trimmed, d_s_degree, d_s_index, d_s_of_index, d_s_scaled, d_s_monic, d_s_combined, d_s_sum_of, d_s_product, d_s_slope, d_s_value_at, d_s_put_in, d_s_divided, d_s_remainder, d_s_common, d_s_power_modulo, d_s_prime_polynomials, d_s_any_root, d_s_root_modulo]
def fnL1 : List DefP := [d_p_p, d_p_f, d_s_kind_over, d_s_places_over, d_s_places, d_s_place_count, d_s_zeros_of, d_s_turned_numbers, d_s_ways, d_s_plain_turns, d_s_other_turns, d_p_genus, d_s_turns, d_s_turn_between, d_m_Curve, d_s_twin, d_s_list_made, d_s_counts_of, d_s_list_over, d_s_check_size, d_s_sign_of_number, d_s_sign_at, d_s_points_counted, d_s_curve_polynomial, d_s_class_count, d_s__law_is, d_s__law_trim, d_s__law_inv, d_s__law_div, d_s__law_common]
def fnL2 : List DefP := [d_s__law_slope, d_s__law_f, d_s__law_curve, d_s_law]
def fnL : List DefP := fnL0 ++ fnL1 ++ fnL2
def faL0 : List He.Fa := [.glo "_law_deck", .glo "_law_draw", .glo "is_integer", .glo "is_count", .glo "is_prime", .glo "raised", .glo "primes_of", .glo "divisors", .glo "inverse", .glo "root", .glo "is_polynomial", .glo "trimmed", .glo "degree", .glo "index", .glo "of_index", .glo "scaled", .glo "monic", .glo "combined", .glo "sum_of", .glo "product", .glo "slope", .glo "value_at", .glo "put_in", .glo "divided", .glo "remainder", .glo "common", .glo "power_modulo", .glo "prime_polynomials", .glo "any_root", .glo "root_modulo"]
def faL1 : List He.Fa := [.glo "kind_over", .glo "places_over", .glo "places", .glo "place_count", .glo "zeros_of", .glo "turned_numbers", .glo "ways", .glo "plain_turns", .glo "other_turns", .glo "turns", .glo "turn_between", .glo "twin", .glo "list_made", .glo "counts_of", .glo "list_over", .glo "check_size", .glo "sign_of_number", .glo "sign_at", .glo "points_counted", .glo "curve_polynomial", .glo "class_count", .glo "_law_is", .glo "_law_trim", .glo "_law_inv", .glo "_law_div", .glo "_law_common", .glo "_law_slope", .glo "_law_f", .glo "_law_curve", .glo "law"]
def faL2 : List He.Fa := [.free "int", .free "isinstance", .free "bool", .int "PRIME_MOST" 61, .free "range", .free "all", .free "sorted", .free "tuple", .free "len", .free "max", .free "zip", .free "enumerate", .free "list", .int "LISTED_MOST" 5000, .glo "Curve", .cls "Curve", .mkr "Curve", .noat "Curve" "_p", .noat "Curve" "_f", .free "any", .glo "DEGREES", .free "sum", .free "min", .free "repr", .free "abs"]
def faL : List He.Fa := faL0 ++ faL1 ++ faL2
def exL (K : PySem.W.Frag) : Bool := (tupN K "DEGREES" [3, 5, 7, 9]) && (isiB K (He.ga K "Curve")) && (propB K (He.ga K "Curve") "p") && (propB K (He.ga K "Curve") "f") && (propB K (He.ga K "Curve") "genus")
def lsL0 : List Str := ["_wall", "HeapError", "BadPrime", "BadPolynomial", "BadCurve", "BadNumber", "TooMany", "PRIME_MOST", "is_integer", "is_count", "is_prime", "raised", "primes_of", "divisors", "inverse", "root", "LISTED_MOST", "is_polynomial", "trimmed", "degree", "index", "of_index", "scaled", "monic", "combined", "sum_of", "product", "slope", "value_at", "put_in"]
def lsL1 : List Str := ["divided", "remainder", "common", "power_modulo", "prime_polynomials", "DEGREES", "Curve", "any_root", "root_modulo", "kind_over", "places_over", "places", "place_count", "zeros_of", "turned_numbers", "ways", "plain_turns", "other_turns", "turns", "turn_between", "twin", "list_made", "counts_of", "list_over", "check_size", "sign_of_number", "sign_at", "points_counted", "curve_polynomial", "class_count"]
def lsL2 : List Str := ["_law_deck", "_law_draw", "_law_is", "_law_trim", "_law_inv", "_law_div", "_law_common", "_law_slope", "_law_f", "_law_curve"]
def lsL : List Str := lsL0 ++ lsL1 ++ lsL2
abbrev R : PySem.W.OpenRow := PySem.W.OpenLaw.row PySem.Challenge.rw_poleheaps_k83_whole_twins
abbrev hk : PySem.W.Hook := hookP 6 faL exL fnL
def ob (s : PySem.W.SharedT) : AlP := obsPG 6 faL exL fnL (HandSHeadRun.getT s)
theorem ob_eq (s : PySem.W.SharedT) : ob s = hk.obs s.abs := obsPG_eq (HandSHeadRun.getT_eq s)
theorem run (w : World) : HandSHeadRun.RunEq R (PySem.W.view R.prog [80]) hk ob 12000 lsL w := by
  intro os
  kernel_rfl
end K83
end
section
set_option Elab.async false
set_option linter.all false
set_option maxRecDepth 100000
set_option maxHeartbeats 4000000
/-! the deck: made, drawn from. -/
namespace K83
open PySem PySem.Spec PyProof.Rows L2 DL
abbrev iDraw : Nat := 71
abbrev iDeck : Nat := 70
def N_draw : List Str := ["deck", "bound", "number", "value"]
theorem sc_draw : FnScope N_draw ["deck", "bound"] (defScope (top iDraw)) := ⟨rfl, rfl, rfl, by decide +kernel, rfl, by decide +kernel, by decide +kernel⟩
def N_deck : List Str := ["script", "seed", "cell"]
theorem sc_deck : FnScope N_deck ["script"] (defScope (top iDeck)) := ⟨rfl, rfl, rfl, by decide +kernel, rfl, by decide +kernel, by decide +kernel⟩
/-- the deck's list at p, the script's at l -/
def DeckAt (H : Hp) (p l : Addr) : Prop := ∃ (a i sd e : Int) (ns : List Int), H p = some (.lst [.int a, .int i, .int sd, .ref l, .int e]) ∧ H l = some (.lst (ns.map V.int)) ∧ 0 ≤ a ∧ 0 ≤ i ∧ 0 ≤ sd ∧ sd < 2147483648
def spDraw (p : Addr) : DSpec := fun ds K E => ∃ b : Int, ds = [.adr p, .int b] ∧ 0 < b ∧ b < 1073741824 ∧ ∀ v : Int, 0 ≤ v → v < b → K (.int v)
abbrev rMod : R2 := rI (fun _ j => 0 < j) fun i j => .int (i % j)
abbrev rDiv : R2 := rI CDiv fun i j => .int (i / j)
abbrev rInt1 : List V → Hp → VK → Prop := fun xs H Q => (∃ i, xs = [.int i] ∧ Q (.int i) H) ∨ ∃ k, xs = [.bl k] ∧ Q (.int (if k then 1 else 0)) H
abbrev tAt (K : PySem.W.Frag) (k : Int) : TE := tOp (rIxL K) (tVar 0) (tC (.int k))
theorem at_ok {K : PySem.W.Frag} {σ : L2.St} {H : Hp} {p : Addr} {xs : List V} {k : Int} {v : V} {Q : VK} (h0 : σ[0]? = some (some (.ref p))) (hp : H p = some (.lst xs)) (e : atI xs k = some v) (q : Q v H) : tAt K k σ H Q :=
  ⟨.ref p, h0, p, xs, k, v, rfl, rfl, .inl (.inl hp), e, q⟩
theorem fin_ok {K : PySem.W.Frag} {Dn : Ends} {H : Hp} {p l : Addr} {a i sd e b : Int} {o : Option V} (hp : H p = some (.lst [.int a, .int i, .int sd, .ref l, .int e])) (b0 : 0 < b) (b1 : b < 1073741824)
    (q : Dn.rt (.int (a % b)) (upd H p (.lst [.int (a / b), .int i, .int sd, .ref l, .int e]))) :
    tSeq (tAsg (tOp rMod (tCB rInt1 (tCons (tAt K 0) tNil)) (tVar 1)) (gName 3)) (tSeq (tAsg (tOp rDiv (tAt K 0) (tVar 1)) (gSub (tVar 0) (tC (.int 0)) rSetL)) (tRet (tVar 3))) Dn [some (.ref p), some (.int b), o, none] H := by
  refine at_ok rfl hp rfl (.inl ⟨a, rfl, .int b, rfl, a, b, rfl, rfl, b0, ?_⟩)
  refine at_ok rfl hp rfl ⟨.int b, rfl, a, b, rfl, rfl, ⟨b0, b1⟩, .ref p, rfl, p, _, 0, 0, rfl, rfl, hp, rfl, ?_⟩
  exact ⟨.int (a % b), rfl, q⟩
theorem ite_t {p q : Prop} (h : p) : if (true : Bool) = true then p else q := by rw [if_pos rfl]; exact h
theorem ite_f {p q : Prop} (h : q) : if (false : Bool) = true then p else q := by rw [if_neg (by decide)]; exact h
theorem draw_ok {g : Gx} {f : Addr} {fd : FuncData} {l : Addr} (F : FunD g.K "_law_draw" "_law_draw" (defArgs (top iDraw)) (defBody (top iDraw)) (defScope (top iDraw)) [] [] f fd) (hl : g.mg "len" = none) (ha : g.mg "abs" = none) (hi : g.mg "int" = none)
    (hdk : ∀ H, g.dkOk H ↔ DeckAt H g.dk l) (hds : ∀ b, g.dkS b ↔ b = g.dk ∨ b = l) (hne : g.dk ≠ l) : FnOk g.prog g.w g.K g.mg g.base (CX g.prog g.w) 1 f fd ["deck", "bound"] (spOf g 2 (spDraw g.dk)) := by
  refine F.ok sc_draw (fun vs H Q E ⟨O, ds, _, _, _, h, _⟩ => h) (fun cdv A outer s H vs Q E hr ⟨O, ds, vw, dks, r, hl2, b, ed, b0, b1, hK⟩ => ?_)
  subst ed
  obtain ⟨v0, v1, rfl, rv0, rv1⟩ := repl2 r
  obtain rfl : v0 = V.ref g.dk := rv0
  obtain rfl : v1 = V.int b := rv1
  have dv : ∀ i : Int, ∀ j p1 p2 p3, PE (dcx g N_draw "_law_draw" (defScope (top iDraw)) f cdv A outer s H E) (.Subscript (.Name "deck" p1) (.Constant (.int i) j p2) p3) (tOp (rIxL g.K) (tVar 0) (tC (.int i))) := fun i j p1 p2 p3 => pe_ix ix_list (pe_var (i := 0) rfl (.inl rfl)) pe_int (fun _ _ => rfl)
  have nv : ∀ p1, PE (dcx g N_draw "_law_draw" (defScope (top iDraw)) f cdv A outer s H E) (.Name "number" p1) (tVar 2) := fun p1 => pe_var (i := 2) rfl (.inl rfl)
  have cI : ∀ {e : Expr} {t : TE} {p pos : Pos}, PE (dcx g N_draw "_law_draw" (defScope (top iDraw)) f cdv A outer s H E) e t → starEach [e] (dcx g N_draw "_law_draw" (defScope (top iDraw)) f cdv A outer s H E).env = (false, eval e (dcx g N_draw "_law_draw" (defScope (top iDraw)) f cdv A outer s H E).env) :: starEach [] (dcx g N_draw "_law_draw" (defScope (top iDraw)) f cdv A outer s H E).env →
      PE (dcx g N_draw "_law_draw" (defScope (top iDraw)) f cdv A outer s H E) (.Call (.Name "int" p) [e] [] pos) (tCB _ (tCons t tNil)) := fun he hs => pe_callTy (X := dcx g N_draw "_law_draw" (defScope (top iDraw)) f cdv A outer s H E) call_int1 rfl hi (by decide +kernel) (pa_cons he pa_nil hs) (by decide) (by decide) hs rfl
  refine ⟨_, pss_cons
      (ps_if (pw_and (pt_cmpR op_eq (dv 0 _ _ _ _) pe_int (nomark _)) (pw_and1 (pt_cmpR op_lt (dv 1 _ _ _ _) (pe_callB call_len (by rfl) hl (by decide +kernel) (pa_cons (dv 3 _ _ _ _) pa_nil)) (nomark _)))).pt
        (pss_cons (ps_asg (pe_callB call_abs (by rfl) ha (by decide +kernel) (pa_cons (pe_ix ix_list (dv 3 _ _ _ _) (dv 1 _ _ _ _) (fun _ _ => rfl)) pa_nil)) (pg_sub (pe_var (i := 0) rfl (.inl rfl)) pe_int set_list))
          (pss_one (ps_asg (pe_op op_add (dv 1 _ _ _ _) pe_int) (pg_sub (pe_var (i := 0) rfl (.inl rfl)) pe_int set_list))))
        (pss_one (ps_if (pt_cmpR op_eq (dv 0 _ _ _ _) pe_int (nomark _))
          (pss_cons (ps_asg (pe_op op_add (dv 4 _ _ _ _) pe_int) (pg_sub (pe_var (i := 0) rfl (.inl rfl)) pe_int set_list))
          (pss_cons (ps_set (i := 2) sc_draw.nd rfl (.inl rfl) (pe_op op_mod (cI (pe_op op_add (pe_op op_add (pe_op op_mul (dv 2 _ _ _ _) pe_int) (pe_op op_mul (dv 4 _ _ _ _) pe_int)) pe_int) (by rfl)) pe_int))
          (pss_cons (ps_set (i := 2) sc_draw.nd rfl (.inl rfl) (pe_op op_mod (cI (pe_op op_add (pe_op op_add (pe_op op_mul (nv _) (nv _)) (pe_op op_mul pe_int (dv 4 _ _ _ _))) pe_int) (by rfl)) pe_int))
          (pss_cons (ps_set (i := 2) sc_draw.nd rfl (.inl rfl) (pe_op op_mod (cI (pe_op op_add (pe_op op_add (pe_op op_mul (nv _) (nv _)) (pe_op op_mul pe_int (dv 4 _ _ _ _))) (dv 2 _ _ _ _)) (by rfl)) pe_int))
          (pss_one (ps_asg (pe_op op_fdiv (nv _) pe_int) (pg_sub (pe_var (i := 0) rfl (.inl rfl)) pe_int set_list)))))))
          pss_nil)))
      (pss_cons (ps_set (i := 3) sc_draw.nd rfl (.inl rfl) (pe_op op_mod (cI (dv 0 _ _ _ _) rfl) (pe_var (i := 1) rfl (.inl rfl))))
      (pss_cons (ps_asg (pe_op op_fdiv (dv 0 _ _ _ _) (pe_var (i := 1) rfl (.inl rfl))) (pg_sub (pe_var (i := 0) rfl (.inl rfl)) pe_int set_list))
      (pss_one (ps_ret (pe_var (i := 3) rfl (.inl rfl)))))), ?_⟩
  obtain ⟨a, i, sd, e, ns, h1, h2, h3, h4, h5, h6⟩ := (hdk H).mp vw.dko
  -- the end, from any state of the deck
  have fin : ∀ (o : Option V) (H' : Hp) (a i sd e : Int), H' g.dk = some (.lst [.int a, .int i, .int sd, .ref l, .int e]) → H' l = some (.lst (ns.map V.int)) → 0 ≤ a → 0 ≤ i → 0 ≤ sd → sd < 2147483648 → (∀ c u, c ≠ g.dk → H c = some u → H' c = some u) →
      tSeq (tAsg (tOp rMod (tCB rInt1 (tCons (tAt g.K 0) tNil)) (tVar 1)) (gName 3)) (tSeq (tAsg (tOp rDiv (tAt g.K 0) (tVar 1)) (gSub (tVar 0) (tC (.int 0)) rSetL)) (tRet (tVar 3))) { nx := fun _ H' => Q .non H', rt := Q } [some (.ref g.dk), some (.int b), o, none] H' := by
    intro o H' a i sd e k1 k2 k3 k4 k5 k6 k7
    refine fin_ok k1 b0 b1 (hK _ (Int.emod_nonneg _ (by omega)) (Int.emod_lt_of_pos _ b0) _ _ (fun c u hc z => ?_) ((hdk _).mpr ⟨a / b, i, sd, e, ns, upd_same, ?_, Int.ediv_nonneg k3 (by omega), k4, k5, k6⟩) rfl)
    · rw [upd_ne hc]; exact k7 c u hc z
    · rw [upd_ne hne.symm]; exact k2
  have keep : ∀ c u, c ≠ g.dk → H c = some u → H c = some u := fun _ _ _ h => h
  refine at_ok rfl h1 rfl ⟨rfl, ?_⟩
  by_cases z : a = 0
  · subst z
    refine ⟨true, congrArg V.bl (decide_eq_true rfl), ?_⟩
    refine ite_t ?_
    refine at_ok rfl h1 rfl (at_ok rfl h1 rfl ⟨.ref l, (ns.map V.int).length, rfl, .inl ⟨_, .inl (.inl h2), rfl⟩, i, _, rfl, rfl, ?_⟩)
    by_cases y : i < (((ns.map V.int).length : Nat) : Int)
    · refine ⟨true, congrArg V.bl (decide_eq_true y), ?_⟩
      refine ite_t ?_
      have hj : i.toNat < (ns.map V.int).length := by omega
      have hj2 : i.toNat < ns.length := by rw [List.length_map] at hj; exact hj
      have hget : atI (ns.map V.int) i = some (.int ns[i.toNat]) := by
        unfold atI ixN
        rw [if_pos h4, if_pos y]
        show (ns.map V.int)[i.toNat]? = _
        rw [List.getElem?_map, List.getElem?_eq_getElem hj2]; rfl
      refine at_ok rfl h1 rfl (at_ok rfl h1 rfl ⟨l, _, i, _, rfl, rfl, .inl (.inl h2), hget, ns[i.toNat], rfl, .ref g.dk, rfl, g.dk, _, 0, 0, rfl, rfl, h1, rfl, ?_⟩)
      refine at_ok rfl upd_same rfl ⟨_, _, rfl, rfl, .ref g.dk, rfl, g.dk, _, 1, 1, rfl, rfl, upd_same, rfl, ?_⟩
      refine fin _ _ _ (i + 1) sd e upd_same ?_ ?_ (by omega) h5 h6 fun c u hc zz => ?_
      · rw [upd_ne hne.symm, upd_ne hne.symm]; exact h2
      · split <;> omega
      · rw [upd_ne hc, upd_ne hc]; exact zz
    · refine ⟨false, congrArg V.bl (decide_eq_false y), ?_⟩
      refine ite_f ?_
      refine at_ok rfl h1 rfl ⟨rfl, true, congrArg V.bl (decide_eq_true rfl), ?_⟩
      refine ite_t ?_
      refine at_ok rfl h1 rfl ⟨_, _, rfl, rfl, .ref g.dk, rfl, g.dk, _, 4, 4, rfl, rfl, h1, rfl, ?_⟩
      generalize hH2 : upd H g.dk (.lst ([V.int 0, .int i, .int sd, .ref l, .int e].set 4 (.int (e + 1)))) = H2
      have k1 : H2 g.dk = some (.lst [.int 0, .int i, .int sd, .ref l, .int (e + 1)]) := by rw [← hH2]; exact upd_same
      have k2 : H2 l = some (.lst (ns.map V.int)) := by rw [← hH2, upd_ne hne.symm]; exact h2
      have k3 : ∀ c u, c ≠ g.dk → H c = some u → H2 c = some u := fun c u hc zz => by rw [← hH2, upd_ne hc]; exact zz
      have small : ∀ i : Int, CMul i 48271 ∧ CMul i 69621 ∧ CMul 16807 i ∧ CMul 48271 i := fun i => ⟨.inr (by decide), .inr (by decide), .inl (by decide), .inl (by decide)⟩
      have sq1 : ∀ x j : Int, CMul (x % 2147483647) j := fun x j => .inl ⟨by omega, by omega⟩
      have sq2 : ∀ x j : Int, CMul (x % 998244353) j := fun x j => .inl ⟨by omega, by omega⟩
      refine at_ok rfl k1 rfl ⟨_, _, rfl, rfl, (small _).1, at_ok rfl k1 rfl ⟨_, _, rfl, rfl, (small _).2.1, _, _, rfl, rfl, _, _, rfl, rfl, .inl ⟨_, rfl, _, _, rfl, rfl, (by dsimp only; decide), ?_⟩⟩⟩
      refine ⟨_, rfl, _, rfl, _, _, rfl, rfl, sq1 _ _, at_ok rfl k1 rfl ⟨_, _, rfl, rfl, (small _).2.2.1, _, _, rfl, rfl, _, _, rfl, rfl, .inl ⟨_, rfl, _, _, rfl, rfl, (by dsimp only; decide), ?_⟩⟩⟩
      refine ⟨_, rfl, _, rfl, _, _, rfl, rfl, sq2 _ _, at_ok rfl k1 rfl ⟨_, _, rfl, rfl, (small _).2.2.2, _, _, rfl, rfl, at_ok rfl k1 rfl ⟨_, _, rfl, rfl, .inl ⟨_, rfl, _, _, rfl, rfl, (by dsimp only; decide), ?_⟩⟩⟩⟩
      refine ⟨_, rfl, _, _, rfl, rfl, ⟨by decide, by decide⟩, .ref g.dk, rfl, g.dk, _, 0, 0, rfl, rfl, k1, rfl, ?_⟩
      refine fin _ _ _ i sd (e + 1) upd_same ?_ (Int.ediv_nonneg (Int.emod_nonneg _ (by decide)) (by decide)) h4 h5 h6 fun c u hc zz => ?_
      · rw [upd_ne hne.symm]; exact k2
      · rw [upd_ne hc]; exact k3 c u hc zz
  · refine ⟨false, congrArg V.bl (decide_eq_false (fun q => z (by injection q))), ?_⟩
    refine ite_f ?_
    refine at_ok rfl h1 rfl ⟨rfl, false, congrArg V.bl (decide_eq_false (fun q => z (by injection q))), ?_⟩
    refine ite_f ?_
    exact fin _ H a i sd e h1 h2 h3 h4 h5 h6 keep
def spDeck (K : PySem.W.Frag) : Sp := fun vs H Q E => ∃ (a : Addr) (ns : List Int), vs = [.ref a] ∧ SqL K H a (ns.map V.int) ∧ ∀ l p sd, H l = none → H p = none → p ≠ l → 0 ≤ sd → sd < 2147483648 → Q (.ref p) (upd (upd H l (.lst (ns.map V.int))) p (.lst [.int 0, .int 0, .int sd, .ref l, .int 0]))
theorem deck_ok {g : Gx} {f : Addr} {fd : FuncData} (F : FunD g.K "_law_deck" "_law_deck" (defArgs (top iDeck)) (defBody (top iDeck)) (defScope (top iDeck)) [] [] f fd) (hl : g.mg "list" = none) (hi : g.mg "int" = none) :
    FnOk g.prog g.w g.K g.mg g.base (CX g.prog g.w) 1 f fd ["script"] (spDeck g.K) := by
  refine F.ok sc_deck (fun vs H Q E ⟨a, ns, e, _⟩ => by rw [e]; rfl) (fun cdv A outer s H vs Q E hr ⟨a, ns, e, hs, hQ⟩ => ?_)
  subst e
  have hp : PassesOwn (model g.prog g.w) (dcx g N_deck "_law_deck" (defScope (top iDeck)) f cdv A outer s H E).A (dcx g N_deck "_law_deck" (defScope (top iDeck)) f cdv A outer s H E).env (dcx g N_deck "_law_deck" (defScope (top iDeck)) f cdv A outer s H E).xe := passes_of rfl
  refine ⟨_, pss_cons (ps_set (i := 1) sc_deck.nd rfl (.inl rfl) pe_int)
    (pss_cons (ps_for hp rfl (pi_sq (pe_var (i := 0) rfl (.inl rfl))) (pg_name (i := 2) sc_deck.nd rfl (.inl rfl) (.inl rfl))
      (pss_one (ps_set (i := 1) sc_deck.nd rfl (.inl rfl) (pe_op op_mod (pe_callTy call_int1 (by rfl) hi (by decide +kernel) (pa_cons (pe_op op_add (pe_op op_mul (pe_var (i := 1) rfl (.inl rfl)) pe_int) (pe_var (i := 2) rfl (.inl rfl))) pa_nil)) pe_int))))
    (pss_one (ps_ret (pe_lst (pa_cons pe_int (pa_cons pe_int (pa_cons (pe_var (i := 1) rfl (.inl rfl)) (pa_cons (pe_callTy call_list_of (by rfl) hl (by decide +kernel) (pa_cons (pe_var (i := 0) rfl (.inl rfl)) pa_nil)) (pa_cons pe_int pa_nil))))))))), ?_⟩
  show tSeq _ _ _ [some (.ref a), none, none] H
  refine ⟨.ref a, rfl, a, rfl, .inl ⟨_, hs, fun zl => ?_⟩⟩
  let Pv : Nat → L2.St → Hp → Prop := fun _ σ H' => H' = H ∧ ∃ (sd : Int) (o : Option V), 0 ≤ sd ∧ sd < 2147483648 ∧ σ = [some (.ref a), some (.int sd), o]
  refine for_it (walk_list (K := g.K) (a := a) (xs := ns.map V.int)) Pv ⟨rfl, 7, none, by decide, by decide, rfl⟩ (fun i σ H' _ h => by rw [h.1]; exact hs) (fun i x σ H1 H2 hi h y => ?_) (fun σ H' h => ?_)
  · obtain ⟨e1, sd, o, s0, s1, rfl⟩ := h
    obtain ⟨e2, hx⟩ := y
    subst e1 e2
    rw [List.getElem?_map] at hx
    obtain ⟨c, -, rfl⟩ := Option.map_eq_some_iff.mp hx
    refine ⟨.int sd, rfl, _, _, rfl, rfl, .inr (by decide), .int c, rfl, _, _, rfl, rfl, .inl ⟨_, rfl, _, _, rfl, rfl, (by dsimp only; decide), ?_⟩⟩
    exact ⟨rfl, _, some (.int c), Int.emod_nonneg _ (by decide), Int.lt_trans (Int.emod_lt_of_pos _ (by decide)) (by decide), rfl⟩
  · obtain ⟨e1, sd, o, s0, s1, rfl⟩ := h
    subst e1
    refine ⟨.int sd, rfl, .ref a, rfl, a, ns.map V.int, rfl, .inl hs, fun l hl => ?_⟩
    have m := mil
    refine ⟨by simp; omega, fun p hp2 => ?_⟩
    have hpl : p ≠ l := fun z => by rw [z, upd_same] at hp2; cases hp2
    refine hQ l p sd hl ?_ hpl s0 s1
    rw [upd_ne hpl] at hp2
    exact hp2
end K83
end
section
set_option linter.all false
set_option maxHeartbeats 1000000
/-! PA: polynomials over the ints as lists, as functions; congruence. -/
namespace PA
/-! ### lists -/
def ev : List Int → Int → Int
  | [], _ => 0
  | c :: l, x => c + x * ev l x
def co (l : List Int) (i : Nat) : Int := l.getD i 0
theorem co_nil (i : Nat) : co [] i = 0 := by simp [co]
theorem co_zero (c : Int) (l : List Int) : co (c :: l) 0 = c := by simp [co]
theorem co_succ (c : Int) (l : List Int) (i : Nat) : co (c :: l) (i + 1) = co l i := by simp [co]
theorem co_out {l : List Int} {i : Nat} (h : l.length ≤ i) : co l i = 0 := by
  unfold co; rw [List.getD_eq_getElem?_getD, List.getElem?_eq_none h]; rfl
theorem co_at {l : List Int} {i : Nat} (h : i < l.length) : co l i = l[i] := by
  unfold co; rw [List.getD_eq_getElem?_getD, List.getElem?_eq_getElem h]; rfl
def addL : List Int → List Int → List Int
  | [], b => b
  | a, [] => a
  | x :: a, y :: b => (x + y) :: addL a b
def sclL (c : Int) (l : List Int) : List Int := l.map (c * ·)
def mulL : List Int → List Int → List Int
  | [], _ => []
  | x :: a, b => addL (sclL x b) (0 :: mulL a b)
theorem ev_add : ∀ (a b : List Int) (x : Int), ev (addL a b) x = ev a x + ev b x
  | [], b, x => by simp [addL, ev]
  | _ :: _, [], x => by simp [addL, ev]
  | y :: a, z :: b, x => by
    simp only [addL, ev, ev_add a b x]
    grind
theorem ev_scl (c : Int) : ∀ (a : List Int) (x : Int), ev (sclL c a) x = c * ev a x
  | [], x => by simp [sclL, ev]
  | y :: a, x => by
    have := ev_scl c a x
    simp only [sclL] at this
    simp only [sclL, List.map_cons, ev, this]
    grind
theorem ev_mul : ∀ (a b : List Int) (x : Int), ev (mulL a b) x = ev a x * ev b x
  | [], b, x => by simp [mulL, ev]
  | y :: a, b, x => by
    simp only [mulL, ev_add, ev_scl, ev, ev_mul a b x]
    grind
theorem co_add : ∀ (a b : List Int) (i : Nat), co (addL a b) i = co a i + co b i
  | [], b, i => by simp [addL, co_nil]
  | _ :: _, [], i => by simp [addL, co_nil]
  | y :: a, z :: b, 0 => by simp [addL, co_zero]
  | y :: a, z :: b, i + 1 => by simp [addL, co_succ, co_add a b i]
theorem co_scl (c : Int) : ∀ (a : List Int) (i : Nat), co (sclL c a) i = c * co a i
  | [], i => by simp [sclL, co_nil]
  | y :: a, 0 => by simp [sclL, co_zero]
  | y :: a, i + 1 => by
    have := co_scl c a i
    simp only [sclL] at this
    simp [sclL, co_succ, this]
theorem len_add : ∀ (a b : List Int), (addL a b).length = max a.length b.length
  | [], b => by simp [addL]
  | _ :: _, [] => by simp [addL]
  | y :: a, z :: b => by simp only [addL, List.length_cons, len_add a b]; omega
theorem len_scl (c : Int) (a : List Int) : (sclL c a).length = a.length := by simp [sclL]
theorem len_mul : ∀ (a b : List Int), (mulL a b).length ≤ a.length + b.length
  | [], b => by simp [mulL]
  | x :: a, b => by
    have := len_mul a b
    simp only [mulL, len_add, len_scl, List.length_cons]
    omega
/-- nothing but zeros: it vanishes from N on -/
theorem zero_of : ∀ (l : List Int) (N : Int), (∀ x, N ≤ x → ev l x = 0) → ∀ i, co l i = 0
  | [], _, _, i => co_nil i
  | c :: l, N, h, i => by
    have hc : c = 0 := by
      -- an x beyond N and beyond |c| divides c
      have h1 := h (max N 0 + (c.natAbs : Int) + 1) (by omega)
      simp only [ev] at h1
      generalize hx : max N 0 + (c.natAbs : Int) + 1 = x at h1
      have hx0 : (c.natAbs : Int) < x := by omega
      have hd : x ∣ c := ⟨-ev l x, by grind⟩
      rcases Int.natAbs_dvd_natAbs.mpr hd with ⟨k, hk⟩
      have hxn : c.natAbs < x.natAbs := by omega
      cases k with
      | zero => rw [Nat.mul_zero] at hk; exact Int.natAbs_eq_zero.mp hk
      | succ k =>
        rw [Nat.mul_succ] at hk
        omega
    subst hc
    have hl := zero_of l (max N 1) (fun x hx => by
      have h1 := h x (by omega)
      simp only [ev, Int.zero_add] at h1
      rcases Int.mul_eq_zero.mp h1 with z | z
      · omega
      · exact z)
    cases i with
    | zero => exact co_zero 0 l
    | succ i => rw [co_succ]; exact hl i
theorem co_eq_of {a b : List Int} (h : ∀ x, ev a x = ev b x) (i : Nat) : co a i = co b i := by
  have := zero_of (addL a (sclL (-1) b)) 0 (fun x _ => by rw [ev_add, ev_scl, h x]; grind) i
  rw [co_add, co_scl] at this
  omega
theorem ev_of_co : ∀ (a b : List Int), (∀ i, co a i = co b i) → ∀ x, ev a x = ev b x
  | [], [], _, x => rfl
  | [], z :: b, h, x => by
    have h0 := h 0
    rw [co_nil, co_zero] at h0
    have := ev_of_co [] b (fun i => by have := h (i + 1); rw [co_succ, co_nil] at this; rw [co_nil]; exact this) x
    simp only [ev] at this ⊢
    rw [← h0, ← this]; simp
  | y :: a, [], h, x => by
    have h0 := h 0
    rw [co_nil, co_zero] at h0
    have := ev_of_co a [] (fun i => by have := h (i + 1); rw [co_succ, co_nil] at this; rw [co_nil]; exact this) x
    simp only [ev] at this ⊢
    rw [h0, this]; simp
  | y :: a, z :: b, h, x => by
    have h0 := h 0
    rw [co_zero, co_zero] at h0
    have := ev_of_co a b (fun i => by have := h (i + 1); rw [co_succ, co_succ] at this; exact this) x
    simp only [ev]
    rw [h0, this]
/-! ### polynomial functions -/
def P1 (φ : Int → Int) : Prop := ∃ l, ∀ x, φ x = ev l x
theorem P1.ev (l : List Int) : P1 (ev l) := ⟨l, fun _ => rfl⟩
theorem P1.const (c : Int) : P1 (fun _ => c) := ⟨[c], fun x => by simp [PA.ev]⟩
theorem P1.var : P1 (fun x => x) := ⟨[0, 1], fun x => by simp [PA.ev]⟩
theorem P1.add {φ ψ : Int → Int} : P1 φ → P1 ψ → P1 (fun x => φ x + ψ x)
  | ⟨a, ha⟩, ⟨b, hb⟩ => ⟨addL a b, fun x => by dsimp only; rw [ev_add, ha, hb]⟩
theorem P1.mul {φ ψ : Int → Int} : P1 φ → P1 ψ → P1 (fun x => φ x * ψ x)
  | ⟨a, ha⟩, ⟨b, hb⟩ => ⟨mulL a b, fun x => by dsimp only; rw [ev_mul, ha, hb]⟩
theorem P1.sub {φ ψ : Int → Int} : P1 φ → P1 ψ → P1 (fun x => φ x - ψ x)
  | ⟨a, ha⟩, ⟨b, hb⟩ => ⟨addL a (sclL (-1) b), fun x => by dsimp only; rw [ev_add, ev_scl, ha, hb]; grind⟩
theorem P1.neg {φ : Int → Int} : P1 φ → P1 (fun x => -φ x)
  | ⟨a, ha⟩ => ⟨sclL (-1) a, fun x => by dsimp only; rw [ev_scl, ha]; grind⟩
theorem P1.pow {φ : Int → Int} (h : P1 φ) : ∀ n : Nat, P1 (fun x => φ x ^ n)
  | 0 => by simpa using P1.const 1
  | n + 1 => by
    have := (P1.pow h n).mul h
    simpa [Int.pow_succ] using this
theorem P1.evc {φ : Int → Int} (h : P1 φ) : ∀ l : List Int, P1 (fun x => PA.ev l (φ x))
  | [] => P1.const 0
  | c :: l => (P1.const c).add (h.mul (P1.evc h l))
theorem P1.comp {φ ψ : Int → Int} (h : P1 ψ) : P1 φ → P1 (fun x => φ (ψ x))
  | ⟨a, ha⟩ => by
    obtain ⟨b, hb⟩ := P1.evc h a
    exact ⟨b, fun x => by dsimp only; rw [ha]; exact hb x⟩
/-! ### congruence -/
/-- φ and ψ agree, p times a polynomial aside -/
def E (p : Int) (φ ψ : Int → Int) : Prop := ∃ δ, P1 δ ∧ ∀ x, φ x = ψ x + p * δ x
section
variable {p : Int} {φ ψ χ φ' ψ' : Int → Int}
theorem E.refl (φ : Int → Int) : E p φ φ := ⟨fun _ => 0, P1.const 0, fun x => by simp⟩
theorem E.of_eq (h : ∀ x, φ x = ψ x) : E p φ ψ := ⟨fun _ => 0, P1.const 0, fun x => by simp [h]⟩
theorem E.symm (h : E p φ ψ) : E p ψ φ := by
  obtain ⟨d, h1, h2⟩ := h
  exact ⟨fun x => -d x, h1.neg, fun x => by dsimp only; rw [h2]; grind⟩
theorem E.trans (h : E p φ ψ) (k : E p ψ χ) : E p φ χ := by
  obtain ⟨d, h1, h2⟩ := h
  obtain ⟨e, k1, k2⟩ := k
  exact ⟨fun x => d x + e x, h1.add k1, fun x => by dsimp only; rw [h2, k2]; grind⟩
theorem E.add (h : E p φ ψ) (k : E p φ' ψ') : E p (fun x => φ x + φ' x) (fun x => ψ x + ψ' x) := by
  obtain ⟨d, h1, h2⟩ := h
  obtain ⟨e, k1, k2⟩ := k
  exact ⟨fun x => d x + e x, h1.add k1, fun x => by dsimp only; rw [h2, k2]; grind⟩
theorem E.sub (h : E p φ ψ) (k : E p φ' ψ') : E p (fun x => φ x - φ' x) (fun x => ψ x - ψ' x) := by
  obtain ⟨d, h1, h2⟩ := h
  obtain ⟨e, k1, k2⟩ := k
  exact ⟨fun x => d x - e x, h1.sub k1, fun x => by dsimp only; rw [h2, k2]; grind⟩
theorem E.mul (h : E p φ ψ) (k : E p φ' ψ') (p1 : P1 ψ) (p2 : P1 ψ') : E p (fun x => φ x * φ' x) (fun x => ψ x * ψ' x) := by
  obtain ⟨d, h1, h2⟩ := h
  obtain ⟨e, k1, k2⟩ := k
  refine ⟨fun x => (d x * ψ' x + ψ x * e x) + p * (d x * e x), ((h1.mul p2).add (p1.mul k1)).add ((P1.const p).mul (h1.mul k1)), fun x => ?_⟩
  dsimp only
  rw [h2, k2]; grind
theorem E.comp (h : E p φ ψ) {s : Int → Int} (hs : P1 s) : E p (fun x => φ (s x)) (fun x => ψ (s x)) := by
  obtain ⟨d, h1, h2⟩ := h
  exact ⟨fun x => d (s x), hs.comp h1, fun x => h2 _⟩
theorem E.const {a b : Int} (h : (a - b) % p = 0) : E p (fun _ => a) (fun _ => b) :=
  ⟨fun _ => (a - b) / p, P1.const _, fun _ => by dsimp only; have := Int.mul_ediv_cancel' (Int.dvd_of_emod_eq_zero h); omega⟩
/-- a number for another -/
theorem E.num {a b : Int} (h : (a - b) % p = 0) (p1 : P1 φ) : E p (fun x => a * φ x) (fun x => b * φ x) := (E.const h).mul (E.refl φ) (P1.const b) p1
end
theorem E.at {p : Int} {φ ψ : Int → Int} (h : E p φ ψ) (x : Int) : (φ x - ψ x) % p = 0 := by
  obtain ⟨d, h1, h2⟩ := h
  rw [h2]
  have : ψ x + p * d x - ψ x = p * d x := by omega
  rw [this]; exact Int.mul_emod_right p _
/-- by the numbers -/
theorem E.co {p : Int} {a b : List Int} (h : E p (ev a) (ev b)) (i : Nat) : (co a i - co b i) % p = 0 := by
  obtain ⟨d, ⟨l, hl⟩, h2⟩ := h
  have := co_eq_of (a := a) (b := addL b (sclL p l)) (fun x => by rw [h2, ev_add, ev_scl, hl]) i
  rw [this, co_add, co_scl]
  have : PA.co b i + p * PA.co l i - PA.co b i = p * PA.co l i := by omega
  rw [this]; exact Int.mul_emod_right p _
def quoL (p : Int) (a b : List Int) : List Int := (addL a (sclL (-1) b)).map (· / p)
theorem E.of_co {p : Int} {a b : List Int} (h : ∀ i, (PA.co a i - PA.co b i) % p = 0) : E p (ev a) (ev b) := by
  refine ⟨ev (quoL p a b), P1.ev _, fun x => ?_⟩
  have hc : ∀ i, PA.co a i = PA.co (addL b (sclL p (quoL p a b))) i := fun i => by
    rw [co_add, co_scl]
    have e1 : PA.co (quoL p a b) i = (PA.co a i - PA.co b i) / p := by
      have e2 : ∀ (l : List Int), PA.co (l.map (· / p)) i = PA.co l i / p := fun l => by
        unfold PA.co
        rw [List.getD_eq_getElem?_getD, List.getD_eq_getElem?_getD, List.getElem?_map]
        cases l[i]? <;> simp
      unfold quoL
      rw [e2, co_add, co_scl]
      congr 1; omega
    rw [e1, Int.mul_ediv_cancel' (Int.dvd_of_emod_eq_zero (h i))]
    omega
  rw [ev_of_co _ _ hc x, ev_add, ev_scl]
/-! ### canonical lists -/
def Can (p : Int) (l : List Int) : Prop := (∀ c ∈ l, 0 ≤ c ∧ c < p) ∧ (∀ h : l ≠ [], l.getLast h ≠ 0)
theorem Can.co {p : Int} {l : List Int} (hp : 0 < p) (h : Can p l) (i : Nat) : 0 ≤ PA.co l i ∧ PA.co l i < p := by
  by_cases hi : i < l.length
  · rw [co_at hi]; exact h.1 _ (List.getElem_mem hi)
  · rw [co_out (Nat.le_of_not_lt hi)]; omega
theorem Can.last {p : Int} {l : List Int} (h : Can p l) (n : l ≠ []) : PA.co l (l.length - 1) ≠ 0 := by
  have hl : 0 < l.length := List.length_pos_iff.mpr n
  rw [co_at (by omega)]
  have := h.2 n
  rw [List.getLast_eq_getElem] at this
  exact this
theorem Can.uniq {p : Int} {a b : List Int} (hp : 0 < p) (ha : Can p a) (hb : Can p b) (h : E p (PA.ev a) (PA.ev b)) : a = b := by
  have hc : ∀ i, PA.co a i = PA.co b i := fun i => by
    have h1 := h.co i
    have h2 := ha.co hp i
    have h3 := hb.co hp i
    have h4 := Int.emod_emod_of_dvd (PA.co a i - PA.co b i) (Int.dvd_refl p)
    have h5 : PA.co a i % p = PA.co b i % p := Int.emod_eq_emod_iff_emod_sub_eq_zero.mpr h1
    rw [Int.emod_eq_of_lt h2.1 h2.2, Int.emod_eq_of_lt h3.1 h3.2] at h5
    exact h5
  have hl : a.length = b.length := by
    rcases Nat.lt_trichotomy a.length b.length with z | z | z
    · have n : b ≠ [] := fun e => by rw [e] at z; simp at z
      have := hb.last n
      rw [← hc, co_out (by omega)] at this
      exact absurd rfl this
    · exact z
    · have n : a ≠ [] := fun e => by rw [e] at z; simp at z
      have := ha.last n
      rw [hc, co_out (by omega)] at this
      exact absurd rfl this
  apply List.ext_getElem hl
  intro i h1 h2
  rw [← co_at h1, ← co_at h2]; exact hc i
end PA
end
section
set_option linter.all false
set_option maxHeartbeats 2000000
/-! PB: forms of two variables, linear substitution, derivatives. -/
namespace PA
def hm : List Int → Nat → Int → Int → Int
  | [], _, _, _ => 0
  | c :: l, m, X, Z => c * Z ^ m + X * hm l (m - 1) X Z
theorem hm_one : ∀ (l : List Int) (m : Nat) (x : Int), hm l m x 1 = ev l x
  | [], _, _ => rfl
  | c :: l, m, x => by simp only [hm, ev, hm_one l, Int.one_pow, Int.mul_one]
theorem hm_add : ∀ (a b : List Int) (m : Nat) (X Z : Int), hm (addL a b) m X Z = hm a m X Z + hm b m X Z
  | [], b, m, X, Z => by simp [addL, hm]
  | _ :: _, [], m, X, Z => by simp [addL, hm]
  | y :: a, z :: b, m, X, Z => by
    simp only [addL, hm, hm_add a b]
    grind
theorem hm_scl (c : Int) : ∀ (a : List Int) (m : Nat) (X Z : Int), hm (sclL c a) m X Z = c * hm a m X Z
  | [], m, X, Z => by simp [sclL, hm]
  | y :: a, m, X, Z => by
    have := hm_scl c a (m - 1) X Z
    simp only [sclL] at this
    simp only [sclL, List.map_cons, hm, this]
    grind
theorem hm_up : ∀ (l : List Int) (m : Nat) (X Z : Int), l.length ≤ m + 1 → hm l (m + 1) X Z = Z * hm l m X Z
  | [], m, X, Z, _ => by simp [hm]
  | c :: l, 0, X, Z, h => by
    have : l = [] := by simpa using h
    subst this
    simp [hm]; grind
  | c :: l, m + 1, X, Z, h => by
    have := hm_up l m X Z (by simp at h; omega)
    simp only [hm, Nat.add_sub_cancel, this, Int.pow_succ]
    grind
theorem hm_upn (l : List Int) (m : Nat) (X Z : Int) (h : l.length ≤ m + 1) : ∀ k : Nat, hm l (m + k) X Z = Z ^ k * hm l m X Z
  | 0 => by simp
  | k + 1 => by
    rw [← Nat.add_assoc, hm_up l (m + k) X Z (by omega), hm_upn l m X Z h k, Int.pow_succ]
    grind
def linL (α β : Int) (l : List Int) : List Int := addL (sclL β l) (0 :: sclL α l)
theorem hm_lin (α β : Int) (l : List Int) (m : Nat) (X Z : Int) (h : l.length ≤ m + 1) : hm (linL α β l) (m + 1) X Z = (α * X + β * Z) * hm l m X Z := by
  have e : hm (0 :: sclL α l) (m + 1) X Z = X * (α * hm l m X Z) := by
    simp only [hm, Nat.add_sub_cancel, hm_scl]; grind
  rw [linL, hm_add, hm_scl, hm_up l m X Z h, e]
  grind
theorem len_lin (α β : Int) (l : List Int) : (linL α β l).length = l.length + 1 := by
  rw [linL, len_add, len_scl, List.length_cons, len_scl]; omega
theorem hm_pow (c d : Int) : ∀ m : Nat, ∃ r : List Int, r.length ≤ m + 1 ∧ ∀ X Z, hm r m X Z = (c * X + d * Z) ^ m
  | 0 => ⟨[1], by simp, fun X Z => by simp [hm]⟩
  | m + 1 => by
    obtain ⟨r, h1, h2⟩ := hm_pow c d m
    refine ⟨linL c d r, by rw [len_lin]; omega, fun X Z => ?_⟩
    rw [hm_lin c d r m X Z h1, h2, Int.pow_succ]
    grind
/-- a linear substitution -/
theorem hm_sub (a b c d : Int) : ∀ (l : List Int) (m : Nat), l.length ≤ m + 1 → ∃ r : List Int, r.length ≤ m + 1 ∧ ∀ X Z, hm r m X Z = hm l m (a * X + b * Z) (c * X + d * Z)
  | [], m, _ => ⟨[], by simp, fun X Z => rfl⟩
  | e :: l, 0, h => by
    have : l = [] := by simpa using h
    subst this
    exact ⟨[e], by simp, fun X Z => by simp [hm]⟩
  | e :: l, m + 1, h => by
    obtain ⟨r, h1, h2⟩ := hm_sub a b c d l m (by simp at h; omega)
    obtain ⟨w, w1, w2⟩ := hm_pow c d (m + 1)
    refine ⟨addL (sclL e w) (linL a b r), by rw [len_add, len_scl, len_lin]; omega, fun X Z => ?_⟩
    rw [hm_add, hm_scl, w2, hm_lin a b r m X Z h1, h2]
    simp only [hm, Nat.add_sub_cancel]
theorem hm_mul : ∀ (a b : List Int) (m k : Nat) (X Z : Int), a.length ≤ m + 1 → b.length ≤ k + 1 → hm (mulL a b) (m + k) X Z = hm a m X Z * hm b k X Z
  | [], b, m, k, X, Z, _, _ => by simp [mulL, hm]
  | x :: a, b, 0, k, X, Z, h, h' => by
    have : a = [] := by simpa using h
    subst this
    simp only [mulL, hm_add, hm_scl, Nat.zero_add, hm]
    grind
  | x :: a, b, m + 1, k, X, Z, h, h' => by
    have e := hm_mul a b m k X Z (by simp at h; omega) h'
    have u := hm_upn b k X Z h' (m + 1)
    have e2 : hm (0 :: mulL a b) (m + 1 + k) X Z = X * hm (mulL a b) (m + k) X Z := by
      simp only [hm]
      rw [show m + 1 + k - 1 = m + k by omega]; grind
    rw [Nat.add_comm k (m + 1)] at u
    simp only [mulL, hm_add, hm_scl, u, e2, e]
    simp only [hm, Nat.add_sub_cancel]
    grind
theorem hm_co : ∀ (a b : List Int) (m : Nat) (X Z : Int), (∀ i, co a i = co b i) → hm a m X Z = hm b m X Z
  | [], [], _, _, _, _ => rfl
  | [], z :: b, m, X, Z, h => by
    have h0 := h 0
    rw [co_nil, co_zero] at h0
    have := hm_co [] b (m - 1) X Z (fun i => by have := h (i + 1); rw [co_succ, co_nil] at this; rw [co_nil]; exact this)
    simp only [hm] at this ⊢
    rw [← h0, ← this]; simp
  | y :: a, [], m, X, Z, h => by
    have h0 := h 0
    rw [co_nil, co_zero] at h0
    have := hm_co a [] (m - 1) X Z (fun i => by have := h (i + 1); rw [co_succ, co_nil] at this; rw [co_nil]; exact this)
    simp only [hm] at this ⊢
    rw [h0, this]; simp
  | y :: a, z :: b, m, X, Z, h => by
    have h0 := h 0
    rw [co_zero, co_zero] at h0
    have := hm_co a b (m - 1) X Z (fun i => by have := h (i + 1); rw [co_succ, co_succ] at this; exact this)
    simp only [hm]
    rw [h0, this]
theorem hm_inf : ∀ (l : List Int) (m : Nat) (X : Int), l.length ≤ m + 1 → hm l m X 0 = co l m * X ^ m
  | [], m, X, _ => by simp [hm, co_nil]
  | c :: l, 0, X, h => by
    have : l = [] := by simpa using h
    subst this
    simp [hm, co_zero]
  | c :: l, m + 1, X, h => by
    have := hm_inf l m X (by simp at h; omega)
    simp only [hm, Nat.add_sub_cancel, this, co_succ, Int.pow_succ]
    grind
theorem hm_hom (t : Int) : ∀ (l : List Int) (m : Nat) (X Z : Int), l.length ≤ m + 1 → hm l m (t * X) (t * Z) = t ^ m * hm l m X Z
  | [], m, X, Z, _ => by simp [hm]
  | c :: l, 0, X, Z, h => by
    have : l = [] := by simpa using h
    subst this
    simp [hm]
  | c :: l, m + 1, X, Z, h => by
    have := hm_hom t l m X Z (by simp at h; omega)
    simp only [hm, Nat.add_sub_cancel, this, Int.mul_pow, Int.pow_succ]
    grind
/-! ### derivatives -/
def IsD (F A B : Int → Int → Int) : Prop := ∀ X Z h u v : Int, ∃ k : Int, F (X + u * h) (Z + v * h) = F X Z + h * (u * A X Z + v * B X Z) + h * h * k
theorem lin_uniq {d d' : Int} (f : Int → Int) (h1 : ∀ h, ∃ k, f h = h * d + h * h * k) (h2 : ∀ h, ∃ k, f h = h * d' + h * h * k) : d = d' := by
  obtain ⟨k, hk⟩ := h1 ((d - d').natAbs + 1 : Nat)
  obtain ⟨k', hk'⟩ := h2 ((d - d').natAbs + 1 : Nat)
  generalize hn : (((d - d').natAbs + 1 : Nat) : Int) = n at hk hk'
  have hn0 : n ≠ 0 := by omega
  have e : d - d' = n * (k' - k) := by
    have : n * (d - d') = n * (n * (k' - k)) := by grind
    exact Int.eq_of_mul_eq_mul_left hn0 this
  have hd : n ∣ d - d' := ⟨k' - k, e⟩
  rcases Int.natAbs_dvd_natAbs.mpr hd with ⟨j, hj⟩
  have hnn : (d - d').natAbs < n.natAbs := by omega
  cases j with
  | zero =>
    rw [Nat.mul_zero] at hj
    have := Int.natAbs_eq_zero.mp hj
    omega
  | succ j =>
    rw [Nat.mul_succ] at hj
    omega
theorem IsD.uniq {F A B A' B' : Int → Int → Int} (h : IsD F A B) (k : IsD F A' B') (X Z : Int) : A X Z = A' X Z ∧ B X Z = B' X Z := by
  constructor
  · refine lin_uniq (fun t => F (X + 1 * t) (Z + 0 * t) - F X Z) (fun t => ?_) (fun t => ?_)
    · obtain ⟨j, hj⟩ := h X Z t 1 0
      exact ⟨j, by rw [hj]; grind⟩
    · obtain ⟨j, hj⟩ := k X Z t 1 0
      exact ⟨j, by rw [hj]; grind⟩
  · refine lin_uniq (fun t => F (X + 0 * t) (Z + 1 * t) - F X Z) (fun t => ?_) (fun t => ?_)
    · obtain ⟨j, hj⟩ := h X Z t 0 1
      exact ⟨j, by rw [hj]; grind⟩
    · obtain ⟨j, hj⟩ := k X Z t 0 1
      exact ⟨j, by rw [hj]; grind⟩
theorem pow_d : ∀ (m : Nat) (Z h v : Int), ∃ k : Int, (Z + v * h) ^ m = Z ^ m + h * (v * ((m : Int) * Z ^ (m - 1))) + h * h * k
  | 0, Z, h, v => ⟨0, by simp⟩
  | 1, Z, h, v => ⟨0, by simp; grind⟩
  | m + 2, Z, h, v => by
    obtain ⟨k, hk⟩ := pow_d (m + 1) Z h v
    refine ⟨k * (Z + v * h) + v * v * ((m + 1 : Nat) : Int) * Z ^ m, ?_⟩
    rw [Int.pow_succ, hk]
    have e1 : m + 2 - 1 = m + 1 := by omega
    have e2 : m + 1 - 1 = m := by omega
    rw [e1, e2, Int.pow_succ Z (m + 1), Int.pow_succ Z m]
    have e3 : ((m + 2 : Nat) : Int) = ((m + 1 : Nat) : Int) + 1 := by omega
    rw [e3]
    grind
def hmX : List Int → Nat → Int → Int → Int
  | [], _, _, _ => 0
  | _ :: l, m, X, Z => hm l (m - 1) X Z + X * hmX l (m - 1) X Z
def hmZ : List Int → Nat → Int → Int → Int
  | [], _, _, _ => 0
  | c :: l, m, X, Z => c * ((m : Int) * Z ^ (m - 1)) + X * hmZ l (m - 1) X Z
theorem hm_D : ∀ (l : List Int) (m : Nat), IsD (hm l m) (hmX l m) (hmZ l m)
  | [], m => fun X Z h u v => ⟨0, by simp [hm, hmX, hmZ]⟩
  | c :: l, m => fun X Z h u v => by
    obtain ⟨k, hk⟩ := hm_D l (m - 1) X Z h u v
    obtain ⟨j, hj⟩ := pow_d m Z h v
    refine ⟨c * j + X * k + u * (u * hmX l (m - 1) X Z + v * hmZ l (m - 1) X Z) + u * h * k, ?_⟩
    simp only [hm, hmX, hmZ]
    rw [hk, hj]
    grind
theorem IsD.chain {F A B : Int → Int → Int} (h : IsD F A B) (a b c d : Int) : IsD (fun X Z => F (a * X + b * Z) (c * X + d * Z)) (fun X Z => a * A (a * X + b * Z) (c * X + d * Z) + c * B (a * X + b * Z) (c * X + d * Z)) (fun X Z => b * A (a * X + b * Z) (c * X + d * Z) + d * B (a * X + b * Z) (c * X + d * Z)) := fun X Z t u v => by
  obtain ⟨k, hk⟩ := h (a * X + b * Z) (c * X + d * Z) t (a * u + b * v) (c * u + d * v)
  refine ⟨k, ?_⟩
  dsimp only
  rw [show a * (X + u * t) + b * (Z + v * t) = a * X + b * Z + (a * u + b * v) * t by grind, show c * (X + u * t) + d * (Z + v * t) = c * X + d * Z + (c * u + d * v) * t by grind, hk]
  grind
theorem euler : ∀ (l : List Int) (m : Nat) (X Z : Int), l.length ≤ m + 1 → X * hmX l m X Z + Z * hmZ l m X Z = (m : Int) * hm l m X Z
  | [], m, X, Z, _ => by simp [hm, hmX, hmZ]
  | c :: l, 0, X, Z, h => by
    have : l = [] := by simpa using h
    subst this
    simp [hm, hmX, hmZ]
  | c :: l, m + 1, X, Z, h => by
    have := euler l m X Z (by simp at h; omega)
    simp only [hm, hmX, hmZ, Nat.add_sub_cancel, Int.pow_succ]
    have e3 : ((m + 1 : Nat) : Int) = (m : Int) + 1 := by omega
    rw [e3]
    grind
theorem hmZ_zero : ∀ (l : List Int) (X Z : Int), hmZ l 0 X Z = 0
  | [], X, Z => rfl
  | c :: l, X, Z => by simp [hmZ, hmZ_zero l]
theorem hmZ_inf : ∀ (l : List Int) (m : Nat) (X : Int), hmZ l (m + 1) X 0 = co l m * X ^ m
  | [], m, X => by simp [hmZ, co_nil]
  | c :: l, 0, X => by simp [hmZ, co_zero, hmZ_zero]
  | c :: l, m + 1, X => by
    have := hmZ_inf l m X
    simp only [hmZ, Nat.add_sub_cancel, this, co_succ, Int.pow_succ]
    grind
theorem hmX_add : ∀ (a b : List Int) (m : Nat) (X Z : Int), hmX (addL a b) m X Z = hmX a m X Z + hmX b m X Z
  | [], b, m, X, Z => by simp [addL, hmX]
  | _ :: _, [], m, X, Z => by simp [addL, hmX]
  | y :: a, z :: b, m, X, Z => by
    simp only [addL, hmX, hmX_add a b, hm_add]
    grind
theorem hmX_scl (c : Int) : ∀ (a : List Int) (m : Nat) (X Z : Int), hmX (sclL c a) m X Z = c * hmX a m X Z
  | [], m, X, Z => by simp [sclL, hmX]
  | y :: a, m, X, Z => by
    have := hmX_scl c a (m - 1) X Z
    have h2 := hm_scl c a (m - 1) X Z
    simp only [sclL] at this h2
    simp only [sclL, List.map_cons, hmX, this, h2]
    grind
theorem hmZ_add : ∀ (a b : List Int) (m : Nat) (X Z : Int), hmZ (addL a b) m X Z = hmZ a m X Z + hmZ b m X Z
  | [], b, m, X, Z => by simp [addL, hmZ]
  | _ :: _, [], m, X, Z => by simp [addL, hmZ]
  | y :: a, z :: b, m, X, Z => by
    simp only [addL, hmZ, hmZ_add a b]
    grind
theorem hmZ_scl (c : Int) : ∀ (a : List Int) (m : Nat) (X Z : Int), hmZ (sclL c a) m X Z = c * hmZ a m X Z
  | [], m, X, Z => by simp [sclL, hmZ]
  | y :: a, m, X, Z => by
    have := hmZ_scl c a (m - 1) X Z
    simp only [sclL] at this
    simp only [sclL, List.map_cons, hmZ, this]
    grind
/-- the derivative's list -/
def derL : List Int → List Int
  | [] => []
  | _ :: l => addL l (0 :: derL l)
theorem len_der : ∀ l : List Int, (derL l).length ≤ l.length
  | [] => by simp [derL]
  | c :: l => by
    have := len_der l
    simp only [derL, len_add, List.length_cons]; omega
theorem hm_der : ∀ (l : List Int) (m : Nat) (X Z : Int), hm (derL l) (m - 1) X Z = hmX l m X Z
  | [], m, X, Z => by simp [derL, hm, hmX]
  | c :: l, m, X, Z => by
    have := hm_der l (m - 1) X Z
    simp only [derL, hm_add, hmX, ← this]
    simp only [hm]
    grind
def dv (l : List Int) : Int → Int := ev (derL l)
theorem dv_hm (l : List Int) (m : Nat) (x : Int) : dv l x = hmX l m x 1 := by
  rw [← hm_der, hm_one, dv]
theorem dv_cons (c : Int) (l : List Int) (x : Int) : dv (c :: l) x = ev l x + x * dv l x := by
  simp only [dv, derL, ev_add, ev]; grind
end PA
end
section
set_option linter.all false
set_option maxHeartbeats 2000000
/-! PC: ideals of forms, smoothness, no square factor. -/
namespace PA
inductive P2 : (Int → Int → Int) → Prop
  | const (c : Int) : P2 (fun _ _ => c)
  | X : P2 (fun X _ => X)
  | Z : P2 (fun _ Z => Z)
  | add {f g : Int → Int → Int} : P2 f → P2 g → P2 (fun X Z => f X Z + g X Z)
  | mul {f g : Int → Int → Int} : P2 f → P2 g → P2 (fun X Z => f X Z * g X Z)
theorem P2.pow {f : Int → Int → Int} (h : P2 f) : ∀ n : Nat, P2 (fun X Z => f X Z ^ n)
  | 0 => by simpa using P2.const 1
  | n + 1 => by
    have := (P2.pow h n).mul h
    simpa [Int.pow_succ] using this
theorem P2.scl {f : Int → Int → Int} (c : Int) (h : P2 f) : P2 (fun X Z => c * f X Z) := (P2.const c).mul h
theorem P2.lin (a b : Int) : P2 (fun X Z => a * X + b * Z) := (P2.X.scl a).add (P2.Z.scl b)
theorem P2.sub {s t : Int → Int → Int} (hs : P2 s) (ht : P2 t) {f : Int → Int → Int} (h : P2 f) : P2 (fun X Z => f (s X Z) (t X Z)) := by
  induction h with
  | const c => exact P2.const c
  | X => exact hs
  | Z => exact ht
  | add _ _ h1 h2 => exact h1.add h2
  | mul _ _ h1 h2 => exact h1.mul h2
theorem P2.one {f : Int → Int → Int} (h : P2 f) (z : Int) : P1 (fun x => f x z) := by
  induction h with
  | const c => exact P1.const c
  | X => exact P1.var
  | Z => exact P1.const z
  | add _ _ h1 h2 => exact h1.add h2
  | mul _ _ h1 h2 => exact h1.mul h2
theorem P2.hm : ∀ (l : List Int) (m : Nat), P2 (PA.hm l m)
  | [], m => P2.const 0
  | c :: l, m => ((P2.Z.pow m).scl c).add (P2.X.mul (P2.hm l (m - 1)))
theorem P2.hmX : ∀ (l : List Int) (m : Nat), P2 (PA.hmX l m)
  | [], m => P2.const 0
  | c :: l, m => (P2.hm l (m - 1)).add (P2.X.mul (P2.hmX l (m - 1)))
theorem P2.hmZ : ∀ (l : List Int) (m : Nat), P2 (PA.hmZ l m)
  | [], m => P2.const 0
  | c :: l, m => (((P2.Z.pow (m - 1)).scl m).scl c).add (P2.X.mul (P2.hmZ l (m - 1)))
/-- what is left without Z -/
theorem P2.atZ {f : Int → Int → Int} (h : P2 f) : ∃ r, P2 r ∧ ∀ X Z, f X Z = f X 0 + Z * r X Z := by
  induction h with
  | const c => exact ⟨_, P2.const 0, fun X Z => by simp⟩
  | X => exact ⟨_, P2.const 0, fun X Z => by simp⟩
  | Z => exact ⟨_, P2.const 1, fun X Z => by simp⟩
  | add _ _ h1 h2 =>
    obtain ⟨r, hr, e⟩ := h1
    obtain ⟨s, hs, e'⟩ := h2
    exact ⟨_, hr.add hs, fun X Z => by dsimp only; rw [e, e']; grind⟩
  | @mul f g hf hg h1 h2 =>
    obtain ⟨r, hr, e⟩ := h1
    obtain ⟨s, hs, e'⟩ := h2
    have hg0 : P2 (fun X Z => g X 0) := P2.sub P2.X (P2.const 0) hg
    have hf0 : P2 (fun X Z => f X 0) := P2.sub P2.X (P2.const 0) hf
    refine ⟨fun X Z => (r X Z * g X 0 + f X 0 * s X Z) + Z * (r X Z * s X Z), ((hr.mul hg0).add (hf0.mul hs)).add (P2.Z.mul (hr.mul hs)), fun X Z => ?_⟩
    dsimp only
    rw [e, e']; grind
/-! ### ideals -/
def Id (p : Int) (F A B h : Int → Int → Int) : Prop := ∃ α β γ δ, P2 α ∧ P2 β ∧ P2 γ ∧ P2 δ ∧ ∀ X Z, h X Z = α X Z * F X Z + β X Z * A X Z + γ X Z * B X Z + p * δ X Z
section
variable {p : Int} {F A B h k : Int → Int → Int}
theorem Id.f : Id p F A B F := ⟨_, _, _, _, P2.const 1, P2.const 0, P2.const 0, P2.const 0, fun X Z => by simp⟩
theorem Id.a : Id p F A B A := ⟨_, _, _, _, P2.const 0, P2.const 1, P2.const 0, P2.const 0, fun X Z => by simp⟩
theorem Id.b : Id p F A B B := ⟨_, _, _, _, P2.const 0, P2.const 0, P2.const 1, P2.const 0, fun X Z => by simp⟩
theorem Id.pm {d : Int → Int → Int} (hd : P2 d) : Id p F A B (fun X Z => p * d X Z) := ⟨_, _, _, _, P2.const 0, P2.const 0, P2.const 0, hd, fun X Z => by simp⟩
theorem Id.add (h1 : Id p F A B h) (h2 : Id p F A B k) : Id p F A B (fun X Z => h X Z + k X Z) := by
  obtain ⟨a, b, c, d, pa, pb, pc, pd, e⟩ := h1
  obtain ⟨a', b', c', d', pa', pb', pc', pd', e'⟩ := h2
  exact ⟨_, _, _, _, pa.add pa', pb.add pb', pc.add pc', pd.add pd', fun X Z => by dsimp only; rw [e, e']; grind⟩
theorem Id.mul {m : Int → Int → Int} (hm : P2 m) (h1 : Id p F A B h) : Id p F A B (fun X Z => m X Z * h X Z) := by
  obtain ⟨a, b, c, d, pa, pb, pc, pd, e⟩ := h1
  exact ⟨_, _, _, _, hm.mul pa, hm.mul pb, hm.mul pc, hm.mul pd, fun X Z => by dsimp only; rw [e]; grind⟩
theorem Id.eq (h1 : Id p F A B h) (e : ∀ X Z, k X Z = h X Z) : Id p F A B k := by
  obtain ⟨a, b, c, d, pa, pb, pc, pd, q⟩ := h1
  exact ⟨a, b, c, d, pa, pb, pc, pd, fun X Z => by rw [e, q]⟩
/-- another ideal holds the makers -/
theorem Id.to {F' A' B' : Int → Int → Int} (hF : Id p F' A' B' F) (hA : Id p F' A' B' A) (hB : Id p F' A' B' B) (h1 : Id p F A B h) : Id p F' A' B' h := by
  obtain ⟨a, b, c, d, pa, pb, pc, pd, e⟩ := h1
  exact (((hF.mul pa).add (hA.mul pb)).add (hB.mul pc)).add (Id.pm pd) |>.eq e
theorem Id.sub {s t : Int → Int → Int} (hs : P2 s) (ht : P2 t) (h1 : Id p F A B h) : Id p (fun X Z => F (s X Z) (t X Z)) (fun X Z => A (s X Z) (t X Z)) (fun X Z => B (s X Z) (t X Z)) (fun X Z => h (s X Z) (t X Z)) := by
  obtain ⟨a, b, c, d, pa, pb, pc, pd, e⟩ := h1
  exact ⟨_, _, _, _, P2.sub hs ht pa, P2.sub hs ht pb, P2.sub hs ht pc, P2.sub hs ht pd, fun X Z => e _ _⟩
/-- an invertible factor is left -/
theorem Id.inv {c i : Int} (hi : (c * i - 1) % p = 0) (hk : P2 h) (h1 : Id p F A B (fun X Z => c * h X Z)) : Id p F A B h := by
  have hd := Int.mul_ediv_cancel' (Int.dvd_of_emod_eq_zero hi)
  have h2 := (h1.mul (P2.const i)).add (Id.pm (p := p) (F := F) (A := A) (B := B) (hk.scl (-((c * i - 1) / p))))
  refine h2.eq fun X Z => ?_
  generalize (c * i - 1) / p = q at hd
  grind
theorem Id.pow {n m : Nat} {f : Int → Int → Int} (hf : P2 f) (hn : n ≤ m) (h1 : Id p F A B (fun X Z => f X Z ^ n)) : Id p F A B (fun X Z => f X Z ^ m) := by
  refine (h1.mul (hf.pow (m - n))).eq fun X Z => ?_
  rw [← Int.pow_add]
  congr 1; omega
/-- powers of two, of their sums -/
theorem Id.bin {x z : Int → Int → Int} {N : Nat} (hx : P2 x) (hz : P2 z) (u v : Int) (h1 : Id p F A B (fun X Z => x X Z ^ N)) (h2 : Id p F A B (fun X Z => z X Z ^ N)) :
    ∀ (k i j : Nat), i + j + k = 2 * N → Id p F A B (fun X Z => x X Z ^ i * z X Z ^ j * (u * x X Z + v * z X Z) ^ k)
  | 0, i, j, e => by
    by_cases hi : N ≤ i
    · refine ((h1.pow hx hi).mul (hz.pow j)).eq fun X Z => ?_
      rw [Int.pow_zero]; grind
    · refine ((h2.pow hz (by omega : N ≤ j)).mul (hx.pow i)).eq fun X Z => ?_
      rw [Int.pow_zero]; grind
  | k + 1, i, j, e => by
    have a := Id.bin hx hz u v h1 h2 k (i + 1) j (by omega)
    have b := Id.bin hx hz u v h1 h2 k i (j + 1) (by omega)
    refine ((a.mul (P2.const u)).add (b.mul (P2.const v))).eq fun X Z => ?_
    simp only [Int.pow_succ]
    grind
end
/-! ### smooth forms -/
def Smooth (p : Int) (n : Nat) (l : List Int) : Prop := ∃ N : Nat, Id p (hm l n) (hmX l n) (hmZ l n) (fun X Z => X ^ N) ∧ Id p (hm l n) (hmX l n) (hmZ l n) (fun X Z => Z ^ N)
def Sq (p : Int) (l : List Int) : Prop := ∃ u v, P1 u ∧ P1 v ∧ E p (fun x => u x * ev l x + v x * dv l x) (fun _ => 1)
theorem smooth_sq {p : Int} {n : Nat} {l : List Int} (hl : l.length ≤ n + 1) (h : Smooth p n l) : Sq p l := by
  obtain ⟨N, -, a, b, c, d, pa, pb, pc, pd, e⟩ := h
  refine ⟨fun x => a x 1 + n * c x 1, fun x => b x 1 - x * c x 1, (pa.one 1).add ((P1.const _).mul (pc.one 1)), (pb.one 1).sub (P1.var.mul (pc.one 1)), E.symm ⟨fun x => d x 1, pd.one 1, fun x => ?_⟩⟩
  have h1 := e x 1
  have h2 := euler l n x 1 hl
  dsimp only at h1
  rw [Int.one_pow, hm_one, ← dv_hm] at h1
  rw [hm_one, ← dv_hm] at h2
  dsimp only
  generalize ev l x = f at *
  generalize dv l x = g at *
  generalize hmZ l n x 1 = w at *
  have h3 : w = n * f - x * g := by grind
  rw [h1, h3]; grind
theorem sq_smooth {p : Int} {n : Nat} {l : List Int} {i : Int} (hn : l.length = n + 1) (hi : (co l n * i - 1) % p = 0) (h : Sq p l) : Smooth p (n + 1) l := by
  obtain ⟨u, v, ⟨ul, hu⟩, ⟨vl, hv⟩, δ, ⟨wl, hw⟩, e⟩ := h
  -- the degree to which all is brought
  let N := (n + 1) + (ul.length + vl.length + wl.length + 1)
  have key : ∀ X Z, hm ul (N - (n + 1)) X Z * hm l (n + 1) X Z + hm vl (N - n) X Z * hmX l (n + 1) X Z = Z ^ N + p * hm wl N X Z := fun X Z => by
    have c := co_eq_of (a := addL (mulL ul l) (mulL vl (derL l))) (b := addL [1] (sclL p wl)) (fun x => by
      have := e x
      rw [ev_add, ev_mul, ev_mul, ev_add, ev_scl, ← hu, ← hv, ← hw]
      simp only [ev]
      have e2 : ev (derL l) x = dv l x := rfl
      rw [e2]
      dsimp only at this
      rw [this]; grind)
    have q := hm_co _ _ N X Z c
    have e1 : hm (mulL ul l) N X Z = hm ul (N - (n + 1)) X Z * hm l (n + 1) X Z := by
      have := hm_mul ul l (N - (n + 1)) (n + 1) X Z (by omega) (by omega)
      rw [show N - (n + 1) + (n + 1) = N by omega] at this
      exact this
    have e2 : hm (mulL vl (derL l)) N X Z = hm vl (N - n) X Z * hmX l (n + 1) X Z := by
      have hd := len_der l
      have := hm_mul vl (derL l) (N - n) n X Z (by omega) (by omega)
      rw [show N - n + n = N by omega] at this
      rw [this, ← hm_der l (n + 1), Nat.add_sub_cancel]
    rw [hm_add, hm_add, hm_scl, e1, e2] at q
    rw [q]
    simp [hm]
  have hZ : Id p (hm l (n + 1)) (hmX l (n + 1)) (hmZ l (n + 1)) (fun X Z => Z ^ N) := by
    refine ⟨_, _, _, _, P2.hm ul (N - (n + 1)), P2.hm vl (N - n), P2.const 0, (P2.hm wl N).scl (-1), fun X Z => ?_⟩
    have := key X Z
    grind
  obtain ⟨R, hR, eR⟩ := (P2.hmZ l (n + 1)).atZ
  have e0 : ∀ X, hmZ l (n + 1) X 0 = co l n * X ^ n := hmZ_inf l n
  -- the top power is - Z R in the ideal
  have y : ∀ k : Nat, Id p (hm l (n + 1)) (hmX l (n + 1)) (hmZ l (n + 1)) (fun X Z => (co l n * X ^ n) ^ k + (-1) * (-1 * (Z * R X Z)) ^ k) := fun k => by
    induction k with
    | zero => exact (Id.pm (P2.const 0)).eq fun X Z => by simp
    | succ k ih =>
      have t1 := ih.mul ((P2.X.pow n).scl (co l n))
      have t2 := (Id.b (p := p) (F := hm l (n + 1)) (A := hmX l (n + 1)) (B := hmZ l (n + 1))).mul (((P2.Z.mul hR).scl (-1)).pow k)
      refine (t1.add t2).eq fun X Z => ?_
      have := eR X Z
      rw [e0] at this
      rw [this, Int.pow_succ, Int.pow_succ]
      grind
  have zk : Id p (hm l (n + 1)) (hmX l (n + 1)) (hmZ l (n + 1)) (fun X Z => (-1 * (Z * R X Z)) ^ N) := by
    refine (hZ.mul ((hR.scl (-1)).pow N)).eq fun X Z => ?_
    rw [← Int.mul_pow]
    congr 1; grind
  have xk : Id p (hm l (n + 1)) (hmX l (n + 1)) (hmZ l (n + 1)) (fun X Z => co l n ^ N * X ^ (n * N)) := by
    refine ((y N).add zk).eq fun X Z => ?_
    rw [Int.mul_pow, ← Int.pow_mul]; grind
  have hc : (co l n ^ N * i ^ N - 1) % p = 0 := by
    rw [← Int.mul_pow]
    generalize co l n * i = t at hi
    clear key zk xk y
    generalize N = M
    induction M with
    | zero => simp
    | succ M ih =>
      have : t ^ (M + 1) - 1 = (t ^ M - 1) * t + (t - 1) := by rw [Int.pow_succ]; grind
      rw [this]
      obtain ⟨a, ha⟩ := Int.dvd_of_emod_eq_zero ih
      obtain ⟨b, hb⟩ := Int.dvd_of_emod_eq_zero hi
      rw [ha, hb]
      exact Int.emod_eq_zero_of_dvd ⟨a * t + b, by grind⟩
  have xN := Id.inv hc (P2.X.pow (n * N)) xk
  exact ⟨max (n * N) N, xN.pow P2.X (Nat.le_max_left ..), hZ.pow P2.Z (Nat.le_max_right ..)⟩
/-- the numbers may change by p's multiples -/
theorem smooth_cong {p : Int} {n : Nat} {l r : List Int} {κ i : Int} (hκ : (κ * i - 1) % p = 0) (h : Smooth p n l) (hc : ∀ j, (co r j - κ * co l j) % p = 0) : Smooth p n r := by
  have hq : ∀ j, co r j = co (addL (sclL κ l) (sclL p (quoL p r (sclL κ l)))) j := fun j => by
    have h1 := (E.of_co (p := p) (a := r) (b := sclL κ l) (fun j => by rw [co_scl]; exact hc j)).co j
    rw [co_add, co_scl, co_scl]
    have e1 : co (quoL p r (sclL κ l)) j = (co r j - κ * co l j) / p := by
      have e2 : ∀ (l : List Int), co (l.map (· / p)) j = co l j / p := fun l => by
        unfold co
        rw [List.getD_eq_getElem?_getD, List.getD_eq_getElem?_getD, List.getElem?_map]
        cases l[j]? <;> simp
      unfold quoL
      rw [e2, co_add, co_scl, co_scl]
      congr 1; omega
    rw [e1, Int.mul_ediv_cancel' (Int.dvd_of_emod_eq_zero (hc j))]
    omega
  generalize quoL p r (sclL κ l) = q at hq
  have eF : ∀ m X Z, hm r m X Z = κ * hm l m X Z + p * hm q m X Z := fun m X Z => by rw [hm_co _ _ m X Z hq, hm_add, hm_scl, hm_scl]
  have eD : ∀ X Z, hmX r n X Z = κ * hmX l n X Z + p * hmX q n X Z ∧ hmZ r n X Z = κ * hmZ l n X Z + p * hmZ q n X Z := fun X Z => by
    have h1 := hm_D r n
    have h2 := hm_D (addL (sclL κ l) (sclL p q)) n
    have h3 : IsD (hm r n) (hmX (addL (sclL κ l) (sclL p q)) n) (hmZ (addL (sclL κ l) (sclL p q)) n) := fun X Z t u v => by
      obtain ⟨k, hk⟩ := h2 X Z t u v
      exact ⟨k, by rw [hm_co _ _ n _ _ hq, hm_co _ _ n _ _ hq]; exact hk⟩
    obtain ⟨a, b⟩ := h1.uniq h3 X Z
    rw [a, b, hmX_add, hmZ_add, hmX_scl, hmX_scl, hmZ_scl, hmZ_scl]
    exact ⟨rfl, rfl⟩
  obtain ⟨N, hx, hz⟩ := h
  have inF : Id p (hm r n) (hmX r n) (hmZ r n) (hm l n) := Id.inv hκ (P2.hm l n) ((Id.f.add (Id.pm ((P2.hm q n).scl (-1)))).eq fun X Z => by rw [eF]; grind)
  have inA : Id p (hm r n) (hmX r n) (hmZ r n) (hmX l n) := Id.inv hκ (P2.hmX l n) ((Id.a.add (Id.pm ((P2.hmX q n).scl (-1)))).eq fun X Z => by rw [(eD X Z).1]; grind)
  have inB : Id p (hm r n) (hmX r n) (hmZ r n) (hmZ l n) := Id.inv hκ (P2.hmZ l n) ((Id.b.add (Id.pm ((P2.hmZ q n).scl (-1)))).eq fun X Z => by rw [(eD X Z).2]; grind)
  exact ⟨N, Id.to inF inA inB hx, Id.to inF inA inB hz⟩
/-- a linear substitution that can be undone -/
theorem smooth_lin {p : Int} {n : Nat} {l r : List Int} {a b c d i : Int} (hdet : ((a * d - b * c) * i - 1) % p = 0) (h : Smooth p n l) (hr : ∀ X Z, hm r n X Z = hm l n (a * X + b * Z) (c * X + d * Z)) : Smooth p n r := by
  obtain ⟨N, hx, hz⟩ := h
  have hD := hm_D r n
  have hC := (hm_D l n).chain a b c d
  have hC' : IsD (hm r n) _ _ := fun X Z t u v => by
    obtain ⟨k, hk⟩ := hC X Z t u v
    exact ⟨k, by rw [hr, hr]; exact hk⟩
  have dd := fun X Z => hD.uniq hC' X Z
  have pl := P2.lin a b
  have ql := P2.lin c d
  have iF : Id p (hm r n) (hmX r n) (hmZ r n) (fun X Z => hm l n (a * X + b * Z) (c * X + d * Z)) := Id.f.eq fun X Z => (hr X Z).symm
  have iA : Id p (hm r n) (hmX r n) (hmZ r n) (fun X Z => hmX l n (a * X + b * Z) (c * X + d * Z)) := by
    refine Id.inv hdet (P2.sub pl ql (P2.hmX l n)) (((Id.a.mul (P2.const d)).add (Id.b.mul (P2.const (-c)))).eq fun X Z => ?_)
    rw [(dd X Z).1, (dd X Z).2]; grind
  have iB : Id p (hm r n) (hmX r n) (hmZ r n) (fun X Z => hmZ l n (a * X + b * Z) (c * X + d * Z)) := by
    refine Id.inv hdet (P2.sub pl ql (P2.hmZ l n)) (((Id.a.mul (P2.const (-b))).add (Id.b.mul (P2.const a))).eq fun X Z => ?_)
    rw [(dd X Z).1, (dd X Z).2]; grind
  have sx := Id.to iF iA iB (hx.sub pl ql)
  have sz := Id.to iF iA iB (hz.sub pl ql)
  have hc : ∀ M : Nat, ((a * d - b * c) ^ M * i ^ M - 1) % p = 0 := fun M => by
    rw [← Int.mul_pow]
    generalize (a * d - b * c) * i = t at hdet
    induction M with
    | zero => simp
    | succ M ih =>
      have : t ^ (M + 1) - 1 = (t ^ M - 1) * t + (t - 1) := by rw [Int.pow_succ]; grind
      rw [this]
      obtain ⟨a, ha⟩ := Int.dvd_of_emod_eq_zero ih
      obtain ⟨b, hb⟩ := Int.dvd_of_emod_eq_zero hdet
      rw [ha, hb]
      exact Int.emod_eq_zero_of_dvd ⟨a * t + b, by grind⟩
  refine ⟨2 * N, ?_, ?_⟩
  · refine Id.inv (hc (2 * N)) (P2.X.pow _) ((Id.bin pl ql d (-b) sx sz (2 * N) 0 0 (by omega)).eq fun X Z => ?_)
    rw [← Int.mul_pow, Int.pow_zero, Int.pow_zero, Int.one_mul, Int.one_mul]
    congr 1; grind
  · refine Id.inv (hc (2 * N)) (P2.Z.pow _) ((Id.bin pl ql (-c) a sx sz (2 * N) 0 0 (by omega)).eq fun X Z => ?_)
    rw [← Int.mul_pow, Int.pow_zero, Int.pow_zero, Int.one_mul, Int.one_mul]
    congr 1; grind
/-- the number below the top, when there is nothing at the top -/
theorem smooth_top {p : Int} {n : Nat} {l : List Int} (hl : l.length ≤ n + 2) (h : Smooth p (n + 1) l) (h0 : co l (n + 1) % p = 0) : ∃ i, (co l n * i - 1) % p = 0 := by
  obtain ⟨N, ⟨α, β, γ, δ, _, _, _, _, e⟩, -⟩ := h
  have q := e 1 0
  have h1 := hm_inf l (n + 1) 1 hl
  have h2 := euler l (n + 1) 1 0 hl
  have h3 := hmZ_inf l n 1
  dsimp only at q
  rw [Int.one_pow, h1] at q
  rw [h1] at h2
  rw [h3] at q
  simp only [Int.one_pow, Int.mul_one, Int.one_mul, Int.zero_mul, Int.add_zero] at q h2
  obtain ⟨t, ht⟩ := Int.dvd_of_emod_eq_zero h0
  rw [h2, ht] at q
  refine ⟨γ 1 0, Int.emod_eq_zero_of_dvd ⟨-(α 1 0 * t + β 1 0 * (((n + 1 : Nat) : Int) * t) + δ 1 0), ?_⟩⟩
  grind
end PA
end
section
set_option linter.all false
set_option maxHeartbeats 2000000
/-! PF: the primes of the law, canonical lists, combinations. -/
namespace PA
/-! ### numbers modulo p -/
def Md (p a b : Int) : Prop := (a - b) % p = 0
section
variable {p a b c d : Int}
theorem Md.refl (a : Int) : Md p a a := by unfold Md; rw [Int.sub_self, Int.zero_emod]
theorem Md.of_eq (h : a = b) : Md p a b := h ▸ Md.refl a
theorem Md.iff : Md p a b ↔ ∃ k, a = b + p * k := by
  constructor
  · intro h
    obtain ⟨k, hk⟩ := Int.dvd_of_emod_eq_zero h
    exact ⟨k, by omega⟩
  · rintro ⟨k, hk⟩
    exact Int.emod_eq_zero_of_dvd ⟨k, by omega⟩
theorem Md.symm (h : Md p a b) : Md p b a := by
  obtain ⟨k, hk⟩ := Md.iff.mp h
  exact Md.iff.mpr ⟨-k, by grind⟩
theorem Md.trans (h : Md p a b) (k : Md p b c) : Md p a c := by
  obtain ⟨i, hi⟩ := Md.iff.mp h
  obtain ⟨j, hj⟩ := Md.iff.mp k
  exact Md.iff.mpr ⟨i + j, by grind⟩
theorem Md.add (h : Md p a b) (k : Md p c d) : Md p (a + c) (b + d) := by
  obtain ⟨i, hi⟩ := Md.iff.mp h
  obtain ⟨j, hj⟩ := Md.iff.mp k
  exact Md.iff.mpr ⟨i + j, by grind⟩
theorem Md.sub (h : Md p a b) (k : Md p c d) : Md p (a - c) (b - d) := by
  obtain ⟨i, hi⟩ := Md.iff.mp h
  obtain ⟨j, hj⟩ := Md.iff.mp k
  exact Md.iff.mpr ⟨i - j, by grind⟩
theorem Md.mul (h : Md p a b) (k : Md p c d) : Md p (a * c) (b * d) := by
  obtain ⟨i, hi⟩ := Md.iff.mp h
  obtain ⟨j, hj⟩ := Md.iff.mp k
  exact Md.iff.mpr ⟨i * d + b * j + p * (i * j), by grind⟩
theorem Md.neg (h : Md p a b) : Md p (-a) (-b) := by
  obtain ⟨i, hi⟩ := Md.iff.mp h
  exact Md.iff.mpr ⟨-i, by grind⟩
theorem Md.pow (h : Md p a b) : ∀ n : Nat, Md p (a ^ n) (b ^ n)
  | 0 => by rw [Int.pow_zero, Int.pow_zero]; exact Md.refl 1
  | n + 1 => by rw [Int.pow_succ, Int.pow_succ]; exact (Md.pow h n).mul h
theorem Md.mod (a : Int) : Md p (a % p) a := by
  unfold Md
  rw [Int.emod_sub_emod]
  exact Int.emod_eq_zero_of_dvd ⟨0, by omega⟩
theorem Md.eq (h : Md p a b) (ha : 0 ≤ a ∧ a < p) (hb : 0 ≤ b ∧ b < p) : a = b := by
  have h5 : a % p = b % p := Int.emod_eq_emod_iff_emod_sub_eq_zero.mpr h
  rw [Int.emod_eq_of_lt ha.1 ha.2, Int.emod_eq_of_lt hb.1 hb.2] at h5
  exact h5
theorem Md.emod (h : Md p a b) : a % p = b % p := Int.emod_eq_emod_iff_emod_sub_eq_zero.mpr h
theorem Md.of_emod (h : a % p = b % p) : Md p a b := Int.emod_eq_emod_iff_emod_sub_eq_zero.mp h
theorem Md.zero : Md p a 0 ↔ a % p = 0 := by unfold Md; rw [Int.sub_zero]
end
/-- the primes that the law takes -/
def Ps (p : Int) : Prop := p = 3 ∨ p = 5 ∨ p = 7 ∨ p = 11 ∨ p = 13 ∨ p = 17 ∨ p = 61
theorem Ps.bd {p : Int} (h : Ps p) : 3 ≤ p ∧ p ≤ 61 := by
  rcases h with h | h | h | h | h | h | h <;> omega
theorem Ps.odd {p : Int} (h : Ps p) : p % 2 = 1 := by
  rcases h with h | h | h | h | h | h | h <;> omega
theorem inv_nat : ∀ p ∈ [3, 5, 7, 11, 13, 17, 61], ∀ r ∈ List.range p, r = 0 ∨ ∃ i ∈ List.range p, r * i % p = 1 := by decide +kernel
theorem fer_nat : ∀ p ∈ [3, 5, 7, 11, 13, 17, 61], ∀ r ∈ List.range p, r = 0 ∨ r ^ (p - 1) % p = 1 := by decide +kernel
theorem Ps.nat {p : Int} (h : Ps p) : ∃ n : Nat, p = n ∧ n ∈ [3, 5, 7, 11, 13, 17, 61] := by
  rcases h with h | h | h | h | h | h | h <;> subst h <;> first | exact ⟨3, rfl, by decide⟩ | exact ⟨5, rfl, by decide⟩ | exact ⟨7, rfl, by decide⟩ | exact ⟨11, rfl, by decide⟩ | exact ⟨13, rfl, by decide⟩ | exact ⟨17, rfl, by decide⟩ | exact ⟨61, rfl, by decide⟩
theorem res_nat {p a : Int} {n : Nat} (hp : p = n) (h0 : 0 < p) (h : a % p ≠ 0) : ∃ r : Nat, r < n ∧ r ≠ 0 ∧ Md p a r := by
  have h1 := Int.emod_nonneg a (show p ≠ 0 by omega)
  have h2 := Int.emod_lt_of_pos a h0
  refine ⟨(a % p).toNat, by omega, by omega, ?_⟩
  rw [Int.toNat_of_nonneg h1]
  exact (Md.mod a).symm
/-- an inverse, below p -/
theorem Ps.inv {p a : Int} (h : Ps p) (ha : a % p ≠ 0) : ∃ i, 0 < i ∧ i < p ∧ Md p (a * i) 1 := by
  obtain ⟨n, hn, hm⟩ := h.nat
  have hb := h.bd
  obtain ⟨r, hr, r0, hra⟩ := res_nat hn (by omega) ha
  rcases inv_nat n hm r (List.mem_range.mpr hr) with z | ⟨i, hi, z⟩
  · exact absurd z r0
  · have hi2 := List.mem_range.mp hi
    have hi0 : i ≠ 0 := by rintro rfl; simp at z
    refine ⟨i, by omega, by omega, (hra.mul (Md.refl (i : Int))).trans (Md.of_emod ?_)⟩
    rw [hn]
    have hn3 : 3 ≤ n := by omega
    have e1 : (1 : Int) % (n : Int) = 1 := by rw [Int.emod_eq_of_lt] <;> omega
    rw [e1]
    exact_mod_cast z
theorem Ps.prime {p a b : Int} (h : Ps p) (hab : Md p (a * b) 0) (ha : ¬ Md p a 0) : Md p b 0 := by
  rw [Md.zero] at ha
  obtain ⟨i, _, _, hi⟩ := h.inv ha
  obtain ⟨k, hk⟩ := Md.iff.mp hab
  obtain ⟨j, hj⟩ := Md.iff.mp hi
  exact Md.iff.mpr ⟨i * k - b * j, by grind⟩
theorem Ps.fer {p a : Int} (h : Ps p) (ha : a % p ≠ 0) : Md p (a ^ (p.toNat - 1)) 1 := by
  obtain ⟨n, hn, hm⟩ := h.nat
  have hb := h.bd
  obtain ⟨r, hr, r0, hra⟩ := res_nat hn (by omega) ha
  rcases fer_nat n hm r (List.mem_range.mpr hr) with z | z
  · exact absurd z r0
  · have e : p.toNat = n := by omega
    rw [e]
    refine (hra.pow (n - 1)).trans (Md.of_emod ?_)
    rw [hn]
    have hn3 : 3 ≤ n := by omega
    have e1 : (1 : Int) % (n : Int) = 1 := by rw [Int.emod_eq_of_lt] <;> omega
    rw [e1]
    exact_mod_cast z
/-! ### trailing zeros off -/
def strip (l : List Int) : List Int := (l.reverse.dropWhile (· == 0)).reverse
theorem strip_nil : strip [] = [] := rfl
theorem strip_last {l : List Int} (h : l ≠ []) (h0 : l.getLast h ≠ 0) : strip l = l := by
  unfold strip
  have e : l.reverse = l.getLast h :: l.dropLast.reverse := by
    conv => lhs; rw [← List.dropLast_concat_getLast h]
    simp
  rw [e, List.dropWhile_cons, if_neg (by simpa using h0), ← e, List.reverse_reverse]
theorem strip_pop {l : List Int} (h : l ≠ []) (h0 : l.getLast h = 0) : strip l = strip l.dropLast := by
  unfold strip
  have e : l.reverse = l.getLast h :: l.dropLast.reverse := by
    conv => lhs; rw [← List.dropLast_concat_getLast h]
    simp
  rw [e, List.dropWhile_cons, if_pos (by simpa using h0)]
theorem strip_can {p : Int} : ∀ (n : Nat) (l : List Int), l.length = n → (∀ c ∈ l, 0 ≤ c ∧ c < p) → Can p (strip l) ∧ ∀ i, co (strip l) i = co l i
  | 0, l, hn, h => by
    have : l = [] := List.eq_nil_of_length_eq_zero hn
    subst this
    exact ⟨⟨fun c hc => by simp [strip] at hc, fun n => absurd rfl n⟩, fun i => rfl⟩
  | n + 1, l, hn, h => by
    have hne : l ≠ [] := fun e => by rw [e] at hn; simp at hn
    by_cases h0 : l.getLast hne = 0
    · rw [strip_pop hne h0]
      obtain ⟨h1, h2⟩ := strip_can n l.dropLast (by rw [List.length_dropLast]; omega) fun c hc => h c (List.dropLast_subset l hc)
      refine ⟨h1, fun i => ?_⟩
      rw [h2]
      by_cases hi : i < l.length - 1
      · rw [co_at (by rw [List.length_dropLast]; exact hi), co_at (by omega), List.getElem_dropLast]
      · rw [co_out (by rw [List.length_dropLast]; omega)]
        by_cases hi2 : i = l.length - 1
        · subst hi2
          rw [co_at (by omega)]
          rw [List.getLast_eq_getElem] at h0
          exact h0.symm
        · rw [co_out (by omega)]
    · rw [strip_last hne h0]
      exact ⟨⟨h, fun _ => h0⟩, fun i => rfl⟩
def trim (p : Int) (l : List Int) : List Int := strip (l.map (· % p))
theorem trim_ok {p : Int} (hp : 0 < p) (l : List Int) : Can p (trim p l) ∧ E p (ev (trim p l)) (ev l) := by
  obtain ⟨h1, h2⟩ := strip_can (p := p) _ (l.map (· % p)) rfl (fun c hc => by
    obtain ⟨d, _, rfl⟩ := List.mem_map.mp hc
    exact ⟨Int.emod_nonneg _ (by omega), Int.emod_lt_of_pos _ hp⟩)
  refine ⟨h1, E.of_co fun i => ?_⟩
  have e : co (trim p l) i = co l i % p := by
    show co (strip (l.map (· % p))) i = _
    rw [h2]
    unfold co
    rw [List.getD_eq_getElem?_getD, List.getD_eq_getElem?_getD, List.getElem?_map]
    cases l[i]? <;> simp
  rw [e]
  exact Md.mod _
theorem trim_uniq {p : Int} (hp : 0 < p) {l a : List Int} (ha : Can p a) (h : E p (ev a) (ev l)) : trim p l = a :=
  Can.uniq hp (trim_ok hp l).1 ha ((trim_ok hp l).2.trans h.symm)
theorem len_strip : ∀ (n : Nat) (l : List Int), l.length = n → (strip l).length ≤ l.length
  | 0, l, hn => by
    have : l = [] := List.eq_nil_of_length_eq_zero hn
    subst this; simp [strip]
  | n + 1, l, hn => by
    have hne : l ≠ [] := fun e => by rw [e] at hn; simp at hn
    by_cases h0 : l.getLast hne = 0
    · rw [strip_pop hne h0]
      have := len_strip n l.dropLast (by rw [List.length_dropLast]; omega)
      rw [List.length_dropLast] at this
      omega
    · rw [strip_last hne h0]; exact Nat.le_refl _
theorem len_trim (p : Int) (l : List Int) : (trim p l).length ≤ l.length := by
  have := len_strip _ (l.map (· % p)) rfl
  rw [List.length_map] at this
  exact this
/-- no higher than the last place with something -/
theorem Can.len_le {p : Int} {l : List Int} (hp : 0 < p) (h : Can p l) {n : Nat} (hz : ∀ i, n ≤ i → Md p (PA.co l i) 0) : l.length ≤ n := by
  by_cases e : l = []
  · rw [e]; exact Nat.zero_le _
  · have hl : 0 < l.length := List.length_pos_iff.mpr e
    by_cases hh : l.length ≤ n
    · exact hh
    · have := hz (l.length - 1) (by omega)
      have hc := h.co hp (l.length - 1)
      exact absurd (this.eq hc ⟨Int.le_refl 0, hp⟩) (h.last e)
theorem Can.lead {p : Int} {l : List Int} (hp : 0 < p) (h : Can p l) (hne : l ≠ []) : ¬ Md p (PA.co l (l.length - 1)) 0 := fun z =>
  h.last hne (z.eq (h.co hp _) ⟨Int.le_refl 0, hp⟩)
theorem Can.nil {p : Int} : Can p [] := ⟨fun c hc => by simp at hc, fun n => absurd rfl n⟩
/-! ### products -/
theorem co_mul_top : ∀ (a b : List Int), a ≠ [] → b ≠ [] → co (mulL a b) (a.length - 1 + (b.length - 1)) = co a (a.length - 1) * co b (b.length - 1)
  | [], b, h, _ => absurd rfl h
  | [x], b, _, hb => by
    have hl : 0 < b.length := List.length_pos_iff.mpr hb
    simp only [mulL, co_add, co_scl, List.length_cons, List.length_nil]
    rw [show 0 + 1 - 1 + (b.length - 1) = b.length - 1 by omega, show (0 : Nat) + 1 - 1 = 0 by omega, co_zero]
    have : co [0] (b.length - 1) = 0 := by
      cases q : b.length - 1 with
      | zero => exact co_zero _ _
      | succ k => rw [co_succ, co_nil]
    rw [this]; omega
  | x :: y :: a, b, _, hb => by
    have hl : 0 < b.length := List.length_pos_iff.mpr hb
    have ih := co_mul_top (y :: a) b (by simp) hb
    simp only [List.length_cons, Nat.add_sub_cancel] at ih ⊢
    rw [mulL, co_add, co_scl, co_out (by omega), show a.length + 1 + (b.length - 1) = (a.length + (b.length - 1)) + 1 by omega, co_succ, ih, co_succ]
    omega
/-- a unit is a number -/
theorem unit_len {p : Int} (hp : Ps p) {a : List Int} (ha : Can p a) {s : Int → Int} (hs : P1 s) (h : E p (fun x => ev a x * s x) (fun _ => 1)) : a.length = 1 := by
  have hb := hp.bd
  obtain ⟨l, hl⟩ := hs
  obtain ⟨c1, c2⟩ := trim_ok (p := p) (by omega) l
  have h2 : E p (fun x => ev a x * ev (trim p l) x) (fun _ => 1) := ((E.refl (ev a)).mul (c2.trans (E.of_eq fun x => (hl x).symm)) (P1.ev a) ⟨l, hl⟩).trans h
  have h3 : E p (ev (mulL a (trim p l))) (ev [1]) := (E.of_eq fun x => ev_mul a _ x).trans (h2.trans (E.of_eq fun x => by simp [ev]))
  have one : ¬ Md p 1 0 := fun z => by have := z.eq ⟨by omega, by omega⟩ ⟨by omega, by omega⟩; omega
  have na : a ≠ [] := fun e => by
    subst e
    have := h3.co 0
    simp [mulL, co_nil, co_zero] at this
    exact one (Md.symm (by unfold Md; simpa using this))
  have nb : trim p l ≠ [] := fun e => by
    rw [e] at h2
    have := h2.at 0
    simp [ev] at this
    exact one (Md.symm (by unfold Md; simpa using this))
  have top := co_mul_top a (trim p l) na nb
  have hc := h3.co (a.length - 1 + ((trim p l).length - 1))
  rw [top] at hc
  have hla : 0 < a.length := List.length_pos_iff.mpr na
  by_cases hz : a.length - 1 + ((trim p l).length - 1) = 0
  · omega
  · obtain ⟨k, hk⟩ := Nat.exists_eq_succ_of_ne_zero hz
    rw [hk, Nat.succ_eq_add_one, co_succ, co_nil] at hc
    exact absurd (hp.prime hc (ha.lead (by omega) na)) (c1.lead (by omega) nb)
/-! ### combinations -/
def Lin (p : Int) (a b c : Int → Int) : Prop := ∃ u v, P1 u ∧ P1 v ∧ E p c (fun x => u x * a x + v x * b x)
section
variable {p : Int} {a b c d a' b' : Int → Int}
theorem Lin.left : Lin p a b a := ⟨_, _, P1.const 1, P1.const 0, E.of_eq fun x => by simp⟩
theorem Lin.right : Lin p a b b := ⟨_, _, P1.const 0, P1.const 1, E.of_eq fun x => by simp⟩
theorem Lin.comb (pa : P1 a) (pb : P1 b) {u v : Int → Int} (hu : P1 u) (hv : P1 v) (h1 : Lin p a b c) (h2 : Lin p a b d) : Lin p a b (fun x => u x * c x + v x * d x) := by
  obtain ⟨s, t, hs, ht, e⟩ := h1
  obtain ⟨s', t', hs', ht', e'⟩ := h2
  refine ⟨fun x => u x * s x + v x * s' x, fun x => u x * t x + v x * t' x, (hu.mul hs).add (hv.mul hs'), (hu.mul ht).add (hv.mul ht'), ?_⟩
  refine (((E.refl u).mul e hu ((hs.mul pa).add (ht.mul pb))).add ((E.refl v).mul e' hv ((hs'.mul pa).add (ht'.mul pb)))).trans (E.of_eq fun x => ?_)
  dsimp only; grind
theorem Lin.to (h : Lin p a b c) (e : E p d c) : Lin p a b d := by
  obtain ⟨s, t, hs, ht, q⟩ := h
  exact ⟨s, t, hs, ht, e.trans q⟩
theorem Lin.trans (pa : P1 a) (pb : P1 b) (h1 : Lin p a b a') (h2 : Lin p a b b') (h : Lin p a' b' c) : Lin p a b c := by
  obtain ⟨s, t, hs, ht, q⟩ := h
  exact (Lin.comb pa pb hs ht h1 h2).to q
end
end PA
end
section
set_option linter.all false
set_option maxHeartbeats 2000000
/-! PT: turns: forms led one to another. -/
namespace PA
theorem E.pow {p : Int} {φ ψ : Int → Int} (h : E p φ ψ) (p1 : P1 ψ) : ∀ n : Nat, E p (fun x => φ x ^ n) (fun x => ψ x ^ n)
  | 0 => E.of_eq fun x => by simp
  | n + 1 => by
    have := (E.pow h p1 n).mul h (p1.pow n) p1
    exact (E.of_eq fun x => Int.pow_succ _ _).trans (this.trans (E.of_eq fun x => (Int.pow_succ _ _).symm))
theorem P1.hm {s t : Int → Int} (hs : P1 s) (ht : P1 t) : ∀ (l : List Int) (m : Nat), P1 (fun x => PA.hm l m (s x) (t x))
  | [], m => P1.const 0
  | c :: l, m => ((P1.const c).mul (ht.pow m)).add (hs.mul (P1.hm hs ht l (m - 1)))
theorem E.hm {p : Int} {s s' t t' : Int → Int} (h : E p s s') (k : E p t t') (hs : P1 s') (ht : P1 t') : ∀ (l : List Int) (m : Nat), E p (fun x => PA.hm l m (s x) (t x)) (fun x => PA.hm l m (s' x) (t' x))
  | [], m => E.refl _
  | c :: l, m => ((E.refl (fun _ => c)).mul (k.pow ht m) (P1.const c) (ht.pow m)).add (h.mul (E.hm h k hs ht l (m - 1)) hs (P1.hm hs ht l (m - 1)))
theorem P1.ln (a b : Int) : P1 (fun x => a * x + b) := ((P1.const a).mul P1.var).add (P1.const b)
theorem E.ln {p a b a' b' : Int} (h : Md p a a') (k : Md p b b') : E p (fun x => a * x + b) (fun x => a' * x + b') := (E.num h P1.var).add (E.const k)
/-- g, turned, is e² times f -/
def Hom (p : Int) (n : Nat) (g f : List Int) (a b c d e : Int) : Prop := E p (fun x => hm g n (a * x + b) (c * x + d)) (fun x => e * e * ev f x)
theorem Hom.md {p : Int} {n : Nat} {g f : List Int} {a b c d e a' b' c' d' e' : Int} (h : Hom p n g f a b c d e) (ha : Md p a' a) (hb : Md p b' b) (hc : Md p c' c) (hd : Md p d' d) (he : Md p e' e) : Hom p n g f a' b' c' d' e' :=
  (E.hm (E.ln ha hb) (E.ln hc hd) (P1.ln a b) (P1.ln c d) g n).trans (h.trans (E.num (he.mul he).symm (P1.ev f)))
/-- as forms -/
theorem Hom.form {p : Int} {n : Nat} {g f : List Int} {a b c d e : Int} (h : Hom p n g f a b c d e) (hg : g.length ≤ n + 1) : ∃ q : List Int, ∀ X Z, hm g n (a * X + b * Z) (c * X + d * Z) = e * e * hm f n X Z + p * hm q n X Z := by
  obtain ⟨r, hr, e1⟩ := hm_sub a b c d g n hg
  have h2 : E p (ev r) (ev (sclL (e * e) f)) := (E.of_eq fun x => by rw [← hm_one r n, e1, Int.mul_one, Int.mul_one]).trans (h.trans (E.of_eq fun x => (ev_scl _ _ _).symm))
  obtain ⟨δ, ⟨w, hw⟩, e2⟩ := h2
  have h3 := co_eq_of (a := r) (b := addL (sclL (e * e) f) (sclL p w)) (fun x => by rw [e2, ev_add, ev_scl p, hw])
  exact ⟨w, fun X Z => by rw [← e1, hm_co _ _ n X Z h3, hm_add, hm_scl, hm_scl]⟩
/-- one behind another -/
theorem Hom.comp {p : Int} {n : Nat} {g f h : List Int} {a b c d e k m r s t : Int} (hg : g.length ≤ n + 1) (h1 : Hom p n g f a b c d e) (h2 : Hom p n f h k m r s t) : Hom p n g h (a * k + b * r) (a * m + b * s) (c * k + d * r) (c * m + d * s) (e * t) := by
  obtain ⟨q, hq⟩ := h1.form hg
  have e1 : E p (fun x => hm g n ((a * k + b * r) * x + (a * m + b * s)) ((c * k + d * r) * x + (c * m + d * s))) (fun x => e * e * hm f n (k * x + m) (r * x + s)) := by
    refine ⟨fun x => hm q n (k * x + m) (r * x + s), P1.hm (P1.ln k m) (P1.ln r s) q n, fun x => ?_⟩
    have := hq (k * x + m) (r * x + s)
    dsimp only
    rw [← this]
    congr 1 <;> grind
  refine e1.trans ((((E.refl (fun _ => e * e)).mul h2 (P1.const _) ((P1.const _).mul (P1.ev h)))).trans (E.of_eq fun x => ?_))
  grind
/-- all times t -/
theorem Hom.scl {p : Int} {m : Nat} {g f : List Int} {a b c d e : Int} (hg : g.length ≤ 2 * m + 1) (h : Hom p (2 * m) g f a b c d e) (t : Int) : Hom p (2 * m) g f (t * a) (t * b) (t * c) (t * d) (t ^ m * e) := by
  have e1 : E p (fun x => hm g (2 * m) (t * a * x + t * b) (t * c * x + t * d)) (fun x => t ^ (2 * m) * hm g (2 * m) (a * x + b) (c * x + d)) := E.of_eq fun x => by
    rw [← hm_hom t g (2 * m) _ _ hg]
    congr 1 <;> grind
  refine e1.trans (((E.refl (fun _ => t ^ (2 * m))).mul h (P1.const _) ((P1.const _).mul (P1.ev f))).trans (E.of_eq fun x => ?_))
  have : t ^ (2 * m) = t ^ m * t ^ m := by rw [← Int.pow_add]; congr 1; omega

  rw [this]; grind
theorem Hom.id {p : Int} {n : Nat} {f : List Int} (t : Int) (ht : Md p (t * t) 1) : Hom p n f f 1 0 0 1 t :=
  (E.of_eq fun x => by rw [Int.one_mul, Int.add_zero, Int.zero_mul, Int.zero_add, hm_one]; exact (Int.one_mul _).symm).trans (E.num ht.symm (P1.ev f))
/-- back again -/
theorem Hom.back {p : Int} {m : Nat} {g f : List Int} {a b c d e i : Int} (hg : g.length ≤ 2 * m + 1) (hf : f.length ≤ 2 * m + 1) (hi : Md p (e * i) 1) (h : Hom p (2 * m) g f a b c d e) : Hom p (2 * m) f g d (-b) (-c) a ((a * d - b * c) ^ m * i) := by
  obtain ⟨q, hq⟩ := h.form hg
  have e1 : E p (fun x => (a * d - b * c) ^ (2 * m) * ev g x) (fun x => e * e * hm f (2 * m) (d * x + -b) (-c * x + a)) := by
    refine ⟨fun x => hm q (2 * m) (d * x + -b) (-c * x + a), P1.hm (P1.ln _ _) (P1.ln _ _) q _, fun x => ?_⟩
    have := hq (d * x + -b) (-c * x + a)
    dsimp only
    rw [← this, ← hm_one g (2 * m), ← hm_hom (a * d - b * c) g (2 * m) _ _ hg]
    congr 1 <;> grind
  have hii : Md p (i * i * (e * e)) 1 := (Md.of_eq (by grind)).trans ((hi.mul hi).trans (Md.of_eq (by omega)))
  have e2 : E p (fun x => hm f (2 * m) (d * x + -b) (-c * x + a)) (fun x => i * i * (e * e * hm f (2 * m) (d * x + -b) (-c * x + a))) :=
    (E.of_eq fun x => (Int.one_mul _).symm).trans ((E.num hii.symm (P1.hm (P1.ln _ _) (P1.ln _ _) f _)).trans (E.of_eq fun x => by grind))
  refine e2.trans (((E.refl (fun _ => i * i)).mul e1.symm (P1.const _) ((P1.const _).mul (P1.ev g))).trans (E.of_eq fun x => ?_))
  have : (a * d - b * c) ^ (2 * m) = (a * d - b * c) ^ m * (a * d - b * c) ^ m := by rw [← Int.pow_add]; congr 1; omega

  rw [this]; grind
/-! ### settled turns -/
abbrev T5 : Type := Int × Int × Int × Int × Int
structure Nrm (p : Int) (t : T5) : Prop where
  ba : 0 ≤ t.1 ∧ t.1 < p
  bb : 0 ≤ t.2.1 ∧ t.2.1 < p
  bc : 0 ≤ t.2.2.1 ∧ t.2.2.1 < p
  bd : 0 ≤ t.2.2.2.1 ∧ t.2.2.2.1 < p
  be : 0 ≤ t.2.2.2.2 ∧ t.2.2.2.2 < p
  low : (t.2.2.1 = 0 ∧ t.2.2.2.1 = 1) ∨ t.2.2.1 = 1
  en : t.2.2.2.2 ≠ 0
  dn : (t.1 * t.2.2.2.1 - t.2.1 * t.2.2.1) % p ≠ 0
/-- s is k times t -/
def Tim (p : Int) (m : Nat) (k : Int) (t s : T5) : Prop := Md p s.1 (k * t.1) ∧ Md p s.2.1 (k * t.2.1) ∧ Md p s.2.2.1 (k * t.2.2.1) ∧ Md p s.2.2.2.1 (k * t.2.2.2.1) ∧ Md p s.2.2.2.2 (k ^ m * t.2.2.2.2)
theorem Md.ne_one {p : Int} (hp : Ps p) {k : Int} (h : Md p 1 (k * 0)) : False := by
  have := hp.bd
  rw [Int.mul_zero] at h
  have := h.eq ⟨by omega, by omega⟩ ⟨by omega, by omega⟩
  omega
/-- two settled ones of which one is a multiple of the other -/
theorem Nrm.one {p : Int} (hp : Ps p) {m : Nat} {k : Int} {t s : T5} (ht : Nrm p t) (hs : Nrm p s) (h1 : Md p s.1 (k * t.1)) (h2 : Md p s.2.1 (k * t.2.1)) (h3 : Md p s.2.2.1 (k * t.2.2.1)) (h4 : Md p s.2.2.2.1 (k * t.2.2.2.1)) :
    Md p k 1 ∧ s.1 = t.1 ∧ s.2.1 = t.2.1 ∧ s.2.2.1 = t.2.2.1 ∧ s.2.2.2.1 = t.2.2.2.1 := by
  have hk : Md p k 1 := by
    rcases ht.low with ⟨c0, d1⟩ | c1
    · rcases hs.low with ⟨c0', d1'⟩ | c1'
      · rw [d1, d1', Int.mul_one] at h4; exact h4.symm
      · rw [c0, c1'] at h3; exact (Md.ne_one hp h3).elim
    · rcases hs.low with ⟨c0', d1'⟩ | c1'
      · rw [c1, c0', Int.mul_one] at h3
        rw [d1'] at h4
        have h5 := h4.trans (h3.symm.mul (Md.refl t.2.2.2.1))
        exact (Md.ne_one hp (h5.trans (Md.of_eq (show 0 * t.2.2.2.1 = 0 * 0 by omega)))).elim
      · rw [c1, c1', Int.mul_one] at h3; exact h3.symm
  have go : ∀ {x y : Int}, Md p x (k * y) → 0 ≤ x ∧ x < p → 0 ≤ y ∧ y < p → x = y := fun h b1 b2 => (h.trans ((hk.mul (Md.refl _)).trans (Md.of_eq (Int.one_mul _)))).eq b1 b2
  exact ⟨hk, go h1 hs.ba ht.ba, go h2 hs.bb ht.bb, go h3 hs.bc ht.bc, go h4 hs.bd ht.bd⟩
theorem Nrm.uniq {p : Int} (hp : Ps p) {m : Nat} {k : Int} {t s : T5} (ht : Nrm p t) (hs : Nrm p s) (h : Tim p m k t s) : s = t := by
  obtain ⟨h1, h2, h3, h4, h5⟩ := h
  obtain ⟨hk, e1, e2, e3, e4⟩ := Nrm.one (m := m) hp ht hs h1 h2 h3 h4
  have e5 : s.2.2.2.2 = t.2.2.2.2 := (h5.trans (((hk.pow m).mul (Md.refl _)).trans (Md.of_eq (by rw [Int.one_pow, Int.one_mul])))).eq hs.be ht.be
  obtain ⟨s1, s2, s3, s4, s5⟩ := s
  obtain ⟨t1, t2, t3, t4, t5⟩ := t
  simp only at e1 e2 e3 e4 e5
  subst e1 e2 e3 e4 e5
  rfl
theorem Ps.mul_ne {p a b : Int} (hp : Ps p) (ha : ¬ Md p a 0) (hb : ¬ Md p b 0) : ¬ Md p (a * b) 0 := fun h => hb (hp.prime h ha)
theorem Ps.pow_ne {p a : Int} (hp : Ps p) (ha : ¬ Md p a 0) : ∀ n : Nat, ¬ Md p (a ^ n) 0
  | 0 => fun h => by
    rw [Int.pow_zero] at h
    exact Md.ne_one hp (h.trans (Md.of_eq (show (0 : Int) = 0 * 0 by omega)))
  | n + 1 => by rw [Int.pow_succ]; exact hp.mul_ne (Ps.pow_ne hp ha n) ha
/-- a turn is settled -/
theorem settle {p : Int} (hp : Ps p) (m : Nat) {a b c d e : Int} (hdet : ¬ Md p (a * d - b * c) 0) (he : ¬ Md p e 0) : ∃ t k, ¬ Md p k 0 ∧ Nrm p t ∧ Tim p m k (a, b, c, d, e) t := by
  have hb := hp.bd
  -- k turns c or d to one
  have hk : ∃ k, ¬ Md p k 0 ∧ ((Md p c 0 ∧ Md p (k * d) 1) ∨ Md p (k * c) 1) := by
    by_cases hc : Md p c 0
    · have hd : ¬ Md p d 0 := fun hd => hdet (((Md.refl a).mul hd).sub ((Md.refl b).mul hc) |>.trans (Md.of_eq (by omega)))
      obtain ⟨i, i0, i1, hi⟩ := hp.inv (fun z => hd (Md.zero.mpr z))
      refine ⟨i, fun z => ?_, .inl ⟨hc, (Md.of_eq (Int.mul_comm ..)).trans hi⟩⟩
      have := z.eq ⟨by omega, i1⟩ ⟨by omega, by omega⟩
      omega
    · obtain ⟨i, i0, i1, hi⟩ := hp.inv (fun z => hc (Md.zero.mpr z))
      refine ⟨i, fun z => ?_, .inr ((Md.of_eq (Int.mul_comm ..)).trans hi)⟩
      have := z.eq ⟨by omega, i1⟩ ⟨by omega, by omega⟩
      omega
  obtain ⟨k, k0, hk⟩ := hk
  have bd : ∀ x : Int, 0 ≤ x % p ∧ x % p < p := fun x => ⟨Int.emod_nonneg _ (by omega), Int.emod_lt_of_pos _ (by omega)⟩
  refine ⟨(k * a % p, k * b % p, k * c % p, k * d % p, k ^ m * e % p), k, k0, ⟨bd _, bd _, bd _, bd _, bd _, ?_, ?_, ?_⟩, Md.mod _, Md.mod _, Md.mod _, Md.mod _, Md.mod _⟩
  · rcases hk with ⟨h1, h2⟩ | h2
    · refine .inl ⟨((Md.mod _).trans (((Md.refl k).mul h1).trans (Md.of_eq (Int.mul_zero k)))).eq (bd _) ⟨by omega, by omega⟩, ((Md.mod _).trans h2).eq (bd _) ⟨by omega, by omega⟩⟩
    · exact .inr (((Md.mod _).trans h2).eq (bd _) ⟨by omega, by omega⟩)
  · intro z
    exact hp.mul_ne (hp.pow_ne k0 m) he (Md.zero.mpr z)
  · intro z
    have h1 : Md p (k * a % p * (k * d % p) - k * b % p * (k * c % p)) (k * k * (a * d - b * c)) := (((Md.mod _).mul (Md.mod _)).sub ((Md.mod _).mul (Md.mod _))).trans (Md.of_eq (by grind))
    exact hp.mul_ne (hp.mul_ne k0 k0) hdet (h1.symm.trans (Md.zero.mpr z))
/-- a settled turn from f to g -/
def IsTurn (p : Int) (n : Nat) (g f : List Int) (t : T5) : Prop := Nrm p t ∧ Hom p n g f t.1 t.2.1 t.2.2.1 t.2.2.2.1 t.2.2.2.2
theorem IsTurn.of_tim {p : Int} {m : Nat} {g f : List Int} {a b c d e k : Int} {t : T5} (hg : g.length ≤ 2 * m + 1) (h : Hom p (2 * m) g f a b c d e) (ht : Nrm p t) (hk : Tim p m k (a, b, c, d, e) t) : IsTurn p (2 * m) g f t :=
  ⟨ht, (h.scl hg k).md hk.1 hk.2.1 hk.2.2.1 hk.2.2.2.1 hk.2.2.2.2⟩
/-! ### counting -/
theorem count_le {α β : Type} {R : α → β → Prop} : ∀ (U : List α) (T : List β), U.Nodup → (∀ u ∈ U, ∃ t ∈ T, R u t) → (∀ u ∈ U, ∀ u' ∈ U, ∀ t, R u t → R u' t → u = u') → U.length ≤ T.length
  | [], T, _, _, _ => Nat.zero_le _
  | u :: U, T, nd, ex, inj => by
    classical
    obtain ⟨t, ht, hR⟩ := ex u List.mem_cons_self
    have nd2 := List.nodup_cons.mp nd
    have := count_le U (T.eraseIdx (T.findIdx (fun x => decide (x = t)))) nd2.2 (fun v hv => ?_) (fun v hv w hw => inj v (List.mem_cons_of_mem _ hv) w (List.mem_cons_of_mem _ hw))
    · have hlt : T.findIdx (fun x => decide (x = t)) < T.length := List.findIdx_lt_length_of_exists ⟨t, ht, by simp⟩
      rw [List.length_eraseIdx, if_pos hlt] at this
      rw [List.length_cons]
      omega
    · obtain ⟨s, hs, hRs⟩ := ex v (List.mem_cons_of_mem _ hv)
      have hne : s ≠ t := fun e => by
        subst e
        have := inj v (List.mem_cons_of_mem _ hv) u List.mem_cons_self s hRs hR
        exact nd2.1 (this ▸ hv)
      refine ⟨s, ?_, hRs⟩
      have hlt : T.findIdx (fun x => decide (x = t)) < T.length := List.findIdx_lt_length_of_exists ⟨t, ht, by simp⟩
      have hat : T[T.findIdx (fun x => decide (x = t))] = t := by simpa using List.findIdx_getElem (w := hlt)
      obtain ⟨j, hj, e⟩ := List.getElem_of_mem hs
      have hjne : j ≠ T.findIdx (fun x => decide (x = t)) := fun z => by
        subst z
        exact hne (e.symm.trans hat)
      rw [List.mem_eraseIdx_iff_getElem]
      exact ⟨j, hj, hjne, e⟩
/-- a matrix that can be undone is left -/
theorem mat_left {p : Int} (hp : Ps p) {a b c d x y x' y' : Int} (hdet : ¬ Md p (a * d - b * c) 0) (h1 : Md p (a * x + b * y) (a * x' + b * y')) (h2 : Md p (c * x + d * y) (c * x' + d * y')) : Md p x x' ∧ Md p y y' := by
  have hx : Md p ((a * d - b * c) * (x - x')) 0 := by
    have := ((Md.refl d).mul h1).sub ((Md.refl b).mul h2)
    have := this.sub (Md.refl (d * (a * x' + b * y') - b * (c * x' + d * y')))
    exact (Md.of_eq (by grind)).trans (this.trans (Md.of_eq (by omega)))
  have hy : Md p ((a * d - b * c) * (y - y')) 0 := by
    have := ((Md.refl a).mul h2).sub ((Md.refl c).mul h1)
    have := this.sub (Md.refl (a * (c * x' + d * y') - c * (a * x' + b * y')))
    exact (Md.of_eq (by grind)).trans (this.trans (Md.of_eq (by omega)))
  have a1 := (hp.prime hx hdet).add (Md.refl x')
  have a2 := (hp.prime hy hdet).add (Md.refl y')
  exact ⟨(Md.of_eq (by omega)).trans (a1.trans (Md.of_eq (by omega))), (Md.of_eq (by omega)).trans (a2.trans (Md.of_eq (by omega)))⟩
/-- the turn m is put ahead, its e-part w -/
def Rel (p : Int) (m : Nat) (a b c d w : Int) (u t : T5) : Prop := ∃ k, ¬ Md p k 0 ∧ Tim p m k (a * u.1 + b * u.2.2.1, a * u.2.1 + b * u.2.2.2.1, c * u.1 + d * u.2.2.1, c * u.2.1 + d * u.2.2.2.1, w * u.2.2.2.2) t
theorem Rel.inj {p : Int} (hp : Ps p) {m : Nat} {a b c d w : Int} {u u' t : T5} (hdet : ¬ Md p (a * d - b * c) 0) (hw : ¬ Md p w 0) (hu : Nrm p u) (hu' : Nrm p u') (h : Rel p m a b c d w u t) (h' : Rel p m a b c d w u' t) : u = u' := by
  obtain ⟨k, k0, t1, t2, t3, t4, t5⟩ := h
  obtain ⟨j, j0, s1, s2, s3, s4, s5⟩ := h'
  simp only at t1 t2 t3 t4 t5 s1 s2 s3 s4 s5
  obtain ⟨i, i0, i1, hi⟩ := hp.inv (fun z => j0 (Md.zero.mpr z))
  have q := fun {x y z : Int} (h1 : Md p z (k * x)) (h2 : Md p z (j * y)) => (h1.symm.trans h2 : Md p (k * x) (j * y))
  have m1 := mat_left hp hdet (x := k * u.1) (y := k * u.2.2.1) (x' := j * u'.1) (y' := j * u'.2.2.1) ((Md.of_eq (by grind)).trans ((q t1 s1).trans (Md.of_eq (by grind)))) ((Md.of_eq (by grind)).trans ((q t3 s3).trans (Md.of_eq (by grind))))
  have m2 := mat_left hp hdet (x := k * u.2.1) (y := k * u.2.2.2.1) (x' := j * u'.2.1) (y' := j * u'.2.2.2.1) ((Md.of_eq (by grind)).trans ((q t2 s2).trans (Md.of_eq (by grind)))) ((Md.of_eq (by grind)).trans ((q t4 s4).trans (Md.of_eq (by grind))))
  have r := fun {x y : Int} (h1 : Md p (k * x) (j * y)) => ((Md.of_eq (by grind)).trans (((Md.refl i).mul h1.symm).trans (Md.of_eq (by grind))) : Md p (j * i * y) (i * k * x))
  have r2 := fun {x y : Int} (h1 : Md p (k * x) (j * y)) => ((Md.of_eq (Int.one_mul y).symm).trans ((hi.symm.mul (Md.refl y)).trans (r h1)) : Md p y (i * k * x))
  obtain ⟨hk, e1, e2, e3, e4⟩ := Nrm.one (m := m) hp hu hu' (r2 m1.1) (r2 m2.1) (r2 m1.2) (r2 m2.2)
  have hkj : Md p k j := by
    have := (Md.refl j).mul hk
    refine (Md.of_eq (Int.one_mul k).symm).trans ((hi.symm.mul (Md.refl k)).trans ((Md.of_eq (by grind)).trans (this.trans (Md.of_eq (Int.mul_one j)))))
  have e5 : Md p (j ^ m * w * (u.2.2.2.2 - u'.2.2.2.2)) 0 := by
    have h1 := (((hkj.pow m).symm.mul (Md.refl (w * u.2.2.2.2))).trans (t5.symm.trans s5)).sub (Md.refl (j ^ m * (w * u'.2.2.2.2)))
    exact (Md.of_eq (by grind)).trans (h1.trans (Md.of_eq (by omega)))
  have e6 := (hp.prime e5 (hp.mul_ne (hp.pow_ne j0 m) hw)).add (Md.refl u'.2.2.2.2)
  have e7 : u.2.2.2.2 = u'.2.2.2.2 := ((Md.of_eq (by omega)).trans (e6.trans (Md.of_eq (by omega)))).eq hu.be hu'.be
  obtain ⟨s1, s2, s3, s4, s5⟩ := u
  obtain ⟨t1, t2, t3, t4, t5⟩ := u'
  simp only at e1 e2 e3 e4 e7
  subst e1 e2 e3 e4 e7
  rfl
/-- as many turns from f to g as from f to f, or none -/
theorem turns_many {p : Int} (hp : Ps p) {m : Nat} {g f : List Int} (hg : g.length ≤ 2 * m + 1) (hf : f.length ≤ 2 * m + 1) {T U : List T5} (nT : T.Nodup) (nU : U.Nodup) (mT : ∀ t, t ∈ T ↔ IsTurn p (2 * m) g f t) (mU : ∀ t, t ∈ U ↔ IsTurn p (2 * m) f f t) :
    T.length = 0 ∨ T.length = U.length := by
  cases T with
  | nil => exact .inl rfl
  | cons t0 T' =>
    right
    have h0 := (mT t0).mp List.mem_cons_self
    generalize t0 :: T' = T at nT mT
    obtain ⟨n0, H0⟩ := h0
    have hdet : ¬ Md p (t0.1 * t0.2.2.2.1 - t0.2.1 * t0.2.2.1) 0 := fun z => n0.dn (Md.zero.mp z)
    have he : ¬ Md p t0.2.2.2.2 0 := fun z => n0.en (z.eq n0.be ⟨by have := hp.bd; omega, by have := hp.bd; omega⟩)
    obtain ⟨i, i0, i1, hi⟩ := hp.inv (fun z => he (Md.zero.mpr z))
    have hin : ¬ Md p i 0 := fun z => by
      have := z.eq ⟨by omega, i1⟩ ⟨by omega, by omega⟩
      omega
    have Hb := H0.back hg hf hi
    have comp : ∀ {A B C D w : Int} {g1 f1 h1 : List Int}, g1.length ≤ 2 * m + 1 → Hom p (2 * m) g1 f1 A B C D w → ¬ Md p (A * D - B * C) 0 → ¬ Md p w 0 → ∀ u, IsTurn p (2 * m) f1 h1 u → ∃ t, IsTurn p (2 * m) g1 h1 t ∧ Rel p m A B C D w u t := fun {A B C D w g1 f1 h1} hl H hD hw u hu => by
      have hc := H.comp hl hu.2
      have hd2 : ¬ Md p ((A * u.1 + B * u.2.2.1) * (C * u.2.1 + D * u.2.2.2.1) - (A * u.2.1 + B * u.2.2.2.1) * (C * u.1 + D * u.2.2.1)) 0 := fun z => by
        have q : Md p ((A * D - B * C) * (u.1 * u.2.2.2.1 - u.2.1 * u.2.2.1)) 0 := (Md.of_eq (by grind)).trans z
        exact hu.1.dn (Md.zero.mp (hp.prime q hD))
      have he2 : ¬ Md p (w * u.2.2.2.2) 0 := fun z => by
        have q := hp.prime z hw
        exact hu.1.en (q.eq hu.1.be ⟨by have := hp.bd; omega, by have := hp.bd; omega⟩)
      obtain ⟨t, k, k0, nt, ht⟩ := settle hp m hd2 he2
      exact ⟨t, IsTurn.of_tim hl hc nt ht, k, k0, ht⟩
    apply Nat.le_antisymm
    · have hdb : ¬ Md p (t0.2.2.2.1 * t0.1 - -t0.2.1 * -t0.2.2.1) 0 := fun z => hdet ((Md.of_eq (by grind)).trans z)
      refine count_le (R := Rel p m t0.2.2.2.1 (-t0.2.1) (-t0.2.2.1) t0.1 ((t0.1 * t0.2.2.2.1 - t0.2.1 * t0.2.2.1) ^ m * i)) T U nT (fun v hv => ?_) (fun v hv v' hv' t h h' => Rel.inj hp hdb (hp.mul_ne (hp.pow_ne hdet m) hin) ((mT v).mp hv).1 ((mT v').mp hv').1 h h')
      obtain ⟨t, ht, r⟩ := comp hf Hb hdb (hp.mul_ne (hp.pow_ne hdet m) hin) v ((mT v).mp hv)
      exact ⟨t, (mU t).mpr ht, r⟩
    · refine count_le (R := Rel p m t0.1 t0.2.1 t0.2.2.1 t0.2.2.2.1 t0.2.2.2.2) U T nU (fun u hu => ?_) (fun u hu u' hu' t h h' => Rel.inj hp hdet he ((mU u).mp hu).1 ((mU u').mp hu').1 h h')
      obtain ⟨t, ht, r⟩ := comp hg H0 hdet he u ((mU u).mp hu)
      exact ⟨t, (mT t).mpr ht, r⟩
end PA
end
section
set_option Elab.async false
set_option linter.all false
set_option maxHeartbeats 1000000
/-! PL: readings carried out. -/
namespace DL
open PySem PySem.Spec PyProof.Rows L2
section
variable {ρ : Env} {P : Post} {K : D → Prop} {KB : Bool → Prop} {KL : List D → Prop} {f h : WS} {fe fa fb fc : WE} {ft fu : WT} {fs : WA} {fl fi : WL} {i j l : Nat} {xp : Exc → Prop}
@[simp] theorem e_seq : wSeq f h P ρ = f { P with nx := h P } ρ := rfl
@[simp] theorem e_next : wNext P ρ = P.nx ρ := rfl
@[simp] theorem e_break : wBreak P ρ = P.bk ρ := rfl
@[simp] theorem e_cont : wCont P ρ = P.ct ρ := rfl
@[simp] theorem e_expr : wExpr fe P ρ = fe ρ fun _ => P.nx ρ := rfl
@[simp] theorem e_ret : wRet fe P ρ = fe ρ P.rt := rfl
@[simp] theorem e_retN : wRetN P ρ = P.rt .non := rfl
@[simp] theorem e_ifS : wIfS ft f h P ρ = ft ρ fun c => if c = true then f P ρ else h P ρ := rfl
@[simp] theorem e_frz : wFrz i f P ρ = ∃ xs, ρ[i]? = some (.lv xs) ∧ f P (ρ.set i (.sh (.lst xs))) := rfl
@[simp] theorem e_dead : wDead P ρ = False := rfl
@[simp] theorem e_gdName {d : D} {N : Env → Prop} : gdName i d ρ N = N (ρ.set i (.sh d)) := rfl
theorem e_gdNil {ds : List D} {N : Env → Prop} : gdNil ds ρ N = (ds = [] ∧ N ρ) := rfl
theorem e_gdCons {t : WG} {u : WGs} {ds : List D} {N : Env → Prop} : gdCons t u ds ρ N = ∃ d r, ds = d :: r ∧ t d ρ fun ρ' => u r ρ' N := rfl
theorem e_gdTup {n : Nat} {u : WGs} {d : D} {N : Env → Prop} : gdTup n u d ρ N = ∃ xs, d = .tup xs ∧ xs.length = n ∧ u xs ρ N := rfl
@[simp] theorem e_asg {t : WG} : wAsg fe t P ρ = fe ρ fun d => t d ρ P.nx := rfl
@[simp] theorem e_set : wSet i fe P ρ = fe ρ fun d => P.nx (ρ.set i (.sh d)) := rfl
@[simp] theorem e_par : wPar i j fa fb P ρ = fa ρ fun x => fb ρ fun y => P.nx ((ρ.set i (.sh x)).set j (.sh y)) := rfl
@[simp] theorem e_par3 : wPar3 i j l fa fb fc P ρ = fa ρ fun x => fb ρ fun y => fc ρ fun z => P.nx (((ρ.set i (.sh x)).set j (.sh y)).set l (.sh z)) := rfl
@[simp] theorem e_aug {k : D → D → (D → Prop) → Prop} : wAug i k fe P ρ = ∃ x, ρ[i]? = some (.sh x) ∧ fe ρ fun y => k x y fun z => P.nx (ρ.set i (.sh z)) := rfl
@[simp] theorem e_setL : wSetL i fl P ρ = (i < ρ.length ∧ fl ρ fun xs => P.nx (ρ.set i (.lv xs))) := rfl
@[simp] theorem e_app : wApp i fe P ρ = ∃ xs, ρ[i]? = some (.lv xs) ∧ fe ρ fun d => xs.length < 1000000 ∧ P.nx (ρ.set i (.lv (xs ++ [d]))) := rfl
@[simp] theorem e_ext : wExt i fe P ρ = ∃ xs, ρ[i]? = some (.lv xs) ∧ fe ρ fun d => ∃ ys, d = .lst ys ∧ xs.length + ys.length ≤ 1000000 ∧ P.nx (ρ.set i (.lv (xs ++ ys))) := rfl
@[simp] theorem e_pop : wPop i P ρ = ∃ xs, ρ[i]? = some (.lv xs) ∧ xs ≠ [] ∧ P.nx (ρ.set i (.lv xs.dropLast)) := rfl
@[simp] theorem e_setI : wSetI i fa fe P ρ = ∃ xs, ρ[i]? = some (.lv xs) ∧ fe ρ fun d => fa ρ fun k => ∃ n j, k = .int n ∧ ixN xs.length n = some j ∧ P.nx (ρ.set i (.lv (xs.set j d))) := rfl
@[simp] theorem e_augI {k : D → D → (D → Prop) → Prop} : wAugI i k fa fe P ρ = ∃ xs, ρ[i]? = some (.lv xs) ∧ fa ρ fun y => ∃ n j x, y = .int n ∧ ixN xs.length n = some j ∧ xs[j]? = some x ∧ fe ρ fun y => k x y fun z => P.nx (ρ.set i (.lv (xs.set j z))) := rfl
@[simp] theorem e_for {t : WG} : wFor fi t f P ρ = fi ρ fun ds => wForL t f ds P ρ := rfl
@[simp] theorem e_var : wVar i ρ K = ∃ d, ρ[i]? = some (.sh d) ∧ K d := rfl
@[simp] theorem e_C {d : D} : wC d ρ K = K d := rfl
@[simp] theorem e_bin {k : D → D → (D → Prop) → Prop} : wBin k fa fb ρ K = fa ρ fun x => fb ρ fun y => k x y K := rfl
@[simp] theorem e_un {k : D → (D → Prop) → Prop} : wUn k fa ρ K = fa ρ fun x => k x K := rfl
@[simp] theorem e_B : wB fe ρ KB = fe ρ fun d => ∃ b, d = .bl b ∧ KB b := rfl
@[simp] theorem e_nil : wNil ρ KL = KL [] := rfl
@[simp] theorem e_cons : wCons fe fs ρ KL = fe ρ fun d => fs ρ fun ds => KL (d :: ds) := rfl
@[simp] theorem e_tru : wTru fe ρ KB = fe ρ fun x => kTru x KB := rfl
@[simp] theorem e_and : wAnd ft fu ρ KB = ft ρ fun b => if b = true then fu ρ KB else KB false := rfl
@[simp] theorem e_or : wOr ft fu ρ KB = ft ρ fun b => if b = true then KB true else fu ρ KB := rfl
@[simp] theorem e_not : wNot ft ρ KB = ft ρ fun b => KB (!b) := rfl
@[simp] theorem e_andV : wAndV fa fb ρ K = fa ρ fun x => kTru x fun b => if b = true then fb ρ K else K x := rfl
@[simp] theorem e_orV : wOrV fa fb ρ K = fa ρ fun x => kTru x fun b => if b = true then K x else fb ρ K := rfl
@[simp] theorem e_notV : wNotV fa ρ K = fa ρ fun x => kTru x fun b => K (.bl (!b)) := rfl
@[simp] theorem e_if : wIf ft fa fb ρ K = ft ρ fun c => if c = true then fa ρ K else fb ρ K := rfl
@[simp] theorem e_chain {k1 k2 : D → D → (D → Prop) → Prop} : wChain k1 k2 fa fb fc ρ K = fa ρ fun x => fb ρ fun y => k1 x y fun z => ∃ c, z = .bl c ∧ if c = true then fc ρ fun w => k2 y w K else K (.bl false) := rfl
@[simp] theorem e_tup : wTup fs ρ K = fs ρ fun ds => ds.length ≤ 1000000 ∧ K (.tup ds) := rfl
@[simp] theorem e_lst : wLst fs ρ K = fs ρ fun ds => ds.length ≤ 1000000 ∧ K (.lst ds) := rfl
@[simp] theorem e_blt {k : List D → (D → Prop) → Prop} : wBlt k fs ρ K = fs ρ fun ds => k ds K := rfl
@[simp] theorem e_call {sp : DSpec} : wCall sp [] xp fs ρ K = fs ρ fun ds => sp ds K xp := by
  unfold wCall; congr 1; funext ds; rw [List.append_nil]
@[simp] theorem e_bor : wBor i fe ρ K = ∃ xs, ρ[i]? = some (.lv xs) ∧ fe (ρ.set i (.sh (.lst xs))) fun d => d.nol = true ∧ K d := rfl
@[simp] theorem e_borT : wBorT i ft ρ KB = ∃ xs, ρ[i]? = some (.lv xs) ∧ ft (ρ.set i (.sh (.lst xs))) KB := rfl
@[simp] theorem e_ofL : wOfL fl ρ K = fl ρ fun xs => K (.lst xs) := rfl
@[simp] theorem e_disp : lDisp fs ρ KL = fs ρ fun ds => ds.length ≤ 1000000 ∧ KL ds := rfl
@[simp] theorem e_list : lList fa ρ KL = fa ρ fun x => ∃ xs, (x = .lst xs ∨ x = .tup xs) ∧ KL xs := rfl
@[simp] theorem e_rep : lRep fa fb ρ KL = fa ρ fun x => fb ρ fun y => ∃ xs k, x = .lst xs ∧ y = .int k ∧ -1000000 ≤ k ∧ k ≤ 1000000 ∧ xs.length * k.toNat ≤ 1000000 ∧ KL (List.replicate k.toNat xs).flatten := rfl
@[simp] theorem e_cat : lCat fa fb ρ KL = fa ρ fun x => fb ρ fun y => ∃ xs ys, x = .lst xs ∧ y = .lst ys ∧ xs.length + ys.length ≤ 1000000 ∧ KL (xs ++ ys) := rfl
@[simp] theorem e_comp {t : WG} {vs : List Nat} : lComp fi t ft fe vs ρ KL = fi ρ fun ds => noLv ρ vs ∧ lcL t ft fe (wipeE ρ vs) ds [] KL := rfl
@[simp] theorem e_iSeq : iSeq fe ρ KL = fe ρ fun d => ∃ xs, (d = .lst xs ∨ d = .tup xs) ∧ KL xs := rfl
@[simp] theorem e_iR1 : iR1 fa ρ KL = fa ρ fun x => ∃ j : Int, x = .int j ∧ -1000000 ≤ j ∧ j ≤ 1000000 ∧ KL (ranD 0 1 j.toNat) := rfl
@[simp] theorem e_iR2 : iR2 fa fb ρ KL = fa ρ fun x => fb ρ fun y => ∃ i j : Int, x = .int i ∧ y = .int j ∧ -400000 ≤ i ∧ i ≤ 400000 ∧ -400000 ≤ j ∧ j ≤ 400000 ∧ KL (ranD i 1 (j - i).toNat) := rfl
@[simp] theorem e_iR3 : iR3 fa fb fc ρ KL = fa ρ fun x => fb ρ fun y => fc ρ fun z => ∃ i j : Int, x = .int i ∧ y = .int j ∧ z = .int (-1) ∧ -400000 ≤ i ∧ i ≤ 400000 ∧ -400000 ≤ j ∧ j ≤ 400000 ∧ KL (ranD i (-1) (i - j).toNat) := rfl
@[simp] theorem e_iEn : iEnD fe ρ KL = fe ρ fun d => ∃ xs, (d = .lst xs ∨ d = .tup xs) ∧ KL (enD 0 xs) := rfl
@[simp] theorem e_iZp : iZpD fa fb ρ KL = fa ρ fun x => fb ρ fun y => ∃ xs ys, (x = .lst xs ∨ x = .tup xs) ∧ (y = .lst ys ∨ y = .tup ys) ∧ KL (zpD xs ys) := rfl
@[simp] theorem e_yes : wYes ρ KB = KB true := rfl
@[simp] theorem e_fld {c : Nat} : wFld c i fe ρ K = fe ρ fun d => ∃ fs x, d = .obj c fs ∧ fs[i]? = some x ∧ K x := rfl
@[simp] theorem e_prop {c : Nat} {sp : DSpec} : wProp c sp fe ρ K = fe ρ fun d => ∃ fs, d = .obj c fs ∧ sp [d] K (fun _ => False) := rfl
@[simp] theorem e_sON {KO : Option Int → Prop} : wON ρ KO = KO none := rfl
@[simp] theorem e_sOS {KO : Option Int → Prop} : wOS fe ρ KO = fe ρ fun d => ∃ i, d = .int i ∧ KO (some i) := rfl
@[simp] theorem e_slice {l h : WO} : wSlice fe l h ρ K = fe ρ fun x => l ρ fun lo => h ρ fun hi => kSlice lo hi x K := rfl
@[simp] theorem e_slice3 {l h s : WO} : wSlice3 fe l h s ρ K = fe ρ fun x => l ρ fun lo => h ρ fun hi => s ρ fun st => kSlice3 lo hi st x K := rfl
end
section
variable {K : D → Prop} {KB : Bool → Prop} {a b : Int} {xs ys : List D} {c : Bool} {x y : D} {s t : Str}
@[simp] theorem k_add : kAdd (.int a) (.int b) K = K (.int (a + b)) := rfl
@[simp] theorem k_addT : kAdd (.tup xs) (.tup ys) K = (xs.length + ys.length ≤ 1000000 ∧ K (.tup (xs ++ ys))) := rfl
@[simp] theorem k_addL : kAdd (.lst xs) (.lst ys) K = (xs.length + ys.length ≤ 1000000 ∧ K (.lst (xs ++ ys))) := rfl
@[simp] theorem k_sub : kSub (.int a) (.int b) K = K (.int (a - b)) := rfl
@[simp] theorem k_mul : kMul (.int a) (.int b) K = (CMul a b ∧ K (.int (a * b))) := rfl
@[simp] theorem k_mulT : kMul (.tup xs) (.int b) K = (xs.length ≤ 1000 ∧ -1000 ≤ b ∧ b ≤ 1000 ∧ K (.tup (List.replicate b.toNat xs).flatten)) := rfl
@[simp] theorem k_mulL : kMul (.lst xs) (.int b) K = (-1000000 ≤ b ∧ b ≤ 1000000 ∧ xs.length * b.toNat ≤ 1000000 ∧ K (.lst (List.replicate b.toNat xs).flatten)) := rfl
@[simp] theorem k_div : kDiv (.int a) (.int b) K = ((0 < b ∧ b < 1073741824) ∧ K (.int (a / b))) := rfl
@[simp] theorem k_mod : kMod (.int a) (.int b) K = (0 < b ∧ K (.int (a % b))) := rfl
@[simp] theorem k_addI : kAddI (.int a) (.int b) K = K (.int (a + b)) := rfl
@[simp] theorem k_mulI : kMulI (.int a) (.int b) K = (CMul a b ∧ K (.int (a * b))) := rfl
@[simp] theorem k_neg : kNeg (.int a) K = K (.int (-a)) := rfl
@[simp] theorem k_eq : kEq (.int a) (.int b) K = K (.bl (a == b)) := rfl
@[simp] theorem k_ne : kNe (.int a) (.int b) K = K (.bl (a != b)) := rfl
theorem k_eqT : kEq (.tup xs) y K = ((D.tup xs).shp = true ∧ y.shp = true ∧ K (.bl (D.eqb (.tup xs) y))) := by cases y <;> rfl
theorem k_neT : kNe (.tup xs) y K = ((D.tup xs).shp = true ∧ y.shp = true ∧ K (.bl (!D.eqb (.tup xs) y))) := by cases y <;> rfl
theorem k_eqL : kEq (.lst xs) y K = ((D.lst xs).shp = true ∧ y.shp = true ∧ K (.bl (D.eqb (.lst xs) y))) := by cases y <;> rfl
theorem k_eqS : kEq (.str s) y K = ((D.str s).shp = true ∧ y.shp = true ∧ K (.bl (D.eqb (.str s) y))) := by cases y <;> rfl
theorem k_eqB : kEq (.bl c) y K = ((D.bl c).shp = true ∧ y.shp = true ∧ K (.bl (D.eqb (.bl c) y))) := by cases y <;> rfl
theorem k_neB : kNe (.bl c) y K = ((D.bl c).shp = true ∧ y.shp = true ∧ K (.bl (!D.eqb (.bl c) y))) := by cases y <;> rfl
@[simp] theorem k_cmp {q : Int → Int → Bool} : kCmp q (.int a) (.int b) K = K (.bl (q a b)) := rfl
@[simp] theorem k_isN : kIsN x y K = (y = .non ∧ K (.bl x.isNon)) := rfl
@[simp] theorem k_isNotN : kIsNotN x y K = (y = .non ∧ K (.bl (!x.isNon))) := rfl
@[simp] theorem k_truN : kTru .non KB = KB false := rfl
@[simp] theorem k_truB : kTru (.bl c) KB = KB c := rfl
@[simp] theorem k_truI : kTru (.int a) KB = KB (a != 0) := rfl
@[simp] theorem k_truT : kTru (.tup xs) KB = KB (!xs.isEmpty) := rfl
@[simp] theorem k_truL : kTru (.lst xs) KB = KB (!xs.isEmpty) := rfl
@[simp] theorem k_ixT : kIx (.tup xs) (.int a) K = ∃ d, atI xs a = some d ∧ K d := rfl
@[simp] theorem k_ixL : kIx (.lst xs) (.int a) K = ∃ d, atI xs a = some d ∧ K d := rfl
@[simp] theorem c_lenT : cLen [.tup xs] K = K (.int xs.length) := rfl
@[simp] theorem c_lenL : cLen [.lst xs] K = K (.int xs.length) := rfl
@[simp] theorem c_abs : cAbs [.int a] K = K (.int (if a < 0 then -a else a)) := rfl
@[simp] theorem c_max : cMax [.int a, .int b] K = K (.int (if b > a then b else a)) := rfl
@[simp] theorem c_min : cMin [.int a, .int b] K = K (.int (if b < a then b else a)) := rfl
@[simp] theorem c_int : cInt [.int a] K = K (.int a) := rfl
@[simp] theorem c_intB : cInt [.bl c] K = K (.int (if c then 1 else 0)) := rfl
@[simp] theorem c_tupT : cTuple [.tup xs] K = K (.tup xs) := rfl
@[simp] theorem c_tupL : cTuple [.lst xs] K = K (.tup xs) := rfl
@[simp] theorem c_lstT : cList [.tup xs] K = K (.lst xs) := rfl
@[simp] theorem c_lstL : cList [.lst xs] K = K (.lst xs) := rfl
@[simp] theorem c_all : cAll [.lst xs] K = ∃ bs, D.bls xs = some bs ∧ K (.bl (bs.all id)) := rfl
@[simp] theorem c_any : cAny [.lst xs] K = ∃ bs, D.bls xs = some bs ∧ K (.bl (bs.any id)) := rfl
@[simp] theorem k_slT {lo hi : Option Int} : kSlice lo hi (.tup xs) K = K (.tup (cutD xs lo hi)) := rfl
@[simp] theorem k_slL {lo hi : Option Int} : kSlice lo hi (.lst xs) K = K (.lst (cutD xs lo hi)) := rfl
@[simp] theorem k_sl3T {lo hi st : Option Int} : kSlice3 lo hi st (.tup xs) K = ∃ c, st = some c ∧ c ≠ 0 ∧ c ≠ 1 ∧ (cutT xs lo hi c).length ≤ 1000000 ∧ K (.tup (cutT xs lo hi c)) := rfl
end
@[simp] theorem wipe_nil {ρ : Env} : wipeE ρ [] = ρ := rfl
@[simp] theorem wipe_cons {ρ : Env} {v : Nat} {vs : List Nat} : wipeE ρ (v :: vs) = (wipeE ρ vs).set v .un := rfl
@[simp] theorem noLv_nil {ρ : Env} : noLv ρ [] = True := by simp [noLv]
@[simp] theorem noLv_cons {ρ : Env} {v : Nat} {vs : List Nat} : noLv ρ (v :: vs) = ((∀ xs, ρ[v]? ≠ some (.lv xs)) ∧ noLv ρ vs) := by
  unfold noLv; simp
/-! ### loops -/
section
variable {t : WG} {fb : WS} {P : Post}
theorem for_of (I : List D → Env → Prop) (hd : ∀ ρ, I [] ρ → P.nx ρ) (step : ∀ d ds ρ (N : Env → Prop), I (d :: ds) ρ → (∀ ρ', I ds ρ' → N ρ') → t d ρ fun ρ1 => fb { nx := N, rt := P.rt, bk := P.nx, ct := N } ρ1) :
    ∀ ds ρ, I ds ρ → wForL t fb ds P ρ
  | [], ρ, h => hd ρ h
  | d :: ds, ρ, h => step d ds ρ _ h (fun ρ' h' => for_of I hd step ds ρ' h')
theorem while_of {ft : WT} (I : Nat → Env → Prop) (step : ∀ n ρ (N : Env → Prop), I n ρ → (∀ m ρ', m < n → I m ρ' → N ρ') → ft ρ fun b => if b = true then fb { nx := N, rt := P.rt, bk := P.nx, ct := N } ρ else P.nx ρ) {n : Nat} {ρ : Env} (h : I n ρ) : wWhile ft fb P ρ := by
  have go : ∀ k m ρ, m < k → I m ρ → wWhileN ft fb k P ρ := fun k => by
    induction k with
    | zero => exact fun m ρ h _ => absurd h (Nat.not_lt_zero m)
    | succ k ih => exact fun m ρ hm h => step m ρ _ h (fun m' ρ' h' i' => ih m' ρ' (by omega) i')
  exact ⟨n + 1, go (n + 1) n ρ (Nat.lt_succ_self n) h⟩
theorem comp_of {ft : WT} {fe : WE} {ρ0 : Env} {K : List D → Prop} (I : List D → List D → Prop) (hd : ∀ acc, I [] acc → K acc)
    (step : ∀ d ds acc (N : List D → Prop), I (d :: ds) acc → (∀ acc', I ds acc' → N acc') → t d ρ0 fun ρ1 => ft ρ1 fun b => if b = true then fe ρ1 fun y => N (acc ++ [y]) else N acc) : ∀ ds acc, I ds acc → lcL t ft fe ρ0 ds acc K
  | [], acc, h => hd acc h
  | d :: ds, acc, h => step d ds acc (fun acc' => lcL t ft fe ρ0 ds acc' K) h (fun acc' h' => comp_of I hd step ds acc' h')
/-- each item gives its own -/
theorem comp_map {fe : WE} {ρ0 : Env} {K : List D → Prop} (u : D → D) (ds acc : List D) (step : ∀ d ∈ ds, ∀ N : D → Prop, N (u d) → t d ρ0 fun ρ1 => fe ρ1 N) (h : K (acc ++ ds.map u)) : lcL t wYes fe ρ0 ds acc K := by
  refine comp_of (I := fun es a => (∃ as, ds = as ++ es) ∧ K (a ++ es.map u)) (fun a h => by simpa using h.2) (fun d es a N hI hN => ?_) ds acc ⟨⟨[], rfl⟩, h⟩
  obtain ⟨⟨as, e⟩, hK⟩ := hI
  simp only [e_yes, if_true]
  refine step d (by rw [e]; simp) _ (hN _ ⟨⟨as ++ [d], by rw [e]; simp⟩, ?_⟩)
  simpa using hK
/-- .. where it passes -/
theorem comp_filter {ft : WT} {fe : WE} {ρ0 : Env} {K : List D → Prop} (q : D → Bool) (u : D → D) (ds acc : List D) (step : ∀ d ∈ ds, ∀ (M : Prop) (N : D → Prop), (q d = true → N (u d)) → (q d = false → M) → t d ρ0 fun ρ1 => ft ρ1 fun b => if b = true then fe ρ1 N else M) (h : K (acc ++ (ds.filter q).map u)) : lcL t ft fe ρ0 ds acc K := by
  refine comp_of (I := fun es a => (∃ as, ds = as ++ es) ∧ K (a ++ (es.filter q).map u)) (fun a h => by simpa using h.2) (fun d es a N hI hN => ?_) ds acc ⟨⟨[], rfl⟩, h⟩
  obtain ⟨⟨as, e⟩, hK⟩ := hI
  refine step d (by rw [e]; simp) _ _ (fun z => hN _ ⟨⟨as ++ [d], by rw [e]; simp⟩, ?_⟩) (fun z => hN _ ⟨⟨as ++ [d], by rw [e]; simp⟩, ?_⟩)
  · rw [List.filter_cons, if_pos z] at hK; simpa using hK
  · rw [List.filter_cons, if_neg (by rw [z]; decide)] at hK; simpa using hK
end
/-! ### ints -/
abbrev iL (l : List Int) : List D := l.map D.int
abbrev pT (l : List Int) : D := .tup (l.map D.int)
theorem pyL_ints : ∀ l : List Int, D.pureL (iL l) = true ∧ D.nolL (iL l) = true
  | [] => ⟨rfl, rfl⟩
  | c :: l => by
    obtain ⟨a, b⟩ := pyL_ints l
    exact ⟨by show (true && D.pureL (iL l)) = true; rw [a]; rfl, by show (true && D.nolL (iL l)) = true; rw [b]; rfl⟩
@[simp] theorem nol_int (i : Int) : (D.int i).nol = true := rfl
@[simp] theorem nol_bl (i : Bool) : (D.bl i).nol = true := rfl
@[simp] theorem nol_non : D.non.nol = true := rfl
@[simp] theorem nol_pT (l : List Int) : (D.tup (l.map D.int)).nol = true := (pyL_ints l).2
@[simp] theorem nol_tup (l : List D) : (D.tup l).nol = D.nolL l := rfl
@[simp] theorem nolL_nil : D.nolL [] = true := rfl
@[simp] theorem nolL_cons (d : D) (l : List D) : D.nolL (d :: l) = (d.nol && D.nolL l) := rfl
theorem eqb_ints : ∀ a b : List Int, D.eqbL (iL a) (iL b) = decide (a = b)
  | [], [] => by simp [D.eqbL]
  | [], _ :: _ => by simp [D.eqbL]
  | _ :: _, [] => by simp [D.eqbL]
  | x :: a, y :: b => by
    show (D.eqb (.int x) (.int y) && D.eqbL (iL a) (iL b)) = _
    rw [eqb_ints a b]
    have : D.eqb (.int x) (.int y) = decide (x = y) := by
      simp only [D.eqb]; rfl
    rw [this]
    by_cases h : x = y <;> by_cases h2 : a = b <;> simp [h, h2]
end DL
end
section
set_option linter.all false
set_option maxHeartbeats 2000000
/-! PD: what k80 wants of the plain algebra. -/
namespace PA
theorem sq_of {p : Int} (hp : 0 < p) (l u v : List Int) (h : trim p (addL (mulL u l) (mulL v (derL l))) = [1]) : Sq p l := by
  refine ⟨ev u, ev v, P1.ev u, P1.ev v, ?_⟩
  have e := (trim_ok hp (addL (mulL u l) (mulL v (derL l)))).2
  rw [h] at e
  exact (E.of_eq fun x => by show ev u x * ev l x + ev v x * ev (derL l) x = _; rw [ev_add, ev_mul, ev_mul]).trans (e.symm.trans (E.of_eq fun x => by simp [ev]))
theorem Md.inv_of {p c : Int} (hp : Ps p) (h : ¬ Md p c 0) : ∃ i, Md p (c * i) 1 := by
  obtain ⟨i, _, _, h⟩ := hp.inv (fun z => h (Md.zero.mpr z))
  exact ⟨i, h⟩
theorem Can.md {p : Int} {l : List Int} (hp : Ps p) (h : Can p l) (hne : l ≠ []) : ¬ Md p (PA.co l (l.length - 1)) 0 := h.lead (by have := hp.bd; omega) hne
theorem Sq.smooth {p : Int} (hp : Ps p) {l : List Int} (hc : Can p l) (hne : l ≠ []) (h : Sq p l) : Smooth p l.length l := by
  obtain ⟨i, hi⟩ := Md.inv_of hp (hc.md hp hne)
  have hl : 0 < l.length := List.length_pos_iff.mpr hne
  have := sq_smooth (n := l.length - 1) (by omega) hi h
  rwa [show l.length - 1 + 1 = l.length by omega] at this
theorem Sq.scl {p : Int} (hp : Ps p) {l r : List Int} {κ : Int} (hc : Can p l) (hne : l ≠ []) (hk : ¬ Md p κ 0) (he : E p (ev r) (fun x => κ * ev l x)) (hl : r.length ≤ l.length + 1) (h : Sq p l) : Sq p r := by
  obtain ⟨i, hi⟩ := Md.inv_of hp hk
  have h1 := smooth_cong (r := r) hi (h.smooth hp hc hne) (fun j => by
    have := (he.trans (E.of_eq (fun x => (ev_scl κ l x).symm))).co j
    rwa [co_scl] at this)
  exact smooth_sq hl h1
theorem Sq.unit {p : Int} (hp : Ps p) {f c : List Int} (h : Sq p f) (hc : Can p c) {s t : Int → Int} (hs : P1 s) (ht : P1 t) (e1 : E p (ev f) (fun x => s x * ev c x)) (e2 : E p (ev (trim p (derL f))) (fun x => t x * ev c x)) : c.length = 1 := by
  obtain ⟨u, v, hu, hv, e⟩ := h
  have hb := hp.bd
  have e3 : E p (dv f) (fun x => t x * ev c x) := ((trim_ok (by omega) (derL f)).2.symm).trans e2
  refine unit_len hp hc ((hu.mul hs).add (hv.mul ht)) ?_
  refine E.trans ?_ e
  refine E.trans (E.of_eq ?_) ((((E.refl u).mul e1 hu (hs.mul (P1.ev c))).add ((E.refl v).mul e3 hv (ht.mul (P1.ev c)))).symm)
  intro x; (try dsimp only); grind
theorem Sq.of_common {p : Int} (hp : Ps p) {f c : List Int} (hc : Can p c) (h1 : c.length = 1) (h : Lin p (ev f) (ev (trim p (derL f))) (ev c)) : Sq p f := by
  have hb := hp.bd
  have hne : c ≠ [] := fun e => by rw [e] at h1; simp at h1
  obtain ⟨i, hi⟩ := Md.inv_of hp (hc.md hp hne)
  obtain ⟨u, v, hu, hv, e⟩ := h
  refine ⟨fun x => i * u x, fun x => i * v x, (P1.const i).mul hu, (P1.const i).mul hv, ?_⟩
  have e3 : E p (dv f) (ev (trim p (derL f))) := (trim_ok (by omega) (derL f)).2.symm
  obtain ⟨c0, rfl⟩ : ∃ c0, c = [c0] := by
    match c, h1 with
    | [c0], _ => exact ⟨c0, rfl⟩
  have e4 : E p (fun x => i * ev [c0] x) (fun _ => 1) := (E.of_eq fun x => by simp [ev]; show i * c0 = c0 * i; grind).trans (E.const (show (co [c0] ([c0].length - 1) * i - 1) % p = 0 from hi))
  refine E.trans ?_ e4
  refine E.trans ?_ ((E.refl (fun _ => i)).mul e (P1.const i) ((hu.mul (P1.ev _)).add (hv.mul (P1.ev _)))).symm
  refine ((E.refl _).add ((E.refl _).mul e3 ((P1.const i).mul hv) (P1.ev _))).trans (E.of_eq fun x => ?_)
  (try dsimp only); grind
theorem turn_zeros {p : Int} (hp : Ps p) {n : Nat} {g f : List Int} (lg : g.length = n) (lf : f.length = n) {t : T5} (h : IsTurn p n g f t) (hc : t.2.2.1 = 1) : Md p (ev f (-t.2.2.2.1)) 0 ∧ Md p (ev g t.1) 0 := by
  obtain ⟨⟨_, _, _, _, be, _, en, _⟩, H⟩ := h
  obtain ⟨a, b, c, d, e⟩ := t
  simp only at be en hc H ⊢
  subst hc
  have hb := hp.bd
  have he : ¬ Md p e 0 := fun z => en (z.eq be ⟨by omega, by omega⟩)
  constructor
  · have h1 := H.at (-d)
    have e0 : (1 : Int) * -d + d = 0 := by omega
    simp only [e0] at h1
    rw [hm_inf g n _ (by omega), co_out (by omega), Int.zero_mul] at h1
    have h2 : Md p (e * e * ev f (-d)) 0 := Md.symm h1
    exact hp.prime h2 (hp.mul_ne he he)
  · obtain ⟨q, hq⟩ := H.form (by omega)
    have := hq 1 0
    rw [hm_inf f n _ (by omega), co_out (by omega)] at this
    simp only [Int.mul_one, Int.mul_zero, Int.add_zero, Int.zero_mul] at this
    rw [hm_one] at this
    exact Md.iff.mpr ⟨_, by rw [this]⟩
def tnL (p k : Int) : List Int → Int → List Int
  | [], _ => []
  | c :: l, w => c * w % p :: tnL p k l (w * k % p)
theorem tnL_len (p k : Int) : ∀ (l : List Int) (w : Int), (tnL p k l w).length = l.length
  | [], _ => rfl
  | c :: l, w => by simp [tnL, tnL_len p k l]
theorem tnL_ev (p k : Int) : ∀ (l : List Int) (w : Int), E p (ev (tnL p k l w)) (fun x => w * ev l (k * x))
  | [], w => E.of_eq fun x => by simp [tnL, ev]
  | c :: l, w => by
    have ih := tnL_ev p k l (w * k % p)
    have h1 : E p (fun x => c * w % p + x * ev (tnL p k l (w * k % p)) x) (fun x => c * w + x * (w * k * ev l (k * x))) := by
      refine (E.const (Md.mod _)).add ((E.refl _).mul (ih.trans (E.num (Md.mod _) ?_)) P1.var ?_)
      · exact P1.evc ((P1.const k).mul P1.var) l
      · exact (P1.const _).mul (P1.evc ((P1.const k).mul P1.var) l)
    refine E.trans (E.of_eq fun x => ?_) (h1.trans (E.of_eq fun x => ?_))
    · rfl
    · show _ = w * (c + k * x * ev l (k * x)); grind
theorem tnL_bd (p k : Int) (hp : 0 < p) : ∀ (l : List Int) (w : Int), ∀ c ∈ tnL p k l w, 0 ≤ c ∧ c < p
  | [], w, c, h => by simp [tnL] at h
  | d :: l, w, c, h => by
    simp only [tnL, List.mem_cons] at h
    rcases h with rfl | h
    · exact ⟨Int.emod_nonneg _ (by omega), Int.emod_lt_of_pos _ hp⟩
    · exact tnL_bd p k hp l _ c h
theorem E.co_iff {p : Int} {a b : List Int} {κ : Int} : E p (PA.ev a) (fun x => κ * PA.ev b x) ↔ ∀ i, Md p (PA.co a i) (κ * PA.co b i) := by
  constructor
  · intro h i
    have := (h.trans (E.of_eq (fun x => (ev_scl κ b x).symm))).co i
    rwa [co_scl] at this
  · intro h
    refine (E.of_co (b := sclL κ b) fun i => ?_).trans (E.of_eq (ev_scl κ b))
    rw [co_scl]; exact h i
/-- turns without c -/
theorem hom_low {p : Int} {n : Nat} {g w G : List Int} {a b e : Int} (hG : E p (ev G) (fun t => ev g (b + t))) :
    Hom p n g w a b 0 1 e ↔ ∀ i, Md p (co (tnL p a G 1) i) (e * e * co w i) := by
  rw [← E.co_iff]
  have h1 : E p (fun x => hm g n (a * x + b) (0 * x + 1)) (ev (tnL p a G 1)) := by
    refine E.trans (E.of_eq fun x => ?_) (((hG.comp ((P1.const a).mul P1.var)).symm).trans ((tnL_ev p a G 1).trans (E.of_eq fun x => ?_)).symm)
    · rw [Int.zero_mul, Int.zero_add, hm_one]; (try dsimp only); congr 1; omega
    · rw [Int.one_mul]
  exact ⟨fun h => h1.symm.trans h, fun h => h1.trans h⟩
theorem hm_rev : ∀ (l : List Int) (m : Nat) (X Z : Int), l.length = m + 1 → hm l.reverse m X Z = hm l m Z X := fun l => by
  intro m
  induction m generalizing l with
  | zero => 
    intro X Z h
    match l, h with
    | [c], _ => simp [hm]
  | succ m ih =>
    intro X Z h
    match l, h with
    | c :: l, h =>
      have hl : l.length = m + 1 := by simpa using h
      rw [List.reverse_cons]
      have key : ∀ (u : List Int) (k : Nat) , u.length ≤ k → hm (u ++ [c]) k X Z = hm u k X Z + c * X ^ u.length * Z ^ (k - u.length) := by
        intro u
        induction u with
        | nil => intro k _; simp [hm]
        | cons d u ihu =>
          intro k hk
          simp only [List.length_cons] at hk
          obtain ⟨k, rfl⟩ : ∃ k', k = k' + 1 := ⟨k - 1, by omega⟩
          simp only [List.cons_append, hm, Nat.add_sub_cancel, List.length_cons]
          rw [ihu k (by omega), show k + 1 - (u.length + 1) = k - u.length by omega, Int.pow_succ]
          grind
      rw [key l.reverse (m + 1) (by simp; omega), hm_up l.reverse m X Z (by simp; omega), ih l X Z hl]
      simp only [hm, Nat.add_sub_cancel, List.length_reverse, hl, Nat.sub_self, Int.pow_zero]
      grind
/-- the turned-over list of f at x -/
theorem hom_turn {p : Int} {n : Nat} {f F : List Int} {x : Int} (hF : E p (ev F) (fun t => ev f (x + t))) (lf : f.length ≤ n + 1) (lF : F.length = n) (hn : 0 < n) :
    Hom p n f (0 :: F.reverse) x 1 1 0 1 ∧ Hom p n (0 :: F.reverse) f 0 1 1 (-x) 1 := by
  obtain ⟨m, rfl⟩ : ∃ m, n = m + 1 := ⟨n - 1, by omega⟩
  have w : ∀ X Z, hm (0 :: F.reverse) (m + 1) X Z = hm F (m + 1) Z X := fun X Z => by
    rw [hm, Nat.add_sub_cancel, hm_rev F m X Z lF, hm_up F m Z X (by omega)]; omega
  have a1 : Hom p (m + 1) f F 1 x 0 1 1 := by
    refine E.trans (E.of_eq fun t => ?_) (hF.symm.trans (E.of_eq fun t => ?_))
    · rw [Int.zero_mul, Int.zero_add, hm_one]; (try dsimp only); congr 1; omega
    · (try dsimp only); omega
  have a2 : Hom p (m + 1) F (0 :: F.reverse) 0 1 1 0 1 := by
    refine E.of_eq fun t => ?_
    have h := w t 1
    rw [hm_one] at h
    rw [h, show (0 : Int) * t + 1 = 1 by omega, show (1 : Int) * t + 0 = t by omega]; omega
  have a3 : Hom p (m + 1) (0 :: F.reverse) F 0 1 1 0 1 := by
    refine E.of_eq fun t => ?_
    rw [w, show (0 : Int) * t + 1 = 1 by omega, show (1 : Int) * t + 0 = t by omega, hm_one]; omega
  have a4 : Hom p (m + 1) F f 1 (-x) 0 1 1 := by
    refine E.trans (E.of_eq fun t => ?_) ((hF.comp (P1.ln 1 (-x))).trans (E.of_eq fun t => ?_))
    · rw [Int.zero_mul, Int.zero_add, hm_one]
    · try dsimp only
      rw [show x + (1 * t + -x) = t by omega]; omega
  have b1 := Hom.comp lf a1 a2
  have b2 := Hom.comp (by simp; omega) a3 a4
  exact ⟨b1.md (Md.of_eq (by omega)) (Md.of_eq (by omega)) (Md.of_eq (by omega)) (Md.of_eq (by omega)) (Md.of_eq (by omega)), b2.md (Md.of_eq (by omega)) (Md.of_eq (by omega)) (Md.of_eq (by omega)) (Md.of_eq (by omega)) (Md.of_eq (by omega))⟩
theorem E.md0 {p : Int} {F f : List Int} {x : Int} (hF : E p (PA.ev F) (fun t => PA.ev f (x + t))) : Md p (PA.co F 0) (PA.ev f x) := by
  have h := hF.at 0
  have e : PA.ev F 0 = PA.co F 0 := by
    cases F with
    | nil => rfl
    | cons c F => simp [PA.ev, co_zero]
  rw [e, Int.add_zero] at h
  exact h
theorem co_left {u v : List Int} {i : Nat} (h : i < u.length) : co (u ++ v) i = co u i := by
  unfold co; simp [List.getD_eq_getElem?_getD, List.getElem?_append_left h]
theorem co_mid (u : List Int) (c : Int) (v : List Int) : co (u ++ c :: v) u.length = c := by
  unfold co; simp [List.getD_eq_getElem?_getD]
/-- turns with c = 1 -/
theorem hom_high {p : Int} {n : Nat} {g f F G : List Int} {a b d x k e : Int} (hF : E p (ev F) (fun t => ev f (x + t))) (hG : E p (ev G) (fun t => ev g (a + t))) (lf : f.length = n) (lg : g.length = n) (lF : F.length = n) (lG : G.length = n) (hn : 0 < n)
    (hx : Md p (ev f x) 0) (ha : Md p (ev g a) 0) (hb : Md p b (k - a * x)) (hd : Md p d (-x)) :
    Hom p n g f a b 1 d e ↔ ∀ i, i < n - 1 → Md p (co (tnL p k G 1).tail i) (e * e * co F.reverse.dropLast i) := by
  obtain ⟨h1, h2⟩ := hom_turn hF (by omega) lF hn
  have s1 : Hom p n g f a b 1 d e ↔ Hom p n g (0 :: F.reverse) k a 0 1 e := by
    constructor
    · intro h
      refine (Hom.comp (by omega) h h1).md ?_ (Md.of_eq (by omega)) ?_ (Md.of_eq (by omega)) (Md.of_eq (by omega))
      · exact (Md.of_eq (by omega : k = a * x + (k - a * x) * 1)).trans (((Md.refl (a * x)).add (hb.mul (Md.refl 1))).symm)
      · exact (Md.of_eq (by omega : (0:Int) = 1 * x + -x * 1)).trans ((Md.refl (1 * x)).add (hd.mul (Md.refl 1))).symm
    · intro h
      refine (Hom.comp (by omega) h h2).md (Md.of_eq (by omega)) ?_ (Md.of_eq (by omega)) ?_ (Md.of_eq (by omega))
      · exact hb.trans (Md.of_eq (by grind))
      · exact hd.trans (Md.of_eq (by omega))
  rw [s1, hom_low hG]
  have hG0 : Md p (co G 0) 0 := hG.md0.trans ha
  have hF0 : Md p (co F 0) 0 := hF.md0.trans hx
  have one : ∀ l : List Int, l.length = n → ∃ c u, l = c :: u := fun l h => by
    cases l with
    | nil => simp at h; omega
    | cons c u => exact ⟨c, u, rfl⟩
  obtain ⟨c, G, rfl⟩ := one G lG
  obtain ⟨c', F, rfl⟩ := one F lF
  · simp only [co_zero] at hG0 hF0
    simp only [List.length_cons] at lG lF
    simp only [tnL, List.tail_cons, List.reverse_cons, List.dropLast_concat]
    have lr : F.reverse.length = n - 1 := by simp; omega
    have lt := tnL_len p k G (1 * k % p)
    constructor
    · intro h i hi
      have := h (i + 1)
      rw [co_succ, co_succ] at this
      have e0 : co (F.reverse ++ [c']) i = co F.reverse i := by
        exact co_left (by omega)
      rwa [e0] at this
    · intro h i
      cases i with
      | zero =>
        rw [co_zero, co_zero]
        exact ((Md.mod _).trans (hG0.mul (Md.refl 1))).trans (Md.of_eq (by omega))
      | succ i =>
        rw [co_succ, co_succ]
        by_cases hi : i < n - 1
        · have e0 : co (F.reverse ++ [c']) i = co F.reverse i := by
            exact co_left (by omega)
          rw [e0]; exact h i hi
        · rw [co_out (by omega)]
          by_cases hi2 : i = n - 1
          · have e0 : co (F.reverse ++ [c']) i = c' := by
              rw [hi2, ← lr]; exact co_mid _ _ _
            rw [e0]
            exact (Md.of_eq (by omega : (0:Int) = e * e * 0)).trans ((Md.refl (e * e)).mul hF0).symm
          · rw [co_out (by simp at lr ⊢; omega)]; exact Md.of_eq (by omega)
theorem ev_two : ∀ (l : List Int) (h : Int), ∃ k, ev l h = co l 0 + h * co l 1 + h * h * k
  | [], h => ⟨0, by simp [ev, co_nil]⟩
  | [c], h => ⟨0, by simp [ev, co_zero, co_succ, co_nil]⟩
  | c :: d :: l, h => ⟨ev l h, by simp only [ev, co_zero, co_succ]; grind⟩
/-- a zero is a plain one -/
theorem Sq.low {p : Int} (hp : Ps p) {f F : List Int} {x : Int} (h : Sq p f) (hF : E p (ev F) (fun t => ev f (x + t))) (hx : Md p (ev f x) 0) : ¬ Md p (co F 1) 0 := by
  obtain ⟨u, v, hu, hv, e⟩ := h
  obtain ⟨δ, ⟨dl, hdl⟩, hδ⟩ := hF
  have h1 := e.at x
  have hb := hp.bd
  have hD := hm_D f 1
  have q : co F 1 = dv f x + p * co dl 1 := by
    refine lin_uniq (fun h => ev F h - ev F 0) (fun h => ?_) (fun h => ?_)
    · obtain ⟨k, hk⟩ := ev_two F h
      obtain ⟨k0, hk0⟩ := ev_two F 0
      exact ⟨k, by show ev F h - ev F 0 = _; rw [hk, hk0]; grind⟩
    · obtain ⟨k, hk⟩ := hD x 1 h 1 0
      obtain ⟨k1, hk1⟩ := ev_two dl h
      obtain ⟨k0, hk0⟩ := ev_two dl 0
      have e1 := hδ h
      have e2 := hδ 0
      rw [hdl] at e1 e2
      rw [show (1 : Int) + 0 * h = 1 by omega, hm_one, hm_one, ← dv_hm] at hk
      refine ⟨k + p * k1, ?_⟩
      show ev F h - ev F 0 = _
      simp only [] at e1 e2
      rw [e1, e2, hk1, hk0, show x + h = x + 1 * h by omega, hk, Int.add_zero]
      grind
  intro z
  have z1 : Md p (dv f x) 0 := by
    refine Md.trans ?_ z
    exact Md.symm (Md.iff.mpr ⟨_, q⟩)
  have z2 : Md p 1 0 := by
    have h2 : Md p (u x * ev f x + v x * dv f x) 1 := h1
    exact h2.symm.trans ((((Md.refl (u x)).mul hx).add ((Md.refl (v x)).mul z1)).trans (Md.of_eq (by omega)))
  have := z2.eq ⟨by omega, by omega⟩ ⟨by omega, by omega⟩
  omega
theorem sc_E {p : Int} {φ ψ : Int → Int} {κ i : Int} (hi : Md p (κ * i) 1) (p1 : P1 φ) (p2 : P1 ψ) (h : E p ψ (fun x => κ * φ x)) : E p φ (fun x => i * ψ x) := by
  refine E.symm (((E.refl (fun _ => i)).mul h (P1.const i) ((P1.const κ).mul p1)).trans ?_)
  refine (E.of_eq fun x => ?_).trans ((E.num hi p1).trans (E.of_eq fun x => ?_))
  · (try dsimp only); grind
  · omega
/-- what f is led to -/
theorem led_ok {p : Int} (hp : Ps p) {m : Nat} {f r : List Int} {a b c d e κ : Int} (hf : Can p f) (lf : f.length = 2 * m) (hm0 : 0 < m) (hsq : Sq p f) (hr : Can p r) (hdet : ¬ Md p (a * d - b * c) 0) (he : ¬ Md p e 0)
    (hk : Md p (κ * (a * d - b * c) ^ (2 * m)) (e * e)) (hE : E p (ev r) (fun x => κ * hm f (2 * m) (d * x + -b) (-c * x + a))) (hz : Md p (hm f (2 * m) d (-c)) 0) :
    r.length = 2 * m ∧ Sq p r ∧ Hom p (2 * m) r f a b c d e := by
  have hb := hp.bd
  have hκ : ¬ Md p κ 0 := fun z => hp.mul_ne he he (hk.symm.trans ((z.mul (Md.refl _)).trans (Md.of_eq (by omega))))
  obtain ⟨r', l', e'⟩ := hm_sub d (-b) (-c) a f (2 * m) (by omega)
  have er : E p (ev r) (fun x => κ * ev r' x) := hE.trans (E.of_eq fun x => by
    have := e' x 1
    rw [hm_one] at this
    try dsimp only
    rw [this, Int.mul_one, Int.mul_one])
  have hco := E.co_iff.mp er
  have htop : Md p (co r' (2 * m)) 0 := by
    have := e' 1 0
    rw [hm_inf r' _ _ l', Int.one_pow, Int.mul_one, Int.mul_one, Int.mul_zero, Int.mul_one, Int.mul_zero, Int.add_zero, Int.add_zero] at this
    rw [this]; exact hz
  have hlen : r.length ≤ 2 * m := hr.len_le (by omega) fun i hi => by
    refine (hco i).trans ?_
    by_cases q : i = 2 * m
    · rw [q]; exact ((Md.refl κ).mul htop).trans (Md.of_eq (by omega))
    · rw [co_out (by omega)]; exact Md.of_eq (by omega)
  have hne : f ≠ [] := fun z => by rw [z] at lf; simp at lf; omega
  obtain ⟨i, hi⟩ := Md.inv_of hp hdet
  obtain ⟨ik, hik⟩ := Md.inv_of hp hκ
  have s1 := hsq.smooth hp hf hne
  rw [lf] at s1
  have s2 : Smooth p (2 * m) r' := smooth_lin (a := d) (b := -b) (c := -c) (d := a) (i := i) (by
    have : d * a - -b * -c = a * d - b * c := by grind
    rw [this]; exact hi) s1 e'
  have s3 : Smooth p (2 * m) r := smooth_cong hik s2 hco
  have hlow : ∃ i, (co r (2 * m - 1) * i - 1) % p = 0 := by
    refine smooth_top (n := 2 * m - 1) (by omega) ?_ ?_
    · rwa [show 2 * m - 1 + 1 = 2 * m by omega]
    · rw [show 2 * m - 1 + 1 = 2 * m by omega, co_out (by omega)]; simp
  refine ⟨?_, smooth_sq (by omega) s3, ?_⟩
  · obtain ⟨i2, hi2⟩ := hlow
    by_cases q : r.length = 2 * m
    · exact q
    · rw [co_out (by omega), Int.zero_mul] at hi2
      have hi3 : Md p 0 1 := hi2
      have := hi3.eq ⟨by omega, by omega⟩ ⟨by omega, by omega⟩
      omega
  · -- back
    obtain ⟨ie, hie⟩ := Md.inv_of hp he
    have hdm := (hi.pow m)
    rw [Int.mul_pow, Int.one_pow] at hdm
    have hsqr : Md p (κ * (((a * d - b * c) ^ m * ie) * ((a * d - b * c) ^ m * ie))) 1 := by
      have e2 : (a * d - b * c) ^ (2 * m) = (a * d - b * c) ^ m * (a * d - b * c) ^ m := by rw [← Int.pow_add]; congr 1; omega
      rw [e2] at hk
      refine (Md.of_eq (by grind)).trans ((hk.mul (Md.refl (ie * ie))).trans ((Md.of_eq (by grind)).trans ((hie.mul hie).trans (Md.of_eq (by omega)))))
    have H1 : Hom p (2 * m) f r d (-b) (-c) a ((a * d - b * c) ^ m * ie) := sc_E hsqr (P1.hm (P1.ln _ _) (P1.ln _ _) f _) (P1.ev r) hE
    have H2 := H1.back (i := i ^ m * e) (by omega) (by omega) (by
      refine (Md.of_eq (by grind : _ = ((a * d - b * c) ^ m * i ^ m) * (e * ie))).trans ((hdm.mul hie).trans (Md.of_eq (by omega))))
    refine H2.md (Md.refl _) (Md.of_eq (by omega)) (Md.of_eq (by omega)) (Md.refl _) ?_
    refine Md.symm ((Md.of_eq ?_).trans ((hdm.mul (Md.refl e)).trans (Md.of_eq (by omega))))
    rw [show d * a - -b * -c = a * d - b * c by grind]; grind
end PA
end
section
set_option linter.all false
/-! PE for k83: one list without square factors. -/
namespace PA
theorem sq_five : Sq 5 [1, 1, 0, 1] := sq_of (by decide) _ [2, 2] [4, 1, 1] (by decide +kernel)
end PA
end
section
set_option Elab.async false
set_option linter.all false
set_option maxHeartbeats 1000000
/-! PK: loops over lists, slices, lists of whole numbers. -/
namespace DL
open PySem PySem.Spec PyProof.Rows L2
section
variable {t : WG} {ft : WT} {fe : WE} {fb : WS} {P : Post} {ρ ρ0 : Env} {K : List D → Prop} {α : Type}
theorem comp_gen (φ ψ : α → D) : ∀ (l : List α) (acc : List D), (∀ c ∈ l, ∀ N : D → Prop, N (ψ c) → t (φ c) ρ0 fun ρ1 => fe ρ1 N) → K (acc ++ l.map ψ) → lcL t wYes fe ρ0 (l.map φ) acc K
  | [], acc, _, h => by
    have h : K (acc ++ []) := h
    rw [List.append_nil] at h; exact h
  | c :: l, acc, step, h => by
    show t (φ c) ρ0 fun ρ1 => wYes ρ1 fun b => if b = true then fe ρ1 fun y => lcL t wYes fe ρ0 (l.map φ) (acc ++ [y]) K else lcL t wYes fe ρ0 (l.map φ) acc K
    simp only [e_yes, if_true]
    refine step c List.mem_cons_self _ (comp_gen φ ψ l _ (fun d hd => step d (List.mem_cons_of_mem _ hd)) ?_)
    simpa using h
theorem comp_int (φ : α → D) (u : α → Int) (l : List α) (step : ∀ c ∈ l, ∀ N : D → Prop, N (.int (u c)) → t (φ c) ρ0 fun ρ1 => fe ρ1 N) (h : K ((l.map u).map D.int)) : lcL t wYes fe ρ0 (l.map φ) [] K :=
  comp_gen φ (fun c => D.int (u c)) l [] step (by rw [List.map_map] at h; exact h)
theorem comp_bl (φ : α → D) (u : α → Bool) (l : List α) (step : ∀ c ∈ l, ∀ N : D → Prop, N (.bl (u c)) → t (φ c) ρ0 fun ρ1 => fe ρ1 N) (h : K ((l.map u).map D.bl)) : lcL t wYes fe ρ0 (l.map φ) [] K :=
  comp_gen φ (fun c => D.bl (u c)) l [] step (by rw [List.map_map] at h; exact h)
theorem comp_filt (φ ψ : α → D) (q : α → Bool) : ∀ (l : List α) (acc : List D), (∀ c ∈ l, ∀ (M : Prop) (N : D → Prop), (q c = true → N (ψ c)) → (q c = false → M) → t (φ c) ρ0 fun ρ1 => ft ρ1 fun b => if b = true then fe ρ1 N else M) → K (acc ++ (l.filter q).map ψ) → lcL t ft fe ρ0 (l.map φ) acc K
  | [], acc, _, h => by
    have h : K (acc ++ []) := h
    rw [List.append_nil] at h; exact h
  | c :: l, acc, step, h => by
    show t (φ c) ρ0 fun ρ1 => ft ρ1 fun b => if b = true then fe ρ1 fun y => lcL t ft fe ρ0 (l.map φ) (acc ++ [y]) K else lcL t ft fe ρ0 (l.map φ) acc K
    have go : ∀ a, K (a ++ (l.filter q).map ψ) → lcL t ft fe ρ0 (l.map φ) a K := fun a => comp_filt φ ψ q l a fun d hd => step d (List.mem_cons_of_mem _ hd)
    refine step c List.mem_cons_self _ _ (fun hq => go _ ?_) (fun hq => go _ ?_)
    · rw [List.filter_cons, if_pos hq] at h; simpa using h
    · rw [List.filter_cons, if_neg (by simp [hq])] at h; simpa using h
theorem for_pre (φ : α → D) (l : List α) (I : List α → Env → Prop) (h0 : I [] ρ) (hd : ∀ ρ, I l ρ → P.nx ρ)
    (step : ∀ (done : List α) (c : α) (rest : List α) (ρ : Env) (N : Env → Prop), l = done ++ c :: rest → I done ρ → (∀ ρ', I (done ++ [c]) ρ' → N ρ') → t (φ c) ρ fun ρ1 => fb { nx := N, rt := P.rt, bk := P.nx, ct := N } ρ1) : wForL t fb (l.map φ) P ρ := by
  have go : ∀ (rest done : List α) (ρ : Env), l = done ++ rest → I done ρ → wForL t fb (rest.map φ) P ρ := fun rest => by
    induction rest with
    | nil => intro done ρ e i; rw [List.append_nil] at e; subst e; exact hd ρ i
    | cons c rest ih => intro done ρ e i; exact step done c rest ρ _ e i fun ρ' i' => ih (done ++ [c]) ρ' (by rw [e]; simp) i'
  exact go l [] ρ rfl h0
theorem for_ran (lo c : Int) (n : Nat) (I : Nat → Env → Prop) (h0 : I 0 ρ) (hd : ∀ ρ, I n ρ → P.nx ρ)
    (step : ∀ (i : Nat) (ρ : Env) (N : Env → Prop), i < n → I i ρ → (∀ ρ', I (i + 1) ρ' → N ρ') → t (.int (lo + (i : Int) * c)) ρ fun ρ1 => fb { nx := N, rt := P.rt, bk := P.nx, ct := N } ρ1) : wForL t fb (ranD lo c n) P ρ := by
  refine for_pre (fun (i : Nat) => D.int (lo + (i : Int) * c)) (List.range n) (fun done ρ => I done.length ρ) h0 (fun ρ h => hd ρ (by simpa using h)) fun done i rest ρ N e hI hN => ?_
  have hi : i = done.length := by
    have h1 : (List.range n)[done.length]? = some i := by rw [e]; simp
    have h2 : done.length < n := by
      have := congrArg List.length e
      simp at this; omega
    rw [List.getElem?_range h2] at h1
    exact (Option.some.inj h1).symm
  have hn : i < n := by
    have : i ∈ List.range n := by rw [e]; simp
    exact List.mem_range.mp this
  subst hi
  exact step done.length ρ N hn hI fun ρ' h' => hN ρ' (by simpa using h')
theorem for_one (lo : Int) (n : Nat) (I : Nat → Env → Prop) (h0 : I 0 ρ) (hd : ∀ ρ, I n ρ → P.nx ρ)
    (step : ∀ (i : Nat) (ρ : Env) (N : Env → Prop), i < n → I i ρ → (∀ ρ', I (i + 1) ρ' → N ρ') → t (.int (lo + (i : Int))) ρ fun ρ1 => fb { nx := N, rt := P.rt, bk := P.nx, ct := N } ρ1) : wForL t fb (ranD lo 1 n) P ρ :=
  for_ran lo 1 n I h0 hd fun i ρ N a b c => by rw [Int.mul_one]; exact step i ρ N a b c
end
@[simp high] theorem gd_tupT {n : Nat} {u : WGs} {xs : List D} {ρ : Env} {N : Env → Prop} : gdTup n u (.tup xs) ρ N = (xs.length = n ∧ u xs ρ N) := by
  rw [e_gdTup]
  exact propext ⟨fun ⟨ys, e, h⟩ => by cases e; exact h, fun h => ⟨xs, rfl, h⟩⟩
@[simp high] theorem gd_consC {t : WG} {u : WGs} {d : D} {r : List D} {ρ : Env} {N : Env → Prop} : gdCons t u (d :: r) ρ N = t d ρ fun ρ' => u r ρ' N := by
  rw [e_gdCons]
  exact propext ⟨fun ⟨d', r', e, h⟩ => by cases e; exact h, fun h => ⟨d, r, rfl, h⟩⟩
@[simp high] theorem gd_nilC {ρ : Env} {N : Env → Prop} : gdNil [] ρ N = N ρ := by
  rw [e_gdNil]; simp
@[simp high] theorem c_max0 {z : Int} {K : D → Prop} : cMax [.int 0, .int z] K = K (.int ((z.toNat : Nat) : Int)) := by
  rw [c_max]; congr 2; split <;> omega
@[simp high] theorem c_maxN {a b : Nat} {K : D → Prop} : cMax [.int (a : Int), .int (b : Int)] K = K (.int ((max a b : Nat) : Int)) := by
  rw [c_max]; congr 2; split <;> omega
theorem rep_iL (n : Nat) : List.replicate n (D.int 0) = iL (List.replicate n 0) := by simp
theorem app_iL (a b : List Int) : List.map D.int a ++ iL b = iL (a ++ b) := by simp
def ranL (lo : Int) (n : Nat) : List Int := (List.range n).map fun (i : Nat) => lo + (i : Int)
theorem ranD_eq (lo : Int) (n : Nat) : ranD lo 1 n = (ranL lo n).map D.int := by
  unfold ranD ranL; rw [List.map_map]; congr 1; funext i; simp
theorem mem_ranL {lo x : Int} {n : Nat} : x ∈ ranL lo n ↔ lo ≤ x ∧ x < lo + n := by
  unfold ranL
  rw [List.mem_map]
  constructor
  · rintro ⟨i, h, rfl⟩; have := List.mem_range.mp h; omega
  · rintro ⟨a, b⟩; exact ⟨(x - lo).toNat, List.mem_range.mpr (by omega), by omega⟩
theorem nodup_ranL (lo : Int) (n : Nat) : (ranL lo n).Nodup := by
  unfold ranL
  rw [List.nodup_iff_pairwise_ne, List.pairwise_map]
  exact (List.nodup_iff_pairwise_ne.mp List.nodup_range).imp fun h e => h (by omega)
theorem len_ranL (lo : Int) (n : Nat) : (ranL lo n).length = n := by unfold ranL; simp
def enL (k : Nat) : List Int → List (Nat × Int)
  | [] => []
  | c :: l => (k, c) :: enL (k + 1) l
theorem enD_eq : ∀ (l : List Int) (k : Nat), enD k (iL l) = (enL k l).map fun c => D.tup [.int (c.1 : Int), .int c.2]
  | [], k => rfl
  | c :: l, k => by
    show D.tup [.int (k : Int), .int c] :: enD (k + 1) (iL l) = _
    rw [enD_eq l (k + 1)]; rfl
theorem enL_len : ∀ (l : List Int) (k : Nat), (enL k l).length = l.length
  | [], _ => rfl
  | c :: l, k => by simp [enL, enL_len l]
theorem enL_get : ∀ (l : List Int) (k i : Nat) (h : i < (enL k l).length), (enL k l)[i] = (k + i, PA.co l i)
  | [], _, i, h => by simp [enL] at h
  | c :: l, k, 0, h => by simp [enL, PA.co_zero]
  | c :: l, k, i + 1, h => by simp only [enL, List.getElem_cons_succ, enL_get l (k + 1) i, PA.co_succ]; congr 1; omega
theorem for_en {t : WG} {fb : WS} {P : Post} {ρ : Env} (l : List Int) (I : Nat → Env → Prop) (h0 : I 0 ρ) (hd : ∀ ρ, I l.length ρ → P.nx ρ)
    (step : ∀ (i : Nat) (ρ : Env) (N : Env → Prop), i < l.length → I i ρ → (∀ ρ', I (i + 1) ρ' → N ρ') → t (.tup [.int (i : Int), .int (PA.co l i)]) ρ fun ρ1 => fb { nx := N, rt := P.rt, bk := P.nx, ct := N } ρ1) : wForL t fb (enD 0 (iL l)) P ρ := by
  rw [enD_eq]
  refine for_pre _ (enL 0 l) (fun done ρ => I done.length ρ) h0 (fun ρ h => hd ρ (by rwa [enL_len] at h)) fun done c rest ρ N e hI hN => ?_
  have h2 : done.length < (enL 0 l).length := by rw [e]; simp
  have h1 : (enL 0 l)[done.length] = c := by
    have : (enL 0 l)[done.length]? = some c := by rw [e]; simp
    rw [List.getElem?_eq_getElem h2] at this
    exact Option.some.inj this
  rw [enL_get, Nat.zero_add] at h1
  rw [← h1]
  rw [enL_len] at h2
  exact step _ ρ N h2 hI fun ρ' h' => hN ρ' (by simpa using h')
theorem zpD_eq : ∀ (a b : List Int), zpD (iL a) (iL b) = (a.zip b).map fun c => D.tup [.int c.1, .int c.2]
  | [], _ => by simp [zpD]
  | _ :: _, [] => by simp [zpD]
  | c :: a, d :: b => by
    show D.tup [.int c, .int d] :: zpD (iL a) (iL b) = _
    rw [zpD_eq a b]; rfl
theorem cut_one {α : Type} (xs : List α) : cutD xs (some 1) none = xs.tail := by
  unfold cutD
  rw [HT.sIx_none, show (some (1 : Int)) = some ((1 : Nat) : Int) from rfl, HT.sIx_nat]
  cases xs with
  | nil => rfl
  | cons c xs => simp
theorem cut_upto {α : Type} (xs : List α) (k : Nat) : cutD xs none (some (k : Int)) = xs.take k := by
  unfold cutD
  rw [HT.sIx_none, HT.sIx_nat]
  simp [List.take_eq_take_iff]
theorem fm_congr {α β : Type} {f g : α → Option β} : ∀ {l : List α}, (∀ x ∈ l, f x = g x) → l.filterMap f = l.filterMap g
  | [], _ => rfl
  | c :: l, h => by
    rw [List.filterMap_cons, List.filterMap_cons, h c List.mem_cons_self, fm_congr fun x hx => h x (List.mem_cons_of_mem _ hx)]
theorem cut_rev {α : Type} (xs : List α) : cutT xs none none (-1) = xs.reverse := by
  unfold cutT Builtin.Slice.sliceAdjust Builtin.Slice.slicePlaces
  simp only [show (-1 : Int) < 0 by decide, if_true, show ¬ ((-1 : Int) > 0) by decide, if_false]
  cases xs with
  | nil => simp
  | cons c xs =>
  generalize c :: xs = ys
  by_cases hy : ys.length = 0
  · have := List.eq_nil_of_length_eq_zero hy; subst this; simp
  · rw [if_pos (by omega)]
    rw [show (((ys.length : Int) - 1 - -1 - 1) / -(-1) + 1).toNat = ys.length by simp]
    apply List.ext_getElem?
    intro i
    have : (List.range ys.length).filterMap (fun (k : Nat) => ys[((ys.length : Int) - 1 + (k : Int) * -1).toNat]?) = (List.range ys.length).filterMap (fun (k : Nat) => ys.reverse[k]?) := by
      apply fm_congr
      intro k hk
      have hk := List.mem_range.mp hk
      rw [List.getElem?_reverse hk]
      congr 1; omega
    rw [this]
    have e2 : ∀ (zs : List α), (List.range zs.length).filterMap (fun (k : Nat) => zs[k]?) = zs := fun zs => by
      induction zs with
      | nil => rfl
      | cons z zs ih =>
        rw [List.length_cons, List.range_succ_eq_map, List.filterMap_cons]
        simp only [List.getElem?_cons_zero, List.filterMap_map]
        congr 1
    have e3 := e2 ys.reverse
    rw [List.length_reverse] at e3
    rw [e3]
theorem cut_rev0 {α : Type} (xs : List α) : cutT xs none (some 0) (-1) = xs.reverse.dropLast := by
  have e2 : ∀ (zs : List α), (List.range zs.length).filterMap (fun (k : Nat) => zs[k]?) = zs := fun zs => by
    induction zs with
    | nil => rfl
    | cons z zs ih =>
      rw [List.length_cons, List.range_succ_eq_map, List.filterMap_cons]
      simp only [List.getElem?_cons_zero, List.filterMap_map]
      congr 1
  unfold cutT Builtin.Slice.sliceAdjust Builtin.Slice.slicePlaces
  simp only [show (-1 : Int) < 0 by decide, if_true, show ¬ ((-1 : Int) > 0) by decide, if_false, show ¬ ((0 : Int) < 0) by decide]
  by_cases hy : xs.length ≤ 1
  · rw [if_neg (by omega)]
    match xs, hy with
    | [], _ => simp
    | [c], _ => simp
  · rw [if_pos (by omega)]
    rw [show min (0 : Int) ((xs.length : Int) - 1) = 0 by omega]
    rw [show (((xs.length : Int) - 1 - 0 - 1) / -(-1) + 1).toNat = xs.length - 1 by simp]
    have : (List.range (xs.length - 1)).filterMap (fun (k : Nat) => xs[((xs.length : Int) - 1 + (k : Int) * -1).toNat]?) = (List.range (xs.length - 1)).filterMap (fun (k : Nat) => xs.reverse.dropLast[k]?) := by
      apply fm_congr
      intro k hk
      have hk := List.mem_range.mp hk
      rw [List.getElem?_dropLast, if_pos (by simp; omega), List.getElem?_reverse (by omega)]
      congr 1; omega
    rw [this]
    have e3 := e2 xs.reverse.dropLast
    rw [List.length_dropLast, List.length_reverse] at e3
    rw [e3]
theorem atI_nat {α : Type} (xs : List α) (k : Nat) : atI xs (k : Int) = xs[k]? := by
  unfold atI ixN
  rw [if_pos (by omega)]
  by_cases h : k < xs.length
  · rw [if_pos (by omega)]; simp
  · rw [if_neg (by omega)]; simp; omega
theorem atI_ofNat {α : Type} (xs : List α) {i : Int} (h : 0 ≤ i) : atI xs i = xs[i.toNat]? := by
  have := atI_nat xs i.toNat
  rwa [show ((i.toNat : Nat) : Int) = i by omega] at this
theorem atI_last {α : Type} (xs : List α) : atI xs (-1) = xs.getLast? := by
  unfold atI ixN
  rw [if_neg (by omega)]
  cases xs with
  | nil => simp
  | cons c xs =>
    rw [if_pos (by simp; omega), List.getLast?_eq_getElem?]
    show (c :: xs)[_]? = _
    congr 1; simp; omega
theorem atI_int (l : List Int) {i : Int} (h0 : 0 ≤ i) (h1 : i < l.length) : atI (iL l) i = some (.int (PA.co l i.toNat)) := by
  rw [atI_ofNat _ h0, List.getElem?_map, List.getElem?_eq_getElem (by omega), PA.co_at (by omega)]; rfl
theorem atI_lastI (l : List Int) (h : l ≠ []) : atI (iL l) (-1) = some (.int (PA.co l (l.length - 1))) := by
  have hl : 0 < l.length := List.length_pos_iff.mpr h
  rw [atI_last, List.getLast?_map, List.getLast?_eq_getElem?, List.getElem?_eq_getElem (by omega), PA.co_at (by omega)]; rfl
theorem ixN_of {n : Nat} {i : Int} (h0 : 0 ≤ i) (h1 : i < n) : ixN n i = some i.toNat := by
  unfold ixN; rw [if_pos h0, if_pos h1]
theorem bls_of (bs : List Bool) : D.bls (bs.map D.bl) = some bs := by
  induction bs with
  | nil => rfl
  | cons b bs ih => simp [D.bls, ih]
theorem cmul {a b : Int} (h : -1000000000000 < a ∧ a < 1000000000000) : CMul a b := .inl ⟨by omega, by omega⟩
theorem cmul' {a b : Int} (h : -1000000000000 < b ∧ b < 1000000000000) : CMul a b := .inr ⟨by omega, by omega⟩
theorem co_set (l : List Int) (i j : Nat) (v : Int) : PA.co (l.set i v) j = if i = j ∧ i < l.length then v else PA.co l j := by
  unfold PA.co
  rw [List.getD_eq_getElem?_getD, List.getD_eq_getElem?_getD, List.getElem?_set]
  by_cases h : i = j
  · subst h
    by_cases h2 : i < l.length
    · simp [h2]
    · simp [h2]
  · simp [h]
theorem set_iL (l : List Int) (i : Nat) (v : Int) : (iL l).set i (.int v) = iL (l.set i v) := by show (l.map D.int).set i (D.int v) = (l.set i v).map D.int; rw [List.map_set]
theorem flat_rep {α : Type} (n : Nat) (c : α) : (List.replicate n [c]).flatten = List.replicate n c := by
  induction n with
  | zero => rfl
  | succ n ih => rw [List.replicate_succ, List.flatten_cons, ih]; rfl
theorem co_rep (n i : Nat) : PA.co (List.replicate n 0) i = 0 := by
  unfold PA.co
  rw [List.getD_eq_getElem?_getD, List.getElem?_replicate]; split <;> rfl
end DL
end
section
set_option Elab.async false
set_option linter.all false
set_option maxHeartbeats 1000000
set_option maxRecDepth 10000
/-! TX: texts of values of small numbers. -/
namespace DL
open PySem PySem.Spec PyProof.Rows L2
mutual
def D.tx : D → Bool
  | .non => true
  | .bl _ => true
  | .int i => decide (-1000000 < i) && decide (i < 1000000)
  | .tup xs => D.txL xs
  | .lst xs => D.txL xs
  | _ => false
def D.txL : List D → Bool
  | [] => true
  | d :: ds => d.tx && D.txL ds
end
mutual
def D.sz : D → Nat
  | .tup xs => D.szL xs + 4
  | .lst xs => D.szL xs + 4
  | .int _ => 8
  | _ => 5
def D.szL : List D → Nat
  | [] => 0
  | d :: ds => d.sz + 2 + D.szL ds
end
def cpL (s : Str) : List Nat := s.cps.toList
theorem cp_app (a b : Str) : cpL (a ++ b) = cpL a ++ cpL b := Array.toList_append
theorem cp_len (s : Str) : s.length = (cpL s).length := rfl
theorem strOk_cp (s : Str) : PyData.strOk s = (cpL s).all (· < 0x110000) := by
  unfold PyData.strOk cpL; rw [Array.all_toList]
theorem cps_of (s : String) : cpL (Str.ofString s) = s.toList.map Char.toNat := by
  show (cpsOfBytes 0 0 s.toByteArray.data.toList).toArray.toList = _
  rw [List.toList_toArray]
  exact cpsOfBytes_string s
theorem ok_of (s : String) : PyData.strOk (Str.ofString s) = true := by
  rw [strOk_cp, cps_of, List.all_eq_true]
  intro c hc
  obtain ⟨x, _, rfl⟩ := List.mem_map.mp hc
  rw [decide_eq_true_eq]
  have := x.valid
  have h : x.toNat < 0xD800 ∨ (0xDFFF < x.toNat ∧ x.toNat < 0x110000) := this
  omega
theorem len_int {i : Int} (h0 : -1000000 < i) (h1 : i < 1000000) : (toString i).toList.length ≤ 7 := by
  cases i with
  | ofNat m =>
    have e : toString (Int.ofNat m) = m.repr := rfl
    rw [e, String.length_toList]
    have hm : m < 10 ^ 6 := by have : (Int.ofNat m) = (m : Int) := rfl; omega
    have := (Nat.length_repr_le_iff (n := m) (k := 6) (by omega)).mpr hm
    omega
  | negSucc m =>
    have e : toString (Int.negSucc m) = "-" ++ (m + 1).repr := rfl
    rw [e, String.toList_append, List.length_append, String.length_toList, String.length_toList]
    have hm : m + 1 < 10 ^ 6 := by omega
    have := (Nat.length_repr_le_iff (n := m + 1) (k := 6) (by omega)).mpr hm
    have e2 : "-".length = 1 := rfl
    omega
theorem join_cp : ∀ ss : List Str, (∀ s ∈ ss, PyData.strOk s = true) → PyData.strOk (Str.join ", " ss) = true
  | [], _ => by show PyData.strOk Str.empty = true; decide +kernel
  | [s], h => h s (by simp)
  | s :: t :: ss, h => by
    have ih := join_cp (t :: ss) fun x hx => h x (List.mem_cons_of_mem _ hx)
    show PyData.strOk (s ++ ", " ++ Str.join ", " (t :: ss)) = true
    have h1 := h s (by simp)
    rw [strOk_cp] at ih h1 ⊢
    rw [cp_app, cp_app, List.all_append, List.all_append, h1, ih]
    decide +kernel
theorem join_len : ∀ ss : List Str, (Str.join ", " ss).length ≤ (ss.map fun s => s.length + 2).sum
  | [] => Nat.le_refl _
  | [s] => by show s.length ≤ _; simp
  | s :: t :: ss => by
    have ih := join_len (t :: ss)
    show (s ++ ", " ++ Str.join ", " (t :: ss)).length ≤ _
    rw [cp_len, cp_app, cp_app, List.length_append, List.length_append, ← cp_len, ← cp_len (Str.join _ _)]
    have e2 : (cpL ((", " : String) : Str)).length = 2 := rfl
    rw [e2]
    simp only [List.map_cons, List.sum_cons] at ih ⊢
    omega
mutual
theorem tx_ok : ∀ d : D, d.tx = true → d.pure = true ∧ d.py.showable = true ∧ PyData.strOk d.py.shown = true ∧ d.py.shown.length ≤ d.sz
  | .non, _ => ⟨rfl, rfl, by decide +kernel, by decide +kernel⟩
  | .bl true, _ => ⟨rfl, rfl, by decide +kernel, by decide +kernel⟩
  | .bl false, _ => ⟨rfl, rfl, by decide +kernel, by decide +kernel⟩
  | .int i, h => by
    have h2 : (decide (-1000000 < i) && decide (i < 1000000)) = true := h
    simp only [Bool.and_eq_true, decide_eq_true_eq] at h2
    refine ⟨rfl, ?_, ?_, ?_⟩
    · show decide (i.natAbs.log2 < 1920) = true
      rw [decide_eq_true_eq]
      have h3 : i.natAbs < 2 ^ 1920 := Nat.lt_of_lt_of_le (show i.natAbs < 2 ^ 20 by omega) (Nat.pow_le_pow_right (by omega) (by omega))
      by_cases h0 : i.natAbs = 0
      · rw [h0]; decide
      · exact (Nat.log2_lt h0).mpr h3
    · exact ok_of (toString i)
    · show (Str.ofString (toString i)).length ≤ 8
      rw [cp_len, cps_of, List.length_map]
      have := len_int h2.1 h2.2
      omega
  | .tup xs, h => by
    obtain ⟨a, b, c, e⟩ := txL_ok xs h
    refine ⟨a, b, ?_, ?_⟩
    · show PyData.strOk (PyData.shown (.tuple (D.pyL xs))) = true
      rw [PyData.shown_tuple, strOk_cp, cp_app, cp_app, List.all_append, List.all_append, ← strOk_cp (Str.join _ _), join_cp _ c]
      split <;> decide +kernel
    · show (PyData.shown (.tuple (D.pyL xs))).length ≤ D.szL xs + 4
      rw [PyData.shown_tuple, cp_len, cp_app, cp_app, List.length_append, List.length_append, ← cp_len (Str.join _ _)]
      have := join_len (PyData.shownAll (D.pyL xs))
      have e1 : (cpL (("(" : String) : Str)).length = 1 := rfl
      have e3 : (cpL (((if (D.pyL xs).length == 1 then ",)" else ")" : String) : Str))).length ≤ 2 := by split <;> decide
      omega
  | .lst xs, h => by
    obtain ⟨a, b, c, e⟩ := txL_ok xs h
    refine ⟨a, b, ?_, ?_⟩
    · show PyData.strOk (PyData.shown (.list (D.pyL xs))) = true
      rw [PyData.shown_list, strOk_cp, cp_app, cp_app, List.all_append, List.all_append, ← strOk_cp (Str.join _ _), join_cp _ c]
      decide +kernel
    · show (PyData.shown (.list (D.pyL xs))).length ≤ D.szL xs + 4
      rw [PyData.shown_list, cp_len, cp_app, cp_app, List.length_append, List.length_append, ← cp_len (Str.join _ _)]
      have := join_len (PyData.shownAll (D.pyL xs))
      have e1 : (cpL (("[" : String) : Str)).length = 1 := rfl
      have e3 : (cpL (("]" : String) : Str)).length = 1 := rfl
      omega
  | .str _, h => by cases h
  | .adr _, h => by cases h
  | .ty _, h => by cases h
  | .obj _ _, h => by cases h
theorem txL_ok : ∀ xs : List D, D.txL xs = true → D.pureL xs = true ∧ PyData.showableAll (D.pyL xs) = true ∧ (∀ s ∈ PyData.shownAll (D.pyL xs), PyData.strOk s = true) ∧ ((PyData.shownAll (D.pyL xs)).map fun s => s.length + 2).sum ≤ D.szL xs
  | [], _ => ⟨rfl, rfl, fun s hs => by simp [D.pyL, PyData.shownAll] at hs, by simp [D.pyL, PyData.shownAll]⟩
  | d :: xs, h => by
    have h2 : (d.tx && D.txL xs) = true := h
    rw [Bool.and_eq_true] at h2
    obtain ⟨a, b, c, e⟩ := tx_ok d h2.1
    obtain ⟨a', b', c', e'⟩ := txL_ok xs h2.2
    refine ⟨?_, ?_, ?_, ?_⟩
    · show (d.pure && D.pureL xs) = true
      rw [a, a']; rfl
    · show (PyData.showable d.py && PyData.showableAll (D.pyL xs)) = true
      rw [b, b']; rfl
    · intro s hs
      have hs2 : s ∈ PyData.shown d.py :: PyData.shownAll (D.pyL xs) := hs
      rcases List.mem_cons.mp hs2 with rfl | q
      · exact c
      · exact c' s q
    · show ((PyData.shown d.py :: PyData.shownAll (D.pyL xs)).map fun s => s.length + 2).sum ≤ d.sz + 2 + D.szL xs
      rw [List.map_cons, List.sum_cons]; omega
end
theorem shp_str {s : Str} (h : PyData.strOk s = true) : (D.str s).shp = true := by
  show (true && (PyData.canLay0 (.str s) && decide (PyData.depth (.str s) ≤ 64))) = true
  have e : PyData.canLay0 (.str s) = PyData.strOk s := by simp only [PyData.canLay0]
  rw [e, h]; rfl
theorem shp_strs {ss : List Str} (h : ∀ s ∈ ss, PyData.strOk s = true) : (D.lst (ss.map D.str)).shp = true := by
  have go : ∀ ss : List Str, (∀ s ∈ ss, PyData.strOk s = true) → D.pureL (ss.map D.str) = true ∧ PyData.canLayAll0 (D.pyL (ss.map D.str)) = true ∧ PyData.depthAll (D.pyL (ss.map D.str)) = 0 := fun ss => by
    induction ss with
    | nil => exact fun _ => ⟨rfl, rfl, rfl⟩
    | cons s ss ih =>
      intro h
      obtain ⟨a, b, c⟩ := ih fun x hx => h x (List.mem_cons_of_mem _ hx)
      have e : D.pyL ((s :: ss).map D.str) = .str s :: D.pyL (ss.map D.str) := rfl
      rw [e]
      refine ⟨?_, ?_, ?_⟩
      · show (true && D.pureL (ss.map D.str)) = true
        rw [a]; rfl
      · simp only [PyData.canLayAll0, PyData.canLay0, b, h s List.mem_cons_self, Bool.and_self]
      · simp only [PyData.depthAll, PyData.depth, c, Nat.max_self]
  obtain ⟨a, b, c⟩ := go ss h
  show (D.pureL (ss.map D.str) && (PyData.canLay0 (.list (D.pyL (ss.map D.str))) && decide (PyData.depth (.list (D.pyL (ss.map D.str))) ≤ 64))) = true
  rw [a]
  simp only [PyData.canLay0, PyData.depth, b, c]
  rfl
end DL
end
section
set_option linter.all false
set_option maxHeartbeats 2000000
/-! PQ: squares, remainders as functions, signs; the twin's signs. -/
namespace PA
def IsQ (p x : Int) : Prop := ∃ y, Md p (y * y) x
noncomputable def sgn (p x : Int) : Int := @ite _ (IsQ p x) (Classical.propDecidable _) 1 (-1)
theorem IsQ.md {p x y : Int} (h : Md p x y) : IsQ p x ↔ IsQ p y := ⟨fun ⟨z, hz⟩ => ⟨z, hz.trans h⟩, fun ⟨z, hz⟩ => ⟨z, hz.trans h.symm⟩⟩
theorem sgn_md {p x y : Int} (h : Md p x y) : sgn p x = sgn p y := by
  unfold sgn
  by_cases q : IsQ p x
  · rw [if_pos q, if_pos ((IsQ.md h).mp q)]
  · rw [if_neg q, if_neg fun z => q ((IsQ.md h).mpr z)]
theorem sgn_one (p x : Int) : sgn p x = 1 ∨ sgn p x = -1 := by
  unfold sgn; split <;> simp
/-- is r a square among the remainders -/
def isq (p r : Nat) : Bool := (List.range p).any fun y => y * y % p == r % p
theorem isq_ok {p : Int} {n r : Nat} (hp : p = n) (h0 : 0 < p) : isq n r = true ↔ IsQ p r := by
  unfold isq
  rw [List.any_eq_true]
  constructor
  · rintro ⟨y, _, h⟩
    rw [beq_iff_eq] at h
    refine ⟨y, Md.of_emod ?_⟩
    rw [hp]; exact_mod_cast h
  · rintro ⟨y, hy⟩
    have hb : 0 ≤ y % p ∧ y % p < p := ⟨Int.emod_nonneg _ (by omega), Int.emod_lt_of_pos _ h0⟩
    refine ⟨(y % p).toNat, List.mem_range.mpr (by omega), ?_⟩
    rw [beq_iff_eq]
    have h1 : Md p (((y % p).toNat : Int) * ((y % p).toNat : Int)) r := by
      rw [show (((y % p).toNat : Nat) : Int) = y % p by omega]
      exact ((Md.mod y).mul (Md.mod y)).trans hy
    have h2 := h1.emod
    rw [hp] at h2
    rw [← hp] at h2
    generalize (y % p).toNat = w at h2
    rw [hp] at h2
    exact_mod_cast h2
theorem sq_tab : ∀ p ∈ [3, 5, 7, 11, 13, 17, 61], ((List.range p).all fun z => isq p z || (List.range p).all fun x => x == 0 || (isq p (z * x) == !isq p x)) = true := by decide +kernel
theorem nonres {p z x : Int} (hp : Ps p) (hz : ¬ IsQ p z) (hx : ¬ Md p x 0) : IsQ p (z * x) ↔ ¬ IsQ p x := by
  obtain ⟨n, hn, hmem⟩ := hp.nat
  have hb := hp.bd
  have h0 : 0 < p := by omega
  have bz : 0 ≤ z % p ∧ z % p < p := ⟨Int.emod_nonneg _ (by omega), Int.emod_lt_of_pos _ h0⟩
  have bx : 0 ≤ x % p ∧ x % p < p := ⟨Int.emod_nonneg _ (by omega), Int.emod_lt_of_pos _ h0⟩
  have t := sq_tab n hmem
  rw [List.all_eq_true] at t
  have t1 := t (z % p).toNat (List.mem_range.mpr (by omega))
  have ez : (((z % p).toNat : Nat) : Int) = z % p := by omega
  have ex : (((x % p).toNat : Nat) : Int) = x % p := by omega
  have nz : isq n (z % p).toNat = false := by
    rw [Bool.eq_false_iff]
    intro q
    have := (isq_ok hn h0).mp q
    rw [ez] at this
    exact hz ((IsQ.md (Md.mod z)).mp this)
  rw [nz, Bool.false_or, List.all_eq_true] at t1
  have t2 := t1 (x % p).toNat (List.mem_range.mpr (by omega))
  have nx : ((x % p).toNat == 0) = false := by
    rw [beq_eq_false_iff_ne]
    intro q
    exact hx (Md.zero.mpr (by omega))
  rw [nx, Bool.false_or, beq_iff_eq] at t2
  have h1 : IsQ p (z * x) ↔ isq n ((z % p).toNat * (x % p).toNat) = true := by
    rw [isq_ok hn h0]
    refine IsQ.md ?_
    rw [Int.natCast_mul, ez, ex]
    exact ((Md.mod z).mul (Md.mod x)).symm
  have h2 : IsQ p x ↔ isq n (x % p).toNat = true := by
    rw [isq_ok hn h0, ex]
    exact IsQ.md (Md.mod x).symm
  rw [h1, h2, t2]
  cases isq n (x % p).toNat <;> simp
theorem sgn_nonres {p z x : Int} (hp : Ps p) (hz : ¬ IsQ p z) (hx : ¬ Md p x 0) : sgn p (z * x) = - sgn p x := by
  have h := nonres hp hz hx
  unfold sgn
  by_cases q : IsQ p x
  · rw [if_pos q, if_neg fun w => h.mp w q]
  · rw [if_neg q, if_pos (h.mpr q)]; rfl
/-! ### remainders -/
def RemOk (p : Int) (a b r : List Int) : Prop := Can p r ∧ r.length < b.length ∧ ∃ q : List Int, E p (ev a) (fun x => ev q x * ev b x + ev r x)
theorem mul_len {p : Int} (hp : Ps p) {q b : List Int} (hq : Can p q) (hb : Can p b) (nq : q ≠ []) (nb : b ≠ []) : ¬ Md p (co (mulL q b) (q.length - 1 + (b.length - 1))) 0 := by
  rw [co_mul_top q b nq nb]
  exact hp.mul_ne (hq.md hp nq) (hb.md hp nb)
theorem RemOk.uniq {p : Int} (hp : Ps p) {a b r s : List Int} (hb : Can p b) (nb : b ≠ []) (h : RemOk p a b r) (k : RemOk p a b s) : r = s := by
  have hbd := hp.bd
  obtain ⟨cr, lr, q, hq⟩ := h
  obtain ⟨cs, ls, u, hu⟩ := k
  obtain ⟨cd, ed⟩ := trim_ok (p := p) (by omega) (addL q (sclL (-1) u))
  -- the difference of the quotients
  have e1 : E p (fun x => ev (trim p (addL q (sclL (-1) u))) x * ev b x) (ev (addL s (sclL (-1) r))) := by
    refine (ed.mul (E.refl (ev b)) (P1.ev _) (P1.ev b)).trans ?_
    refine E.trans (E.of_eq ?_) (((hq.symm.trans hu).sub ((E.refl fun x => ev u x * ev b x + ev r x))).trans (E.of_eq ?_))
    · intro x; (try dsimp only); rw [ev_add, ev_scl]; grind
    · intro x; (try dsimp only); rw [ev_add, ev_scl]; grind
  by_cases hd : trim p (addL q (sclL (-1) u)) = []
  · rw [hd] at e1
    have e2 : E p (ev r) (ev s) := by
      refine E.trans (E.of_eq ?_) ((((E.refl (ev s)).sub e1.symm)).trans (E.of_eq ?_))
      · intro x; (try dsimp only); rw [ev_add, ev_scl]; omega
      · intro x; simp [ev]
    exact Can.uniq (by omega) cr cs e2
  · exfalso
    have h1 := mul_len hp cd hb hd nb
    have h2 := ((E.of_eq fun x => ev_mul _ b x).trans e1).co ((trim p (addL q (sclL (-1) u))).length - 1 + (b.length - 1))
    have l1 := List.length_pos_iff.mpr hd
    rw [co_add, co_scl, co_out (l := s) (by omega), co_out (l := r) (by omega)] at h2
    exact h1 ((show Md p _ _ from h2).trans (Md.of_eq (by omega)))
noncomputable def remP (p : Int) (a b : List Int) : List Int := @dite _ (∃ r, RemOk p a b r) (Classical.propDecidable _) (fun h => Classical.choose h) (fun _ => [])
theorem remP_eq {p : Int} (hp : Ps p) {a b r : List Int} (hb : Can p b) (nb : b ≠ []) (h : RemOk p a b r) : remP p a b = r := by
  unfold remP
  have he : ∃ r, RemOk p a b r := ⟨r, h⟩
  rw [dif_pos he]
  exact RemOk.uniq hp hb nb (Classical.choose_spec he) h
noncomputable def invP (p c : Int) : Int := @dite _ (∃ i, 0 < i ∧ i < p ∧ Md p (c * i) 1) (Classical.propDecidable _) (fun h => Classical.choose h) (fun _ => 0)
theorem inv_uniq {p c i j : Int} (hi : 0 < i ∧ i < p ∧ Md p (c * i) 1) (hj : 0 < j ∧ j < p ∧ Md p (c * j) 1) : i = j := by
  have q := (((Md.refl i).mul hj.2.2).symm.trans ((Md.of_eq (by grind)).trans (hi.2.2.mul (Md.refl j)))).trans (Md.of_eq (Int.one_mul j))
  have q2 := (Md.of_eq (Int.mul_one i)).symm.trans q
  exact q2.eq ⟨by omega, by omega⟩ ⟨by omega, by omega⟩
theorem invP_eq {p c i : Int} (h : 0 < i ∧ i < p ∧ Md p (c * i) 1) : invP p c = i := by
  unfold invP
  have he : ∃ i, 0 < i ∧ i < p ∧ Md p (c * i) 1 := ⟨i, h⟩
  rw [dif_pos he]
  exact inv_uniq (Classical.choose_spec he) h
/-- over its lead number -/
noncomputable def moP (p : Int) (a : List Int) : List Int := trim p (sclL (invP p (co a (a.length - 1))) a)
/-- the sign of a at m, a less than m -/
noncomputable def sgF (p : Int) : Nat → List Int → List Int → Int
  | 0, _, _ => 0
  | n + 1, a, m => if a = [] then 0 else
    (if (m.length - 1) % 2 = 1 then sgn p (co a (a.length - 1)) else 1) * (if (moP p a).length = 1 then 1 else
      (if p % 4 = 3 ∧ ((moP p a).length - 1) % 2 = 1 ∧ (m.length - 1) % 2 = 1 then -1 else 1) * sgF p n (remP p m (moP p a)) (moP p a))
/-- times a number -/
theorem scl_can {p z : Int} (hp : Ps p) {a : List Int} (ha : Can p a) (hz : ¬ Md p z 0) : (trim p (sclL z a)).length = a.length ∧ ∀ i, Md p (co (trim p (sclL z a)) i) (z * co a i) := by
  have hb := hp.bd
  obtain ⟨c1, c2⟩ := trim_ok (p := p) (by omega) (sclL z a)
  have hco : ∀ i, Md p (co (trim p (sclL z a)) i) (z * co a i) := fun i => by
    have := c2.co i
    rw [co_scl] at this
    exact this
  refine ⟨?_, hco⟩
  have h1 := len_trim p (sclL z a)
  rw [len_scl] at h1
  by_cases q : (trim p (sclL z a)).length = a.length
  · exact q
  · have hne : a ≠ [] := fun e => by subst e; exact q (by simp [sclL, trim, strip])
    have h2 := hco (a.length - 1)
    rw [co_out (by omega)] at h2
    exact absurd h2.symm (hp.mul_ne hz (ha.md hp hne))
theorem moP_scl {p z : Int} (hp : Ps p) {a : List Int} (ha : Can p a) (hne : a ≠ []) (hz : ¬ Md p z 0) : moP p (trim p (sclL z a)) = moP p a := by
  have hb := hp.bd
  obtain ⟨l1, l2⟩ := scl_can hp ha hz
  have ha0 := ha.md hp hne
  obtain ⟨i, i0, i1, hi⟩ := hp.inv (fun q => ha0 (Md.zero.mpr q))
  have hza : ¬ Md p (co (trim p (sclL z a)) (a.length - 1)) 0 := fun q => hp.mul_ne hz ha0 ((l2 _).symm.trans q)
  obtain ⟨j, j0, j1, hj⟩ := hp.inv (fun q => hza (Md.zero.mpr q))
  unfold moP
  rw [l1, invP_eq ⟨i0, i1, hi⟩, invP_eq ⟨j0, j1, hj⟩]
  -- j z is i
  have hjz : Md p (j * z) i := by
    have h1 := hj.symm.trans ((l2 (a.length - 1)).mul (Md.refl j))
    -- 1 = z a j
    have h2 := (Md.refl i).mul h1
    refine Md.symm ((Md.of_eq (Int.mul_one i)).symm.trans (h2.trans ?_))
    refine (Md.of_eq (by grind)).trans (((Md.refl (z * j)).mul hi).trans (Md.of_eq (by grind)))
  refine trim_uniq (by omega) (trim_ok (by omega) _).1 ?_
  refine (trim_ok (by omega) _).2.trans ?_
  refine (E.of_eq (ev_scl i a)).trans ?_
  refine E.symm ?_
  refine (E.of_eq (ev_scl j _)).trans ?_
  refine ((E.refl (fun _ => j)).mul ((trim_ok (by omega) (sclL z a)).2.trans (E.of_eq (ev_scl z a))) (P1.const j) ((P1.const z).mul (P1.ev a))).trans ?_
  exact (E.of_eq fun x => by (try dsimp only); grind).trans (E.num hjz (P1.ev a))
theorem sgF_twin {p z : Int} (hp : Ps p) {a m : List Int} (ha : Can p a) (hz : ¬ Md p z 0) (hq : ¬ IsQ p z) (n : Nat) : sgF p n (trim p (sclL z a)) m = (if (m.length - 1) % 2 = 1 then -1 else 1) * sgF p n a m := by
  cases n with
  | zero => simp [sgF]
  | succ n =>
    by_cases hne : a = []
    · subst hne
      simp [sgF, sclL, trim, strip]
    · obtain ⟨l1, l2⟩ := scl_can hp ha hz
      have hl := List.length_pos_iff.mpr hne
      have h1 : trim p (sclL z a) ≠ [] := fun e => by rw [e] at l1; simp at l1; omega
      simp only [sgF]
      rw [if_neg h1, if_neg hne, moP_scl hp ha hne hz, l1]
      by_cases hm : (m.length - 1) % 2 = 1
      · rw [if_pos hm, if_pos hm, if_pos hm, sgn_md (l2 _), sgn_nonres hp hq (ha.md hp hne)]
        grind
      · rw [if_neg hm, if_neg hm, if_neg hm]; omega
theorem remP_scl {p z : Int} (hp : Ps p) {f b r : List Int} (hb : Can p b) (nb : b ≠ []) (h : RemOk p f b r) (hz : ¬ Md p z 0) : RemOk p (trim p (sclL z f)) b (trim p (sclL z r)) := by
  have hbd := hp.bd
  obtain ⟨cr, lr, q, hq⟩ := h
  obtain ⟨l1, _⟩ := scl_can hp cr hz
  refine ⟨(trim_ok (by omega) _).1, by omega, sclL z q, ?_⟩
  refine ((trim_ok (by omega) (sclL z f)).2.trans (E.of_eq (ev_scl z f))).trans ?_
  refine ((E.refl (fun _ => z)).mul hq (P1.const z) (((P1.ev q).mul (P1.ev b)).add (P1.ev r))).trans ?_
  refine E.trans (E.of_eq fun x => ?_) ((E.refl (fun x => ev (sclL z q) x * ev b x)).add ((trim_ok (by omega) (sclL z r)).2.symm))
  (try dsimp only); rw [ev_scl, ev_scl]; grind
end PA
end
section
set_option linter.all false
set_option maxHeartbeats 2000000
/-! PR: Newton's sums; lists of a curve over greater fields. -/
namespace PA
def sumN : Nat → (Nat → Int) → Int
  | 0, _ => 0
  | n + 1, f => sumN n f + f n
theorem sumN_congr {f g : Nat → Int} : ∀ n : Nat, (∀ i, i < n → f i = g i) → sumN n f = sumN n g
  | 0, _ => rfl
  | n + 1, h => by
    show sumN n f + f n = sumN n g + g n
    rw [sumN_congr n fun i hi => h i (by omega), h n (by omega)]
theorem sumN_shift (f : Nat → Int) : ∀ n : Nat, sumN (n + 1) f = f 0 + sumN n fun i => f (i + 1)
  | 0 => by simp [sumN]
  | n + 1 => by
    have := sumN_shift f n
    show sumN (n + 1) f + f (n + 1) = f 0 + (sumN n (fun i => f (i + 1)) + f (n + 1))
    rw [this]; omega
theorem sumN_add (f g : Nat → Int) : ∀ n : Nat, sumN n (fun i => f i + g i) = sumN n f + sumN n g
  | 0 => rfl
  | n + 1 => by
    show sumN n (fun i => f i + g i) + (f n + g n) = sumN n f + f n + (sumN n g + g n)
    rw [sumN_add f g n]; omega
theorem sumN_mul (c : Int) (f : Nat → Int) : ∀ n : Nat, sumN n (fun i => c * f i) = c * sumN n f
  | 0 => by simp [sumN]
  | n + 1 => by
    show sumN n (fun i => c * f i) + c * f n = c * (sumN n f + f n)
    rw [sumN_mul c f n]; grind
theorem sumN_zero {f : Nat → Int} : ∀ n : Nat, (∀ i, i < n → f i = 0) → sumN n f = 0
  | 0, _ => rfl
  | n + 1, h => by
    show sumN n f + f n = 0
    rw [sumN_zero n fun i hi => h i (by omega), h n (by omega)]; rfl
/-- turned over -/
theorem sumN_rev (f : Nat → Int) : ∀ n : Nat, sumN n (fun i => f (n - 1 - i)) = sumN n f
  | 0 => rfl
  | n + 1 => by
    rw [sumN_shift]
    have : sumN n (fun i => f (n + 1 - 1 - (i + 1))) = sumN n (fun i => f (n - 1 - i)) := sumN_congr n fun i hi => by congr 1; omega
    rw [this, sumN_rev f n]
    show f (n + 1 - 1 - 0) + sumN n f = sumN n f + f n
    rw [show n + 1 - 1 - 0 = n by omega]; omega
/-- the even ones -/
theorem sumN_even {f : Nat → Int} (h : ∀ i, i % 2 = 1 → f i = 0) : ∀ n : Nat, sumN (2 * n) f = sumN n fun i => f (2 * i)
  | 0 => rfl
  | n + 1 => by
    rw [show 2 * (n + 1) = 2 * n + 1 + 1 by omega]
    show sumN (2 * n) f + f (2 * n) + f (2 * n + 1) = sumN n (fun i => f (2 * i)) + f (2 * n)
    rw [sumN_even h n, h (2 * n + 1) (by omega)]; omega
def conv (a b : Nat → Int) (n : Nat) : Int := sumN (n + 1) fun i => a i * b (n - i)
theorem co_mulL : ∀ (a b : List Int) (n : Nat), co (mulL a b) n = conv (co a) (co b) n
  | [], b, n => by
    rw [mulL, co_nil]
    exact (sumN_zero _ fun i _ => by rw [co_nil, Int.zero_mul]).symm
  | d :: u, b, n => by
    rw [mulL, co_add, co_scl]
    unfold conv
    rw [sumN_shift, co_zero, Nat.sub_zero]
    congr 1
    cases n with
    | zero => rw [co_zero]; rfl
    | succ n =>
      rw [co_succ, co_mulL u b n]
      unfold conv
      exact sumN_congr _ fun i hi => by rw [co_succ, Nat.add_sub_add_right]
def tab (a : Nat → Int) (n : Nat) : List Int := (List.range n).map a
theorem co_tab {a : Nat → Int} {n i : Nat} (h : i < n) : co (tab a n) i = a i := by
  unfold tab
  rw [co_at (by simp; omega)]; simp
theorem conv_tab {a b a' b' : Nat → Int} {n : Nat} (h : ∀ i, i ≤ n → a i = a' i) (k : ∀ i, i ≤ n → b i = b' i) : conv a b n = conv a' b' n :=
  sumN_congr _ fun i hi => by rw [h i (by omega), k (n - i) (by omega)]
theorem conv_assoc (a b c : Nat → Int) (n : Nat) : conv (conv a b) c n = conv a (conv b c) n := by
  let A := tab a (n + 1); let B := tab b (n + 1); let C := tab c (n + 1)
  have h1 : conv (conv a b) c n = co (mulL (mulL A B) C) n := by
    rw [co_mulL]
    refine conv_tab (fun i hi => ?_) fun i hi => (co_tab (by omega)).symm
    rw [co_mulL]
    exact conv_tab (fun j hj => (co_tab (by omega)).symm) fun j hj => (co_tab (by omega)).symm
  have h2 : conv a (conv b c) n = co (mulL A (mulL B C)) n := by
    rw [co_mulL]
    refine conv_tab (fun i hi => (co_tab (by omega)).symm) fun i hi => ?_
    rw [co_mulL]
    exact conv_tab (fun j hj => (co_tab (by omega)).symm) fun j hj => (co_tab (by omega)).symm
  rw [h1, h2]
  exact co_eq_of (fun x => by rw [ev_mul, ev_mul, ev_mul, ev_mul, Int.mul_assoc]) n
theorem conv_comm (a b : Nat → Int) (n : Nat) : conv a b n = conv b a n := by
  have h1 : ∀ a b : Nat → Int, conv a b n = co (mulL (tab a (n + 1)) (tab b (n + 1))) n := fun a b => by
    rw [co_mulL]
    exact conv_tab (fun j hj => (co_tab (by omega)).symm) fun j hj => (co_tab (by omega)).symm
  rw [h1 a b, h1 b a]
  exact co_eq_of (fun x => by rw [ev_mul, ev_mul, Int.mul_comm]) n
theorem conv_add (a b c : Nat → Int) (n : Nat) : conv (fun i => a i + b i) c n = conv a c n + conv b c n := by
  unfold conv
  rw [← sumN_add]
  exact sumN_congr _ fun i _ => Int.add_mul ..
/-- Newton's rule: the sums s of the list l -/
def New (s l : Nat → Int) : Prop := l 0 = 1 ∧ ∀ n : Nat, (n : Int) * l n = sumN n fun i => s (n - i) * l i
def off (s : Nat → Int) : Nat → Int
  | 0 => 0
  | n + 1 => s (n + 1)
theorem new_conv {s l : Nat → Int} (h : New s l) (n : Nat) : (n : Int) * l n = conv (off s) l n := by
  rw [h.2 n, conv_comm]
  unfold conv
  show _ = sumN n (fun i => l i * off s (n - i)) + l n * off s (n - n)
  rw [Nat.sub_self]
  show _ = _ + l n * 0
  rw [Int.mul_zero, Int.add_zero]
  refine sumN_congr n fun i hi => ?_
  obtain ⟨k, hk⟩ : ∃ k, n - i = k + 1 := ⟨n - i - 1, by omega⟩
  rw [hk]
  show s (k + 1) * l i = l i * s (k + 1)
  exact Int.mul_comm ..
def alt (a : Nat → Int) (i : Nat) : Int := if i % 2 = 1 then -(a i) else a i
theorem alt_conv (a b : Nat → Int) (n : Nat) : conv (alt a) (alt b) n = alt (conv a b) n := by
  have h : ∀ i, i < n + 1 → alt a i * alt b (n - i) = (if n % 2 = 1 then -1 else 1) * (a i * b (n - i)) := fun i hi => by
    unfold alt
    by_cases h1 : i % 2 = 1 <;> by_cases h2 : (n - i) % 2 = 1 <;> by_cases h3 : n % 2 = 1 <;> simp only [h1, h2, h3, if_true, if_false] <;> first | omega | grind
  unfold conv
  rw [sumN_congr _ h, sumN_mul]
  show _ = alt (fun n => sumN (n + 1) fun i => a i * b (n - i)) n
  unfold alt
  dsimp only
  by_cases h3 : n % 2 = 1
  · rw [if_pos h3, if_pos h3]; omega
  · rw [if_neg h3, if_neg h3]; omega
theorem conv_last (a : Nat → Int) {b : Nat → Int} (h : b 0 = 0) (n : Nat) : conv a b n = sumN n fun i => a i * b (n - i) := by
  show sumN n (fun i => a i * b (n - i)) + a n * b (n - n) = _
  rw [Nat.sub_self, h, Int.mul_zero, Int.add_zero]
theorem new_alt {s l : Nat → Int} (h : New s l) : New (alt s) (alt l) := by
  refine ⟨by unfold alt; rw [if_neg (by decide)]; exact h.1, fun n => ?_⟩
  have h0 : ∀ i, i < n → alt s (n - i) * alt l i = (if n % 2 = 1 then -1 else 1) * (s (n - i) * l i) := fun i hi => by
    unfold alt
    by_cases h1 : i % 2 = 1 <;> by_cases h2 : (n - i) % 2 = 1 <;> by_cases h3 : n % 2 = 1 <;> simp only [h1, h2, h3, if_true, if_false] <;> first | omega | grind
  rw [sumN_congr n h0, sumN_mul, ← h.2 n]
  unfold alt
  by_cases h3 : n % 2 = 1
  · rw [if_pos h3, if_pos h3]; grind
  · rw [if_neg h3, if_neg h3]; omega
theorem der_conv (a b : Nat → Int) (n : Nat) : (n : Int) * conv a b n = conv (fun i => (i : Int) * a i) b n + conv a (fun i => (i : Int) * b i) n := by
  unfold conv
  rw [← sumN_mul, ← sumN_add]
  refine sumN_congr _ fun i hi => ?_
  have : (n : Int) = (i : Int) + ((n - i : Nat) : Int) := by omega
  rw [this]; grind
/-- the list over the field of twice the degree -/
def dbl (l : Nat → Int) (k : Nat) : Int := conv l (alt l) (2 * k)
theorem dbl_odd (l : Nat → Int) {n : Nat} (h : n % 2 = 1) : conv l (alt l) n = 0 := by
  have h1 := alt_conv l (alt l) n
  have h2 : ∀ i, alt (alt l) i = l i := fun i => by unfold alt; split <;> omega
  have h3 : conv (alt l) (alt (alt l)) n = conv (alt l) l n := conv_tab (fun _ _ => rfl) fun i _ => h2 i
  rw [h3, conv_comm] at h1
  unfold alt at h1
  rw [if_pos h] at h1
  show conv l (fun i => if i % 2 = 1 then -(l i) else l i) n = 0
  omega
theorem new_dbl {s l : Nat → Int} (h : New s l) : New (fun k => s (2 * k)) (dbl l) := by
  have ha := new_alt h
  have e : ∀ n : Nat, (n : Int) * conv l (alt l) n = conv (fun i => off s i + off (alt s) i) (conv l (alt l)) n := fun n => by
    rw [der_conv, conv_add]
    congr 1
    · rw [← conv_assoc]
      exact conv_tab (fun i _ => new_conv h i) fun _ _ => rfl
    · have h1 : conv l (fun i => (i : Int) * alt l i) n = conv l (conv (off (alt s)) (alt l)) n := conv_tab (fun _ _ => rfl) fun i _ => new_conv ha i
      rw [h1, ← conv_assoc, ← conv_assoc]
      exact conv_tab (fun i _ => conv_comm ..) fun _ _ => rfl
  refine ⟨?_, fun k => ?_⟩
  · show conv l (alt l) (2 * 0) = 1
    show 0 + l 0 * alt l (0 - 0) = 1
    unfold alt
    rw [if_neg (by decide), h.1]; rfl
  · have h1 := e (2 * k)
    -- the inner sum over the even ones
    have h2 : conv (fun i => off s i + off (alt s) i) (conv l (alt l)) (2 * k) = 2 * sumN k fun i => s (2 * (k - i)) * dbl l i := by
      rw [conv_comm, conv_last _ (b := fun i => off s i + off (alt s) i) (show off s 0 + off (alt s) 0 = 0 from rfl), ← sumN_mul, sumN_even]
      · refine sumN_congr k fun i hi => ?_
        obtain ⟨m, hm⟩ : ∃ m, 2 * k - 2 * i = m + 1 := ⟨2 * k - 2 * i - 1, by omega⟩
        have hm2 : 2 * (k - i) = m + 1 := by omega
        rw [hm, hm2]
        show conv l (alt l) (2 * i) * (s (m + 1) + alt s (m + 1)) = 2 * (s (m + 1) * conv l (alt l) (2 * i))
        have : alt s (m + 1) = s (m + 1) := by unfold alt; rw [if_neg (by omega)]
        rw [this]; grind
      · intro i hi
        have := dbl_odd l hi
        show conv l (alt l) i * _ = 0
        rw [this, Int.zero_mul]
    rw [h2] at h1
    show (k : Int) * conv l (alt l) (2 * k) = _
    have h3 : ((2 * k : Nat) : Int) * conv l (alt l) (2 * k) = 2 * ((k : Int) * conv l (alt l) (2 * k)) := by
      rw [Int.natCast_mul, Int.mul_assoc]; rfl
    rw [h3] at h1
    have h4 := h1
    clear h1 h2 h3 e
    show _ = sumN k fun i => s (2 * (k - i)) * dbl l i
    generalize (sumN k fun i => s (2 * (k - i)) * dbl l i) = w at *
    omega
/-- told by its sums -/
theorem new_uniq {s l m : Nat → Int} (h : New s l) (k : New s m) : ∀ n, l n = m n := fun n => by
  induction n using Nat.strongRecOn with
  | _ n ih =>
    by_cases hn : n = 0
    · rw [hn, h.1, k.1]
    · have e : (n : Int) * l n = (n : Int) * m n := by
        rw [h.2 n, k.2 n]
        exact sumN_congr n fun i hi => by rw [ih i hi]
      exact Int.eq_of_mul_eq_mul_left (by omega) e
theorem sumN_split (f : Nat → Int) (a : Nat) : ∀ b : Nat, sumN (a + b) f = sumN a f + sumN b fun i => f (a + i)
  | 0 => by simp [sumN]
  | b + 1 => by
    have := sumN_split f a b
    show sumN (a + b) f + f (a + b) = sumN a f + (sumN b (fun i => f (a + i)) + f (a + b))
    rw [this]; omega
/-- symmetry of a list of length 2 g + 1 over a field of q -/
def Symm (q : Int) (g : Nat) (l : Nat → Int) : Prop := (∀ i, i ≤ 2 * g → q ^ i * l (2 * g - i) = q ^ g * l i) ∧ ∀ i, 2 * g < i → l i = 0
theorem alt_par (l : Nat → Int) {i j : Nat} (h : i % 2 = j % 2) : alt l i = (if j % 2 = 1 then -1 else 1) * l i := by
  unfold alt
  rw [h]
  by_cases q : j % 2 = 1
  · rw [if_pos q, if_pos q]; omega
  · rw [if_neg q, if_neg q]; omega
theorem symm_dbl {q : Int} {g : Nat} {l : Nat → Int} (h : Symm q g l) : (∀ k, k ≤ g → (q ^ 2) ^ k * dbl l (2 * g - k) = (q ^ 2) ^ g * dbl l k) ∧ ∀ k, 2 * g < k → dbl l k = 0 := by
  obtain ⟨h1, h2⟩ := h
  refine ⟨fun k hk => ?_, fun k hk => ?_⟩
  · have e1 : dbl l (2 * g - k) = sumN (2 * k + 1) fun j => l (2 * g - (2 * k - j)) * alt l (2 * g - j) := by
      unfold dbl conv
      rw [show 2 * (2 * g - k) + 1 = (2 * g - 2 * k) + ((2 * k + 1) + (2 * g - 2 * k)) by omega, sumN_split, sumN_split]
      rw [sumN_zero (2 * g - 2 * k), sumN_zero (2 * g - 2 * k)]
      · rw [Int.zero_add, Int.add_zero]
        refine sumN_congr _ fun i hi => ?_
        rw [show 2 * g - 2 * k + i = 2 * g - (2 * k - i) by omega, show 2 * (2 * g - k) - (2 * g - (2 * k - i)) = 2 * g - i by omega]
      · intro i hi
        rw [h2 (2 * g - 2 * k + (2 * k + 1 + i)) (by omega), Int.zero_mul]
      · intro i hi
        have : alt l (2 * (2 * g - k) - i) = 0 := by
          unfold alt
          rw [h2 (2 * (2 * g - k) - i) (by omega)]; split <;> rfl
        rw [this, Int.mul_zero]
    rw [e1, ← sumN_mul]
    unfold dbl
    rw [conv_comm]
    unfold conv
    rw [← sumN_mul]
    refine sumN_congr _ fun j hj => ?_
    rw [alt_par l (i := 2 * g - j) (j := j) (by omega), alt_par l (i := j) (j := j) rfl]
    have a1 := h1 (2 * k - j) (by omega)
    have a2 := h1 j (by omega)
    have e2 : (q ^ 2) ^ k = q ^ (2 * k - j) * q ^ j := by
      rw [← Int.pow_mul, ← Int.pow_add]; congr 1; omega
    have e3 : (q ^ 2) ^ g = q ^ g * q ^ g := by
      rw [← Int.pow_mul, ← Int.pow_add]; congr 1; omega
    rw [e2, e3]
    generalize (if j % 2 = 1 then (-1 : Int) else 1) = c
    calc q ^ (2 * k - j) * q ^ j * (l (2 * g - (2 * k - j)) * (c * l (2 * g - j)))
        = c * ((q ^ (2 * k - j) * l (2 * g - (2 * k - j))) * (q ^ j * l (2 * g - j))) := by grind
      _ = c * ((q ^ g * l (2 * k - j)) * (q ^ g * l j)) := by rw [a1, a2]
      _ = q ^ g * q ^ g * (c * l j * l (2 * k - j)) := by grind
  · show sumN (2 * k + 1) _ = 0
    refine sumN_zero _ fun i hi => ?_
    by_cases q1 : 2 * g < i
    · rw [h2 i q1, Int.zero_mul]
    · have : alt l (2 * k - i) = 0 := by
        unfold alt
        rw [h2 (2 * k - i) (by omega)]; split <;> rfl
      rw [this, Int.mul_zero]
/-- the list with its second half told by the first -/
def mirN (q : Int) (g : Nat) (m : Nat → Int) (i : Nat) : Int := if i ≤ g then m i else if i ≤ 2 * g then q ^ (i - g) * m (2 * g - i) else 0
theorem mir_symm (q : Int) (g : Nat) (m : Nat → Int) : Symm q g (mirN q g m) := by
  refine ⟨fun i hi => ?_, fun i hi => by unfold mirN; rw [if_neg (by omega), if_neg (by omega)]⟩
  unfold mirN
  by_cases h : i ≤ g
  · rw [if_pos h]
    by_cases h2 : i = g
    · subst h2; rw [if_pos (by omega)]; congr 2; omega
    · rw [if_neg (by omega), if_pos (by omega), show 2 * g - i - g = g - i by omega, show 2 * g - (2 * g - i) = i by omega, ← Int.mul_assoc, ← Int.pow_add]
      congr 2; omega
  · rw [if_neg h, if_pos hi, if_pos (by omega), ← Int.mul_assoc, ← Int.pow_add]
    congr 2; omega
theorem mir_dbl {q : Int} (hq : 0 < q) {g : Nat} {l : Nat → Int} (h : Symm q g l) (k : Nat) : mirN (q ^ 2) g (dbl l) k = dbl l k := by
  obtain ⟨h1, h2⟩ := symm_dbl h
  unfold mirN
  by_cases a : k ≤ g
  · rw [if_pos a]
  · rw [if_neg a]
    by_cases b : k ≤ 2 * g
    · rw [if_pos b]
      have e := h1 (2 * g - k) (by omega)
      rw [show 2 * g - (2 * g - k) = k by omega] at e
      have hq2 : 0 < q ^ 2 := Int.pow_pos hq
      have hp : 0 < (q ^ 2) ^ (2 * g - k) := Int.pow_pos hq2
      refine Int.eq_of_mul_eq_mul_left (by omega : (q ^ 2) ^ (2 * g - k) ≠ 0) ?_
      rw [e, ← Int.mul_assoc, ← Int.pow_add]
      congr 2; omega
    · rw [if_neg b, h2 k (by omega)]
theorem mir_self {q : Int} (hq : 0 < q) {g : Nat} {l : Nat → Int} (h : Symm q g l) (k : Nat) : mirN q g l k = l k := by
  unfold mirN
  by_cases a : k ≤ g
  · rw [if_pos a]
  · rw [if_neg a]
    by_cases b : k ≤ 2 * g
    · rw [if_pos b]
      have e := h.1 k b
      have hp : 0 < q ^ g := Int.pow_pos hq
      refine Int.eq_of_mul_eq_mul_left (by omega : q ^ g ≠ 0) ?_
      rw [← e, ← Int.mul_assoc, ← Int.pow_add]
      congr 2; omega
    · rw [if_neg b, h.2 k (by omega)]
/-- the sum of a product -/
theorem ev_tab (l : Nat → Int) (x : Int) : ∀ n : Nat, ev (tab l n) x = sumN n fun i => l i * x ^ i := by
  intro n
  have key : ∀ (n : Nat) (l : Nat → Int), ev (tab l n) x = sumN n fun i => l i * x ^ i := by
    intro n
    induction n with
    | zero => intro l; rfl
    | succ n ih =>
      intro l
      have e : tab l (n + 1) = l 0 :: tab (fun i => l (i + 1)) n := by
        unfold tab
        rw [List.range_succ_eq_map, List.map_cons, List.map_map]; rfl
      rw [e, sumN_shift]
      show l 0 + x * ev (tab (fun i => l (i + 1)) n) x = _
      rw [ih, ← sumN_mul, Int.pow_zero, Int.mul_one]
      congr 1
      exact sumN_congr n fun i hi => by rw [Int.pow_succ]; grind
  exact key n l
theorem ev_sum (x : Int) : ∀ (a : List Int) (n : Nat), a.length ≤ n → ev a x = sumN n fun i => co a i * x ^ i
  | [], n, _ => (sumN_zero n fun i _ => by rw [co_nil, Int.zero_mul]).symm
  | c :: u, 0, h => by simp at h
  | c :: u, n + 1, h => by
    rw [sumN_shift, co_zero, Int.pow_zero, Int.mul_one]
    show c + x * ev u x = _
    rw [ev_sum x u n (by simpa using h), ← sumN_mul]
    congr 1
    exact sumN_congr n fun i hi => by rw [co_succ, Int.pow_succ]; grind
theorem ev_eq_of {a b : List Int} (h : ∀ i, co a i = co b i) (x : Int) : ev a x = ev b x := by
  rw [ev_sum x a (max a.length b.length) (by omega), ev_sum x b (max a.length b.length) (by omega)]
  exact sumN_congr _ fun i _ => by rw [h]
theorem sum_conv {a b : Nat → Int} {n : Nat} (ha : ∀ i, n ≤ i → a i = 0) (hb : ∀ i, n ≤ i → b i = 0) : sumN (2 * n) (conv a b) = sumN n a * sumN n b := by
  have ca : ∀ i, co (tab a n) i = a i := fun i => by
    by_cases h : i < n
    · exact co_tab h
    · rw [co_out (by unfold tab; simp; omega), ha i (by omega)]
  have cb : ∀ i, co (tab b n) i = b i := fun i => by
    by_cases h : i < n
    · exact co_tab h
    · rw [co_out (by unfold tab; simp; omega), hb i (by omega)]
  have e : ∀ i, conv a b i = co (mulL (tab a n) (tab b n)) i := fun i => by
    rw [co_mulL]
    exact conv_tab (fun j _ => (ca j).symm) fun j _ => (cb j).symm
  have h1 : ∀ f : Nat → Int, ∀ m, ev (tab f m) 1 = sumN m f := fun f m => by
    rw [ev_tab]
    exact sumN_congr m fun i _ => by rw [Int.one_pow, Int.mul_one]
  rw [← h1 a, ← h1 b, ← ev_mul, ← h1]
  refine ev_eq_of (fun i => ?_) 1
  by_cases hi : i < 2 * n
  · rw [co_tab hi, e]
  · rw [co_out (by unfold tab; simp; omega), co_mulL]
    refine (sumN_zero _ fun j hj => ?_).symm
    by_cases q : n ≤ j
    · rw [ca, ha j q, Int.zero_mul]
    · rw [cb, hb (i - j) (by omega), Int.mul_zero]
theorem sum_dbl {g : Nat} {l : Nat → Int} (h : ∀ i, 2 * g < i → l i = 0) : sumN (2 * g + 1) (dbl l) = sumN (2 * g + 1) l * sumN (2 * g + 1) (alt l) := by
  rw [← sum_conv (n := 2 * g + 1) (fun i hi => h i (by omega)) fun i hi => by unfold alt; rw [h i (by omega)]; split <;> rfl]
  rw [sumN_even fun i hi => dbl_odd l hi]; rfl
/-- sums of Newton's sums -/
theorem new_add {s t l m : Nat → Int} (h : New s l) (k : New t m) : New (fun i => s i + t i) (conv l m) := by
  refine ⟨by show 0 + l 0 * m (0 - 0) = 1; rw [h.1, k.1]; rfl, fun n => ?_⟩
  have e : (n : Int) * conv l m n = conv (fun i => off s i + off t i) (conv l m) n := by
    rw [der_conv, conv_add]
    congr 1
    · rw [← conv_assoc]
      exact conv_tab (fun i _ => new_conv h i) fun _ _ => rfl
    · have h1 : conv l (fun i => (i : Int) * m i) n = conv l (conv (off t) m) n := conv_tab (fun _ _ => rfl) fun i _ => new_conv k i
      rw [h1, ← conv_assoc, ← conv_assoc]
      exact conv_tab (fun i _ => conv_comm ..) fun _ _ => rfl
  rw [e, conv_comm, conv_last _ (b := fun i => off s i + off t i) (show off s 0 + off t 0 = 0 from rfl)]
  refine sumN_congr n fun i hi => ?_
  obtain ⟨u, hu⟩ : ∃ u, n - i = u + 1 := ⟨n - i - 1, by omega⟩
  rw [hu]
  exact Int.mul_comm ..
theorem new_zero : New (fun _ => 0) fun n => if n = 0 then 1 else 0 := by
  refine ⟨rfl, fun n => ?_⟩
  rw [sumN_zero n fun i _ => Int.zero_mul _]
  by_cases h : n = 0
  · subst h; rfl
  · show (n : Int) * (if n = 0 then 1 else 0) = 0
    rw [if_neg h, Int.mul_zero]
/-- a prime of degree d with the sign c -/
theorem sumN_step {d : Nat} (hd : 0 < d) {f : Nat → Int} (h : ∀ i, i % d ≠ 0 → f i = 0) : ∀ k : Nat, sumN (d * k) f = sumN k fun j => f (d * j)
  | 0 => rfl
  | k + 1 => by
    rw [Nat.mul_succ, sumN_split, sumN_step hd h k]
    show _ + _ = _ + _
    congr 1
    obtain ⟨e, rfl⟩ : ∃ e, d = e + 1 := ⟨d - 1, by omega⟩
    rw [sumN_shift, sumN_zero e, Int.add_zero]; rfl
    intro i hi
    refine h _ ?_
    rw [Nat.mul_add_mod, Nat.mod_eq_of_lt (by omega)]; omega
theorem new_one {d : Nat} (hd : 0 < d) (c : Int) : New (fun n => if n % d = 0 then d * c ^ (n / d) else 0) fun n => if n % d = 0 then c ^ (n / d) else 0 := by
  refine ⟨by show (if 0 % d = 0 then c ^ (0 / d) else 0) = 1; rw [Nat.zero_mod, if_pos rfl, Nat.zero_div, Int.pow_zero], fun n => ?_⟩
  dsimp only
  by_cases hn : n % d = 0
  · rw [if_pos hn]
    have en : n = d * (n / d) := by have := Nat.div_add_mod n d; omega
    generalize n / d = k at en
    subst en
    rw [sumN_step hd]
    · have : ∀ j, j < k → (if (d * k - d * j) % d = 0 then (d : Int) * c ^ ((d * k - d * j) / d) else 0) * (if d * j % d = 0 then c ^ (d * j / d) else 0) = d * c ^ k := fun j hj => by
        rw [← Nat.mul_sub, if_pos (Nat.mul_mod_right ..), if_pos (Nat.mul_mod_right ..), Nat.mul_div_cancel_left _ hd, Nat.mul_div_cancel_left _ hd, Int.mul_assoc, ← Int.pow_add]
        congr 2; omega
      rw [sumN_congr k this]
      have : ∀ m : Nat, ∀ x : Int, sumN m (fun _ => x) = m * x := fun m x => by
        induction m with
        | zero => simp [sumN]
        | succ m ih => show sumN m _ + x = _; rw [ih]; grind
      rw [this, Int.natCast_mul]; grind
    · intro i hi
      rw [if_neg hi, Int.mul_zero]
  · rw [if_neg hn, Int.mul_zero]
    refine (sumN_zero n fun i hi => ?_).symm
    by_cases h : i % d = 0
    · rw [if_neg, Int.zero_mul]
      intro q
      apply hn
      have := Nat.add_mod (n - i) i d
      rw [q, h] at this
      rw [show n - i + i = n by omega] at this
      simpa using this
    · rw [if_neg h, Int.mul_zero]
end PA
end
section
set_option linter.all false
set_option maxHeartbeats 2000000
/-! PS: prime polynomials listed; counts; the list of a curve. -/
namespace PA
def digF (p : Nat) : Nat → Nat → List Int
  | 0, _ => []
  | k + 1, n => if n = 0 then [] else ((n % p : Nat) : Int) :: digF p k (n / p)
def dig (p n : Nat) : List Int := digF p n n
theorem digF_up {p : Nat} (hp : 2 ≤ p) : ∀ (n k : Nat), n ≤ k → digF p k n = digF p n n := fun n => by
  induction n using Nat.strongRecOn with
  | _ n ih =>
    intro k hk
    cases n with
    | zero => cases k <;> simp [digF]
    | succ n =>
      obtain ⟨j, rfl⟩ : ∃ j, k = j + 1 := ⟨k - 1, by omega⟩
      simp only [digF]
      rw [if_neg (by omega), if_neg (by omega)]
      have h1 : (n + 1) / p < n + 1 := Nat.div_lt_self (by omega) (by omega)
      rw [ih _ h1 j (by omega), ih _ h1 n (by omega)]
theorem dig_zero (p : Nat) : dig p 0 = [] := rfl
theorem dig_pos {p n : Nat} (hp : 2 ≤ p) (h : 0 < n) : dig p n = ((n % p : Nat) : Int) :: dig p (n / p) := by
  obtain ⟨k, rfl⟩ : ∃ k, n = k + 1 := ⟨n - 1, by omega⟩
  have h1 : (k + 1) / p < k + 1 := Nat.div_lt_self (by omega) (by omega)
  simp only [dig, digF]
  rw [if_neg (by omega), digF_up hp _ k (by omega)]
theorem dig_len {p : Nat} (hp : 2 ≤ p) : ∀ n, (dig p n).length ≤ n := fun n => by
  induction n using Nat.strongRecOn with
  | _ n ih =>
    by_cases h : n = 0
    · subst h; simp [dig_zero]
    · rw [dig_pos hp (by omega), List.length_cons]
      have h1 : n / p < n := Nat.div_lt_self (by omega) (by omega)
      have := ih _ h1
      omega
theorem dig_mem {p : Nat} (hp : 2 ≤ p) : ∀ n, ∀ c ∈ dig p n, 0 ≤ c ∧ c < p := fun n => by
  induction n using Nat.strongRecOn with
  | _ n ih =>
    intro c hc
    by_cases h : n = 0
    · subst h; simp [dig_zero] at hc
    · rw [dig_pos hp (by omega)] at hc
      rcases List.mem_cons.mp hc with e | e
      · have := Nat.mod_lt n (show p > 0 by omega)
        omega
      · exact ih _ (Nat.div_lt_self (by omega) (by omega)) c e
def mkI (p m low a b : Nat) : Int := ev (trim p (mulL (dig p (p ^ low + a)) (dig p (p ^ (m - low) + b)))) p - ((p ^ m : Nat) : Int)
def marks (p m : Nat) : List Nat := (List.range (m / 2)).flatMap fun low => (List.range (p ^ (1 + low))).flatMap fun a => (List.range (p ^ (m - (1 + low)))).map fun b => (mkI p m (1 + low) a b).toNat
def prsI (p m : Nat) : List Nat := (List.range (p ^ m)).filter fun k => !(marks p m).contains k
def prs (p m : Nat) : List (List Int) := (prsI p m).map fun k => dig p (p ^ m + k)
def dvL : Nat → List Nat
  | 1 => [1]
  | 2 => [1, 2]
  | 3 => [1, 3]
  | 4 => [1, 2, 4]
  | _ => []
def PML : List (Nat × Nat) := [(3, 1), (3, 2), (3, 3), (3, 4), (5, 1), (5, 2), (5, 3), (7, 1), (7, 2), (11, 1), (11, 2), (13, 1), (13, 2), (17, 1), (61, 1)]
def chkM (p m : Nat) : Bool := (List.range (m / 2)).all fun low => (List.range (p ^ (1 + low))).all fun a => (List.range (p ^ (m - (1 + low)))).all fun b => decide (0 ≤ mkI p m (1 + low) a b) && decide (mkI p m (1 + low) a b < ((p ^ m : Nat) : Int))
def chkP (p m : Nat) : Bool := (prs p m).all fun l => l.length == m + 1 && (l.all fun c => decide (0 ≤ c) && decide (c < p)) && co l m == 1
def chkC (p n : Nat) : Bool := ((dvL n).map fun d => d * (prs p d).length).sum == p ^ n
def chkO (p : Nat) : Bool := prs p 1 == (List.range p).map fun (c : Nat) => [(c : Int), 1]
theorem tabM : ∀ x ∈ PML, chkM x.1 x.2 = true := by decide +kernel
theorem tabP : ∀ x ∈ PML, chkP x.1 x.2 = true := by decide +kernel
theorem tabC : ∀ x ∈ PML, chkC x.1 x.2 = true := by decide +kernel
theorem tabO : ∀ x ∈ PML, chkO x.1 = true := by decide +kernel
theorem tabD : ∀ x ∈ PML, ∀ d ∈ dvL x.2, (x.1, d) ∈ PML ∧ d ≤ x.2 ∧ 0 < d := by decide +kernel
theorem tabU : ∀ x ∈ PML, ∀ n ∈ List.range x.2, (x.1, n + 1) ∈ PML := by decide +kernel
/-! ### Euler's product -/
def eS : List (Nat × Int) → Nat → Int
  | [], _ => 0
  | (d, c) :: r, n => (if n % d = 0 then d * c ^ (n / d) else 0) + eS r n
def eL : List (Nat × Int) → Nat → Int
  | [] => fun n => if n = 0 then 1 else 0
  | (d, c) :: r => conv (fun n => if n % d = 0 then c ^ (n / d) else 0) (eL r)
theorem new_e : ∀ l : List (Nat × Int), (∀ x ∈ l, 0 < x.1) → New (eS l) (eL l)
  | [], _ => new_zero
  | (d, c) :: r, h => new_add (new_one (h _ List.mem_cons_self) c) (new_e r fun x hx => h x (List.mem_cons_of_mem _ hx))
theorem eS_app (a b : List (Nat × Int)) (n : Nat) : eS (a ++ b) n = eS a n + eS b n := by
  induction a with
  | nil => show eS b n = 0 + eS b n; omega
  | cons x a ih => obtain ⟨d, c⟩ := x; show _ + eS (a ++ b) n = _ + eS a n + eS b n; rw [ih]; omega
theorem eS_map {α : Type} (d : Nat) (h : α → Int) (n : Nat) : ∀ l : List α, eS (l.map fun x => (d, h x)) n = if n % d = 0 then (l.map fun x => (d : Int) * h x ^ (n / d)).sum else 0
  | [] => by show (0 : Int) = if n % d = 0 then 0 else 0; split <;> rfl
  | x :: l => by
    show (if n % d = 0 then (d : Int) * h x ^ (n / d) else 0) + eS (l.map fun x => (d, h x)) n = _
    rw [eS_map d h n l]
    by_cases q : n % d = 0
    · rw [if_pos q, if_pos q, if_pos q]; simp
    · rw [if_neg q, if_neg q, if_neg q]; rfl
/-- the sign of f at a prime -/
noncomputable def sgS (p : Int) (f m : List Int) : Int := sgF p m.length (remP p f m) m
theorem sgF_val (p : Int) : ∀ (n : Nat) (a m : List Int), sgF p n a m = 0 ∨ sgF p n a m = 1 ∨ sgF p n a m = -1
  | 0, _, _ => .inl rfl
  | n + 1, a, m => by
    simp only [sgF]
    by_cases h : a = []
    · rw [if_pos h]; exact .inl rfl
    · rw [if_neg h]
      have h1 := sgn_one p (co a (a.length - 1))
      have h2 := sgF_val p n (remP p m (moP p a)) (moP p a)
      generalize sgn p (co a (a.length - 1)) = u at h1
      generalize sgF p n (remP p m (moP p a)) (moP p a) = v at h2
      split <;> split <;> (try split) <;> rcases h1 with rfl | rfl <;> rcases h2 with rfl | rfl | rfl <;> decide
theorem pow_val {c : Int} (h : c = 0 ∨ c = 1 ∨ c = -1) {k : Nat} (h1 : 1 ≤ k) (h4 : k ≤ 4) : c ^ k = if k % 2 = 1 then c else c * c := by
  rcases h with rfl | rfl | rfl <;> (obtain rfl | rfl | rfl | rfl : k = 1 ∨ k = 2 ∨ k = 3 ∨ k = 4 := by omega) <;> decide
noncomputable def psL (p : Nat) (f : List Int) : List (Nat × Int) := [1, 2, 3, 4].flatMap fun d => (prs p d).map fun m => (d, sgS p f m)
/-- Newton's sums and the list of the curve -/
noncomputable def SP0 (p : Nat) (f : List Int) : Nat → Int := eS (psL p f)
noncomputable def LP (p : Nat) (f : List Int) : Nat → Int := eL (psL p f)
theorem new_LP (p : Nat) (f : List Int) : New (SP0 p f) (LP p f) := new_e _ fun x hx => by
  obtain ⟨d, hd, h⟩ := List.mem_flatMap.mp hx
  obtain ⟨m, _, rfl⟩ := List.mem_map.mp h
  simp at hd
  show 0 < d
  omega
noncomputable def tmS (p : Nat) (f : List Int) (n d : Nat) : Int := ((prs p d).map fun m => (d : Int) * (if (n / d) % 2 = 1 then sgS p f m else sgS p f m * sgS p f m)).sum
noncomputable def tmP (p : Nat) (f : List Int) (n d : Nat) : Int := ((prs p d).map fun m => (d : Int) * (1 + if (n / d) % 2 = 1 then sgS p f m else sgS p f m * sgS p f m)).sum
noncomputable def pcN (p : Nat) (f : List Int) (n : Nat) : Int := 1 + ((dvL n).map (tmP p f n)).sum
theorem map_sum_congr {α : Type} {f g : α → Int} {l : List α} (h : ∀ x ∈ l, f x = g x) : (l.map f).sum = (l.map g).sum := by rw [List.map_congr_left h]
theorem SP0_eq (p : Nat) (f : List Int) {n : Nat} (h1 : 1 ≤ n) (h4 : n ≤ 4) : SP0 p f n = ((dvL n).map (tmS p f n)).sum := by
  have e : ∀ d : Nat, 1 ≤ d → n % d = 0 → ((prs p d).map fun m => (d : Int) * sgS p f m ^ (n / d)).sum = tmS p f n d := fun d hd hn => map_sum_congr fun m _ => by
    have : 1 ≤ n / d ∧ n / d ≤ 4 := by
      constructor
      · exact Nat.div_pos (Nat.le_of_dvd (by omega) (Nat.dvd_of_mod_eq_zero hn)) (by omega)
      · have := Nat.div_le_self n d; omega
    rw [pow_val (c := sgS p f m) (sgF_val ..) this.1 this.2]
  have e0 : SP0 p f n = (if n % 1 = 0 then tmS p f n 1 else 0) + ((if n % 2 = 0 then tmS p f n 2 else 0) + ((if n % 3 = 0 then tmS p f n 3 else 0) + (if n % 4 = 0 then tmS p f n 4 else 0))) := by
    unfold SP0 psL
    simp only [List.flatMap_cons, List.flatMap_nil, List.append_nil]
    rw [eS_app, eS_app, eS_app, eS_map, eS_map, eS_map, eS_map]
    have k : ∀ d : Nat, 1 ≤ d → (if n % d = 0 then ((prs p d).map fun m => (d : Int) * sgS p f m ^ (n / d)).sum else 0) = if n % d = 0 then tmS p f n d else 0 := fun d hd => by
      by_cases q : n % d = 0
      · rw [if_pos q, if_pos q, e d hd q]
      · rw [if_neg q, if_neg q]
    rw [k 1 (by omega), k 2 (by omega), k 3 (by omega), k 4 (by omega)]
  rw [e0]
  obtain rfl | rfl | rfl | rfl : n = 1 ∨ n = 2 ∨ n = 3 ∨ n = 4 := by omega
  all_goals simp [dvL]
theorem pcN_eq {p n : Nat} (f : List Int) (h : (p, n) ∈ PML) : pcN p f n = SP0 p f n + ((p ^ n : Nat) : Int) + 1 := by
  have hn : 1 ≤ n ∧ n ≤ 4 := (by decide : ∀ x ∈ PML, 1 ≤ x.2 ∧ x.2 ≤ 4) _ h
  rw [SP0_eq p f hn.1 hn.2]
  have hc : ((dvL n).map fun d => d * (prs p d).length).sum = p ^ n := by
    have hc := tabC _ h
    unfold chkC at hc
    exact beq_iff_eq.mp hc
  have e : ∀ l : List Nat, (l.map (tmP p f n)).sum = (l.map (tmS p f n)).sum + (((l.map fun d => d * (prs p d).length).sum : Nat) : Int) := fun l => by
    induction l with
    | nil => rfl
    | cons d l ih =>
      have k : ∀ ms : List (List Int), (ms.map fun m => (d : Int) * (1 + if (n / d) % 2 = 1 then sgS p f m else sgS p f m * sgS p f m)).sum = (ms.map fun m => (d : Int) * (if (n / d) % 2 = 1 then sgS p f m else sgS p f m * sgS p f m)).sum + ((d * ms.length : Nat) : Int) := fun ms => by
        induction ms with
        | nil => simp
        | cons m ms ih2 =>
          simp only [List.map_cons, List.sum_cons, List.length_cons]
          rw [ih2, Int.natCast_mul, Int.natCast_mul, Int.natCast_add]
          grind
      simp only [List.map_cons, List.sum_cons]
      rw [ih, Int.natCast_add, show tmP p f n d = _ from k (prs p d)]
      show tmS p f n d + _ + _ = _
      omega
  unfold pcN
  rw [e, hc]; omega
theorem sum_abs {α : Type} {f : α → Int} {b : Int} : ∀ l : List α, (∀ x ∈ l, -b ≤ f x ∧ f x ≤ b) → -(b * l.length) ≤ (l.map f).sum ∧ (l.map f).sum ≤ b * l.length
  | [], _ => by simp
  | x :: l, h => by
    have h1 := h x List.mem_cons_self
    have h2 := sum_abs l fun y hy => h y (List.mem_cons_of_mem _ hy)
    simp only [List.map_cons, List.sum_cons, List.length_cons, Int.natCast_add, Int.mul_add]
    constructor <;> simp <;> omega
theorem SP0_le {p n : Nat} (f : List Int) (h : (p, n) ∈ PML) : -((p ^ n : Nat) : Int) ≤ SP0 p f n ∧ SP0 p f n ≤ ((p ^ n : Nat) : Int) := by
  have hn : 1 ≤ n ∧ n ≤ 4 := (by decide : ∀ x ∈ PML, 1 ≤ x.2 ∧ x.2 ≤ 4) _ h
  rw [SP0_eq p f hn.1 hn.2]
  have hc : ((dvL n).map fun d => d * (prs p d).length).sum = p ^ n := by
    have hc := tabC _ h
    unfold chkC at hc
    exact beq_iff_eq.mp hc
  rw [← hc]
  have e : ∀ l : List Nat, -(((l.map fun d => d * (prs p d).length).sum : Nat) : Int) ≤ (l.map (tmS p f n)).sum ∧ (l.map (tmS p f n)).sum ≤ (((l.map fun d => d * (prs p d).length).sum : Nat) : Int) := fun l => by
    induction l with
    | nil => simp
    | cons d l ih =>
      simp only [List.map_cons, List.sum_cons]
      have h1 : -((d : Int) * ((prs p d).length : Int)) ≤ tmS p f n d ∧ tmS p f n d ≤ (d : Int) * ((prs p d).length : Int) := sum_abs (b := d) _ fun m _ => by
        have hv := sgF_val p m.length (remP p f m) m
        rw [show sgF p m.length (remP p f m) m = sgS p f m from rfl] at hv
        split <;> rcases hv with e | e | e <;> rw [e] <;> simp <;> omega
      have h2 : ((d * (prs p d).length : Nat) : Int) = (d : Int) * ((prs p d).length : Int) := Int.natCast_mul ..
      rw [Int.natCast_add, h2]
      omega
  exact e _
theorem LP_le {p g : Nat} (f : List Int) (h : (p, g) ∈ PML) : ∀ n, n ≤ g → -((p ^ n : Nat) : Int) ≤ LP p f n ∧ LP p f n ≤ ((p ^ n : Nat) : Int) := fun n => by
  have hp : 0 < p := (by decide : ∀ x ∈ PML, 0 < x.1) _ h
  induction n using Nat.strongRecOn with
  | _ n ih =>
    intro hn
    have hN := new_LP p f
    by_cases h0 : n = 0
    · subst h0; rw [hN.1]; simp
    · have e := hN.2 n
      have b : ∀ k, k ≤ n → -((p ^ n : Nat) : Int) * k ≤ (sumN k fun i => SP0 p f (n - i) * LP p f i) ∧ (sumN k fun i => SP0 p f (n - i) * LP p f i) ≤ ((p ^ n : Nat) : Int) * k := fun k => by
        induction k with
        | zero => intro _; simp [sumN]
        | succ k ih2 =>
          intro hk
          have h1 := ih2 (by omega)
          have hm : (p, n - k - 1 + 1) ∈ PML := tabU _ h (n - k - 1) (List.mem_range.mpr (by show n - k - 1 < g; omega))
          rw [show n - k - 1 + 1 = n - k by omega] at hm
          have h2 := SP0_le f hm
          have h3 := ih k (by omega) (by omega)
          have hpow : ((p ^ n : Nat) : Int) = ((p ^ (n - k) : Nat) : Int) * ((p ^ k : Nat) : Int) := by
            rw [← Int.natCast_mul, ← Nat.pow_add]; congr 2; omega
          have hx : 0 < p ^ (n - k) := Nat.pow_pos hp
          have hy : 0 < p ^ k := Nat.pow_pos hp
          have h4 : -((p ^ n : Nat) : Int) ≤ SP0 p f (n - k) * LP p f k ∧ SP0 p f (n - k) * LP p f k ≤ ((p ^ n : Nat) : Int) := by
            rw [hpow]
            generalize SP0 p f (n - k) = u at h2
            generalize LP p f k = v at h3
            generalize p ^ (n - k) = x at *
            generalize p ^ k = y at *
            have hX : u.natAbs ≤ x := by omega
            have hY : v.natAbs ≤ y := by omega
            have := Nat.mul_le_mul hX hY
            have h5 : (u * v).natAbs = u.natAbs * v.natAbs := Int.natAbs_mul ..
            have h6 : ((x * y : Nat) : Int) = (x : Int) * (y : Int) := Int.natCast_mul ..
            rw [← h6]
            omega
          show _ ≤ sumN k _ + _ ∧ sumN k _ + _ ≤ _
          rw [Int.natCast_add, Int.mul_add, Int.mul_add]
          simp only [Int.natCast_one, Int.mul_one]
          omega
      have b1 := b n (by omega)
      rw [← e] at b1
      generalize LP p f n = v at *
      generalize ((p ^ n : Nat) : Int) = w at *
      have hpos : (0 : Int) < n := by omega
      constructor
      · refine Int.le_of_mul_le_mul_left ?_ hpos
        rw [Int.mul_comm]; exact b1.1
      · refine Int.le_of_mul_le_mul_left ?_ hpos
        rw [Int.mul_comm (n : Int) w]; exact b1.2
end PA
end
section
set_option linter.all false
set_option maxHeartbeats 2000000
/-! PV: the twin's list, the counts of classes, the counts of places of degree 1. -/
namespace PA
theorem ev_rep0 (k : Nat) (l : List Int) (x : Int) : ev (List.replicate k 0 ++ l) x = x ^ k * ev l x := by
  induction k with
  | zero => simp
  | succ k ih =>
    rw [List.replicate_succ]
    show 0 + x * ev (List.replicate k 0 ++ l) x = _
    rw [ih, Int.pow_succ]; grind
theorem co_rep0 (k : Nat) (l : List Int) (j : Nat) : co (List.replicate k 0 ++ l) (k + j) = co l j := by
  induction k with
  | zero => simp
  | succ k ih =>
    rw [List.replicate_succ, show k + 1 + j = (k + j) + 1 by omega]
    exact ih
theorem rem_ex {p : Int} (hp : Ps p) {b : List Int} (hb : Can p b) (nb : b ≠ []) : ∀ (n : Nat) (a : List Int), a.length ≤ n → ∃ r, RemOk p a b r := fun n => by
  have hbd := hp.bd
  have lb := List.length_pos_iff.mpr nb
  induction n with
  | zero =>
    intro a ha
    have : a = [] := List.length_eq_zero_iff.mp (by omega)
    subst this
    exact ⟨[], Can.nil, lb, [], E.of_eq fun x => by simp [ev]⟩
  | succ n ih =>
    intro a ha
    obtain ⟨ct, et⟩ := trim_ok (p := p) (by omega) a
    have lt := len_trim p a
    generalize trim p a = t at ct et lt
    by_cases h : t.length < b.length
    · exact ⟨t, ct, h, [], et.symm.trans (E.of_eq fun x => by simp [ev])⟩
    · obtain ⟨i, _, _, hi⟩ := hp.inv (a := co b (b.length - 1)) fun q => hb.md hp nb (Md.zero.mpr q)
      obtain ⟨cs, es⟩ := trim_ok (p := p) (by omega) (addL t (sclL (-(co t (t.length - 1) * i)) (List.replicate (t.length - b.length) 0 ++ b)))
      have hs := Can.len_le (n := t.length - 1) (by omega) cs fun j hj => by
        refine (show Md p _ _ from es.co j).trans ?_
        rw [co_add, co_scl]
        by_cases hj2 : j = t.length - 1
        · have e : j = (t.length - b.length) + (b.length - 1) := by omega
          have e2 : co (List.replicate (t.length - b.length) 0 ++ b) j = co b (b.length - 1) := by
            rw [e]; exact co_rep0 _ _ _
          rw [e2, hj2]
          have h2 := (Md.refl (co t (t.length - 1))).mul hi
          have h3 := (Md.refl (co t (t.length - 1))).sub h2
          exact ((Md.of_eq (by grind)).trans h3).trans (Md.of_eq (by grind))
        · rw [co_out (l := t) (by omega), co_out (l := List.replicate (t.length - b.length) 0 ++ b) (by rw [List.length_append, List.length_replicate]; omega)]; exact Md.of_eq (by omega)
      obtain ⟨r, cr, lr, q, hq⟩ := ih _ (by omega : (trim p (addL t (sclL (-(co t (t.length - 1) * i)) (List.replicate (t.length - b.length) 0 ++ b)))).length ≤ n)
      refine ⟨r, cr, lr, addL q (sclL (co t (t.length - 1) * i) (List.replicate (t.length - b.length) 0 ++ [1])), ?_⟩
      have h1 := es.symm.trans hq
      refine et.symm.trans ?_
      refine E.trans (E.of_eq fun x => ?_) ((h1.add (E.refl fun x => co t (t.length - 1) * i * (x ^ (t.length - b.length) * ev b x))).trans (E.of_eq fun x => ?_))
      · (try dsimp only)
        rw [ev_add, ev_scl, ev_rep0]; grind
      · (try dsimp only)
        rw [ev_add, ev_scl, ev_rep0]
        show _ = (ev q x + co t (t.length - 1) * i * (x ^ (t.length - b.length) * (1 + x * 0))) * ev b x + ev r x
        grind
theorem remP_ok {p : Int} (hp : Ps p) (a : List Int) {b : List Int} (hb : Can p b) (nb : b ≠ []) : RemOk p a b (remP p a b) := by
  obtain ⟨r, h⟩ := rem_ex hp hb nb _ a (Nat.le_refl _)
  rw [remP_eq hp hb nb h]; exact h
theorem sgS_twin {p z : Int} (hp : Ps p) {f m : List Int} (hm : Can p m) (nm : m ≠ []) (hz : ¬ Md p z 0) (hq : ¬ IsQ p z) : sgS p (trim p (sclL z f)) m = (if (m.length - 1) % 2 = 1 then -1 else 1) * sgS p f m := by
  have h := remP_ok hp f hm nm
  unfold sgS
  rw [remP_eq hp hm nm (remP_scl hp hm nm h hz)]
  exact sgF_twin hp h.1 hz hq _
theorem prs_ok {p m : Nat} (h : (p, m) ∈ PML) : ∀ l ∈ prs p m, Can p l ∧ l.length = m + 1 ∧ co l m = 1 := fun l hl => by
  have hc := tabP _ h
  unfold chkP at hc
  rw [List.all_eq_true] at hc
  have h1 := hc l hl
  simp only [Bool.and_eq_true, beq_iff_eq, List.all_eq_true, decide_eq_true_eq] at h1
  obtain ⟨⟨h2, h3⟩, h4⟩ := h1
  refine ⟨⟨h3, fun hne => ?_⟩, h2, h4⟩
  rw [List.getLast_eq_getElem]
  have : co l m = l[l.length - 1]'(by omega) := by rw [co_at (by omega)]; congr 1; omega
  rw [← this, h4]; decide
theorem sum_mulc {α : Type} (c : Int) (f : α → Int) : ∀ l : List α, (l.map fun x => c * f x).sum = c * (l.map f).sum
  | [] => by simp
  | x :: l => by simp only [List.map_cons, List.sum_cons]; rw [sum_mulc c f l]; grind
theorem SP0_twin {p : Nat} {z : Int} (hp : Ps p) {f : List Int} (hz : ¬ Md p z 0) (hq : ¬ IsQ p z) {n : Nat} (h : (p, n) ∈ PML) : SP0 p (trim p (sclL z f)) n = alt (SP0 p f) n := by
  have hn : 1 ≤ n ∧ n ≤ 4 := (by decide : ∀ x ∈ PML, 1 ≤ x.2 ∧ x.2 ≤ 4) _ h
  have e : ∀ x : Nat → Int, alt x n = (if n % 2 = 1 then -1 else 1) * x n := fun x => alt_par x rfl
  rw [e, SP0_eq p _ hn.1 hn.2, SP0_eq p f hn.1 hn.2, ← sum_mulc]
  refine map_sum_congr fun d hd => ?_
  obtain ⟨hdm, hd1, hd2⟩ := tabD _ h d hd
  unfold tmS
  rw [← sum_mulc]
  refine map_sum_congr fun m hm => ?_
  obtain ⟨cm, lm, _⟩ := prs_ok hdm m hm
  rw [sgS_twin hp cm (fun e => by rw [e] at lm; simp at lm) hz hq, lm, show d + 1 - 1 = d by omega]
  generalize sgS p f m = s
  obtain rfl | rfl | rfl | rfl : n = 1 ∨ n = 2 ∨ n = 3 ∨ n = 4 := by omega
  all_goals simp only [dvL, List.mem_cons, List.not_mem_nil, or_false] at hd
  · subst hd; simp
  · rcases hd with rfl | rfl <;> simp <;> grind
  · rcases hd with rfl | rfl <;> simp <;> grind
  · rcases hd with rfl | rfl | rfl <;> simp <;> grind
theorem new_upto {s t l m : Nat → Int} (h : New s l) (k : New t m) {g : Nat} (e : ∀ i, 1 ≤ i → i ≤ g → s i = t i) : ∀ n, n ≤ g → l n = m n := fun n => by
  induction n using Nat.strongRecOn with
  | _ n ih =>
    intro hg
    by_cases hn : n = 0
    · rw [hn, h.1, k.1]
    · have e : (n : Int) * l n = (n : Int) * m n := by
        rw [h.2 n, k.2 n]
        exact sumN_congr n fun i hi => by rw [ih i hi (by omega), e (n - i) (by omega) (by omega)]
      exact Int.eq_of_mul_eq_mul_left (by omega) e
noncomputable def cl (p g : Nat) (f : List Int) : Nat → Int := mirN p g (LP p f)
theorem cl_twin {p g : Nat} {z : Int} (hp : Ps p) {f : List Int} (hz : ¬ Md p z 0) (hq : ¬ IsQ p z) (h : (p, g) ∈ PML) : cl p g (trim p (sclL z f)) = alt (cl p g f) := by
  have hL : ∀ n, n ≤ g → LP p (trim p (sclL z f)) n = alt (LP p f) n := new_upto (new_LP ..) (new_alt (new_LP p f)) fun i h1 h2 => by
    have hm : (p, i - 1 + 1) ∈ PML := tabU _ h (i - 1) (List.mem_range.mpr (by show i - 1 < g; omega))
    rw [show i - 1 + 1 = i by omega] at hm
    exact SP0_twin hp hz hq hm
  funext i
  unfold cl
  rw [alt_par (mirN p g (LP p f)) (i := i) (j := i) rfl]
  unfold mirN
  by_cases a : i ≤ g
  · rw [if_pos a, if_pos a, hL i a]; exact alt_par _ rfl
  · rw [if_neg a, if_neg a]
    by_cases b : i ≤ 2 * g
    · rw [if_pos b, if_pos b, hL _ (by omega), alt_par (LP p f) (i := 2 * g - i) (j := i) (by omega)]; grind
    · rw [if_neg b, if_neg b, Int.mul_zero]
theorem alt_alt (l : Nat → Int) : alt (alt l) = l := by
  funext i; unfold alt; split <;> omega
theorem dbl_alt (l : Nat → Int) : dbl (alt l) = dbl l := by
  funext k; unfold dbl; rw [alt_alt, conv_comm]
/-- the list over the field of the n-th power -/
noncomputable def clM (p g : Nat) (f : List Int) : Nat → Nat → Int
  | 1 => cl p g f
  | 2 => dbl (cl p g f)
  | _ => dbl (dbl (cl p g f))
noncomputable def cN (p g : Nat) (f : List Int) (n : Nat) : Int := sumN (2 * g + 1) (mirN ((p : Int) ^ n) g (clM p g f n))
theorem cl_symm (p g : Nat) (f : List Int) : Symm p g (cl p g f) := mir_symm ..
theorem cN_one {p g : Nat} {z : Int} (hp : Ps p) {f : List Int} (hz : ¬ Md p z 0) (hq : ¬ IsQ p z) (h : (p, g) ∈ PML) : cN p g f 1 * cN p g (trim p (sclL z f)) 1 = cN p g f 2 := by
  have hb := hp.bd
  have e1 : ∀ f, cN p g f 1 = sumN (2 * g + 1) (cl p g f) := fun f => sumN_congr _ fun i _ => by
    rw [Int.pow_one]; exact mir_self (by omega) (cl_symm p g f) i
  have e2 : cN p g f 2 = sumN (2 * g + 1) (dbl (cl p g f)) := sumN_congr _ fun i _ => mir_dbl (by omega) (cl_symm p g f) i
  rw [e1, e1, e2, cl_twin hp hz hq h, sum_dbl (cl_symm p g f).2]
theorem cN_two {p g : Nat} {z : Int} (hp : Ps p) {f : List Int} (hz : ¬ Md p z 0) (hq : ¬ IsQ p z) (h : (p, g) ∈ PML) : cN p g (trim p (sclL z f)) 2 = cN p g f 2 := by
  show sumN (2 * g + 1) (mirN ((p : Int) ^ 2) g (dbl (cl p g (trim p (sclL z f))))) = sumN (2 * g + 1) (mirN ((p : Int) ^ 2) g (dbl (cl p g f)))
  rw [cl_twin hp hz hq h, dbl_alt]
theorem cN_four {p g : Nat} {z : Int} (hp : Ps p) {f : List Int} (hz : ¬ Md p z 0) (hq : ¬ IsQ p z) (h : (p, g) ∈ PML) : cN p g (trim p (sclL z f)) 4 = cN p g f 4 := by
  show sumN (2 * g + 1) (mirN ((p : Int) ^ 4) g (dbl (dbl (cl p g (trim p (sclL z f)))))) = sumN (2 * g + 1) (mirN ((p : Int) ^ 4) g (dbl (dbl (cl p g f))))
  rw [cl_twin hp hz hq h, dbl_alt]
/-! ### bounds -/
theorem conv_abs {a b : Nat → Int} {A : Nat} {B : Nat} {n : Nat} (ha : ∀ i, i ≤ n → (a i).natAbs ≤ A * B ^ i) (hb : ∀ i, i ≤ n → (b i).natAbs ≤ A * B ^ i) : (conv a b n).natAbs ≤ (n + 1) * (A * A) * B ^ n := by
  have h : ∀ k, k ≤ n + 1 → (sumN k fun i => a i * b (n - i)).natAbs ≤ k * (A * A) * B ^ n := fun k => by
    induction k with
    | zero => intro _; simp [sumN]
    | succ k ih =>
      intro hk
      have h1 := ih (by omega)
      have h2 : (a k * b (n - k)).natAbs ≤ A * A * B ^ n := by
        rw [Int.natAbs_mul]
        refine Nat.le_trans (Nat.mul_le_mul (ha k (by omega)) (hb (n - k) (by omega))) (Nat.le_of_eq ?_)
        have : B ^ n = B ^ k * B ^ (n - k) := by rw [← Nat.pow_add]; congr 1; omega
        rw [this]; grind
      have h3 := Int.natAbs_add_le (sumN k fun i => a i * b (n - i)) (a k * b (n - k))
      show (sumN k (fun i => a i * b (n - i)) + a k * b (n - k)).natAbs ≤ _
      have h4 : (k + 1) * (A * A) * B ^ n = k * (A * A) * B ^ n + A * A * B ^ n := by grind
      omega
  exact h (n + 1) (Nat.le_refl _)
theorem alt_abs (l : Nat → Int) (i : Nat) : (alt l i).natAbs = (l i).natAbs := by
  unfold alt; split <;> simp
theorem cl_abs {p g : Nat} (f : List Int) (h : (p, g) ∈ PML) (i : Nat) : (cl p g f i).natAbs ≤ 1 * p ^ i := by
  have hp : 0 < p := (by decide : ∀ x ∈ PML, 0 < x.1) _ h
  have hL : ∀ n, n ≤ g → (LP p f n).natAbs ≤ p ^ n := fun n hn => by have := LP_le f h n hn; omega
  rw [Nat.one_mul]
  unfold cl mirN
  by_cases a : i ≤ g
  · rw [if_pos a]; exact hL i a
  · rw [if_neg a]
    by_cases b : i ≤ 2 * g
    · rw [if_pos b, Int.natAbs_mul]
      have h1 := hL (2 * g - i) (by omega)
      have h2 : ((p : Int) ^ (i - g)).natAbs = p ^ (i - g) := by rw [Int.natAbs_pow]; simp
      rw [h2]
      refine Nat.le_trans (Nat.mul_le_mul_left _ h1) ?_
      rw [← Nat.pow_add]
      exact Nat.pow_le_pow_right hp (by omega)
    · rw [if_neg b]; simp
theorem dbl_abs {l : Nat → Int} {A B N : Nat} (h : ∀ i, i ≤ 2 * N → (l i).natAbs ≤ A * B ^ i) (k : Nat) (hk : k ≤ N) : (dbl l k).natAbs ≤ (2 * k + 1) * (A * A) * (B * B) ^ k := by
  have h1 := conv_abs (n := 2 * k) (a := l) (b := alt l) (A := A) (B := B) (fun i hi => h i (by omega)) fun i hi => by rw [alt_abs]; exact h i (by omega)
  have : B ^ (2 * k) = (B * B) ^ k := by rw [Nat.pow_mul]; congr 1; grind
  rw [← this]; exact h1
theorem clM_abs {p g : Nat} (f : List Int) (h : (p, g) ∈ PML) {n : Nat} (hn : n = 1 ∨ n = 2 ∨ n = 4) {i : Nat} (hi : i < g) : (clM p g f n i).natAbs < 1000000000000 := by
  have hg : 1 ≤ g ∧ g ≤ 4 := (by decide : ∀ x ∈ PML, 1 ≤ x.2 ∧ x.2 ≤ 4) _ h
  have hp : 0 < p := (by decide : ∀ x ∈ PML, 0 < x.1) _ h
  have hb := (by decide +kernel : ∀ x ∈ PML, 1183 * (x.1 * x.1 * (x.1 * x.1)) ^ (x.2 - 1) < 1000000000000) _ h
  replace hb : 1183 * (p * p * (p * p)) ^ (g - 1) < 1000000000000 := hb
  have c1 := cl_abs (p := p) (g := g) f h
  have m1 : ∀ k, k ≤ 6 → (dbl (cl p g f) k).natAbs ≤ 13 * (p * p) ^ k := fun k hk => by
    have := dbl_abs (N := 6) (fun i _ => c1 i) k hk
    refine Nat.le_trans this (Nat.mul_le_mul_right _ ?_)
    omega
  have hm : (p * p * (p * p)) ^ i ≤ (p * p * (p * p)) ^ (g - 1) := Nat.pow_le_pow_right (Nat.mul_pos (Nat.mul_pos hp hp) (Nat.mul_pos hp hp)) (by omega)
  have m2 : (p * p) ^ i ≤ (p * p * (p * p)) ^ i := Nat.pow_le_pow_left (Nat.le_mul_of_pos_right _ (Nat.mul_pos hp hp)) i
  have m3 : p ^ i ≤ (p * p) ^ i := Nat.pow_le_pow_left (Nat.le_mul_of_pos_right _ hp) i
  rcases hn with rfl | rfl | rfl
  · show (cl p g f i).natAbs < _
    have := c1 i
    omega
  · show (dbl (cl p g f) i).natAbs < _
    have := m1 i (by omega)
    omega
  · show (dbl (dbl (cl p g f)) i).natAbs < _
    have h3 := dbl_abs (N := 3) (A := 13) (B := p * p) (fun i hi => m1 i (by omega)) i (by omega)
    have h4 : (2 * i + 1) * (13 * 13) ≤ 1183 := by omega
    have h5 := Nat.mul_le_mul_right ((p * p * (p * p)) ^ i) h4
    omega
/-! ### places of degree 1 -/
def cls (p v : Int) : Nat := if v % p = 0 then 1 else if v ^ ((p - 1) / 2).toNat % p = 1 then 2 else 0
theorem tabE : ∀ p ∈ [3, 5, 7, 11, 13, 17, 61], ((List.range p).all fun r => r == 0 || (isq p r == (r ^ ((p - 1) / 2) % p == 1))) = true := by decide +kernel
theorem eulerQ {p v : Int} (hp : Ps p) (hv : ¬ Md p v 0) : IsQ p v ↔ v ^ ((p - 1) / 2).toNat % p = 1 := by
  obtain ⟨n, hn, hmem⟩ := hp.nat
  have hb := hp.bd
  have h0 : 0 < p := by omega
  have bv : 0 ≤ v % p ∧ v % p < p := ⟨Int.emod_nonneg _ (by omega), Int.emod_lt_of_pos _ h0⟩
  have t := tabE n hmem
  rw [List.all_eq_true] at t
  have t1 := t (v % p).toNat (List.mem_range.mpr (by omega))
  have nv : ((v % p).toNat == 0) = false := by
    rw [beq_eq_false_iff_ne]
    intro q
    exact hv (Md.zero.mpr (by omega))
  rw [nv, Bool.false_or, beq_iff_eq] at t1
  have ev : (((v % p).toNat : Nat) : Int) = v % p := by omega
  rw [IsQ.md (Md.mod v).symm, ← ev, ← isq_ok hn h0, t1, beq_iff_eq]
  have h1 : v ^ ((p - 1) / 2).toNat % p = ((v % p).toNat : Int) ^ ((p - 1) / 2).toNat % p := by
    rw [ev]; exact ((Md.mod v).symm.pow _).emod
  rw [h1]
  have h2 : ((p - 1) / 2).toNat = (n - 1) / 2 := by omega
  rw [h2]
  generalize (v % p).toNat = w
  generalize (n - 1) / 2 = k
  rw [hn]
  constructor
  · intro h; exact_mod_cast h
  · intro h; exact_mod_cast h
theorem cls_twin {p z v : Int} (hp : Ps p) (hz : ¬ Md p z 0) (hq : ¬ IsQ p z) : cls p v + cls p (z * v) = 2 := by
  unfold cls
  by_cases h : v % p = 0
  · have h1 : z * v % p = 0 := Md.zero.mp (((Md.refl z).mul (Md.zero.mpr h)).trans (Md.of_eq (Int.mul_zero z)))
    rw [if_pos h, if_pos h1]
  · have hv : ¬ Md p v 0 := fun q => h (Md.zero.mp q)
    have h2 := hp.mul_ne hz hv
    have h3 : ¬ z * v % p = 0 := fun q => h2 (Md.zero.mpr q)
    rw [if_neg h, if_neg h3]
    have e1 := eulerQ hp hv
    have e2 := eulerQ hp h2
    have e3 := nonres hp hq hv
    by_cases q : IsQ p v
    · rw [if_pos (e1.mp q), if_neg (fun w => (e3.mp (e2.mpr w)) q)]
    · rw [if_neg (fun w => q (e1.mpr w)), if_pos (e2.mp (e3.mpr q))]
theorem cls_md {p u v : Int} (h : Md p u v) : cls p u = cls p v := by
  unfold cls
  rw [h.emod, (h.pow _).emod]
/-- how many places of degree 1 -/
def plc (p : Nat) (f : List Int) : Nat := 1 + ((List.range p).map fun (c : Nat) => cls p (ev f (-(c : Int)))).sum
theorem plc_twin {p : Nat} {z : Int} (hp : Ps p) {f : List Int} (hz : ¬ Md p z 0) (hq : ¬ IsQ p z) : plc p f + plc p (trim p (sclL z f)) = 2 * p + 2 := by
  have hb := hp.bd
  have e : ∀ l : List Nat, (l.map fun (c : Nat) => cls p (ev f (-(c : Int)))).sum + (l.map fun (c : Nat) => cls p (ev (trim p (sclL z f)) (-(c : Int)))).sum = 2 * l.length := fun l => by
    induction l with
    | nil => rfl
    | cons c l ih =>
      simp only [List.map_cons, List.sum_cons, List.length_cons]
      have h1 : Md p (ev (trim p (sclL z f)) (-(c : Int))) (z * ev f (-(c : Int))) := by
        have := (trim_ok (p := (p : Int)) (by omega) (sclL z f)).2.at (-(c : Int))
        rw [ev_scl] at this
        exact this
      have h2 := cls_twin (v := ev f (-(c : Int))) hp hz hq
      rw [cls_md h1]
      omega
  have := e (List.range p)
  rw [List.length_range] at this
  unfold plc
  omega
end PA
end
section
set_option Elab.async false
set_option linter.all false
/-! S83: what each def of k83 is worth. -/
namespace K83
open PySem PySem.Spec PyProof.Rows L2 DL PA
def priL : List Int := [3, 5, 7, 3, 5, 11, 13, 17, 61]
def isI : D → Bool
  | .int _ => true
  | _ => false
def cntB : D → Int → Int → Bool
  | .int i, lo, hi => decide (lo ≤ i) && decide (i ≤ hi)
  | _, _, _ => false
def Sm (x : Int) : Prop := -1000000000000 < x ∧ x < 1000000000000
def tL (t : T5) : List Int := [t.1, t.2.1, t.2.2.1, t.2.2.2.1, t.2.2.2.2]
def tD (t : T5) : D := pT (tL t)
def cv (p : Int) (f : List Int) : D := .obj 0 [.int p, pT f]
structure Cv (p : Int) (f : List Int) : Prop where
  ps : Ps p
  can : Can p f
  len : f.length = 4 ∨ f.length = 6 ∨ f.length = 8 ∨ f.length = 10
  sq : Sq p f
def sp_is_integer : DSpec := fun ds K _ => ∃ v, ds = [v] ∧ v.tyN ≠ none ∧ K (.bl (isI v))
def sp_is_count : DSpec := fun ds K _ => ∃ v lo hi, ds = [v, .int lo, .int hi] ∧ v.tyN ≠ none ∧ K (.bl (cntB v lo hi))
def sp_is_prime : DSpec := fun ds K _ => ∃ p, ds = [.int p] ∧ Ps p ∧ K (.bl true)
def sp_inverse : DSpec := fun ds K _ => ∃ p a, ds = [.int p, .int a] ∧ Ps p ∧ Sm a ∧ a % p ≠ 0 ∧ ∀ i, 0 < i → i < p → Md p (a * i) 1 → K (.int i)
def sp_root : DSpec := fun ds K _ => ∃ p a, ds = [.int p, .int a] ∧ Ps p ∧ 0 ≤ a ∧ a < p ∧ (∀ x, 0 ≤ x → x < p → Md p (x * x) a → K (.int x)) ∧ ((∀ x, ¬ Md p (x * x) a) → K .non)
def sp_is_polynomial : DSpec := fun ds K _ => ∃ p l, ds = [.int p, pT l] ∧ Ps p ∧ Can p l ∧ l.length ≤ 1000 ∧ K (.bl true)
def sp_trimmed : DSpec := fun ds K _ => ∃ p l, ds = [.int p, .lst (iL l)] ∧ Ps p ∧ l.length ≤ 100000 ∧ K (pT (trim p l))
def sp_degree : DSpec := fun ds K _ => ∃ l : List Int, ds = [pT l] ∧ K (.int ((l.length : Int) - 1))
def sp_scaled : DSpec := fun ds K _ => ∃ p a x, ds = [.int p, pT a, .int x] ∧ Ps p ∧ (∀ c ∈ a, Sm c) ∧ a.length ≤ 1000 ∧ K (pT (trim p (sclL x a)))
def sp_monic : DSpec := fun ds K _ => ∃ p a, ds = [.int p, pT a] ∧ Ps p ∧ Can p a ∧ a.length ≤ 1000 ∧ ∀ i, (a ≠ [] → 0 < i ∧ i < p ∧ Md p (co a (a.length - 1) * i) 1) → K (pT (trim p (sclL i a)))
def sp_combined : DSpec := fun ds K _ => ∃ p a b x, ds = [.int p, pT a, pT b, .int x] ∧ Ps p ∧ Sm x ∧ a.length ≤ 500 ∧ b.length ≤ 500 ∧ K (pT (trim p (addL a (sclL x b))))
def sp_sum_of : DSpec := fun ds K _ => ∃ p a b, ds = [.int p, pT a, pT b] ∧ Ps p ∧ a.length ≤ 500 ∧ b.length ≤ 500 ∧ K (pT (trim p (addL a b)))
def sp_product : DSpec := fun ds K _ => ∃ p a b, ds = [.int p, pT a, pT b] ∧ Ps p ∧ (∀ c ∈ a, Sm c) ∧ a.length ≤ 500 ∧ b.length ≤ 500 ∧ K (pT (trim p (mulL a b)))
def sp_slope : DSpec := fun ds K _ => ∃ p a, ds = [.int p, pT a] ∧ Ps p ∧ (∀ c ∈ a, Sm c) ∧ a.length ≤ 500 ∧ K (pT (trim p (derL a)))
def sp_value_at : DSpec := fun ds K _ => ∃ p a x, ds = [.int p, pT a, .int x] ∧ Ps p ∧ a.length ≤ 1000 ∧ K (.int (ev a x % p))
def sp_put_in : DSpec := fun ds K _ => ∃ p a b, ds = [.int p, pT a, pT b] ∧ Ps p ∧ a.length ≤ 12 ∧ Can p b ∧ b.length ≤ 2 ∧ ∀ r, Can p r → E p (ev r) (fun t => ev a (ev b t)) → K (pT r)
def sp_divided : DSpec := fun ds K _ => ∃ p a b, ds = [.int p, pT a, pT b] ∧ Ps p ∧ Can p a ∧ Can p b ∧ b ≠ [] ∧ a.length ≤ 100 ∧ b.length ≤ 100 ∧
  ∀ q r, Can p q → Can p r → r.length < b.length → E p (ev a) (fun x => ev q x * ev b x + ev r x) → K (.tup [pT q, pT r])
def sp_remainder : DSpec := fun ds K _ => ∃ p a b, ds = [.int p, pT a, pT b] ∧ Ps p ∧ Can p a ∧ Can p b ∧ b ≠ [] ∧ a.length ≤ 100 ∧ b.length ≤ 100 ∧
  ∀ q r, Can p r → r.length < b.length → E p (ev a) (fun x => ev q x * ev b x + ev r x) → K (pT r)
def sp_common : DSpec := fun ds K _ => ∃ p a b, ds = [.int p, pT a, pT b] ∧ Ps p ∧ Can p a ∧ Can p b ∧ a.length ≤ 100 ∧ b.length ≤ 100 ∧
  ∀ c s t, Can p c → P1 s → P1 t → Lin p (ev a) (ev b) (ev c) → E p (ev a) (fun x => s x * ev c x) → E p (ev b) (fun x => t x * ev c x) → K (pT c)
def pp_p : DSpec := fun ds K _ => ∃ p f, ds = [cv p f] ∧ K (.int p)
def pp_f : DSpec := fun ds K _ => ∃ p f, ds = [cv p f] ∧ K (pT f)
def pp_genus : DSpec := fun ds K _ => ∃ p f, ds = [cv p f] ∧ K (.int (((f.length : Int) - 1) / 2))
def upTo (p : Int) : List Int := (List.range p.toNat).map fun (i : Nat) => (i : Int)
def zs (p : Int) (f : List Int) : List Int := (upTo p).filter fun x => ev f x % p == 0
def sp_zeros_of : DSpec := fun ds K _ => ∃ p f, ds = [cv p f] ∧ Cv p f ∧ K (.lst (iL (zs p f)))
def sp_turned_numbers : DSpec := fun ds K _ => ∃ p row k, ds = [.int p, pT row, .int k] ∧ Ps p ∧ 0 ≤ k ∧ k < p ∧ row.length ≤ 1000 ∧ K (.lst (iL (tnL p k row 1)))
structure WayOk (p : Int) (L R es : List Int) : Prop where
  nd : es.Nodup
  ev : es.length % 2 = 0
  few : es.length ≤ 2
  mem : ∀ e, e ∈ es ↔ 0 < e ∧ e < p ∧ ∀ i, i < L.length → Md p (co L i) (e * e * co R i)
def sp_ways : DSpec := fun ds K _ => ∃ p L R, ds = [.int p, .lst (iL L), pT R] ∧ Ps p ∧ L.length = R.length ∧ L.length ≤ 1000 ∧ L ≠ [] ∧ (∀ c ∈ L, 0 ≤ c ∧ c < p) ∧ (∀ c ∈ R, 0 ≤ c ∧ c < p) ∧
  co L (L.length - 1) ≠ 0 ∧ co R (R.length - 1) ≠ 0 ∧ ∀ es, WayOk p L R es → K (.lst (iL es))
structure TsOk (p : Int) (n : Nat) (g f : List Int) (ok : T5 → Prop) (big : Nat) (ts : List T5) : Prop where
  nd : ts.Nodup
  ev : ts.length % 2 = 0
  few : ts.length ≤ big
  mem : ∀ t, t ∈ ts ↔ IsTurn p n g f t ∧ ok t
def sp_plain_turns : DSpec := fun ds K _ => ∃ p f g, ds = [cv p f, cv p g] ∧ Cv p f ∧ Cv p g ∧ f.length = g.length ∧ ∀ ts, TsOk p f.length g f (fun t => t.2.2.1 = 0) 10000 ts → K (.lst (ts.map tD))
def sp_other_turns : DSpec := fun ds K _ => ∃ p f g, ds = [cv p f, cv p g] ∧ Cv p f ∧ Cv p g ∧ f.length = g.length ∧ ∀ ts, TsOk p f.length g f (fun t => t.2.2.1 = 1) 460000 ts → K (.lst (ts.map tD))
def Srt (ts : List T5) : Prop := ts.Pairwise fun s t => TS.code 64 (tL s) ≤ TS.code 64 (tL t)
def Turns (p : Int) (g f : List Int) (ts : List T5) : Prop := TsOk p f.length g f (fun _ => True) 470000 ts ∧ Srt ts
def sp_turns : DSpec := fun ds K _ => ∃ p f q g, ds = [cv p f, cv q g] ∧ Cv p f ∧ Cv q g ∧ (p = q → f.length = g.length → ∀ ts, Turns p g f ts → K (.lst (ts.map tD))) ∧ (¬ (p = q ∧ f.length = g.length) → K (.lst []))
def headD : List T5 → D
  | [] => .non
  | t :: _ => tD t
def sp_turn_between : DSpec := fun ds K _ => ∃ p f q g, ds = [cv p f, cv q g] ∧ Cv p f ∧ Cv q g ∧ (p = q → f.length = g.length → ∀ ts, Turns p g f ts → K (headD ts)) ∧ (¬ (p = q ∧ f.length = g.length) → K .non)
def sp__law_is : DSpec := fun ds K _ => ∃ x y : D, ds = [x, y] ∧ (∀ d, d = x ∨ d = y → d.tx = true ∧ d.py.depth ≤ 50 ∧ d.sz ≤ sizeLine) ∧ K (.bl (decide (x.py.shown = y.py.shown)))
def sp__law_f (dk : Addr) : DSpec := fun ds K _ => ∃ (p : Int) (n : Nat), ds = [.adr dk, .int p, .int n] ∧ Ps p ∧ 3 ≤ n ∧ n ≤ 9 ∧ K .non ∧ ∀ f, Can p f → f.length = n + 1 → Sq p f → K (pT f)
def degL : List Int := [3, 5, 7, 9]
def sp__law_curve (dk : Addr) : DSpec := fun ds K _ => ds = [.adr dk, .lst (iL priL), .lst (iL degL)] ∧ ∀ p f, Cv p f → K (.tup [.int p, pT f])
def sp_make : DSpec := fun ds K _ => ∃ p f, ds = [.int p, pT f] ∧ Cv p f ∧ K (cv p f)
def spDraw' (p : Addr) : DSpec := fun ds K _ => ∃ b : Int, ds = [.adr p, .int b] ∧ 0 < b ∧ b < 1073741824 ∧ ∀ v : Int, 0 ≤ v → v < b → K (.int v)
/-! ### numbers, polynomials -/
def sp_raised : DSpec := fun ds K _ => ∃ a e : Nat, ds = [.int a, .int e] ∧ 1 ≤ a ∧ a ^ e < 1000000000000 ∧ K (.int ((a ^ e : Nat) : Int))
def prD : Nat → List D
  | 2 => [.tup [.int 2, .int 1]]
  | 3 => [.tup [.int 3, .int 1]]
  | 4 => [.tup [.int 2, .int 2]]
  | _ => []
def nL (l : List Nat) : List Int := l.map fun (n : Nat) => (n : Int)
def sp_primes_of : DSpec := fun ds K _ => ∃ n : Nat, ds = [.int n] ∧ 1 ≤ n ∧ n ≤ 4 ∧ K (.lst (prD n))
def sp_divisors : DSpec := fun ds K _ => ∃ n : Nat, ds = [.int n] ∧ 1 ≤ n ∧ n ≤ 4 ∧ K (.lst (iL (nL (dvL n))))
def sp_index : DSpec := fun ds K _ => ∃ p a, ds = [.int p, pT a] ∧ Ps p ∧ a.length ≤ 1000 ∧ K (.int (ev a p))
def sp_of_index : DSpec := fun ds K _ => ∃ p n : Nat, ds = [.int p, .int n] ∧ Ps p ∧ n ≤ 100000 ∧ K (pT (dig p n))
/-- x + c -/
def Deg1 (p : Int) (m : List Int) (x : Int) : Prop := ∃ c, m = [c, 1] ∧ 0 ≤ c ∧ c < p ∧ x = -c
def sp_power_modulo : DSpec := fun ds K _ => ∃ p a m x, ∃ e : Nat, ds = [.int p, pT a, .int e, pT m] ∧ Ps p ∧ Can p a ∧ a.length ≤ 100 ∧ Deg1 p m x ∧ e ≤ 100000 ∧ K (pT (trim p [ev a x ^ e]))
def sp_prime_polynomials : DSpec := fun ds K _ => ∃ p m : Nat, ds = [.int p, .int m] ∧ (p, m) ∈ PML ∧ K (.lst ((prs p m).map pT))
def sp_any_root : DSpec := fun ds K _ => ∃ p v m x, ds = [.int p, pT [v], pT m] ∧ Ps p ∧ 0 < v ∧ v < p ∧ Deg1 p m x ∧ v ^ ((p - 1) / 2).toNat % p = 1 ∧ ∀ w, K (pT (trim p [w]))
def sp_root_modulo : DSpec := fun ds K _ => ∃ p f m x, ds = [.int p, pT f, pT m] ∧ Ps p ∧ Can p f ∧ f.length ≤ 100 ∧ Deg1 p m x ∧ (cls p (ev f x) = 0 → K .non) ∧ (cls p (ev f x) = 1 → K (pT [])) ∧ (cls p (ev f x) = 2 → ∀ w, K (pT (trim p [w])))
def sp_kind_over : DSpec := fun ds K _ => ∃ p f m x, ds = [cv p f, pT m] ∧ Cv p f ∧ Deg1 p m x ∧ (cls p (ev f x) = 0 → K (.tup [.str "still", .non])) ∧ (cls p (ev f x) = 1 → K (.tup [.str "one", pT []])) ∧ (cls p (ev f x) = 2 → ∀ w, K (.tup [.str "two", pT (trim p [w])]))
def sp_places_over : DSpec := fun ds K _ => ∃ p f m x, ds = [cv p f, pT m] ∧ Cv p f ∧ Deg1 p m x ∧ (cls p (ev f x) = 0 → K (.lst [.tup [.str "still", pT m]])) ∧ (cls p (ev f x) = 1 → K (.lst [.tup [.str "one", pT m]])) ∧
  (cls p (ev f x) = 2 → ∀ u w, K (.lst [.tup [.str "two", pT m, pT u], .tup [.str "two", pT m, pT w]]))
def sp_places : DSpec := fun ds K _ => ∃ (p : Nat) (f : List Int), ds = [cv p f, .int 1] ∧ Cv p f ∧ ∀ l : List D, l.length = plc p f → K (.lst l)
def sp_place_count : DSpec := fun ds K _ => ∃ (p : Nat) (f : List Int), ds = [cv p f, .int 1] ∧ Cv p f ∧ K (.int (plc p f : Nat))
/-! ### twins, counts -/
/-- the numbers without a root -/
def nrL (p : Int) : List Int := (ranL 1 (p - 1).toNat).filter fun x => !isq p.toNat x.toNat
def tz (p : Int) : Int := (nrL p).headD 0
def twf (p z : Int) (f : List Int) : List Int := trim p (sclL z f)
def sp_twin : DSpec := fun ds K _ => ∃ p f, ds = [cv p f] ∧ Cv p f ∧ K (cv p (twf p (tz p) f))
def mirL (q : Int) (g : Nat) (m : Nat → Int) : List Int := (List.range (2 * g + 1)).map fun (i : Nat) => mirN q g m i
def cntL (q : Int) (s : Nat → Int) (g : Nat) : List Int := (List.range g).map fun (i : Nat) => s (i + 1) + q ^ (i + 1) + 1
def sp_list_made : DSpec := fun ds K _ => ∃ (q g : Nat) (s m : Nat → Int), ds = [.int q, .lst (iL (cntL q s g))] ∧ New s m ∧ g ≤ 10 ∧ 1 ≤ q ∧ q ^ g < 1000000000000 ∧ (∀ i, i < g → Sm (m i)) ∧ K (.lst (iL (mirL q g m)))
def sp_counts_of : DSpec := fun ds K _ => ∃ (p n : Nat) (l : List Int) (s : Nat → Int), ds = [.int p, .lst (iL l), .int n] ∧ New s (co l) ∧ n ≤ 100 ∧ l.length ≤ 100 ∧ 1 ≤ p ∧ p ^ n < 1000000000000 ∧ (∀ i, Sm (co l i)) ∧ K (.lst (iL (cntL p s n)))
def sp_list_over : DSpec := fun ds K _ => ∃ (p n g : Nat) (l : List Int) (s m : Nat → Int), ds = [.int p, .lst (iL l), .int n] ∧ New s (co l) ∧ l.length = 2 * g + 1 ∧ 1 ≤ n ∧ n ≤ 4 ∧ 1 ≤ g ∧ g ≤ 4 ∧ 1 ≤ p ∧ p ^ (g * n) < 1000000000000 ∧ (∀ i, Sm (co l i)) ∧
  New (fun k => s (n * k)) m ∧ (∀ i, i < g → Sm (m i)) ∧ K (.lst (iL (mirL ((p : Int) ^ n) g m)))
def gen (f : List Int) : Nat := (f.length - 1) / 2
def sp_check_size : DSpec := fun ds K _ => ∃ (p : Nat) (f : List Int), ds = [cv p f] ∧ Cv p f ∧ (p, gen f) ∈ PML ∧ K .non
def sp_sign_of_number : DSpec := fun ds K _ => ∃ p x, ds = [.int p, .int x] ∧ Ps p ∧ 0 < x ∧ x < p ∧ K (.int (sgn p x))
def sp_sign_at : DSpec := fun ds K _ => ∃ p f m, ds = [.int p, pT f, pT m] ∧ Ps p ∧ Can p f ∧ Can p m ∧ m ≠ [] ∧ f.length ≤ 100 ∧ m.length ≤ 100 ∧ K (.int (sgS p f m))
def sp_points_counted : DSpec := fun ds K _ => ∃ (p n : Nat) (f : List Int), ds = [cv p f, .int n] ∧ Cv p f ∧ (p, n) ∈ PML ∧ K (.int (pcN p f n))
def sp_curve_polynomial : DSpec := fun ds K _ => ∃ (p : Nat) (f : List Int), ds = [cv p f] ∧ Cv p f ∧ (p, gen f) ∈ PML ∧ K (.lst (iL (mirL p (gen f) (LP p f))))
def sp_class_count : DSpec := fun ds K _ => ∃ (p n : Nat) (f : List Int), ds = [cv p f, .int n] ∧ Cv p f ∧ (p, gen f) ∈ PML ∧ (n = 1 ∨ n = 2 ∨ n = 4) ∧ K (.int (cN p (gen f) f n))
def SP (dk : Addr) : Sps where
  s__law_deck := fun _ _ _ => False
  s__law_draw := spDraw' dk
  s_is_integer := sp_is_integer
  s_is_count := sp_is_count
  s_is_prime := sp_is_prime
  s_raised := sp_raised
  s_primes_of := sp_primes_of
  s_divisors := sp_divisors
  s_inverse := sp_inverse
  s_root := sp_root
  s_is_polynomial := sp_is_polynomial
  s_trimmed := sp_trimmed
  s_degree := sp_degree
  s_index := sp_index
  s_of_index := sp_of_index
  s_scaled := sp_scaled
  s_monic := sp_monic
  s_combined := sp_combined
  s_sum_of := sp_sum_of
  s_product := sp_product
  s_slope := sp_slope
  s_value_at := sp_value_at
  s_put_in := sp_put_in
  s_divided := sp_divided
  s_remainder := sp_remainder
  s_common := sp_common
  s_power_modulo := sp_power_modulo
  s_prime_polynomials := sp_prime_polynomials
  s_any_root := sp_any_root
  s_root_modulo := sp_root_modulo
  p_p := pp_p
  p_f := pp_f
  s_kind_over := sp_kind_over
  s_places_over := sp_places_over
  s_places := sp_places
  s_place_count := sp_place_count
  s_zeros_of := sp_zeros_of
  s_turned_numbers := sp_turned_numbers
  s_ways := sp_ways
  s_plain_turns := sp_plain_turns
  s_other_turns := sp_other_turns
  p_genus := pp_genus
  s_turns := sp_turns
  s_turn_between := sp_turn_between
  m_Curve := sp_make
  s_twin := sp_twin
  s_list_made := sp_list_made
  s_counts_of := sp_counts_of
  s_list_over := sp_list_over
  s_check_size := sp_check_size
  s_sign_of_number := sp_sign_of_number
  s_sign_at := sp_sign_at
  s_points_counted := sp_points_counted
  s_curve_polynomial := sp_curve_polynomial
  s_class_count := sp_class_count
  s__law_is := sp__law_is
  s__law_trim := sp_trimmed
  s__law_inv := sp_inverse
  s__law_div := sp_divided
  s__law_common := sp_common
  s__law_slope := sp_slope
  s__law_f := sp__law_f dk
  s__law_curve := sp__law_curve dk
  s_law := fun _ _ _ => False
end K83
end
section
set_option Elab.async false
set_option linter.all false
namespace K83
open PySem PySem.Spec PyProof.Rows L2 DL PA
abbrev Mono (sp : DSpec) : Prop := ∀ (ds : List D) (K K' : D → Prop) (E E' : Exc → Prop), (∀ d, K d → K' d) → (∀ x, E x → E' x) → sp ds K E → sp ds K' E'
theorem mono_sp_is_integer : Mono sp_is_integer := fun ds K K' E E' h _ q => by
  unfold sp_is_integer at q ⊢; grind
theorem mono_sp_is_count : Mono sp_is_count := fun ds K K' E E' h _ q => by
  unfold sp_is_count at q ⊢; grind
theorem mono_sp_is_prime : Mono sp_is_prime := fun ds K K' E E' h _ q => by
  unfold sp_is_prime at q ⊢; grind
theorem mono_sp_inverse : Mono sp_inverse := fun ds K K' E E' h _ q => by
  unfold sp_inverse at q ⊢; grind
theorem mono_sp_root : Mono sp_root := fun ds K K' E E' h _ q => by
  unfold sp_root at q ⊢; grind
theorem mono_sp_is_polynomial : Mono sp_is_polynomial := fun ds K K' E E' h _ q => by
  unfold sp_is_polynomial at q ⊢; grind
theorem mono_sp_trimmed : Mono sp_trimmed := fun ds K K' E E' h _ q => by
  unfold sp_trimmed at q ⊢; grind
theorem mono_sp_degree : Mono sp_degree := fun ds K K' E E' h _ q => by
  unfold sp_degree at q ⊢; grind
theorem mono_sp_scaled : Mono sp_scaled := fun ds K K' E E' h _ q => by
  unfold sp_scaled at q ⊢; grind
theorem mono_sp_monic : Mono sp_monic := fun ds K K' E E' h _ q => by
  unfold sp_monic at q ⊢; grind
theorem mono_sp_combined : Mono sp_combined := fun ds K K' E E' h _ q => by
  unfold sp_combined at q ⊢; grind
theorem mono_sp_sum_of : Mono sp_sum_of := fun ds K K' E E' h _ q => by
  unfold sp_sum_of at q ⊢; grind
theorem mono_sp_product : Mono sp_product := fun ds K K' E E' h _ q => by
  unfold sp_product at q ⊢; grind
theorem mono_sp_slope : Mono sp_slope := fun ds K K' E E' h _ q => by
  unfold sp_slope at q ⊢; grind
theorem mono_sp_value_at : Mono sp_value_at := fun ds K K' E E' h _ q => by
  unfold sp_value_at at q ⊢; grind
theorem mono_sp_put_in : Mono sp_put_in := fun ds K K' E E' h _ q => by
  unfold sp_put_in at q ⊢; grind
theorem mono_sp_divided : Mono sp_divided := fun ds K K' E E' h _ q => by
  unfold sp_divided at q ⊢; grind
theorem mono_sp_remainder : Mono sp_remainder := fun ds K K' E E' h _ q => by
  obtain ⟨p, a, b, e, a1, a2, a3, a4, a5, a6, k⟩ := q; exact ⟨p, a, b, e, a1, a2, a3, a4, a5, a6, fun q r x y z => h _ (k q r x y z)⟩
theorem mono_sp_common : Mono sp_common := fun ds K K' E E' h _ q => by
  unfold sp_common at q ⊢; grind
theorem mono_pp_p : Mono pp_p := fun ds K K' E E' h _ q => by
  unfold pp_p at q ⊢; grind
theorem mono_pp_f : Mono pp_f := fun ds K K' E E' h _ q => by
  unfold pp_f at q ⊢; grind
theorem mono_pp_genus : Mono pp_genus := fun ds K K' E E' h _ q => by
  unfold pp_genus at q ⊢; grind
theorem mono_sp_zeros_of : Mono sp_zeros_of := fun ds K K' E E' h _ q => by
  unfold sp_zeros_of at q ⊢; grind
theorem mono_sp_turned_numbers : Mono sp_turned_numbers := fun ds K K' E E' h _ q => by
  unfold sp_turned_numbers at q ⊢; grind
theorem mono_sp_ways : Mono sp_ways := fun ds K K' E E' h _ q => by
  unfold sp_ways at q ⊢; grind
theorem mono_sp_plain_turns : Mono sp_plain_turns := fun ds K K' E E' h _ q => by
  unfold sp_plain_turns at q ⊢; grind
theorem mono_sp_other_turns : Mono sp_other_turns := fun ds K K' E E' h _ q => by
  unfold sp_other_turns at q ⊢; grind
theorem mono_sp_turns : Mono sp_turns := fun ds K K' E E' h _ q => by
  unfold sp_turns at q ⊢; grind
theorem mono_sp_turn_between : Mono sp_turn_between := fun ds K K' E E' h _ q => by
  unfold sp_turn_between at q ⊢; grind
theorem mono_sp__law_is : Mono sp__law_is := fun ds K K' E E' h _ q => by
  unfold sp__law_is at q ⊢; grind
theorem mono_sp__law_f (dk : Addr) : Mono (sp__law_f dk) := fun ds K K' E E' h _ q => by
  unfold sp__law_f at q ⊢; grind
theorem mono_sp__law_curve (dk : Addr) : Mono (sp__law_curve dk) := fun ds K K' E E' h _ q => by
  unfold sp__law_curve at q ⊢; grind
theorem mono_sp_make : Mono sp_make := fun ds K K' E E' h _ q => by
  unfold sp_make at q ⊢; grind
theorem mono_sp_raised : Mono sp_raised := fun ds K K' E E' h _ q => by
  unfold sp_raised at q ⊢; grind
theorem mono_sp_primes_of : Mono sp_primes_of := fun ds K K' E E' h _ q => by
  unfold sp_primes_of at q ⊢; grind
theorem mono_sp_divisors : Mono sp_divisors := fun ds K K' E E' h _ q => by
  unfold sp_divisors at q ⊢; grind
theorem mono_sp_index : Mono sp_index := fun ds K K' E E' h _ q => by
  unfold sp_index at q ⊢; grind
theorem mono_sp_of_index : Mono sp_of_index := fun ds K K' E E' h _ q => by
  unfold sp_of_index at q ⊢; grind
theorem mono_sp_power_modulo : Mono sp_power_modulo := fun ds K K' E E' h _ q => by
  unfold sp_power_modulo at q ⊢; grind
theorem mono_sp_prime_polynomials : Mono sp_prime_polynomials := fun ds K K' E E' h _ q => by
  unfold sp_prime_polynomials at q ⊢; grind
theorem mono_sp_any_root : Mono sp_any_root := fun ds K K' E E' h _ q => by
  unfold sp_any_root at q ⊢; grind
theorem mono_sp_root_modulo : Mono sp_root_modulo := fun ds K K' E E' h _ q => by
  unfold sp_root_modulo at q ⊢; grind
theorem mono_sp_kind_over : Mono sp_kind_over := fun ds K K' E E' h _ q => by
  unfold sp_kind_over at q ⊢; grind
theorem mono_sp_places_over : Mono sp_places_over := fun ds K K' E E' h _ q => by
  unfold sp_places_over at q ⊢; grind
theorem mono_sp_places : Mono sp_places := fun ds K K' E E' h _ q => by
  unfold sp_places at q ⊢; grind
theorem mono_sp_place_count : Mono sp_place_count := fun ds K K' E E' h _ q => by
  unfold sp_place_count at q ⊢; grind
theorem mono_sp_twin : Mono sp_twin := fun ds K K' E E' h _ q => by
  unfold sp_twin at q ⊢; grind
theorem mono_sp_list_made : Mono sp_list_made := fun ds K K' E E' h _ q => by
  unfold sp_list_made at q ⊢; grind
theorem mono_sp_counts_of : Mono sp_counts_of := fun ds K K' E E' h _ q => by
  unfold sp_counts_of at q ⊢; grind
theorem mono_sp_list_over : Mono sp_list_over := fun ds K K' E E' h _ q => by
  unfold sp_list_over at q ⊢; grind
theorem mono_sp_check_size : Mono sp_check_size := fun ds K K' E E' h _ q => by
  unfold sp_check_size at q ⊢; grind
theorem mono_sp_sign_of_number : Mono sp_sign_of_number := fun ds K K' E E' h _ q => by
  unfold sp_sign_of_number at q ⊢; grind
theorem mono_sp_sign_at : Mono sp_sign_at := fun ds K K' E E' h _ q => by
  unfold sp_sign_at at q ⊢; grind
theorem mono_sp_points_counted : Mono sp_points_counted := fun ds K K' E E' h _ q => by
  unfold sp_points_counted at q ⊢; grind
theorem mono_sp_curve_polynomial : Mono sp_curve_polynomial := fun ds K K' E E' h _ q => by
  unfold sp_curve_polynomial at q ⊢; grind
theorem mono_sp_class_count : Mono sp_class_count := fun ds K K' E E' h _ q => by
  unfold sp_class_count at q ⊢; grind
end K83
end
section
set_option Elab.async false
set_option linter.all false
set_option maxHeartbeats 1000000
/-! P83a: what the defs of k83 do, plain. Numbers and lists. -/
namespace K83
open PySem PySem.Spec PyProof.Rows L2 DL PA
abbrev Pl (N : List Str) (W : (Exc → Prop) → WS) (n : Nat) (sp : DSpec) : Prop := ∀ ds K E, sp ds K E → ds.length = n → W E { nx := fun _ => K .non, rt := K } (startE N ds)
variable {dk : Addr}
@[simp] theorem nolL_int (l : List Int) : D.nolL (l.map D.int) = true := (pyL_ints l).2
@[simp] theorem kit_ii : kitB "int" "int" = some true := by decide
@[simp] theorem kit_bi : kitB "bool" "int" = some true := by decide
@[simp] theorem kit_ib : kitB "int" "bool" = some false := by decide
@[simp] theorem kit_bb : kitB "bool" "bool" = some true := by decide
@[simp] theorem kit_tt : kitB "tuple" "tuple" = some true := by decide
@[simp] theorem kit_ni : kitB "NoneType" "int" = some false := by decide
@[simp] theorem kit_si : kitB "str" "int" = some false := by decide
@[simp] theorem kit_ti : kitB "tuple" "int" = some false := by decide
@[simp] theorem kit_li : kitB "list" "int" = some false := by decide
@[simp] theorem kit_nt : kitB "NoneType" "tuple" = some false := by decide
@[simp] theorem kit_it : kitB "int" "tuple" = some false := by decide
@[simp] theorem kit_bt : kitB "bool" "tuple" = some false := by decide
@[simp] theorem kit_st : kitB "str" "tuple" = some false := by decide
@[simp] theorem kit_lt : kitB "list" "tuple" = some false := by decide
theorem pl_is_integer : Pl N_s_is_integer (W_s_is_integer (SP dk)) 1 sp_is_integer := by
  intro ds K E ⟨v, e, h, k⟩ _
  subst e
  show W_s_is_integer (SP dk) E _ [.sh v]
  cases v <;> simp [D.tyN] at h <;> simpa [W_s_is_integer, cIsi, D.tyN, isI] using k
theorem pl_is_count : Pl N_s_is_count (W_s_is_count (SP dk)) 3 sp_is_count := by
  intro ds K E ⟨v, lo, hi, e, h, k⟩ _
  subst e
  show W_s_is_count (SP dk) E _ [.sh v, .sh (.int lo), .sh (.int hi)]
  rename_i hlen
  clear hlen
  cases v <;> simp [D.tyN] at h <;> simp [cntB] at k
  case int i =>
    by_cases h1 : i < lo
    · simp [W_s_is_count, SP, sp_is_integer, D.tyN, isI, kLt, kLe, D.isNon, h1]
      simpa [show ¬ lo ≤ i by omega] using k
    · simp [W_s_is_count, SP, sp_is_integer, D.tyN, isI, kLt, kLe, D.isNon, h1]
      simpa [show lo ≤ i by omega] using k
  all_goals simpa [W_s_is_count, SP, sp_is_integer, D.tyN, isI] using k
theorem pl_degree : Pl N_s_degree (W_s_degree (SP dk)) 1 sp_degree := by
  intro ds K E ⟨l, e, k⟩ _
  subst e
  show W_s_degree (SP dk) E _ [.sh (pT l)]
  simpa [W_s_degree] using k
theorem pl_p : Pl N_p_p (W_p_p (SP dk)) 1 pp_p := by
  intro ds K E ⟨p, f, e, k⟩ _
  subst e
  show W_p_p (SP dk) E _ [.sh (cv p f)]
  simpa [W_p_p, cv] using k
theorem pl_f : Pl N_p_f (W_p_f (SP dk)) 1 pp_f := by
  intro ds K E ⟨p, f, e, k⟩ _
  subst e
  show W_p_f (SP dk) E _ [.sh (cv p f)]
  simpa [W_p_f, cv] using k
theorem pl_genus : Pl N_p_genus (W_p_genus (SP dk)) 1 pp_genus := by
  intro ds K E ⟨p, f, e, k⟩ _
  subst e
  show W_p_genus (SP dk) E _ [.sh (cv p f)]
  simp [W_p_genus, cv, SP, sp_degree]
  exact ⟨f, rfl, k⟩
theorem pl_trimmed : Pl N_s_trimmed (W_s_trimmed (SP dk)) 2 sp_trimmed := by
  intro ds K E ⟨p, l, e, hp, hl, k⟩ _
  subst e
  have hb := hp.bd
  show W_s_trimmed (SP dk) E _ [.sh (.int p), .sh (.lst (iL l)), .un, .un]
  simp [W_s_trimmed]
  refine comp_gen D.int (fun c => D.int (c % p)) l [] (fun c _ N h => by simpa using ⟨by omega, h⟩) ?_
  simp
  refine while_of (I := fun n ρ => ∃ m : List Int, m.length = n ∧ strip m = trim p l ∧ ρ = [.sh (.int p), .sh (.lst (iL l)), .lv (iL m), .un]) (n := l.length) (fun n ρ N ⟨m, h1, h2, e⟩ hN => ?_) ⟨l.map (· % p), by simp, rfl, by simp [List.map_map]⟩
  subst e
  simp
  by_cases hm : m = []
  · subst hm
    simp
    rw [← h2] at k
    exact k
  · have hl := List.length_pos_iff.mpr hm
    simp [hm, atI_lastI]
    by_cases h0 : m.getLast hm = 0
    · have : co m (m.length - 1) = 0 := by rw [co_at (by omega), ← List.getLast_eq_getElem]; exact h0
      simp [this]
      refine hN (m.length - 1) _ (by omega) ⟨m.dropLast, by simp, by rw [← h2, strip_pop hm h0], by simp⟩
    · have : co m (m.length - 1) ≠ 0 := by rw [co_at (by omega), ← List.getLast_eq_getElem]; exact h0
      simp [this]
      rw [← h2, strip_last hm h0] at k
      exact k
theorem pl__law_trim : Pl N_s__law_trim (W_s__law_trim (SP dk)) 2 sp_trimmed := by
  intro ds K E ⟨p, l, e, hp, hl, k⟩ _
  subst e
  have hb := hp.bd
  show W_s__law_trim (SP dk) E _ [.sh (.int p), .sh (.lst (iL l)), .un, .un]
  simp [W_s__law_trim]
  refine comp_gen D.int (fun c => D.int (c % p)) l [] (fun c _ N h => by simpa using ⟨by omega, h⟩) ?_
  simp
  refine while_of (I := fun n ρ => ∃ m : List Int, m.length = n ∧ strip m = trim p l ∧ ρ = [.sh (.int p), .sh (.lst (iL l)), .lv (iL m), .un]) (n := l.length) (fun n ρ N ⟨m, h1, h2, e⟩ hN => ?_) ⟨l.map (· % p), by simp, rfl, by simp [List.map_map]⟩
  subst e
  simp [kGt]
  by_cases hm : m = []
  · subst hm
    simp
    rw [← h2] at k
    exact k
  · have hl := List.length_pos_iff.mpr hm
    simp [hm, atI_lastI, hl]
    by_cases h0 : m.getLast hm = 0
    · have : co m (m.length - 1) = 0 := by rw [co_at (by omega), ← List.getLast_eq_getElem]; exact h0
      simp [this]
      refine hN (m.length - 1) _ (by omega) ⟨m.dropLast, by simp, by rw [← h2, strip_pop hm h0], by simp⟩
    · have : co m (m.length - 1) ≠ 0 := by rw [co_at (by omega), ← List.getLast_eq_getElem]; exact h0
      simp [this]
      rw [← h2, strip_last hm h0] at k
      exact k
theorem pw_odd {p f b e : Int} (he : 0 ≤ e) (h : e % 2 = 1) : Md p (f * b % p * (b * b % p) ^ (e / 2).toNat) (f * b ^ e.toNat) := by
  have e1 : e.toNat = (e / 2).toNat + (e / 2).toNat + 1 := by omega
  refine ((Md.mod _).mul ((Md.mod _).pow _)).trans (Md.of_eq ?_)
  rw [e1, Int.pow_succ, Int.pow_add, Int.mul_pow]; grind
theorem pw_even {p f b e : Int} (he : 0 ≤ e) (h : e % 2 ≠ 1) : Md p (f * (b * b % p) ^ (e / 2).toNat) (f * b ^ e.toNat) := by
  have e1 : e.toNat = (e / 2).toNat + (e / 2).toNat := by omega
  refine ((Md.refl f).mul ((Md.mod _).pow _)).trans (Md.of_eq ?_)
  rw [e1, Int.pow_add, Int.mul_pow]
theorem md_bd {p : Int} (h : 0 < p) (a : Int) : 0 ≤ a % p ∧ a % p < p := ⟨Int.emod_nonneg _ (by omega), Int.emod_lt_of_pos _ h⟩
theorem pl_inverse : Pl N_s_inverse (W_s_inverse (SP dk)) 2 sp_inverse := by
  intro ds K E ⟨p, a, e, hp, ha, hz, k⟩ _
  subst e
  have hb := hp.bd
  show W_s_inverse (SP dk) E _ [.sh (.int p), .sh (.int a), .un, .un]
  have h0 : a ≠ 0 := fun e => by subst e; simp at hz
  simp [W_s_inverse, h0, kGt]
  refine while_of (I := fun n ρ => ∃ b f e : Int, e.toNat = n ∧ 0 ≤ e ∧ Sm b ∧ 0 ≤ f ∧ f < p ∧ Md p (f * b ^ e.toNat) (a ^ (p.toNat - 2)) ∧ ρ = [.sh (.int p), .sh (.int b), .sh (.int f), .sh (.int e)]) (n := (p - 2).toNat) (fun n ρ N ⟨b, f, e, h1, h2, h3, h4, h5, h6, q⟩ hN => ?_)
    ⟨a, 1, p - 2, rfl, by omega, ha, by omega, by omega, Md.of_eq (by rw [show (p - 2).toNat = p.toNat - 2 by omega]; omega), rfl⟩
  subst q
  by_cases he : 0 < e
  · by_cases hq : e % 2 = 1
    · simp [he, hq]
      have m1 := md_bd (p := p) (by omega) (b * b)
      have m2 := md_bd (p := p) (by omega) (f * b)
      exact ⟨cmul (by omega), by omega, cmul h3, by omega, hN _ _ (by omega) ⟨_, _, _, rfl, by omega, ⟨by omega, by omega⟩, m2.1, m2.2, (pw_odd (by omega) hq).trans h6, rfl⟩⟩
    · simp [he, hq]
      have m1 := md_bd (p := p) (by omega) (b * b)
      exact ⟨cmul h3, by omega, hN _ _ (by omega) ⟨_, _, _, rfl, by omega, ⟨by omega, by omega⟩, h4, h5, (pw_even (by omega) hq).trans h6, rfl⟩⟩
  · have e0 : e = 0 := by omega
    subst e0
    simp
    simp only [Int.toNat_zero, Int.pow_zero, Int.mul_one] at h6
    have h7 : Md p (a * f) 1 := by
      refine ((Md.refl a).mul h6).trans ?_
      have := hp.fer hz
      refine (Md.of_eq ?_).trans this
      rw [show p.toNat - 1 = (p.toNat - 2) + 1 by omega, Int.pow_succ]; grind
    refine k f ?_ h5 h7
    by_cases hf : f = 0
    · subst hf
      rw [Int.mul_zero] at h7
      have := h7.eq ⟨by omega, by omega⟩ ⟨by omega, by omega⟩
      omega
    · omega
theorem pl_root : Pl N_s_root (W_s_root (SP dk)) 2 sp_root := by
  intro ds K E ⟨p, a, e, hp, h0, h1, k1, k2⟩ _
  subst e
  have hb := hp.bd
  show W_s_root (SP dk) E _ [.sh (.int p), .sh (.int a), .un]
  simp [W_s_root]
  refine ⟨by omega, by omega, ?_⟩
  refine for_one 0 _ (I := fun i ρ => (∀ x : Nat, x < i → ¬ Md p ((x : Int) * x) a) ∧ ∃ s, ρ = [.sh (.int p), .sh (.int a), s]) ⟨fun x h => absurd h (by omega), _, rfl⟩ (fun ρ ⟨h, s, e⟩ => ?_) (fun i ρ N hi ⟨h, s, e⟩ hN => ?_)
  · subst e
    simp
    refine k2 fun x hx => h (x % p).toNat (by have := md_bd (p := p) (by omega) x; omega) ?_
    have := md_bd (p := p) (by omega) x
    rw [show (((x % p).toNat : Nat) : Int) = x % p by omega]
    exact ((Md.mod x).mul (Md.mod x)).trans hx
  · subst e
    simp
    refine ⟨cmul (by omega), by omega, ?_⟩
    by_cases hq : (i : Int) * i % p = a
    · simp [hq]
      exact k1 i (by omega) (by omega) (Md.of_emod (by rw [hq, Int.emod_eq_of_lt h0 h1]))
    · simp [hq]
      refine hN _ ⟨fun x hx => ?_, _, rfl⟩
      by_cases e : x = i
      · subst e
        intro z
        exact hq (by rw [z.emod, Int.emod_eq_of_lt h0 h1])
      · exact h x (by omega)
theorem pl_is_prime : Pl N_s_is_prime (W_s_is_prime (SP dk)) 1 sp_is_prime := by
  intro ds K E ⟨p, e, hp, k⟩ _
  subst e
  have hb := hp.bd
  show W_s_is_prime (SP dk) E _ [.sh (.int p), .un]
  simp [W_s_is_prime, SP]
  refine ⟨_, _, _, rfl, by simp [D.tyN], ?_⟩
  simp [cntB, show (3 : Int) ≤ p by omega, show p ≤ 61 by omega]
  refine ⟨by omega, by omega, ?_⟩
  rw [ranD_eq]
  refine comp_gen D.int (fun c => D.bl (p % c != 0)) _ [] (fun c hc N h => ?_) ?_
  · have := mem_ranL.mp hc
    simp
    exact ⟨by omega, h⟩
  · refine ⟨(ranL 2 (p - 2).toNat).map (fun c => p % c != 0), ?_, ?_⟩
    · rw [List.nil_append, ← bls_of, List.map_map]; rfl
    · have : ((ranL 2 (p - 2).toNat).map (fun c => p % c != 0)).all id = true := by
        rcases hp with rfl | rfl | rfl | rfl | rfl | rfl | rfl <;> decide +kernel
      rw [this]; exact k
theorem pl_is_polynomial : Pl N_s_is_polynomial (W_s_is_polynomial (SP dk)) 2 sp_is_polynomial := by
  intro ds K E ⟨p, l, e, hp, hc, hl, k⟩ _
  subst e
  have hb := hp.bd
  show W_s_is_polynomial (SP dk) E _ [.sh (.int p), .sh (pT l), .un]
  simp [W_s_is_polynomial, cIsi, D.tyN]
  refine comp_gen D.int (fun c => D.bl true) _ [] (fun c hm N h => ?_) ?_
  · have := hc.1 c hm
    simp [SP]
    refine ⟨_, _, _, rfl, by simp [D.tyN], ?_⟩
    simpa [cntB, show (0 : Int) ≤ c by omega, show c ≤ p - 1 by omega] using h
  · refine ⟨l.map (fun _ => true), by rw [List.nil_append, ← bls_of, List.map_map]; rfl, ?_⟩
    by_cases h0 : l = []
    · subst h0; simpa using k
    · simp [h0, atI_lastI]
      have := hc.last h0
      rw [show (co l (l.length - 1) != 0) = true by simpa using this]; exact k
theorem pl_scaled : Pl N_s_scaled (W_s_scaled (SP dk)) 3 sp_scaled := by
  intro ds K E ⟨p, a, x, e, hp, hs, hl, k⟩ _
  subst e
  show W_s_scaled (SP dk) E _ [.sh (.int p), .sh (pT a), .sh (.int x), .un]
  simp [W_s_scaled]
  refine comp_gen D.int (fun c => D.int (c * x)) _ [] (fun c hm N h => ?_) ?_
  · simpa using ⟨cmul (hs c hm), h⟩
  · refine ⟨p, sclL x a, ?_, hp, by rw [len_scl]; omega, k⟩
    simp [sclL, Int.mul_comm]
theorem Can.sm {p : Int} (hp : Ps p) {l : List Int} (h : Can p l) : ∀ c ∈ l, Sm c := fun c hc => by
  have := h.1 c hc; have := hp.bd; exact ⟨by omega, by omega⟩
theorem pl_monic : Pl N_s_monic (W_s_monic (SP dk)) 2 sp_monic := by
  intro ds K E ⟨p, a, e, hp, hc, hl, k⟩ _
  subst e
  have hb := hp.bd
  show W_s_monic (SP dk) E _ [.sh (.int p), .sh (pT a)]
  simp [W_s_monic]
  by_cases h0 : a = []
  · subst h0
    have := k 0 (by simp)
    simp [sclL, trim, PA.strip] at this ⊢
    exact this
  · simp [h0, atI_lastI, SP]
    have hm := hc.md hp h0
    have hcc := hc.co (p := p) (by omega) (a.length - 1)
    refine ⟨p, _, rfl, hp, ⟨by omega, by omega⟩, fun z => hm (Md.zero.mpr z), fun i i0 i1 hi => ?_⟩
    exact ⟨p, a, i, rfl, hp, Can.sm hp hc, hl, k i fun _ => ⟨i0, i1, hi⟩⟩
theorem trim_co {p : Int} (hp : 0 < p) {u v : List Int} (h : ∀ i, Md p (co u i) (co v i)) : trim p u = trim p v :=
  trim_uniq hp (trim_ok hp v).1 ((trim_ok hp v).2.trans (E.of_co fun i => (h i).symm))
theorem co_pad (a : List Int) (n i : Nat) : co (a ++ List.replicate n 0) i = co a i := by
  by_cases h : i < a.length
  · exact co_left h
  · rw [co_out (Nat.le_of_not_lt h)]
    unfold co
    rw [List.getD_eq_getElem?_getD, List.getElem?_append_right (by omega), List.getElem?_replicate]; split <;> rfl
theorem co_zip (x : Int) : ∀ (a b : List Int) (i : Nat), a.length = b.length → co ((a.zip b).map fun c => c.1 + x * c.2) i = co a i + x * co b i
  | [], b, i, h => by
    have : b = [] := List.eq_nil_of_length_eq_zero h.symm
    subst this; simp [co_nil]
  | c :: a, [], i, h => by simp at h
  | c :: a, d :: b, 0, h => by simp [co_zero]
  | c :: a, d :: b, i + 1, h => by
    simp only [List.zip_cons_cons, List.map_cons, co_succ]
    exact co_zip x a b i (by simpa using h)
theorem pl_combined : Pl N_s_combined (W_s_combined (SP dk)) 4 sp_combined := by
  intro ds K E ⟨p, a, b, x, e, hp, hx, h1, h2, k⟩ _
  subst e
  have hb := hp.bd
  show W_s_combined (SP dk) E _ [.sh (.int p), .sh (pT a), .sh (pT b), .sh (.int x), .un, .un, .un, .un, .un]
  simp [W_s_combined, flat_rep]
  refine ⟨by omega, by omega, by omega, by omega, by omega, by omega, ?_⟩
  rw [rep_iL, rep_iL, app_iL, app_iL, zpD_eq]
  refine comp_int _ (fun c => c.1 + x * c.2) _ (fun c hm N h => ?_) ?_
  · simpa using ⟨cmul hx, h⟩
  · refine ⟨p, _, rfl, hp, by simp; omega, ?_⟩
    rw [trim_co (p := p) (v := addL a (sclL x b)) (by omega) fun i => ?_]
    · exact k
    · rw [co_zip x _ _ i (by simp; omega), co_pad, co_pad, co_add, co_scl]; exact Md.refl _
theorem pl_sum_of : Pl N_s_sum_of (W_s_sum_of (SP dk)) 3 sp_sum_of := by
  intro ds K E ⟨p, a, b, e, hp, h1, h2, k⟩ _
  subst e
  show W_s_sum_of (SP dk) E _ [.sh (.int p), .sh (pT a), .sh (pT b)]
  simp [W_s_sum_of, SP, sp_combined]
  refine ⟨p, a, b, 1, ⟨rfl, rfl, rfl, rfl⟩, hp, ⟨by omega, by omega⟩, h1, h2, ?_⟩
  have : sclL 1 b = b := by simp [sclL]
  rw [this]; exact k
end K83
end
section
set_option Elab.async false
set_option linter.all false
set_option maxHeartbeats 1000000
set_option maxRecDepth 10000
/-! P83b: products, values, division. -/
namespace K83
open PySem PySem.Spec PyProof.Rows L2 DL PA
variable {dk : Addr}
theorem take_succ_co (a : List Int) (i : Nat) (h : i < a.length) : a.take (i + 1) = a.take i ++ [co a i] := by
  rw [List.take_succ, List.getElem?_eq_getElem h, co_at h]; rfl
theorem co_mul_snoc (c : Int) (b : List Int) : ∀ (u : List Int) (i : Nat), co (mulL (u ++ [c]) b) i = co (mulL u b) i + (if u.length ≤ i then c * co b (i - u.length) else 0)
  | [], i => by
    simp only [List.nil_append, mulL, co_add, co_scl, co_nil, List.length_nil, Nat.sub_zero, Nat.zero_le, if_true]
    cases i with
    | zero => rw [co_zero]; omega
    | succ i => rw [co_succ, co_nil]; omega
  | d :: u, i => by
    simp only [List.cons_append, mulL, co_add, co_scl]
    cases i with
    | zero => simp [co_zero]
    | succ i =>
      rw [co_succ, co_succ, co_mul_snoc c b u i]
      simp only [List.length_cons, Nat.add_le_add_iff_right, Nat.add_sub_add_right]
      omega
theorem co_snoc (v : List Int) (c : Int) (i : Nat) : co (v ++ [c]) i = if i = v.length then c else co v i := by
  by_cases h : i < v.length
  · rw [co_left h, if_neg (by omega)]
  · by_cases h2 : i = v.length
    · rw [if_pos h2, h2, co_mid]
    · rw [if_neg h2, co_out (by simp; omega), co_out (by omega)]
theorem co_take (l : List Int) (n i : Nat) : co (l.take n) i = if i < n then co l i else 0 := by
  unfold co
  rw [List.getD_eq_getElem?_getD, List.getElem?_take]
  split <;> simp [List.getD_eq_getElem?_getD]
/-- one step of a product -/
def PrI (a b : List Int) (i j : Nat) (m : List Int) : Prop := m.length = a.length + b.length - 1 ∧ ∀ x, co m x = co (mulL (a.take i) b) x + (if i ≤ x then co a i * co (b.take j) (x - i) else 0)
theorem PrI.start (a b : List Int) : PrI a b 0 0 (List.replicate (a.length + b.length - 1) 0) := ⟨by simp, fun x => by
  rw [co_rep]; simp [mulL, co_nil]⟩
theorem PrI.next {a b m : List Int} {i : Nat} (hi : i < a.length) (h : PrI a b i b.length m) : PrI a b (i + 1) 0 m := ⟨h.1, fun x => by
  rw [h.2 x, take_succ_co a i hi, co_mul_snoc, List.length_take, Nat.min_eq_left (by omega), List.take_length]
  simp [co_nil]⟩
theorem PrI.step {a b m : List Int} {i j : Nat} (hi : i < a.length) (hj : j < b.length) (h : PrI a b i j m) : PrI a b i (j + 1) (m.set (i + j) (co m (i + j) + co a i * co b j)) := ⟨by rw [List.length_set]; exact h.1, fun x => by
  rw [co_set, take_succ_co b j hj]
  by_cases e : i + j = x
  · subst e
    rw [if_pos ⟨rfl, by rw [h.1]; omega⟩, h.2, if_pos (by omega), if_pos (by omega), co_snoc, Nat.add_sub_cancel_left, if_pos (by simp; omega), co_take, if_neg (by omega)]
    omega
  · rw [if_neg (by omega), h.2]
    by_cases hx : i ≤ x
    · rw [if_pos hx, if_pos hx, co_snoc, if_neg (by simp; omega)]
    · rw [if_neg hx, if_neg hx]⟩
theorem PrI.fin {p : Int} (hp : 0 < p) {a b m : List Int} (h : PrI a b a.length 0 m) : trim p m = trim p (mulL a b) := trim_co hp fun x => by
  rw [h.2 x, List.take_length]; simp [co_nil]; exact Md.refl _
theorem pl_product : Pl N_s_product (W_s_product (SP dk)) 3 sp_product := by
  intro ds K E ⟨p, a, b, e, hp, hs, h1, h2, k⟩ _
  subst e
  have hb := hp.bd
  show W_s_product (SP dk) E _ [.sh (.int p), .sh (pT a), .sh (pT b), .un, .un, .un, .un, .un]
  by_cases ha : a = []
  · subst ha; simp [W_s_product]; simp [mulL, trim, PA.strip] at k; exact k
  by_cases hbn : b = []
  · subst hbn
    have : trim p (mulL a []) = [] := by
      refine trim_uniq (by omega) Can.nil (PA.E.symm (PA.E.of_eq fun x => by rw [ev_mul]; simp [ev]))
    rw [this] at k
    simp [W_s_product, ha]; exact k
  have la := List.length_pos_iff.mpr ha
  have lb := List.length_pos_iff.mpr hbn
  simp [W_s_product, ha, hbn, flat_rep]
  refine ⟨by omega, by omega, by omega, ?_⟩
  rw [show ((a.length : Int) + b.length).toNat - 1 = a.length + b.length - 1 by omega, rep_iL]
  refine for_en a (I := fun i ρ => ∃ m s4 s5 s6 s7, PrI a b i 0 m ∧ ρ = [.sh (.int p), .sh (pT a), .sh (pT b), .lv (iL m), s4, s5, s6, s7]) ⟨_, _, _, _, _, PrI.start a b, rfl⟩ (fun ρ ⟨m, s4, s5, s6, s7, hI, e⟩ => ?_) (fun i ρ N hi ⟨m, s4, s5, s6, s7, hI, e⟩ hN => ?_)
  · subst e
    simp [SP]
    refine ⟨p, m, rfl, hp, by rw [hI.1]; omega, ?_⟩
    rw [hI.fin (by omega)]; exact ⟨by simp, k⟩
  · subst e
    simp
    refine for_en b (I := fun j ρ => ∃ m s6 s7, PrI a b i j m ∧ ρ = [.sh (.int p), .sh (pT a), .sh (pT b), .lv (iL m), .sh (.int i), .sh (.int (co a i)), s6, s7]) ⟨m, _, _, hI, rfl⟩ (fun ρ ⟨m, s6, s7, hI, e⟩ => hN ρ ⟨m, _, _, s6, s7, hI.next hi, e⟩) (fun j ρ N hj ⟨m, s6, s7, hI, e⟩ hN => ?_)
    subst e
    simp
    refine ⟨i + j, by rw [ixN_of (by omega) (by rw [hI.1]; omega)]; congr 1, _, ⟨_, List.getElem?_eq_getElem (show i + j < m.length by rw [hI.1]; omega), rfl⟩, ?_⟩
    refine ⟨?_, ?_⟩
    · exact cmul (hs _ (by rw [co_at hi]; exact List.getElem_mem _))
    · refine hN _ ⟨_, .sh (.int j), .sh (.int (co b j)), hI.step hi hj, ?_⟩
      rw [co_at (l := m) (show i + j < m.length by rw [hI.1]; omega), ← set_iL]
theorem co_derI (l : List Int) (i : Nat) : co (derL l) i = ((i : Int) + 1) * co l (i + 1) := by
  induction l generalizing i with
  | nil => simp [derL, co_nil]
  | cons c l ih =>
    rw [derL, co_add, co_succ]
    cases i with
    | zero => rw [co_zero]; simp
    | succ i => rw [co_succ, ih]; push_cast; grind
theorem pl_slope : Pl N_s_slope (W_s_slope (SP dk)) 2 sp_slope := by
  intro ds K E ⟨p, a, e, hp, hs, h1, k⟩ _
  subst e
  have hb := hp.bd
  show W_s_slope (SP dk) E _ [.sh (.int p), .sh (pT a), .un, .un]
  simp [W_s_slope]
  rw [show List.map D.int a = iL a from rfl, enD_eq]
  refine comp_int _ (fun c : Nat × Int => (c.1 : Int) * c.2) _ (fun c hm N h => ?_) ?_
  · have : Sm c.2 := by
      obtain ⟨i, hi, e⟩ := List.mem_iff_getElem.mp hm
      rw [enL_get] at e
      rw [← e]
      rw [enL_len] at hi
      exact hs _ (by rw [co_at hi]; exact List.getElem_mem _)
    simpa using ⟨cmul' this, h⟩
  · refine ⟨p, ((enL 0 a).map (fun c : Nat × Int => (c.1 : Int) * c.2)).tail, by rw [cut_one, ← List.map_tail], hp, by simp [enL_len]; omega, ?_⟩
    rw [trim_co (p := p) (v := derL a) (by omega) fun i => ?_]
    · exact k
    · rw [co_derI]
      by_cases hi : i + 1 < a.length
      · rw [co_at (by simp [enL_len]; omega)]
        simp [enL_get]
        exact Md.refl _
      · rw [co_out (by simp [enL_len]; omega), co_out (l := a) (by omega)]; exact Md.of_eq (by omega)
theorem pl__law_slope : Pl N_s__law_slope (W_s__law_slope (SP dk)) 2 sp_slope := by
  intro ds K E ⟨p, a, e, hp, hs, h1, k⟩ _
  subst e
  have hb := hp.bd
  show W_s__law_slope (SP dk) E _ [.sh (.int p), .sh (pT a), .un]
  simp [W_s__law_slope]
  refine ⟨by omega, ?_⟩
  rw [ranD_eq]
  refine comp_int _ (fun c : Int => c * co a c.toNat) _ (fun c hm N h => ?_) ?_
  · have hm := mem_ranL.mp hm
    simp
    refine ⟨_, atI_int a (by omega) (by omega), ?_⟩
    simpa using ⟨cmul (by omega), h⟩
  · refine ⟨p, _, rfl, hp, by simp [len_ranL]; omega, ?_⟩
    rw [trim_co (p := p) (v := derL a) (by omega) fun i => ?_]
    · exact k
    · rw [co_derI]
      by_cases hi : i + 1 < a.length
      · rw [co_at (by simp [len_ranL]; omega)]
        simp [ranL]
        exact Md.of_eq (by rw [show (1 + (i : Int)).toNat = i + 1 by omega]; grind)
      · rw [co_out (by simp [len_ranL]; omega), co_out (l := a) (by omega)]; exact Md.of_eq (by omega)
theorem pl_value_at : Pl N_s_value_at (W_s_value_at (SP dk)) 3 sp_value_at := by
  intro ds K E ⟨p, a, x, e, hp, h1, k⟩ _
  subst e
  have hb := hp.bd
  show W_s_value_at (SP dk) E _ [.sh (.int p), .sh (pT a), .sh (.int x), .un, .un]
  simp [W_s_value_at, cut_rev]
  refine ⟨by omega, ?_⟩
  rw [← List.map_reverse]
  refine for_pre D.int a.reverse (I := fun dn ρ => ∃ s, ρ = [.sh (.int p), .sh (pT a), .sh (.int x), .sh (.int (ev dn.reverse x % p)), s]) ⟨.un, by simp [ev]⟩ (fun ρ ⟨s, e⟩ => ?_) (fun dn c rest ρ N _ ⟨s, e⟩ hN => ?_)
  · subst e; simpa using k
  · subst e
    have := md_bd (p := p) (by omega) (ev dn.reverse x)
    simp
    refine ⟨cmul (by omega), by omega, hN _ ⟨.sh (.int c), ?_⟩⟩
    simp only [List.reverse_append, List.reverse_cons, List.reverse_nil, List.nil_append, List.cons_append, ev]
    rw [show (ev dn.reverse x % p * x + c) % p = (c + x * ev dn.reverse x) % p from ((((Md.mod _).mul (Md.refl x)).add (Md.refl c)).trans (Md.of_eq (by grind))).emod]
end K83
end
section
set_option Elab.async false
set_option linter.all false
set_option maxHeartbeats 1000000
set_option maxRecDepth 10000
/-! P83c: putting in, division, common factors, powers. -/
namespace K83
open PySem PySem.Spec PyProof.Rows L2 DL PA
variable {dk : Addr}
theorem E_sp {p : Int} (hp : 0 < p) (u v : List Int) : PA.E p (ev (trim p (addL (trim p u) (trim p v)))) (fun x => ev u x + ev v x) :=
  (trim_ok hp _).2.trans ((PA.E.of_eq (ev_add _ _)).trans ((trim_ok hp u).2.add (trim_ok hp v).2))
theorem pl_put_in : Pl N_s_put_in (W_s_put_in (SP dk)) 3 sp_put_in := by
  intro ds K EE ⟨p, a, b, e, hp, h1, h2, h3, k⟩ _
  subst e
  have hb := hp.bd
  show W_s_put_in (SP dk) EE _ [.sh (.int p), .sh (pT a), .sh (pT b), .un, .un]
  simp [W_s_put_in, cut_rev]
  refine ⟨by omega, ?_⟩
  rw [← List.map_reverse]
  refine for_pre D.int a.reverse (I := fun dn ρ => ∃ f s, Can p f ∧ f.length ≤ 2 * dn.length ∧ PA.E p (ev f) (fun t => ev dn.reverse (ev b t)) ∧ ρ = [.sh (.int p), .sh (pT a), .sh (pT b), .sh (pT f), s])
    ⟨[], .un, Can.nil, by simp, PA.E.refl _, rfl⟩ (fun ρ ⟨f, s, f1, f2, f3, e⟩ => ?_) (fun dn c rest ρ N e0 ⟨f, s, f1, f2, f3, e⟩ hN => ?_)
  · subst e
    simp
    refine k f f1 ?_
    rwa [List.reverse_reverse] at f3
  · subst e
    have hdn : dn.length < 12 := by
      have := congrArg List.length e0
      simp at this; omega
    simp [SP]
    have l1 := len_trim p (mulL f b)
    have l2 := len_mul f b
    have l3 := len_trim p [c]
    have l4 := len_trim p (addL (trim p (mulL f b)) (trim p [c]))
    rw [len_add] at l4
    simp at l3
    refine ⟨p, f, b, rfl, hp, Can.sm hp f1, by omega, by omega, p, [c], rfl, hp, by simp, p, _, _, rfl, hp, by omega, by omega, ?_⟩
    refine hN _ ⟨_, .sh (.int c), (trim_ok (by omega) _).1, by simp; omega, ?_, rfl⟩
    refine (E_sp (by omega) _ _).trans ?_
    have hm : PA.E p (fun x => ev f x * ev b x) (fun x => ev dn.reverse (ev b x) * ev b x) := f3.mul (PA.E.refl _) (P1.evc (P1.ev b) _) (P1.ev b)
    refine ((PA.E.of_eq fun x => ?_).trans (hm.add (PA.E.refl fun _ => c))).trans (PA.E.of_eq fun x => ?_)
    · rw [ev_mul]; simp [ev]
    · simp only [List.reverse_append, List.reverse_cons, List.reverse_nil, List.nil_append, List.cons_append, ev]; grind
def shL (k : Nat) (c : Int) (l : List Int) : List Int := List.replicate k 0 ++ sclL c l
theorem co_shL (k : Nat) (c : Int) (l : List Int) (i : Nat) : co (shL k c l) i = if k ≤ i then c * co l (i - k) else 0 := by
  unfold shL
  by_cases h : k ≤ i
  · rw [if_pos h, ← co_scl]
    unfold co
    rw [List.getD_eq_getElem?_getD, List.getElem?_append_right (by simp; omega), List.length_replicate, List.getD_eq_getElem?_getD]
  · rw [if_neg h, co_left (by simp; omega), co_rep]
theorem ev_shL : ∀ (k : Nat) (c : Int) (l : List Int) (x : Int), ev (shL k c l) x = x ^ k * (c * ev l x)
  | 0, c, l, x => by simp [shL, ev_scl]
  | k + 1, c, l, x => by
    have := ev_shL k c l x
    unfold shL at this ⊢
    rw [List.replicate_succ, List.cons_append, ev, this, Int.pow_succ]; grind
structure DvI (p : Int) (a b : List Int) (i : Nat) (q r : List Int) : Prop where
  lq : q.length = a.length + 1 - b.length
  lr : r.length = a.length
  eq : PA.E p (ev a) (fun x => ev q x * ev b x + ev r x)
  q0 : ∀ j, j + i < a.length + 1 - b.length → co q j = 0
  r0 : ∀ j, a.length ≤ j + i → Md p (co r j) 0
theorem DvI.start (p : Int) (a b : List Int) : DvI p a b 0 (List.replicate (a.length + 1 - b.length) 0) a := by
  refine ⟨by simp, rfl, PA.E.of_eq fun x => ?_, fun j _ => co_rep _ _, fun j h => by rw [co_out (by omega)]; exact Md.refl _⟩
  have := ev_of_co (List.replicate (a.length + 1 - b.length) 0) [] (fun i => by rw [co_rep, co_nil]) x
  rw [this]; simp [ev]
def SubI (b r : List Int) (k : Nat) (c : Int) (j : Nat) (m : List Int) : Prop := m.length = r.length ∧ ∀ x, co m x = co r x - (if k ≤ x then c * co (b.take j) (x - k) else 0)
theorem SubI.start (b r : List Int) (k : Nat) (c : Int) : SubI b r k c 0 r := ⟨rfl, fun x => by simp [co_nil]⟩
theorem SubI.null (b r : List Int) (k : Nat) (j : Nat) : SubI b r k 0 j r := ⟨rfl, fun x => by simp⟩
theorem SubI.step {b r m : List Int} {k j z : Nat} {c : Int} (hz : z = k + j) (hj : j < b.length) (hk : k + j < r.length) (h : SubI b r k c j m) : SubI b r k c (j + 1) (m.set z (co m z - c * co b j)) := ⟨by rw [List.length_set]; exact h.1, fun x => by
  subst hz
  rw [co_set, take_succ_co b j hj]
  by_cases e : k + j = x
  · subst e
    rw [if_pos ⟨rfl, by rw [h.1]; omega⟩, h.2, if_pos (by omega), if_pos (by omega), co_snoc, Nat.add_sub_cancel_left, if_pos (by simp; omega), co_take, if_neg (by omega)]
    omega
  · rw [if_neg (by omega), h.2]
    by_cases hx : k ≤ x
    · rw [if_pos hx, if_pos hx, co_snoc, if_neg (by simp; omega)]
    · rw [if_neg hx, if_neg hx]⟩
theorem DvI.step {p lead : Int} {a b q r m : List Int} {i k z : Nat} (hl : Md p (co b (b.length - 1) * lead) 1) (hb : b ≠ []) (hk : k + b.length + i = a.length) (hz : z + 1 + i = a.length) (h : DvI p a b i q r) (hm : SubI b r k (co r z * lead % p) b.length m) : DvI p a b (i + 1) (q.set k (co r z * lead % p)) m := by
  have lb := List.length_pos_iff.mpr hb
  obtain ⟨m1, m2⟩ := hm
  rw [List.take_length] at m2
  generalize hc : co r z * lead % p = c at m2
  have hcm : Md p c (co r z * lead) := hc ▸ Md.mod _
  refine ⟨by rw [List.length_set]; exact h.lq, m1.trans h.lr, ?_, fun j hj => ?_, fun j hj => ?_⟩
  · have e1 : ∀ x, ev (q.set k c) x = ev q x + x ^ k * c := fun x => by
      have := ev_of_co (q.set k c) (addL q (shL k c [1])) (fun j => by
        rw [co_set, co_add, co_shL]
        by_cases e : k = j
        · subst e
          rw [if_pos ⟨rfl, by rw [h.lq]; omega⟩, if_pos (by omega), h.q0 k (by omega), Nat.sub_self, co_zero]; omega
        · rw [if_neg (by omega)]
          by_cases hx : k ≤ j
          · rw [if_pos hx, co_out (l := [1]) (by simp; omega)]; omega
          · rw [if_neg hx]; omega) x
      rw [this, ev_add, ev_shL]; simp [ev]
    have e2 : ∀ x, ev m x = ev r x - x ^ k * (c * ev b x) := fun x => by
      have := ev_of_co m (addL r (shL k (-c) b)) (fun j => by
        rw [m2, co_add, co_shL]
        by_cases hx : k ≤ j
        · rw [if_pos hx, if_pos hx]; grind
        · rw [if_neg hx, if_neg hx]; omega) x
      rw [this, ev_add, ev_shL]; grind
    exact h.eq.trans (PA.E.of_eq fun x => by rw [e1, e2]; grind)
  · rw [co_set, if_neg (by omega)]; exact h.q0 j (by omega)
  · rw [m2, if_pos (by omega)]
    by_cases e : j = z
    · subst e
      rw [show j - k = b.length - 1 by omega]
      refine ((Md.refl _).sub ((hcm.mul (Md.refl _)).trans ((Md.of_eq (by grind)).trans ((Md.refl (co r j)).mul hl)))).trans (Md.of_eq (by omega))
    · rw [co_out (l := b) (by omega)]
      exact (Md.of_eq (by omega)).trans (h.r0 j (by omega))
theorem DvI.fin {p : Int} (hp : 0 < p) {a b q r : List Int} (hb : b ≠ []) (h : DvI p a b (a.length + 1 - b.length) q r) : PA.E p (ev a) (fun x => ev (trim p q) x * ev b x + ev (trim p (r.take (b.length - 1))) x) ∧ trim p (r.take (b.length - 1)) = trim p r ∧ (trim p r).length < b.length := by
  have lb := List.length_pos_iff.mpr hb
  have e : trim p (r.take (b.length - 1)) = trim p r := trim_co hp fun i => by
    rw [co_take]
    split
    · exact Md.refl _
    · exact (h.r0 i (by omega)).symm
  refine ⟨?_, e, ?_⟩
  · rw [e]
    refine h.eq.trans (PA.E.symm ((((trim_ok hp q).2.mul (PA.E.refl _) (P1.ev q) (P1.ev b)).add (trim_ok hp r).2)))
  · rw [← e]
    have := len_trim p (r.take (b.length - 1))
    rw [List.length_take] at this; omega
theorem pl_divided : Pl N_s_divided (W_s_divided (SP dk)) 3 sp_divided := by
  intro ds K EE ⟨p, a, b, e, hp, ha, hb0, hne, h1, h2, k⟩ _
  subst e
  have hb := hp.bd
  have lb := List.length_pos_iff.mpr hne
  show W_s_divided (SP dk) EE _ [.sh (.int p), .sh (pT a), .sh (pT b), .un, .un, .un, .un, .un, .un, .un]
  simp [W_s_divided, hne, atI_lastI, SP, flat_rep]
  have hm := hb0.md hp hne
  have hcc := hb0.co (p := p) (by omega) (b.length - 1)
  refine ⟨p, _, rfl, hp, ⟨by omega, by omega⟩, fun z => hm (Md.zero.mpr z), fun lead i0 i1 hi' => ?_⟩
  refine ⟨by omega, by omega, by omega, by omega, ?_⟩
  rw [rep_iL, show (max ((a.length : Int) - b.length + 1) 0).toNat = a.length + 1 - b.length by omega]
  refine for_ran _ (-1) _ (I := fun i ρ => ∃ q r s6 s7 s8 s9, DvI p a b i q r ∧ ρ = [.sh (.int p), .sh (pT a), .sh (pT b), .sh (.int lead), .lv (iL r), .lv (iL q), s6, s7, s8, s9])
    ⟨_, _, _, _, _, _, DvI.start p a b, rfl⟩ (fun ρ ⟨q, r, s6, s7, s8, s9, hI, e⟩ => ?_) (fun i ρ N hi ⟨q, r, s6, s7, s8, s9, hI, e⟩ hN => ?_)
  · subst e
    simp
    refine ⟨p, q, rfl, hp, by rw [hI.lq]; omega, ?_⟩
    refine ⟨p, r.take (b.length - 1), ?_, hp, by rw [List.length_take]; omega, ?_⟩
    · have : ((b.length : Int) - 1) = ((b.length - 1 : Nat) : Int) := by omega
      rw [this, cut_upto, ← List.map_take]
    · rw [show ((a.length : Int) - b.length + 1).toNat = a.length + 1 - b.length by omega] at hI
      obtain ⟨f1, f2, f3⟩ := hI.fin (p := p) (by omega) hne
      simp
      rw [f2] at f1 ⊢
      exact k _ _ (trim_ok (by omega) _).1 (trim_ok (by omega) _).1 f3 f1
  · subst e
    simp
    refine ⟨_, atI_int r (by omega) (by rw [hI.lr]; omega), ?_⟩
    simp
    refine ⟨cmul' ⟨by omega, by omega⟩, by omega, _, ixN_of (by omega) (by rw [hI.lq]; omega), ?_⟩
    rw [set_iL]
    generalize hz : ((a.length : Int) - b.length + -(i : Int) + b.length).toNat - 1 = z
    generalize hk : ((a.length : Int) - b.length + -(i : Int)).toNat = kk
    have hkk : (a.length : Int) - b.length + -(i : Int) = (kk : Int) := by omega
    rw [hkk]
    by_cases h0 : co r z * lead % p = 0
    · refine .inl ⟨h0, hN _ ⟨_, _, _, _, _, _, hI.step (z := z) (k := kk) (m := r) hi' hne (by omega) (by omega) (by rw [h0]; exact SubI.null ..), rfl⟩⟩
    · refine .inr ⟨h0, ?_⟩
      refine for_en b (I := fun j ρ => ∃ m s8 s9, SubI b r kk (co r z * lead % p) j m ∧ ρ = [.sh (.int p), .sh (pT a), .sh (pT b), .sh (.int lead), .lv (iL m), .lv (iL (q.set kk (co r z * lead % p))), .sh (.int kk), .sh (.int (co r z * lead % p)), s8, s9])
        ⟨r, _, _, SubI.start .., rfl⟩ (fun ρ ⟨m, s8, s9, hm, e⟩ => hN ρ ⟨_, _, _, _, s8, s9, hI.step (z := z) (k := kk) hi' hne (by omega) (by omega) hm, e⟩) (fun j ρ N hj ⟨m, s8, s9, hm, e⟩ hN => ?_)
      subst e
      have lr := hI.lr
      have lm := hm.1
      have l3 : kk + j < m.length := by omega
      have := md_bd (p := p) (by omega) (co r z * lead)
      simp
      refine ⟨kk + j, by rw [ixN_of (by omega) (by omega)]; congr 1, _, ⟨_, List.getElem?_eq_getElem l3, rfl⟩, cmul (by omega), hN _ ⟨_, .sh (.int j), .sh (.int (co b j)), SubI.step (z := kk + j) rfl hj (by omega) hm, ?_⟩⟩
      rw [co_at l3]
      simp only [List.map_set]
theorem pl__law_div : Pl N_s__law_div (W_s__law_div (SP dk)) 3 sp_divided := by
  intro ds K EE ⟨p, a, b, e, hp, ha, hb0, hne, h1, h2, k⟩ _
  subst e
  have hb := hp.bd
  have lb := List.length_pos_iff.mpr hne
  show W_s__law_div (SP dk) EE _ [.sh (.int p), .sh (pT a), .sh (pT b), .un, .un, .un, .un, .un]
  simp [W_s__law_div, atI_lastI, hne, SP, flat_rep]
  have hm := hb0.md hp hne
  have hcc := hb0.co (p := p) (by omega) (b.length - 1)
  refine ⟨by omega, by omega, p, _, rfl, hp, ⟨by omega, by omega⟩, fun z => hm (Md.zero.mpr z), fun lead i0 i1 hi' => ?_⟩
  refine ⟨by omega, by omega, ?_⟩
  rw [rep_iL, show (max ((a.length : Int) - b.length + 1) 0).toNat = a.length + 1 - b.length by omega]
  refine for_ran _ (-1) _ (I := fun i ρ => ∃ q r s6 s7, DvI p a b i q r ∧ ρ = [.sh (.int p), .sh (pT a), .sh (pT b), .lv (iL r), .lv (iL q), .sh (.int lead), s6, s7])
    ⟨_, _, _, _, DvI.start p a b, rfl⟩ (fun ρ ⟨q, r, s6, s7, hI, e⟩ => ?_) (fun i ρ N hi ⟨q, r, s6, s7, hI, e⟩ hN => ?_)
  · subst e
    simp
    refine ⟨p, q, rfl, hp, by rw [hI.lq]; omega, p, r, rfl, hp, by rw [hI.lr]; omega, ?_⟩
    rw [show ((a.length : Int) - b.length + 1).toNat = a.length + 1 - b.length by omega] at hI
    obtain ⟨f1, f2, f3⟩ := hI.fin (p := p) (by omega) hne
    rw [f2] at f1
    simp
    exact k _ _ (trim_ok (by omega) _).1 (trim_ok (by omega) _).1 f3 f1
  · subst e
    simp
    refine ⟨_, atI_int r (by omega) (by rw [hI.lr]; omega), ?_⟩
    simp
    refine ⟨cmul' ⟨by omega, by omega⟩, by omega, _, ixN_of (by omega) (by rw [hI.lq]; omega), ?_⟩
    rw [set_iL]
    generalize hz : ((a.length : Int) - b.length + -(i : Int) + b.length).toNat - 1 = z
    generalize hk : ((a.length : Int) - b.length + -(i : Int)).toNat = kk
    have hkk : (a.length : Int) - b.length + -(i : Int) = (kk : Int) := by omega
    rw [hkk]
    refine ⟨by omega, ?_⟩
    have c0 : co (q.set kk (co r z * lead % p)) kk = co r z * lead % p := by
      have := hI.lq
      rw [co_set, if_pos ⟨rfl, by omega⟩]
    refine for_one 0 _ (I := fun j ρ => ∃ m s7, SubI b r kk (co r z * lead % p) j m ∧ ρ = [.sh (.int p), .sh (pT a), .sh (pT b), .lv (iL m), .lv (iL (q.set kk (co r z * lead % p))), .sh (.int lead), .sh (.int kk), s7])
      ⟨r, _, SubI.start .., rfl⟩ (fun ρ ⟨m, s7, hm, e⟩ => hN ρ ⟨_, _, _, s7, hI.step (z := z) (k := kk) hi' hne (by omega) (by omega) hm, e⟩) (fun j ρ N hj ⟨m, s7, hm, e⟩ hN => ?_)
    subst e
    have lr := hI.lr
    have lq := hI.lq
    have lm := hm.1
    have l3 : kk + j < m.length := by omega
    have := md_bd (p := p) (by omega) (co r z * lead)
    simp only [e_setI, e_bor, e_bin, e_var, e_gdName, List.set_cons_succ, List.set_cons_zero, List.getElem?_cons_succ, List.getElem?_cons_zero, Option.some.injEq, Sl.lv.injEq, Sl.sh.injEq, exists_eq_left', k_add, k_ixL, k_ixT, Int.zero_add]
    refine ⟨_, atI_int m (by omega) (by omega), _, atI_int _ (by omega) (by rw [List.length_set]; omega), _, atI_int b (by omega) (by omega), ?_⟩
    rw [k_mul]
    refine ⟨cmul ?_, ?_⟩
    · rw [Int.toNat_natCast, c0]; omega
    · rw [k_sub]
      refine ⟨rfl, rfl, _, _, rfl, ixN_of (by omega) (by simp; omega), hN _ ⟨_, .sh (.int j), SubI.step (z := kk + j) rfl (by omega) (by omega) hm, ?_⟩⟩
      rw [Int.toNat_natCast, Int.toNat_natCast, c0, show ((kk : Int) + j).toNat = kk + j by omega]
      simp only [List.map_set]
theorem pl_remainder : Pl N_s_remainder (W_s_remainder (SP dk)) 3 sp_remainder := by
  intro ds K EE ⟨p, a, b, e, hp, ha, hb, hne, h1, h2, k⟩ _
  subst e
  show W_s_remainder (SP dk) EE _ [.sh (.int p), .sh (pT a), .sh (pT b)]
  simp [W_s_remainder, SP]
  exact ⟨p, a, b, rfl, hp, ha, hb, hne, h1, h2, fun q r _ c2 l e => ⟨_, rfl, k q r c2 l e⟩⟩
/-- Euclid: the state -/
structure Euc (p : Int) (a b A B : List Int) : Prop where
  ca : Can p A
  cb : Can p B
  la : A.length ≤ 100
  lb : B.length ≤ 100
  l1 : Lin p (ev a) (ev b) (ev A)
  l2 : Lin p (ev a) (ev b) (ev B)
  m1 : Lin p (ev A) (ev B) (ev a)
  m2 : Lin p (ev A) (ev B) (ev b)
theorem Euc.start {p : Int} {a b : List Int} (ha : Can p a) (hb : Can p b) (h1 : a.length ≤ 100) (h2 : b.length ≤ 100) : Euc p a b a b :=
  ⟨ha, hb, h1, h2, Lin.left, Lin.right, Lin.left, Lin.right⟩
theorem Euc.step {p : Int} {a b A B q r : List Int} (h : Euc p a b A B) (hr : Can p r) (hl : r.length < B.length) (e : PA.E p (ev A) (fun x => ev q x * ev B x + ev r x)) : Euc p a b B r := by
  have hrl : r.length ≤ 100 := by have := h.lb; omega
  have lr : Lin p (ev a) (ev b) (ev r) := by
    refine Lin.to (Lin.comb (P1.ev a) (P1.ev b) (P1.const 1) ((P1.ev q).neg) h.l1 h.l2) ?_
    refine (PA.E.of_eq fun x => ?_).trans ((e.symm.sub (PA.E.refl fun x => ev q x * ev B x)).trans (PA.E.of_eq fun x => ?_))
    · (try dsimp only); omega
    · (try dsimp only); grind
  have lA : Lin p (ev B) (ev r) (ev A) := ⟨_, _, P1.ev q, P1.const 1, e.trans (PA.E.of_eq fun x => by (try dsimp only); omega)⟩
  exact ⟨h.cb, hr, h.lb, hrl, h.l2, lr, Lin.trans (P1.ev B) (P1.ev r) lA Lin.left h.m1, Lin.trans (P1.ev B) (P1.ev r) lA Lin.left h.m2⟩
theorem Euc.fin {p i : Int} (hp : Ps p) {a b A : List Int} (h : Euc p a b A []) (hi : A ≠ [] → Md p (co A (A.length - 1) * i) 1) {K : List Int → Prop}
    (k : ∀ c s t, Can p c → P1 s → P1 t → Lin p (ev a) (ev b) (ev c) → PA.E p (ev a) (fun x => s x * ev c x) → PA.E p (ev b) (fun x => t x * ev c x) → K c) : K (trim p (sclL i A)) := by
  have hb := hp.bd
  have e0 : PA.E p (ev (trim p (sclL i A))) (fun x => i * ev A x) := (trim_ok (by omega) _).2.trans (PA.E.of_eq fun x => ev_scl i A x)
  have back : ∃ d, PA.E p (ev A) (fun x => d * ev (trim p (sclL i A)) x) := by
    by_cases hA : A = []
    · subst hA; exact ⟨0, PA.E.of_eq fun x => by simp [ev]⟩
    · refine ⟨co A (A.length - 1), sc_E (i := co A (A.length - 1)) (κ := i) ((Md.of_eq (Int.mul_comm _ _)).trans (hi hA)) (P1.ev A) (P1.ev _) e0⟩
  obtain ⟨d, hd⟩ := back
  have go : ∀ {f : List Int}, Lin p (ev A) (ev []) (ev f) → ∃ s, P1 s ∧ PA.E p (ev f) (fun x => s x * ev (trim p (sclL i A)) x) := fun {f} ⟨u, v, hu, hv, e⟩ => by
    refine ⟨fun x => u x * d, hu.mul (P1.const d), e.trans ?_⟩
    refine (PA.E.of_eq fun x => ?_).trans (((PA.E.refl u).mul hd hu ((P1.const d).mul (P1.ev _))).trans (PA.E.of_eq fun x => ?_))
    · simp [ev]
    · (try dsimp only); grind
  obtain ⟨s, hs, es⟩ := go h.m1
  obtain ⟨t, ht, et⟩ := go h.m2
  refine k _ s t (trim_ok (by omega) _).1 hs ht ?_ es et
  refine Lin.to (Lin.comb (P1.ev a) (P1.ev b) (P1.const i) (P1.const 0) h.l1 h.l1) (e0.trans (PA.E.of_eq fun x => by (try dsimp only); omega))
theorem pl_common : Pl N_s_common (W_s_common (SP dk)) 3 sp_common := by
  intro ds K EE ⟨p, a, b, e, hp, ha, hb, h1, h2, k⟩ _
  subst e
  show W_s_common (SP dk) EE _ [.sh (.int p), .sh (pT a), .sh (pT b)]
  simp [W_s_common]
  refine while_of (I := fun n ρ => ∃ A B, B.length = n ∧ Euc p a b A B ∧ ρ = [.sh (.int p), .sh (pT A), .sh (pT B)]) (n := b.length) (fun n ρ N ⟨A, B, e1, hE, e⟩ hN => ?_) ⟨a, b, rfl, Euc.start ha hb h1 h2, rfl⟩
  subst e
  by_cases hB : B = []
  · subst hB
    simp [SP]
    exact ⟨p, A, rfl, hp, hE.ca, by have := hE.la; omega, fun i hi => hE.fin (K := fun l => K (pT l)) hp (fun h => (hi h).2.2) k⟩
  · simp [hB, SP]
    exact ⟨p, A, B, rfl, hp, hE.ca, hE.cb, hB, hE.la, hE.lb, fun q r cr l e => hN r.length _ (by omega) ⟨B, r, rfl, hE.step cr l e, rfl⟩⟩
theorem pl__law_common : Pl N_s__law_common (W_s__law_common (SP dk)) 3 sp_common := by
  intro ds K EE ⟨p, a, b, e, hp, ha, hb, h1, h2, k⟩ _
  subst e
  have hbd := hp.bd
  show W_s__law_common (SP dk) EE _ [.sh (.int p), .sh (pT a), .sh (pT b), .un]
  simp [W_s__law_common]
  refine while_of (I := fun n ρ => ∃ A B, B.length = n ∧ Euc p a b A B ∧ ρ = [.sh (.int p), .sh (pT A), .sh (pT B), .un]) (n := b.length) (fun n ρ N ⟨A, B, e1, hE, e⟩ hN => ?_) ⟨a, b, rfl, Euc.start ha hb h1 h2, rfl⟩
  subst e
  by_cases hB : B = []
  · subst hB
    by_cases hA : A = []
    · subst hA
      simp [kGt]
      have := hE.fin (i := 0) (K := fun l => K (pT l)) hp (fun h => absurd rfl h) k
      simp [sclL, trim, PA.strip] at this
      exact this
    · simp [kGt, hA, SP]
      have hm := hE.ca.md hp hA
      have hcc := hE.ca.co (p := p) (by omega) (A.length - 1)
      obtain ⟨i, i0, i1, hi⟩ := hp.inv (fun z => hm (Md.zero.mpr z))
      refine comp_int D.int (fun c => c * i) A (fun c hc N h => ?_) ?_
      · have sc := Can.sm hp hE.ca c hc
        simp [hA, atI_lastI]
        refine ⟨p, _, rfl, hp, ⟨by omega, by omega⟩, fun z => hm (Md.zero.mpr z), fun j j0 j1 hj => ?_⟩
        have : j = i := by
          have q := (((Md.refl i).mul hj).symm.trans ((Md.of_eq (by grind)).trans (hi.mul (Md.refl j)))).trans (Md.of_eq (Int.one_mul j))
          have q2 := (Md.of_eq (Int.mul_one i)).symm.trans q
          exact (q2.eq ⟨by omega, by omega⟩ ⟨by omega, by omega⟩).symm
        subst this
        simpa using ⟨cmul sc, h⟩
      · refine ⟨p, A.map fun c => c * i, rfl, hp, by have := hE.la; simp; omega, ?_⟩
        have e : (A.map fun c => c * i) = sclL i A := by simp [sclL, Int.mul_comm]
        rw [e]
        exact hE.fin (K := fun l => K (pT l)) hp (fun _ => hi) k
  · have := List.length_pos_iff.mpr hB
    simp [kGt, hB, SP]
    refine ⟨this, ?_⟩
    exact ⟨p, A, B, rfl, hp, hE.ca, hE.cb, hB, hE.la, hE.lb, fun q r _ cr l e => ⟨_, rfl, hN r.length _ (by omega) ⟨B, r, rfl, hE.step cr l e, rfl⟩⟩⟩
end K83
end
section
set_option Elab.async false
set_option linter.all false
set_option maxHeartbeats 1000000
set_option maxRecDepth 10000
/-! P83d: powers, spreading out, zeros, ways. -/
namespace K83
open PySem PySem.Spec PyProof.Rows L2 DL PA
variable {dk : Addr}
theorem pw_loop {S : Sps} {E : Exc → Prop} {K : D → Prop} {p a e : Int} (hp : Ps p) (ha : Sm a) (he : 0 ≤ e) (k : ∀ r, 0 ≤ r → r < p → Md p r (a ^ e.toNat) → K (.int r)) :
    wWhile (wB (wBin kGt (wVar 2) (wC (.int 0)))) (wSeq (wIfS (wB (wBin kEq (wBin kMod (wVar 2) (wC (.int 2))) (wC (.int 1)))) (wSet 3 (wBin kMod (wBin kMul (wVar 3) (wVar 1)) (wVar 0))) wNext) (wSeq (wSet 1 (wBin kMod (wBin kMul (wVar 1) (wVar 1)) (wVar 0))) (wAug 2 kDiv (wC (.int 2)))))
      { nx := wRet (wVar 3) { nx := fun _ => K .non, rt := K }, rt := K } [.sh (.int p), .sh (.int a), .sh (.int e), .sh (.int 1)] := by
  have hb := hp.bd
  refine while_of (I := fun n ρ => ∃ b f d : Int, d.toNat = n ∧ 0 ≤ d ∧ Sm b ∧ 0 ≤ f ∧ f < p ∧ Md p (f * b ^ d.toNat) (a ^ e.toNat) ∧ ρ = [.sh (.int p), .sh (.int b), .sh (.int d), .sh (.int f)]) (n := e.toNat) (fun n ρ N ⟨b, f, d, h1, h2, h3, h4, h5, h6, q⟩ hN => ?_)
    ⟨a, 1, e, rfl, he, ha, by omega, by omega, Md.of_eq (by omega), rfl⟩
  subst q
  by_cases he : 0 < d
  · by_cases hq : d % 2 = 1
    · simp [he, hq, kGt]
      have m1 := md_bd (p := p) (by omega) (b * b)
      have m2 := md_bd (p := p) (by omega) (f * b)
      exact ⟨cmul (by omega), by omega, cmul h3, by omega, hN _ _ (by omega) ⟨_, _, _, rfl, by omega, ⟨by omega, by omega⟩, m2.1, m2.2, (pw_odd (by omega) hq).trans h6, rfl⟩⟩
    · simp [he, hq, kGt]
      have m1 := md_bd (p := p) (by omega) (b * b)
      exact ⟨cmul h3, by omega, hN _ _ (by omega) ⟨_, _, _, rfl, by omega, ⟨by omega, by omega⟩, h4, h5, (pw_even (by omega) hq).trans h6, rfl⟩⟩
  · have e0 : d = 0 := by omega
    subst e0
    simp [kGt]
    simp only [Int.toNat_zero, Int.pow_zero, Int.mul_one] at h6
    exact k f h4 h5 h6
theorem hm_snoc (c : Int) (X Z : Int) : ∀ (u : List Int) (m : Nat), u.length ≤ m → hm (u ++ [c]) m X Z = hm u m X Z + c * X ^ u.length * Z ^ (m - u.length)
  | [], m, _ => by simp [hm]
  | d :: u, m, h => by
    simp only [List.length_cons] at h
    obtain ⟨m, rfl⟩ : ∃ m', m = m' + 1 := ⟨m - 1, by omega⟩
    simp only [List.cons_append, hm, Nat.add_sub_cancel, List.length_cons]
    rw [hm_snoc c X Z u m (by omega), show m + 1 - (u.length + 1) = m - u.length by omega, Int.pow_succ]
    grind
theorem one_can {p : Int} (hp : Ps p) : Can p [1] := by
  have := hp.bd
  exact ⟨fun c hc => by simp at hc; omega, fun h => by simp⟩
theorem int_inj {l m : List Int} (h : l.map D.int = m.map D.int) : l = m := (List.map_inj_right fun x y e => by injection e).mp h
theorem cv_inj {p q : Int} {f g : List Int} (h : cv p f = cv q g) : p = q ∧ f = g := by
  unfold cv at h
  injection h with _ h
  injection h with h1 h2
  injection h2 with h2 _
  injection h1 with h1
  injection h2 with h2
  exact ⟨h1, int_inj h2⟩
@[simp] theorem cv_obj {p : Int} {f : List Int} : (∃ x, cv p f = D.obj 0 x) ↔ True := ⟨fun _ => trivial, fun _ => ⟨_, rfl⟩⟩
@[simp] theorem cv_p {p : Int} {f : List Int} {K : D → Prop} {E : Exc → Prop} : pp_p [cv p f] K E = K (.int p) :=
  propext ⟨fun ⟨q, g, e, k⟩ => by
    injection e with e
    rw [(cv_inj e).1]; exact k, fun k => ⟨p, f, rfl, k⟩⟩
@[simp] theorem cv_f {p : Int} {f : List Int} {K : D → Prop} {E : Exc → Prop} : pp_f [cv p f] K E = K (pT f) :=
  propext ⟨fun ⟨q, g, e, k⟩ => by
    injection e with e
    rw [(cv_inj e).2]; exact k, fun k => ⟨p, f, rfl, k⟩⟩
@[simp] theorem cv_g {p : Int} {f : List Int} {K : D → Prop} {E : Exc → Prop} : pp_genus [cv p f] K E = K (.int (((f.length : Int) - 1) / 2)) :=
  propext ⟨fun ⟨q, g, e, k⟩ => by
    injection e with e
    rw [(cv_inj e).2]; exact k, fun k => ⟨p, f, rfl, k⟩⟩
theorem ev_two' (b a x : Int) : ev [b, a] x = a * x + b := by simp [ev]; grind
theorem Cv.gen {p : Int} {f : List Int} (h : Cv p f) : 2 * (((f.length : Int) - 1) / 2) + 2 = (f.length : Int) := by
  rcases h.len with e | e | e | e <;> rw [e] <;> rfl
theorem Cv.ne {p : Int} {f : List Int} (h : Cv p f) : f ≠ [] := fun e => by
  have := h.len; rw [e] at this; simp at this
end K83
end
section
set_option Elab.async false
set_option linter.all false
set_option maxHeartbeats 1000000
set_option maxRecDepth 10000
/-! P83e: is_turn, zeros, ways. -/
namespace K83
open PySem PySem.Spec PyProof.Rows L2 DL PA
variable {dk : Addr}
theorem lay_iL : ∀ l : List Int, PyData.canLayAll0 (D.pyL (iL l)) = true ∧ PyData.depthAll (D.pyL (iL l)) ≤ 1
  | [] => by
    simp only [List.map_nil]
    simp [D.pyL, PyData.canLayAll0, PyData.depthAll]
  | c :: l => by
    obtain ⟨a, b⟩ := lay_iL l
    have e : D.pyL (iL (c :: l)) = .int c :: D.pyL (iL l) := rfl
    rw [e]
    simp only [PyData.canLayAll0, PyData.canLay0, PyData.depthAll, PyData.depth, a, Bool.and_self]
    exact ⟨trivial, by omega⟩
theorem shp_pT (l : List Int) : (pT l).shp = true := by
  obtain ⟨a, b⟩ := lay_iL l
  have h1 : (pT l).pure = true := (pyL_ints l).1
  have h2 : (pT l).py.depth ≤ 64 := by
    show PyData.depth (.tuple (D.pyL (iL l))) ≤ 64
    simp only [PyData.depth]; omega
  have h3 : (pT l).py.canLay0 = true := by
    show PyData.canLay0 (.tuple (D.pyL (iL l))) = true
    simp only [PyData.canLay0]; exact a
  unfold D.shp
  rw [h1, SeqAt.shaped, h3, decide_eq_true h2]; rfl
theorem k_eqP {a b : List Int} {K : D → Prop} : kEq (pT a) (pT b) K = K (.bl (decide (a = b))) := by
  rw [k_eqT]
  have e : D.eqb (.tup (List.map D.int a)) (pT b) = decide (a = b) := by
    rw [← eqb_ints a b]
    simp only [D.eqb]
  rw [e]
  exact propext ⟨fun h => h.2.2, fun h => ⟨shp_pT a, shp_pT b, h⟩⟩
theorem k_neP {a b : List Int} {K : D → Prop} : kNe (pT a) (pT b) K = K (.bl (!decide (a = b))) := by
  rw [k_neT]
  have e : D.eqb (.tup (List.map D.int a)) (pT b) = decide (a = b) := by
    rw [← eqb_ints a b]
    simp only [D.eqb]
  rw [e]
  exact propext ⟨fun h => h.2.2, fun h => ⟨shp_pT a, shp_pT b, h⟩⟩
@[simp high] theorem k_ne2 {a b c d : Int} {K : D → Prop} : kNe (.tup [.int a, .int b]) (.tup [.int c, .int d]) K = K (.bl (!decide (a = c ∧ b = d))) := by
  show kNe (pT [a, b]) (pT [c, d]) K = _
  rw [k_neP]
  simp
theorem comp_blI {t : WG} {fe : WE} {ρ0 : DL.Env} {K : List D → Prop} (l : List D) (u : D → Bool) (step : ∀ c ∈ l, ∀ N : D → Prop, N (.bl (u c)) → t c ρ0 fun ρ1 => fe ρ1 N) (h : K ((l.map u).map D.bl)) : lcL t wYes fe ρ0 l [] K := by
  have := comp_bl (t := t) (fe := fe) (ρ0 := ρ0) (K := K) id u l step h
  rwa [List.map_id] at this
theorem Cv.gen_eq {p q : Int} {f g : List Int} (h : Cv p f) (h' : Cv q g) : ((f.length : Int) - 1) / 2 = ((g.length : Int) - 1) / 2 ↔ f.length = g.length := by
  have := h.len; have := h'.len; omega
theorem cnt_int {x : D} {lo hi : Int} (h : cntB x lo hi = true) : ∃ i, x = .int i ∧ lo ≤ i ∧ i ≤ hi := by
  cases x <;> simp [cntB] at h
  exact ⟨_, rfl, h⟩
theorem five {xs : List D} {p : Int} (hl : xs.length = 5) (h : ∀ x ∈ xs, cntB x 0 (p - 1) = true) : ∃ a b c d e : Int, xs = [.int a, .int b, .int c, .int d, .int e] ∧ (0 ≤ a ∧ a < p) ∧ (0 ≤ b ∧ b < p) ∧ (0 ≤ c ∧ c < p) ∧ (0 ≤ d ∧ d < p) ∧ (0 ≤ e ∧ e < p) := by
  match xs, hl with
  | [x1, x2, x3, x4, x5], _ =>
    obtain ⟨a, rfl, _, _⟩ := cnt_int (h x1 (by simp))
    obtain ⟨b, rfl, _, _⟩ := cnt_int (h x2 (by simp))
    obtain ⟨c, rfl, _, _⟩ := cnt_int (h x3 (by simp))
    obtain ⟨d, rfl, _, _⟩ := cnt_int (h x4 (by simp))
    obtain ⟨e, rfl, _, _⟩ := cnt_int (h x5 (by simp))
    exact ⟨a, b, c, d, e, rfl, by omega, by omega, by omega, by omega, by omega⟩
theorem tD_inj {s t : T5} (h : tD s = tD t) : s = t := by
  have h2 : (tL s).map D.int = (tL t).map D.int := by injection h
  have h3 := int_inj h2
  obtain ⟨a, b, c, d, e⟩ := s
  obtain ⟨a', b', c', d', e'⟩ := t
  simp [tL] at h3
  simp [h3]
theorem turn_cnt {p : Int} {t : T5} (h : Nrm p t) : ∀ x ∈ (tL t).map D.int, cntB x 0 (p - 1) = true := by
  obtain ⟨a, b, c, d, e⟩ := t
  have h1 := h.ba; have h2 := h.bb; have h3 := h.bc; have h4 := h.bd; have h5 := h.be
  simp only at h1 h2 h3 h4 h5
  intro x hx
  simp [tL] at hx
  rcases hx with rfl | rfl | rfl | rfl | rfl <;> simp [cntB] <;> omega
theorem upTo_eq (p : Int) : upTo p = ranL 0 p.toNat := by unfold upTo ranL; simp
theorem pl_zeros_of : Pl N_s_zeros_of (W_s_zeros_of (SP dk)) 1 sp_zeros_of := by
  intro ds K EE ⟨p, f, e, hf, k⟩ _
  subst e
  have hb := hf.ps.bd
  show W_s_zeros_of (SP dk) EE _ [.sh (cv p f), .un]
  simp [W_s_zeros_of, SP]
  refine ⟨by omega, by omega, ?_⟩
  rw [ranD_eq]
  refine comp_filt D.int D.int (fun x => ev f x % p == 0) _ [] (fun c hc M N h1 h2 => ?_) ?_
  · simp
    refine ⟨p, f, c, rfl, hf.ps, by have := hf.len; omega, ?_⟩
    by_cases hq : ev f c % p = 0
    · simp [hq] at h1 ⊢; exact h1
    · simp [hq] at h2 ⊢; exact h2
  · rw [← upTo_eq]; exact k
theorem pl_turned_numbers : Pl N_s_turned_numbers (W_s_turned_numbers (SP dk)) 3 sp_turned_numbers := by
  intro ds K EE ⟨p, row, kk, e, hp, h0, h1, hl, k⟩ _
  subst e
  have hb := hp.bd
  show W_s_turned_numbers (SP dk) EE _ [.sh (.int p), .sh (pT row), .sh (.int kk), .un, .un, .un]
  simp [W_s_turned_numbers]
  refine for_pre D.int row (I := fun dn ρ => ∃ (m : List Int) (w : Int) (s : Sl), 0 ≤ w ∧ w < p ∧ m.length = dn.length ∧ (∀ rest, tnL p kk (dn ++ rest) 1 = m ++ tnL p kk rest w) ∧ ρ = [.sh (.int p), .sh (pT row), .sh (.int kk), .lv (iL m), .sh (.int w), s])
    ⟨[], 1, .un, by omega, by omega, rfl, fun rest => rfl, rfl⟩ (fun ρ ⟨m, w, s, w0, w1, m1, m2, e⟩ => ?_) (fun dn c rest ρ N e0 ⟨m, w, s, w0, w1, m1, m2, e⟩ hN => ?_)
  · subst e
    simp
    have := m2 []
    simp [tnL] at this
    rw [this] at k
    exact k
  · subst e
    have hdn : dn.length < row.length := by
      have := congrArg List.length e0
      simp at this; omega
    have mb := md_bd (p := p) (by omega) (w * kk)
    simp
    refine ⟨cmul' ⟨by omega, by omega⟩, by omega, by omega, cmul ⟨by omega, by omega⟩, by omega, hN _ ⟨m ++ [c * w % p], _, .sh (.int c), mb.1, mb.2, by simp [m1], fun rest => ?_, by simp⟩⟩
    rw [List.append_assoc, m2]
    simp [tnL]
theorem sq_two {p e u : Int} (hp : Ps p) (h1 : 0 < e ∧ e < p) (h2 : 0 < u ∧ u < p) (h : Md p (e * e) (u * u)) : e = u ∨ e = p - u := by
  have h3 : Md p ((e - u) * (e + u)) 0 := (Md.of_eq (by grind)).trans ((h.sub (Md.refl (u * u))).trans (Md.of_eq (by omega)))
  by_cases hz : Md p (e - u) 0
  · left
    have := hz.add (Md.refl u)
    exact ((Md.of_eq (by omega)).trans (this.trans (Md.of_eq (by omega)))).eq ⟨by omega, h1.2⟩ ⟨by omega, h2.2⟩
  · right
    have h4 := hp.prime h3 hz
    have h5 : Md p e (p - u) := by
      refine (Md.of_eq (by omega : e = (e + u) + -u)).trans ((h4.add (Md.refl (-u))).trans ?_)
      exact Md.iff.mpr ⟨-1, by omega⟩
    exact h5.eq ⟨by omega, h1.2⟩ ⟨by omega, by omega⟩
theorem pl_ways : Pl N_s_ways (W_s_ways (SP dk)) 3 sp_ways := by
  intro ds K EE ⟨p, L, R, e, hp, hlr, hl, hne, bL, bR, nL, nR, k⟩ _
  subst e
  have hb := hp.bd
  have hLl := List.length_pos_iff.mpr hne
  have hneR : R ≠ [] := fun e => by rw [e] at hlr; simp at hlr; exact hne hlr
  show W_s_ways (SP dk) EE _ [.sh (.int p), .sh (.lst (iL L)), .sh (pT R), .un, .un, .un, .un]
  have bco : ∀ {l : List Int}, (∀ c ∈ l, 0 ≤ c ∧ c < p) → ∀ i, 0 ≤ co l i ∧ co l i < p := fun {l} h i => by
    by_cases hi : i < l.length
    · rw [co_at hi]; exact h _ (List.getElem_mem _)
    · rw [co_out (by omega)]; omega
  have cR := bco bR (R.length - 1)
  have cL := bco bL (L.length - 1)
  have hR0 : ¬ Md p (co R (R.length - 1)) 0 := fun z => nR (z.eq cR ⟨by omega, by omega⟩)
  simp [W_s_ways, SP, atI_lastI, hne]
  refine ⟨_, atI_lastI R hneR, p, _, rfl, hp, ⟨by omega, by omega⟩, fun z => hR0 (Md.zero.mpr z), fun i i0 i1 hi => ?_⟩
  simp
  refine ⟨cmul ⟨by omega, by omega⟩, by omega, ?_⟩
  generalize hF : co L (L.length - 1) * i % p = F
  have hFb : 0 ≤ F ∧ F < p := hF ▸ md_bd (by omega) _
  have hFm : Md p F (co L (L.length - 1) * i) := hF ▸ Md.mod _
  -- e is a way exactly if e e is F and all others agree
  have one : ∀ e, (∀ j, j < L.length → Md p (co L j) (e * e * co R j)) → Md p (e * e) F := fun e h => by
    have := h (L.length - 1) (by omega)
    rw [hlr] at this hFm
    refine Md.symm (hFm.trans ((this.mul (Md.refl i)).trans ((Md.of_eq (by grind)).trans (((Md.refl (e * e)).mul hi).trans (Md.of_eq (by omega))))))
  rw [show List.map D.int R = iL R from rfl, zpD_eq]
  refine comp_bl _ (fun c : Int × Int => (c.1 - F * c.2) % p != 0) _ (fun c hc N h => ?_) ?_
  · simp
    exact ⟨cmul ⟨by omega, by omega⟩, by omega, h⟩
  refine ⟨_, bls_of _, ?_⟩
  by_cases hall : ∀ j, j < L.length → Md p (co L j) (F * co R j)
  case neg =>
    have : true ∈ (L.zip R).map fun c : Int × Int => (c.1 - F * c.2) % p != 0 := by
      refine Classical.byContradiction fun hn => hall fun j hj => ?_
      refine Classical.byContradiction fun hz => hn (List.mem_map.mpr ⟨(L[j], R[j]), ?_, ?_⟩)
      · rw [← List.getElem_zip (h := by rw [List.length_zip]; omega)]; exact List.getElem_mem _
      · simp only [bne_iff_ne]
        intro z
        rw [co_at hj, co_at (by omega)] at hz
        exact hz z
    rw [if_pos this]
    refine k [] ⟨List.nodup_nil, rfl, by simp, fun e => ⟨fun h => by simp at h, fun ⟨e0, e1, h⟩ => ?_⟩⟩
    exact absurd (fun j hj => (h j hj).trans ((one e h).mul (Md.refl _))) hall
  have hno : ¬ true ∈ (L.zip R).map fun c : Int × Int => (c.1 - F * c.2) % p != 0 := fun h => by
    obtain ⟨c, hc, q⟩ := List.mem_map.mp h
    obtain ⟨j, hj, e⟩ := List.mem_iff_getElem.mp hc
    rw [List.length_zip] at hj
    have := hall j (by omega)
    rw [co_at (by omega), co_at (by omega)] at this
    rw [List.getElem_zip] at e
    subst e
    simp only [bne_iff_ne] at q
    exact q this
  rw [if_neg hno]
  have hF0 : F ≠ 0 := fun e => by
    subst e
    have := hall (L.length - 1) (by omega)
    exact nL ((this.trans (Md.of_eq (by omega))).eq cL ⟨by omega, by omega⟩)
  have way : ∀ e, 0 < e → e < p → (Md p (e * e) F ↔ ∀ j, j < L.length → Md p (co L j) (e * e * co R j)) := fun e e0 e1 =>
    ⟨fun h j hj => (hall j hj).trans (h.symm.mul (Md.refl _)), one e⟩
  refine ⟨p, F, rfl, hp, hFb.1, hFb.2, fun x x0 x1 hx => ?_, fun hx => ?_⟩
  · have x2 : x ≠ 0 := fun e => by subst e; exact hF0 (hx.symm.eq hFb ⟨by omega, by omega⟩)
    simp [D.isNon]
    refine k [x, p - x] ⟨?_, by simp, by simp, fun e => ?_⟩
    · have := hp.odd
      simp; omega
    · have hx' : Md p ((p - x) * (p - x)) F := (Md.iff.mpr ⟨p - 2 * x, by grind⟩ : Md p ((p - x) * (p - x)) (x * x)).trans hx
      simp only [List.mem_cons, List.not_mem_nil, or_false]
      constructor
      · rintro (rfl | rfl)
        · exact ⟨by omega, x1, (way _ (by omega) x1).mp hx⟩
        · exact ⟨by omega, by omega, (way _ (by omega) (by omega)).mp hx'⟩
      · rintro ⟨e0, e1, h⟩
        exact sq_two hp ⟨e0, e1⟩ ⟨by omega, x1⟩ ((one e h).trans hx.symm)
  · simp [D.isNon]
    exact k [] ⟨List.nodup_nil, rfl, by simp, fun e => ⟨fun h => by simp at h, fun ⟨e0, e1, h⟩ => absurd (one e h) (hx e)⟩⟩
end K83
end
section
set_option Elab.async false
set_option linter.all false
set_option maxHeartbeats 1000000
set_option maxRecDepth 10000
/-! P83f: the turns, one by one. -/
namespace K83
open PySem PySem.Spec PyProof.Rows L2 DL PA
variable {dk : Addr}
theorem E_ev {p : Int} {s s' : Int → Int} (h : PA.E p s s') (h1 : P1 s') (g : List Int) : PA.E p (fun x => ev g (s x)) (fun x => ev g (s' x)) := by
  refine (PA.E.of_eq fun x => ?_).trans ((PA.E.hm h (PA.E.refl fun _ => 1) h1 (P1.const 1) g g.length).trans (PA.E.of_eq fun x => ?_))
  · rw [hm_one]
  · rw [hm_one]
theorem Md_ev {p x y : Int} (h : Md p x y) (g : List Int) : Md p (ev g x) (ev g y) := by
  have := (E_ev (p := p) (s := fun _ => x) (s' := fun _ => y) (PA.E.const h) (P1.const y) g).at 0
  exact this
theorem shift_len {p x : Int} (hp : Ps p) {g r : List Int} (cg : Can p g) (hne : g ≠ []) (cr : Can p r) (h : PA.E p (ev r) (fun t => ev g (x + t))) : r.length = g.length ∧ Md p (co r (g.length - 1)) (co g (g.length - 1)) := by
  have hb := hp.bd
  have hl := List.length_pos_iff.mpr hne
  obtain ⟨r', l', e'⟩ := hm_sub 1 x 0 1 g (g.length - 1) (by omega)
  have er : PA.E p (ev r) (ev r') := h.trans (PA.E.of_eq fun t => by
    have := e' t 1
    rw [hm_one, show (0 : Int) * t + 1 * 1 = 1 by omega, hm_one] at this
    rw [this]; congr 1; omega)
  have htop : Md p (co r (g.length - 1)) (co g (g.length - 1)) := by
    have h1 := er.co (g.length - 1)
    have := e' 1 0
    rw [hm_inf r' _ _ l', Int.one_pow, Int.mul_one, show (0 : Int) * 1 + 1 * 0 = 0 by omega, hm_inf g _ _ (by omega)] at this
    rw [show (1 : Int) * 1 + x * 0 = 1 by omega, Int.one_pow, Int.mul_one] at this
    rw [this] at h1
    exact h1
  have h1 : r.length ≤ g.length := cr.len_le (by omega) fun i hi => by
    have := er.co i
    rw [co_out (l := r') (by omega)] at this
    exact this
  refine ⟨?_, htop⟩
  by_cases q : r.length = g.length
  · exact q
  · rw [co_out (l := r) (by omega)] at htop
    exact absurd htop.symm (cg.md hp hne)
theorem tnL_co (p k : Int) : ∀ (l : List Int) (w : Int) (i : Nat), Md p (co (tnL p k l w) i) (co l i * (w * k ^ i))
  | [], w, i => by simp [tnL, co_nil]; exact Md.refl _
  | c :: l, w, 0 => by
    simp only [tnL, co_zero]
    exact (Md.mod _).trans (Md.of_eq (by simp))
  | c :: l, w, i + 1 => by
    simp only [tnL, co_succ]
    refine (tnL_co p k l _ i).trans ?_
    refine ((Md.refl (co l i)).mul ((Md.mod _).mul (Md.refl (k ^ i)))).trans (Md.of_eq ?_)
    rw [Int.pow_succ]; grind
theorem TsOk.ext {p : Int} {n : Nat} {g f : List Int} {ok ok' : T5 → Prop} {big : Nat} {ts : List T5} (h : TsOk p n g f ok big ts) {es : List Int} {mk : Int → T5} (hmk : ∀ e, (mk e).2.2.2.2 = e) (nd : es.Nodup) (ev : es.length % 2 = 0) (few : es.length ≤ 2)
    (hmem : ∀ e ∈ es, IsTurn p n g f (mk e) ∧ ok' (mk e)) (hok : ∀ t, ok t → ok' t) (hnew : ∀ t, IsTurn p n g f t → ok' t → ¬ ok t → ∃ e ∈ es, t = mk e) (disj : ∀ e ∈ es, ¬ ok (mk e)) : TsOk p n g f ok' (big + 2) (ts ++ es.map mk) := by
  refine ⟨?_, ?_, ?_, fun t => ?_⟩
  · rw [List.nodup_append]
    refine ⟨h.nd, ?_, fun t ht t' ht' e => ?_⟩
    · rw [List.nodup_iff_pairwise_ne, List.pairwise_map]
      exact (List.nodup_iff_pairwise_ne.mp nd).imp fun {a b} hab e => hab (by rw [← hmk a, ← hmk b, e])
    · subst e
      obtain ⟨e, he, rfl⟩ := List.mem_map.mp ht'
      exact disj e he ((h.mem _).mp ht).2
  · rw [List.length_append, List.length_map]; have := h.ev; omega
  · rw [List.length_append, List.length_map]; have := h.few; omega
  · rw [List.mem_append, h.mem, List.mem_map]
    constructor
    · rintro (⟨h1, h2⟩ | ⟨e, he, rfl⟩)
      · exact ⟨h1, hok t h2⟩
      · exact hmem e he
    · rintro ⟨h1, h2⟩
      by_cases q : ok t
      · exact .inl ⟨h1, q⟩
      · obtain ⟨e, he, rfl⟩ := hnew t h1 h2 q
        exact .inr ⟨e, he, rfl⟩
theorem TsOk.cong {p : Int} {n : Nat} {g f : List Int} {ok ok' : T5 → Prop} {big big' : Nat} {ts : List T5} (h : TsOk p n g f ok big ts) (hb : big ≤ big') (he : ∀ t, IsTurn p n g f t → (ok t ↔ ok' t)) : TsOk p n g f ok' big' ts :=
  ⟨h.nd, h.ev, Nat.le_trans h.few hb, fun t => (h.mem t).trans ⟨fun ⟨a, b⟩ => ⟨a, (he t a).mp b⟩, fun ⟨a, b⟩ => ⟨a, (he t a).mpr b⟩⟩⟩
theorem TsOk.nil {p : Int} {n : Nat} {g f : List Int} {ok : T5 → Prop} {big : Nat} (h : ∀ t, IsTurn p n g f t → ¬ ok t) : TsOk p n g f ok big [] :=
  ⟨List.nodup_nil, rfl, Nat.zero_le _, fun t => ⟨fun h => by simp at h, fun ⟨a, b⟩ => absurd b (h t a)⟩⟩
theorem Md.ne_of {p a : Int} (h0 : 0 < a) (h1 : a < p) : ¬ Md p a 0 := fun z => by
  have := z.eq ⟨by omega, h1⟩ ⟨by omega, by omega⟩; omega
theorem shift_E {p x : Int} (hp : 0 < p) {g r : List Int} (h : PA.E p (ev r) (fun t => ev g (ev (trim p [x, 1]) t))) : PA.E p (ev r) (fun t => ev g (x + t)) :=
  h.trans (E_ev ((trim_ok hp [x, 1]).2.trans (PA.E.of_eq fun t => by simp [ev])) ((P1.const x).add P1.var) g)
theorem last_ne {p k : Int} (hp : Ps p) {g r : List Int} (cg : Can p g) (hne : g ≠ []) (k0 : 0 < k) (k1 : k < p) (h : r.length = g.length ∧ Md p (co r (g.length - 1)) (co g (g.length - 1))) : co (tnL p k r 1) (g.length - 1) ≠ 0 := fun z => by
  have h1 := tnL_co p k r 1 (g.length - 1)
  rw [z] at h1
  have h2 := hp.mul_ne (fun z => (cg.md hp hne) (h.2.symm.trans z)) (hp.mul_ne (show ¬ Md p 1 0 from Md.ne_of (by omega) (by omega)) (hp.pow_ne (Md.ne_of k0 k1) (g.length - 1)))
  exact h2 h1.symm
theorem pl_plain_turns : Pl N_s_plain_turns (W_s_plain_turns (SP dk)) 2 sp_plain_turns := by
  intro ds K EE ⟨p, f, g, e, hf, hg, hl, k⟩ _
  subst e
  have hp := hf.ps
  have hb := hp.bd
  show W_s_plain_turns (SP dk) EE _ [.sh (cv p f), .sh (cv p g), .un, .un, .un, .un, .un, .un]
  simp [W_s_plain_turns, SP]
  refine ⟨by omega, by omega, ?_⟩
  refine for_one 0 _ (I := fun b ρ => ∃ ts s4 s5 s6, TsOk p f.length g f (fun t => t.2.2.1 = 0 ∧ t.2.1 < (b : Int)) (122 * b) ts ∧ ρ = [.sh (cv p f), .sh (cv p g), .sh (.int p), .lv (ts.map tD), s4, s5, s6, .un])
    ⟨[], .un, .un, .un, TsOk.nil fun t ht h => by have := ht.1.bb; omega, rfl⟩ (fun ρ ⟨ts, s4, s5, s6, hts, e⟩ => ?_) (fun b ρ N hbi ⟨ts, s4, s5, s6, hts, e⟩ hN => ?_)
  · subst e
    simp
    refine k ts (hts.cong (by omega) fun t ht => ⟨fun h => h.1, fun h => ⟨h, by have := ht.1.bb; omega⟩⟩)
  · subst e
    simp
    have l1 := len_trim p [(b : Int), 1]
    refine ⟨p, [(b : Int), 1], rfl, hp, by simp, p, g, _, rfl, hp, by have := hg.len; omega, (trim_ok (by omega) _).1, l1, fun row cr er0 => ?_⟩
    have er := shift_E (by omega) er0
    have hsl := shift_len hp hg.can hg.ne cr er
    refine ⟨by omega, by omega, ?_⟩
    refine for_one 1 (p.toNat - 1) (I := fun i ρ => ∃ ts s6, TsOk p f.length g f (fun t => t.2.2.1 = 0 ∧ (t.2.1 < (b : Int) ∨ t.2.1 = b ∧ t.1 < 1 + (i : Int))) (122 * b + 2 * i) ts ∧ ρ = [.sh (cv p f), .sh (cv p g), .sh (.int p), .lv (ts.map tD), .sh (.int b), .sh (pT row), s6, .un])
      ⟨ts, s6, hts.cong (by omega) fun t ht => ?_, rfl⟩ (fun ρ ⟨ts, s6, hts, e⟩ => ?_) (fun i ρ N hi ⟨ts, s6, hts, e⟩ hN => ?_)
    · constructor
      · exact fun ⟨h1, h2⟩ => ⟨h1, .inl h2⟩
      · rintro ⟨h1, h2 | ⟨h2, h3⟩⟩
        · exact ⟨h1, h2⟩
        · have := ht.1.ba
          have h0 : t.1 = 0 := by omega
          have := ht.1.dn
          rw [h0, h1] at this
          simp at this
    · refine hN ρ ⟨ts, _, _, s6, hts.cong (by omega) fun t ht => ?_, e⟩
      have h1 := ht.1.ba
      constructor
      · rintro ⟨h0, h2⟩; exact ⟨h0, by omega⟩
      · rintro ⟨h0, h2⟩; exact ⟨h0, by omega⟩
    · subst e
      simp
      refine ⟨p, row, 1 + (i : Int), rfl, hp, by omega, by omega, by rw [hsl.1]; have := hg.len; omega, ?_⟩
      have ll := tnL_len p (1 + (i : Int)) row 1
      have glen := hg.len
      have hLne : tnL p (1 + (i : Int)) row 1 ≠ [] := fun z => by rw [z] at ll; simp at ll; omega
      have lastL : co (tnL p (1 + (i : Int)) row 1) ((tnL p (1 + (i : Int)) row 1).length - 1) ≠ 0 := by
        rw [ll, hsl.1]; exact last_ne hp hg.can hg.ne (by omega) (by omega) hsl
      refine ⟨p, tnL p (1 + (i : Int)) row 1, f, rfl, hp, by omega, by omega, hLne, tnL_bd p _ (by omega) row 1, hf.can.1, lastL, hf.can.last hf.ne, fun es hes => ?_⟩
      simp
      have key : ∀ e, e ∈ es ↔ IsTurn p f.length g f (1 + (i : Int), (b : Int), 0, 1, e) := fun e => by
        rw [hes.mem]
        have hlow := hom_low (n := f.length) (w := f) (a := 1 + (i : Int)) (e := e) er
        constructor
        · rintro ⟨e0, e1, h⟩
          refine ⟨⟨⟨by simp; omega, by simp; omega⟩, ⟨by simp, by simp; omega⟩, ⟨by simp, by simp; omega⟩, ⟨by simp, by simp; omega⟩, ⟨by simp; omega, e1⟩, .inl ⟨rfl, rfl⟩, by simp; omega, ?_⟩, hlow.mpr fun j => ?_⟩
          · simp
            rw [Int.emod_eq_of_lt (by omega) (by omega)]; omega
          · by_cases hj : j < f.length
            · exact h j (by omega)
            · rw [co_out (by omega), co_out (by omega)]; exact Md.of_eq (by omega)
        · rintro ⟨hn, hh⟩
          have e0 := hn.be; have e1 := hn.en
          simp only at e0 e1
          exact ⟨by omega, e0.2, fun j _ => hlow.mp hh j⟩
      refine comp_gen D.int (fun e => tD (1 + (i : Int), (b : Int), 0, 1, e)) es [] (fun e he N h => ?_) ?_
      · simp; exact h
      · refine ⟨by have := hts.few; have := hes.few; simp; omega, hN _ ⟨ts ++ es.map fun e => (1 + (i : Int), (b : Int), 0, 1, e), .sh (.int (1 + (i : Int))), (hts.ext (ok' := fun t => t.2.2.1 = 0 ∧ (t.2.1 < (b : Int) ∨ t.2.1 = b ∧ t.1 < 1 + ((i + 1 : Nat) : Int))) (fun e => rfl) hes.nd hes.ev hes.few (fun e he => ⟨(key e).mp he, rfl, .inr ⟨rfl, by simp; omega⟩⟩) (fun t ⟨h0, h1⟩ => ⟨h0, by omega⟩) (fun t ht h1 h2 => ?_) (fun e he h => ?_)).cong (by omega) (fun t _ => Iff.rfl), ?_⟩⟩
        · obtain ⟨a', b', c', d', e'⟩ := t
          simp only at h1 h2
          obtain ⟨rfl, h1⟩ := h1
          have hlw := ht.1.low
          simp only at hlw
          obtain rfl : d' = 1 := by omega
          obtain rfl : a' = 1 + (i : Int) := by
            have := fun h => h2 ⟨rfl, h⟩
            omega
          obtain rfl : b' = b := by
            have := fun h => h2 ⟨rfl, h⟩
            omega
          exact ⟨e', (key e').mpr ht, rfl⟩
        · simp at h
        · simp [List.map_map]
end K83
end
section
set_option Elab.async false
set_option linter.all false
set_option maxHeartbeats 2000000
set_option maxRecDepth 10000
/-! P83g: the turns with c = 1. -/
namespace K83
open PySem PySem.Spec PyProof.Rows L2 DL PA
variable {dk : Addr}
def xO (p : Int) (t : T5) : Int := (-t.2.2.2.1) % p
def kO (p : Int) (t : T5) : Int := (t.2.1 + t.1 * xO p t) % p
def OkX (p : Int) (dx : List Int) (t : T5) : Prop := t.2.2.1 = 1 ∧ xO p t ∈ dx
def OkA (p : Int) (dx : List Int) (x : Int) (da : List Int) (t : T5) : Prop := t.2.2.1 = 1 ∧ (xO p t ∈ dx ∨ xO p t = x ∧ t.1 ∈ da)
def OkI (p : Int) (dx : List Int) (x : Int) (da : List Int) (a : Int) (i : Nat) (t : T5) : Prop := t.2.2.1 = 1 ∧ (xO p t ∈ dx ∨ xO p t = x ∧ (t.1 ∈ da ∨ t.1 = a ∧ kO p t < 1 + (i : Int)))
theorem mem_zs {p x : Int} {f : List Int} : x ∈ zs p f ↔ 0 ≤ x ∧ x < p ∧ Md p (ev f x) 0 := by
  unfold zs
  rw [upTo_eq, List.mem_filter, mem_ranL, beq_iff_eq, Md.zero]
  constructor
  · rintro ⟨⟨a, b⟩, c⟩; exact ⟨a, by omega, c⟩
  · rintro ⟨a, b, c⟩; exact ⟨⟨a, by omega⟩, c⟩
theorem nodup_zs {p : Int} {f : List Int} : (zs p f).Nodup := by
  unfold zs; rw [upTo_eq]; exact (nodup_ranL _ _).filter _
theorem len_zs {p : Int} {f : List Int} : (zs p f).length ≤ p.toNat := by
  unfold zs; rw [upTo_eq]
  exact Nat.le_trans (List.length_filter_le _ _) (by rw [len_ranL]; exact Nat.le_refl _)
theorem kO_bd {p : Int} {n : Nat} {g f : List Int} {t : T5} (hp : Ps p) (h : IsTurn p n g f t) (hc : t.2.2.1 = 1) : 1 ≤ kO p t ∧ kO p t < p := by
  have hb := hp.bd
  have m := md_bd (p := p) (by omega) (t.2.1 + t.1 * xO p t)
  refine ⟨?_, m.2⟩
  have h0 := h.1.dn
  by_cases q : kO p t = 0
  · exfalso
    have h1 : Md p (t.2.1 + t.1 * xO p t) 0 := Md.zero.mpr q
    have h2 : Md p (xO p t) (-t.2.2.2.1) := Md.mod _
    have h3 : Md p (t.1 * t.2.2.2.1 - t.2.1 * t.2.2.1) 0 := by
      rw [hc]
      have h4 := ((Md.refl t.2.1).add ((Md.refl t.1).mul h2)).symm.trans h1
      refine (Md.of_eq ?_).trans (h4.neg.trans (Md.of_eq (by omega)))
      grind
    exact h0 (Md.zero.mp h3)
  · unfold kO at *; omega
theorem split_new {dn rest l : List Int} {x : Int} (h : l.Nodup) (e : l = dn ++ x :: rest) : x ∉ dn := fun hx => by
  subst e
  rw [List.nodup_append] at h
  exact h.2.2 x hx x (by simp) rfl
theorem pl_other_turns : Pl N_s_other_turns (W_s_other_turns (SP dk)) 2 sp_other_turns := by
  intro ds K EE ⟨p, f, g, e, hf, hg, hl, k⟩ _
  subst e
  have hp := hf.ps
  have hb := hp.bd
  have lzf := len_zs (p := p) (f := f)
  have lzg := len_zs (p := p) (f := g)
  have flen := hf.len
  have glen := hg.len
  show W_s_other_turns (SP dk) EE _ [.sh (cv p f), .sh (cv p g), .un, .un, .un, .un, .un, .un, .un, .un, .un]
  simp [W_s_other_turns, SP]
  refine ⟨p, f, rfl, hf, _, .inl rfl, ?_⟩
  refine for_pre D.int (zs p f) (I := fun dx ρ => ∃ ts s4 s5 s6 s7 s8 s9, TsOk p f.length g f (OkX p dx) (7442 * dx.length) ts ∧ ρ = [.sh (cv p f), .sh (cv p g), .sh (.int p), .lv (ts.map tD), s4, s5, s6, s7, s8, s9, .un])
    ⟨[], .un, .un, .un, .un, .un, .un, TsOk.nil fun t ht h => by simp [OkX] at h, rfl⟩ (fun ρ ⟨ts, s4, s5, s6, s7, s8, s9, hts, e⟩ => ?_) (fun dx x rest ρ N ex ⟨ts, s4, s5, s6, s7, s8, s9, hts, e⟩ hN => ?_)
  · subst e
    simp
    refine k ts (hts.cong (by omega) fun t ht => ⟨fun h => h.1, fun h => ⟨h, ?_⟩⟩)
    have := (turn_zeros hp hl.symm rfl ht h).1
    have m := md_bd (p := p) (by omega) (-t.2.2.2.1)
    exact mem_zs.mpr ⟨m.1, m.2, (Md_ev (Md.mod _) f).trans this⟩
  subst e
  have ldx : dx.length < p.toNat := by
    have := congrArg List.length ex
    simp at this; omega
  have hxz := mem_zs.mp (by rw [ex]; simp : x ∈ zs p f)
  have hxn := split_new nodup_zs ex
  simp [cut_rev0]
  have l1 := len_trim p [x, 1]
  refine ⟨p, [x, 1], rfl, hp, by simp, p, f, _, rfl, hp, by omega, (trim_ok (by omega) _).1, l1, fun F cF eF0 => ?_⟩
  have eF := shift_E (by omega) eF0
  have hsF := shift_len hp hf.can hf.ne cF eF
  simp [cut_rev0]
  refine ⟨by rw [hsF.1]; omega, p, g, rfl, hg, _, .inl rfl, ?_⟩
  refine for_pre D.int (zs p g) (I := fun da ρ => ∃ ts s6 s7 s8 s9, TsOk p f.length g f (OkA p dx x da) (7442 * dx.length + 122 * da.length) ts ∧ ρ = [.sh (cv p f), .sh (cv p g), .sh (.int p), .lv (ts.map tD), .sh (.int x), .sh (pT F.tail.reverse), s6, s7, s8, s9, .un])
    ⟨ts, s6, s7, s8, s9, hts.cong (by omega) fun t ht => by simp [OkX, OkA], by simp [List.map_dropLast]⟩ (fun ρ ⟨ts, s6, s7, s8, s9, hts, e⟩ => ?_) (fun da a resta ρ N ea ⟨ts, s6, s7, s8, s9, hts, e⟩ hN => ?_)
  · refine hN ρ ⟨ts, _, _, s6, s7, s8, s9, hts.cong (by simp; omega) fun t ht => ?_, e⟩
    constructor
    · rintro ⟨h0, h | ⟨h, _⟩⟩
      · exact ⟨h0, by simp [h]⟩
      · exact ⟨h0, by simp [h]⟩
    · rintro ⟨h0, h⟩
      refine ⟨h0, ?_⟩
      simp at h
      rcases h with h | h
      · exact .inl h
      · refine .inr ⟨h, mem_zs.mpr ⟨ht.1.ba.1, ht.1.ba.2, ?_⟩⟩
        exact (turn_zeros hp hl.symm rfl ht h0).2
  subst e
  have lda : da.length < p.toNat := by
    have := congrArg List.length ea
    simp at this; omega
  have haz := mem_zs.mp (by rw [ea]; simp : a ∈ zs p g)
  have han := split_new nodup_zs ea
  simp
  have l2 := len_trim p [a, 1]
  refine ⟨p, [a, 1], rfl, hp, by simp, p, g, _, rfl, hp, by omega, (trim_ok (by omega) _).1, l2, fun G cG eG0 => ?_⟩
  have eG := shift_E (by omega) eG0
  have hsG := shift_len hp hg.can hg.ne cG eG
  refine ⟨by omega, by omega, ?_⟩
  refine for_one 1 (p.toNat - 1) (I := fun i ρ => ∃ ts s8 s9, TsOk p f.length g f (OkI p dx x da a i) (7442 * dx.length + 122 * da.length + 2 * i) ts ∧ ρ = [.sh (cv p f), .sh (cv p g), .sh (.int p), .lv (ts.map tD), .sh (.int x), .sh (pT F.tail.reverse), .sh (.int a), .sh (pT G), s8, s9, .un])
    ⟨ts, s8, s9, hts.cong (by omega) fun t ht => ?_, rfl⟩ (fun ρ ⟨ts, s8, s9, hts, e⟩ => ?_) (fun i ρ N hi ⟨ts, s8, s9, hts, e⟩ hN => ?_)
  · unfold OkA OkI
    constructor
    · rintro ⟨h0, h | ⟨h, h1⟩⟩
      · exact ⟨h0, .inl h⟩
      · exact ⟨h0, .inr ⟨h, .inl h1⟩⟩
    · rintro ⟨h0, h | ⟨h, h1 | ⟨_, h1⟩⟩⟩
      · exact ⟨h0, .inl h⟩
      · exact ⟨h0, .inr ⟨h, h1⟩⟩
      · have := kO_bd hp ht h0
        omega
  · refine hN ρ ⟨ts, _, _, s8, s9, hts.cong (by simp; omega) fun t ht => ?_, e⟩
    unfold OkA OkI
    constructor
    · rintro ⟨h0, h | ⟨h, h1 | ⟨h1, _⟩⟩⟩
      · exact ⟨h0, .inl h⟩
      · exact ⟨h0, .inr ⟨h, by simp [h1]⟩⟩
      · exact ⟨h0, .inr ⟨h, by simp [h1]⟩⟩
    · rintro ⟨h0, h | ⟨h, h1⟩⟩
      · exact ⟨h0, .inl h⟩
      · simp at h1
        refine ⟨h0, .inr ⟨h, h1.imp id fun h1 => ⟨h1, ?_⟩⟩⟩
        have := kO_bd hp ht h0
        omega
  subst e
  simp
  generalize hkk : 1 + (i : Int) = kk
  have k0 : 0 < kk := by omega
  have k1 : kk < p := by omega
  refine ⟨p, G, kk, rfl, hp, by omega, k1, by rw [hsG.1]; omega, ?_⟩
  simp [cut_one]
  have eR : F.tail.reverse = F.reverse.dropLast := by simp
  have ll := tnL_len p kk G 1
  have hR : F.reverse.dropLast.length = f.length - 1 := by simp [hsF.1]
  have hL : (tnL p kk G 1).tail.length = f.length - 1 := by rw [List.length_tail, ll, hsG.1]; omega
  have coT : ∀ j, co (tnL p kk G 1).tail j = co (tnL p kk G 1) (j + 1) := fun j => by
    cases q : tnL p kk G 1 with
    | nil => simp [co_nil]
    | cons c l => rw [List.tail_cons, co_succ]
  have lastL : co (tnL p kk G 1).tail ((tnL p kk G 1).tail.length - 1) ≠ 0 := by
    rw [hL, coT, show f.length - 1 - 1 + 1 = g.length - 1 by omega]
    exact last_ne hp hg.can hg.ne k0 k1 hsG
  have coR : ∀ j, j < f.length - 1 → co F.reverse.dropLast j = co F (f.length - 1 - j) := fun j hj => by
    rw [co_at (by omega), co_at (by rw [hsF.1]; omega), List.getElem_dropLast, List.getElem_reverse]
    congr 1; rw [hsF.1]
  have bR : ∀ c ∈ F.reverse.dropLast, 0 ≤ c ∧ c < p := fun c hc => cF.1 c (by
    have := List.dropLast_subset _ hc
    simpa using this)
  have lastR : co F.reverse.dropLast (F.reverse.dropLast.length - 1) ≠ 0 := by
    rw [hR, coR _ (by omega), show f.length - 1 - (f.length - 1 - 1) = 1 by omega]
    intro z
    have := Sq.low hp hf.sq eF hxz.2.2
    rw [z] at this
    exact this (Md.refl _)
  have eqm : (tnL p kk G 1).map D.int = iL (tnL p kk G 1) := rfl
  refine ⟨p, (tnL p kk G 1).tail, F.tail.reverse, by simp [List.map_tail], hp, by rw [eR]; omega, by omega, fun z => by rw [z] at hL; simp at hL; omega, fun c hc => tnL_bd p kk (by omega) G 1 c (List.mem_of_mem_tail hc), by rw [eR]; exact bR, lastL, by rw [eR]; exact lastR, fun es hes => ?_⟩
  rw [eR] at hes
  have mk1 := md_bd (p := p) (by omega) (kk - a * x)
  have mk2 := md_bd (p := p) (by omega) (-x)
  have key : ∀ e, e ∈ es ↔ IsTurn p f.length g f (a, (kk - a * x) % p, 1, (-x) % p, e) := fun e => by
    rw [hes.mem, hL]
    have hh := hom_high (n := f.length) (b := (kk - a * x) % p) (d := (-x) % p) (x := x) (k := kk) (e := e) eF eG rfl hl.symm hsF.1 (by rw [hsG.1, hl]) (by omega) hxz.2.2 haz.2.2 (Md.mod _) (Md.mod _)
    constructor
    · rintro ⟨e0, e1, h⟩
      refine ⟨⟨⟨haz.1, haz.2.1⟩, mk1, ⟨by simp, by simp; omega⟩, mk2, ⟨by simp; omega, e1⟩, .inr rfl, by simp; omega, ?_⟩, hh.mpr h⟩
      intro z
      simp only at z
      have z1 : Md p (a * (-x % p) - (kk - a * x) % p * 1) 0 := Md.zero.mpr z
      have z2 : Md p (-kk) 0 := by
        refine Md.trans (Md.symm ?_) z1
        exact ((Md.refl a).mul (Md.mod (-x))).sub ((Md.mod (kk - a * x)).mul (Md.refl 1)) |>.trans (Md.of_eq (by grind))
      exact Md.ne_of k0 k1 ((Md.of_eq (by omega)).trans (z2.neg.trans (Md.of_eq (by omega))))
    · rintro ⟨hn, h⟩
      have e0 := hn.be; have e1 := hn.en
      simp only at e0 e1
      exact ⟨by omega, e0.2, hh.mp h⟩
  have xOm : ∀ e, xO p (a, (kk - a * x) % p, 1, (-x) % p, e) = x := fun e => by
    have : Md p (xO p (a, (kk - a * x) % p, 1, (-x) % p, e)) x := (Md.mod _).trans ((Md.mod (-x)).neg.trans (Md.of_eq (by omega)))
    exact this.eq (md_bd (by omega) _) ⟨hxz.1, hxz.2.1⟩
  have kOm : ∀ e, kO p (a, (kk - a * x) % p, 1, (-x) % p, e) = kk := fun e => by
    have : Md p (kO p (a, (kk - a * x) % p, 1, (-x) % p, e)) kk := by
      refine (Md.mod _).trans ?_
      rw [xOm]
      exact ((Md.mod (kk - a * x)).add (Md.refl (a * x))).trans (Md.of_eq (by omega))
    exact this.eq (md_bd (by omega) _) ⟨by omega, k1⟩
  refine ⟨_, .inl rfl, ?_⟩
  refine comp_gen D.int (fun e => tD (a, (kk - a * x) % p, 1, (-x) % p, e)) es [] (fun e he N h => ?_) ?_
  · simp
    exact ⟨cmul ⟨by omega, by omega⟩, by omega, h⟩
  · have hf1 := hts.few
    have hf2 := hes.few
    refine ⟨by simp; omega, hN _ ⟨ts ++ es.map fun e => (a, (kk - a * x) % p, 1, (-x) % p, e), .sh (.int kk), .sh (.lst (iL (tnL p kk G 1).tail)), (hts.ext (ok' := OkI p dx x da a (i + 1)) (fun e => rfl) hes.nd hes.ev hes.few (fun e he => ⟨(key e).mp he, rfl, .inr ⟨xOm e, .inr ⟨rfl, by rw [kOm]; omega⟩⟩⟩) (fun t h => ?_) (fun t ht h1 h2 => ?_) (fun e he h => ?_)).cong (by omega) (fun t _ => Iff.rfl), ?_⟩⟩
    · obtain ⟨h0, h | ⟨h, h1 | ⟨h1, h2⟩⟩⟩ := h
      · exact ⟨h0, .inl h⟩
      · exact ⟨h0, .inr ⟨h, .inl h1⟩⟩
      · exact ⟨h0, .inr ⟨h, .inr ⟨h1, by omega⟩⟩⟩
    · obtain ⟨h0, h⟩ := h1
      have hx1 : xO p t = x ∧ t.1 = a ∧ kO p t = kk := by
        rcases h with h | ⟨h, h1 | ⟨h1, h3⟩⟩
        · exact absurd ⟨h0, .inl h⟩ h2
        · exact absurd ⟨h0, .inr ⟨h, .inl h1⟩⟩ h2
        · refine ⟨h, h1, ?_⟩
          have : ¬ kO p t < 1 + (i : Int) := fun z => h2 ⟨h0, .inr ⟨h, .inr ⟨h1, z⟩⟩⟩
          omega
      obtain ⟨x1, a1, q1⟩ := hx1
      have hbb := ht.1.bb
      have hbd := ht.1.bd
      obtain ⟨a', b', c', d', e'⟩ := t
      simp only at h0 a1 hbb hbd
      subst h0 a1
      have d1 : d' = (-x) % p := by
        have : Md p d' ((-x) % p) := by
          have m1 : Md p x (-d') := x1 ▸ Md.mod _
          exact (Md.of_eq (by omega)).trans (m1.neg.symm.trans (Md.mod _).symm)
        exact this.eq hbd mk2
      have b1 : b' = (kk - a' * x) % p := by
        have : Md p b' ((kk - a' * x) % p) := by
          have m1 : Md p kk (b' + a' * x) := by
            rw [← q1]
            refine (Md.mod _).trans ?_
            rw [x1]
            exact Md.refl _
          refine Md.trans ?_ (Md.mod _).symm
          exact (Md.of_eq (by omega)).trans (m1.symm.sub (Md.refl (a' * x)))
        exact this.eq hbb mk1
      subst d1 b1
      exact ⟨e', (key e').mpr ht, rfl⟩
    · obtain ⟨h0, h | ⟨h, h1 | ⟨h1, h2⟩⟩⟩ := h
      · rw [xOm] at h; exact hxn h
      · exact han h1
      · rw [kOm] at h2; omega
    · simp [List.map_map, List.map_tail]
end K83
end
section
set_option Elab.async false
set_option linter.all false
set_option maxHeartbeats 2000000
set_option maxRecDepth 10000
/-! P83h: all turns; settling, one after the other, back. -/
namespace K83
open PySem PySem.Spec PyProof.Rows L2 DL PA
variable {dk : Addr}
def toT (l : List Int) : T5 := (co l 0, co l 1, co l 2, co l 3, co l 4)
theorem toT_tL (t : T5) : toT (tL t) = t := by
  obtain ⟨a, b, c, d, e⟩ := t
  rfl
theorem IsTurn.bd {p : Int} {n : Nat} {g f : List Int} {t : T5} (hp : Ps p) (h : IsTurn p n g f t) : TS.Bd 64 (tL t) := by
  have hb := hp.bd
  obtain ⟨⟨h1, h2, h3, h4, h5, _, _, _⟩, _⟩ := h
  obtain ⟨a, b, c, d, e⟩ := t
  simp only at h1 h2 h3 h4 h5
  intro m hm
  simp [tL] at hm
  rcases hm with rfl | rfl | rfl | rfl | rfl <;> omega
theorem turns_srt {p : Int} {g f : List Int} (hp : Ps p) {ts : List T5} {big : Nat} (h : TsOk p f.length g f (fun _ => True) big ts) (hb : big ≤ 470000) {K : D → Prop} (k : ∀ ts, Turns p g f ts → K (.lst (ts.map tD))) : cSorted [.lst (ts.map tD)] K := by
  refine ⟨64, 5, ts.map tL, by rw [List.map_map]; rfl, by omega, fun m hm => ?_, fun out hperm hs => ?_⟩
  · obtain ⟨t, ht, rfl⟩ := List.mem_map.mp hm
    exact ⟨rfl, IsTurn.bd hp ((h.mem t).mp ht).1⟩
  · have e1 : out = (out.map toT).map tL := by
      rw [List.map_map]
      conv => lhs; rw [← List.map_id out]
      refine List.map_congr_left fun m hm => ?_
      obtain ⟨t, _, rfl⟩ := List.mem_map.mp (hperm.mem_iff.mp hm)
      show tL t = tL (toT (tL t))
      rw [toT_tL]
    have hp2 : (out.map toT).Perm ts := by
      have := hperm.map toT
      rw [List.map_map] at this
      have e2 : ts.map (toT ∘ tL) = ts := by
        conv => rhs; rw [← List.map_id ts]
        exact List.map_congr_left fun t _ => toT_tL t
      rwa [e2] at this
    have := k (out.map toT) ⟨⟨hp2.nodup_iff.mpr h.nd, by rw [hp2.length_eq]; exact h.ev, by rw [hp2.length_eq]; have := h.few; omega, fun t => by rw [hp2.mem_iff]; exact h.mem t⟩, ?_⟩
    · have e3 : (out.map toT).map tD = out.map tupI := by
        conv => rhs; rw [e1]
        rw [List.map_map (l := out.map toT)]; rfl
      rw [← e3]; exact this
    · unfold Srt
      rw [e1, List.pairwise_map] at hs
      exact hs
theorem pl_turns : Pl N_s_turns (W_s_turns (SP dk)) 2 sp_turns := by
  intro ds K EE ⟨p, f, q, g, e, hf, hg, k1, k2⟩ _
  subst e
  show W_s_turns (SP dk) EE _ [.sh (cv p f), .sh (cv q g)]
  by_cases hpg : p = q ∧ f.length = g.length
  case neg =>
    have h1 : ¬ (p = q ∧ ((f.length : Int) - 1) / 2 = ((g.length : Int) - 1) / 2) := fun h => hpg ⟨h.1, (hf.gen_eq hg).mp h.2⟩
    have h2 : (p = q → ¬ ((f.length : Int) - 1) / 2 = ((g.length : Int) - 1) / 2) := fun a b => h1 ⟨a, b⟩
    simp [W_s_turns, SP, h1]
    exact k2 hpg
  obtain ⟨rfl, hl⟩ := hpg
  simp [W_s_turns, SP, hl]
  refine ⟨p, f, g, rfl, hf, hg, hl, fun t1 h1 => ⟨p, f, g, rfl, hf, hg, hl, fun t2 h2 => ?_⟩⟩
  show kAdd (.lst _) (.lst _) _
  rw [k_addL]
  have f1 := h1.few
  have f2 := h2.few
  refine ⟨by simp; omega, ?_⟩
  rw [← List.map_append]
  refine .inl <| turns_srt hf.ps (big := 470000) ⟨?_, ?_, ?_, fun t => ?_⟩ (Nat.le_refl _) (k1 rfl hl)
  · rw [List.nodup_append]
    refine ⟨h1.nd, h2.nd, fun t ht t' ht' e => ?_⟩
    subst e
    have a := ((h1.mem t).mp ht).2
    have b := ((h2.mem t).mp ht').2
    omega
  · have := h1.ev; have := h2.ev; rw [List.length_append]; omega
  · rw [List.length_append]; omega
  · rw [List.mem_append, h1.mem, h2.mem]
    constructor
    · rintro (⟨h, _⟩ | ⟨h, _⟩) <;> exact ⟨h, trivial⟩
    · rintro ⟨h, _⟩
      rcases h.1.low with ⟨a, _⟩ | a
      · exact .inl ⟨h, a⟩
      · exact .inr ⟨h, a⟩
theorem pl_turn_between : Pl N_s_turn_between (W_s_turn_between (SP dk)) 2 sp_turn_between := by
  intro ds K EE ⟨p, f, q, g, e, hf, hg, k1, k2⟩ _
  subst e
  show W_s_turn_between (SP dk) EE _ [.sh (cv p f), .sh (cv q g), .un]
  simp [W_s_turn_between, SP]
  refine ⟨p, f, q, g, rfl, hf, hg, fun e hl ts ht => ?_, fun h => ?_⟩
  · have := k1 e hl ts ht
    cases ts with
    | nil => simpa [headD] using this
    | cons t ts =>
      simp [headD] at this ⊢
      exact ⟨_, by rw [atI_ofNat _ (by omega)]; rfl, this⟩
  · simpa using k2 h
/-- what is turned over -/
theorem Cv.m1 {p : Int} {f : List Int} (h : Cv p f) : ((f.length : Int) - 1) / 2 + 1 = ((f.length / 2 : Nat) : Int) ∧ 2 ≤ f.length / 2 ∧ f.length / 2 ≤ 5 := by
  rcases h.len with e | e | e | e <;> rw [e] <;> decide
theorem mul_bd {p a b : Int} (hp : Ps p) (ha : 0 ≤ a ∧ a < p) (hb : 0 ≤ b ∧ b < p) : 0 ≤ a * b ∧ a * b ≤ 3721 := by
  have := hp.bd
  refine ⟨Int.mul_nonneg ha.1 hb.1, ?_⟩
  have h1 : a * b ≤ 61 * b := Int.mul_le_mul_of_nonneg_right (by omega) hb.1
  omega
theorem Nrm.e0 {p : Int} (hp : Ps p) {t : T5} (h : Nrm p t) : ¬ Md p t.2.2.2.2 0 := fun z => h.en (z.eq h.be ⟨by have := hp.bd; omega, by have := hp.bd; omega⟩)
end K83
end
section
set_option Elab.async false
set_option linter.all false
set_option maxHeartbeats 2000000
set_option maxRecDepth 10000
/-! P83i: the law's defs. -/
namespace K83
open PySem PySem.Spec PyProof.Rows L2 DL PA
variable {dk : Addr}
theorem pl__law_inv : Pl N_s__law_inv (W_s__law_inv (SP dk)) 2 sp_inverse := by
  intro ds K EE ⟨p, a, e, hp, ha, hz, k⟩ _
  subst e
  have hb := hp.bd
  show W_s__law_inv (SP dk) EE _ [.sh (.int p), .sh (.int a), .un]
  simp [W_s__law_inv]
  refine ⟨by omega, by omega, ?_⟩
  rw [ranD_eq]
  refine comp_filt D.int D.int (fun x => a * x % p == 1) _ [] (fun c hc M N h1 h2 => ?_) ?_
  · have hc := mem_ranL.mp hc
    by_cases hq : a * c % p = 1
    · simp [hq] at h1 ⊢; exact ⟨cmul ha, by omega, h1⟩
    · simp [hq] at h2 ⊢; exact ⟨cmul ha, by omega, h2⟩
  · obtain ⟨i, i0, i1, hi⟩ := hp.inv hz
    have one : ∀ j, 0 < j → j < p → (j ∈ (ranL 1 (p.toNat - 1)).filter (fun x => a * x % p == 1) ↔ Md p (a * j) 1) := fun j j0 j1 => by
      rw [List.mem_filter, mem_ranL, beq_iff_eq]
      constructor
      · rintro ⟨_, h⟩
        exact Md.of_emod (by rw [h, Int.emod_eq_of_lt (by omega) (by omega)])
      · intro h
        exact ⟨⟨by omega, by omega⟩, by rw [h.emod, Int.emod_eq_of_lt (by omega) (by omega)]⟩
    have hmem := (one i i0 i1).mpr hi
    cases q : (ranL 1 (p.toNat - 1)).filter (fun x => a * x % p == 1) with
    | nil => rw [q] at hmem; simp at hmem
    | cons c l =>
      have hc : c ∈ (ranL 1 (p.toNat - 1)).filter (fun x => a * x % p == 1) := by rw [q]; simp
      have hc2 := mem_ranL.mp (List.mem_filter.mp hc).1
      simp
      refine ⟨_, by rw [atI_ofNat _ (by omega)]; rfl, k c (by omega) (by omega) ((one c (by omega) (by omega)).mp hc)⟩
theorem pl__law_is : Pl N_s__law_is (W_s__law_is (SP dk)) 2 sp__law_is := by
  intro ds K EE ⟨x, y, e, h, k⟩ _
  subst e
  show W_s__law_is (SP dk) EE _ [.sh x, .sh y]
  obtain ⟨a1, a2, a3⟩ := h x (.inl rfl)
  obtain ⟨b1, b2, b3⟩ := h y (.inr rfl)
  obtain ⟨c1, c2, c3, c4⟩ := tx_ok x a1
  obtain ⟨d1, d2, d3, d4⟩ := tx_ok y b1
  simp [W_s__law_is, cRepr]
  refine ⟨c1, c2, a2, by omega, d1, d2, b2, by omega, ?_⟩
  rw [k_eqS]
  refine ⟨shp_str c3, shp_str d3, ?_⟩
  have e : D.eqb (.str x.py.shown) (.str y.py.shown) = decide (x.py.shown = y.py.shown) := by
    simp only [D.eqb]
    by_cases q : x.py.shown = y.py.shown
    · rw [q]; simp
    · rw [decide_eq_false q]; simpa using q
  rw [e]; exact k
theorem trim_len {p : Int} (hp : 0 < p) {n : Nat} {m : List Int} (hl : m.length = n + 1) (h : ¬ Md p (co m n) 0) : (trim p m).length = n + 1 := by
  have h1 := len_trim p m
  have h2 := (trim_ok hp m).2.co n
  by_cases q : (trim p m).length = n + 1
  · exact q
  · rw [co_out (by omega)] at h2
    exact absurd (show Md p 0 (co m n) from h2).symm h
theorem pl__law_f : Pl N_s__law_f (W_s__law_f (SP dk)) 3 (sp__law_f dk) := by
  intro ds K EE ⟨p, n, e, hp, h3, h9, kn, kf⟩ _
  subst e
  have hb := hp.bd
  show W_s__law_f (SP dk) EE _ [.sh (.adr dk), .sh (.int p), .sh (.int n), .un, .un, .un, .un]
  simp [W_s__law_f, SP]
  refine ⟨by omega, ?_⟩
  refine comp_of (I := fun ds acc => ∃ l : List Int, acc = iL l ∧ l.length + ds.length = n) (fun acc ⟨l, el, hl⟩ => ?_) (fun d ds acc N ⟨l, el, hl⟩ hN => ?_) (ranD 0 1 n) [] ⟨[], rfl, by simp [ranD_len]⟩
  · subst el
    simp at hl
    refine ⟨p - 1, rfl, by omega, by omega, fun v v0 v1 => ?_⟩
    simp
    refine ⟨by omega, ?_⟩
    rw [show List.map D.int l ++ [D.int (1 + v)] = iL (l ++ [1 + v]) by simp]
    have pp : p * p ≤ 61 * 61 := Int.mul_le_mul (by omega) (by omega) (by omega) (by omega)
    have pp0 : 0 ≤ p * p := Int.mul_nonneg (by omega) (by omega)
    refine ⟨cmul ⟨by omega, by omega⟩, by omega, by omega, ?_⟩
    refine for_one 0 _ (I := fun i ρ => ∃ (m : List Int) (s4 s5 : Sl), m.length = n + 1 ∧ ¬ Md p (co m n) 0 ∧ ρ = [.sh (.adr dk), .sh (.int p), .sh (.int n), .lv (iL m), s4, s5, .un])
      ⟨l ++ [1 + v], .un, .un, by simp; omega, ?_, rfl⟩ (fun ρ ⟨m, s4, s5, m1, m2, e⟩ => ?_) (fun i ρ N hi ⟨m, s4, s5, m1, m2, e⟩ hN => ?_)
    · rw [co_snoc, if_pos hl.symm]
      exact Md.ne_of (by omega) (by omega)
    · subst e
      simpa using kn
    · subst e
      simp
      obtain ⟨ca, ea⟩ := trim_ok (p := p) (by omega) m
      have la := trim_len (p := p) (by omega) m1 m2
      have ld := len_trim p (derL (trim p m))
      have ld2 := len_der (trim p m)
      refine ⟨p, m, rfl, hp, by omega, by simp, ?_⟩
      refine ⟨p, trim p m, rfl, hp, Can.sm hp ca, by omega, ?_⟩
      refine ⟨p, trim p m, _, rfl, hp, ca, (trim_ok (by omega) _).1, by omega, by omega, fun c s t cc hs ht hL e1 e2 => ?_⟩
      simp
      by_cases h1 : c.length = 1
      · exact .inr ⟨by omega, kf _ ca la (Sq.of_common hp cc h1 hL)⟩
      · have m01 : (i : Int) / p % 2 = 0 ∨ (i : Int) / p % 2 = 1 := by omega
        generalize (i : Int) / p % 2 = q at m01
        have q0 : 0 ≤ q := by omega
        have q1 : q < m.length := by omega
        refine .inl ⟨by omega, ⟨by omega, by omega⟩, _, atI_int m q0 q1, ?_⟩
        refine ⟨rfl, ⟨by omega, by omega⟩, _, ixN_of q0 q1, ?_⟩
        rw [set_iL]
        refine ⟨_, atI_int _ (by omega) (by rw [List.length_set]; omega), ?_⟩
        refine ⟨rfl, _, ixN_of (by omega) (by omega), ?_⟩
        rw [set_iL]
        refine hN _ ⟨_, _, _, by rw [List.length_set, List.length_set]; exact m1, ?_, rfl⟩
        rw [co_set, if_neg (by omega), co_set, if_neg (by omega)]
        exact m2
  · simp
    refine ⟨p, rfl, by omega, by omega, fun v v0 v1 => ?_⟩
    subst el
    exact hN _ ⟨l ++ [v], by simp, by simp at hl ⊢; omega⟩
theorem cv5 : Cv 5 [1, 1, 0, 1] := ⟨.inr (.inl rfl), ⟨fun c hc => by simp at hc; omega, fun _ => by simp⟩, .inl rfl, sq_five⟩
theorem pri_ps : ∀ v : Nat, v < 9 → Ps (co priL v) := fun v hv => by
  have : ∀ v ∈ List.range 9, co priL v ∈ ([3, 5, 7, 11, 13, 17, 61] : List Int) := by decide +kernel
  have := this v (List.mem_range.mpr hv)
  simp at this
  unfold Ps; exact this
theorem deg_ok : ∀ v : Nat, v < 4 → ∃ n : Nat, co degL v = (n : Int) ∧ 3 ≤ n ∧ n ≤ 9 ∧ (n + 1 = 4 ∨ n + 1 = 6 ∨ n + 1 = 8 ∨ n + 1 = 10) := fun v hv => by
  obtain rfl | rfl | rfl | rfl : v = 0 ∨ v = 1 ∨ v = 2 ∨ v = 3 := by omega
  · exact ⟨3, rfl, by omega, by omega, by omega⟩
  · exact ⟨5, rfl, by omega, by omega, by omega⟩
  · exact ⟨7, rfl, by omega, by omega, by omega⟩
  · exact ⟨9, rfl, by omega, by omega, by omega⟩
theorem pl__law_curve : Pl N_s__law_curve (W_s__law_curve (SP dk)) 3 (sp__law_curve dk) := by
  intro ds K EE ⟨e, k⟩ _
  subst e
  show W_s__law_curve (SP dk) EE _ [.sh (.adr dk), .sh (.lst (iL priL)), .sh (.lst (iL degL)), .un, .un]
  have lp : priL.length = 9 := rfl
  have ld : degL.length = 4 := rfl
  simp [W_s__law_curve, SP, lp, ld]
  refine ⟨9, rfl, by omega, by omega, fun v v0 v1 => ⟨_, atI_int priL v0 (by rw [lp]; omega), 4, rfl, by omega, by omega, fun u u0 u1 => ?_⟩⟩
  have hp := pri_ps v.toNat (by omega)
  obtain ⟨n, en, n3, n9, nn⟩ := deg_ok u.toNat (by omega)
  refine ⟨_, atI_int degL u0 (by rw [ld]; omega), ?_⟩
  rw [en]
  refine ⟨_, n, rfl, hp, n3, n9, ?_, fun f cf lf sf => ?_⟩
  · simp [D.isNon]
    exact k 5 [1, 1, 0, 1] cv5
  · simp [D.isNon]
    exact k _ f ⟨hp, cf, by omega, sf⟩
end K83
end
section
set_option Elab.async false
set_option linter.all false
set_option maxHeartbeats 2000000
set_option maxRecDepth 10000
/-! P83j: fitting, searching, making. -/
namespace K83
open PySem PySem.Spec PyProof.Rows L2 DL PA
variable {dk : Addr}
theorem k_neBB {a b : Bool} {K : D → Prop} : kNe (.bl a) (.bl b) K = K (.bl (a != b)) := by
  rw [k_neB]
  have h : ∀ c : Bool, (D.bl c).shp = true := fun c => by cases c <;> decide
  have e : (!D.eqb (.bl a) (.bl b)) = (a != b) := by simp only [D.eqb]; rfl
  rw [e]
  exact propext ⟨fun h => h.2.2, fun k => ⟨h a, h b, k⟩⟩
/-! ### searching -/
theorem comp_ran {t : WG} {fe : WE} {ρ0 : DL.Env} {K : List D → Prop} (lo : Int) (n : Nat) (Q : Nat → Int → Prop) (step : ∀ j, j < n → ∀ N : D → Prop, (∀ y, Q j y → N (.int y)) → t (.int (lo + (j : Int))) ρ0 fun ρ1 => fe ρ1 N)
    (h : ∀ l : List Int, l.length = n → (∀ j, j < n → Q j (co l j)) → K (iL l)) : lcL t wYes fe ρ0 (ranD lo 1 n) [] K := by
  refine comp_of (I := fun ds acc => ∃ l : List Int, acc = iL l ∧ l.length ≤ n ∧ ds = ((List.range n).drop l.length).map (fun (i : Nat) => D.int (lo + (i : Int))) ∧ ∀ j, j < l.length → Q j (co l j)) (fun acc ⟨l, el, l1, l2, hinv⟩ => ?_) (fun d ds acc N ⟨l, el, l1, l2, hinv⟩ hN => ?_) _ [] ⟨[], rfl, by simp, by unfold ranD; simp, fun j hj => by simp at hj⟩
  · have : l.length = n := by
      have := congrArg List.length l2
      simp at this; omega
    rw [el]
    exact h l this fun j hj => hinv j (by omega)
  · have hlt : l.length < n := by
      have := congrArg List.length l2
      simp at this; omega
    rw [List.drop_eq_getElem_cons (by simpa using hlt), List.map_cons] at l2
    injection l2 with e1 e2
    rw [List.getElem_range] at e1
    subst e1
    simp only [e_yes, if_true]
    refine step l.length hlt _ fun y hy => hN _ ⟨l ++ [y], by rw [el]; simp, by simp; omega, by rw [e2]; simp, fun j hj => ?_⟩
    rw [co_snoc]
    by_cases q : j = l.length
    · rw [if_pos q, q]; exact hy
    · rw [if_neg q]; exact hinv j (by simp at hj; omega)
theorem pl_make : ∀ (y : Addr) (p x : D) (K : D → Prop) (E : Exc → Prop), sp_make [p, x] K E → W1_m_Curve (SP dk) E { nx := W2_m_Curve (SP dk) E { nx := fun ρ => ρ = [.sh (.adr y), .sh p, .sh x] ∧ K (.obj 0 [p, x]), rt := fun _ => False }, rt := fun _ => False } [.sh (.adr y), .sh p, .sh x] := by
  intro y p' x' K EE ⟨p, f, e, hf, k⟩
  injection e with e1 e2
  injection e2 with e2 _
  subst e1 e2
  have hp := hf.ps
  have hb := hp.bd
  have flen := hf.len
  have ld := len_trim p (derL f)
  have ld2 := len_der f
  simp [W1_m_Curve, W2_m_Curve, SP]
  refine ⟨p, rfl, hp, ?_⟩
  simp
  refine ⟨p, f, rfl, hp, hf.can, by omega, ?_⟩
  simp
  refine ⟨f, rfl, ?_⟩
  have e0 : ∀ K : D → Prop, K (.bl false) → kNotIn (.int ((f.length : Int) - 1)) (.tup [.int 3, .int 5, .int 7, .int 9]) K := fun K h => by
    have : ([D.int 3, .int 5, .int 7, .int 9].any fun z => D.eqb z (.int ((f.length : Int) - 1))) = true := by
      rcases flen with h | h | h | h <;> rw [h] <;> decide
    refine ⟨rfl, rfl, ?_⟩
    rw [this]; exact h
  refine e0 _ ⟨rfl, ?_⟩
  refine ⟨p, f, rfl, hp, Can.sm hp hf.can, by omega, p, f, _, rfl, hp, hf.can, (trim_ok (by omega) _).1, by omega, by omega, fun c s t cc hs ht hL e1 e2 => ⟨c, rfl, ?_⟩⟩
  have h1 := Sq.unit hp hf.sq cc hs ht e1 e2
  simp [h1, kGt]
  exact k
end K83
end
section
set_option Elab.async false
set_option linter.all false
set_option maxHeartbeats 2000000
set_option maxRecDepth 10000
/-! P83k: powers, divisors, numbers of polynomials. -/
namespace K83
open PySem PySem.Spec PyProof.Rows L2 DL PA
variable {dk : Addr}
theorem pl_raised : Pl N_s_raised (W_s_raised (SP dk)) 2 sp_raised := by
  intro ds K EE ⟨a, e, eq, h1, h2, k⟩ _
  subst eq
  show W_s_raised (SP dk) EE _ [.sh (.int a), .sh (.int e), .un]
  simp [W_s_raised]
  refine while_of (I := fun n ρ => ∃ b e' f : Nat, e' = n ∧ 1 ≤ b ∧ 1 ≤ f ∧ f * b ^ e' = a ^ e ∧ ρ = [.sh (.int b), .sh (.int e'), .sh (.int f)]) (n := e) (fun n ρ N ⟨b, e', f, q1, q2, q3, q4, q⟩ hN => ?_) ⟨a, e, 1, rfl, h1, by omega, by simp, rfl⟩
  subst q
  by_cases he : 0 < e'
  · have hp1 : 1 ≤ b ^ e' := Nat.pow_pos q2
    have hf : f ≤ a ^ e := by rw [← q4]; exact Nat.le_mul_of_pos_right _ hp1
    have hb : b ≤ a ^ e := by
      rw [← q4]
      exact Nat.le_trans (by have := Nat.pow_le_pow_right q2 (show 1 ≤ e' by omega); rwa [Nat.pow_one] at this) (Nat.le_mul_of_pos_left _ q3)
    have e2 : ((e' : Int) / 2) = ((e' / 2 : Nat) : Int) := by omega
    have bb : ((b : Int) * b) = ((b * b : Nat) : Int) := by simp
    have fb : ((f : Int) * b) = ((f * b : Nat) : Int) := by simp
    have pe : ∀ j : Nat, e' = 2 * j → b ^ e' = (b * b) ^ j := fun j h => by rw [h, Nat.pow_mul, Nat.pow_two]
    have po : ∀ j : Nat, e' = 2 * j + 1 → b ^ e' = b * (b * b) ^ j := fun j h => by rw [h, Nat.pow_succ, Nat.pow_mul, Nat.pow_two, Nat.mul_comm]
    by_cases ho : (e' : Int) % 2 = 1 <;> by_cases hh : (0 : Int) < (e' : Int) / 2
    · simp [kGt, he, ho, hh]
      refine ⟨cmul (by omega), cmul (by omega), hN (e' / 2) _ (by omega) ⟨b * b, e' / 2, f * b, rfl, Nat.mul_pos q2 q2, Nat.mul_pos q3 q2, ?_, by simp⟩⟩
      rw [← q4, po (e' / 2) (by omega)]; grind
    · simp [kGt, he, ho, hh]
      refine ⟨cmul (by omega), hN (e' / 2) _ (by omega) ⟨b, e' / 2, f * b, rfl, q2, Nat.mul_pos q3 q2, ?_, by simp⟩⟩
      rw [← q4, po (e' / 2) (by omega), show e' / 2 = 0 by omega]; grind
    · simp [kGt, he, ho, hh]
      refine ⟨cmul (by omega), hN (e' / 2) _ (by omega) ⟨b * b, e' / 2, f, rfl, Nat.mul_pos q2 q2, q3, ?_, by simp⟩⟩
      rw [← q4, pe (e' / 2) (by omega)]
    · omega
  · have : e' = 0 := by omega
    subst this
    simp [kGt]
    rw [Nat.pow_zero, Nat.mul_one] at q4
    rw [q4]
    simpa using k
theorem pl_primes_of : Pl N_s_primes_of (W_s_primes_of (SP dk)) 1 sp_primes_of := by
  intro ds K EE ⟨n, eq, h1, h4, k⟩ _
  subst eq
  show W_s_primes_of (SP dk) EE _ [.sh (.int n), .un, .un, .un]
  obtain rfl | rfl | rfl | rfl : n = 1 ∨ n = 2 ∨ n = 3 ∨ n = 4 := by omega
  all_goals simp [W_s_primes_of]
  · refine while_of (I := fun n ρ => ρ = [.sh (.int 1), .lv [], .sh (.int 2), .un]) (n := 0) (fun n ρ N q hN => ?_) rfl
    subst q
    simp [kGt, kLe]
    refine ⟨cmul (by omega), ?_⟩
    exact k
  · refine while_of (I := fun n ρ => ρ = [.sh (.int 2), .lv [], .sh (.int 2), .un]) (n := 0) (fun n ρ N q hN => ?_) rfl
    subst q
    simp [kGt, kLe]
    refine ⟨cmul (by omega), ?_⟩
    exact k
  · refine while_of (I := fun n ρ => ρ = [.sh (.int 3), .lv [], .sh (.int 2), .un]) (n := 0) (fun n ρ N q hN => ?_) rfl
    subst q
    simp [kGt, kLe]
    refine ⟨cmul (by omega), ?_⟩
    exact k
  · refine while_of (I := fun n ρ => (n = 1 ∧ ρ = [.sh (.int 4), .lv [], .sh (.int 2), .un]) ∨ (n = 0 ∧ ρ = [.sh (.int 1), .lv [.tup [.int 2, .int 2]], .sh (.int 3), .sh (.int 2)])) (n := 1) (fun n ρ N q hN => ?_) (.inl ⟨rfl, rfl⟩)
    rcases q with ⟨hn, q⟩ | ⟨hn, q⟩ <;> subst q
    · simp [kGt, kLe]
      refine ⟨cmul (by omega), ?_⟩
      refine while_of (I := fun n ρ => (n = 2 ∧ ρ = [.sh (.int 4), .lv [], .sh (.int 2), .sh (.int 0)]) ∨ (n = 1 ∧ ρ = [.sh (.int 2), .lv [], .sh (.int 2), .sh (.int 1)]) ∨ (n = 0 ∧ ρ = [.sh (.int 1), .lv [], .sh (.int 2), .sh (.int 2)])) (n := 2) (fun n' ρ N' q' hN' => ?_) (.inl ⟨rfl, rfl⟩)
      rcases q' with ⟨hn', q'⟩ | ⟨hn', q'⟩ | ⟨hn', q'⟩ <;> subst q'
      · simp
        exact hN' 1 _ (by omega) (.inr (.inl ⟨rfl, rfl⟩))
      · simp
        exact hN' 0 _ (by omega) (.inr (.inr ⟨rfl, rfl⟩))
      · simp [kGt]
        exact hN 0 _ (by omega) (.inr ⟨rfl, rfl⟩)
    · simp [kGt, kLe]
      refine ⟨cmul (by omega), ?_⟩
      exact k
theorem pl_index : Pl N_s_index (W_s_index (SP dk)) 2 sp_index := by
  intro ds K EE ⟨p, a, eq, hp, ha, k⟩ _
  subst eq
  have hb := hp.bd
  show W_s_index (SP dk) EE _ [.sh (.int p), .sh (pT a), .un, .un]
  simp [W_s_index, cut_rev]
  refine ⟨by omega, ?_⟩
  rw [← List.map_reverse]
  refine for_pre D.int a.reverse (fun done ρ => ∃ s, ρ = [.sh (.int p), .sh (pT a), .sh (.int (ev done.reverse p)), s]) ⟨_, rfl⟩ (fun ρ ⟨s, q⟩ => ?_) fun done c rest ρ N e ⟨s, q⟩ hN => ?_
  · subst q
    simp
    exact k
  · subst q
    have h9 := hN [.sh (.int p), .sh (pT a), .sh (.int (ev done.reverse p * p + c)), .sh (.int c)] ⟨.sh (.int c), ?_⟩
    · simp
      exact ⟨cmul' (by omega), h9⟩
    · have : ev ((done ++ [c]).reverse) p = ev done.reverse p * p + c := by
        rw [List.reverse_append]
        show c + p * ev done.reverse p = _
        grind
      rw [this]
theorem pl_of_index : Pl N_s_of_index (W_s_of_index (SP dk)) 2 sp_of_index := by
  intro ds K EE ⟨p, n, eq, hp, hn, k⟩ _
  subst eq
  have hb := hp.bd
  show W_s_of_index (SP dk) EE _ [.sh (.int p), .sh (.int n), .un]
  simp [W_s_of_index]
  refine while_of (I := fun j ρ => ∃ (m : Nat) (f : List Int), j = m ∧ f.length + m ≤ n ∧ f ++ dig p m = dig p n ∧ ρ = [.sh (.int p), .sh (.int m), .lv (iL f)]) (n := n) (fun j ρ N ⟨m, f, q1, q2, q3, q⟩ hN => ?_) ⟨n, [], rfl, by simp, rfl, rfl⟩
  subst q
  by_cases h : 0 < m
  · simp [kGt, h]
    have h1 : m / p < m := Nat.div_lt_self h (by omega)
    refine ⟨by omega, by omega, ⟨by omega, by omega⟩, ?_⟩
    refine hN (m / p) _ (by omega) ⟨m / p, f ++ [((m % p : Nat) : Int)], rfl, by simp; omega, ?_, by simp⟩
    rw [← q3, dig_pos (n := m) (by omega) h]; simp
  · have : m = 0 := by omega
    subst this
    simp [kGt]
    rw [dig_zero, List.append_nil] at q3
    rw [q3]; exact k
theorem pl_sign_of_number : Pl N_s_sign_of_number (W_s_sign_of_number (SP dk)) 2 sp_sign_of_number := by
  intro ds K EE ⟨p, x, eq, hp, h0, h1, k⟩ _
  subst eq
  have hb := hp.bd
  show W_s_sign_of_number (SP dk) EE _ [.sh (.int p), .sh (.int x), .un]
  simp [W_s_sign_of_number]
  rw [ranD_eq]
  refine ⟨by omega, by omega, ?_⟩
  refine comp_bl D.int (fun y => y * y % p == x) _ (fun y hy N h => ?_) ?_
  · have := mem_ranL.mp hy
    simp
    exact ⟨cmul (by omega), by omega, h⟩
  · refine ⟨_, bls_of _, ?_⟩
    have hiff : true ∈ ((ranL 1 (p.toNat - 1)).map fun y => y * y % p == x) ↔ IsQ p x := by
      constructor
      · intro h
        obtain ⟨y, _, e⟩ := List.mem_map.mp h
        simp at e
        exact ⟨y, Md.of_emod (by rw [e, Int.emod_eq_of_lt (by omega) h1])⟩
      · rintro ⟨y, hy⟩
        refine List.mem_map.mpr ⟨y % p, mem_ranL.mpr ⟨?_, ?_⟩, ?_⟩
        · have h2 := Int.emod_nonneg y (show p ≠ 0 by omega)
          have h3 : y % p ≠ 0 := fun e => by
            have h4 : Md p y 0 := Md.zero.mpr e
            have h5 := (h4.mul h4).symm.trans hy
            have := h5.eq ⟨by omega, by omega⟩ ⟨by omega, h1⟩
            omega
          omega
        · have := Int.emod_lt_of_pos y (show 0 < p by omega)
          omega
        · have := (((Md.mod y).mul (Md.mod y)).trans hy).emod
          rw [Int.emod_eq_of_lt (by omega : 0 ≤ x) h1] at this
          simpa using this
    unfold sgn at k
    by_cases q : IsQ p x
    · rw [if_pos q] at k
      rw [if_pos (hiff.mpr q)]; exact k
    · rw [if_neg q] at k
      rw [if_neg fun h => q (hiff.mp h)]; exact k
end K83
end
section
set_option Elab.async false
set_option linter.all false
set_option maxHeartbeats 2000000
set_option maxRecDepth 10000
/-! P83l: remainders, powers modulo a polynomial of degree 1. -/
namespace K83
open PySem PySem.Spec PyProof.Rows L2 DL PA
variable {dk : Addr}
theorem rem_call {p : Int} (hp : Ps p) {a b : List Int} (ha : Can p a) (hb : Can p b) (nb : b ≠ []) (la : a.length ≤ 100) (lb : b.length ≤ 100) {K : D → Prop} {EE : Exc → Prop} (k : K (pT (remP p a b))) : sp_remainder [.int p, pT a, pT b] K EE :=
  ⟨p, a, b, rfl, hp, ha, hb, nb, la, lb, fun q r cr lr e => by rw [← remP_eq hp hb nb ⟨cr, lr, q, e⟩]; exact k⟩
theorem deg1_div (c : Int) : ∀ a : List Int, ∃ q : List Int, ∀ X, ev a X = ev q X * (X + c) + ev a (-c)
  | [] => ⟨[], fun X => by simp [ev]⟩
  | d :: u => by
    obtain ⟨q, hq⟩ := deg1_div c u
    refine ⟨ev u (-c) :: q, fun X => ?_⟩
    show d + X * ev u X = (ev u (-c) + X * ev q X) * (X + c) + (d + -c * ev u (-c))
    have := hq X
    generalize ev u X = A at this ⊢
    subst this
    grind
theorem Deg1.can {p : Int} (hp : Ps p) {m : List Int} {x : Int} (h : Deg1 p m x) : Can p m ∧ m ≠ [] ∧ m.length = 2 := by
  obtain ⟨c, rfl, h0, h1, rfl⟩ := h
  have hb := hp.bd
  refine ⟨⟨fun d hd => ?_, fun _ => by simp⟩, by simp, rfl⟩
  simp at hd
  omega
theorem remP_deg1 {p : Int} (hp : Ps p) (a : List Int) {m : List Int} {x : Int} (h : Deg1 p m x) : remP p a m = trim p [ev a x] := by
  obtain ⟨cm, nm, lm⟩ := h.can hp
  obtain ⟨c, rfl, h0, h1, rfl⟩ := h
  have hb := hp.bd
  obtain ⟨ct, et⟩ := trim_ok (p := p) (by omega) [ev a (-c)]
  obtain ⟨q, hq⟩ := deg1_div c a
  refine remP_eq hp cm nm ⟨ct, ?_, q, ?_⟩
  · have := len_trim p [ev a (-c)]
    simp at this ⊢; omega
  · refine PA.E.trans (PA.E.of_eq fun X => ?_) ((PA.E.refl fun X => ev q X * ev [c, 1] X).add et.symm)
    (try dsimp only)
    rw [hq X]
    show _ = ev q X * (c + X * (1 + X * 0)) + (ev a (-c) + X * 0)
    grind
theorem cP_md {p u v : Int} (hp : 0 < p) (h : Md p u v) : trim p [u] = trim p [v] :=
  trim_uniq hp (trim_ok hp _).1 ((trim_ok hp _).2.trans ((PA.E.of_eq fun x => by simp [ev]).trans ((PA.E.const h.symm).trans (PA.E.of_eq fun x => by simp [ev]))))
theorem cP_len (p v : Int) : (trim p [v]).length ≤ 1 := len_trim p [v]
theorem cP_ev {p : Int} (hp : 0 < p) (v x : Int) : Md p (ev (trim p [v]) x) v := by
  have := (trim_ok hp [v]).2.at x
  exact (show Md p _ _ from this).trans (Md.of_eq (by simp [ev]))
theorem cP_one {p : Int} (hp : Ps p) (v : Int) : trim p [v] = [1] ↔ v % p = 1 := by
  have hb := hp.bd
  constructor
  · intro h
    have := cP_ev (p := p) (by omega) v 0
    rw [h] at this
    have h2 := this.symm.trans (Md.of_eq (show ev [1] 0 = 1 by simp [ev]))
    have h3 := h2.emod
    rw [h3]
    exact Int.emod_eq_of_lt (by omega) (by omega)
  · intro h
    refine trim_uniq (by omega) ⟨fun c hc => by simp at hc; omega, fun _ => by simp⟩ ?_
    have : Md p 1 v := Md.of_emod (by rw [h]; exact Int.emod_eq_of_lt (by omega) (by omega))
    exact (PA.E.of_eq fun x => by simp [ev]).trans ((PA.E.const this).trans (PA.E.of_eq fun x => by simp [ev]))
theorem cP_nil {p : Int} (hp : Ps p) (v : Int) : trim p [v] = [] ↔ v % p = 0 := by
  have hb := hp.bd
  constructor
  · intro h
    have := cP_ev (p := p) (by omega) v 0
    rw [h] at this
    exact Md.zero.mp (this.symm.trans (Md.of_eq (by simp [ev])))
  · intro h
    refine trim_uniq (by omega) Can.nil ?_
    have : Md p 0 v := (Md.zero.mpr h).symm
    exact (PA.E.of_eq fun x => by simp [ev]).trans ((PA.E.const this).trans (PA.E.of_eq fun x => by simp [ev]))
theorem rem1 {p : Int} (hp : Ps p) {a m : List Int} {x : Int} (hm : Deg1 p m x) (ha : Can p a) (la : a.length ≤ 100) {K : D → Prop} {EE : Exc → Prop} (k : K (pT (trim p [ev a x]))) : sp_remainder [.int p, pT a, pT m] K EE := by
  obtain ⟨cm, nm, lm⟩ := hm.can hp
  refine rem_call hp ha cm nm la (by omega) ?_
  rw [remP_deg1 hp a hm]; exact k
/-- a product's remainder -/
theorem mul1 {p : Int} (hp : Ps p) {m : List Int} {u w x : Int} (hm : Deg1 p m x) {K : D → Prop} {EE E2 : Exc → Prop} (k : K (pT (trim p [u * w]))) : sp_product [.int p, pT (trim p [u]), pT (trim p [w])] (fun d => sp_remainder [.int p, d, pT m] K EE) E2 := by
  have hb := hp.bd
  have c1 := (trim_ok (p := p) (by omega) [u]).1
  have l1 := cP_len p u
  have l2 := cP_len p w
  refine ⟨p, _, _, rfl, hp, Can.sm hp c1, by omega, by omega, ?_⟩
  have l3 := len_mul (trim p [u]) (trim p [w])
  have l4 := len_trim p (mulL (trim p [u]) (trim p [w]))
  obtain ⟨c5, e5⟩ := trim_ok (p := p) (by omega) (mulL (trim p [u]) (trim p [w]))
  refine rem1 hp hm c5 (by omega) ?_
  have h6 : Md p (ev (trim p (mulL (trim p [u]) (trim p [w]))) x) (u * w) := by
    refine (show Md p _ _ from e5.at x).trans ?_
    rw [ev_mul]
    exact (cP_ev (by omega) u x).mul (cP_ev (by omega) w x)
  rw [cP_md (by omega) h6]; exact k
theorem pl_power_modulo : Pl N_s_power_modulo (W_s_power_modulo (SP dk)) 4 sp_power_modulo := by
  intro ds K EE ⟨p, a, m, x, e, eq, hp, ha, la, hm, he, k⟩ _
  subst eq
  have hb := hp.bd
  show W_s_power_modulo (SP dk) EE _ [.sh (.int p), .sh (pT a), .sh (.int e), .sh (pT m), .un]
  simp [W_s_power_modulo, SP]
  refine rem1 hp hm (a := [1]) ⟨fun c hc => by simp at hc; omega, fun _ => by simp⟩ (by simp) ?_
  refine rem1 hp hm ha la ?_
  refine while_of (I := fun n ρ => ∃ (u w : Int) (e' : Nat), e' = n ∧ Md p (u * w ^ e') (ev a x ^ e) ∧ ρ = [.sh (.int p), .sh (pT (trim p [w])), .sh (.int e'), .sh (pT m), .sh (pT (trim p [u]))]) (n := e) (fun n ρ N ⟨u, w, e', q1, q2, q⟩ hN => ?_) ⟨1, ev a x, e, rfl, Md.of_eq (Int.one_mul _), by simp [ev]⟩
  subst q
  by_cases h0 : 0 < e'
  · have pe : ∀ j : Nat, e' = 2 * j → w ^ e' = (w * w) ^ j := fun j h => by rw [h, Int.pow_mul, Int.pow_succ, Int.pow_succ, Int.pow_zero, Int.one_mul]
    have po : ∀ j : Nat, e' = 2 * j + 1 → w ^ e' = w * (w * w) ^ j := fun j h => by rw [h, Int.pow_succ, Int.pow_mul, Int.pow_succ, Int.pow_succ, Int.pow_zero, Int.one_mul, Int.mul_comm]
    by_cases ho : (e' : Int) % 2 = 1 <;> by_cases hh : (0 : Int) < (e' : Int) / 2
    · simp [kGt, h0, ho, hh]
      refine mul1 hp hm ?_
      refine mul1 hp hm ?_
      refine hN (e' / 2) _ (by omega) ⟨u * w, w * w, e' / 2, rfl, ?_, by simp⟩
      rw [po (e' / 2) (by omega)] at q2
      exact (Md.of_eq (by grind)).trans q2
    · simp [kGt, h0, ho, hh]
      refine mul1 hp hm ?_
      refine hN (e' / 2) _ (by omega) ⟨u * w, w, e' / 2, rfl, ?_, by simp⟩
      rw [po (e' / 2) (by omega)] at q2
      rw [show e' / 2 = 0 by omega] at q2 ⊢
      exact (Md.of_eq (by grind)).trans q2
    · simp [kGt, h0, ho, hh]
      refine mul1 hp hm ?_
      refine hN (e' / 2) _ (by omega) ⟨u, w * w, e' / 2, rfl, ?_, by simp⟩
      rw [pe (e' / 2) (by omega)] at q2
      exact q2
    · omega
  · have : e' = 0 := by omega
    subst this
    simp [kGt]
    rw [Int.pow_zero, Int.mul_one] at q2
    rw [cP_md (by omega) q2]
    exact k
end K83
end
section
set_option Elab.async false
set_option linter.all false
set_option maxHeartbeats 4000000
set_option maxRecDepth 10000
/-! P83m: roots modulo a polynomial of degree 1. -/
namespace K83
open PySem PySem.Spec PyProof.Rows L2 DL PA
variable {dk : Addr}
theorem sq_one {p a : Int} (hp : Ps p) (h : Md p (a * a) 1) (h1 : ¬ Md p a 1) : Md p a (-1) := by
  have h2 : Md p ((a - 1) * (a + 1)) 0 := ((Md.of_eq (by grind)).trans (h.sub (Md.refl 1))).trans (Md.of_eq (by omega))
  have h3 : ¬ Md p (a - 1) 0 := fun q => h1 ((Md.of_eq (by omega)).trans ((q.add (Md.refl 1)).trans (Md.of_eq (by omega))))
  have h4 := hp.prime h2 h3
  exact (Md.of_eq (by omega)).trans ((h4.sub (Md.refl 1)).trans (Md.of_eq (by omega)))
theorem tabN : ∀ p ∈ [3, 5, 7, 11, 13, 17, 61], ((List.range p).any fun r => r != 0 && r ^ ((p - 1) / 2) % p != 1) = true := by decide +kernel
theorem non_ex {p : Int} (hp : Ps p) : ∃ n : Nat, 0 < n ∧ (n : Int) < p ∧ (n : Int) ^ ((p - 1) / 2).toNat % p ≠ 1 := by
  obtain ⟨k, hk, hmem⟩ := hp.nat
  have hb := hp.bd
  have t := tabN k hmem
  rw [List.any_eq_true] at t
  obtain ⟨r, hr, h⟩ := t
  rw [List.mem_range] at hr
  simp at h
  refine ⟨r, by omega, by omega, fun e => h.2 ?_⟩
  rw [show ((p - 1) / 2).toNat = (k - 1) / 2 by omega, hk] at e
  exact_mod_cast e
theorem p_one {p a : Int} {k : Nat} (hp : Ps p) : a ^ k % p = 1 ↔ Md p (a ^ k) 1 := by
  have hb := hp.bd
  constructor
  · intro h; exact Md.of_emod (by rw [h]; exact (Int.emod_eq_of_lt (by omega) (by omega)).symm)
  · intro h; rw [h.emod]; exact Int.emod_eq_of_lt (by omega) (by omega)
theorem non_neg {p : Int} (hp : Ps p) {a : Int} (h0 : ¬ Md p a 0) (h : ¬ a ^ ((p - 1) / 2).toNat % p = 1) : Md p (a ^ ((p - 1) / 2).toNat) (-1) := by
  have hb := hp.bd
  have ho := hp.odd
  refine sq_one hp ?_ fun q => h ((p_one hp).mpr q)
  have := hp.fer (a := a) fun q => h0 (Md.zero.mpr q)
  rw [show p.toNat - 1 = ((p - 1) / 2).toNat + ((p - 1) / 2).toNat by omega, Int.pow_add] at this
  exact this
theorem deg1_call {p : Int} {m : List Int} {x : Int} (hm : Deg1 p m x) {K : D → Prop} {EE : Exc → Prop} (k : K (.int 1)) : sp_degree [pT m] K EE := by
  obtain ⟨c, rfl, _, _, rfl⟩ := hm
  exact ⟨_, rfl, k⟩
theorem dig_one {p n : Nat} (hp : 2 ≤ p) (h0 : 0 < n) (h : n < p) : dig p n = [(n : Int)] := by
  rw [dig_pos hp h0, Nat.mod_eq_of_lt h, Nat.div_eq_of_lt h, dig_zero]
theorem cP_self {p v : Int} (h0 : 0 < v) (h1 : v < p) : trim p [v] = [v] :=
  trim_uniq (by omega) ⟨fun c hc => by simp at hc; omega, fun _ => by simp; omega⟩ (PA.E.refl _)
theorem pow1 {p : Int} (hp : Ps p) {m : List Int} {u x : Int} {e : Nat} (hm : Deg1 p m x) (he : e ≤ 100000) {K : D → Prop} {EE : Exc → Prop} (k : K (pT (trim p [u ^ e]))) : sp_power_modulo [.int p, pT (trim p [u]), .int e, pT m] K EE := by
  have hb := hp.bd
  have l1 := cP_len p u
  refine ⟨p, _, m, x, e, rfl, hp, (trim_ok (by omega) _).1, by omega, hm, he, ?_⟩
  have : Md p (ev (trim p [u]) x ^ e) (u ^ e) := (cP_ev (by omega) u x).pow e
  rw [cP_md (by omega) this]; exact k
theorem rais1 {p : Int} (hp : Ps p) {K : D → Prop} {EE : Exc → Prop} (k : K (.int p)) : sp_raised [.int p, .int 1] K EE := by
  have hb := hp.bd
  refine ⟨p.toNat, 1, by simp; omega, by omega, by rw [Nat.pow_one]; omega, ?_⟩
  rw [Nat.pow_one, show ((p.toNat : Nat) : Int) = p by omega]; exact k
@[simp high] theorem k_eq1 {l : List Int} {K : D → Prop} : kEq (.tup (List.map D.int l)) (.tup [.int 1]) K = K (.bl (decide (l = [1]))) := k_eqP (b := [1])
@[simp high] theorem k_ne1 {l : List Int} {K : D → Prop} : kNe (.tup (List.map D.int l)) (.tup [.int 1]) K = K (.bl (!decide (l = [1]))) := k_neP (b := [1])
theorem ofix {p : Int} (hp : Ps p) {n : Nat} (h0 : 0 < n) (h1 : (n : Int) < p) {K : D → Prop} {EE : Exc → Prop} (k : K (pT (trim p [(n : Int)]))) : sp_of_index [.int p, .int n] K EE := by
  have hb := hp.bd
  have e : p = ((p.toNat : Nat) : Int) := by omega
  refine ⟨p.toNat, n, by rw [← e], by rw [← e]; exact hp, by omega, ?_⟩
  rw [dig_one (by omega) h0 (by omega), ← cP_self (by omega) h1]; exact k
theorem two_pow (a : Int) (j : Nat) : a ^ 2 ^ j * a ^ 2 ^ j = a ^ 2 ^ (j + 1) := by
  rw [← Int.pow_add, Nat.pow_succ]; congr 1; omega
/-- odd and twos -/
theorem pow_half {p : Int} (hp : Ps p) {o t : Nat} (h : (o : Int) * 2 ^ t = p - 1) (ht : 1 ≤ t) : o * 2 ^ (t - 1) = ((p - 1) / 2).toNat := by
  obtain ⟨s, rfl⟩ : ∃ s, t = s + 1 := ⟨t - 1, by omega⟩
  rw [Int.pow_succ] at h
  have h2 : ((o * 2 ^ s : Nat) : Int) = (o : Int) * 2 ^ s := by simp
  rw [show s + 1 - 1 = s by omega]
  have h3 : (o : Int) * 2 ^ s * 2 = p - 1 := by rw [← h]; grind
  rw [← h2] at h3
  omega
theorem pl_any_root : Pl N_s_any_root (W_s_any_root (SP dk)) 3 sp_any_root := by
  intro ds K EE ⟨p, v, m, x, eq, hp, v0, v1, hm, hv, k⟩ _
  subst eq
  have hb := hp.bd
  have hodd := hp.odd
  show W_s_any_root (SP dk) EE _ [.sh (.int p), .sh (pT [v]), .sh (pT m), .un, .un, .un, .un, .un, .un, .un, .un, .un, .un]
  simp [W_s_any_root, SP]
  refine deg1_call hm ?_
  refine rais1 hp ?_
  simp
  refine while_of (I := fun n ρ => ∃ o t : Nat, o = n ∧ 1 ≤ o ∧ (o : Int) * 2 ^ t = p - 1 ∧ ρ = [.sh (.int p), .sh (pT [v]), .sh (pT m), .sh (.int p), .un, .un, .un, .un, .sh (.int o), .sh (.int t), .un, .un, .un]) (n := (p - 1).toNat) (fun n ρ N ⟨o, t, q1, q2, q3, q⟩ hN => ?_) ⟨(p - 1).toNat, 0, rfl, by omega, by simp; omega, by simp; omega⟩
  subst q
  by_cases ho : (o : Int) % 2 = 0
  · simp [ho]
    refine hN (o / 2) _ (by omega) ⟨o / 2, t + 1, rfl, by omega, ?_, by simp⟩
    have : o = 2 * (o / 2) := by omega
    rw [← q3, Int.pow_succ]
    conv => rhs; rw [this]
    simp; grind
  simp [ho]
  have ht : 1 ≤ t := by
    by_cases h : t = 0
    · subst h; simp at q3; omega
    · omega
  have hh := pow_half hp q3 ht
  clear hN q1 ho
  obtain ⟨n0, n1, n2, n3⟩ := non_ex hp
  obtain ⟨H, hH⟩ : ∃ H : Nat, (p - 1) / 2 = H := ⟨((p - 1) / 2).toNat, by omega⟩
  have hH2 : ((p - 1) / 2).toNat = H := by omega
  have nneg : ∀ a : Int, ¬ Md p a 0 → ¬ a ^ H % p = 1 → Md p (a ^ H) (-1) := fun a b c => by
    have := non_neg hp b (by rw [hH2]; exact c)
    rw [hH2] at this; exact this
  rw [hH2] at hh n3 hv
  have hHb : H ≤ 100000 := by omega
  have ho2 : o ≤ 60 := by
    have h2 : (1 : Int) ≤ 2 ^ t := by have := Int.pow_pos (m := t) (show (0 : Int) < 2 by omega); omega
    have h3 := Int.mul_le_mul_of_nonneg_left h2 (show (0 : Int) ≤ o by omega)
    rw [q3] at h3
    omega
  have htb : t ≤ 60 := by
    have h1 : t - 1 < 2 ^ (t - 1) := Nat.lt_two_pow_self
    have h2 : 2 ^ (t - 1) ≤ o * 2 ^ (t - 1) := Nat.le_mul_of_pos_left _ (by omega)
    omega
  refine while_of (I := fun n ρ => ∃ c : Nat, c ≤ n0 ∧ n = n0 - c ∧ 1 ≤ c ∧ ρ = [.sh (.int p), .sh (pT [v]), .sh (pT m), .sh (.int p), .sh (.int c), .sh (pT (trim p [(c : Int)])), .un, .un, .sh (.int o), .sh (.int t), .un, .un, .un]) (n := n0 - 1) (fun n ρ N ⟨c, q4, q5, q6, q⟩ hN => ?_) ⟨1, by omega, rfl, by omega, by rw [show (((1 : Nat) : Int)) = 1 from rfl, cP_self (by omega) (by omega)]; rfl⟩
  subst q
  simp [hH]
  refine pow1 hp hm hHb ?_
  simp only [k_eq1, cP_one hp]
  by_cases hc : (c : Int) ^ H % p = 1
  · have hlt : c < n0 := by
      by_cases h : c = n0
      · subst h; exact absurd hc n3
      · omega
    refine .inr ⟨by simp [hc], ?_⟩
    have e1 : (c : Int) + 1 = ((c + 1 : Nat) : Int) := by simp
    rw [e1]
    exact ofix hp (by omega) (by omega) (hN (n0 - (c + 1)) _ (by omega) ⟨c + 1, by omega, rfl, by omega, by simp⟩)
  refine .inl ⟨by simp [hc], ?_⟩
  clear hN
  have hc0 : ¬ Md p (c : Int) 0 := fun q => by
    have := q.eq ⟨by omega, by omega⟩ ⟨by omega, by omega⟩
    omega
  have hs := nneg c hc0 hc
  refine pow1 hp hm (by omega) ?_
  have e2 : ((o : Int) + 1) / 2 = (((o + 1) / 2 : Nat) : Int) := by omega
  rw [e2]
  have cv : Can p [v] := ⟨fun d hd => by simp at hd; omega, fun _ => by simp; omega⟩
  refine ⟨p, [v], m, x, (o + 1) / 2, rfl, hp, cv, by simp, hm, by omega, ?_⟩
  have ev1 : ev [v] x = v := by simp [ev]
  rw [ev1]
  refine ⟨p, [v], m, x, o, rfl, hp, cv, by simp, hm, by omega, ?_⟩
  rw [ev1]
  have hr0 : Md p ((v ^ o) ^ 2 ^ (t - 1)) 1 := by
    rw [← Int.pow_mul, hh]; exact (p_one hp).mp hv
  have hs0 : Md p (((c : Int) ^ o) ^ 2 ^ (t - 1)) (-1) := by
    rw [← Int.pow_mul, hh]; exact hs
  refine while_of (I := fun n ρ => ∃ (s f r : Int) (t : Nat) (s1 s2 s3 : Sl), t = n ∧ 1 ≤ t ∧ t ≤ 60 ∧ Md p (r ^ 2 ^ (t - 1)) 1 ∧ Md p (s ^ 2 ^ (t - 1)) (-1) ∧ ρ = [.sh (.int p), .sh (pT [v]), .sh (pT m), .sh (.int p), .sh (.int c), .sh (pT (trim p [s])), .sh (pT (trim p [f])), .sh (pT (trim p [r])), .sh (.int o), .sh (.int t), s1, s2, s3]) (n := t) (fun n ρ N ⟨s, f, r, t, s1, s2, s3, r1, r2, r3, r4, r5, q⟩ hN => ?_) ⟨_, _, _, t, _, _, _, rfl, ht, htb, hr0, hs0, rfl⟩
  subst q
  by_cases hr : r % p = 1
  · simp [cP_one hp, hr]
    exact k f
  have s1p : s ^ 1 = s := by rw [Int.pow_succ, Int.pow_zero, Int.one_mul]
  have rp : r ^ 1 = r := by rw [Int.pow_succ, Int.pow_zero, Int.one_mul]
  have hr' : ¬ Md p r 1 := fun q => hr (by have := (p_one (k := 1) (a := r) hp).mpr (by rw [Int.pow_succ, Int.pow_zero, Int.one_mul]; exact q); rwa [Int.pow_succ, Int.pow_zero, Int.one_mul] at this)
  simp [cP_one hp, hr]
  refine while_of (I := fun n ρ => ∃ j : Nat, j ≤ t - 1 ∧ n = t - 1 - j ∧ (1 ≤ j → ¬ Md p (r ^ 2 ^ (j - 1)) 1) ∧ ρ = [.sh (.int p), .sh (pT [v]), .sh (pT m), .sh (.int p), .sh (.int c), .sh (pT (trim p [s])), .sh (pT (trim p [f])), .sh (pT (trim p [r])), .sh (.int o), .sh (.int t), .sh (.int j), .sh (pT (trim p [r ^ 2 ^ j])), s3]) (n := t - 1) (fun n2 ρ N2 ⟨j, j1, j2, j3, q⟩ hN2 => ?_) ⟨0, by omega, by omega, fun h => by omega, by simp [rp]⟩
  subst q
  by_cases hj : r ^ 2 ^ j % p = 1
  · simp [cP_one hp, hj]
    have hj1 : 1 ≤ j := by
      by_cases h : j = 0
      · subst h; rw [Nat.pow_zero, rp] at hj; exact absurd hj hr
      · omega
    have hjm := (p_one hp).mp hj
    have hneg : Md p (r ^ 2 ^ (j - 1)) (-1) := sq_one hp (by rw [two_pow, show j - 1 + 1 = j by omega]; exact hjm) (j3 hj1)
    refine ⟨by omega, by omega, ?_⟩
    refine for_one 0 _ (fun i ρ => ∃ s3, ρ = [.sh (.int p), .sh (pT [v]), .sh (pT m), .sh (.int p), .sh (.int c), .sh (pT (trim p [s ^ 2 ^ i])), .sh (pT (trim p [f])), .sh (pT (trim p [r])), .sh (.int o), .sh (.int t), .sh (.int j), .sh (pT (trim p [r ^ 2 ^ j])), s3]) ⟨s3, by simp [s1p]⟩ (fun ρ ⟨s3, q⟩ => ?_) (fun i ρ N3 hi ⟨s3, q⟩ hN3 => ?_)
    · subst q
      simp
      refine mul1 hp hm ?_
      refine mul1 hp hm ?_
      refine mul1 hp hm ?_
      rw [two_pow]
      have ei : t - j - 1 + 1 = t - j := by omega
      rw [ei]
      refine hN j _ (by omega) ⟨s ^ 2 ^ (t - j), _, r * s ^ 2 ^ (t - j), j, _, _, _, rfl, hj1, by omega, ?_, ?_, rfl⟩
      · have e4 : (r * s ^ 2 ^ (t - j)) ^ 2 ^ (j - 1) = r ^ 2 ^ (j - 1) * s ^ 2 ^ (t - 1) := by
          rw [Int.mul_pow, ← Int.pow_mul, ← Nat.pow_add]; congr 3; omega
        rw [e4]
        exact hneg.mul r5
      · rw [← Int.pow_mul, ← Nat.pow_add, show t - j + (j - 1) = t - 1 by omega]; exact r5
    · subst q
      simp
      refine mul1 hp hm ?_
      rw [two_pow]
      exact hN3 _ ⟨_, rfl⟩
  · simp [cP_one hp, hj]
    have hlt : j < t - 1 := by
      by_cases h : j = t - 1
      · subst h; exact absurd ((p_one hp).mpr r4) hj
      · omega
    refine mul1 hp hm ?_
    rw [two_pow]
    refine hN2 (t - 1 - (j + 1)) _ (by omega) ⟨j + 1, by omega, rfl, fun _ q => hj ((p_one hp).mpr (by rwa [show j + 1 - 1 = j by omega] at q)), by simp⟩
end K83
end
section
set_option Elab.async false
set_option linter.all false
set_option maxHeartbeats 4000000
set_option maxRecDepth 10000
/-! P83n: kinds of places, prime polynomials. -/
namespace K83
open PySem PySem.Spec PyProof.Rows L2 DL PA
variable {dk : Addr}
theorem scl_neg {p : Int} (hp : 0 < p) (w : Int) : trim p (sclL (-1) (trim p [w])) = trim p [-w] := by
  refine trim_uniq hp (trim_ok hp _).1 ?_
  refine (trim_ok hp [-w]).2.trans ?_
  refine PA.E.trans (PA.E.of_eq fun x => ?_) (((PA.E.refl fun _ => (-1 : Int)).mul (trim_ok hp [w]).2.symm (P1.const _) (P1.ev _)).trans (PA.E.of_eq fun x => (ev_scl _ _ _).symm))
  simp [ev]
theorem ix1 {p : Int} (hp : Ps p) (w : Int) {K : D → Prop} {EE : Exc → Prop} (k : ∀ i, K (.int i)) : sp_index [.int p, pT (trim p [w])] K EE := by
  have := cP_len p w
  exact ⟨p, _, rfl, hp, by omega, k _⟩
theorem cls_cases {p : Int} (hp : Ps p) (v : Int) : (v % p = 0 ∧ cls p v = 1) ∨ (v % p ≠ 0 ∧ v ^ ((p - 1) / 2).toNat % p = 1 ∧ cls p v = 2) ∨ (v % p ≠ 0 ∧ v ^ ((p - 1) / 2).toNat % p ≠ 1 ∧ cls p v = 0) := by
  unfold cls
  by_cases h : v % p = 0
  · rw [if_pos h]; exact .inl ⟨h, rfl⟩
  · rw [if_neg h]
    by_cases h2 : v ^ ((p - 1) / 2).toNat % p = 1
    · rw [if_pos h2]; exact .inr (.inl ⟨h, h2, rfl⟩)
    · rw [if_neg h2]; exact .inr (.inr ⟨h, h2, rfl⟩)
theorem pl_root_modulo : Pl N_s_root_modulo (W_s_root_modulo (SP dk)) 3 sp_root_modulo := by
  intro ds K EE ⟨p, f, m, x, eq, hp, cf, lf, hm, k0, k1, k2⟩ _
  subst eq
  have hb := hp.bd
  show W_s_root_modulo (SP dk) EE _ [.sh (.int p), .sh (pT f), .sh (pT m), .un, .un]
  simp [W_s_root_modulo, SP]
  refine rem1 hp hm cf lf ?_
  obtain ⟨H, hH⟩ : ∃ H : Nat, (p - 1) / 2 = H := ⟨((p - 1) / 2).toNat, by omega⟩
  have hH2 : ((p - 1) / 2).toNat = H := by omega
  have hc := cls_cases hp (ev f x)
  rw [hH2] at hc
  rcases hc with ⟨h, c⟩ | ⟨h, h2, c⟩ | ⟨h, h2, c⟩
  · have e := (cP_nil hp (ev f x)).mpr h
    simp [e]
    exact k1 c
  · have e : trim p [ev f x] ≠ [] := fun q => h ((cP_nil hp (ev f x)).mp q)
    simp [e]
    refine deg1_call hm ?_
    refine rais1 hp ?_
    simp [hH]
    refine pow1 hp hm (by omega) ?_
    have e2 := (cP_one hp (ev f x ^ H)).mpr h2
    simp [e2]
    have hvb := md_bd (p := p) (by omega) (ev f x)
    have e3 : trim p [ev f x] = [ev f x % p] := by
      rw [cP_md (v := ev f x % p) (by omega) (Md.mod _).symm]
      exact cP_self (by omega) (by omega)
    rw [e3]
    refine ⟨p, ev f x % p, m, x, rfl, hp, by omega, by omega, hm, ?_, fun w => ?_⟩
    · rw [hH2, ((Md.mod (p := p) (ev f x)).pow H).emod]; exact h2
    · have l1 := cP_len p w
      refine ⟨p, _, -1, rfl, hp, Can.sm hp (trim_ok (by omega) [w]).1, by omega, ?_⟩
      rw [scl_neg (by omega)]
      refine ix1 hp w fun i => ?_
      refine ix1 hp (-w) fun j => ?_
      simp [kLt]
      by_cases hij : i < j
      · exact .inr ⟨hij, k2 c w⟩
      · exact .inl ⟨by omega, k2 c (-w)⟩
  · have e : trim p [ev f x] ≠ [] := fun q => h ((cP_nil hp (ev f x)).mp q)
    simp [e]
    refine deg1_call hm ?_
    refine rais1 hp ?_
    simp [hH]
    refine pow1 hp hm (by omega) ?_
    have e2 : ¬ trim p [ev f x ^ H] = [1] := fun q => h2 ((cP_one hp (ev f x ^ H)).mp q)
    simp [e2]
    exact k0 c
theorem pl_kind_over : Pl N_s_kind_over (W_s_kind_over (SP dk)) 2 sp_kind_over := by
  intro ds K EE ⟨p, f, m, x, eq, hf, hm, k0, k1, k2⟩ _
  subst eq
  have hp := hf.ps
  have hb := hp.bd
  have hl := hf.len
  show W_s_kind_over (SP dk) EE _ [.sh (cv p f), .sh (pT m), .un]
  simp [W_s_kind_over, SP]
  refine rem1 hp hm hf.can (by omega) ?_
  have hc := cls_cases hp (ev f x)
  rcases hc with ⟨h, c⟩ | ⟨h, h2, c⟩ | ⟨h, h2, c⟩
  · have e := (cP_nil hp (ev f x)).mpr h
    simp [e]
    exact k1 c
  · have e : trim p [ev f x] ≠ [] := fun q => h ((cP_nil hp (ev f x)).mp q)
    simp [e]
    refine ⟨p, f, m, x, rfl, hp, hf.can, by omega, hm, fun q => by omega, fun q => by omega, fun _ w => ?_⟩
    simp [D.isNon]
    exact k2 c w
  · have e : trim p [ev f x] ≠ [] := fun q => h ((cP_nil hp (ev f x)).mp q)
    simp [e]
    refine ⟨p, f, m, x, rfl, hp, hf.can, by omega, hm, fun _ => ?_, fun q => by omega, fun q => by omega⟩
    simp [D.isNon]
    exact k0 c
theorem eq_str {a b : Str} {r : Bool} (h : ((D.str a).shp && ((D.str b).shp && (D.eqb (.str a) (.str b) == r))) = true) {K : D → Prop} : kEq (.str a) (.str b) K = K (.bl r) := by
  simp only [Bool.and_eq_true, beq_iff_eq] at h
  rw [k_eqS, h.2.2]
  exact propext ⟨fun q => q.2.2, fun q => ⟨h.1, h.2.1, q⟩⟩
theorem eq_st {K : D → Prop} : kEq (.str "still") (.str "two") K = K (.bl false) := eq_str (by decide +kernel)
theorem eq_ot {K : D → Prop} : kEq (.str "one") (.str "two") K = K (.bl false) := eq_str (by decide +kernel)
theorem eq_tt {K : D → Prop} : kEq (.str "two") (.str "two") K = K (.bl true) := eq_str (by decide +kernel)
theorem pl_places_over : Pl N_s_places_over (W_s_places_over (SP dk)) 2 sp_places_over := by
  intro ds K EE ⟨p, f, m, x, eq, hf, hm, k0, k1, k2⟩ _
  subst eq
  have hp := hf.ps
  have hb := hp.bd
  show W_s_places_over (SP dk) EE _ [.sh (cv p f), .sh (pT m), .un, .un]
  simp [W_s_places_over, SP]
  refine ⟨p, f, m, x, rfl, hf, hm, fun c => ?_, fun c => ?_, fun c w => ?_⟩
  · simp [eq_st]; exact k0 c
  · simp [eq_ot]; exact k1 c
  · simp [eq_tt]
    have l1 := cP_len p w
    exact ⟨p, _, -1, rfl, hp, Can.sm hp (trim_ok (by omega) [w]).1, by omega, k2 c _ _⟩
end K83
end
section
set_option Elab.async false
set_option linter.all false
set_option maxHeartbeats 4000000
set_option maxRecDepth 10000
/-! P83o: prime polynomials listed, places of degree 1. -/
namespace K83
open PySem PySem.Spec PyProof.Rows L2 DL PA
variable {dk : Addr}
def bitsD (n : Nat) (L : List Nat) : List D := (List.range n).map fun (k : Nat) => D.bl (L.contains k)
theorem bits_len (n : Nat) (L : List Nat) : (bitsD n L).length = n := by unfold bitsD; simp
theorem bits_nil (n : Nat) : List.replicate n (D.bl false) = bitsD n [] := by
  unfold bitsD
  refine List.ext_getElem (by simp) fun i h1 h2 => ?_
  simp
theorem bits_set {n : Nat} (L : List Nat) {j : Nat} (hj : j < n) : (bitsD n L).set j (.bl true) = bitsD n (L ++ [j]) := by
  unfold bitsD
  refine List.ext_getElem (by simp) fun i h1 h2 => ?_
  rw [List.getElem_set]
  simp
  by_cases h : j = i
  · subst h; simp
  · rw [if_neg h]
    have : ¬ i = j := fun e => h e.symm
    simp [this]
theorem enD_bits (n : Nat) (L : List Nat) : enD 0 (bitsD n L) = (List.range n).map fun (k : Nat) => D.tup [.int (k : Int), .bl (L.contains k)] := by
  have go : ∀ (n s : Nat), enD s ((List.range' s n).map fun (k : Nat) => D.bl (L.contains k)) = (List.range' s n).map fun (k : Nat) => D.tup [.int (k : Int), .bl (L.contains k)] := fun n => by
    induction n with
    | zero => intro s; rfl
    | succ n ih =>
      intro s
      rw [List.range'_succ]
      show D.tup [.int (s : Int), _] :: enD (s + 1) _ = _
      rw [ih (s + 1)]; rfl
  unfold bitsD
  rw [List.range_eq_range']
  exact go n 0
theorem pml_bd {p m : Nat} (h : (p, m) ∈ PML) : Ps p ∧ 1 ≤ m ∧ m ≤ 4 ∧ p ^ m ≤ 200 ∧ 3 ≤ p := by
  have := (by decide : ∀ x ∈ PML, (x.1 = 3 ∨ x.1 = 5 ∨ x.1 = 7 ∨ x.1 = 11 ∨ x.1 = 13 ∨ x.1 = 17 ∨ x.1 = 61) ∧ 1 ≤ x.2 ∧ x.2 ≤ 4 ∧ x.1 ^ x.2 ≤ 200 ∧ 3 ≤ x.1) _ h
  obtain ⟨h1, h2, h3, h4, h5⟩ := this
  refine ⟨?_, h2, h3, h4, h5⟩
  unfold Ps
  rcases h1 with e | e | e | e | e | e | e <;> (have e : p = _ := e) <;> subst e <;> simp
theorem rais_of {p e : Nat} (h1 : 1 ≤ p) (h2 : p ^ e < 1000000000000) {K : D → Prop} {EE : Exc → Prop} (k : K (.int ((p ^ e : Nat) : Int))) : sp_raised [.int p, .int e] K EE := ⟨p, e, rfl, h1, h2, k⟩
theorem chk_of {p m : Nat} (h : (p, m) ∈ PML) {low a b : Nat} (hl : low < m / 2) (ha : a < p ^ (1 + low)) (hb : b < p ^ (m - (1 + low))) : 0 ≤ mkI p m (1 + low) a b ∧ mkI p m (1 + low) a b < ((p ^ m : Nat) : Int) := by
  have := tabM _ h
  unfold chkM at this
  simp only [List.all_eq_true, List.mem_range, Bool.and_eq_true, decide_eq_true_eq] at this
  exact this low hl a ha b hb
def mkL1 (p m low a n : Nat) : List Nat := (List.range n).map fun b => (mkI p m (1 + low) a b).toNat
def mkL2 (p m low n : Nat) : List Nat := (List.range n).flatMap fun a => mkL1 p m low a (p ^ (m - (1 + low)))
def mkL3 (p m n : Nat) : List Nat := (List.range n).flatMap fun low => mkL2 p m low (p ^ (1 + low))
theorem mk1_succ (p m low a n : Nat) : mkL1 p m low a (n + 1) = mkL1 p m low a n ++ [(mkI p m (1 + low) a n).toNat] := by
  unfold mkL1; rw [List.range_succ, List.map_append]; rfl
theorem mk2_succ (p m low n : Nat) : mkL2 p m low (n + 1) = mkL2 p m low n ++ mkL1 p m low n (p ^ (m - (1 + low))) := by
  unfold mkL2; rw [List.range_succ, List.flatMap_append]; simp
theorem mk3_succ (p m n : Nat) : mkL3 p m (n + 1) = mkL3 p m n ++ mkL2 p m n (p ^ (1 + n)) := by
  unfold mkL3; rw [List.range_succ, List.flatMap_append]; simp
@[simp] theorem e_lBor {i : Nat} {fl : WL} {ρ : DL.Env} {K : List D → Prop} : lBor i fl ρ K = ∃ xs, ρ[i]? = some (.lv xs) ∧ fl (ρ.set i (.sh (.lst xs))) fun ys => D.nolL ys = true ∧ K ys := rfl
theorem nolL_pTs {α : Type} (u : α → List Int) : ∀ l : List α, D.nolL (l.map fun x => pT (u x)) = true
  | [] => rfl
  | x :: l => by
    show ((pT (u x)).nol && D.nolL (l.map fun x => pT (u x))) = true
    rw [nol_pT, nolL_pTs u l]; rfl
theorem rais_eq {p e A : Nat} (h : p ^ e = A) {x : Int} (hx : x = (e : Int)) (h1 : 1 ≤ p) (h2 : A < 1000000000000) {K : D → Prop} {EE : Exc → Prop} (k : K (.int (A : Int))) : sp_raised [.int p, .int x] K EE := by
  subst h hx; exact rais_of h1 h2 k
theorem oidx {p n : Nat} (hp : Ps p) (hn : n ≤ 100000) {x : Int} (hx : x = (n : Int)) {K : D → Prop} {EE : Exc → Prop} (k : K (pT (dig p n))) : sp_of_index [.int p, .int x] K EE := by
  subst hx; exact ⟨p, n, rfl, hp, hn, k⟩
theorem pl_prime_polynomials : Pl N_s_prime_polynomials (W_s_prime_polynomials (SP dk)) 2 sp_prime_polynomials := by
  intro ds K EE ⟨p, m, eq, hm, k⟩ _
  subst eq
  obtain ⟨hp, m1, m4, hpm, p3⟩ := pml_bd hm
  have hb := hp.bd
  show W_s_prime_polynomials (SP dk) EE _ [.sh (.int p), .sh (.int m), .un, .un, .un, .un, .un, .un, .un, .un, .un]
  simp [W_s_prime_polynomials, SP]
  refine rais_of (by omega) (by omega) ?_
  have h5 : ¬ (5000 : Int) < ((p ^ m : Nat) : Int) := by omega
  obtain ⟨M, hM⟩ : ∃ M, p ^ m = M := ⟨_, rfl⟩
  rw [hM] at hpm h5 ⊢
  have e5 : decide ((5000 : Int) < (M : Int)) = false := decide_eq_false h5
  simp only [kGt, k_cmp]
  refine ⟨by rw [e5], (M : Int), rfl, by omega, by omega, by omega, by omega, ?_⟩
  have pw : ∀ j, j ≤ m → p ^ j ≤ M := fun j hj => by rw [← hM]; exact Nat.pow_le_pow_right (by omega) hj
  have hp1 : (2 : Nat) ≤ p := by omega
  refine for_one 1 _ (fun i ρ => ∃ s4 s5 s6 s7 s8, ρ = [.sh (.int p), .sh (.int m), .sh (.int M), .lv (bitsD M (mkL3 p m i)), s4, s5, s6, s7, s8, .un, .un]) ⟨.un, .un, .un, .un, .un, by rw [bits_nil]; rfl⟩ (fun ρ ⟨s4, s5, s6, s7, s8, q⟩ => ?_) (fun i ρ N hi ⟨s4, s5, s6, s7, s8, q⟩ hN => ?_)
  · subst q
    have ec : mkL3 p m (m / 2) = marks p m := by unfold mkL3 mkL2 mkL1 marks; rfl
    simp [bits_len]
    have e2 : ((m : Int) / 2).toNat = m / 2 := by omega
    rw [enD_bits]
    refine comp_filt (fun (k : Nat) => D.tup [.int (k : Int), .bl ((mkL3 p m (m / 2)).contains k)]) (fun (k : Nat) => pT (dig p (M + k))) (fun k => !(mkL3 p m (m / 2)).contains k) _ [] (fun c hc X Y h1 h2 => ?_) ?_
    · have hc2 := List.mem_range.mp hc
      by_cases q : (mkL3 p m (m / 2)).contains c = true
      · have q2 := h2 (by rw [q]; rfl)
        simp [q]
        simp at q
        simp [q]
        exact q2
      · have q2 := h1 (by simpa using q)
        simp at q
        simp [q]
        exact oidx hp (by omega) (by simp) q2
    · rw [ec]
      have e3 : prs p m = ((List.range M).filter fun k => !(marks p m).contains k).map fun k => dig p (M + k) := by
        unfold prs prsI; rw [hM]
      rw [e3, List.map_map] at k
      rw [List.nil_append]
      exact ⟨nolL_pTs _ _, k⟩
  · subst q
    have hi2 : i < m / 2 := by omega
    obtain ⟨w, hw⟩ : ∃ w, w = 1 + i := ⟨_, rfl⟩
    obtain ⟨u, hu⟩ : ∃ u, m = w + u := ⟨m - w, by omega⟩
    have el : 1 + (i : Int) = (w : Int) := by omega
    have em : (m : Int) - (w : Int) = (u : Int) := by omega
    obtain ⟨A, hA⟩ : ∃ A, p ^ w = A := ⟨_, rfl⟩
    obtain ⟨B, hB⟩ : ∃ B, p ^ u = B := ⟨_, rfl⟩
    have b1 : A ≤ M := by rw [← hA]; exact pw w (by omega)
    have b2 : B ≤ M := by rw [← hB]; exact pw u (by omega)
    simp
    rw [el]
    refine rais_eq hA rfl (by omega) (by omega) ⟨_, rfl, by omega, by omega, ?_⟩
    rw [show ((A : Nat) : Int).toNat = A from Int.toNat_natCast _]
    refine for_one 0 A (fun a ρ => ∃ s5 s6 s7 s8, ρ = [.sh (.int p), .sh (.int m), .sh (.int M), .lv (bitsD M (mkL3 p m i ++ mkL2 p m i a)), .sh (.int w), s5, s6, s7, s8, .un, .un]) ⟨s5, s6, s7, s8, by unfold mkL2; simp⟩ (fun ρ ⟨s5, s6, s7, s8, q⟩ => ?_) (fun a ρ N2 ha ⟨s5, s6, s7, s8, q⟩ hN2 => ?_)
    · subst q
      refine hN _ ⟨.sh (.int w), s5, s6, s7, s8, ?_⟩
      rw [mk3_succ, ← hw, hA]
    · subst q
      simp
      refine rais_eq hA rfl (by omega) (by omega) ?_
      simp
      refine oidx hp (n := A + a) (by omega) (by simp) ?_
      rw [em]
      refine rais_eq hB rfl (by omega) (by omega) ⟨_, rfl, by omega, by omega, ?_⟩
      rw [show ((B : Nat) : Int).toNat = B from Int.toNat_natCast _]
      refine for_one 0 B (fun b ρ => ∃ s7 s8, ρ = [.sh (.int p), .sh (.int m), .sh (.int M), .lv (bitsD M (mkL3 p m i ++ mkL2 p m i a ++ mkL1 p m i a b)), .sh (.int w), .sh (.int a), .sh (pT (dig p (A + a))), s7, s8, .un, .un]) ⟨s7, s8, by unfold mkL1; simp⟩ (fun ρ ⟨s7, s8, q⟩ => ?_) (fun b ρ N3 hb ⟨s7, s8, q⟩ hN3 => ?_)
      · subst q
        refine hN2 _ ⟨.sh (.int a), .sh (pT (dig p (A + a))), s7, s8, ?_⟩
        rw [mk2_succ, ← hw, show m - w = u by omega, hB, List.append_assoc]
      · subst q
        simp
        rw [em]
        refine rais_eq hB rfl (by omega) (by omega) ?_
        simp
        refine oidx hp (n := B + b) (by omega) (by simp) ?_
        have d1 := dig_len hp1 (A + a)
        have d2 := dig_len hp1 (B + b)
        have hsm : ∀ c ∈ dig p (A + a), Sm c := fun c hc => by
          have := dig_mem hp1 _ c hc
          exact ⟨by omega, by omega⟩
        refine ⟨p, _, _, rfl, hp, hsm, by omega, by omega, ?_⟩
        have l3 := len_mul (dig p (A + a)) (dig p (B + b))
        have l4 := len_trim p (mulL (dig p (A + a)) (dig p (B + b)))
        refine ⟨p, _, rfl, hp, by omega, ?_⟩
        have hmk : ev (trim p (mulL (dig p (A + a)) (dig p (B + b)))) p - (M : Int) = mkI p m (1 + i) a b := by
          unfold mkI
          rw [← hw, hA, show m - w = u by omega, hB, hM]
        have hck := chk_of hm (low := i) (a := a) (b := b) hi2 (by rw [← hw, hA]; exact ha) (by rw [← hw, show m - w = u by omega, hB]; exact hb)
        rw [hM] at hck
        simp
        rw [hmk]
        refine ⟨(mkI p m (1 + i) a b).toNat, ixN_of (n := (bitsD M (mkL3 p m i ++ (mkL2 p m i a ++ mkL1 p m i a b))).length) hck.1 (by rw [bits_len]; exact hck.2), ?_⟩
        rw [bits_set _ (by omega)]
        refine hN3 _ ⟨.sh (.int b), .sh (pT (dig p (B + b))), ?_⟩
        rw [mk1_succ]
        simp
/-! ### places of degree 1 -/
@[simp] theorem e_lIf {ft : WT} {fl hl : WL} {ρ : DL.Env} {K : List D → Prop} : lIf ft fl hl ρ K = ft ρ fun c => if c = true then fl ρ K else hl ρ K := rfl
theorem k_neS {s : Str} {y : D} {K : D → Prop} : kNe (.str s) y K = ((D.str s).shp = true ∧ y.shp = true ∧ K (.bl (!D.eqb (.str s) y))) := by cases y <;> rfl
theorem ne_str {a b : Str} {r : Bool} (h : ((D.str a).shp && ((D.str b).shp && (D.eqb (.str a) (.str b) == !r))) = true) {K : D → Prop} : kNe (.str a) (.str b) K = K (.bl r) := by
  simp only [Bool.and_eq_true, beq_iff_eq] at h
  rw [k_neS, h.2.2, Bool.not_not]
  exact propext ⟨fun q => q.2.2, fun q => ⟨h.1, h.2.1, q⟩⟩
theorem ne_ss {K : D → Prop} : kNe (.str "still") (.str "still") K = K (.bl false) := ne_str (by decide +kernel)
theorem ne_os {K : D → Prop} : kNe (.str "one") (.str "still") K = K (.bl true) := ne_str (by decide +kernel)
theorem ne_ts {K : D → Prop} : kNe (.str "two") (.str "still") K = K (.bl true) := ne_str (by decide +kernel)
@[simp] theorem at_0 {α : Type} {x : α} {xs : List α} : atI (x :: xs) 0 = some x := by
  rw [atI_ofNat _ (by omega)]; rfl
theorem ps_pml {p : Nat} (hp : Ps p) : (p, 1) ∈ PML := by
  have : p = 3 ∨ p = 5 ∨ p = 7 ∨ p = 11 ∨ p = 13 ∨ p = 17 ∨ p = 61 := by
    rcases hp with h | h | h | h | h | h | h <;> omega
  rcases this with e | e | e | e | e | e | e <;> subst e <;> decide
theorem prs_one {p : Nat} (hp : Ps p) : prs p 1 = (List.range p).map fun (c : Nat) => [(c : Int), 1] := by
  have := tabO _ (ps_pml hp)
  unfold chkO at this
  exact beq_iff_eq.mp this
theorem cls_le (p v : Int) : cls p v ≤ 2 := by unfold cls; split <;> (try split) <;> omega
theorem sum_cls (p : Int) (f : List Int) : ∀ l : List Nat, (l.map fun (c : Nat) => cls p (ev f (-(c : Int)))).sum ≤ 2 * l.length
  | [] => by simp
  | c :: l => by
    have h1 := sum_cls p f l
    have h2 := cls_le p (ev f (-(c : Int)))
    simp only [List.map_cons, List.sum_cons, List.length_cons]
    omega
theorem pl_places : Pl N_s_places (W_s_places (SP dk)) 2 sp_places := by
  intro ds K EE ⟨p, f, eq, hf, k⟩ _
  subst eq
  have hp := hf.ps
  have hb := hp.bd
  show W_s_places (SP dk) EE _ [.sh (cv p f), .sh (.int 1), .un, .un, .un, .un]
  simp [W_s_places, SP]
  refine rais1 hp ?_
  have h5 : decide ((5000 : Int) < (p : Int)) = false := decide_eq_false (by omega)
  simp only [kGt, k_cmp]
  refine ⟨by rw [h5], p, 1, by simp, ps_pml hp, ?_⟩
  rw [prs_one hp]
  refine ⟨_, .inl rfl, ?_⟩
  rw [List.map_map]
  refine for_pre _ (List.range p) (fun done ρ => ∃ (l : List D) (s4 : Sl), l.length = 1 + (done.map fun (c : Nat) => cls p (ev f (-(c : Int)))).sum ∧ ρ = [.sh (cv p f), .sh (.int 1), .sh (.int p), .lv l, s4, .un]) ⟨_, _, rfl, rfl⟩ (fun ρ ⟨l, s4, hl, q⟩ => ?_) (fun done c rest ρ N e ⟨l, s4, hl, q⟩ hN => ?_)
  · subst q
    simp
    exact k l hl
  · subst q
    have hc : c ∈ List.range p := by rw [e]; simp
    have hc2 := List.mem_range.mp hc
    have hlen : done.length ≤ p := by
      have := congrArg List.length e
      simp at this; omega
    have hs := sum_cls p f done
    have hd : Deg1 p [(c : Int), 1] (-(c : Int)) := ⟨c, rfl, by omega, by omega, rfl⟩
    simp
    refine ⟨p, f, [(c : Int), 1], -(c : Int), rfl, hf, hd, fun h => ?_, fun h => ?_, fun h u w => ?_⟩
    · simp [lcL, ne_ss]
      refine ⟨by omega, hN _ ⟨_, _, ?_, rfl⟩⟩
      rw [List.map_append, List.sum_append]
      simp [h]; omega
    · simp [lcL, ne_os]
      refine ⟨by omega, hN _ ⟨_, _, ?_, rfl⟩⟩
      rw [List.map_append, List.sum_append]
      simp [h]; omega
    · simp [lcL, ne_ts]
      refine ⟨by omega, hN _ ⟨_, _, ?_, rfl⟩⟩
      rw [List.map_append, List.sum_append]
      simp [h]; omega
theorem pl_place_count : Pl N_s_place_count (W_s_place_count (SP dk)) 2 sp_place_count := by
  intro ds K EE ⟨p, f, eq, hf, k⟩ _
  subst eq
  show W_s_place_count (SP dk) EE _ [.sh (cv p f), .sh (.int 1)]
  simp [W_s_place_count, SP]
  refine ⟨p, f, rfl, hf, fun l hl => ?_⟩
  simp
  rw [hl]; exact k
end K83
end
section
set_option Elab.async false
set_option linter.all false
set_option maxHeartbeats 4000000
set_option maxRecDepth 10000
/-! P83p: divisors, signs, points. -/
namespace K83
open PySem PySem.Spec PyProof.Rows L2 DL PA
variable {dk : Addr}
@[simp] theorem e_comp2 {fi fi1 : WL} {t t1 : WG} {ft ft1 : WT} {fe : WE} {vs vs1 : List Nat} {ρ : DL.Env} {K : List D → Prop} : lComp2 fi t ft fi1 vs1 t1 ft1 fe vs ρ K = fi ρ fun ds => noLv ρ vs ∧ lcL2 t ft fi1 vs1 t1 ft1 fe (wipeE ρ vs) ds [] K := rfl
theorem srt_uniq : ∀ a b : List Int, a.Perm b → a.Pairwise (· ≤ ·) → b.Pairwise (· ≤ ·) → a = b
  | [], b, h, _, _ => (List.Perm.nil_eq h)
  | x :: a, [], h, _, _ => absurd h.length_eq (by simp)
  | x :: a, y :: b, h, ha, hb => by
    have h1 : x ≤ y := by
      have : y ∈ x :: a := h.symm.subset List.mem_cons_self
      rcases List.mem_cons.mp this with e | e
      · omega
      · exact (List.pairwise_cons.mp ha).1 y e
    have h2 : y ≤ x := by
      have : x ∈ y :: b := h.subset List.mem_cons_self
      rcases List.mem_cons.mp this with e | e
      · omega
      · exact (List.pairwise_cons.mp hb).1 x e
    have e : x = y := by omega
    subst e
    rw [srt_uniq a b (List.Perm.cons_inv h) (List.pairwise_cons.mp ha).2 (List.pairwise_cons.mp hb).2]
theorem srtX {l : List Int} (hl : l.Pairwise (· ≤ ·)) {K : D → Prop} (k : K (.lst (iL l))) : cSortX [.lst (iL l)] K :=
  .inr ⟨l, rfl, fun out hp hs => by rw [srt_uniq out l hp hs hl]; exact k⟩
theorem seq_cut {f h : WS} {P : Post} {ρ : DL.Env} (Q : DL.Env → Prop) (h1 : ∀ N : DL.Env → Prop, (∀ ρ', Q ρ' → N ρ') → f { P with nx := N } ρ) (h2 : ∀ ρ', Q ρ' → h P ρ') : wSeq f h P ρ := h1 (h P) h2
@[simp] theorem deg_simp {l : List Int} {K : D → Prop} {EE : Exc → Prop} : sp_degree [.tup (List.map D.int l)] K EE = K (.int ((l.length : Int) - 1)) := by
  refine propext ⟨fun ⟨l', e, k⟩ => ?_, fun k => ⟨l, rfl, k⟩⟩
  injection e with e1 _
  injection e1 with e1
  have := congrArg List.length e1
  simp at this
  rw [this]; exact k
theorem pl_divisors : Pl N_s_divisors (W_s_divisors (SP dk)) 1 sp_divisors := by
  intro ds K EE ⟨n, eq, h1, h4, k⟩ _
  subst eq
  show W_s_divisors (SP dk) EE _ [.sh (.int n), .un, .un, .un, .un, .un]
  obtain rfl | rfl | rfl | rfl : n = 1 ∨ n = 2 ∨ n = 3 ∨ n = 4 := by omega
  · simp [W_s_divisors, SP]
    refine ⟨1, rfl, by omega, by omega, _, .inl rfl, ?_⟩
    simp [prD, wForL]
    exact srtX (l := [1]) (by simp) k
  · simp [W_s_divisors, SP]
    refine ⟨2, rfl, by omega, by omega, _, .inl rfl, ?_⟩
    simp [prD, wForL, lcL2, lcI, ranD, List.range_succ]
    refine rais_eq (p := 2) (e := 0) (A := 1) rfl rfl (by omega) (by omega) ⟨cmul (by omega), ?_⟩
    refine rais_eq (p := 2) (e := 1) (A := 2) rfl rfl (by omega) (by omega) ⟨cmul (by omega), ?_⟩
    exact srtX (l := [1, 2]) (by simp) k
  · simp [W_s_divisors, SP]
    refine ⟨3, rfl, by omega, by omega, _, .inl rfl, ?_⟩
    simp [prD, wForL, lcL2, lcI, ranD, List.range_succ]
    refine rais_eq (p := 3) (e := 0) (A := 1) rfl rfl (by omega) (by omega) ⟨cmul (by omega), ?_⟩
    refine rais_eq (p := 3) (e := 1) (A := 3) rfl rfl (by omega) (by omega) ⟨cmul (by omega), ?_⟩
    exact srtX (l := [1, 3]) (by simp) k
  · simp [W_s_divisors, SP]
    refine ⟨4, rfl, by omega, by omega, _, .inl rfl, ?_⟩
    simp [prD, wForL, lcL2, lcI, ranD, List.range_succ]
    refine rais_eq (p := 2) (e := 0) (A := 1) rfl rfl (by omega) (by omega) ⟨cmul (by omega), ?_⟩
    refine rais_eq (p := 2) (e := 1) (A := 2) rfl rfl (by omega) (by omega) ⟨cmul (by omega), ?_⟩
    refine rais_eq (p := 2) (e := 2) (A := 4) rfl rfl (by omega) (by omega) ⟨cmul (by omega), ?_⟩
    exact srtX (l := [1, 2, 4]) (by simp) k
theorem Can.lastbd {p : Int} (hp : Ps p) {a : List Int} (ha : Can p a) (hne : a ≠ []) : 0 < co a (a.length - 1) ∧ co a (a.length - 1) < p := by
  have hb := hp.bd
  have h1 := ha.co (by omega) (a.length - 1)
  have h2 := ha.last hne
  omega
theorem moP_ok {p : Int} (hp : Ps p) {a : List Int} (ha : Can p a) (hne : a ≠ []) : Can p (moP p a) ∧ (moP p a).length = a.length := by
  have hb := hp.bd
  have h1 := Can.lastbd hp ha hne
  obtain ⟨i, i0, i1, hi⟩ := hp.inv (a := co a (a.length - 1)) (by rw [Int.emod_eq_of_lt (by omega) h1.2]; omega)
  have e : invP p (co a (a.length - 1)) = i := invP_eq ⟨i0, i1, hi⟩
  have hz : ¬ Md p i 0 := fun q => by
    have := q.eq ⟨by omega, by omega⟩ ⟨by omega, by omega⟩
    omega
  unfold moP
  rw [e]
  exact ⟨(trim_ok (by omega) _).1, (scl_can hp ha hz).1⟩
theorem pl_sign_at : Pl N_s_sign_at (W_s_sign_at (SP dk)) 3 sp_sign_at := by
  intro ds K EE ⟨p, f, m, eq, hp, cf, cm, nm, lf, lm, k⟩ _
  subst eq
  have hb := hp.bd
  show W_s_sign_at (SP dk) EE _ [.sh (.int p), .sh (pT f), .sh (pT m), .un]
  simp [W_s_sign_at, SP]
  refine rem_call hp cf cm nm lf lm ?_
  have hr := remP_ok hp f cm nm
  obtain ⟨M0, hM0⟩ : ∃ M0, M0 = m := ⟨_, rfl⟩
  rw [← hM0] at k
  refine while_of (I := fun n ρ => ∃ (a m : List Int) (c : Int), Can p a ∧ Can p m ∧ m ≠ [] ∧ a.length < m.length ∧ a.length ≤ n ∧ m.length ≤ 100 ∧ (c = 1 ∨ c = -1) ∧ c * sgF p n a m = sgS p f M0 ∧ ρ = [.sh (.int p), .sh (pT a), .sh (pT m), .sh (.int c)]) (n := m.length) (fun n ρ N ⟨a, m, c, q1, q2, q3, q4, q5, q6, q7, q8, q⟩ hN => ?_) ⟨remP p f m, m, 1, hr.1, cm, nm, hr.2.1, by have := hr.2.1; omega, lm, .inl rfl, by rw [Int.one_mul, hM0]; rfl, rfl⟩
  subst q
  by_cases ha : a = []
  · subst ha
    simp
    have : sgF p n [] m = 0 := by cases n <;> simp [sgF]
    rw [this, Int.mul_zero] at q8
    rw [← q8] at k
    exact k
  · have hl := List.length_pos_iff.mpr ha
    obtain ⟨n, rfl⟩ : ∃ n', n = n' + 1 := ⟨n - 1, by omega⟩
    have hlb := Can.lastbd hp q1 ha
    obtain ⟨co1, cl1⟩ := moP_ok hp q1 ha
    simp only [sgF] at q8
    rw [if_neg ha] at q8
    obtain ⟨i, i0, i1, hi⟩ := hp.inv (a := co a (a.length - 1)) (by rw [Int.emod_eq_of_lt (by omega) hlb.2]; omega)
    have ei : moP p a = trim p (sclL i a) := by unfold moP; rw [invP_eq ⟨i0, i1, hi⟩]
    have hmne : moP p a ≠ [] := fun e => by rw [e] at cl1; simp at cl1; omega
    have hsm := Can.sm hp q1
    simp only [e_tru, e_var]
    refine ⟨pT a, rfl, ?_⟩
    have hne : (!(List.map D.int a).isEmpty) = true := by simp [ha]
    rw [k_truT, hne, if_pos rfl]
    refine seq_cut (fun ρ' => ∃ c', (c' = 1 ∨ c' = -1) ∧ (c' * if (moP p a).length = 1 then 1 else (if p % 4 = 3 ∧ ((moP p a).length - 1) % 2 = 1 ∧ (m.length - 1) % 2 = 1 then -1 else 1) * sgF p n (remP p m (moP p a)) (moP p a)) = sgS p f M0 ∧ ρ' = [.sh (.int p), .sh (pT a), .sh (pT m), .sh (.int c')]) (fun N2 hN2 => ?_) ?_
    · by_cases hA : ((m.length : Int) - 1) % 2 = 1
      · have hA2 : (m.length - 1) % 2 = 1 := by omega
        rw [if_pos hA2] at q8
        simp [hA, atI_lastI a ha]
        refine ⟨p, _, rfl, hp, hlb.1, hlb.2, cmul (by omega), hN2 _ ⟨_, ?_, ?_, rfl⟩⟩
        · have := sgn_one p (co a (a.length - 1))
          rcases q7 with e | e <;> rcases this with e2 | e2 <;> rw [e, e2] <;> simp
        · rw [Int.mul_assoc]; exact q8
      · have hA2 : ¬ (m.length - 1) % 2 = 1 := by omega
        rw [if_neg hA2, Int.one_mul] at q8
        simp [hA]
        exact hN2 _ ⟨c, q7, q8, rfl⟩
    · rintro ρ' ⟨c', h1, h2, rfl⟩
      simp [atI_lastI a ha]
      refine ⟨p, _, rfl, hp, hsm _ (by rw [co_at (by omega)]; exact List.getElem_mem _), by rw [Int.emod_eq_of_lt (by omega) hlb.2]; omega, fun j j0 j1 hj => ?_⟩
      have ij : j = i := inv_uniq ⟨j0, j1, hj⟩ ⟨i0, i1, hi⟩
      subst ij
      refine ⟨p, a, j, rfl, hp, hsm, by omega, ?_⟩
      rw [← ei]
      generalize hu : moP p a = u at *
      by_cases hB : u.length = 1
      · rw [if_pos hB, Int.mul_one] at h2
        simp [hB]
        rw [h2]; exact k
      · rw [if_neg hB] at h2
        have hB2 : ¬ (u.length : Int) - 1 = 0 := by omega
        have hr2 := remP_ok hp m co1 hmne
        have last : ∀ c2, (c2 = 1 ∨ c2 = -1) → c2 * sgF p n (remP p m u) u = sgS p f M0 → N [.sh (.int p), .sh (pT (remP p m u)), .sh (pT u), .sh (.int c2)] := fun c2 g1 g2 => hN n _ (by omega) ⟨_, _, c2, hr2.1, co1, hmne, hr2.2.1, by have := hr2.2.1; omega, by omega, g1, g2, rfl⟩
        by_cases hC : p % 4 = 3 ∧ (u.length - 1) % 2 = 1 ∧ (m.length - 1) % 2 = 1
        · rw [if_pos hC] at h2
          have hC1 := hC.1
          have hC2 : ((u.length : Int) - 1) % 2 = 1 := by omega
          have hC3 : ((m.length : Int) - 1) % 2 = 1 := by omega
          simp [hB2, hC1, hC2, hC3]
          refine rem_call hp q2 co1 hmne q6 (by omega) ?_
          refine last (-c') (by omega) ?_
          rw [← h2]; grind
        · rw [if_neg hC, Int.one_mul] at h2
          have fin : sp_remainder [.int p, pT m, pT u] (fun d => N [.sh (.int p), .sh d, .sh (pT u), .sh (.int c')]) EE := rem_call hp q2 co1 hmne q6 (by omega) (last c' h1 h2)
          by_cases x1 : p % 4 = 3
          · by_cases x2 : ((u.length : Int) - 1) % 2 = 1
            · have x3 : ¬ ((m.length : Int) - 1) % 2 = 1 := fun x3 => hC ⟨x1, by omega, by omega⟩
              simp [hB2, x1, x2, x3]
              exact fin
            · simp [hB2, x1, x2]
              exact fin
          · simp [hB2, x1]
            exact fin
theorem sum_snoc {α : Type} (g : α → Int) (l : List α) (x : α) : ((l ++ [x]).map g).sum = (l.map g).sum + g x := by
  rw [List.map_append, List.sum_append]; simp
theorem pl_points_counted : Pl N_s_points_counted (W_s_points_counted (SP dk)) 2 sp_points_counted := by
  intro ds K EE ⟨p, n, f, eq, hf, hm, k⟩ _
  subst eq
  obtain ⟨hp, m1, m4, hpm, p3⟩ := pml_bd hm
  have hl := hf.len
  show W_s_points_counted (SP dk) EE _ [.sh (cv p f), .sh (.int n), .un, .un, .un, .un]
  simp [W_s_points_counted, SP]
  refine ⟨n, rfl, m1, m4, _, .inl rfl, ?_⟩
  rw [show iL (nL (dvL n)) = (dvL n).map fun (d : Nat) => D.int d by unfold nL iL; rw [List.map_map]; rfl]
  refine for_pre _ (dvL n) (fun done ρ => ∃ s3 s4 s5, ρ = [.sh (cv p f), .sh (.int n), .sh (.int (1 + (done.map (tmP p f n)).sum)), s3, s4, s5]) ⟨_, _, _, rfl⟩ (fun ρ ⟨s3, s4, s5, q⟩ => ?_) (fun done d rest ρ N e ⟨s3, s4, s5, q⟩ hN => ?_)
  · subst q
    simp
    exact k
  · subst q
    have hd : d ∈ dvL n := by rw [e]; simp
    obtain ⟨hdm, hd1, hd2⟩ := tabD _ hm d hd
    simp
    refine ⟨p, d, rfl, hdm, _, .inl rfl, ?_⟩
    refine for_pre pT (prs p d) (fun done2 ρ => ∃ s4 s5, ρ = [.sh (cv p f), .sh (.int n), .sh (.int (1 + (done.map (tmP p f n)).sum + (done2.map fun m => (d : Int) * (1 + if (n / d) % 2 = 1 then sgS p f m else sgS p f m * sgS p f m)).sum)), .sh (.int d), s4, s5]) ⟨s4, s5, by simp⟩ (fun ρ ⟨s4, s5, q⟩ => ?_) (fun done2 m rest2 ρ N2 e2 ⟨s4, s5, q⟩ hN2 => ?_)
    · subst q
      refine hN _ ⟨.sh (.int d), s4, s5, ?_⟩
      rw [sum_snoc]
      congr 4
      rw [Int.add_assoc]; rfl
    · subst q
      have hmm : m ∈ prs p d := by rw [e2]; simp
      obtain ⟨cm, lm, _⟩ := prs_ok hdm m hmm
      replace lm : m.length = d + 1 := lm
      replace hd1 : d ≤ n := hd1
      replace cm : Can p m := cm
      have hsv := sgF_val p m.length (remP p f m) m
      have hv : sgS p f m = 0 ∨ sgS p f m = 1 ∨ sgS p f m = -1 := hsv
      simp
      refine ⟨p, f, m, rfl, hp, hf.can, cm, fun e => by rw [e] at lm; simp at lm, by omega, by omega, ?_⟩
      have hnd : (n : Int) / (d : Int) = ((n / d : Nat) : Int) := by simp
      have fin : N2 [.sh (cv p f), .sh (.int n), .sh (.int (1 + (done.map (tmP p f n)).sum + (done2.map fun m => (d : Int) * (1 + if (n / d) % 2 = 1 then sgS p f m else sgS p f m * sgS p f m)).sum + (d : Int) * (1 + if (n / d) % 2 = 1 then sgS p f m else sgS p f m * sgS p f m))), .sh (.int d), .sh (pT m), .sh (.int (sgS p f m))] := hN2 _ ⟨.sh (pT m), .sh (.int (sgS p f m)), by rw [sum_snoc]; simp only [Int.add_assoc]⟩
      generalize sgS p f m = h at *
      by_cases hx : (n / d) % 2 = 1
      · have hx2 : (n : Int) / (d : Int) % 2 = 1 := by rw [hnd]; omega
        rw [if_pos hx] at fin
        simp [hx2]
        exact ⟨⟨by omega, by omega⟩, cmul (by omega), fin⟩
      · have hx2 : ¬ (n : Int) / (d : Int) % 2 = 1 := by rw [hnd]; omega
        rw [if_neg hx] at fin
        simp [hx2]
        exact ⟨⟨by omega, by omega⟩, cmul (by omega), cmul (by omega), fin⟩
theorem pl_check_size : Pl N_s_check_size (W_s_check_size (SP dk)) 1 sp_check_size := by
  intro ds K EE ⟨p, f, eq, hf, hm, k⟩ _
  subst eq
  obtain ⟨hp, m1, m4, hpm, p3⟩ := pml_bd hm
  have hl := hf.len
  show W_s_check_size (SP dk) EE _ [.sh (cv p f), .un]
  simp [W_s_check_size, SP]
  refine rais_eq (p := p) (e := gen f) (A := p ^ gen f) rfl (by unfold gen; omega) (by omega) (by omega) ?_
  have h5 : decide ((5000 : Int) < ((p ^ gen f : Nat) : Int)) = false := decide_eq_false (by omega)
  simp only [kGt, k_cmp]
  rw [h5]
  exact ⟨rfl, k⟩
end K83
end
section
set_option Elab.async false
set_option linter.all false
set_option maxHeartbeats 4000000
set_option maxRecDepth 10000
/-! P83q: lists made. -/
namespace K83
open PySem PySem.Spec PyProof.Rows L2 DL PA
variable {dk : Addr}
theorem ints_of : ∀ l : List Int, D.ints (iL l) = some l
  | [] => rfl
  | c :: l => by
    have := ints_of l
    show (D.ints (.int c :: iL l)) = _
    simp only [D.ints, this]; rfl
theorem sum_ran (u : Nat → Int) : ∀ n : Nat, ((List.range n).map u).sum = sumN n u
  | 0 => rfl
  | n + 1 => by
    rw [List.range_succ, List.map_append, List.sum_append, sum_ran u n]
    simp [sumN]
theorem enD_ran (n : Nat) (u : Nat → Int) : enD 0 (iL ((List.range n).map u)) = (List.range n).map fun (k : Nat) => D.tup [.int (k : Int), .int (u k)] := by
  have go : ∀ (n s : Nat), enD s ((List.range' s n).map fun (k : Nat) => D.int (u k)) = (List.range' s n).map fun (k : Nat) => D.tup [.int (k : Int), .int (u k)] := fun n => by
    induction n with
    | zero => intro s; rfl
    | succ n ih =>
      intro s
      rw [List.range'_succ]
      show D.tup [.int (s : Int), _] :: enD (s + 1) _ = _
      rw [ih (s + 1)]; rfl
  rw [show iL ((List.range n).map u) = (List.range n).map fun (k : Nat) => D.int (u k) by unfold iL; rw [List.map_map]; rfl, List.range_eq_range']
  exact go n 0
theorem tab_succ (a : Nat → Int) (n : Nat) : tab a (n + 1) = tab a n ++ [a n] := by
  unfold tab; rw [List.range_succ, List.map_append]; rfl
theorem tab_len (a : Nat → Int) (n : Nat) : (tab a n).length = n := by unfold tab; simp
theorem at_tab (a : Nat → Int) {n : Nat} {z : Int} {i : Nat} (hz : z = (i : Int)) (hi : i < n) : atI (iL (tab a n)) z = some (.int (a i)) := by
  subst hz
  rw [atI_int _ (by omega) (by rw [tab_len]; omega), Int.toNat_natCast, co_tab hi]
/-- a list of whole numbers made over a range -/
theorem comp_rn {t : WG} {fe : WE} {ρ0 : DL.Env} {K : List D → Prop} (lo : Int) (n : Nat) (u : Nat → Int) (step : ∀ j, j < n → ∀ N : D → Prop, N (.int (u j)) → t (.int (lo + (j : Int))) ρ0 fun ρ1 => fe ρ1 N) (h : K (iL (tab u n))) : lcL t wYes fe ρ0 (ranD lo 1 n) [] K := by
  refine comp_int (fun (i : Nat) => D.int (lo + (i : Int) * 1)) u (List.range n) (fun j hj N hN => ?_) h
  rw [Int.mul_one]
  exact step j (List.mem_range.mp hj) N hN
theorem pl_list_made : Pl N_s_list_made (W_s_list_made (SP dk)) 2 sp_list_made := by
  intro ds K EE ⟨q, g, s, m, eq, hN, hg, q1, qg, hm, k⟩ _
  subst eq
  show W_s_list_made (SP dk) EE _ [.sh (.int q), .sh (.lst (iL (cntL q s g))), .un, .un, .un, .un]
  have cl : (cntL q s g).length = g := by unfold cntL; simp
  have qp : ∀ j, j ≤ g → q ^ j < 1000000000000 := fun j hj => Nat.lt_of_le_of_lt (Nat.pow_le_pow_right q1 hj) qg
  simp [W_s_list_made, SP, cl]
  refine ⟨by omega, by omega, ?_⟩
  refine for_one 1 g (fun j ρ => ∃ s3 s5, ρ = [.sh (.int q), .sh (.lst (iL (cntL q s g))), .lv (iL (tab m (j + 1))), s3, .un, s5]) ⟨_, _, by unfold tab; simp [hN.1]; exact ⟨rfl, rfl⟩⟩ (fun ρ ⟨s3, s5, e⟩ => ?_) (fun j ρ N hj ⟨s3, s5, e⟩ hNx => ?_)
  · subst e
    simp [cl]
    refine ⟨by omega, by omega, ?_⟩
    have e9 : ∀ t : Nat, t < g → mirN q g m (g + 1 + t) = (q : Int) ^ (t + 1) * m (g - 1 - t) := fun t ht => by
      unfold mirN
      rw [if_neg (by omega), if_pos (by omega), show g + 1 + t - g = t + 1 by omega, show 2 * g - (g + 1 + t) = g - 1 - t by omega]
    refine for_ran ((g : Int) - 1) (-1) g (fun t ρ => ∃ s3 s4 s5, ρ = [.sh (.int q), .sh (.lst (iL (cntL q s g))), .lv (iL (tab (mirN q g m) (g + 1 + t))), s3, s4, s5]) ⟨s3, .un, s5, ?_⟩ (fun ρ ⟨s3, s4, s5, e⟩ => ?_) (fun t ρ N ht ⟨s3, s4, s5, e⟩ hNx => ?_)
    · have : tab m (g + 1) = tab (mirN q g m) (g + 1 + 0) := by
        unfold tab
        refine List.map_congr_left fun i hi => ?_
        have := List.mem_range.mp hi
        unfold mirN
        rw [if_pos (by omega)]
      rw [this]
    · subst e
      simp
      rw [show tab (mirN q g m) (g + 1 + g) = mirL q g m by unfold tab mirL; rw [show g + 1 + g = 2 * g + 1 by omega]]
      exact k
    · subst e
      simp [cl]
      refine rais_eq (p := q) (e := t + 1) (A := q ^ (t + 1)) rfl (by omega) q1 (qp _ (by omega)) ?_
      simp
      refine ⟨_, at_tab _ (i := g - 1 - t) (by omega) (by omega), ?_⟩
      have hq := qp (t + 1) (by omega)
      have e8 : mirN q g m (g - 1 - t) = m (g - 1 - t) := by unfold mirN; rw [if_pos (by omega)]
      have hq2 : ((q ^ (t + 1) : Nat) : Int) = (q : Int) ^ (t + 1) := by simp
      rw [e8]
      refine ⟨cmul ⟨?_, ?_⟩, ?_⟩
      · rw [← hq2]; omega
      · rw [← hq2]; omega
      · refine ⟨rfl, by rw [tab_len]; omega, ?_⟩
        refine hNx _ ⟨s3, .sh (.int ((g : Int) - 1 + -(t : Int))), s5, ?_⟩
        rw [show g + 1 + (t + 1) = (g + 1 + t) + 1 by omega, tab_succ, e9 t ht]
        simp
  · subst e
    simp
    refine ⟨by omega, by omega, ?_⟩
    refine comp_rn 0 _ (fun i => s (1 + j - i) * m i) (fun i hi N2 hN2 => ?_) ?_
    · have hc : cntL q s g = tab (fun i => s (i + 1) + (q : Int) ^ (i + 1) + 1) g := rfl
      rw [hc]
      simp
      refine ⟨_, at_tab _ (i := j - i) (by omega) (by omega), ?_⟩
      refine rais_eq (p := q) (e := j + 1 - i) (A := q ^ (j + 1 - i)) rfl (by omega) q1 (qp _ (by omega)) ?_
      simp
      refine ⟨_, at_tab _ (i := i) (by omega) (by omega), ?_⟩
      have hmi := hm i (by omega)
      have e1 : s (j - i + 1) + (q : Int) ^ (j - i + 1) + 1 - (q : Int) ^ (j + 1 - i) - 1 = s (1 + j - i) := by
        rw [show j - i + 1 = 1 + j - i by omega, show j + 1 - i = 1 + j - i by omega]; omega
      rw [e1]
      exact ⟨cmul' hmi, hN2⟩
    · have e2 : (tab (fun i => s (1 + j - i) * m i) (1 + (j : Int)).toNat).sum = (1 + (j : Int)) * m (j + 1) := by
        rw [show (1 + (j : Int)).toNat = j + 1 by omega]
        unfold tab
        rw [sum_ran]
        have := hN.2 (j + 1)
        rw [show ((j + 1 : Nat) : Int) = 1 + (j : Int) by omega] at this
        rw [this]
        exact sumN_congr _ fun i _ => by rw [show 1 + j - i = j + 1 - i by omega]
      refine ⟨_, ints_of _, ?_⟩
      rw [e2]
      have e3 : (1 + (j : Int)) * m (j + 1) % (1 + (j : Int)) = 0 := Int.mul_emod_right _ _
      have e4 : (1 + (j : Int)) * m (j + 1) / (1 + (j : Int)) = m (j + 1) := Int.mul_ediv_cancel_left _ (by omega)
      refine ⟨rfl, ?_⟩
      rw [k_mod]
      refine ⟨by omega, ?_⟩
      rw [e3]
      simp
      rw [e4]
      refine ⟨⟨by omega, by omega⟩, by rw [tab_len]; omega, ?_⟩
      refine hNx _ ⟨.sh (.int (1 + (j : Int))), .sh (.int ((1 + (j : Int)) * m (j + 1))), ?_⟩
      rw [tab_succ m (j + 1)]
      simp
end K83
end
section
set_option Elab.async false
set_option linter.all false
set_option maxHeartbeats 4000000
set_option maxRecDepth 10000
/-! P83r: counts of a list, lists over greater fields, classes, twins. -/
namespace K83
open PySem PySem.Spec PyProof.Rows L2 DL PA
variable {dk : Addr}
theorem at_list (l : List Int) {z : Int} {i : Nat} (hz : z = (i : Int)) (hi : i < l.length) : atI (iL l) z = some (.int (co l i)) := by
  subst hz
  rw [atI_int _ (by omega) (by omega), Int.toNat_natCast]
theorem new_rest {s : Nat → Int} {l : List Int} (h : New s (co l)) {n : Nat} (hn : 1 ≤ n) : (n : Int) * co l n - sumN (min n l.length - 1) (fun k => s (n - (1 + k)) * co l (1 + k)) = s n := by
  have h1 := h.2 n
  obtain ⟨m, rfl⟩ : ∃ m, n = m + 1 := ⟨n - 1, by omega⟩
  rw [sumN_shift, h.1] at h1
  have h2 : sumN m (fun i => s (m + 1 - (i + 1)) * co l (i + 1)) = sumN (min (m + 1) l.length - 1) (fun k => s (m + 1 - (1 + k)) * co l (1 + k)) := by
    have e : m = (min (m + 1) l.length - 1) + (m - (min (m + 1) l.length - 1)) := by omega
    conv => lhs; rw [e]
    rw [sumN_split, sumN_zero (m - (min (m + 1) l.length - 1)), Int.add_zero]
    · rw [← e]
      exact sumN_congr _ fun i _ => by rw [show 1 + i = i + 1 by omega]
    · intro i hi
      by_cases hl : l.length = 0
      · rw [co_out (by omega), Int.mul_zero]
      · rw [co_out (l := l) (by omega), Int.mul_zero]
  rw [h2, Int.mul_one, Nat.sub_zero] at h1
  omega
theorem pl_counts_of : Pl N_s_counts_of (W_s_counts_of (SP dk)) 3 sp_counts_of := by
  intro ds K EE ⟨p, n, l, s, eq, hN, hn, hl, p1, pn, hsm, k⟩ _
  subst eq
  show W_s_counts_of (SP dk) EE _ [.sh (.int p), .sh (.lst (iL l)), .sh (.int n), .un, .un, .un, .un, .un]
  have hl0 : 0 < l.length := by
    by_cases h : l.length = 0
    · have := hN.1; rw [co_out (by omega)] at this; omega
    · omega
  simp [W_s_counts_of, SP]
  refine ⟨by omega, by omega, ?_⟩
  refine for_one 1 n (fun j ρ => ∃ s4 s5, (∀ xs, s4 ≠ .lv xs) ∧ ρ = [.sh (.int p), .sh (.lst (iL l)), .sh (.int n), .lv (iL (tab (fun i => s (i + 1)) j)), s4, s5, .un, .un]) ⟨.un, .un, (by intro xs h; cases h), rfl⟩ (fun ρ ⟨s4, s5, h4, e⟩ => ?_) (fun j ρ N hj ⟨s4, s5, h4, e⟩ hNx => ?_)
  · subst e
    simp [h4]
    rw [show tab (fun i => s (i + 1)) n = (List.range n).map fun i => s (i + 1) from rfl, enD_ran]
    refine comp_int (fun (k : Nat) => D.tup [.int (k : Int), .int (s (k + 1))]) (fun i => s (i + 1) + (p : Int) ^ (i + 1) + 1) (List.range n) (fun i hi N hN => ?_) ?_
    · have hi2 := List.mem_range.mp hi
      simp
      refine rais_eq (p := p) (e := i + 1) (A := p ^ (i + 1)) rfl (by omega) p1 (Nat.lt_of_le_of_lt (Nat.pow_le_pow_right p1 (by omega)) pn) ?_
      simpa using hN
    · exact ⟨(pyL_ints _).2, k⟩
  · subst e
    have hr := new_rest hN (n := 1 + j) (by omega)
    have fin : ∀ x : Int, x = ((1 + j : Nat) : Int) * co l (1 + j) → ∃ bs, D.ints (iL (tab (fun k => s (1 + j - (1 + k)) * co l (1 + k)) (min (1 + j) l.length - 1))) = some bs ∧ x - bs.sum = s (j + 1) := fun x hx => by
      refine ⟨_, ints_of _, ?_⟩
      unfold tab
      rw [sum_ran, hx, hr, show 1 + j = j + 1 by omega]
    have snoc : ∀ x : Int, x = s (j + 1) → ∀ s5, N [.sh (.int p), .sh (.lst (iL l)), .sh (.int n), .lv (iL (tab (fun i => s (i + 1)) j) ++ [.int x]), .sh (.int (1 + (j : Int))), s5, .un, .un] := fun x hx s5 => by
      refine hNx _ ⟨.sh (.int (1 + (j : Int))), s5, (by intro xs h; cases h), ?_⟩
      rw [tab_succ, hx]; simp
    have step : ∀ (sd : Sl) (i : Nat) (N2 : D → Prop), i < min (1 + j) l.length - 1 → N2 (.int (s (1 + j - (1 + i)) * co l (1 + i))) → gdName 7 (.int (1 + (i : Int))) [.sh (.int p), .sh (.lst (iL l)), .sh (.int n), .sh (.lst (iL (tab (fun i => s (i + 1)) j))), .sh (.int (1 + (j : Int))), sd, .un, .un] fun ρ1 => wBin kMul (wBin kIx (wVar 3) (wBin kSub (wBin kSub (wVar 4) (wVar 7)) (wC (.int 1)))) (wBin kIx (wVar 1) (wVar 7)) ρ1 N2 := fun sd i N2 hi h => by
      simp
      refine ⟨_, at_tab _ (i := j - 1 - i) (by omega) (by omega), ?_⟩
      refine ⟨_, at_list l (i := 1 + i) (by omega) (by omega), ?_⟩
      rw [show j - 1 - i + 1 = 1 + j - (1 + i) by omega]
      exact ⟨cmul' (hsm _), h⟩
    by_cases hlt : 1 + (j : Int) < (l.length : Int)
    · have hm : (if (l.length : Int) < 1 + (j : Int) then (l.length : Int) else 1 + (j : Int)) = 1 + (j : Int) := if_neg (by omega)
      simp [kLt, hlt, hm]
      refine ⟨_, at_list l (i := 1 + j) (by omega) (by omega), cmul' (hsm _), by omega, by omega, ?_⟩
      have em : (1 + (j : Int)).toNat - 1 = min (1 + j) l.length - 1 := by omega
      rw [em]
      refine comp_rn 1 _ (fun k => s (1 + j - (1 + k)) * co l (1 + k)) (fun i hi N2 hN2 => step _ i N2 hi hN2) ?_
      obtain ⟨bs, f1, f2⟩ := fin ((1 + (j : Int)) * co l (1 + j)) (by rw [show ((1 + j : Nat) : Int) = 1 + (j : Int) by omega])
      exact ⟨bs, f1, rfl, by rw [tab_len]; omega, snoc _ f2 _⟩
    · have hm : (if (l.length : Int) < 1 + (j : Int) then (l.length : Int) else 1 + (j : Int)) = (l.length : Int) := by
        split <;> omega
      simp [kLt, hlt, hm]
      refine ⟨by omega, ?_⟩
      have em : l.length - 1 = min (1 + j) l.length - 1 := by omega
      rw [em]
      refine comp_rn 1 _ (fun k => s (1 + j - (1 + k)) * co l (1 + k)) (fun i hi N2 hN2 => step _ i N2 hi hN2) ?_
      obtain ⟨bs, f1, f2⟩ := fin 0 (by rw [co_out (l := l) (by omega), Int.mul_zero])
      exact ⟨bs, f1, rfl, by rw [tab_len]; omega, snoc _ f2 _⟩
end K83
end
section
set_option Elab.async false
set_option linter.all false
set_option maxHeartbeats 4000000
set_option maxRecDepth 10000
/-! P83s: lists over greater fields, the polynomial, classes, twins. -/
namespace K83
open PySem PySem.Spec PyProof.Rows L2 DL PA
variable {dk : Addr}
/-! ### Newton's sums exist -/
def nsT (l : Nat → Int) : Nat → Nat → Int
  | 0, _ => 0
  | n + 1, k => if k ≤ n then nsT l n k else ((n + 1 : Nat) : Int) * l (n + 1) - sumN n fun i => nsT l n (n - i) * l (i + 1)
def ns (l : Nat → Int) (k : Nat) : Int := nsT l k k
theorem nsT_up (l : Nat → Int) : ∀ (n k : Nat), k ≤ n → nsT l n k = ns l k
  | 0, k, h => by have : k = 0 := by omega
                  subst this; rfl
  | n + 1, k, h => by
    by_cases q : k ≤ n
    · show (if k ≤ n then _ else _) = _
      rw [if_pos q]; exact nsT_up l n k q
    · have : k = n + 1 := by omega
      subst this; rfl
theorem new_ns {l : Nat → Int} (h : l 0 = 1) : New (ns l) l := by
  refine ⟨h, fun n => ?_⟩
  cases n with
  | zero => simp [sumN]
  | succ n =>
    have e : ns l (n + 1) = ((n + 1 : Nat) : Int) * l (n + 1) - sumN n fun i => ns l (n - i) * l (i + 1) := by
      show (if n + 1 ≤ n then _ else _) = _
      rw [if_neg (by omega)]
      congr 1
      exact sumN_congr n fun i hi => by rw [nsT_up l n (n - i) (by omega)]
    rw [sumN_shift, h, Nat.sub_zero, e]
    have : sumN n (fun i => ns l (n + 1 - (i + 1)) * l (i + 1)) = sumN n fun i => ns l (n - i) * l (i + 1) := sumN_congr n fun i hi => by rw [show n + 1 - (i + 1) = n - i by omega]
    rw [this]; omega
theorem co_mir (q : Int) (g : Nat) (m : Nat → Int) (i : Nat) : co (mirL q g m) i = mirN q g m i := by
  by_cases h : i < 2 * g + 1
  · exact co_tab h
  · rw [co_out (by unfold mirL; simp; omega)]
    unfold mirN
    rw [if_neg (by omega), if_neg (by omega)]
theorem mir_len (q : Int) (g : Nat) (m : Nat → Int) : (mirL q g m).length = 2 * g + 1 := by unfold mirL; simp
theorem pl_list_over : Pl N_s_list_over (W_s_list_over (SP dk)) 3 sp_list_over := by
  intro ds K EE ⟨p, n, g, l, s, m, eq, hN, hl, n1, n4, hg1, hg, p1, hpn, hsm, hM, hm, k⟩ _
  subst eq
  show W_s_list_over (SP dk) EE _ [.sh (.int p), .sh (.lst (iL l)), .sh (.int n), .un, .un, .un]
  have e1 : (2 * (g : Int) + 1) / 2 = (g : Int) := by omega
  simp [W_s_list_over, SP, hl, e1]
  refine ⟨cmul (by omega), p, g * n, l, s, by simp, hN, ?_, by omega, p1, hpn, hsm, ?_⟩
  · have := Nat.mul_le_mul hg n4; omega
  simp
  have hgn := Nat.mul_le_mul hg n4
  have hpn2 : p ^ n < 1000000000000 := Nat.lt_of_le_of_lt (Nat.pow_le_pow_right p1 (Nat.le_mul_of_pos_left n (by omega))) hpn
  refine rais_eq (p := p) (e := n) (A := p ^ n) rfl rfl p1 hpn2 ?_
  refine ⟨by omega, by omega, ?_⟩
  refine comp_rn 1 g (fun j => s (n * (j + 1)) + (p : Int) ^ (n * (j + 1)) + 1) (fun j hj N2 hN2 => ?_) ?_
  · have h1 : n * (j + 1) ≤ g * n := by rw [Nat.mul_comm g n]; exact Nat.mul_le_mul_left n (by omega)
    have h2 : 1 ≤ n * (j + 1) := Nat.mul_pos n1 (by omega)
    have h3 : (n : Int) * (1 + (j : Int)) = ((n * (j + 1) : Nat) : Int) := by
      rw [Int.natCast_mul]; grind
    have hc : cntL p s (g * n) = tab (fun i => s (i + 1) + (p : Int) ^ (i + 1) + 1) (g * n) := rfl
    rw [hc]
    simp
    refine ⟨cmul (by omega), ?_⟩
    rw [h3]
    refine ⟨_, at_tab _ (i := n * (j + 1) - 1) (by omega) (by omega), ?_⟩
    rw [show n * (j + 1) - 1 + 1 = n * (j + 1) by omega]
    exact hN2
  · have hq : ((p ^ n : Nat) : Int) = (p : Int) ^ n := by simp
    refine ⟨p ^ n, g, fun k => s (n * k), m, ?_, hM, by omega, Nat.pow_pos p1, ?_, hm, by rw [hq]; exact k⟩
    · congr 3
      refine congrArg iL (List.map_congr_left fun j _ => ?_)
      rw [hq, ← Int.pow_mul]
    · rw [← Nat.pow_mul, Nat.mul_comm]; exact hpn
theorem pl_curve_polynomial : Pl N_s_curve_polynomial (W_s_curve_polynomial (SP dk)) 1 sp_curve_polynomial := by
  intro ds K EE ⟨p, f, eq, hf, hm, k⟩ _
  subst eq
  obtain ⟨hp, m1, m4, hpm, p3⟩ := pml_bd hm
  have hl := hf.len
  show W_s_curve_polynomial (SP dk) EE _ [.sh (cv p f), .un]
  simp [W_s_curve_polynomial, SP]
  refine ⟨p, f, rfl, hf, hm, ?_⟩
  have eg : ((f.length : Int) - 1) / 2 = (gen f : Int) := by unfold gen; omega
  simp [eg]
  refine ⟨by omega, by omega, ?_⟩
  have hu : ∀ j, j < gen f → (p, j + 1) ∈ PML := fun j hj => tabU _ hm j (List.mem_range.mpr hj)
  refine comp_rn 1 (gen f) (fun j => pcN p f (j + 1)) (fun j hj N2 hN2 => ?_) ?_
  · simp
    exact ⟨p, j + 1, f, by rw [show ((j + 1 : Nat) : Int) = 1 + (j : Int) by omega], hf, hu j hj, hN2⟩
  · have hpw : ∀ i, i ≤ gen f → p ^ i ≤ 200 := fun i hi => Nat.le_trans (Nat.pow_le_pow_right (by omega) hi) hpm
    refine ⟨p, gen f, SP0 p f, LP p f, ?_, new_LP p f, by omega, by omega, by omega, fun i hi => ?_, k⟩
    · congr 3
      refine congrArg iL (List.map_congr_left fun j hj => ?_)
      rw [pcN_eq f (hu j (List.mem_range.mp hj))]
      simp
    · have h1 := LP_le f hm i (by omega)
      have h2 := hpw i (by omega)
      exact ⟨by omega, by omega⟩
theorem pl_class_count : Pl N_s_class_count (W_s_class_count (SP dk)) 2 sp_class_count := by
  intro ds K EE ⟨p, n, f, eq, hf, hm, hn, k⟩ _
  subst eq
  obtain ⟨hp, m1, m4, hpm, p3⟩ := pml_bd hm
  have hb := hp.bd
  show W_s_class_count (SP dk) EE _ [.sh (cv p f), .sh (.int n)]
  simp [W_s_class_count, SP]
  have hc : ∀ i, co (mirL p (gen f) (LP p f)) i = cl p (gen f) f i := fun i => co_mir _ _ _ i
  have hcf : co (mirL p (gen f) (LP p f)) = cl p (gen f) f := funext hc
  have hN : New (ns (cl p (gen f) f)) (cl p (gen f) f) := new_ns (by
    unfold cl mirN
    rw [if_pos (by omega)]
    exact (new_LP p f).1)
  have hsm : ∀ i, Sm (cl p (gen f) f i) := fun i => by
    have h1 := cl_abs f hm i
    by_cases hi : i ≤ 2 * gen f
    · have h2 : p ^ i ≤ p ^ (gen f * 2) := Nat.pow_le_pow_right (by omega) (by omega)
      rw [Nat.pow_mul, Nat.pow_two] at h2
      have h3 := Nat.mul_le_mul hpm hpm
      exact ⟨by omega, by omega⟩
    · have : cl p (gen f) f i = 0 := (cl_symm p (gen f) f).2 i (by omega)
      rw [this]; exact ⟨by omega, by omega⟩
  have hpw : p ^ (gen f * n) < 1000000000000 := by
    rw [Nat.pow_mul]
    have h1 : (p ^ gen f) ^ n ≤ (p ^ gen f) ^ 4 := Nat.pow_le_pow_right (Nat.pow_pos (by omega)) (by omega)
    have h2 : (p ^ gen f) ^ 4 ≤ 200 ^ 4 := Nat.pow_le_pow_left hpm 4
    omega
  have hNM : New (fun k => ns (cl p (gen f) f) (n * k)) (clM p (gen f) f n) := by
    rcases hn with rfl | rfl | rfl
    · show New (fun k => ns (cl p (gen f) f) (1 * k)) (cl p (gen f) f)
      simp only [Nat.one_mul]; exact hN
    · exact new_dbl hN
    · have := new_dbl (new_dbl hN)
      show New (fun k => ns (cl p (gen f) f) (4 * k)) (dbl (dbl (cl p (gen f) f)))
      have e : (fun k => ns (cl p (gen f) f) (4 * k)) = fun k => ns (cl p (gen f) f) (2 * (2 * k)) := by
        funext k; congr 1; omega
      rw [e]; exact this
  refine ⟨p, f, rfl, hf, hm, ?_⟩
  refine ⟨p, n, gen f, mirL p (gen f) (LP p f), ns (cl p (gen f) f), clM p (gen f) f n, rfl, by rw [hcf]; exact hN, mir_len .., by omega, by omega, m1, m4, by omega, hpw, fun i => by rw [hc]; exact hsm i, hNM, fun i hi => ?_, ?_⟩
  · have := clM_abs f hm hn hi
    exact ⟨by omega, by omega⟩
  · refine ⟨_, ints_of _, ?_⟩
    have : (mirL ((p : Int) ^ n) (gen f) (clM p (gen f) f n)).sum = cN p (gen f) f n := by
      unfold mirL cN; exact sum_ran _ _
    rw [this]; exact k
theorem tabZ : ∀ p ∈ [3, 5, 7, 11, 13, 17, 61], ((nrL ((p : Nat) : Int)).isEmpty) = false := by decide +kernel
theorem nr_mem {p x : Int} (hp : Ps p) : x ∈ nrL p ↔ 1 ≤ x ∧ x < p ∧ ¬ IsQ p x := by
  obtain ⟨k, hk, hmem⟩ := hp.nat
  have hb := hp.bd
  unfold nrL
  rw [List.mem_filter, mem_ranL]
  have hq : 1 ≤ x → ((isq p.toNat x.toNat) = true ↔ IsQ p x) := fun h => by
    have := isq_ok (p := p) (n := p.toNat) (r := x.toNat) (by omega) (by omega)
    rw [show ((x.toNat : Nat) : Int) = x by omega] at this
    exact this
  constructor
  · rintro ⟨⟨h1, h2⟩, h3⟩
    refine ⟨h1, by omega, fun h => ?_⟩
    rw [(hq h1).mpr h] at h3
    simp at h3
  · rintro ⟨h1, h2, h3⟩
    refine ⟨⟨h1, by omega⟩, ?_⟩
    have : isq p.toNat x.toNat = false := by rw [Bool.eq_false_iff]; exact fun h => h3 ((hq h1).mp h)
    rw [this]; rfl
theorem nr_head {p : Int} (hp : Ps p) : ∃ r, nrL p = tz p :: r := by
  obtain ⟨k, hk, hmem⟩ := hp.nat
  have t := tabZ k hmem
  rw [← hk] at t
  unfold tz
  cases h : nrL p with
  | nil => rw [h] at t; simp at t
  | cons x r => exact ⟨r, rfl⟩
theorem tz_ok {p : Int} (hp : Ps p) : 1 ≤ tz p ∧ tz p < p ∧ ¬ IsQ p (tz p) := by
  obtain ⟨r, h⟩ := nr_head hp
  exact (nr_mem hp).mp (by rw [h]; exact List.mem_cons_self)
theorem bd_ne {p z : Int} (h : 1 ≤ z) (h1 : z < p) : ¬ Md p z 0 := fun q => by
  have := q.eq ⟨by omega, h1⟩ ⟨by omega, by omega⟩
  omega
theorem Cv.twf {p z : Int} {f : List Int} (h : Cv p f) (h0 : 1 ≤ z) (h1 : z < p) : Cv p (twf p z f) ∧ (K83.twf p z f).length = f.length := by
  have hp := h.ps
  have hb := hp.bd
  have hl := h.len
  obtain ⟨l1, l2⟩ := scl_can hp h.can (bd_ne h0 h1)
  obtain ⟨c1, e1⟩ := trim_ok (p := p) (by omega) (sclL z f)
  have hl1 : (K83.twf p z f).length = f.length := l1
  have hne : f ≠ [] := fun e => by rw [e] at hl; simp at hl
  refine ⟨⟨hp, c1, by rw [hl1]; exact hl, ?_⟩, hl1⟩
  exact Sq.scl hp h.can hne (bd_ne h0 h1) (e1.trans (PA.E.of_eq fun x => ev_scl z f x)) (by have : (trim p (sclL z f)).length = f.length := l1; omega) h.sq
theorem pl_twin : Pl N_s_twin (W_s_twin (SP dk)) 1 sp_twin := by
  intro ds K EE ⟨p, f, eq, hf, k⟩ _
  subst eq
  have hp := hf.ps
  have hb := hp.bd
  have hl := hf.len
  show W_s_twin (SP dk) EE _ [.sh (cv p f), .un, .un]
  simp [W_s_twin, SP]
  refine ⟨by omega, by omega, ?_⟩
  rw [ranD_eq]
  have hn : p.toNat - 1 = (p - 1).toNat := by omega
  rw [hn]
  refine comp_filt D.int D.int (fun x => !isq p.toNat x.toNat) _ [] (fun x hx X Y h1 h2 => ?_) ?_
  · have hx2 := mem_ranL.mp hx
    have hq := isq_ok (p := p) (n := p.toNat) (r := x.toNat) (by omega) (by omega)
    rw [show ((x.toNat : Nat) : Int) = x by omega] at hq
    simp
    refine ⟨p, x, rfl, hp, by omega, by omega, fun y y0 y1 hy => ?_, fun hno => ?_⟩
    · have := hq.mpr ⟨y, hy⟩
      simp [D.isNon]
      exact h2 (by rw [this]; rfl)
    · have : isq p.toNat x.toNat = false := by
        rw [Bool.eq_false_iff]; intro h
        obtain ⟨y, hy⟩ := hq.mp h
        exact hno y hy
      simp [D.isNon]
      exact h1 (by rw [this]; rfl)
  · rw [List.nil_append]
    obtain ⟨r, hr⟩ := nr_head hp
    have hz := tz_ok hp
    rw [show (List.filter (fun x => !isq p.toNat x.toNat) (ranL 1 (p - 1).toNat)) = nrL p from rfl, hr]
    refine ⟨_, at_0, ?_⟩
    refine ⟨p, f, tz p, rfl, hp, Can.sm hp hf.can, by omega, ?_⟩
    exact ⟨p, _, rfl, (hf.twf hz.1 hz.2.1).1, k⟩
end K83
end
section
set_option Elab.async false
set_option linter.all false
set_option maxHeartbeats 4000000
set_option maxRecDepth 10000
/-! P83t: the law's own lists, turns of multiples. -/
namespace K83
open PySem PySem.Spec PyProof.Rows L2 DL PA
variable {dk : Addr}
def sqL (p : Int) : List Int := (ranL 1 (p - 1).toNat).map fun x => x * x % p
theorem mem_sqL {p x : Int} (hp : Ps p) (h0 : 1 ≤ x) (h1 : x < p) : x ∈ sqL p ↔ IsQ p x := by
  have hb := hp.bd
  unfold sqL
  constructor
  · intro h
    obtain ⟨y, _, e⟩ := List.mem_map.mp h
    exact ⟨y, Md.of_emod (by rw [e, Int.emod_eq_of_lt (by omega) h1])⟩
  · rintro ⟨y, hy⟩
    refine List.mem_map.mpr ⟨y % p, mem_ranL.mpr ⟨?_, ?_⟩, ?_⟩
    · have h2 := Int.emod_nonneg y (show p ≠ 0 by omega)
      have h3 : y % p ≠ 0 := fun e => by
        have h4 : Md p y 0 := Md.zero.mpr e
        have h5 := (h4.mul h4).symm.trans hy
        have := h5.eq ⟨by omega, by omega⟩ ⟨by omega, h1⟩
        omega
      omega
    · have := Int.emod_lt_of_pos y (show 0 < p by omega)
      omega
    · have := (((Md.mod y).mul (Md.mod y)).trans hy).emod
      rw [Int.emod_eq_of_lt (by omega : 0 ≤ x) h1] at this
      exact this
/-- a turn from the curve of z f to that of w f, where z w is a square -/
theorem turn_mul {p z w e : Int} {f g h : List Int} (hp : Ps p) (hg : PA.E p (ev g) (fun x => w * ev f x)) (hh : PA.E p (ev h) (fun x => z * ev f x)) (he0 : 0 < e) (he1 : e < p) (he : Md p (e * e * z) w) {n : Nat} : IsTurn p n g h (1, 0, 0, 1, e) := by
  have hb := hp.bd
  refine ⟨⟨⟨(by omega : (0 : Int) ≤ 1), (by omega : (1 : Int) < p)⟩, ⟨(by omega : (0 : Int) ≤ 0), (by omega : (0 : Int) < p)⟩, ⟨(by omega : (0 : Int) ≤ 0), (by omega : (0 : Int) < p)⟩, ⟨(by omega : (0 : Int) ≤ 1), (by omega : (1 : Int) < p)⟩, ⟨(by omega : (0 : Int) ≤ e), he1⟩, .inl ⟨rfl, rfl⟩, by show e ≠ 0; omega, ?_⟩, ?_⟩
  · show (1 * 1 - 0 * 0 : Int) % p ≠ 0
    rw [Int.emod_eq_of_lt (by omega) (by omega)]; omega
  · show PA.E p (fun x => hm g n (1 * x + 0) (0 * x + 1)) (fun x => e * e * ev h x)
    refine (PA.E.of_eq fun x => ?_).trans (hg.trans ?_)
    · rw [Int.one_mul, Int.add_zero, Int.zero_mul, Int.zero_add, hm_one]
    · refine PA.E.symm ?_
      refine ((PA.E.refl fun _ => e * e).mul hh (P1.const _) ((P1.const _).mul (P1.ev f))).trans ?_
      exact (PA.E.of_eq fun x => by grind).trans (PA.E.num he (P1.ev f))
theorem head_ne {p : Int} {g h : List Int} {t : T5} {ts : List T5} (hts : Turns p g h ts) (ht : IsTurn p h.length g h t) : ∃ t', headD ts = tD t' := by
  have : t ∈ ts := (hts.1.mem t).mpr ⟨ht, trivial⟩
  cases ts with
  | nil => cases this
  | cons x r => exact ⟨x, rfl⟩
theorem twf_E {p : Int} (hp : Ps p) (z : Int) (f : List Int) : PA.E p (ev (twf p z f)) (fun x => z * ev f x) :=
  (trim_ok (by have := hp.bd; omega) _).2.trans (PA.E.of_eq fun x => ev_scl z f x)
/-- e with e e z = w -/
theorem root_of {p z w : Int} (hp : Ps p) (hz : ¬ Md p z 0) (hw : ¬ Md p w 0) (h : IsQ p (z * w)) : ∃ e, 0 < e ∧ e < p ∧ Md p (e * e * z) w := by
  have hb := hp.bd
  obtain ⟨y, hy⟩ := h
  obtain ⟨i, i0, i1, hi⟩ := hp.inv (a := z) fun q => hz (Md.zero.mpr q)
  have hb2 := md_bd (p := p) (by omega) (y * i)
  have e1 : Md p ((y * i % p) * (y * i % p) * z) w := by
    refine (((Md.mod _).mul (Md.mod _)).mul (Md.refl z)).trans ?_
    -- y y i i z = z w i i z
    refine (Md.of_eq (by grind : y * i * (y * i) * z = y * y * i * (z * i))).trans ?_
    refine ((hy.mul (Md.refl i)).mul hi).trans ?_
    refine (Md.of_eq (by grind : z * w * i * 1 = w * (z * i))).trans ?_
    exact ((Md.refl w).mul hi).trans (Md.of_eq (Int.mul_one w))
  refine ⟨y * i % p, ?_, hb2.2, e1⟩
  by_cases q : y * i % p = 0
  · rw [q] at e1
    exact absurd (e1.symm.trans (Md.of_eq (by simp))) hw
  · omega
/-- two numbers, both with or both without a root -/
theorem both_q {p z w : Int} (hp : Ps p) (hz : ¬ Md p z 0) (hw : ¬ Md p w 0) (h : IsQ p z ↔ IsQ p w) : IsQ p (z * w) := by
  by_cases q : IsQ p z
  · obtain ⟨a, ha⟩ := q
    obtain ⟨b, hb⟩ := h.mp ⟨a, ha⟩
    exact ⟨a * b, (Md.of_eq (by grind)).trans (ha.mul hb)⟩
  · exact (nonres hp q hw).mpr fun x => q (h.mpr x)
end K83
end
section
set_option Elab.async false
set_option linter.all false
set_option maxHeartbeats 4000000
set_option maxRecDepth 10000
/-! P83u: the law, line by line (printed by lawk83.py). -/
namespace K83
open PySem PySem.Spec PyProof.Rows L2 DL PA
variable {dk : Addr}
theorem obj_m_Curve : ∀ (ds : List D) (K : D → Prop) (E : Exc → Prop), (SP dk).m_Curve ds K E → (SP dk).m_Curve ds (fun d => (∃ fs, d = .obj 0 fs) ∧ K d) E := fun ds K E ⟨p, f, e, hf, k⟩ => ⟨p, f, e, hf, ⟨_, rfl⟩, k⟩
theorem is_ok {x : D} {K : D → Prop} {E : Exc → Prop} (h1 : x.tx = true) (h2 : x.py.depth ≤ 50) (h3 : x.sz ≤ sizeLine) (k : K (.bl true)) : sp__law_is [x, x] K E :=
  ⟨x, x, rfl, fun d hd => by rcases hd with rfl | rfl <;> exact ⟨h1, h2, h3⟩, by rw [decide_eq_true rfl]; exact k⟩
def bdM (l : List Int) : Prop := ∀ c ∈ l, -1000000 < c ∧ c < 1000000
theorem txL_ints : ∀ l : List Int, bdM l → D.txL (iL l) = true
  | [], _ => rfl
  | c :: l, h => by
    have h1 := h c List.mem_cons_self
    show ((D.int c).tx && D.txL (iL l)) = true
    rw [txL_ints l fun d hd => h d (List.mem_cons_of_mem _ hd)]
    show ((decide (-1000000 < c) && decide (c < 1000000)) && true) = true
    simp; exact h1
theorem szL_ints : ∀ l : List Int, D.szL (iL l) = 10 * l.length
  | [] => rfl
  | c :: l => by
    show 8 + 2 + D.szL (iL l) = _
    rw [szL_ints l, List.length_cons]; omega
theorem dp_pT (l : List Int) : (pT l).py.depth ≤ 2 := by
  obtain ⟨a, b⟩ := lay_iL l
  show PyData.depth (.tuple (D.pyL (iL l))) ≤ 2
  simp only [PyData.depth]; omega
theorem dp_lst (l : List Int) : (D.lst (iL l)).py.depth ≤ 2 := by
  obtain ⟨a, b⟩ := lay_iL l
  show PyData.depth (.list (D.pyL (iL l))) ≤ 2
  simp only [PyData.depth]; omega
theorem tx_two {p : Int} {l : List Int} (hp : -1000000 < p ∧ p < 1000000) (hl : bdM l) (hn : l.length ≤ 1000) : (D.lst [.int p, pT l]).tx = true ∧ (D.lst [.int p, pT l]).py.depth ≤ 50 ∧ (D.lst [.int p, pT l]).sz ≤ sizeLine := by
  refine ⟨?_, ?_, ?_⟩
  · show ((decide (-1000000 < p) && decide (p < 1000000)) && (D.txL (iL l) && true)) = true
    rw [txL_ints l hl]; simp; exact hp
  · have := dp_pT l
    show PyData.depth (.list [.int p, (pT l).py]) ≤ 50
    simp only [PyData.depth, PyData.depthAll]; omega
  · show 8 + 2 + (D.szL (iL l) + 4 + 2 + 0) + 4 ≤ sizeLine
    rw [szL_ints]
    have : sizeLine = 16777216 := rfl
    omega
theorem any_ints (x : Int) : ∀ l : List Int, ((iL l).any fun z => D.eqb z (.int x)) = decide (x ∈ l)
  | [] => rfl
  | c :: l => by
    have h1 : D.eqb (.int c) (.int x) = decide (c = x) := by simp only [D.eqb]; rfl
    show (D.eqb (.int c) (.int x) || (iL l).any fun z => D.eqb z (.int x)) = _
    rw [h1, any_ints x l]
    by_cases h : c = x
    · simp [h]
    · have h2 : ¬ x = c := fun e => h e.symm
      simp [h, h2]
theorem shp_lstI (l : List Int) : (D.lst (iL l)).shp = true := by
  obtain ⟨a, b⟩ := lay_iL l
  have h1 : D.pureL (iL l) = true := (pyL_ints l).1
  show (D.pureL (iL l) && (PyData.canLay0 (.list (D.pyL (iL l))) && decide (PyData.depth (.list (D.pyL (iL l))) ≤ 64))) = true
  rw [h1]
  simp only [PyData.canLay0, PyData.depth, a]
  simp; omega
theorem in_ints {x : Int} {l : List Int} {K : D → Prop} (k : K (.bl (decide (x ∈ l)))) : kIn (.int x) (.lst (iL l)) K := ⟨rfl, shp_lstI l, by rw [any_ints]; exact k⟩
theorem notin_ints {x : Int} {l : List Int} {K : D → Prop} (k : K (.bl (!decide (x ∈ l)))) : kNotIn (.int x) (.lst (iL l)) K := ⟨rfl, shp_lstI l, by rw [any_ints]; exact k⟩
@[simp] theorem e_isins {c : Nat} {fe : WE} {ρ : DL.Env} {K : D → Prop} : wIsIns c fe ρ K = fe ρ fun d => ∃ fs, d = .obj c fs ∧ K (.bl true) := rfl
theorem at_1 {α : Type} {x y : α} {xs : List α} : atI (x :: y :: xs) 1 = some y := by
  rw [atI_ofNat _ (by omega)]; rfl
theorem cl_bd {p g : Nat} (f : List Int) (hm : (p, g) ∈ PML) (i : Nat) : -40000 ≤ cl p g f i ∧ cl p g f i ≤ 40000 := by
  obtain ⟨hp, m1, m4, hpm, p3⟩ := pml_bd hm
  have h1 := cl_abs f hm i
  by_cases hi : i ≤ 2 * g
  · have h2 : p ^ i ≤ p ^ (g * 2) := Nat.pow_le_pow_right (by omega) (by omega)
    rw [Nat.pow_mul, Nat.pow_two] at h2
    have h3 := Nat.mul_le_mul hpm hpm
    omega
  · have : cl p g f i = 0 := (cl_symm p g f).2 i (by omega)
    rw [this]; omega
theorem sumN_bd {B : Int} {u : Nat → Int} (h : ∀ i, -B ≤ u i ∧ u i ≤ B) : ∀ n : Nat, -(B * n) ≤ sumN n u ∧ sumN n u ≤ B * n
  | 0 => by simp [sumN]
  | n + 1 => by
    have h1 := sumN_bd h n
    have h2 := h n
    show -(B * ((n + 1 : Nat) : Int)) ≤ sumN n u + u n ∧ sumN n u + u n ≤ B * ((n + 1 : Nat) : Int)
    rw [Int.natCast_add, Int.mul_add]
    simp
    omega
theorem cN_bd {p g : Nat} (f : List Int) (hm : (p, g) ∈ PML) : Sm (cN p g f 1) := by
  obtain ⟨hp, m1, m4, hpm, p3⟩ := pml_bd hm
  have e1 : cN p g f 1 = sumN (2 * g + 1) (cl p g f) := sumN_congr _ fun i _ => by
    rw [Int.pow_one]; exact mir_self (by omega) (cl_symm p g f) i
  have := sumN_bd (cl_bd f hm) (2 * g + 1)
  rw [e1]
  have hg : ((2 * g + 1 : Nat) : Int) ≤ 9 := by omega
  exact ⟨by omega, by omega⟩
theorem gen_eq {f : List Int} {p : Int} (h : Cv p f) : ((f.length : Int) - 1) / 2 = (gen f : Int) ∧ 1 ≤ gen f ∧ gen f ≤ 4 := by
  have := h.len
  unfold gen; omega
theorem pml_of {p : Nat} (hp : Ps p) {g : Nat} (g1 : 1 ≤ g) (g4 : g ≤ 4) (h : p ^ g ≤ 200) : (p, g) ∈ PML := by
  have hq : p = 3 ∨ p = 5 ∨ p = 7 ∨ p = 11 ∨ p = 13 ∨ p = 17 ∨ p = 61 := by
    rcases hp with h | h | h | h | h | h | h <;> omega
  have hg : g = 1 ∨ g = 2 ∨ g = 3 ∨ g = 4 := by omega
  rcases hq with e | e | e | e | e | e | e <;> rcases hg with e2 | e2 | e2 | e2 <;> subst e <;> subst e2 <;> first | decide | (exfalso; revert h; decide)

theorem pl_law {EE : Exc → Prop} : W_s_law (SP dk) EE { nx := fun _ => False, rt := fun d => d = .bl true } [.un, .sh (.adr dk), .un, .un, .un, .un, .un, .un, .un, .un, .un, .un, .un, .un, .un, .un, .un, .un, .un] := by
  unfold W_s_law
  refine seq_cut (fun ρ => ∃ (p : Nat) (f : List Int), Cv p f ∧ ρ = [.un, .sh (.adr dk), .un, .un, .un, .un, .un, .un, .un, .un, .un, .un, .sh (.int p), .sh (pT f), .un, .un, .un, .un, .un]) (fun N hN => ?_) (fun ρ ⟨p, f, hf, e⟩ => ?_)
  · simp [SP]
    refine ⟨rfl, fun p f hf => ?_⟩
    have hb := hf.ps.bd
    simp
    refine hN _ ⟨p.toNat, f, ?_, ?_⟩ <;> rw [show ((p.toNat : Nat) : Int) = p by omega]
    exact hf
  subst e
  have hp := hf.ps
  have hb := hp.bd
  have hl := hf.len
  have hz := tz_ok hp
  have hzm := bd_ne hz.1 hz.2.1
  obtain ⟨ho, hol⟩ := hf.twf hz.1 hz.2.1
  obtain ⟨eg, g1, g4⟩ := gen_eq hf
  have hgo : gen (twf p (tz p) f) = gen f := by unfold gen; rw [hol]
  have hfb : bdM f := fun c hc => by have := hf.can.1 c hc; omega
  have hob : bdM (twf p (tz p) f) := fun c hc => by have := ho.can.1 c hc; omega
  refine seq_cut (fun ρ => ρ = [.un, .sh (.adr dk), .sh (cv p f), .un, .un, .un, .un, .un, .un, .un, .un, .un, .sh (.int p), .sh (pT f), .un, .un, .un, .un, .un]) (fun N hN => ?_) (fun ρ e => ?_)
  · simp [SP]
    exact ⟨p, f, rfl, hf, hN _ rfl⟩
  subst e
  refine seq_cut (fun ρ => ρ = [.un, .sh (.adr dk), .sh (cv p f), .sh (.int (gen f : Nat)), .un, .un, .un, .un, .un, .un, .un, .un, .sh (.int p), .sh (pT f), .un, .un, .un, .un, .un]) (fun N hN => ?_) (fun ρ e => ?_)
  · simp [SP]
    rw [eg]
    exact hN _ rfl
  subst e
  refine seq_cut (fun ρ => ρ = [.un, .sh (.adr dk), .sh (cv p f), .sh (.int (gen f : Nat)), .sh (cv p (twf p (tz p) f)), .un, .un, .un, .un, .un, .un, .un, .sh (.int p), .sh (pT f), .un, .un, .un, .un, .un]) (fun N hN => ?_) (fun ρ e => ?_)
  · simp [SP]
    exact ⟨p, f, rfl, hf, hN _ rfl⟩
  subst e
  refine seq_cut (fun ρ => ρ = [.un, .sh (.adr dk), .sh (cv p f), .sh (.int (gen f : Nat)), .sh (cv p (twf p (tz p) f)), .sh (.lst (iL (sqL p))), .un, .un, .un, .un, .un, .un, .sh (.int p), .sh (pT f), .un, .un, .un, .un, .un]) (fun N hN => ?_) (fun ρ e => ?_)
  · simp [SP]
    rw [ranD_eq]
    refine ⟨by omega, ?_⟩
    refine comp_int D.int (fun x => x * x % p) _ (fun x hx N2 h2 => ?_) ?_
    · have := mem_ranL.mp hx
      simp
      exact ⟨cmul (by omega), by omega, h2⟩
    · rw [show p - 1 = ((p : Int) - 1).toNat by omega]
      exact hN _ rfl
  subst e
  refine seq_cut (fun ρ => ρ = [.un, .sh (.adr dk), .sh (cv p f), .sh (.int (gen f : Nat)), .sh (cv p (twf p (tz p) f)), .sh (.lst (iL (sqL p))), .sh (.int (tz p)), .un, .un, .un, .un, .un, .sh (.int p), .sh (pT f), .un, .un, .un, .un, .un]) (fun N hN => ?_) (fun ρ e => ?_)
  · simp [SP]
    rw [ranD_eq]
    refine ⟨by omega, ?_⟩
    refine comp_filt D.int D.int (fun x => !isq (p : Int).toNat x.toNat) _ [] (fun x hx X Y h1 h2 => ?_) ?_
    · have hx2 := mem_ranL.mp hx
      have hm := mem_sqL (x := x) hp (by omega) (by omega)
      have hq := isq_ok (p := (p : Int)) (n := (p : Int).toNat) (r := x.toNat) (by omega) (by omega)
      rw [show ((x.toNat : Nat) : Int) = x by omega] at hq
      simp
      refine notin_ints ?_
      by_cases q : x ∈ sqL p
      · have := hq.mpr (hm.mp q)
        refine .inl ⟨by simp [q], ?_⟩
        exact h2 (by rw [this]; rfl)
      · have : isq (p : Int).toNat x.toNat = false := by
          rw [Bool.eq_false_iff]; exact fun h => q (hm.mpr (hq.mp h))
        refine .inr ⟨by simp [q], ?_⟩
        exact h1 (by rw [this]; rfl)
    · rw [List.nil_append, show p - 1 = ((p : Int) - 1).toNat by omega]
      obtain ⟨r, hr⟩ := nr_head hp
      rw [show (List.filter (fun x => !isq (p : Int).toNat x.toNat) (ranL 1 ((p : Int) - 1).toNat)) = nrL p from rfl, hr]
      exact ⟨_, at_0, hN _ rfl⟩
  subst e
  refine seq_cut (fun ρ => ρ = [.un, .sh (.adr dk), .sh (cv p f), .sh (.int (gen f : Nat)), .sh (cv p (twf p (tz p) f)), .sh (.lst (iL (sqL p))), .sh (.int (tz p)), .un, .un, .un, .un, .un, .sh (.int p), .sh (pT f), .un, .un, .un, .un, .un]) (fun N hN => ?_) (fun ρ e => ?_)
  · simp [SP]
    refine comp_int D.int (fun c => tz p * c) f (fun c hc N2 h2 => ?_) ?_
    · simp
      exact ⟨cmul (by omega), h2⟩
    refine ⟨p, sclL (tz p) f, rfl, hp, by rw [len_scl]; omega, ?_⟩
    obtain ⟨t1, t2, t3⟩ := tx_two (p := (p : Int)) (l := twf p (tz p) f) (by omega) hob (by rw [hol]; omega)
    refine is_ok t1 t2 t3 ?_
    simp
    exact hN _ rfl
  subst e
  refine seq_cut (fun ρ => ρ = [.un, .sh (.adr dk), .sh (cv p f), .sh (.int (gen f : Nat)), .sh (cv p (twf p (tz p) f)), .sh (.lst (iL (sqL p))), .sh (.int (tz p)), .un, .un, .un, .un, .un, .sh (.int p), .sh (pT f), .un, .un, .un, .un, .un]) (fun N hN => ?_) (fun ρ e => ?_)
  · simp [SP]
    refine ⟨p, f, rfl, hf, ?_⟩
    refine ⟨p, _, rfl, ho, ?_⟩
    have hpl := plc_twin (p := p) (f := f) hp hzm hz.2.2
    have e : ((plc p f : Nat) : Int) + ((plc p (twf p (tz p) f) : Nat) : Int) = 2 * p + 2 := by
      have : plc p f + plc p (twf p (tz p) f) = 2 * p + 2 := hpl
      omega
    simp [e]
    exact ⟨cmul (by omega), hN _ rfl⟩
  subst e
  refine seq_cut (fun ρ => ∃ z : Int, (1 ≤ z ∧ z < p) ∧ ρ = [.un, .sh (.adr dk), .sh (cv p f), .sh (.int (gen f : Nat)), .sh (cv p (twf p (tz p) f)), .sh (.lst (iL (sqL p))), .sh (.int (tz p)), .sh (.int z), .un, .un, .un, .un, .sh (.int p), .sh (pT f), .un, .un, .un, .un, .un]) (fun N hN => ?_) (fun ρ ⟨z, hzz, e⟩ => ?_)
  · simp [SP]
    refine ⟨(p : Int) - 1, rfl, by omega, by omega, fun v v0 v1 => ?_⟩
    exact hN _ ⟨1 + v, ⟨by omega, by omega⟩, rfl⟩
  subst e
  have hzz2 := bd_ne hzz.1 hzz.2
  obtain ⟨hs, hsl⟩ := hf.twf hzz.1 hzz.2
  refine seq_cut (fun ρ => ρ = [.un, .sh (.adr dk), .sh (cv p f), .sh (.int (gen f : Nat)), .sh (cv p (twf p (tz p) f)), .sh (.lst (iL (sqL p))), .sh (.int (tz p)), .sh (.int z), .sh (cv p (twf p z f)), .un, .un, .un, .sh (.int p), .sh (pT f), .un, .un, .un, .un, .un]) (fun N hN => ?_) (fun ρ e => ?_)
  · simp [SP]
    refine comp_int D.int (fun c => z * c) f (fun c hc N2 h2 => ?_) ?_
    · simp
      exact ⟨cmul (by omega), h2⟩
    refine ⟨p, sclL z f, rfl, hp, by rw [len_scl]; omega, ?_⟩
    exact ⟨p, _, rfl, hs, hN _ rfl⟩
  subst e
  have hE : ∀ w, PA.E p (ev (twf p w f)) (fun x => w * ev f x) := fun w => twf_E hp w f
  have h2t : PA.E p (ev (twf p (tz p) (twf p (tz p) f))) (fun x => tz p * tz p * ev f x) := (twf_E hp _ _).trans (((PA.E.refl fun _ => tz p).mul (hE (tz p)) (P1.const _) ((P1.const _).mul (P1.ev f))).trans (PA.E.of_eq fun x => by grind))
  obtain ⟨hoo, hool⟩ := ho.twf hz.1 hz.2.1
  refine seq_cut (fun ρ => ρ = [.un, .sh (.adr dk), .sh (cv p f), .sh (.int (gen f : Nat)), .sh (cv p (twf p (tz p) f)), .sh (.lst (iL (sqL p))), .sh (.int (tz p)), .sh (.int z), .sh (cv p (twf p z f)), .un, .un, .un, .sh (.int p), .sh (pT f), .un, .un, .un, .un, .un]) (fun N hN => ?_) (fun ρ e => ?_)
  · simp [SP]
    refine in_ints ?_
    have last : sp_twin [cv p (twf p (tz p) f)] (fun d => sp_turn_between [cv p f, d] (fun x => x.isNon = false ∧ N [.un, .sh (.adr dk), .sh (cv p f), .sh (.int (gen f : Nat)), .sh (cv p (twf p (tz p) f)), .sh (.lst (iL (sqL p))), .sh (.int (tz p)), .sh (.int z), .sh (cv p (twf p z f)), .un, .un, .un, .sh (.int p), .sh (pT f), .un, .un, .un, .un, .un]) EE) EE := by
      refine ⟨p, _, rfl, ho, ?_⟩
      refine ⟨p, f, p, _, rfl, hf, hoo, fun _ _ ts hts => ?_, fun q => absurd ⟨rfl, by rw [hool, hol]⟩ q⟩
      obtain ⟨t', ht'⟩ := head_ne hts (turn_mul (f := f) (h := f) (z := 1) (e := tz p) hp h2t (PA.E.of_eq fun x => by omega) (by omega) hz.2.1 (Md.of_eq (Int.mul_one _)))
      rw [ht']
      exact ⟨rfl, hN _ rfl⟩
    have hq := mem_sqL (x := z) hp hzz.1 hzz.2
    by_cases q : z ∈ sqL p
    · simp [q]
      refine ⟨_, at_1, ?_⟩
      refine ⟨p, _, p, f, rfl, hs, hf, fun _ _ ts hts => ?_, fun x => absurd ⟨rfl, hsl⟩ x⟩
      obtain ⟨e, e0, e1, he⟩ := root_of hp hzz2 (w := 1) (fun x => by have := x.eq ⟨by omega, by omega⟩ ⟨by omega, by omega⟩; omega) (by rw [Int.mul_one]; exact hq.mp q)
      obtain ⟨t', ht'⟩ := head_ne hts (turn_mul (f := f) (g := f) hp (PA.E.of_eq fun x => by omega) (hE z) e0 e1 he)
      rw [ht']
      exact ⟨rfl, last⟩
    · simp [q]
      refine ⟨p, _, p, _, rfl, hs, ho, fun _ _ ts hts => ?_, fun x => absurd ⟨rfl, by rw [hsl, hol]⟩ x⟩
      obtain ⟨e, e0, e1, he⟩ := root_of hp hzz2 hzm (both_q hp hzz2 hzm ⟨fun x => absurd (hq.mpr x) q, fun x => absurd x hz.2.2⟩)
      obtain ⟨t', ht'⟩ := head_ne hts (turn_mul (f := f) hp (hE (tz p)) (hE z) e0 e1 he)
      rw [ht']
      exact ⟨rfl, last⟩
  subst e
  refine seq_cut (fun ρ => ρ = [.un, .sh (.adr dk), .sh (cv p f), .sh (.int (gen f : Nat)), .sh (cv p (twf p (tz p) f)), .sh (.lst (iL (sqL p))), .sh (.int (tz p)), .sh (.int z), .sh (cv p (twf p z f)), .sh (.int 1), .un, .un, .sh (.int p), .sh (pT f), .un, .un, .un, .un, .un]) (fun N hN => ?_) (fun ρ e => ?_)
  · simp
    exact hN _ rfl
  subst e
  refine seq_cut (fun ρ => ∃ s10 : Sl, ρ = [.un, .sh (.adr dk), .sh (cv p f), .sh (.int (gen f : Nat)), .sh (cv p (twf p (tz p) f)), .sh (.lst (iL (sqL p))), .sh (.int (tz p)), .sh (.int z), .sh (cv p (twf p z f)), .sh (.int ((p ^ gen f : Nat) : Int)), s10, .un, .sh (.int p), .sh (pT f), .un, .un, .un, .un, .un]) (fun N hN => ?_) (fun ρ ⟨s10, e⟩ => ?_)
  · simp
    refine ⟨by omega, ?_⟩
    refine for_one 0 (gen f) (fun i ρ => ∃ s10, ρ = [.un, .sh (.adr dk), .sh (cv p f), .sh (.int (gen f : Nat)), .sh (cv p (twf p (tz p) f)), .sh (.lst (iL (sqL p))), .sh (.int (tz p)), .sh (.int z), .sh (cv p (twf p z f)), .sh (.int ((p ^ i : Nat) : Int)), s10, .un, .sh (.int p), .sh (pT f), .un, .un, .un, .un, .un]) ⟨.un, by simp⟩ (fun ρ ⟨s10, e⟩ => ?_) (fun i ρ N2 hi ⟨s10, e⟩ hN2 => ?_)
    · subst e
      exact hN _ ⟨s10, rfl⟩
    · subst e
      simp
      refine ⟨cmul' (by omega), hN2 _ ⟨.sh (.int i), ?_⟩⟩
      rw [Nat.pow_succ]; simp
  subst e
  by_cases hbig : 200 < p ^ gen f
  · have hd : decide ((200 : Int) < ((p ^ gen f : Nat) : Int)) = true := decide_eq_true (by omega)
    refine seq_cut (fun ρ => False) (fun N hN => ?_) (fun ρ e => e.elim)
    simp only [e_ifS, e_B, e_bin, e_var, e_C, kGt]
    refine ⟨_, rfl, ?_⟩
    simp only [k_cmp]
    refine ⟨_, rfl, ?_⟩
    rw [hd]
    rfl
  have hd : decide ((200 : Int) < ((p ^ gen f : Nat) : Int)) = false := decide_eq_false (by omega)
  have hm := pml_of hp g1 g4 (by omega)
  have hmo : (p, gen (twf p (tz p) f)) ∈ PML := by rw [hgo]; exact hm
  refine seq_cut (fun ρ => ρ = [.un, .sh (.adr dk), .sh (cv p f), .sh (.int (gen f : Nat)), .sh (cv p (twf p (tz p) f)), .sh (.lst (iL (sqL p))), .sh (.int (tz p)), .sh (.int z), .sh (cv p (twf p z f)), .sh (.int ((p ^ gen f : Nat) : Int)), s10, .un, .sh (.int p), .sh (pT f), .un, .un, .un, .un, .un]) (fun N hN => ?_) (fun ρ e => ?_)
  · simp only [e_ifS, e_B, e_bin, e_var, e_C, kGt]
    refine ⟨_, rfl, ?_⟩
    simp only [k_cmp]
    refine ⟨_, rfl, ?_⟩
    rw [hd]
    exact hN _ rfl
  subst e
  refine seq_cut (fun ρ => ρ = [.un, .sh (.adr dk), .sh (cv p f), .sh (.int (gen f : Nat)), .sh (cv p (twf p (tz p) f)), .sh (.lst (iL (sqL p))), .sh (.int (tz p)), .sh (.int z), .sh (cv p (twf p z f)), .sh (.int ((p ^ gen f : Nat) : Int)), s10, .sh (.lst (iL (mirL p (gen f) (LP p f)))), .sh (.int p), .sh (pT f), .un, .un, .un, .un, .un]) (fun N hN => ?_) (fun ρ e => ?_)
  · simp [SP]
    exact ⟨p, f, rfl, hf, hm, hN _ rfl⟩
  subst e
  refine seq_cut (fun ρ => ρ = [.un, .sh (.adr dk), .sh (cv p f), .sh (.int (gen f : Nat)), .sh (cv p (twf p (tz p) f)), .sh (.lst (iL (sqL p))), .sh (.int (tz p)), .sh (.int z), .sh (cv p (twf p z f)), .sh (.int ((p ^ gen f : Nat) : Int)), s10, .sh (.lst (iL (mirL p (gen f) (LP p f)))), .sh (.int p), .sh (pT f), .un, .un, .un, .un, .un]) (fun N hN => ?_) (fun ρ e => ?_)
  · simp [SP]
    refine ⟨p, _, rfl, ho, hmo, ?_⟩
    rw [hgo]
    refine ⟨cmul (by omega), by omega, by omega, ?_⟩
    rw [show (2 * (gen f : Int) + 1).toNat = 2 * gen f + 1 by omega]
    refine comp_rn 0 _ (fun i => alt (cl p (gen f) f) i) (fun i hi N2 h2 => ?_) ?_
    · have hc : mirL p (gen f) (LP p f) = tab (cl p (gen f) f) (2 * gen f + 1) := rfl
      rw [hc]
      simp
      refine ⟨_, at_tab _ (i := i) (by omega) hi, ?_⟩
      have hcb := cl_bd f hm i
      have e9 : cl p (gen f) f i * (1 - 2 * ((i : Int) % 2)) = alt (cl p (gen f) f) i := by
        unfold alt
        by_cases q : i % 2 = 1
        · rw [if_pos q, show (i : Int) % 2 = 1 by omega]; omega
        · rw [if_neg q, show (i : Int) % 2 = 0 by omega]; omega
      refine ⟨cmul (by omega), cmul (by omega), ?_⟩
      rw [e9]; exact h2
    · have e1 : mirL p (gen f) (LP p (twf p (tz p) f)) = tab (fun i => alt (cl p (gen f) f) i) (2 * gen f + 1) := by
        refine List.map_congr_left fun i _ => ?_
        exact congrFun (cl_twin (p := p) (g := gen f) (f := f) hp hzm hz.2.2 hm) i
      rw [e1]
      have hbm : bdM (tab (fun i => alt (cl p (gen f) f) i) (2 * gen f + 1)) := fun c hc => by
        obtain ⟨i, _, rfl⟩ := List.mem_map.mp hc
        have hcb := cl_bd f hm i
        unfold alt
        split <;> omega
      refine is_ok (txL_ints _ hbm) (Nat.le_trans (dp_lst _) (by omega)) ?_ ?_
      · show D.szL (iL _) + 4 ≤ sizeLine
        rw [szL_ints, tab_len]
        have : sizeLine = 16777216 := rfl
        omega
      · simp
        exact hN _ (by simp)
  subst e
  refine seq_cut (fun ρ => ρ = [.un, .sh (.adr dk), .sh (cv p f), .sh (.int (gen f : Nat)), .sh (cv p (twf p (tz p) f)), .sh (.lst (iL (sqL p))), .sh (.int (tz p)), .sh (.int z), .sh (cv p (twf p z f)), .sh (.int ((p ^ gen f : Nat) : Int)), s10, .sh (.lst (iL (mirL p (gen f) (LP p f)))), .sh (.int p), .sh (pT f), .sh (.int (cN p (gen f) f 1)), .sh (.int (cN p (gen f) f 2)), .un, .un, .un]) (fun N hN => ?_) (fun ρ e => ?_)
  · simp [SP]
    refine ⟨p, 1, f, rfl, hf, hm, .inl rfl, ?_⟩
    refine ⟨p, 2, f, rfl, hf, hm, .inr (.inl rfl), ?_⟩
    exact hN _ rfl
  subst e
  refine seq_cut (fun ρ => ρ = [.un, .sh (.adr dk), .sh (cv p f), .sh (.int (gen f : Nat)), .sh (cv p (twf p (tz p) f)), .sh (.lst (iL (sqL p))), .sh (.int (tz p)), .sh (.int z), .sh (cv p (twf p z f)), .sh (.int ((p ^ gen f : Nat) : Int)), s10, .sh (.lst (iL (mirL p (gen f) (LP p f)))), .sh (.int p), .sh (pT f), .sh (.int (cN p (gen f) f 1)), .sh (.int (cN p (gen f) f 2)), .un, .un, .un]) (fun N hN => ?_) (fun ρ e => ?_)
  · simp [SP]
    refine ⟨p, 1, _, rfl, ho, hmo, .inl rfl, ?_⟩
    rw [hgo]
    refine ⟨cmul (cN_bd f hm), ?_⟩
    rw [show cN p (gen f) f 1 * cN p (gen f) (twf p (tz p) f) 1 = cN p (gen f) f 2 from cN_one hp hzm hz.2.2 hm]
    simp
    refine ⟨p, 2, _, rfl, ho, hmo, .inr (.inl rfl), ?_⟩
    rw [hgo, show cN p (gen f) (twf p (tz p) f) 2 = cN p (gen f) f 2 from cN_two hp hzm hz.2.2 hm]
    simp
    exact hN _ (by simp)
  subst e
  simp [SP]
  refine ⟨p, 4, f, rfl, hf, hm, .inr (.inr rfl), ?_⟩
  refine ⟨p, 4, _, rfl, ho, hmo, .inr (.inr rfl), ?_⟩
  rw [hgo]
  have := cN_four hp hzm hz.2.2 (f := f) hm
  rw [show cN p (gen f) (twf p (tz p) f) 4 = cN p (gen f) f 4 from this]
  simp
end K83
end
section
set_option Elab.async false
set_option linter.all false
set_option maxRecDepth 100000
set_option maxHeartbeats 4000000
/-! printed by gen.py: each def keeps its promise. -/
namespace K83
open PySem PySem.Spec PyProof.Rows L2 DL
section
variable {g : Gx} {h : Heap} {l : Addr}
structure Tld (g : Gx) (h : Heap) (l : Addr) : Prop where
  X : g.K.In h
  G : h.Ns mainGlobals g.mg
  c : SaysP faL exL fnL g.K
  A0 : g.cA 0 = He.ga g.K "Curve"
  F0 : g.cF 0 = (["_p", "_f"] : List Str)
  dk : ∀ H, g.dkOk H ↔ DeckAt H g.dk l
  ds : ∀ b, g.dkS b ↔ b = g.dk ∨ b = l
  ne : g.dk ≠ l
theorem exs (c : SaysP faL exL fnL g.K) : tupN g.K "DEGREES" [3, 5, 7, 9] = true ∧ isiB g.K (He.ga g.K "Curve") = true ∧ propB g.K (He.ga g.K "Curve") "p" = true ∧ propB g.K (He.ga g.K "Curve") "f" = true ∧ propB g.K (He.ga g.K "Curve") "genus" = true := by
  have h := c.all.2.1
  simp only [exL, Bool.and_eq_true] at h
  exact ⟨h.1.1.1.1, h.1.1.1.2, h.1.1.2, h.1.2, h.2⟩
theorem cls_Curve (T : Tld g h l) : ClsG g 0 ["_p", "_f"] := by
  obtain ⟨X, G, c, hA, hF, _, _, _⟩ := T
  refine ⟨by rw [hA]; exact He.cls_ok (c.fact (f := .cls "Curve") (List.mem_of_getElem? (i := 75) rfl)), hF, by decide, fun f hf => ?_, by decide⟩
  rw [hA]
  simp only [List.mem_cons, List.not_mem_nil, or_false] at hf
  rcases hf with rfl | rfl
  · exact He.noat_ok (c.fact (f := .noat "Curve" "_p") (List.mem_of_getElem? (i := 77) rfl))
  · exact He.noat_ok (c.fact (f := .noat "Curve" "_f") (List.mem_of_getElem? (i := 78) rfl))
theorem fx_ok (T : Tld g h l) : Fx g := by
  have X := T.X
  have G := T.G
  have c := T.c
  have e := exs c
  exact {
    int := He.free_ok X G (c.fact (f := .free "int") (List.mem_of_getElem? (i := 60) rfl))
    isinstance := He.free_ok X G (c.fact (f := .free "isinstance") (List.mem_of_getElem? (i := 61) rfl))
    bool := He.free_ok X G (c.fact (f := .free "bool") (List.mem_of_getElem? (i := 62) rfl))
    PRIME_MOST := intN_ok X G (c.fact (f := .int "PRIME_MOST" 61) (List.mem_of_getElem? (i := 63) rfl))
    range := He.free_ok X G (c.fact (f := .free "range") (List.mem_of_getElem? (i := 64) rfl))
    all := He.free_ok X G (c.fact (f := .free "all") (List.mem_of_getElem? (i := 65) rfl))
    sorted := He.free_ok X G (c.fact (f := .free "sorted") (List.mem_of_getElem? (i := 66) rfl))
    tuple := He.free_ok X G (c.fact (f := .free "tuple") (List.mem_of_getElem? (i := 67) rfl))
    len := He.free_ok X G (c.fact (f := .free "len") (List.mem_of_getElem? (i := 68) rfl))
    max := He.free_ok X G (c.fact (f := .free "max") (List.mem_of_getElem? (i := 69) rfl))
    zip := He.free_ok X G (c.fact (f := .free "zip") (List.mem_of_getElem? (i := 70) rfl))
    enumerate := He.free_ok X G (c.fact (f := .free "enumerate") (List.mem_of_getElem? (i := 71) rfl))
    list := He.free_ok X G (c.fact (f := .free "list") (List.mem_of_getElem? (i := 72) rfl))
    LISTED_MOST := intN_ok X G (c.fact (f := .int "LISTED_MOST" 5000) (List.mem_of_getElem? (i := 73) rfl))
    Curve := cls_Curve T
    any := He.free_ok X G (c.fact (f := .free "any") (List.mem_of_getElem? (i := 79) rfl))
    DEGREES := tupN_ok X G (c.fact (f := .glo "DEGREES") (List.mem_of_getElem? (i := 80) rfl)) e.1
    sum := He.free_ok X G (c.fact (f := .free "sum") (List.mem_of_getElem? (i := 81) rfl))
    min := He.free_ok X G (c.fact (f := .free "min") (List.mem_of_getElem? (i := 82) rfl))
    repr := He.free_ok X G (c.fact (f := .free "repr") (List.mem_of_getElem? (i := 83) rfl))
    isi_Curve := ⟨by rw [T.A0]; exact e.2.1⟩
    gl_Curve := by rw [T.A0]; exact He.glo_ok X G (c.fact (f := .glo "Curve") (List.mem_of_getElem? (i := 74) rfl))
    abs := He.free_ok X G (c.fact (f := .free "abs") (List.mem_of_getElem? (i := 84) rfl)) }
theorem ok_s__law_draw (T : Tld g h l) : FnG g 1 "_law_draw" 2 [] (SP g.dk).s__law_draw := by
  have c := T.c
  obtain ⟨fd, F⟩ := c.def_ 1 (d := d_s__law_draw) rfl
  have fx := fx_ok T
  refine ⟨fun ds K K' E E' h1 _ ⟨b, e, b0, b1, k⟩ => ⟨b, e, b0, b1, fun v v0 v1 => h1 _ (k v v0 v1)⟩, _, fd, ["deck", "bound"], [], [], draw_ok F fx.len fx.abs fx.int T.dk T.ds T.ne, He.glo_ok T.X T.G (c.fact (f := .glo "_law_draw") (List.mem_of_getElem? (i := 1) rfl)), F.kp, (FunD.bindsN (ps := ["deck", "bound"]) F fun _ _ _ _ _ _ us hl => match us, hl with | [_, _], _ => rfl), .nil, fun _ _ => rfl⟩
theorem ok_s_is_integer (T : Tld g h l) : FnG g 2 "is_integer" 1 [] (SP g.dk).s_is_integer := by
  have c := T.c
  obtain ⟨fd, F⟩ := c.def_ 2 (d := d_s_is_integer) rfl
  exact FnG.of (k := 1) (N := N_s_is_integer) (dvs' := []) (dus := []) (fb := W_s_is_integer (SP g.dk)) F sc_s_is_integer rfl (He.glo_ok T.X T.G (c.fact (f := .glo "is_integer") (List.mem_of_getElem? (i := 2) rfl))) (FunD.bindsN (ps := ["value"]) F fun _ _ _ _ _ _ us hl => match us, hl with | [_], _ => rfl) .nil (fun _ _ => rfl) mono_sp_is_integer (fun cd A outer s H E xp hr => bd_s_is_integer (SP g.dk) (fx_ok T)  cd A outer s H E xp hr) pl_is_integer
theorem ok_s_is_count (T : Tld g h l) : FnG g 3 "is_count" 3 [] (SP g.dk).s_is_count := by
  have c := T.c
  obtain ⟨fd, F⟩ := c.def_ 3 (d := d_s_is_count) rfl
  obtain ⟨dus, rv, bi⟩ := F.binds1 (ps := ["value", "least", "most"]) 3 2 (by simp [DefP.dvs, d_s_is_count]) rfl (fun T kV doc pm an cdv ct us its hl hi => match us, hl with | [_, _, _], _ => match its, hi with | [_, _], _ => ⟨_, rfl, rfl⟩)
  exact FnG.of (k := 2) (N := N_s_is_count) (dvs' := []) (fb := W_s_is_count (SP g.dk)) F sc_s_is_count rfl (He.glo_ok T.X T.G (c.fact (f := .glo "is_count") (List.mem_of_getElem? (i := 3) rfl))) bi rv (fun _ _ => rfl) mono_sp_is_count (fun cd A outer s H E xp hr => bd_s_is_count (SP g.dk) (fx_ok T) (ok_s_is_integer T) cd A outer s H E xp hr) pl_is_count
theorem ok_s_is_prime (T : Tld g h l) : FnG g 4 "is_prime" 1 [] (SP g.dk).s_is_prime := by
  have c := T.c
  obtain ⟨fd, F⟩ := c.def_ 4 (d := d_s_is_prime) rfl
  exact FnG.of (k := 3) (N := N_s_is_prime) (dvs' := []) (dus := []) (fb := W_s_is_prime (SP g.dk)) F sc_s_is_prime rfl (He.glo_ok T.X T.G (c.fact (f := .glo "is_prime") (List.mem_of_getElem? (i := 4) rfl))) (FunD.bindsN (ps := ["value"]) F fun _ _ _ _ _ _ us hl => match us, hl with | [_], _ => rfl) .nil (fun _ _ => rfl) mono_sp_is_prime (fun cd A outer s H E xp hr => bd_s_is_prime (SP g.dk) (fx_ok T) (ok_s_is_count T) cd A outer s H E xp hr) pl_is_prime
theorem ok_s_raised (T : Tld g h l) : FnG g 2 "raised" 2 [] (SP g.dk).s_raised := by
  have c := T.c
  obtain ⟨fd, F⟩ := c.def_ 5 (d := d_s_raised) rfl
  exact FnG.of (k := 1) (N := N_s_raised) (dvs' := []) (dus := []) (fb := W_s_raised (SP g.dk)) F sc_s_raised rfl (He.glo_ok T.X T.G (c.fact (f := .glo "raised") (List.mem_of_getElem? (i := 5) rfl))) (FunD.bindsN (ps := ["a", "e"]) F fun _ _ _ _ _ _ us hl => match us, hl with | [_, _], _ => rfl) .nil (fun _ _ => rfl) mono_sp_raised (fun cd A outer s H E xp hr => bd_s_raised (SP g.dk) (fx_ok T)  cd A outer s H E xp hr) pl_raised
theorem ok_s_primes_of (T : Tld g h l) : FnG g 2 "primes_of" 1 [] (SP g.dk).s_primes_of := by
  have c := T.c
  obtain ⟨fd, F⟩ := c.def_ 6 (d := d_s_primes_of) rfl
  exact FnG.of (k := 1) (N := N_s_primes_of) (dvs' := []) (dus := []) (fb := W_s_primes_of (SP g.dk)) F sc_s_primes_of rfl (He.glo_ok T.X T.G (c.fact (f := .glo "primes_of") (List.mem_of_getElem? (i := 6) rfl))) (FunD.bindsN (ps := ["n"]) F fun _ _ _ _ _ _ us hl => match us, hl with | [_], _ => rfl) .nil (fun _ _ => rfl) mono_sp_primes_of (fun cd A outer s H E xp hr => bd_s_primes_of (SP g.dk) (fx_ok T)  cd A outer s H E xp hr) pl_primes_of
theorem ok_s_divisors (T : Tld g h l) : FnG g 3 "divisors" 1 [] (SP g.dk).s_divisors := by
  have c := T.c
  obtain ⟨fd, F⟩ := c.def_ 7 (d := d_s_divisors) rfl
  exact FnG.of (k := 2) (N := N_s_divisors) (dvs' := []) (dus := []) (fb := W_s_divisors (SP g.dk)) F sc_s_divisors rfl (He.glo_ok T.X T.G (c.fact (f := .glo "divisors") (List.mem_of_getElem? (i := 7) rfl))) (FunD.bindsN (ps := ["n"]) F fun _ _ _ _ _ _ us hl => match us, hl with | [_], _ => rfl) .nil (fun _ _ => rfl) mono_sp_divisors (fun cd A outer s H E xp hr => bd_s_divisors (SP g.dk) (fx_ok T) (ok_s_primes_of T) (ok_s_raised T) cd A outer s H E xp hr) pl_divisors
theorem ok_s_inverse (T : Tld g h l) : FnG g 2 "inverse" 2 [] (SP g.dk).s_inverse := by
  have c := T.c
  obtain ⟨fd, F⟩ := c.def_ 8 (d := d_s_inverse) rfl
  exact FnG.of (k := 1) (N := N_s_inverse) (dvs' := []) (dus := []) (fb := W_s_inverse (SP g.dk)) F sc_s_inverse rfl (He.glo_ok T.X T.G (c.fact (f := .glo "inverse") (List.mem_of_getElem? (i := 8) rfl))) (FunD.bindsN (ps := ["p", "a"]) F fun _ _ _ _ _ _ us hl => match us, hl with | [_, _], _ => rfl) .nil (fun _ _ => rfl) mono_sp_inverse (fun cd A outer s H E xp hr => bd_s_inverse (SP g.dk) (fx_ok T)  cd A outer s H E xp hr) pl_inverse
theorem ok_s_root (T : Tld g h l) : FnG g 2 "root" 2 [] (SP g.dk).s_root := by
  have c := T.c
  obtain ⟨fd, F⟩ := c.def_ 9 (d := d_s_root) rfl
  exact FnG.of (k := 1) (N := N_s_root) (dvs' := []) (dus := []) (fb := W_s_root (SP g.dk)) F sc_s_root rfl (He.glo_ok T.X T.G (c.fact (f := .glo "root") (List.mem_of_getElem? (i := 9) rfl))) (FunD.bindsN (ps := ["p", "a"]) F fun _ _ _ _ _ _ us hl => match us, hl with | [_, _], _ => rfl) .nil (fun _ _ => rfl) mono_sp_root (fun cd A outer s H E xp hr => bd_s_root (SP g.dk) (fx_ok T)  cd A outer s H E xp hr) pl_root
theorem ok_s_is_polynomial (T : Tld g h l) : FnG g 4 "is_polynomial" 2 [] (SP g.dk).s_is_polynomial := by
  have c := T.c
  obtain ⟨fd, F⟩ := c.def_ 10 (d := d_s_is_polynomial) rfl
  exact FnG.of (k := 3) (N := N_s_is_polynomial) (dvs' := []) (dus := []) (fb := W_s_is_polynomial (SP g.dk)) F sc_s_is_polynomial rfl (He.glo_ok T.X T.G (c.fact (f := .glo "is_polynomial") (List.mem_of_getElem? (i := 10) rfl))) (FunD.bindsN (ps := ["p", "value"]) F fun _ _ _ _ _ _ us hl => match us, hl with | [_, _], _ => rfl) .nil (fun _ _ => rfl) mono_sp_is_polynomial (fun cd A outer s H E xp hr => bd_s_is_polynomial (SP g.dk) (fx_ok T) (ok_s_is_count T) cd A outer s H E xp hr) pl_is_polynomial
theorem ok_s_trimmed (T : Tld g h l) : FnG g 2 "trimmed" 2 [] (SP g.dk).s_trimmed := by
  have c := T.c
  obtain ⟨fd, F⟩ := c.def_ 11 (d := d_s_trimmed) rfl
  exact FnG.of (k := 1) (N := N_s_trimmed) (dvs' := []) (dus := []) (fb := W_s_trimmed (SP g.dk)) F sc_s_trimmed rfl (He.glo_ok T.X T.G (c.fact (f := .glo "trimmed") (List.mem_of_getElem? (i := 11) rfl))) (FunD.bindsN (ps := ["p", "items"]) F fun _ _ _ _ _ _ us hl => match us, hl with | [_, _], _ => rfl) .nil (fun _ _ => rfl) mono_sp_trimmed (fun cd A outer s H E xp hr => bd_s_trimmed (SP g.dk) (fx_ok T)  cd A outer s H E xp hr) pl_trimmed
theorem ok_s_degree (T : Tld g h l) : FnG g 2 "degree" 1 [] (SP g.dk).s_degree := by
  have c := T.c
  obtain ⟨fd, F⟩ := c.def_ 12 (d := d_s_degree) rfl
  exact FnG.of (k := 1) (N := N_s_degree) (dvs' := []) (dus := []) (fb := W_s_degree (SP g.dk)) F sc_s_degree rfl (He.glo_ok T.X T.G (c.fact (f := .glo "degree") (List.mem_of_getElem? (i := 12) rfl))) (FunD.bindsN (ps := ["a"]) F fun _ _ _ _ _ _ us hl => match us, hl with | [_], _ => rfl) .nil (fun _ _ => rfl) mono_sp_degree (fun cd A outer s H E xp hr => bd_s_degree (SP g.dk) (fx_ok T)  cd A outer s H E xp hr) pl_degree
theorem ok_s_index (T : Tld g h l) : FnG g 2 "index" 2 [] (SP g.dk).s_index := by
  have c := T.c
  obtain ⟨fd, F⟩ := c.def_ 13 (d := d_s_index) rfl
  exact FnG.of (k := 1) (N := N_s_index) (dvs' := []) (dus := []) (fb := W_s_index (SP g.dk)) F sc_s_index rfl (He.glo_ok T.X T.G (c.fact (f := .glo "index") (List.mem_of_getElem? (i := 13) rfl))) (FunD.bindsN (ps := ["p", "a"]) F fun _ _ _ _ _ _ us hl => match us, hl with | [_, _], _ => rfl) .nil (fun _ _ => rfl) mono_sp_index (fun cd A outer s H E xp hr => bd_s_index (SP g.dk) (fx_ok T)  cd A outer s H E xp hr) pl_index
theorem ok_s_of_index (T : Tld g h l) : FnG g 2 "of_index" 2 [] (SP g.dk).s_of_index := by
  have c := T.c
  obtain ⟨fd, F⟩ := c.def_ 14 (d := d_s_of_index) rfl
  exact FnG.of (k := 1) (N := N_s_of_index) (dvs' := []) (dus := []) (fb := W_s_of_index (SP g.dk)) F sc_s_of_index rfl (He.glo_ok T.X T.G (c.fact (f := .glo "of_index") (List.mem_of_getElem? (i := 14) rfl))) (FunD.bindsN (ps := ["p", "n"]) F fun _ _ _ _ _ _ us hl => match us, hl with | [_, _], _ => rfl) .nil (fun _ _ => rfl) mono_sp_of_index (fun cd A outer s H E xp hr => bd_s_of_index (SP g.dk) (fx_ok T)  cd A outer s H E xp hr) pl_of_index
theorem ok_s_scaled (T : Tld g h l) : FnG g 3 "scaled" 3 [] (SP g.dk).s_scaled := by
  have c := T.c
  obtain ⟨fd, F⟩ := c.def_ 15 (d := d_s_scaled) rfl
  exact FnG.of (k := 2) (N := N_s_scaled) (dvs' := []) (dus := []) (fb := W_s_scaled (SP g.dk)) F sc_s_scaled rfl (He.glo_ok T.X T.G (c.fact (f := .glo "scaled") (List.mem_of_getElem? (i := 15) rfl))) (FunD.bindsN (ps := ["p", "a", "x"]) F fun _ _ _ _ _ _ us hl => match us, hl with | [_, _, _], _ => rfl) .nil (fun _ _ => rfl) mono_sp_scaled (fun cd A outer s H E xp hr => bd_s_scaled (SP g.dk) (fx_ok T) (ok_s_trimmed T) cd A outer s H E xp hr) pl_scaled
theorem ok_s_monic (T : Tld g h l) : FnG g 4 "monic" 2 [] (SP g.dk).s_monic := by
  have c := T.c
  obtain ⟨fd, F⟩ := c.def_ 16 (d := d_s_monic) rfl
  exact FnG.of (k := 3) (N := N_s_monic) (dvs' := []) (dus := []) (fb := W_s_monic (SP g.dk)) F sc_s_monic rfl (He.glo_ok T.X T.G (c.fact (f := .glo "monic") (List.mem_of_getElem? (i := 16) rfl))) (FunD.bindsN (ps := ["p", "a"]) F fun _ _ _ _ _ _ us hl => match us, hl with | [_, _], _ => rfl) .nil (fun _ _ => rfl) mono_sp_monic (fun cd A outer s H E xp hr => bd_s_monic (SP g.dk) (fx_ok T) (ok_s_inverse T) (ok_s_scaled T) cd A outer s H E xp hr) pl_monic
theorem ok_s_combined (T : Tld g h l) : FnG g 3 "combined" 4 [] (SP g.dk).s_combined := by
  have c := T.c
  obtain ⟨fd, F⟩ := c.def_ 17 (d := d_s_combined) rfl
  exact FnG.of (k := 2) (N := N_s_combined) (dvs' := []) (dus := []) (fb := W_s_combined (SP g.dk)) F sc_s_combined rfl (He.glo_ok T.X T.G (c.fact (f := .glo "combined") (List.mem_of_getElem? (i := 17) rfl))) (FunD.bindsN (ps := ["p", "a", "b", "x"]) F fun _ _ _ _ _ _ us hl => match us, hl with | [_, _, _, _], _ => rfl) .nil (fun _ _ => rfl) mono_sp_combined (fun cd A outer s H E xp hr => bd_s_combined (SP g.dk) (fx_ok T) (ok_s_trimmed T) cd A outer s H E xp hr) pl_combined
theorem ok_s_sum_of (T : Tld g h l) : FnG g 4 "sum_of" 3 [] (SP g.dk).s_sum_of := by
  have c := T.c
  obtain ⟨fd, F⟩ := c.def_ 18 (d := d_s_sum_of) rfl
  exact FnG.of (k := 3) (N := N_s_sum_of) (dvs' := []) (dus := []) (fb := W_s_sum_of (SP g.dk)) F sc_s_sum_of rfl (He.glo_ok T.X T.G (c.fact (f := .glo "sum_of") (List.mem_of_getElem? (i := 18) rfl))) (FunD.bindsN (ps := ["p", "a", "b"]) F fun _ _ _ _ _ _ us hl => match us, hl with | [_, _, _], _ => rfl) .nil (fun _ _ => rfl) mono_sp_sum_of (fun cd A outer s H E xp hr => bd_s_sum_of (SP g.dk) (fx_ok T) (ok_s_combined T) cd A outer s H E xp hr) pl_sum_of
theorem ok_s_product (T : Tld g h l) : FnG g 3 "product" 3 [] (SP g.dk).s_product := by
  have c := T.c
  obtain ⟨fd, F⟩ := c.def_ 19 (d := d_s_product) rfl
  exact FnG.of (k := 2) (N := N_s_product) (dvs' := []) (dus := []) (fb := W_s_product (SP g.dk)) F sc_s_product rfl (He.glo_ok T.X T.G (c.fact (f := .glo "product") (List.mem_of_getElem? (i := 19) rfl))) (FunD.bindsN (ps := ["p", "a", "b"]) F fun _ _ _ _ _ _ us hl => match us, hl with | [_, _, _], _ => rfl) .nil (fun _ _ => rfl) mono_sp_product (fun cd A outer s H E xp hr => bd_s_product (SP g.dk) (fx_ok T) (ok_s_trimmed T) cd A outer s H E xp hr) pl_product
theorem ok_s_slope (T : Tld g h l) : FnG g 3 "slope" 2 [] (SP g.dk).s_slope := by
  have c := T.c
  obtain ⟨fd, F⟩ := c.def_ 20 (d := d_s_slope) rfl
  exact FnG.of (k := 2) (N := N_s_slope) (dvs' := []) (dus := []) (fb := W_s_slope (SP g.dk)) F sc_s_slope rfl (He.glo_ok T.X T.G (c.fact (f := .glo "slope") (List.mem_of_getElem? (i := 20) rfl))) (FunD.bindsN (ps := ["p", "a"]) F fun _ _ _ _ _ _ us hl => match us, hl with | [_, _], _ => rfl) .nil (fun _ _ => rfl) mono_sp_slope (fun cd A outer s H E xp hr => bd_s_slope (SP g.dk) (fx_ok T) (ok_s_trimmed T) cd A outer s H E xp hr) pl_slope
theorem ok_s_value_at (T : Tld g h l) : FnG g 2 "value_at" 3 [] (SP g.dk).s_value_at := by
  have c := T.c
  obtain ⟨fd, F⟩ := c.def_ 21 (d := d_s_value_at) rfl
  exact FnG.of (k := 1) (N := N_s_value_at) (dvs' := []) (dus := []) (fb := W_s_value_at (SP g.dk)) F sc_s_value_at rfl (He.glo_ok T.X T.G (c.fact (f := .glo "value_at") (List.mem_of_getElem? (i := 21) rfl))) (FunD.bindsN (ps := ["p", "a", "x"]) F fun _ _ _ _ _ _ us hl => match us, hl with | [_, _, _], _ => rfl) .nil (fun _ _ => rfl) mono_sp_value_at (fun cd A outer s H E xp hr => bd_s_value_at (SP g.dk) (fx_ok T)  cd A outer s H E xp hr) pl_value_at
theorem ok_s_put_in (T : Tld g h l) : FnG g 5 "put_in" 3 [] (SP g.dk).s_put_in := by
  have c := T.c
  obtain ⟨fd, F⟩ := c.def_ 22 (d := d_s_put_in) rfl
  exact FnG.of (k := 4) (N := N_s_put_in) (dvs' := []) (dus := []) (fb := W_s_put_in (SP g.dk)) F sc_s_put_in rfl (He.glo_ok T.X T.G (c.fact (f := .glo "put_in") (List.mem_of_getElem? (i := 22) rfl))) (FunD.bindsN (ps := ["p", "a", "b"]) F fun _ _ _ _ _ _ us hl => match us, hl with | [_, _, _], _ => rfl) .nil (fun _ _ => rfl) mono_sp_put_in (fun cd A outer s H E xp hr => bd_s_put_in (SP g.dk) (fx_ok T) (ok_s_product T) (ok_s_trimmed T) (ok_s_sum_of T) cd A outer s H E xp hr) pl_put_in
theorem ok_s_divided (T : Tld g h l) : FnG g 3 "divided" 3 [] (SP g.dk).s_divided := by
  have c := T.c
  obtain ⟨fd, F⟩ := c.def_ 23 (d := d_s_divided) rfl
  exact FnG.of (k := 2) (N := N_s_divided) (dvs' := []) (dus := []) (fb := W_s_divided (SP g.dk)) F sc_s_divided rfl (He.glo_ok T.X T.G (c.fact (f := .glo "divided") (List.mem_of_getElem? (i := 23) rfl))) (FunD.bindsN (ps := ["p", "a", "b"]) F fun _ _ _ _ _ _ us hl => match us, hl with | [_, _, _], _ => rfl) .nil (fun _ _ => rfl) mono_sp_divided (fun cd A outer s H E xp hr => bd_s_divided (SP g.dk) (fx_ok T) (ok_s_inverse T) (ok_s_trimmed T) cd A outer s H E xp hr) pl_divided
theorem ok_s_remainder (T : Tld g h l) : FnG g 4 "remainder" 3 [] (SP g.dk).s_remainder := by
  have c := T.c
  obtain ⟨fd, F⟩ := c.def_ 24 (d := d_s_remainder) rfl
  exact FnG.of (k := 3) (N := N_s_remainder) (dvs' := []) (dus := []) (fb := W_s_remainder (SP g.dk)) F sc_s_remainder rfl (He.glo_ok T.X T.G (c.fact (f := .glo "remainder") (List.mem_of_getElem? (i := 24) rfl))) (FunD.bindsN (ps := ["p", "a", "b"]) F fun _ _ _ _ _ _ us hl => match us, hl with | [_, _, _], _ => rfl) .nil (fun _ _ => rfl) mono_sp_remainder (fun cd A outer s H E xp hr => bd_s_remainder (SP g.dk) (fx_ok T) (ok_s_divided T) cd A outer s H E xp hr) pl_remainder
theorem ok_s_common (T : Tld g h l) : FnG g 5 "common" 3 [] (SP g.dk).s_common := by
  have c := T.c
  obtain ⟨fd, F⟩ := c.def_ 25 (d := d_s_common) rfl
  exact FnG.of (k := 4) (N := N_s_common) (dvs' := []) (dus := []) (fb := W_s_common (SP g.dk)) F sc_s_common rfl (He.glo_ok T.X T.G (c.fact (f := .glo "common") (List.mem_of_getElem? (i := 25) rfl))) (FunD.bindsN (ps := ["p", "a", "b"]) F fun _ _ _ _ _ _ us hl => match us, hl with | [_, _, _], _ => rfl) .nil (fun _ _ => rfl) mono_sp_common (fun cd A outer s H E xp hr => bd_s_common (SP g.dk) (fx_ok T) (ok_s_remainder T) (ok_s_monic T) cd A outer s H E xp hr) pl_common
theorem ok_s_power_modulo (T : Tld g h l) : FnG g 5 "power_modulo" 4 [] (SP g.dk).s_power_modulo := by
  have c := T.c
  obtain ⟨fd, F⟩ := c.def_ 26 (d := d_s_power_modulo) rfl
  exact FnG.of (k := 4) (N := N_s_power_modulo) (dvs' := []) (dus := []) (fb := W_s_power_modulo (SP g.dk)) F sc_s_power_modulo rfl (He.glo_ok T.X T.G (c.fact (f := .glo "power_modulo") (List.mem_of_getElem? (i := 26) rfl))) (FunD.bindsN (ps := ["p", "a", "e", "m"]) F fun _ _ _ _ _ _ us hl => match us, hl with | [_, _, _, _], _ => rfl) .nil (fun _ _ => rfl) mono_sp_power_modulo (fun cd A outer s H E xp hr => bd_s_power_modulo (SP g.dk) (fx_ok T) (ok_s_remainder T) (ok_s_product T) cd A outer s H E xp hr) pl_power_modulo
theorem ok_s_prime_polynomials (T : Tld g h l) : FnG g 4 "prime_polynomials" 2 [] (SP g.dk).s_prime_polynomials := by
  have c := T.c
  obtain ⟨fd, F⟩ := c.def_ 27 (d := d_s_prime_polynomials) rfl
  exact FnG.of (k := 3) (N := N_s_prime_polynomials) (dvs' := []) (dus := []) (fb := W_s_prime_polynomials (SP g.dk)) F sc_s_prime_polynomials rfl (He.glo_ok T.X T.G (c.fact (f := .glo "prime_polynomials") (List.mem_of_getElem? (i := 27) rfl))) (FunD.bindsN (ps := ["p", "m"]) F fun _ _ _ _ _ _ us hl => match us, hl with | [_, _], _ => rfl) .nil (fun _ _ => rfl) mono_sp_prime_polynomials (fun cd A outer s H E xp hr => bd_s_prime_polynomials (SP g.dk) (fx_ok T) (ok_s_raised T) (ok_s_of_index T) (ok_s_product T) (ok_s_index T) cd A outer s H E xp hr) pl_prime_polynomials
theorem ok_s_any_root (T : Tld g h l) : FnG g 6 "any_root" 3 [] (SP g.dk).s_any_root := by
  have c := T.c
  obtain ⟨fd, F⟩ := c.def_ 28 (d := d_s_any_root) rfl
  exact FnG.of (k := 5) (N := N_s_any_root) (dvs' := []) (dus := []) (fb := W_s_any_root (SP g.dk)) F sc_s_any_root rfl (He.glo_ok T.X T.G (c.fact (f := .glo "any_root") (List.mem_of_getElem? (i := 28) rfl))) (FunD.bindsN (ps := ["p", "a", "m"]) F fun _ _ _ _ _ _ us hl => match us, hl with | [_, _, _], _ => rfl) .nil (fun _ _ => rfl) mono_sp_any_root (fun cd A outer s H E xp hr => bd_s_any_root (SP g.dk) (fx_ok T) (ok_s_degree T) (ok_s_raised T) (ok_s_power_modulo T) (ok_s_of_index T) (ok_s_product T) (ok_s_remainder T) cd A outer s H E xp hr) pl_any_root
theorem ok_s_root_modulo (T : Tld g h l) : FnG g 7 "root_modulo" 3 [] (SP g.dk).s_root_modulo := by
  have c := T.c
  obtain ⟨fd, F⟩ := c.def_ 29 (d := d_s_root_modulo) rfl
  exact FnG.of (k := 6) (N := N_s_root_modulo) (dvs' := []) (dus := []) (fb := W_s_root_modulo (SP g.dk)) F sc_s_root_modulo rfl (He.glo_ok T.X T.G (c.fact (f := .glo "root_modulo") (List.mem_of_getElem? (i := 29) rfl))) (FunD.bindsN (ps := ["p", "a", "m"]) F fun _ _ _ _ _ _ us hl => match us, hl with | [_, _, _], _ => rfl) .nil (fun _ _ => rfl) mono_sp_root_modulo (fun cd A outer s H E xp hr => bd_s_root_modulo (SP g.dk) (fx_ok T) (ok_s_remainder T) (ok_s_degree T) (ok_s_raised T) (ok_s_power_modulo T) (ok_s_any_root T) (ok_s_scaled T) (ok_s_index T) cd A outer s H E xp hr) pl_root_modulo
theorem ok_p_p (T : Tld g h l) : PropG g 2 0 "p" (SP g.dk).p_p := by
  have c := T.c
  have e := exs c
  obtain ⟨fd, F⟩ := c.def_ 30 (d := d_p_p) rfl
  refine ⟨mono_pp_p, _, _, fd, ["self"], by rw [T.A0]; exact propB_ok e.2.2.1, fnok_of (k := 1) (N := N_p_p) (fb := W_p_p (SP g.dk)) F sc_p_p rfl (fun cd A outer s H E xp hr => bd_p_p (SP g.dk) (fx_ok T)  cd A outer s H E xp hr) pl_p, (FunD.bindsN (ps := ["self"]) F fun _ _ _ _ _ _ us hl => match us, hl with | [_], _ => rfl)⟩
theorem ok_p_f (T : Tld g h l) : PropG g 2 0 "f" (SP g.dk).p_f := by
  have c := T.c
  have e := exs c
  obtain ⟨fd, F⟩ := c.def_ 31 (d := d_p_f) rfl
  refine ⟨mono_pp_f, _, _, fd, ["self"], by rw [T.A0]; exact propB_ok e.2.2.2.1, fnok_of (k := 1) (N := N_p_f) (fb := W_p_f (SP g.dk)) F sc_p_f rfl (fun cd A outer s H E xp hr => bd_p_f (SP g.dk) (fx_ok T)  cd A outer s H E xp hr) pl_f, (FunD.bindsN (ps := ["self"]) F fun _ _ _ _ _ _ us hl => match us, hl with | [_], _ => rfl)⟩
theorem ok_s_kind_over (T : Tld g h l) : FnG g 8 "kind_over" 2 [] (SP g.dk).s_kind_over := by
  have c := T.c
  obtain ⟨fd, F⟩ := c.def_ 32 (d := d_s_kind_over) rfl
  exact FnG.of (k := 7) (N := N_s_kind_over) (dvs' := []) (dus := []) (fb := W_s_kind_over (SP g.dk)) F sc_s_kind_over rfl (He.glo_ok T.X T.G (c.fact (f := .glo "kind_over") (List.mem_of_getElem? (i := 30) rfl))) (FunD.bindsN (ps := ["curve", "part"]) F fun _ _ _ _ _ _ us hl => match us, hl with | [_, _], _ => rfl) .nil (fun _ _ => rfl) mono_sp_kind_over (fun cd A outer s H E xp hr => bd_s_kind_over (SP g.dk) (fx_ok T) (ok_p_p T) (ok_p_f T) (ok_s_remainder T) (ok_s_root_modulo T) cd A outer s H E xp hr) pl_kind_over
theorem ok_s_places_over (T : Tld g h l) : FnG g 9 "places_over" 2 [] (SP g.dk).s_places_over := by
  have c := T.c
  obtain ⟨fd, F⟩ := c.def_ 33 (d := d_s_places_over) rfl
  exact FnG.of (k := 8) (N := N_s_places_over) (dvs' := []) (dus := []) (fb := W_s_places_over (SP g.dk)) F sc_s_places_over rfl (He.glo_ok T.X T.G (c.fact (f := .glo "places_over") (List.mem_of_getElem? (i := 31) rfl))) (FunD.bindsN (ps := ["curve", "part"]) F fun _ _ _ _ _ _ us hl => match us, hl with | [_, _], _ => rfl) .nil (fun _ _ => rfl) mono_sp_places_over (fun cd A outer s H E xp hr => bd_s_places_over (SP g.dk) (fx_ok T) (ok_s_kind_over T) (ok_p_p T) (ok_s_scaled T) cd A outer s H E xp hr) pl_places_over
theorem ok_s_places (T : Tld g h l) : FnG g 10 "places" 2 [] (SP g.dk).s_places := by
  have c := T.c
  obtain ⟨fd, F⟩ := c.def_ 34 (d := d_s_places) rfl
  exact FnG.of (k := 9) (N := N_s_places) (dvs' := []) (dus := []) (fb := W_s_places (SP g.dk)) F sc_s_places rfl (He.glo_ok T.X T.G (c.fact (f := .glo "places") (List.mem_of_getElem? (i := 32) rfl))) (FunD.bindsN (ps := ["curve", "d"]) F fun _ _ _ _ _ _ us hl => match us, hl with | [_, _], _ => rfl) .nil (fun _ _ => rfl) mono_sp_places (fun cd A outer s H E xp hr => bd_s_places (SP g.dk) (fx_ok T) (ok_p_p T) (ok_s_raised T) (ok_s_prime_polynomials T) (ok_s_kind_over T) (ok_s_places_over T) cd A outer s H E xp hr) pl_places
theorem ok_s_place_count (T : Tld g h l) : FnG g 11 "place_count" 2 [] (SP g.dk).s_place_count := by
  have c := T.c
  obtain ⟨fd, F⟩ := c.def_ 35 (d := d_s_place_count) rfl
  exact FnG.of (k := 10) (N := N_s_place_count) (dvs' := []) (dus := []) (fb := W_s_place_count (SP g.dk)) F sc_s_place_count rfl (He.glo_ok T.X T.G (c.fact (f := .glo "place_count") (List.mem_of_getElem? (i := 33) rfl))) (FunD.bindsN (ps := ["curve", "d"]) F fun _ _ _ _ _ _ us hl => match us, hl with | [_, _], _ => rfl) .nil (fun _ _ => rfl) mono_sp_place_count (fun cd A outer s H E xp hr => bd_s_place_count (SP g.dk) (fx_ok T) (ok_s_places T) cd A outer s H E xp hr) pl_place_count
theorem ok_s_zeros_of (T : Tld g h l) : FnG g 4 "zeros_of" 1 [] (SP g.dk).s_zeros_of := by
  have c := T.c
  obtain ⟨fd, F⟩ := c.def_ 36 (d := d_s_zeros_of) rfl
  exact FnG.of (k := 3) (N := N_s_zeros_of) (dvs' := []) (dus := []) (fb := W_s_zeros_of (SP g.dk)) F sc_s_zeros_of rfl (He.glo_ok T.X T.G (c.fact (f := .glo "zeros_of") (List.mem_of_getElem? (i := 34) rfl))) (FunD.bindsN (ps := ["curve"]) F fun _ _ _ _ _ _ us hl => match us, hl with | [_], _ => rfl) .nil (fun _ _ => rfl) mono_sp_zeros_of (fun cd A outer s H E xp hr => bd_s_zeros_of (SP g.dk) (fx_ok T) (ok_p_p T) (ok_p_f T) (ok_s_value_at T) cd A outer s H E xp hr) pl_zeros_of
theorem ok_s_turned_numbers (T : Tld g h l) : FnG g 2 "turned_numbers" 3 [] (SP g.dk).s_turned_numbers := by
  have c := T.c
  obtain ⟨fd, F⟩ := c.def_ 37 (d := d_s_turned_numbers) rfl
  exact FnG.of (k := 1) (N := N_s_turned_numbers) (dvs' := []) (dus := []) (fb := W_s_turned_numbers (SP g.dk)) F sc_s_turned_numbers rfl (He.glo_ok T.X T.G (c.fact (f := .glo "turned_numbers") (List.mem_of_getElem? (i := 35) rfl))) (FunD.bindsN (ps := ["p", "row", "k"]) F fun _ _ _ _ _ _ us hl => match us, hl with | [_, _, _], _ => rfl) .nil (fun _ _ => rfl) mono_sp_turned_numbers (fun cd A outer s H E xp hr => bd_s_turned_numbers (SP g.dk) (fx_ok T)  cd A outer s H E xp hr) pl_turned_numbers
theorem ok_s_ways (T : Tld g h l) : FnG g 3 "ways" 3 [] (SP g.dk).s_ways := by
  have c := T.c
  obtain ⟨fd, F⟩ := c.def_ 38 (d := d_s_ways) rfl
  exact FnG.of (k := 2) (N := N_s_ways) (dvs' := []) (dus := []) (fb := W_s_ways (SP g.dk)) F sc_s_ways rfl (He.glo_ok T.X T.G (c.fact (f := .glo "ways") (List.mem_of_getElem? (i := 36) rfl))) (FunD.bindsN (ps := ["p", "left", "right"]) F fun _ _ _ _ _ _ us hl => match us, hl with | [_, _, _], _ => rfl) .nil (fun _ _ => rfl) mono_sp_ways (fun cd A outer s H E xp hr => bd_s_ways (SP g.dk) (fx_ok T) (ok_s_inverse T) (ok_s_root T) cd A outer s H E xp hr) pl_ways
theorem ok_s_plain_turns (T : Tld g h l) : FnG g 6 "plain_turns" 2 [] (SP g.dk).s_plain_turns := by
  have c := T.c
  obtain ⟨fd, F⟩ := c.def_ 39 (d := d_s_plain_turns) rfl
  exact FnG.of (k := 5) (N := N_s_plain_turns) (dvs' := []) (dus := []) (fb := W_s_plain_turns (SP g.dk)) F sc_s_plain_turns rfl (He.glo_ok T.X T.G (c.fact (f := .glo "plain_turns") (List.mem_of_getElem? (i := 37) rfl))) (FunD.bindsN (ps := ["first", "second"]) F fun _ _ _ _ _ _ us hl => match us, hl with | [_, _], _ => rfl) .nil (fun _ _ => rfl) mono_sp_plain_turns (fun cd A outer s H E xp hr => bd_s_plain_turns (SP g.dk) (fx_ok T) (ok_p_p T) (ok_p_f T) (ok_s_trimmed T) (ok_s_put_in T) (ok_s_turned_numbers T) (ok_s_ways T) cd A outer s H E xp hr) pl_plain_turns
theorem ok_s_other_turns (T : Tld g h l) : FnG g 6 "other_turns" 2 [] (SP g.dk).s_other_turns := by
  have c := T.c
  obtain ⟨fd, F⟩ := c.def_ 40 (d := d_s_other_turns) rfl
  exact FnG.of (k := 5) (N := N_s_other_turns) (dvs' := []) (dus := []) (fb := W_s_other_turns (SP g.dk)) F sc_s_other_turns rfl (He.glo_ok T.X T.G (c.fact (f := .glo "other_turns") (List.mem_of_getElem? (i := 38) rfl))) (FunD.bindsN (ps := ["first", "second"]) F fun _ _ _ _ _ _ us hl => match us, hl with | [_, _], _ => rfl) .nil (fun _ _ => rfl) mono_sp_other_turns (fun cd A outer s H E xp hr => bd_s_other_turns (SP g.dk) (fx_ok T) (ok_p_p T) (ok_s_zeros_of T) (ok_p_f T) (ok_s_trimmed T) (ok_s_put_in T) (ok_s_turned_numbers T) (ok_s_ways T) cd A outer s H E xp hr) pl_other_turns
theorem ok_p_genus (T : Tld g h l) : PropG g 3 0 "genus" (SP g.dk).p_genus := by
  have c := T.c
  have e := exs c
  obtain ⟨fd, F⟩ := c.def_ 41 (d := d_p_genus) rfl
  refine ⟨mono_pp_genus, _, _, fd, ["self"], by rw [T.A0]; exact propB_ok e.2.2.2.2, fnok_of (k := 2) (N := N_p_genus) (fb := W_p_genus (SP g.dk)) F sc_p_genus rfl (fun cd A outer s H E xp hr => bd_p_genus (SP g.dk) (fx_ok T) (ok_s_degree T) cd A outer s H E xp hr) pl_genus, (FunD.bindsN (ps := ["self"]) F fun _ _ _ _ _ _ us hl => match us, hl with | [_], _ => rfl)⟩
theorem ok_s_turns (T : Tld g h l) : FnG g 7 "turns" 2 [] (SP g.dk).s_turns := by
  have c := T.c
  obtain ⟨fd, F⟩ := c.def_ 42 (d := d_s_turns) rfl
  exact FnG.of (k := 6) (N := N_s_turns) (dvs' := []) (dus := []) (fb := W_s_turns (SP g.dk)) F sc_s_turns rfl (He.glo_ok T.X T.G (c.fact (f := .glo "turns") (List.mem_of_getElem? (i := 39) rfl))) (FunD.bindsN (ps := ["first", "second"]) F fun _ _ _ _ _ _ us hl => match us, hl with | [_, _], _ => rfl) .nil (fun _ _ => rfl) mono_sp_turns (fun cd A outer s H E xp hr => bd_s_turns (SP g.dk) (fx_ok T) (ok_p_p T) (ok_p_genus T) (ok_s_plain_turns T) (ok_s_other_turns T) cd A outer s H E xp hr) pl_turns
theorem ok_s_turn_between (T : Tld g h l) : FnG g 8 "turn_between" 2 [] (SP g.dk).s_turn_between := by
  have c := T.c
  obtain ⟨fd, F⟩ := c.def_ 43 (d := d_s_turn_between) rfl
  exact FnG.of (k := 7) (N := N_s_turn_between) (dvs' := []) (dus := []) (fb := W_s_turn_between (SP g.dk)) F sc_s_turn_between rfl (He.glo_ok T.X T.G (c.fact (f := .glo "turn_between") (List.mem_of_getElem? (i := 40) rfl))) (FunD.bindsN (ps := ["first", "second"]) F fun _ _ _ _ _ _ us hl => match us, hl with | [_, _], _ => rfl) .nil (fun _ _ => rfl) mono_sp_turn_between (fun cd A outer s H E xp hr => bd_s_turn_between (SP g.dk) (fx_ok T) (ok_s_turns T) cd A outer s H E xp hr) pl_turn_between
theorem ok_m_Curve (T : Tld g h l) : MkG g 6 "Curve" 0 2 (SP g.dk).m_Curve := by
  have c := T.c
  obtain ⟨fd, F⟩ := c.def_ 44 (d := d_m_Curve) rfl
  have X := T.X
  have G := T.G
  refine ⟨mono_sp_make, obj_m_Curve, by rw [T.A0]; exact He.glo_ok X G (c.fact (f := .glo "Curve") (List.mem_of_getElem? (i := 74) rfl)), _, fd, ["self", "p", "f"], by rw [T.A0]; exact He.mkr_ok (c.fact (f := .mkr "Curve") (List.mem_of_getElem? (i := 76) rfl)), init2_of (k := 5) (w1 := W1_m_Curve (SP g.dk)) (w2 := W2_m_Curve (SP g.dk)) F (by rfl) sc_m_Curve (cls_Curve T) (by decide) (by decide) (by decide) (by decide) (fun cd A outer s H E xp hr => bd_m_Curve (SP g.dk) (fx_ok T) (ok_s_is_prime T) (ok_s_is_polynomial T) (ok_s_degree T) (ok_s_slope T) (ok_s_common T) cd A outer s H E xp hr) (fun _ _ _ _ _ _ => ⟨rfl, rfl⟩) (fun y p x K E h => pl_make y p x K E h), (FunD.bindsN (ps := ["self", "p", "f"]) F fun _ _ _ _ _ _ us hl => match us, hl with | [_, _, _], _ => rfl)⟩
theorem ok_s_twin (T : Tld g h l) : FnG g 8 "twin" 1 [] (SP g.dk).s_twin := by
  have c := T.c
  obtain ⟨fd, F⟩ := c.def_ 45 (d := d_s_twin) rfl
  exact FnG.of (k := 7) (N := N_s_twin) (dvs' := []) (dus := []) (fb := W_s_twin (SP g.dk)) F sc_s_twin rfl (He.glo_ok T.X T.G (c.fact (f := .glo "twin") (List.mem_of_getElem? (i := 41) rfl))) (FunD.bindsN (ps := ["curve"]) F fun _ _ _ _ _ _ us hl => match us, hl with | [_], _ => rfl) .nil (fun _ _ => rfl) mono_sp_twin (fun cd A outer s H E xp hr => bd_s_twin (SP g.dk) (fx_ok T) (ok_p_p T) (ok_s_root T) (ok_p_f T) (ok_s_scaled T) (ok_m_Curve T) cd A outer s H E xp hr) pl_twin
theorem ok_s_list_made (T : Tld g h l) : FnG g 3 "list_made" 2 [] (SP g.dk).s_list_made := by
  have c := T.c
  obtain ⟨fd, F⟩ := c.def_ 46 (d := d_s_list_made) rfl
  exact FnG.of (k := 2) (N := N_s_list_made) (dvs' := []) (dus := []) (fb := W_s_list_made (SP g.dk)) F sc_s_list_made rfl (He.glo_ok T.X T.G (c.fact (f := .glo "list_made") (List.mem_of_getElem? (i := 42) rfl))) (FunD.bindsN (ps := ["q", "counts"]) F fun _ _ _ _ _ _ us hl => match us, hl with | [_, _], _ => rfl) .nil (fun _ _ => rfl) mono_sp_list_made (fun cd A outer s H E xp hr => bd_s_list_made (SP g.dk) (fx_ok T) (ok_s_raised T) cd A outer s H E xp hr) pl_list_made
theorem ok_s_counts_of (T : Tld g h l) : FnG g 3 "counts_of" 3 [] (SP g.dk).s_counts_of := by
  have c := T.c
  obtain ⟨fd, F⟩ := c.def_ 47 (d := d_s_counts_of) rfl
  exact FnG.of (k := 2) (N := N_s_counts_of) (dvs' := []) (dus := []) (fb := W_s_counts_of (SP g.dk)) F sc_s_counts_of rfl (He.glo_ok T.X T.G (c.fact (f := .glo "counts_of") (List.mem_of_getElem? (i := 43) rfl))) (FunD.bindsN (ps := ["p", "items", "most"]) F fun _ _ _ _ _ _ us hl => match us, hl with | [_, _, _], _ => rfl) .nil (fun _ _ => rfl) mono_sp_counts_of (fun cd A outer s H E xp hr => bd_s_counts_of (SP g.dk) (fx_ok T) (ok_s_raised T) cd A outer s H E xp hr) pl_counts_of
theorem ok_s_list_over (T : Tld g h l) : FnG g 4 "list_over" 3 [] (SP g.dk).s_list_over := by
  have c := T.c
  obtain ⟨fd, F⟩ := c.def_ 48 (d := d_s_list_over) rfl
  exact FnG.of (k := 3) (N := N_s_list_over) (dvs' := []) (dus := []) (fb := W_s_list_over (SP g.dk)) F sc_s_list_over rfl (He.glo_ok T.X T.G (c.fact (f := .glo "list_over") (List.mem_of_getElem? (i := 44) rfl))) (FunD.bindsN (ps := ["p", "items", "n"]) F fun _ _ _ _ _ _ us hl => match us, hl with | [_, _, _], _ => rfl) .nil (fun _ _ => rfl) mono_sp_list_over (fun cd A outer s H E xp hr => bd_s_list_over (SP g.dk) (fx_ok T) (ok_s_counts_of T) (ok_s_raised T) (ok_s_list_made T) cd A outer s H E xp hr) pl_list_over
theorem ok_s_check_size (T : Tld g h l) : FnG g 5 "check_size" 1 [] (SP g.dk).s_check_size := by
  have c := T.c
  obtain ⟨fd, F⟩ := c.def_ 49 (d := d_s_check_size) rfl
  exact FnG.of (k := 4) (N := N_s_check_size) (dvs' := []) (dus := []) (fb := W_s_check_size (SP g.dk)) F sc_s_check_size rfl (He.glo_ok T.X T.G (c.fact (f := .glo "check_size") (List.mem_of_getElem? (i := 45) rfl))) (FunD.bindsN (ps := ["curve"]) F fun _ _ _ _ _ _ us hl => match us, hl with | [_], _ => rfl) .nil (fun _ _ => rfl) mono_sp_check_size (fun cd A outer s H E xp hr => bd_s_check_size (SP g.dk) (fx_ok T) (ok_p_p T) (ok_p_genus T) (ok_s_raised T) cd A outer s H E xp hr) pl_check_size
theorem ok_s_sign_of_number (T : Tld g h l) : FnG g 2 "sign_of_number" 2 [] (SP g.dk).s_sign_of_number := by
  have c := T.c
  obtain ⟨fd, F⟩ := c.def_ 50 (d := d_s_sign_of_number) rfl
  exact FnG.of (k := 1) (N := N_s_sign_of_number) (dvs' := []) (dus := []) (fb := W_s_sign_of_number (SP g.dk)) F sc_s_sign_of_number rfl (He.glo_ok T.X T.G (c.fact (f := .glo "sign_of_number") (List.mem_of_getElem? (i := 46) rfl))) (FunD.bindsN (ps := ["p", "x"]) F fun _ _ _ _ _ _ us hl => match us, hl with | [_, _], _ => rfl) .nil (fun _ _ => rfl) mono_sp_sign_of_number (fun cd A outer s H E xp hr => bd_s_sign_of_number (SP g.dk) (fx_ok T)  cd A outer s H E xp hr) pl_sign_of_number
theorem ok_s_sign_at (T : Tld g h l) : FnG g 5 "sign_at" 3 [] (SP g.dk).s_sign_at := by
  have c := T.c
  obtain ⟨fd, F⟩ := c.def_ 51 (d := d_s_sign_at) rfl
  exact FnG.of (k := 4) (N := N_s_sign_at) (dvs' := []) (dus := []) (fb := W_s_sign_at (SP g.dk)) F sc_s_sign_at rfl (He.glo_ok T.X T.G (c.fact (f := .glo "sign_at") (List.mem_of_getElem? (i := 47) rfl))) (FunD.bindsN (ps := ["p", "a", "m"]) F fun _ _ _ _ _ _ us hl => match us, hl with | [_, _, _], _ => rfl) .nil (fun _ _ => rfl) mono_sp_sign_at (fun cd A outer s H E xp hr => bd_s_sign_at (SP g.dk) (fx_ok T) (ok_s_remainder T) (ok_s_degree T) (ok_s_sign_of_number T) (ok_s_inverse T) (ok_s_scaled T) cd A outer s H E xp hr) pl_sign_at
theorem ok_s_points_counted (T : Tld g h l) : FnG g 6 "points_counted" 2 [] (SP g.dk).s_points_counted := by
  have c := T.c
  obtain ⟨fd, F⟩ := c.def_ 52 (d := d_s_points_counted) rfl
  exact FnG.of (k := 5) (N := N_s_points_counted) (dvs' := []) (dus := []) (fb := W_s_points_counted (SP g.dk)) F sc_s_points_counted rfl (He.glo_ok T.X T.G (c.fact (f := .glo "points_counted") (List.mem_of_getElem? (i := 48) rfl))) (FunD.bindsN (ps := ["curve", "n"]) F fun _ _ _ _ _ _ us hl => match us, hl with | [_, _], _ => rfl) .nil (fun _ _ => rfl) mono_sp_points_counted (fun cd A outer s H E xp hr => bd_s_points_counted (SP g.dk) (fx_ok T) (ok_s_divisors T) (ok_p_p T) (ok_s_prime_polynomials T) (ok_p_f T) (ok_s_sign_at T) cd A outer s H E xp hr) pl_points_counted
theorem ok_s_curve_polynomial (T : Tld g h l) : FnG g 7 "curve_polynomial" 1 [] (SP g.dk).s_curve_polynomial := by
  have c := T.c
  obtain ⟨fd, F⟩ := c.def_ 53 (d := d_s_curve_polynomial) rfl
  exact FnG.of (k := 6) (N := N_s_curve_polynomial) (dvs' := []) (dus := []) (fb := W_s_curve_polynomial (SP g.dk)) F sc_s_curve_polynomial rfl (He.glo_ok T.X T.G (c.fact (f := .glo "curve_polynomial") (List.mem_of_getElem? (i := 49) rfl))) (FunD.bindsN (ps := ["curve"]) F fun _ _ _ _ _ _ us hl => match us, hl with | [_], _ => rfl) .nil (fun _ _ => rfl) mono_sp_curve_polynomial (fun cd A outer s H E xp hr => bd_s_curve_polynomial (SP g.dk) (fx_ok T) (ok_s_check_size T) (ok_p_p T) (ok_p_genus T) (ok_s_points_counted T) (ok_s_list_made T) cd A outer s H E xp hr) pl_curve_polynomial
theorem ok_s_class_count (T : Tld g h l) : FnG g 8 "class_count" 2 [] (SP g.dk).s_class_count := by
  have c := T.c
  obtain ⟨fd, F⟩ := c.def_ 54 (d := d_s_class_count) rfl
  exact FnG.of (k := 7) (N := N_s_class_count) (dvs' := []) (dus := []) (fb := W_s_class_count (SP g.dk)) F sc_s_class_count rfl (He.glo_ok T.X T.G (c.fact (f := .glo "class_count") (List.mem_of_getElem? (i := 50) rfl))) (FunD.bindsN (ps := ["curve", "n"]) F fun _ _ _ _ _ _ us hl => match us, hl with | [_, _], _ => rfl) .nil (fun _ _ => rfl) mono_sp_class_count (fun cd A outer s H E xp hr => bd_s_class_count (SP g.dk) (fx_ok T) (ok_p_p T) (ok_s_curve_polynomial T) (ok_s_list_over T) cd A outer s H E xp hr) pl_class_count
theorem ok_s__law_is (T : Tld g h l) : FnGR g 2 "_law_is" 2 [] (SP g.dk).s__law_is := by
  have c := T.c
  obtain ⟨fd, F⟩ := c.def_ 55 (d := d_s__law_is) rfl
  exact FnGR.of (k := 1) (N := N_s__law_is) (dvs' := []) (dus := []) (fb := W_s__law_is (SP g.dk)) F sc_s__law_is rfl (He.glo_ok T.X T.G (c.fact (f := .glo "_law_is") (List.mem_of_getElem? (i := 51) rfl))) (FunD.bindsN (ps := ["value", "due"]) F fun _ _ _ _ _ _ us hl => match us, hl with | [_, _], _ => rfl) .nil (fun _ _ => rfl) mono_sp__law_is (fun cd A outer s H E xp hgd hr => bd_s__law_is (SP g.dk) (fx_ok T)  cd A outer s H E xp hgd hr) pl__law_is
theorem ok_s__law_trim (T : Tld g h l) : FnG g 2 "_law_trim" 2 [] (SP g.dk).s__law_trim := by
  have c := T.c
  obtain ⟨fd, F⟩ := c.def_ 56 (d := d_s__law_trim) rfl
  exact FnG.of (k := 1) (N := N_s__law_trim) (dvs' := []) (dus := []) (fb := W_s__law_trim (SP g.dk)) F sc_s__law_trim rfl (He.glo_ok T.X T.G (c.fact (f := .glo "_law_trim") (List.mem_of_getElem? (i := 52) rfl))) (FunD.bindsN (ps := ["p", "items"]) F fun _ _ _ _ _ _ us hl => match us, hl with | [_, _], _ => rfl) .nil (fun _ _ => rfl) mono_sp_trimmed (fun cd A outer s H E xp hr => bd_s__law_trim (SP g.dk) (fx_ok T)  cd A outer s H E xp hr) pl__law_trim
theorem ok_s__law_inv (T : Tld g h l) : FnG g 2 "_law_inv" 2 [] (SP g.dk).s__law_inv := by
  have c := T.c
  obtain ⟨fd, F⟩ := c.def_ 57 (d := d_s__law_inv) rfl
  exact FnG.of (k := 1) (N := N_s__law_inv) (dvs' := []) (dus := []) (fb := W_s__law_inv (SP g.dk)) F sc_s__law_inv rfl (He.glo_ok T.X T.G (c.fact (f := .glo "_law_inv") (List.mem_of_getElem? (i := 53) rfl))) (FunD.bindsN (ps := ["p", "a"]) F fun _ _ _ _ _ _ us hl => match us, hl with | [_, _], _ => rfl) .nil (fun _ _ => rfl) mono_sp_inverse (fun cd A outer s H E xp hr => bd_s__law_inv (SP g.dk) (fx_ok T)  cd A outer s H E xp hr) pl__law_inv
theorem ok_s__law_div (T : Tld g h l) : FnG g 3 "_law_div" 3 [] (SP g.dk).s__law_div := by
  have c := T.c
  obtain ⟨fd, F⟩ := c.def_ 58 (d := d_s__law_div) rfl
  exact FnG.of (k := 2) (N := N_s__law_div) (dvs' := []) (dus := []) (fb := W_s__law_div (SP g.dk)) F sc_s__law_div rfl (He.glo_ok T.X T.G (c.fact (f := .glo "_law_div") (List.mem_of_getElem? (i := 54) rfl))) (FunD.bindsN (ps := ["p", "a", "b"]) F fun _ _ _ _ _ _ us hl => match us, hl with | [_, _, _], _ => rfl) .nil (fun _ _ => rfl) mono_sp_divided (fun cd A outer s H E xp hr => bd_s__law_div (SP g.dk) (fx_ok T) (ok_s__law_inv T) (ok_s__law_trim T) cd A outer s H E xp hr) pl__law_div
theorem ok_s__law_common (T : Tld g h l) : FnG g 4 "_law_common" 3 [] (SP g.dk).s__law_common := by
  have c := T.c
  obtain ⟨fd, F⟩ := c.def_ 59 (d := d_s__law_common) rfl
  exact FnG.of (k := 3) (N := N_s__law_common) (dvs' := []) (dus := []) (fb := W_s__law_common (SP g.dk)) F sc_s__law_common rfl (He.glo_ok T.X T.G (c.fact (f := .glo "_law_common") (List.mem_of_getElem? (i := 55) rfl))) (FunD.bindsN (ps := ["p", "a", "b"]) F fun _ _ _ _ _ _ us hl => match us, hl with | [_, _, _], _ => rfl) .nil (fun _ _ => rfl) mono_sp_common (fun cd A outer s H E xp hr => bd_s__law_common (SP g.dk) (fx_ok T) (ok_s__law_div T) (ok_s__law_inv T) (ok_s__law_trim T) cd A outer s H E xp hr) pl__law_common
theorem ok_s__law_slope (T : Tld g h l) : FnG g 3 "_law_slope" 2 [] (SP g.dk).s__law_slope := by
  have c := T.c
  obtain ⟨fd, F⟩ := c.def_ 60 (d := d_s__law_slope) rfl
  exact FnG.of (k := 2) (N := N_s__law_slope) (dvs' := []) (dus := []) (fb := W_s__law_slope (SP g.dk)) F sc_s__law_slope rfl (He.glo_ok T.X T.G (c.fact (f := .glo "_law_slope") (List.mem_of_getElem? (i := 56) rfl))) (FunD.bindsN (ps := ["p", "a"]) F fun _ _ _ _ _ _ us hl => match us, hl with | [_, _], _ => rfl) .nil (fun _ _ => rfl) mono_sp_slope (fun cd A outer s H E xp hr => bd_s__law_slope (SP g.dk) (fx_ok T) (ok_s__law_trim T) cd A outer s H E xp hr) pl__law_slope
theorem ok_s__law_f (T : Tld g h l) : FnG g 5 "_law_f" 3 [] (SP g.dk).s__law_f := by
  have c := T.c
  obtain ⟨fd, F⟩ := c.def_ 61 (d := d_s__law_f) rfl
  exact FnG.of (k := 4) (N := N_s__law_f) (dvs' := []) (dus := []) (fb := W_s__law_f (SP g.dk)) F sc_s__law_f rfl (He.glo_ok T.X T.G (c.fact (f := .glo "_law_f") (List.mem_of_getElem? (i := 57) rfl))) (FunD.bindsN (ps := ["deck", "p", "degree_v"]) F fun _ _ _ _ _ _ us hl => match us, hl with | [_, _, _], _ => rfl) .nil (fun _ _ => rfl) (mono_sp__law_f g.dk) (fun cd A outer s H E xp hr => bd_s__law_f (SP g.dk) (fx_ok T) (ok_s__law_draw T) (ok_s__law_trim T) (ok_s__law_slope T) (ok_s__law_common T) cd A outer s H E xp hr) pl__law_f
theorem ok_s__law_curve (T : Tld g h l) : FnG g 6 "_law_curve" 3 [] (SP g.dk).s__law_curve := by
  have c := T.c
  obtain ⟨fd, F⟩ := c.def_ 62 (d := d_s__law_curve) rfl
  exact FnG.of (k := 5) (N := N_s__law_curve) (dvs' := []) (dus := []) (fb := W_s__law_curve (SP g.dk)) F sc_s__law_curve rfl (He.glo_ok T.X T.G (c.fact (f := .glo "_law_curve") (List.mem_of_getElem? (i := 58) rfl))) (FunD.bindsN (ps := ["deck", "primes", "degrees"]) F fun _ _ _ _ _ _ us hl => match us, hl with | [_, _, _], _ => rfl) .nil (fun _ _ => rfl) (mono_sp__law_curve g.dk) (fun cd A outer s H E xp hr => bd_s__law_curve (SP g.dk) (fx_ok T) (ok_s__law_draw T) (ok_s__law_f T) cd A outer s H E xp hr) pl__law_curve
theorem body_law (T : Tld g h l) {f : Addr} (cd : Value) (A : Around) (outer : List PySem.Env) (s : Shared) (H : Hp) (E : XK) (xp : Exc → Prop) (hgd : A.guards = some []) (hr : Room 11 (dcx g N_s_law "law" (defScope (top 80)) f cd A outer s H E).A) : PSsD (dcx g N_s_law "law" (defScope (top 80)) f cd A outer s H E) g xp ((defBody (top 80)).drop 1) (W_s_law (SP g.dk) xp) :=
  bd_s_law (SP g.dk) (fx_ok T) (ok_s__law_curve T) (ok_m_Curve T) (ok_p_genus T) (ok_s_twin T) (ok_p_p T) (ok_p_f T) (ok_s__law_trim T) (ok_s__law_is T) (ok_s_place_count T) (ok_s__law_draw T) (ok_s_turn_between T) (ok_s_curve_polynomial T) (ok_s_class_count T) cd A outer s H E xp hgd hr
end
end K83
end
section
set_option Elab.async false
set_option linter.all false
set_option maxRecDepth 100000
set_option maxHeartbeats 0
/-! Z83: the law of the twins holds. -/
namespace K83
open PySem PySem.Spec PyProof.Rows L2 DL
def g0 (P : Program) (w : World) (K : PySem.W.Frag) (mg : Str → Option Value) (base : Heap) : Gx where
  prog := P
  w := w
  K := K
  mg := mg
  base := base
  dk := 0
  dkS := fun b => b = 0
  dkOk := fun _ => False
  dkIn := rfl
  dkSome := fun _ h => h.elim
  dkStay := fun _ _ h => h.elim
  cA := fun _ => He.ga K "Curve"
  cF := fun _ => ["_p", "_f"]
def gD (g : Gx) (p l : Addr) : Gx := { g with
  dk := p
  dkS := fun b => b = p ∨ b = l
  dkOk := fun H => DeckAt H p l
  dkIn := .inl rfl
  dkSome := fun H ⟨a, i, sd, e, ns, h1, h2, _⟩ b hb => by
    rcases hb with rfl | rfl
    · rw [h1]; exact fun z => nomatch z
    · rw [h2]; exact fun z => nomatch z
  dkStay := fun H H' ⟨a, i, sd, e, ns, h1, h2, h3⟩ hs => ⟨a, i, sd, e, ns, by rw [hs p (.inl rfl)]; exact h1, by rw [hs l (.inr rfl)]; exact h2, h3⟩ }
theorem psx {ι : Type} {X : Cx} {st : List Stmt} {t : ι → TS} (h : ∀ i, PSs X st (t i)) : PSs X st (fun D σ H => ∃ i, t i D σ H) := ⟨fun pins s σ H D I ⟨i, q⟩ => (h i).run pins s σ H D I q⟩
def spLaw (K : PySem.W.Frag) : Sp := fun vs H Q _ => ∃ (a : Addr) (ns : List Int), vs = [.ref a] ∧ SqL K H a (ns.map V.int) ∧ ∀ H', Q (.bl true) H'
section
variable {P : Program} {w : World} {K : PySem.W.Frag} {mg : Str → Option Value} {base h : Heap} {f : Addr} {fd : FuncData}
abbrev Ix : Type := { x : Addr × Addr × Hp // x.1 ≠ x.2.1 }
theorem law_run (X : K.In h) (G : h.Ns mainGlobals mg) (c : SaysP faL exL fnL K) (F : FunD K "law" "law" (defArgs (top 80)) (defBody (top 80)) (defScope (top 80)) [] [] f fd) : FnRun (g0 P w K mg base) 12 f fd ["script"] (spLaw K) := by
  obtain ⟨fdd, Fd⟩ := c.def_ 0 (d := d_s__law_deck) rfl
  refine run_of (g := g0 P w K mg base) (k := 11) (N := N_s_law) F sc_s_law (fun vs H Q E ⟨a, ns, e, _⟩ => by rw [e]; rfl) (fun cd A outer s H vs Q E hr hgd ⟨a, ns, e, hs, hQ⟩ => ?_)
  subst e
  have T : ∀ i : Ix, Tld (gD (g0 P w K mg base) i.1.1 i.1.2.1) h i.1.2.1 := fun i => ⟨X, G, c, rfl, rfl, fun H => Iff.rfl, fun b => Iff.rfl, i.2⟩
  have deck : FnOk P w K mg base (CX P w) 1 _ fdd ["script"] (spDeck K) := deck_ok (g := g0 P w K mg base) Fd (He.free_ok X G (c.fact (f := .free "list") (List.mem_of_getElem? (i := 72) rfl))) (He.free_ok X G (c.fact (f := .free "int") (List.mem_of_getElem? (i := 60) rfl)))
  refine ⟨_, pss_cons (ps_set (i := 1) sc_s_law.nd rfl (.inl rfl) (pe_call (dvs := []) (ds := []) (E := fun _ _ _ => False) deck (hr.mono (by decide)) rfl (He.glo_ok X G (c.fact (f := .glo "_law_deck") (List.mem_of_getElem? (i := 0) rfl))) Fd.kp (FunD.bindsN (ps := ["script"]) Fd fun _ _ _ _ _ _ us hl => match us, hl with | [_], _ => rfl) .nil (fun pins σ H s e s' I ⟨_, _, _, _, _, _, _, _, _, _, _, _, h⟩ => h.elim) (pa_cons (pe_var (i := 0) rfl (.inl rfl)) pa_nil)))
    (psx fun i : Ix => (body_law (T i) cd A outer s H E (fun _ => False) hgd hr).ps i.1.2.2 (fun b => b = i.1.1 ∨ b = i.1.2.1) xlink_no), ?_⟩
  refine ⟨.ref a, rfl, a, ns, rfl, hs, fun l p sd hl hp hne s0 s1 => ?_⟩
  generalize hH : upd (upd H l (.lst (ns.map V.int))) p (.lst [.int 0, .int 0, .int sd, .ref l, .int 0]) = H1
  have k1 : H1 p = some (.lst [.int 0, .int 0, .int sd, .ref l, .int 0]) := by rw [← hH]; exact upd_same
  have k2 : H1 l = some (.lst (ns.map V.int)) := by rw [← hH, upd_ne hne.symm]; exact upd_same
  refine ⟨⟨(p, l, H1), hne⟩, [.un, .sh (.adr p), .un, .un, .un, .un, .un, .un, .un, .un, .un, .un, .un, .un, .un, .un, .un, .un, .un], fun _ => none, { nx := fun _ => False, rt := fun d => d = .bl true }, ?_, ?_, pl_law⟩
  · refine ⟨rfl, fun i => ?_, fun i j a h => (nomatch h), fun i a h => (nomatch h), ExtH.refl _, ⟨0, 0, sd, 0, ns, k1, k2, by omega, by omega, s0, s1⟩, fun b hb => hb, fun b hb => ?_⟩
    · by_cases h1 : i = 1
      · subst h1
        exact ⟨rfl, _, rfl, rfl⟩
      · have : ([.un, .sh (.adr p), .un, .un, .un, .un, .un, .un, .un, .un, .un, .un, .un, .un, .un, .un, .un, .un, .un] : DL.Env).getD i .un = .un := by
          match i, h1 with
          | 0, _ => rfl
          | 1, h => exact absurd rfl h
          | i + 2, _ =>
            by_cases hi : i < 17
            · have : ∀ i ∈ List.range 17, ([.un, .sh (.adr p), .un, .un, .un, .un, .un, .un, .un, .un, .un, .un, .un, .un, .un, .un, .un, .un, .un] : DL.Env).getD (i + 2) .un = .un := by
                intro i hi
                simp [List.range, List.range.loop] at hi
                rcases hi with rfl | rfl | rfl | rfl | rfl | rfl | rfl | rfl | rfl | rfl | rfl | rfl | rfl | rfl | rfl | rfl | rfl <;> rfl
              exact this i (List.mem_range.mpr hi)
            · rw [List.getD_eq_getElem?_getD, List.getElem?_eq_none (by simp; omega)]; rfl
        rw [this]; exact rfl
    · rcases hb with rfl | rfl
      · exact fun z => by rw [k1] at z; cases z
      · exact fun z => by rw [k2] at z; cases z
  · refine ⟨fun ρ σ H own z => z.elim, fun d v H e _ _ r => ?_, fun _ _ _ _ z => z.elim, fun _ _ _ _ z => z.elim⟩
    subst e
    rw [show v = .bl true from r]
    exact hQ _
end
end K83
open PySem PySem.W PySem.Calls PyProof.Rows L2
theorem PySem.Challenge.cw_poleheaps_k83_whole_twins_holds : PySem.Challenge.rw_poleheaps_k83_whole_twins.Holds := by
  w_on; o_law
  refine HandSHeadRun.head_any (r := OpenLaw.row PySem.Challenge.rw_poleheaps_k83_whole_twins) (q := view (OpenLaw.row PySem.Challenge.rw_poleheaps_k83_whole_twins).prog [80]) (H := K83.hk) (ob := K83.ob) (M := 12000) (loose := K83.lsL) (d := HandSHeadRun.topDef (OpenLaw.row PySem.Challenge.rw_poleheaps_k83_whole_twins).prog 80) (kwd := []) K83.ob_eq
    (by kernel_rfl) (fun s => by kernel_rfl) K83.run (by kernel_rfl) (by kernel_rfl) (by kernel_rfl) (by rfl) (by first | assumption | decide +kernel) (by decide +kernel) ⟨rfl, rfl, rfl, rfl, rfl, by decide +kernel⟩ ?hw ?hc
  case hw => w_witness2
  case hc =>
    refine DL.walk_at (l := PySem.Challenge.rw_poleheaps_k83_whole_twins) (n := 63) (k := 12) (x := "script") rfl (by decide) (by kernel_rfl) ⟨rfl, by decide, by decide⟩ ?F
    intro w mg fa h Y G hmg0
    obtain ⟨K, KX, c⟩ := Y
    have hmg : mg ("law" : PySem.Str) = some (.ref fa) := by
      have e : (HandSHeadRun.topDef (OpenLaw.row PySem.Challenge.rw_poleheaps_k83_whole_twins).prog 80).name = ("law" : PySem.Str) := by kernel_rfl
      rw [← e]
      exact hmg0
    obtain ⟨fd, F⟩ := c.def_ 63 (d := K83.d_s_law) rfl
    have e := hmg.symm.trans (He.glo_ok KX G (c.fact (f := .glo "law") (List.mem_of_getElem? (i := 59) rfl)))
    cases e
    have b := L2.FunD.bindsA (ps := ["script"]) F fun _ _ _ _ _ _ us hl => match us, hl with | [_], _ => rfl
    refine ⟨K, KX, fun base hb hN => ⟨K83.g0 (PySem.Challenge.rw_poleheaps_k83_whole_twins).prog w K mg base, fd, K83.spLaw K, rfl, rfl, rfl, rfl, rfl, fun s v => b s [v] rfl, fun H a ns hl _ hS => ⟨a, ns, rfl, hS, fun _ => rfl⟩, K83.law_run KX G c F⟩⟩
end
