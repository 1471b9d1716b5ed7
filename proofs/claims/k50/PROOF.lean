import PyProof.Rows.All
import Wide.All
import OpenK.AllK
import Wide.FinOn
import HandS.ForMost
import HandS.ForExc
import HandS.TryMany
import HandS.CallSlots
import HandS.CallLocal
import HandS.Flow
import HandS.TupAny
import HandS.Deep
import HandS.Comp
import HandS.Iter
import HandS.Zip
import HandS.Lambda
import HandS.Small
import HandS.ExcInit
import HandS.Nested
import HandS.More
import KE.KExcSuper
import HandS.RaiseMore
import HandS.IsInst
import HandS.Text
import HandS.StrMore
import HandS.ClsMeth
import HandS.SlotsOwn
import KE.KCallOwn
import HandS.ExcField
import KE.KExcIs
import HandS.Words
import KE.GoesEnum
import KE.GoesMore
import HandS.ReplaceLit
import HandS.Defaults
import HandS.Ends
import HandS.Codes
import HandS.Replace
import PySem.Challenge.RW_rightatlast_k50_code_texts
set_option Elab.async false
set_option linter.all false
set_option maxRecDepth 100000
set_option maxHeartbeats 2000000
namespace Zed
open PySem L2

inductive D where
  | non | bl (b : Bool) | int (i : Int) | str (s : Str) | ty (n : String) | gl (x : Str)
  | tup (ds : List D) | lst (ds : List D) | scr (ds : List D)
  | obj (c : Str) (ns : List Str) (ds : List D)
  | exc (c : Str) (ns : List Str) (ds : List D)
  deriving Inhabited

/-- what of the program a relation leans on -/
structure Ct where
  K : PySem.W.Frag
  mg : Str → Option Value
  /-- within an except suite: the error at hand, its class, its dict -/
  xl : Option (Addr × Value × Option Addr)
abbrev c0 (K : PySem.W.Frag) (mg : Str → Option Value) : Ct := ⟨K, mg, none⟩

/-- the heap has grown -/
def Ex (H H' : Hp) : Prop := ∀ a o, H a = some o → H' a = some o
theorem Ex.refl (H : Hp) : Ex H H := fun _ _ h => h
theorem Ex.trans {H H1 H2 : Hp} (a : Ex H H1) (b : Ex H1 H2) : Ex H H2 := fun x o h => b x o (a x o h)
theorem Ex.new {H : Hp} {p : Addr} {o : HO} (h : H p = none) : Ex H (upd H p o) := fun a u e => by
  rw [upd_ne (ne_of_none e h)]; exact e
theorem Ex.rd {H H' : Hp} {a : Addr} {u : HO} (e : Ex H H') (h : Rd H a u) : Rd H' a u := by
  rcases h with h | ⟨o, h⟩
  · exact Or.inl (e a _ h)
  · exact Or.inr ⟨o, e a _ h⟩
theorem Ex.sl {K : PySem.W.Frag} {H H' : Hp} {a : Addr} {xs : List V} (e : Ex H H') (h : SqL K H a xs) : SqL K H' a xs := h.imp (e.rd) id
theorem Ex.st {K : PySem.W.Frag} {H H' : Hp} {a : Addr} {xs : List V} (e : Ex H H') (h : SqT K H a xs) : SqT K H' a xs := h.imp (e.rd) id

mutual
/-- v stands for d, all of it in the part G of the heap that never changes -/
inductive Rep (c : Ct) (G : Hp) : V → D → Prop
  | non : Rep c G .non .non
  | bl {b : Bool} : Rep c G (.bl b) (.bl b)
  | int {i : Int} : Rep c G (.int i) (.int i)
  | str {s : Str} : Rep c G (.str s) (.str s)
  | ty {n : String} : Rep c G (.ty n) (.ty n)
  | gl {x : Str} {a : Addr} (h : c.mg x = some (.ref a)) : Rep c G (.ref a) (.gl x)
  | tup {a : Addr} {vs : List V} {ds : List D} (h : SqT c.K G a vs) (r : Reps c G vs ds) : Rep c G (.ref a) (.tup ds)
  | lst {a : Addr} {vs : List V} {ds : List D} (h : G a = some (.lst vs)) (r : Reps c G vs ds) : Rep c G (.ref a) (.lst ds)
  | scr {a : Addr} {vs : List V} {ds : List D} (h : SqL c.K G a vs) (r : Reps c G vs ds) : Rep c G (.ref a) (.scr ds)
  | obj {a C dx : Addr} {fs : List (Str × V)} {x : Str} {ns : List Str} {ds : List D} (hc : c.mg x = some (.ref C)) (h : G a = some (.ins C dx fs)) (hn : fs.map (·.1) = ns) (r : Reps c G (fs.map (·.2)) ds) : Rep c G (.ref a) (.obj x ns ds)
  | exc0 {a C : Addr} {x : Str} (hx : c.xl = some (a, .ref C, none)) (hc : c.mg x = some (.ref C)) : Rep c G (.ref a) (.exc x [] [])
  | exc {a C d : Addr} {x : Str} {fs : List (Str × V)} {ns : List Str} {ds : List D} (hx : c.xl = some (a, .ref C, some d)) (hc : c.mg x = some (.ref C)) (h : G d = some (.xd fs)) (hn : fs.map (·.1) = ns) (r : Reps c G (fs.map (·.2)) ds) : Rep c G (.ref a) (.exc x ns ds)
inductive Reps (c : Ct) (G : Hp) : List V → List D → Prop
  | nil : Reps c G [] []
  | cons {v : V} {d : D} {vs : List V} {ds : List D} (h : Rep c G v d) (r : Reps c G vs ds) : Reps c G (v :: vs) (d :: ds)
end
mutual
theorem Rep.mono {c : Ct} {G G' : Hp} (e : Ex G G') {v : V} {d : D} (h : Rep c G v d) : Rep c G' v d := by
  cases h with
  | non => exact .non
  | bl => exact .bl
  | int => exact .int
  | str => exact .str
  | ty => exact .ty
  | gl h => exact .gl h
  | tup h r => exact .tup (e.st h) (Reps.mono e r)
  | lst h r => exact .lst (e _ _ h) (Reps.mono e r)
  | scr h r => exact .scr (e.sl h) (Reps.mono e r)
  | obj hc h hn r => exact .obj hc (e _ _ h) hn (Reps.mono e r)
  | exc0 hx hc => exact .exc0 hx hc
  | exc hx hc h hn r => exact .exc hx hc (e _ _ h) hn (Reps.mono e r)
theorem Reps.mono {c : Ct} {G G' : Hp} (e : Ex G G') {vs : List V} {ds : List D} (h : Reps c G vs ds) : Reps c G' vs ds := by
  cases h with
  | nil => exact .nil
  | cons h r => exact .cons (Rep.mono e h) (Reps.mono e r)
end
section
variable {c : Ct} {G : Hp}
theorem Reps.length {vs : List V} {ds : List D} (h : Reps c G vs ds) : vs.length = ds.length := by
  induction vs generalizing ds with
  | nil => cases h; rfl
  | cons v vs ih => cases h with | cons _ r => simp [ih r]
theorem Reps.get {vs : List V} {ds : List D} (h : Reps c G vs ds) {i : Nat} {d : D} (hd : ds[i]? = some d) : ∃ v, vs[i]? = some v ∧ Rep c G v d := by
  induction i generalizing vs ds with
  | zero =>
    cases h with
    | nil => cases hd
    | cons h r => simp at hd; subst hd; exact ⟨_, rfl, h⟩
  | succ i ih =>
    cases h with
    | nil => cases hd
    | cons h r => simpa using ih r (by simpa using hd)
theorem Reps.getV {vs : List V} {ds : List D} (h : Reps c G vs ds) {i : Nat} {v : V} (hd : vs[i]? = some v) : ∃ d, ds[i]? = some d ∧ Rep c G v d := by
  induction i generalizing vs ds with
  | zero =>
    cases h with
    | nil => cases hd
    | cons h r => simp at hd; subst hd; exact ⟨_, rfl, h⟩
  | succ i ih =>
    cases h with
    | nil => cases hd
    | cons h r => simpa using ih r (by simpa using hd)
theorem Reps.append {vs ws : List V} {ds es : List D} (h : Reps c G vs ds) (k : Reps c G ws es) : Reps c G (vs ++ ws) (ds ++ es) := by
  induction vs generalizing ds with
  | nil => cases h; exact k
  | cons v vs ih => cases h with | cons h r => exact .cons h (ih r)
theorem Reps.take {vs : List V} {ds : List D} (h : Reps c G vs ds) (n : Nat) : Reps c G (vs.take n) (ds.take n) := by
  induction n generalizing vs ds with
  | zero => exact .nil
  | succ n ih =>
    cases h with
    | nil => exact .nil
    | cons h r => exact .cons h (ih r)
theorem Reps.drop {vs : List V} {ds : List D} (h : Reps c G vs ds) (n : Nat) : Reps c G (vs.drop n) (ds.drop n) := by
  induction n generalizing vs ds with
  | zero => exact h
  | succ n ih =>
    cases h with
    | nil => exact .nil
    | cons h r => exact ih r
theorem Reps.set {vs : List V} {ds : List D} (h : Reps c G vs ds) {v : V} {d : D} (hv : Rep c G v d) (n : Nat) : Reps c G (vs.set n v) (ds.set n d) := by
  induction n generalizing vs ds with
  | zero =>
    cases h with
    | nil => exact .nil
    | cons h r => exact .cons hv r
  | succ n ih =>
    cases h with
    | nil => exact .nil
    | cons h r => exact .cons h (ih r)
theorem Reps.snoc {vs : List V} {ds : List D} (h : Reps c G vs ds) {v : V} {d : D} (hv : Rep c G v d) : Reps c G (vs ++ [v]) (ds ++ [d]) := h.append (.cons hv .nil)
theorem Reps.all {vs : List V} {ds : List D} (hl : vs.length = ds.length) (h : ∀ (i : Nat) v d, vs[i]? = some v → ds[i]? = some d → Rep c G v d) : Reps c G vs ds := by
  induction vs generalizing ds with
  | nil => cases ds with | nil => exact .nil | cons _ _ => cases hl
  | cons v vs ih =>
    cases ds with
    | nil => cases hl
    | cons d ds => exact .cons (h 0 v d rfl rfl) (ih (by simpa using hl) fun i v d h1 h2 => h (i + 1) v d (by simpa using h1) (by simpa using h2))
end

inductive O where
  | lst (ds : List D)
  | obj (c : Str) (ns : List Str) (ds : List D)
  | dk (ks : List Key) (ds : List D)
/-- as data -/
def O.d : O → D
  | .lst ds => .lst ds
  | .obj c ns ds => .obj c ns ds
  | .dk _ _ => .non
/-- what stands at an address is o, its parts in the part G that never changes -/
def Own (c : Ct) (G : Hp) (ho : HO) : O → Prop
  | .lst ds => ∃ vs, ho = .lst vs ∧ Reps c G vs ds
  | .obj x ns ds => ∃ C dx fs, c.mg x = some (.ref C) ∧ ho = .ins C dx fs ∧ fs.map (·.1) = ns ∧ Reps c G (fs.map (·.2)) ds
  | .dk ks ds => ∃ kvs, ho = .dK kvs ∧ kvs.map (·.1) = ks ∧ Reps c G (kvs.map (·.2)) ds
theorem Own.mono {c : Ct} {G G' : Hp} {ho : HO} {o : O} (e : Ex G G') (h : Own c G ho o) : Own c G' ho o := by
  cases o with
  | lst ds => obtain ⟨vs, e1, r⟩ := h; exact ⟨vs, e1, r.mono e⟩
  | obj x ns ds => obtain ⟨C, dx, fs, h1, h2, h3, r⟩ := h; exact ⟨C, dx, fs, h1, h2, h3, r.mono e⟩
  | dk ks ds => obtain ⟨kvs, h2, h3, r⟩ := h; exact ⟨kvs, h2, h3, r.mono e⟩
/-- it may be frozen -/
def O.fz : O → Bool
  | .lst _ => true
  | .obj _ _ _ => true
  | .dk _ _ => false
theorem Own.rep {c : Ct} {G : Hp} {a : Addr} {ho : HO} {o : O} (h : Own c G ho o) (hz : o.fz = true) (hG : G a = none) : Rep c (upd G a ho) (.ref a) o.d := by
  have e : Ex G (upd G a ho) := Ex.new hG
  cases o with
  | lst ds => obtain ⟨vs, e1, r⟩ := h; subst e1; exact .lst upd_same (r.mono e)
  | obj x ns ds => obtain ⟨C, dx, fs, h1, h2, h3, r⟩ := h; subst h2; exact .obj h1 upd_same h3 (r.mono e)
  | dk ks ds => cases hz

/-- what a name holds -/
inductive LV where
  | frz (d : D)
  | own (o : O)
abbrev Env := List (Option LV)
/-- v is what lv tells -/
def LvOk (c : Ct) (G H : Hp) (v : V) : LV → Prop
  | .frz d => Rep c G v d
  | .own o => ∃ a ho, v = .ref a ∧ G a = none ∧ H a = some ho ∧ Own c G ho o
/-- the addresses that env's names own -/
def OA (env : Env) (σ : L2.St) (a : Addr) : Prop := ∃ (i : Nat) (o : O), env[i]? = some (some (LV.own o)) ∧ σ[i]? = some (some (V.ref a))
structure Rel (c : Ct) (env : Env) (σ : L2.St) (G H : Hp) : Prop where
  ex : Ex G H
  len : σ.length = env.length
  sl : ∀ (i : Nat) lv, env[i]? = some (some lv) → ∃ v, σ[i]? = some (some v) ∧ LvOk c G H v lv
  dj : ∀ (i j : Nat) oi oj a, env[i]? = some (some (.own oi)) → env[j]? = some (some (.own oj)) → σ[i]? = some (some (.ref a)) → σ[j]? = some (some (.ref a)) → i = j
/-- what does not belong to env's names stays, and is not frozen -/
def Keep (env : Env) (σ : L2.St) (G H G' H' : Hp) : Prop := ∀ a o, H a = some o → G a = none → ¬ OA env σ a → H' a = some o ∧ G' a = none
theorem Keep.refl {env : Env} {σ : L2.St} {G H : Hp} : Keep env σ G H G H := fun _ _ h g _ => ⟨h, g⟩
/-- from a state to a later one, the names' values the same -/
structure Step (c : Ct) (σ : L2.St) (env : Env) (G H : Hp) (env' : Env) (G' H' : Hp) : Prop where
  g : Ex G G'
  rel : Rel c env' σ G' H'
  keep : Keep env σ G H G' H'
  ow : ∀ (i : Nat) (o : O), env'[i]? = some (some (LV.own o)) → ∃ o', env[i]? = some (some (LV.own o'))
  al : ∀ a, H' a = none → H a = none
theorem Step.oa {c : Ct} {σ : L2.St} {env env' : Env} {G H G' H' : Hp} (s : Step c σ env G H env' G' H') (a : Addr) (h : OA env' σ a) : OA env σ a :=
  let ⟨i, o, h1, h2⟩ := h; let ⟨o', h3⟩ := s.ow i o h1; ⟨i, o', h3, h2⟩
theorem Step.refl {c : Ct} {σ : L2.St} {env : Env} {G H : Hp} (r : Rel c env σ G H) : Step c σ env G H env G H := ⟨Ex.refl _, r, Keep.refl, fun _ o h => ⟨o, h⟩, fun _ h => h⟩
theorem Step.trans {c : Ct} {σ : L2.St} {env env1 env2 : Env} {G H G1 H1 G2 H2 : Hp} (a : Step c σ env G H env1 G1 H1) (b : Step c σ env1 G1 H1 env2 G2 H2) : Step c σ env G H env2 G2 H2 :=
  ⟨a.g.trans b.g, b.rel, fun x o h g n => let ⟨h1, g1⟩ := a.keep x o h g n; b.keep x o h1 g1 fun z => n (a.oa x z), fun i o z => let ⟨o1, z1⟩ := b.ow i o z; a.ow i o1 z1, fun x z => a.al x (b.al x z)⟩

/-- a value at hand: settled; new and not yet anybody's; what the i-th name holds -/
inductive RV where
  | frz (d : D)
  | new (o : O)
  | slot (i : Nat)
/-- v is r; H0: the heap ahead of the expression -/
def RvOk (c : Ct) (σ : L2.St) (H0 : Hp) (env : Env) (G H : Hp) (v : V) : RV → Prop
  | .frz d => Rep c G v d
  | .new o => ∃ a ho, v = .ref a ∧ H0 a = none ∧ G a = none ∧ H a = some ho ∧ Own c G ho o
  | .slot i => σ[i]? = some (some v)
structure Exc where
  c : Str
  ns : List Str
  ds : List D
inductive Rs (α : Type) where
  | val (a : α) (env : Env)
  | exc (x : Exc) (env : Env)
def Rs.b {α γ : Type} (x : Option (Rs α)) (k : α → Env → Option (Rs γ)) : Option (Rs γ) := match x with
  | some (.val a env) => k a env
  | some (.exc x env) => some (.exc x env)
  | none => none
/-- the exception x at class cls, its fields in the dict at dd -/
def ExcOk (c : Ct) (G H : Hp) (cls : Value) (dd : Option Addr) (x : Exc) : Prop :=
  ∃ C, cls = .ref C ∧ c.mg x.c = some (.ref C) ∧ ((dd = none ∧ x.ns = [] ∧ x.ds = []) ∨ ∃ a fs, dd = some a ∧ H a = some (.xd fs) ∧ G a = none ∧ fs.map (·.1) = x.ns ∧ Reps c G (fs.map (·.2)) x.ds)

/-- a reading of anything -/
abbrev Tg (β : Type) := L2.St → Hp → (β → Hp → Prop) → Prop
abbrev OkRel (α β : Type) := Ct → L2.St → Hp → Env → Hp → Hp → β → α → Prop
/-- what must hold behind an expression that gives r -/
def Post {α β : Type} (ok : OkRel α β) (c : Ct) (W : WX) (σ : L2.St) (env : Env) (G H : Hp) (Q : β → Hp → Prop) : Option (Rs α) → Prop
  | none => False
  | some (.val r env') => ∀ v G' H', Step c σ env G H env' G' H' → ok c σ H env' G' H' v r → Q v H'
  | some (.exc x env') => ∀ cls dd G' H', Step c σ env G H env' G' H' → ExcOk c G' H' cls dd x → (∀ a, dd = some a → H a = none) → W cls dd σ H'
def Ev {α β : Type} (ok : OkRel α β) (c : Ct) (W : WX) (te : Tg β) (f : Env → Option (Rs α)) : Prop :=
  ∀ env σ G H, Rel c env σ G H → ∀ Q : β → Hp → Prop, Post ok c W σ env G H Q (f env) → te σ H Q
def ct (X : Cx) : Ct := ⟨X.K, X.mg, match X.calm with
  | true => none
  | false => X.pn.head?.map fun p => (p.1, p.2.cls, p.2.dict)⟩
theorem ct0 {X : Cx} (h : X.calm = true) : ct X = c0 X.K X.mg := by unfold ct; rw [h]
abbrev Exp := Env → Option (Rs RV)
abbrev Tst := Env → Option (Rs Bool)
def okT : OkRel Bool Bool := fun _ _ _ _ _ _ b b' => b = b'
def okD : OkRel D V := fun c _ _ _ G _ v d => Rep c G v d
/-- the expression e computes f -/
def SE (X : Cx) (W : WX) (e : Expr) (f : Exp) : Prop := ∃ te, PE X e te ∧ Ev RvOk (ct X) W te f
def SD (X : Cx) (W : WX) (e : Expr) (f : Env → Option (Rs D)) : Prop := ∃ te, PE X e te ∧ Ev okD (ct X) W te f
def ST (X : Cx) (W : WX) (e : Expr) (f : Tst) : Prop := ∃ t, PT X e t ∧ Ev okT (ct X) W t f
end Zed
set_option Elab.async false
set_option linter.all false
set_option maxRecDepth 100000
set_option maxHeartbeats 2000000
namespace Zed
open PySem L2

section
variable {c : Ct} {σ : L2.St} {env env' env0 : Env} {G H G' H' G0 H0 : Hp} {v : V} {r : RV} {d : D}

theorem LvOk.new {lv : LV} (h : LvOk c G H v lv) (g : Ex G G') (keep : ∀ a o, H a = some o → G a = none → (∃ o, lv = .own o) → H' a = some o ∧ G' a = none) : LvOk c G' H' v lv := by
  cases lv with
  | frz d => exact Rep.mono g h
  | own o =>
    obtain ⟨a, ho, e, g1, h1, w⟩ := h
    obtain ⟨h2, g2⟩ := keep a ho h1 g1 ⟨o, rfl⟩
    exact ⟨a, ho, e, g2, h2, w.mono g⟩
theorem Rel.oaH (r : Rel c env σ G H) {a : Addr} (h : OA env σ a) : (∃ o, H a = some o) ∧ G a = none := by
  obtain ⟨i, o, he, hs⟩ := h
  obtain ⟨v, hv, a', ho, e, g, h1, _⟩ := r.sl i _ he
  rw [hs] at hv
  have e1 := Option.some.inj (Option.some.inj hv)
  rw [← e1] at e
  have e2 := V.ref.inj e
  subst e2
  exact ⟨⟨ho, h1⟩, g⟩
theorem Rel.fresh (r : Rel c env σ G H) {a : Addr} (h : H a = none) : ¬ OA env σ a := fun z => by
  obtain ⟨⟨o, e⟩, _⟩ := r.oaH z
  rw [h] at e
  cases e
theorem Ex.none {H H' : Hp} (e : Ex H H') {a : Addr} (h : H' a = none) : H a = none := by
  cases q : H a with
  | none => rfl
  | some o => rw [e a o q] at h; cases h

structure Grow (G H G' H' : Hp) : Prop where
  g : Ex G G'
  h : Ex H H'
  n : ∀ a o, G' a = some o → G a = some o ∨ H a = none
  x : Ex G' H'
theorem Grow.refl (e : Ex G H) : Grow G H G H := ⟨Ex.refl _, Ex.refl _, fun _ _ h => .inl h, e⟩
theorem Grow.old (w : Grow G H G' H') {a : Addr} {o : HO} (h : H a = some o) (g : G a = none) : H' a = some o ∧ G' a = none := by
  refine ⟨w.h a o h, ?_⟩
  cases q : G' a with
  | none => rfl
  | some u =>
    rcases w.n a u q with z | z
    · rw [g] at z; cases z
    · rw [h] at z; cases z
theorem Rel.grow (r : Rel c env σ G H) (w : Grow G H G' H') : Rel c env σ G' H' :=
  ⟨w.x, r.len, fun i lv e => let ⟨v, hv, ok⟩ := r.sl i lv e; ⟨v, hv, ok.new w.g fun a o h g _ => w.old h g⟩, r.dj⟩
theorem Grow.step (w : Grow G H G' H') (r : Rel c env σ G H) : Step c σ env G H env G' H' :=
  ⟨w.g, r.grow w, fun a o h g _ => w.old h g, fun _ o h => ⟨o, h⟩, fun a h => w.h.none h⟩
theorem Grow.trans {G1 H1 G2 H2 : Hp} (a : Grow G H G1 H1) (b : Grow G1 H1 G2 H2) : Grow G H G2 H2 :=
  ⟨a.g.trans b.g, a.h.trans b.h, fun x o h => (b.n x o h).elim (a.n x o) fun z => .inr (a.h.none z), b.x⟩
/-- one new thing, settled at once -/
theorem Grow.frz (e : Ex G H) {a : Addr} {o : HO} (h : H a = none) : Grow G H (upd G a o) (upd H a o) := by
  have hg : G a = none := e.none h
  refine ⟨Ex.new hg, Ex.new h, fun b u q => ?_, fun b u q => ?_⟩
  · by_cases hb : b = a
    · subst hb; exact .inr h
    · rw [upd_ne hb] at q; exact .inl q
  · by_cases hb : b = a
    · subst hb; rw [upd_same] at q ⊢; exact q
    · rw [upd_ne hb] at q ⊢; exact e b u q
/-- one new thing that may still change -/
theorem Grow.own (e : Ex G H) {a : Addr} {o : HO} (h : H a = none) : Grow G H G (upd H a o) := by
  have hg : G a = none := e.none h
  refine ⟨Ex.refl _, Ex.new h, fun b u q => .inl q, fun b u q => ?_⟩
  rw [upd_ne (ne_of_none q hg)]; exact e b u q

theorem RvOk.step (r0 : Rel c env0 σ G0 H0) (s0 : Step c σ env0 G0 H0 env G H) (h : RvOk c σ H0 env G H v r) (s : Step c σ env G H env' G' H') : RvOk c σ H0 env' G' H' v r := by
  cases r with
  | frz d => exact Rep.mono s.g h
  | slot i => exact h
  | new o =>
    obtain ⟨a, ho, e, h0, g, h1, w⟩ := h
    obtain ⟨h2, g2⟩ := s.keep a ho h1 g fun z => r0.fresh h0 (s0.oa a z)
    exact ⟨a, ho, e, h0, g2, h2, w.mono s.g⟩
/-- as seen from an earlier heap -/
theorem RvOk.back (al : ∀ a, H a = none → H0 a = none) (h : RvOk c σ H env G' H' v r) : RvOk c σ H0 env G' H' v r := by
  cases r with
  | frz d => exact h
  | slot i => exact h
  | new o =>
    obtain ⟨a, ho, e, h0, g⟩ := h
    exact ⟨a, ho, e, al a h0, g⟩

def peek : RV → Env → Option D
  | .frz d, _ => some d
  | .new o, _ => if o.fz = true then some o.d else none
  | .slot i, env => match env[i]? with
    | some (some (.frz d)) => some d
    | some (some (.own o)) => if o.fz = true then some o.d else none
    | _ => none
/-- v looks like d: d's own object anywhere, its parts settled -/
inductive Vw (c : Ct) (G H : Hp) : V → D → Prop
  | rep {v : V} {d : D} (h : Rep c G v d) : Vw c G H v d
  | own {a : Addr} {ho : HO} {o : O} (h : H a = some ho) (w : Own c G ho o) (z : o.fz = true) : Vw c G H (.ref a) o.d
theorem peek_ok (rl : Rel c env σ G H) (h : RvOk c σ H0 env G H v r) (e : peek r env = some d) : Vw c G H v d := by
  cases r with
  | frz d' => cases e; exact .rep h
  | new o =>
    obtain ⟨a, ho, rfl, h0, g, h1, w⟩ := h
    dsimp only [peek] at e
    split at e
    · rename_i z; cases e; exact .own h1 w z
    · cases e
  | slot i =>
    dsimp only [peek] at e
    split at e
    · rename_i d' he
      cases e
      obtain ⟨v', hv', ok⟩ := rl.sl i _ he
      rw [show σ[i]? = some (some v) from h] at hv'
      cases hv'
      exact .rep ok
    · rename_i o he
      obtain ⟨v', hv', a, ho, ev, g, h1, w⟩ := rl.sl i _ he
      rw [show σ[i]? = some (some v) from h] at hv'
      have e1 := Option.some.inj (Option.some.inj hv')
      subst e1 ev
      split at e
      · rename_i z; cases e; exact .own h1 w z
      · cases e
    · cases e
theorem Vw.mono (g : Ex G G') (h : Ex H H') (w : Vw c G H v d) : Vw c G' H' v d := by
  cases w with
  | rep r => exact .rep (r.mono g)
  | own h1 w z => exact .own (h _ _ h1) (w.mono g) z
section
variable (x : Ex G H)
include x
theorem Vw.lst {ds : List D} (w : Vw c G H v (.lst ds)) : ∃ a vs, v = .ref a ∧ H a = some (.lst vs) ∧ Reps c G vs ds := by
  generalize hd : D.lst ds = d at w
  cases w with
  | rep r => subst hd; cases r with | lst h r => exact ⟨_, _, rfl, x _ _ h, r⟩
  | @own a ho o h1 w z =>
    cases o with
    | lst es => cases hd; obtain ⟨vs, e, r⟩ := w; subst e; exact ⟨a, vs, rfl, h1, r⟩
    | obj _ _ _ => cases hd
    | dk _ _ => cases hd
theorem Vw.tup {ds : List D} (w : Vw c G H v (.tup ds)) : ∃ a vs, v = .ref a ∧ SqT c.K H a vs ∧ Reps c G vs ds := by
  generalize hd : D.tup ds = d at w
  cases w with
  | rep r => subst hd; cases r with | tup h r => exact ⟨_, _, rfl, x.st h, r⟩
  | @own a ho o h1 w z => cases o <;> cases hd
theorem Vw.scr {ds : List D} (w : Vw c G H v (.scr ds)) : ∃ a vs, v = .ref a ∧ SqL c.K H a vs ∧ Reps c G vs ds := by
  generalize hd : D.scr ds = d at w
  cases w with
  | rep r => subst hd; cases r with | scr h r => exact ⟨_, _, rfl, x.sl h, r⟩
  | @own a ho o h1 w z => cases o <;> cases hd
theorem Vw.obj {y : Str} {ns : List Str} {ds : List D} (w : Vw c G H v (.obj y ns ds)) : ∃ a C dx fs, v = .ref a ∧ c.mg y = some (.ref C) ∧ H a = some (.ins C dx fs) ∧ fs.map (·.1) = ns ∧ Reps c G (fs.map (·.2)) ds := by
  generalize hd : D.obj y ns ds = d at w
  cases w with
  | rep r => subst hd; cases r with | obj h1 h2 h3 r => exact ⟨_, _, _, _, rfl, h1, x _ _ h2, h3, r⟩
  | @own a ho o h1 w z =>
    cases o with
    | lst es => cases hd
    | obj _ _ _ => cases hd; obtain ⟨C, dx, fs, e1, e2, e3, r⟩ := w; subst e2; exact ⟨a, C, dx, fs, rfl, e1, h1, e3, r⟩
    | dk _ _ => cases hd
end
theorem Rep.vint {i : Int} (r : Rep c G v (.int i)) : v = .int i := by cases r; rfl
theorem Rep.vstr {s : Str} (r : Rep c G v (.str s)) : v = .str s := by cases r; rfl
theorem Rep.vbl {b : Bool} (r : Rep c G v (.bl b)) : v = .bl b := by cases r; rfl
theorem Rep.vnon (r : Rep c G v .non) : v = .non := by cases r; rfl
theorem Vw.int {i : Int} (w : Vw c G H v (.int i)) : v = .int i := by
  generalize hd : D.int i = d at w
  cases w with
  | rep r => subst hd; exact r.vint
  | @own a ho o h1 w z => cases o <;> cases hd
theorem Vw.str {s : Str} (w : Vw c G H v (.str s)) : v = .str s := by
  generalize hd : D.str s = d at w
  cases w with
  | rep r => subst hd; exact r.vstr
  | @own a ho o h1 w z => cases o <;> cases hd
theorem Vw.bl {b : Bool} (w : Vw c G H v (.bl b)) : v = .bl b := by
  generalize hd : D.bl b = d at w
  cases w with
  | rep r => subst hd; exact r.vbl
  | @own a ho o h1 w z => cases o <;> cases hd
theorem Vw.ty {n : String} (w : Vw c G H v (.ty n)) : v = .ty n := by
  generalize hd : D.ty n = d at w
  cases w with
  | rep r => subst hd; cases r; rfl
  | @own a ho o h1 w z => cases o <;> cases hd
theorem Vw.gl {x : Str} (w : Vw c G H v (.gl x)) : ∃ a, v = .ref a ∧ c.mg x = some (.ref a) := by
  generalize hd : D.gl x = d at w
  cases w with
  | rep r => subst hd; cases r with | gl h => exact ⟨_, rfl, h⟩
  | @own a ho o h1 w z => cases o <;> cases hd

def freeze : RV → Env → Option (D × Env)
  | .frz d, env => some (d, env)
  | .new o, env => if o.fz = true then some (o.d, env) else none
  | .slot i, env => match env[i]? with
    | some (some (.frz d)) => some (d, env)
    | some (some (.own o)) => if o.fz = true then some (o.d, env.set i (some (.frz o.d))) else none
    | _ => none
theorem set_get {α : Type} {l : List α} {i j : Nat} {x y : α} (h : (l.set i x)[j]? = some y) : (i = j ∧ x = y) ∨ (i ≠ j ∧ l[j]? = some y) := by
  by_cases e : i = j
  · subst e
    by_cases hi : i < l.length
    · rw [List.getElem?_set_self hi] at h
      exact .inl ⟨rfl, Option.some.inj h⟩
    · rw [List.getElem?_eq_none (by simpa using hi)] at h; cases h
  · rw [List.getElem?_set_ne e] at h
    exact .inr ⟨e, h⟩
theorem freeze_ok (r0 : Rel c env0 σ G0 H0) (s0 : Step c σ env0 G0 H0 env G H) (h : RvOk c σ H0 env G H v r) (e : freeze r env = some (d, env')) : ∃ G', Step c σ env0 G0 H0 env' G' H ∧ Rep c G' v d := by
  cases r with
  | frz d' => cases e; exact ⟨G, s0, h⟩
  | new o =>
    obtain ⟨a, ho, rfl, h0, g, h1, w⟩ := h
    dsimp only [freeze] at e
    split at e
    · rename_i z
      cases e
      refine ⟨upd G a ho, ?_, w.rep z g⟩
      · have noa : ¬ OA env σ a := fun z => r0.fresh h0 (s0.oa a z)
        have gx : Ex G (upd G a ho) := Ex.new g
        refine ⟨s0.g.trans gx, ⟨fun b u q => ?_, s0.rel.len, fun i lv q => ?_, s0.rel.dj⟩, fun b u q1 q2 q3 => ?_, s0.ow, s0.al⟩
        · by_cases hb : b = a
          · subst hb; rw [upd_same] at q; rw [h1]; exact q
          · rw [upd_ne hb] at q; exact s0.rel.ex b u q
        · obtain ⟨v, hv, ok⟩ := s0.rel.sl i lv q
          refine ⟨v, hv, ?_⟩
          cases lv with
          | frz d => exact Rep.mono gx ok
          | own o' =>
            obtain ⟨b, hb, e, gb, hb1, wb⟩ := ok
            subst e
            have hne : b ≠ a := fun z => noa ⟨i, o', q, by rw [← z]; exact hv⟩
            exact ⟨b, hb, rfl, by rw [upd_ne hne]; exact gb, hb1, wb.mono gx⟩
        · obtain ⟨k1, k2⟩ := s0.keep b u q1 q2 q3
          refine ⟨k1, ?_⟩
          rw [upd_ne (fun z => by rw [z, h0] at q1; cases q1)]
          exact k2
    · cases e
  | slot i =>
    dsimp only [freeze] at e
    split at e
    · rename_i d' he
      cases e
      obtain ⟨v', hv', ok⟩ := s0.rel.sl i _ he
      rw [show σ[i]? = some (some v) from h] at hv'
      cases hv'
      exact ⟨G, s0, ok⟩
    · rename_i o he
      split at e
      · rename_i z
        cases e
        obtain ⟨v', hv', a, ho, ev, g, h1, w⟩ := s0.rel.sl i _ he
        rw [show σ[i]? = some (some v) from h] at hv'
        have e1 := Option.some.inj (Option.some.inj hv')
        subst e1 ev
        have gx : Ex G (upd G a ho) := Ex.new g
        have hOA : OA env σ a := ⟨i, o, he, h⟩
        refine ⟨upd G a ho, ⟨s0.g.trans gx, ⟨fun b u q => ?_, by rw [List.length_set]; exact s0.rel.len, fun j lv q => ?_, fun j k oj ok b q1 q2 q3 q4 => ?_⟩, fun b u q1 q2 q3 => ?_, fun j o' q1 => ?_, s0.al⟩, w.rep z g⟩
        · by_cases hb : b = a
          · subst hb; rw [upd_same] at q; rw [h1]; exact q
          · rw [upd_ne hb] at q; exact s0.rel.ex b u q
        · rcases set_get q with ⟨rfl, e2⟩ | ⟨hne, q⟩
          · cases e2
            exact ⟨.ref a, h, w.rep z g⟩
          · obtain ⟨v, hv, ok⟩ := s0.rel.sl j lv q
            refine ⟨v, hv, ?_⟩
            cases lv with
            | frz d => exact Rep.mono gx ok
            | own o' =>
              obtain ⟨b, hb, e, gb, hb1, wb⟩ := ok
              subst e
              have hba : b ≠ a := fun z => hne (s0.rel.dj i j _ _ a he q h (by rw [← z]; exact hv))
              exact ⟨b, hb, rfl, by rw [upd_ne hba]; exact gb, hb1, wb.mono gx⟩
        · rcases set_get q1 with ⟨_, e2⟩ | ⟨_, q1⟩
          · cases e2
          · rcases set_get q2 with ⟨_, e2⟩ | ⟨_, q2⟩
            · cases e2
            · exact s0.rel.dj j k oj ok b q1 q2 q3 q4
        · obtain ⟨k1, k2⟩ := s0.keep b u q1 q2 q3
          refine ⟨k1, ?_⟩
          rw [upd_ne (fun z : b = a => q3 (s0.oa b (by rw [z]; exact hOA)))]
          exact k2
        · rcases set_get q1 with ⟨_, e2⟩ | ⟨_, q1⟩
          · cases e2
          · exact s0.ow j o' q1
      · cases e
    · cases e
end

section
variable {α β γ δ : Type} {c : Ct} {W : WX} {σ : L2.St} {env env1 : Env} {G H G1 H1 : Hp}
/-- an expression within a longer one: r0, s: how far it has come -/
theorem Ev.use {ok : OkRel α β} {okf : OkRel γ δ} {tb : Tg β} {fb : Env → Option (Rs α)} (hb : Ev ok c W tb fb) (s : Step c σ env G H env1 G1 H1) {Q : δ → Hp → Prop} {k : α → Env → Option (Rs γ)}
    (p : Post okf c W σ env G H Q (Rs.b (fb env1) k)) {K : β → Hp → Prop}
    (hK : ∀ r env2 v G2 H2, Step c σ env G H env2 G2 H2 → Step c σ env1 G1 H1 env2 G2 H2 → ok c σ H1 env2 G2 H2 v r → Post okf c W σ env G H Q (k r env2) → K v H2) : tb σ H1 K := by
  refine hb env1 σ G1 H1 s.rel K ?_
  cases q : fb env1 with
  | none => rw [q] at p; exact p
  | some er =>
    rw [q] at p
    cases er with
    | exc x env' => intro cls dd G' H' s' hx hd; exact p cls dd G' H' (s.trans s') hx fun a e => s.al a (hd a e)
    | val r env' => intro v G' H' s' okv; exact hK r env' v G' H' (s.trans s') s' okv p
end

def fzE (f : Exp) : Env → Option (Rs D) := fun env => Rs.b (f env) fun r env' => match freeze r env' with
  | some (d, env2) => some (.val d env2)
  | none => none
def vlE (f : Env → Option (Rs D)) : Exp := fun env => Rs.b (f env) fun d env' => some (.val (.frz d) env')
section
variable {c : Ct} {W : WX} {X : Cx} {ex : Expr} {te : TE}
theorem Ev.fz {f : Exp} (h : Ev RvOk c W te f) : Ev okD c W te (fzE f) := fun env σ G H r0 Q p => by
  refine h.use (Step.refl r0) p fun r env2 v G2 H2 s _ okv p => ?_
  cases q2 : freeze r env2 with
  | none => rw [q2] at p; exact p.elim
  | some de =>
    rw [q2] at p
    obtain ⟨G3, s3, rp⟩ := freeze_ok r0 s okv q2
    exact p v G3 H2 s3 rp
theorem Ev.vl {f : Env → Option (Rs D)} (h : Ev okD c W te f) : Ev RvOk c W te (vlE f) := fun env σ G H r0 Q p =>
  h.use (Step.refl r0) p fun r env2 v G2 H2 s _ okv p => p v G2 H2 s okv
theorem SE.d {f : Exp} (h : SE X W ex f) : SD X W ex (fzE f) := let ⟨te, p, q⟩ := h; ⟨te, p, q.fz⟩
theorem SD.e {f : Env → Option (Rs D)} (h : SD X W ex f) : SE X W ex (vlE f) := let ⟨te, p, q⟩ := h; ⟨te, p, q.vl⟩
end

/-- what may come out of an operation: a settled value, or a new thing -/
inductive OV where
  | frz (d : D)
  | new (o : O)
def OutOk (c : Ct) (G H : Hp) (Q : VK) : OV → Prop
  | .frz z => ∀ v G' H', Grow G H G' H' → Rep c G' v z → Q v H'
  | .new z => ∀ a ho G' H', Grow G H G' H' → H a = none → G' a = none → H' a = some ho → Own c G' ho z → Q (.ref a) H'
def out (x : Option OV) (env : Env) : Option (Rs RV) := match x with
  | some (.frz d) => some (.val (.frz d) env)
  | some (.new o) => some (.val (.new o) env)
  | none => none
section
variable {c : Ct} {W : WX} {σ : L2.St} {env env1 : Env} {G H G1 H1 : Hp} {Q : VK}
theorem Step.out {x : Option OV} (s : Step c σ env G H env1 G1 H1) (p : Post RvOk c W σ env G H Q (out x env1)) : ∃ z, x = some z ∧ OutOk c G1 H1 Q z := by
  cases x with
  | none => exact p.elim
  | some z =>
    refine ⟨z, rfl, ?_⟩
    cases z with
    | frz d => exact fun v G' H' w r => p v G' H' (s.trans (w.step s.rel)) r
    | new o => exact fun a ho G' H' w h0 g h1 o1 => p (.ref a) G' H' (s.trans (w.step s.rel)) ⟨a, ho, rfl, s.al a h0, g, h1, o1⟩
theorem OutOk.int {i : Int} (h : OutOk c G H Q (.frz (.int i))) (x : Ex G H) : Q (.int i) H := h _ G H (Grow.refl x) .int
theorem OutOk.str {i : Str} (h : OutOk c G H Q (.frz (.str i))) (x : Ex G H) : Q (.str i) H := h _ G H (Grow.refl x) .str
theorem OutOk.bl {i : Bool} (h : OutOk c G H Q (.frz (.bl i))) (x : Ex G H) : Q (.bl i) H := h _ G H (Grow.refl x) .bl
theorem OutOk.non (h : OutOk c G H Q (.frz .non)) (x : Ex G H) : Q .non H := h _ G H (Grow.refl x) .non
theorem OutOk.lst {vs : List V} {ds : List D} (h : OutOk c G H Q (.new (.lst ds))) (x : Ex G H) (r : Reps c G vs ds) {p : Addr} (hp : H p = none) : Q (.ref p) (upd H p (.lst vs)) :=
  h p (.lst vs) G _ (Grow.own x hp) hp (x.none hp) upd_same ⟨vs, rfl, r⟩
theorem OutOk.tup {vs : List V} {ds : List D} (h : OutOk c G H Q (.frz (.tup ds))) (x : Ex G H) (r : Reps c G vs ds) {p : Addr} (hp : H p = none) : Q (.ref p) (upd H p (.tup vs)) :=
  h (.ref p) _ _ (Grow.frz x hp) (.tup (Or.inl (Or.inl upd_same)) (r.mono (Ex.new (x.none hp))))
theorem OutOk.rep {v : V} {d : D} (h : OutOk c G H Q (.frz d)) (x : Ex G H) (r : Rep c G v d) : Q v H := h v G H (Grow.refl x) r
end
end Zed
set_option Elab.async false
set_option linter.all false
set_option maxRecDepth 100000
set_option maxHeartbeats 2000000
namespace Zed
open PySem L2

def var (i : Nat) : Exp := fun env => match env[i]? with
  | some (some (.frz d)) => some (.val (.frz d) env)
  | some (some (.own _)) => some (.val (.slot i) env)
  | _ => none
def cst (d : D) : Exp := fun env => some (.val (.frz d) env)
section
variable {X : Cx} {W : WX} {pos : Pos}
theorem SE.var (i : Nat) {x : Str} (hN : X.N[i]? = some x := by rfl) (hv : Vis X.env.scope x := by first | exact Or.inl rfl | exact Or.inr (Or.inl rfl) | exact Or.inr (Or.inr rfl)) (hd : (x == ("__debug__" : Str)) = false := by decide)
    (hcd : (x == ("__classdict__" : Str)) = false := by decide) : SE X W (.Name x pos) (var i) := by
  refine ⟨_, pe_var hN hv hd hcd, fun env σ G H r Q p => ?_⟩
  unfold Zed.var at p
  cases e : env[i]? with
  | none => rw [e] at p; exact p.elim
  | some o =>
    rw [e] at p
    cases o with
    | none => exact p.elim
    | some lv =>
      obtain ⟨v, hv, ok⟩ := r.sl i lv e
      refine ⟨v, hv, ?_⟩
      cases lv with
      | frz d => exact p v G H (Step.refl r) ok
      | own o => exact p v G H (Step.refl r) hv
theorem SE.cst {e : Expr} {v : V} {d : D} (h : PE X e (tC v)) (r : ∀ G, Rep (ct X) G v d) : SE X W e (cst d) :=
  ⟨_, h, fun env σ G H rl Q p => p v G H (Step.refl rl) (r G)⟩
theorem SE.int {i : Int} {j : Nat} : SE X W (.Constant (.int i) j pos) (Zed.cst (.int i)) := .cst pe_int fun _ => .int
theorem SE.bl {b : Bool} {j : Nat} : SE X W (.Constant (.bool b) j pos) (Zed.cst (.bl b)) := .cst pe_bl fun _ => .bl
theorem SE.non {j : Nat} : SE X W (.Constant .none j pos) (Zed.cst .non) := .cst pe_non fun _ => .non
theorem SE.str {x : Str} {j : Nat} : SE X W (.Constant (.str x) j pos) (Zed.cst (.str x)) := .cst pe_str fun _ => .str
/-- a constant of the module -/
theorem SE.glob {x : Str} {v : V} {u : Value} {d : D} (hg : Gl X x) (hm : X.mg x = some u) (r : RelV v u) (rp : ∀ G, Rep (ct X) G v d) (hd : (x == ("__debug__" : Str)) = false := by decide) : SE X W (.Name x pos) (Zed.cst d) := .cst (pe_glob hg hm r hd) rp
/-- a def, a class by its name -/
theorem SE.gl {x : Str} {a : Addr} (hm : X.mg x = some (.ref a)) (hg : Gl X x := by rfl) (hd : (x == ("__debug__" : Str)) = false := by decide) : SE X W (.Name x pos) (Zed.cst (.gl x)) := .cst (pe_glob (v := .ref a) hg hm rfl hd) fun _ => .gl hm
/-- a built-in type by its name -/
theorem SE.ty {x : Str} {n : String} (hg : Gl X x) (hm : X.mg x = none) (hv : bootBuiltins x = some (.type n)) (hn : x ≠ "__name__" := by decide) (hd : (x == ("__debug__" : Str)) = false := by decide) : SE X W (.Name x pos) (Zed.cst (.ty n)) :=
  .cst (pe_bltn (v := .ty n) hg hm hv rfl hn hd) fun _ => .ty
end

def Op2 (c : Ct) (r : R2) (o : D → D → Option OV) : Prop := ∀ G H v w d e z Q, Ex G H → Vw c G H v d → Vw c G H w e → o d e = some z → OutOk c G H Q z → r v w H Q
def Op1 (c : Ct) (r : V → Hp → VK → Prop) (o : D → Option OV) : Prop := ∀ G H v d z Q, Ex G H → Vw c G H v d → o d = some z → OutOk c G H Q z → r v H Q
def peek2 (o : D → D → Option OV) (ra rb : RV) (env : Env) : Option OV := match peek ra env, peek rb env with
  | some da, some db => o da db
  | _, _ => none
def bin (o : D → D → Option OV) (fa fb : Exp) : Exp := fun env => Rs.b (fa env) fun ra e1 => Rs.b (fb e1) fun rb e2 => out (peek2 o ra rb e2) e2
def peek1 (o : D → Option OV) (ra : RV) (env : Env) : Option OV := match peek ra env with
  | some da => o da
  | _ => none
def un (o : D → Option OV) (fa : Exp) : Exp := fun env => Rs.b (fa env) fun ra e1 => out (peek1 o ra e1) e1
section
variable {c : Ct} {W : WX} {X : Cx} {ta tb : TE} {fa fb : Exp} {r : R2} {o : D → D → Option OV} {a b : Expr} {pos : Pos}
theorem Ev.op (h : Op2 c r o) (ha : Ev RvOk c W ta fa) (hb : Ev RvOk c W tb fb) : Ev RvOk c W (tOp r ta tb) (bin o fa fb) := fun env σ G H r0 Q p => by
  refine ha.use (Step.refl r0) p fun ra e1 v1 G1 H1 s1 _ ok1 p => hb.use s1 p fun rb e2 v2 G2 H2 s2 s12 ok2 p => ?_
  obtain ⟨z, hz, oo⟩ := s2.out p
  have ok1 := ok1.step r0 s1 s12
  have ok2 := ok2.back (H0 := H) s1.al
  unfold peek2 at hz
  cases q1 : peek ra e2 with
  | none => rw [q1] at hz; cases hz
  | some da =>
    cases q2 : peek rb e2 with
    | none => rw [q1, q2] at hz; cases hz
    | some db =>
      rw [q1, q2] at hz
      exact h G2 H2 v1 v2 da db z Q s2.rel.ex (peek_ok s2.rel ok1 q1) (peek_ok s2.rel ok2 q2) hz oo
theorem Ev.un {r : V → Hp → VK → Prop} {o : D → Option OV} (h : Op1 c r o) (ha : Ev RvOk c W ta fa) : Ev RvOk c W (tUn r ta) (un o fa) := fun env σ G H r0 Q p => by
  refine ha.use (Step.refl r0) p fun ra e1 v1 G1 H1 s1 _ ok1 p => ?_
  obtain ⟨z, hz, oo⟩ := s1.out p
  unfold peek1 at hz
  cases q1 : peek ra e1 with
  | none => rw [q1] at hz; cases hz
  | some da =>
    rw [q1] at hz
    exact h G1 H1 v1 da z Q s1.rel.ex (peek_ok s1.rel ok1 q1) hz oo
theorem SE.op {op : Operator} (ho : OpR X (binaryOp op) r) (h : Op2 (ct X) r o) (ha : SE X W a fa) (hb : SE X W b fb) : SE X W (.BinOp a op b pos) (bin o fa fb) :=
  let ⟨_, p1, q1⟩ := ha; let ⟨_, p2, q2⟩ := hb; ⟨_, pe_op ho p1 p2, q1.op h q2⟩
theorem SE.cmp {op : CmpOp} (ho : OpR X (compareOp op) r) (h : Op2 (ct X) r o) (ha : SE X W a fa) (hb : SE X W b fb) (hm : behindInMarks op b = false := by first | exact nomark _ (by decide) (by decide) | rfl) : SE X W (.Compare a [op] [b] pos) (bin o fa fb) :=
  let ⟨_, p1, q1⟩ := ha; let ⟨_, p2, q2⟩ := hb; ⟨_, pe_cmpR ho p1 p2 hm, q1.op h q2⟩
theorem SE.unop {op : UnaryOp} {r : V → Hp → VK → Prop} {o : D → Option OV} (ho : UnR X (unaryOp op) r) (h : Op1 (ct X) r o) (ha : SE X W a fa) : SE X W (.UnaryOp op a pos) (un o fa) :=
  let ⟨_, p1, q1⟩ := ha; ⟨_, pe_un ho p1, q1.un h⟩
theorem SE.ix (ho : IxR X r) (h : Op2 (ct X) r o) (ha : SE X W a fa) (hb : SE X W b fb) (hs : PlainIx b := by exact fun _ _ => rfl) : SE X W (.Subscript a b pos) (bin o fa fb) :=
  let ⟨_, p1, q1⟩ := ha; let ⟨_, p2, q2⟩ := hb; ⟨_, pe_ix ho p1 p2 hs, q1.op h q2⟩
end

def asB (r : RV) (env : Env) : Option (Rs Bool) := match r with
  | .frz (.bl b) => some (.val b env)
  | _ => none
def tst (f : Exp) : Tst := fun env => Rs.b (f env) asB
def truD : D → Option Bool
  | .non => some false
  | .bl b => some b
  | .int i => some (i != 0)
  | .str s => if s.length ≤ sizeLine then some ((s.length : Int) != 0) else none
  | .lst ds => some (!ds.isEmpty)
  | .scr ds => some (!ds.isEmpty)
  | .tup ds => some (!ds.isEmpty)
  | _ => none
def tru (f : Exp) : Tst := fun env => Rs.b (f env) fun r e1 => match peek r e1 with
  | some d => match truD d with
    | some b => some (.val b e1)
    | none => none
  | none => none
theorem Reps.empty {c : Ct} {G : Hp} {vs : List V} {ds : List D} (r : Reps c G vs ds) : ds.isEmpty = vs.isEmpty := by cases r <;> rfl
theorem tru_ok' {c : Ct} {G H : Hp} {v : V} {d : D} {b : Bool} (x : Ex G H) (w : Vw c G H v d) (e : truD d = some b) : TruV c.K v H b := by
  cases d with
  | non =>
    cases e
    have : v = .non := by
      generalize hd : D.non = d at w
      cases w with
      | rep r => subst hd; exact r.vnon
      | @own a ho o h1 w z => cases o with | dk _ _ => cases z | lst _ => cases hd | obj _ _ _ => cases hd
    subst this; rfl
  | bl b' => cases e; rw [w.bl]; rfl
  | int i => cases e; rw [w.int]; rfl
  | str s =>
    rw [w.str]
    dsimp only [truD] at e
    split at e
    · rename_i hz; cases e; exact ⟨hz, rfl⟩
    · cases e
  | lst ds => cases e; obtain ⟨a, vs, rfl, h, r⟩ := w.lst x; exact .inl ⟨vs, SqL.of h, by rw [r.empty]⟩
  | scr ds => cases e; obtain ⟨a, vs, rfl, h, r⟩ := w.scr x; exact .inl ⟨vs, h, by rw [r.empty]⟩
  | tup ds => cases e; obtain ⟨a, vs, rfl, h, r⟩ := w.tup x; exact .inr (.inl ⟨vs, h, by rw [r.empty]⟩)
  | ty _ => cases e
  | gl _ => cases e
  | obj _ _ _ => cases e
  | exc _ _ _ => cases e
def andT (f g : Tst) : Tst := fun env => Rs.b (f env) fun b e1 => if b = true then g e1 else some (.val false e1)
def orT (f g : Tst) : Tst := fun env => Rs.b (f env) fun b e1 => if b = true then some (.val true e1) else g e1
def notT (f : Tst) : Tst := fun env => Rs.b (f env) fun b e1 => some (.val (!b) e1)
def andE (f g : Exp) : Exp := fun env => Rs.b (tst f env) fun b e1 => if b = true then g e1 else some (.val (.frz (.bl false)) e1)
def orE (f g : Exp) : Exp := fun env => Rs.b (tst f env) fun b e1 => if b = true then some (.val (.frz (.bl true)) e1) else g e1
def notE (f : Exp) : Exp := fun env => Rs.b (tst f env) fun b e1 => some (.val (.frz (.bl (!b))) e1)
def ifE (t : Tst) (f g : Exp) : Exp := fun env => Rs.b (t env) fun b e1 => if b = true then f e1 else g e1
section
variable {c : Ct} {W : WX} {X : Cx} {ta tb : TE} {fa fb : Exp} {t u : TT} {ft gt : Tst} {a b : Expr} {rest : List Expr} {pos : Pos}
theorem Ev.tst (ha : Ev RvOk c W ta fa) : Ev okT c W (tTest ta) (tst fa) := fun env σ G H r0 Q p => by
  refine ha.use (Step.refl r0) p fun ra e1 v1 G1 H1 s1 _ ok1 p => ?_
  unfold asB at p
  split at p
  · rename_i b
    exact ⟨b, Rep.vbl ok1, p b G1 H1 s1 rfl⟩
  · exact p.elim
theorem Ev.tru (ha : Ev RvOk c W ta fa) : Ev okT c W (fun σ H Q => ta σ H fun x H' => ∃ k, TruV c.K x H' k ∧ Q k H') (tru fa) := fun env σ G H r0 Q p => by
  refine ha.use (Step.refl r0) p fun ra e1 v1 G1 H1 s1 _ ok1 p => ?_
  split at p
  · rename_i d q1
    split at p
    · rename_i b q2
      exact ⟨b, tru_ok' s1.rel.ex (peek_ok s1.rel ok1 q1) q2, p b G1 H1 s1 rfl⟩
    · exact p.elim
  · exact p.elim
theorem Ev.and (ha : Ev okT c W t ft) (hb : Ev okT c W u gt) : Ev okT c W (tAnd t u) (andT ft gt) := fun env σ G H r0 Q p => by
  refine ha.use (Step.refl r0) p fun ra e1 v1 G1 H1 s1 _ ok1 p => ?_
  have ok1 : v1 = ra := ok1
  subst ok1
  cases v1 with
  | true =>
    rw [if_pos rfl] at p ⊢
    refine hb.use (k := fun b e => some (.val b e)) s1 (by cases q : gt e1 with | none => rw [q] at p; exact p | some er => rw [q] at p; cases er <;> exact p) fun rb e2 v2 G2 H2 s2 _ ok2 p => ?_
    exact p v2 G2 H2 s2 ok2
  | false =>
    rw [if_neg Bool.false_ne_true] at p ⊢
    exact p false G1 H1 s1 rfl
theorem Ev.or (ha : Ev okT c W t ft) (hb : Ev okT c W u gt) : Ev okT c W (tOr t u) (orT ft gt) := fun env σ G H r0 Q p => by
  refine ha.use (Step.refl r0) p fun ra e1 v1 G1 H1 s1 _ ok1 p => ?_
  have ok1 : v1 = ra := ok1
  subst ok1
  cases v1 with
  | false =>
    rw [if_neg Bool.false_ne_true] at p ⊢
    refine hb.use (k := fun b e => some (.val b e)) s1 (by cases q : gt e1 with | none => rw [q] at p; exact p | some er => rw [q] at p; cases er <;> exact p) fun rb e2 v2 G2 H2 s2 _ ok2 p => ?_
    exact p v2 G2 H2 s2 ok2
  | true =>
    rw [if_pos rfl] at p ⊢
    exact p true G1 H1 s1 rfl
theorem Ev.not (ha : Ev okT c W t ft) : Ev okT c W (tNot t) (notT ft) := fun env σ G H r0 Q p => by
  refine ha.use (Step.refl r0) p fun ra e1 v1 G1 H1 s1 _ ok1 p => ?_
  have ok1 : v1 = ra := ok1
  subst ok1
  exact p _ G1 H1 s1 rfl
/-- the rest of an expression, at its end -/
theorem tail_id {α β : Type} {ok : OkRel α β} {σ : L2.St} {env env1 : Env} {G H : Hp} {Q : β → Hp → Prop} {x : Option (Rs α)} (p : Post ok c W σ env G H Q x) : Post ok c W σ env G H Q (Rs.b x fun a e => some (.val a e)) := by
  cases x with
  | none => exact p
  | some er => cases er <;> exact p
theorem Ev.last {tb : TE} {fb : Exp} (hb : Ev RvOk c W tb fb) {σ : L2.St} {env env1 : Env} {G H G1 H1 : Hp} (s : Step c σ env G H env1 G1 H1) {Q : VK} (p : Post RvOk c W σ env G H Q (fb env1)) : tb σ H1 Q :=
  hb.use s (tail_id (env1 := env1) p) fun rb e2 v2 G2 H2 s2 _ ok2 p => p v2 G2 H2 s2 (ok2.back s.al)
theorem Ev.andV (ha : Ev RvOk c W ta fa) (hb : Ev RvOk c W tb fb) : Ev RvOk c W (tAndV ta tb) (andE fa fb) := fun env σ G H r0 Q p => by
  refine ha.tst.use (Step.refl r0) p fun ra e1 v1 G1 H1 s1 _ ok1 p => ?_
  have ok1 : v1 = ra := ok1
  subst ok1
  cases v1 with
  | true => rw [if_pos rfl] at p ⊢; exact hb.last s1 p
  | false => rw [if_neg Bool.false_ne_true] at p ⊢; exact p _ G1 H1 s1 .bl
theorem Ev.orV (ha : Ev RvOk c W ta fa) (hb : Ev RvOk c W tb fb) : Ev RvOk c W (tOrV ta tb) (orE fa fb) := fun env σ G H r0 Q p => by
  refine ha.tst.use (Step.refl r0) p fun ra e1 v1 G1 H1 s1 _ ok1 p => ?_
  have ok1 : v1 = ra := ok1
  subst ok1
  cases v1 with
  | false => rw [if_neg Bool.false_ne_true] at p ⊢; exact hb.last s1 p
  | true => rw [if_pos rfl] at p ⊢; exact p _ G1 H1 s1 .bl
theorem Ev.notV (ha : Ev RvOk c W ta fa) : Ev RvOk c W (tNotV ta) (notE fa) := fun env σ G H r0 Q p => by
  refine ha.tst.use (Step.refl r0) p fun ra e1 v1 G1 H1 s1 _ ok1 p => ?_
  have ok1 : v1 = ra := ok1
  subst ok1
  exact p _ G1 H1 s1 .bl
theorem Ev.ifE (ht : Ev okT c W t ft) (ha : Ev RvOk c W ta fa) (hb : Ev RvOk c W tb fb) : Ev RvOk c W (tIf t ta tb) (ifE ft fa fb) := fun env σ G H r0 Q p => by
  refine ht.use (Step.refl r0) p fun ra e1 v1 G1 H1 s1 _ ok1 p => ?_
  have ok1 : v1 = ra := ok1
  subst ok1
  cases v1 with
  | true => rw [if_pos rfl] at p ⊢; exact ha.last s1 p
  | false => rw [if_neg Bool.false_ne_true] at p ⊢; exact hb.last s1 p

theorem ST.cmp {op : CmpOp} {r : R2} {o : D → D → Option OV} (ho : OpR X (compareOp op) r) (h : Op2 (ct X) r o) (ha : SE X W a fa) (hb : SE X W b fb) (hm : behindInMarks op b = false := by first | exact nomark _ (by decide) (by decide) | rfl) : ST X W (.Compare a [op] [b] pos) (Zed.tst (bin o fa fb)) :=
  let ⟨_, p1, q1⟩ := ha; let ⟨_, p2, q2⟩ := hb; ⟨_, pt_cmpR ho p1 p2 hm, (q1.op h q2).tst⟩
/-- any other expression as a test -/
theorem ST.tru (ha : SE X W a fa) (he : ∀ whole, isTrue a X.env whole = (do let v ← whole; standAt a.pos; holding [v] (truthy v)) := by exact fun _ => rfl) : ST X W a (Zed.tru fa) := let ⟨_, p1, q1⟩ := ha; ⟨_, pt_truth p1 he, q1.tru⟩
/-- a chain of and, or -/
def SW (X : Cx) (W : WX) (e : Expr) (f : Tst) : Prop := ∃ t, PW X e t ∧ Ev okT (ct X) W t f
theorem SW.toT {e : Expr} {f : Tst} (h : SW X W e f) : ST X W e f := let ⟨_, p, q⟩ := h; ⟨_, p.pt, q⟩
theorem SW.and1 (h : ST X W a ft) : SW X W (.BoolOp .And [a] pos) ft := let ⟨_, p, q⟩ := h; ⟨_, pw_and1 p, q⟩
theorem SW.or1 (h : ST X W a ft) : SW X W (.BoolOp .Or [a] pos) ft := let ⟨_, p, q⟩ := h; ⟨_, pw_or1 p, q⟩
theorem SW.and (h : ST X W a ft) (k : SW X W (.BoolOp .And (b :: rest) pos) gt) : SW X W (.BoolOp .And (a :: b :: rest) pos) (andT ft gt) := let ⟨_, p, q⟩ := h; let ⟨_, p2, q2⟩ := k; ⟨_, pw_and p p2, q.and q2⟩
theorem SW.or (h : ST X W a ft) (k : SW X W (.BoolOp .Or (b :: rest) pos) gt) : SW X W (.BoolOp .Or (a :: b :: rest) pos) (orT ft gt) := let ⟨_, p, q⟩ := h; let ⟨_, p2, q2⟩ := k; ⟨_, pw_or p p2, q.or q2⟩
theorem ST.not (h : ST X W a ft) : ST X W (.UnaryOp .Not a pos) (notT ft) := let ⟨_, p, q⟩ := h; ⟨_, pt_not p, q.not⟩
theorem SE.one {op : BoolOp} (h : SE X W a fa) : SE X W (.BoolOp op [a] pos) fa := let ⟨_, p, q⟩ := h; ⟨_, pe_one p, q⟩
theorem SE.and (h : SE X W a fa) (k : SE X W (.BoolOp .And (b :: rest) pos) fb) : SE X W (.BoolOp .And (a :: b :: rest) pos) (andE fa fb) := let ⟨_, p, q⟩ := h; let ⟨_, p2, q2⟩ := k; ⟨_, pe_and p p2, q.andV q2⟩
theorem SE.or (h : SE X W a fa) (k : SE X W (.BoolOp .Or (b :: rest) pos) fb) : SE X W (.BoolOp .Or (a :: b :: rest) pos) (orE fa fb) := let ⟨_, p, q⟩ := h; let ⟨_, p2, q2⟩ := k; ⟨_, pe_or p p2, q.orV q2⟩
theorem SE.not (h : SE X W a fa) : SE X W (.UnaryOp .Not a pos) (notE fa) := let ⟨_, p, q⟩ := h; ⟨_, pe_not p, q.notV⟩
theorem SE.ife {e : Expr} (ht : ST X W e ft) (ha : SE X W a fa) (hb : SE X W b fb) : SE X W (.IfExp e a b pos) (Zed.ifE ft fa fb) := let ⟨_, p, q⟩ := ht; let ⟨_, p1, q1⟩ := ha; let ⟨_, p2, q2⟩ := hb; ⟨_, pe_ifExp p p1 p2, q.ifE q1 q2⟩
end
end Zed
set_option Elab.async false
set_option linter.all false
set_option maxRecDepth 100000
set_option maxHeartbeats 2000000
namespace Zed
open PySem L2

def addD : D → D → Option OV
  | .int i, .int j => some (.frz (.int (i + j)))
  | .str s, .str t => if s.length + t.length ≤ sizeLine then some (.frz (.str (s ++ t))) else none
  | .lst ds, .lst es => if ds.length + es.length ≤ sizeLine then some (.new (.lst (ds ++ es))) else none
  | .tup ds, .tup es => if ds.length + es.length ≤ sizeLine then some (.frz (.tup (ds ++ es))) else none
  | _, _ => none
def intD (f : Int → Int → Int) : D → D → Option OV
  | .int i, .int j => some (.frz (.int (f i j)))
  | _, _ => none
def mulOk (i j : Int) : Bool := (decide (-(2 ^ 64) < i) && decide (i < 2 ^ 64)) || (decide (-(2 ^ 64) < j) && decide (j < 2 ^ 64))
def mulD : D → D → Option OV
  | .int i, .int j => if mulOk i j = true then some (.frz (.int (i * j))) else none
  | .lst ds, .int k => if decide (-(2 ^ 63) ≤ k) && decide (k < 2 ^ 63) && decide (ds.length * k.toNat ≤ sizeLine) then some (.new (.lst (List.replicate k.toNat ds).flatten)) else none
  | _, _ => none
def modD : D → D → Option OV
  | .int i, .int j => if 0 < j then some (.frz (.int (i % j))) else none
  | _, _ => none
def fdivD : D → D → Option OV
  | .int i, .int j => if 0 < j ∧ j < 1073741824 then some (.frz (.int (i / j))) else none
  | _, _ => none
theorem Reps.flat {c : Ct} {G : Hp} {vs : List V} {ds : List D} (r : Reps c G vs ds) : ∀ k : Nat, Reps c G (List.replicate k vs).flatten (List.replicate k ds).flatten
  | 0 => .nil
  | k + 1 => by
    rw [List.replicate_succ, List.replicate_succ, List.flatten_cons, List.flatten_cons]
    exact r.append (Reps.flat r k)
section
variable {c : Ct} {K : PySem.W.Frag}
theorem Vw.repT {G H : Hp} {v : V} {ds : List D} (w : Vw c G H v (.tup ds)) : Rep c G v (.tup ds) := by
  generalize hd : D.tup ds = d at w
  cases w with
  | rep r => exact r
  | @own a ho o h1 w z => cases o <;> cases hd
def rAddA (K : PySem.W.Frag) : R2 := fun x y H Q => rI0 (fun i j => .int (i + j)) x y H Q ∨ (∃ i j, x = .str i ∧ y = .str j ∧ i.length + j.length ≤ sizeLine ∧ Q (.str (i ++ j)) H) ∨ rCat x y H Q ∨ rCatA K x y H Q
theorem op_addA {X : Cx} : OpR X (binaryOp .Add) (rAddA X.K) := op_add.or (op_add_str.or (op_cat.or op_catA))
theorem o_add : Op2 c (rAddA c.K) addD := by
  intro G H v w d e z Q x wd we ez oo
  cases d <;> cases e <;> first | (cases ez; done) | skip
  · cases ez; exact .inl ⟨_, _, wd.int, we.int, oo.int x⟩
  · dsimp only [addD] at ez
    split at ez
    · rename_i hz; cases ez; exact .inr (.inl ⟨_, _, wd.str, we.str, hz, oo.str x⟩)
    · cases ez
  · dsimp only [addD] at ez
    split at ez
    · rename_i hz
      cases ez
      obtain ⟨a, vs, e1, h1, r1⟩ := wd.tup x
      obtain ⟨b, ws, e2, h2, r2⟩ := we.tup x
      refine .inr (.inr (.inr ⟨a, b, vs, ws, e1, e2, h1, h2, by rw [r1.length, r2.length]; exact hz, fun z1 => ?_, fun _ z2 => ?_, fun _ _ p hp => oo.tup x (r1.append r2) hp⟩))
      · subst z1; cases r1
        subst e2
        exact oo.rep x we.repT
      · subst z2; cases r2
        subst e1
        exact oo.rep x (by simpa using wd.repT)
    · cases ez
  · dsimp only [addD] at ez
    split at ez
    · rename_i hz
      cases ez
      obtain ⟨a, vs, e1, h1, r1⟩ := wd.lst x
      obtain ⟨b, ws, e2, h2, r2⟩ := we.lst x
      exact .inr (.inr (.inl ⟨a, b, vs, ws, e1, e2, h1, h2, by rw [r1.length, r2.length]; exact hz, fun p hp => oo.lst x (r1.append r2) hp⟩))
    · cases ez
theorem o_int {f : Int → Int → Int} : Op2 c (rI0 fun i j => .int (f i j)) (intD f) := by
  intro G H v w d e z Q x wd we ez oo
  cases d <;> cases e <;> first | (cases ez; done) | skip
  cases ez; exact ⟨_, _, wd.int, we.int, oo.int x⟩
theorem mulOk_of {i j : Int} (h : mulOk i j = true) : CMul i j := by
  unfold mulOk at h
  rw [Bool.or_eq_true, Bool.and_eq_true, Bool.and_eq_true] at h
  rcases h with ⟨h1, h2⟩ | ⟨h1, h2⟩
  · exact .inl ⟨of_decide_eq_true h1, of_decide_eq_true h2⟩
  · exact .inr ⟨of_decide_eq_true h1, of_decide_eq_true h2⟩
def rMulA : R2 := fun x y H Q => rI CMul (fun i j => .int (i * j)) x y H Q ∨ rRep x y H Q
theorem op_mulA {X : Cx} : OpR X (binaryOp .Mult) rMulA := op_mul.or op_rep
theorem o_mul : Op2 c rMulA mulD := by
  intro G H v w d e z Q x wd we ez oo
  cases d <;> cases e <;> first | (cases ez; done) | skip
  · dsimp only [mulD] at ez
    split at ez
    · rename_i hz; cases ez; exact .inl ⟨_, _, wd.int, we.int, mulOk_of hz, oo.int x⟩
    · cases ez
  · dsimp only [mulD] at ez
    split at ez
    · rename_i hz
      cases ez
      rw [Bool.and_eq_true, Bool.and_eq_true] at hz
      obtain ⟨a, vs, e1, h1, r1⟩ := wd.lst x
      exact .inr ⟨a, _, vs, e1, we.int, h1, of_decide_eq_true hz.1.1, of_decide_eq_true hz.1.2, by rw [r1.length]; exact of_decide_eq_true hz.2, fun p hp => oo.lst x (r1.flat _) hp⟩
    · cases ez
theorem o_mod : Op2 c (rI (fun _ j => 0 < j) fun i j => .int (i % j)) modD := by
  intro G H v w d e z Q x wd we ez oo
  cases d <;> cases e <;> first | (cases ez; done) | skip
  dsimp only [modD] at ez
  split at ez
  · rename_i hz; cases ez; exact ⟨_, _, wd.int, we.int, hz, oo.int x⟩
  · cases ez
theorem o_fdiv : Op2 c (rI CDiv fun i j => .int (i / j)) fdivD := by
  intro G H v w d e z Q x wd we ez oo
  cases d <;> cases e <;> first | (cases ez; done) | skip
  dsimp only [fdivD] at ez
  split at ez
  · rename_i hz; cases ez; exact ⟨_, _, wd.int, we.int, hz, oo.int x⟩
  · cases ez
end

def cmpD (f : Int → Int → Bool) : D → D → Option OV
  | .int i, .int j => some (.frz (.bl (f i j)))
  | _, _ => none
theorem o_cmp {c : Ct} {f : Int → Int → Bool} : Op2 c (rI0 fun i j => .bl (f i j)) (cmpD f) := by
  intro G H v w d e z Q x wd we ez oo
  cases d <;> cases e <;> first | (cases ez; done) | skip
  cases ez; exact ⟨_, _, wd.int, we.int, oo.bl x⟩
abbrev ltD := cmpD fun i j => decide (i < j)
abbrev leD := cmpD fun i j => decide (i ≤ j)
abbrev gtD := cmpD fun i j => decide (j < i)
abbrev geD := cmpD fun i j => decide (j ≤ i)

mutual
def D.py : D → PyData
  | .non => .none
  | .bl b => .bool b
  | .int i => .int i
  | .str s => .str s
  | .tup ds => .tuple (D.pys ds)
  | .lst ds => .list (D.pys ds)
  | _ => .dict []
def D.pys : List D → List PyData
  | [] => []
  | d :: ds => d.py :: D.pys ds
end
/-- is it such data? -/
def D.pl (d : D) : Bool := SeqAt.shaped d.py
theorem canLay0_dict {l : List (PyData × PyData)} : PyData.canLay0 (.dict l) = false := rfl
section
variable {c : Ct} {G H : Hp}
mutual
theorem Rep.dp {v : V} {d : D} (x : Ex G H) (r : Rep c G v d) (e : d.py.canLay0 = true) : Dp c.K H v d.py := by
  cases r with
  | non => exact .non
  | bl => exact .bl _
  | int => exact .int _
  | str => exact .str _
  | ty => cases e
  | gl _ => cases e
  | tup h r => exact .tup (x.st h) (Reps.dp x r e)
  | lst h r => exact .lst (SqL.of (x _ _ h)) (Reps.dp x r e)
  | scr h r => cases e
  | obj _ _ _ _ => cases e
  | exc0 _ _ => cases e
  | exc _ _ _ _ _ => cases e
theorem Reps.dp {vs : List V} {ds : List D} (x : Ex G H) (r : Reps c G vs ds) (e : PyData.canLayAll0 (D.pys ds) = true) : DpAll c.K H vs (D.pys ds) := by
  cases r with
  | nil => exact .nil
  | cons h r =>
    have e' := Bool.and_eq_true_iff.mp (show (_ && _) = true from e)
    exact .cons (Rep.dp x h e'.1) (Reps.dp x r e'.2)
end
theorem Vw.dp {v : V} {d : D} (x : Ex G H) (w : Vw c G H v d) (e : d.pl = true) : Dp c.K H v d.py := by
  have e1 : d.py.canLay0 = true := SeqAt.canLay_of_shaped e
  cases w with
  | rep r => exact r.dp x e1
  | @own a ho o h1 w z =>
    cases o with
    | lst ds =>
      obtain ⟨vs, e2, r⟩ := w
      subst e2
      exact .lst (SqL.of h1) (r.dp x e1)
    | obj _ _ _ => cases e1
    | dk _ _ => cases z
end
/-- is the one the other? none where that is not to be told -/
def eqDD (d e : D) : Option Bool := match d, e with
  | .int i, .int j => some (decide (i = j))
  | .str s, .str t => some (decide (s = t))
  | .bl a, .bl b => some (decide (a = b))
  | _, _ => if d.pl && e.pl then some (PyData.eqv d.py e.py) else none
def eqD (d e : D) : Option OV := (eqDD d e).map fun b => .frz (.bl b)
def neD (d e : D) : Option OV := (eqDD d e).map fun b => .frz (.bl (!b))
def rEqA (K : PySem.W.Frag) : R2 := fun x y H Q => rEq x y H Q ∨ rEqD K x y H Q
def rNeA (K : PySem.W.Frag) : R2 := fun x y H Q => rNe x y H Q ∨ rNeD K x y H Q
theorem op_eqA {X : Cx} (hu : X.A.units + 64 < cLine) : OpR X (compareOp .Eq) (rEqA X.K) := op_eq.or (op_eqD hu)
theorem op_neA {X : Cx} (hu : X.A.units + 64 < cLine) : OpR X (compareOp .NotEq) (rNeA X.K) := op_ne.or (op_neD hu)
theorem eq_cases {d e : D} {b : Bool} (h : eqDD d e = some b) : (∃ i j, d = .int i ∧ e = .int j ∧ b = decide (i = j)) ∨ (∃ i j, d = .str i ∧ e = .str j ∧ b = decide (i = j)) ∨ (∃ i j, d = .bl i ∧ e = .bl j ∧ b = decide (i = j)) ∨ (d.pl = true ∧ e.pl = true ∧ b = PyData.eqv d.py e.py) := by
  unfold eqDD at h
  split at h
  · cases h; exact .inl ⟨_, _, rfl, rfl, rfl⟩
  · cases h; exact .inr (.inl ⟨_, _, rfl, rfl, rfl⟩)
  · cases h; exact .inr (.inr (.inl ⟨_, _, rfl, rfl, rfl⟩))
  · split at h
    · rename_i q; cases h
      rw [Bool.and_eq_true] at q
      exact .inr (.inr (.inr ⟨q.1, q.2, rfl⟩))
    · cases h
section
variable {c : Ct}
theorem o_eq : Op2 c (rEqA c.K) eqD := by
  intro G H v w d e z Q x wd we ez oo
  unfold eqD at ez
  cases q : eqDD d e with
  | none => rw [q] at ez; cases ez
  | some b =>
    rw [q] at ez
    cases ez
    rcases eq_cases q with ⟨i, j, rfl, rfl, rfl⟩ | ⟨i, j, rfl, rfl, rfl⟩ | ⟨i, j, rfl, rfl, rfl⟩ | ⟨h1, h2, rfl⟩
    · rw [wd.int, we.int]; refine .inl ⟨rfl, ?_⟩
      have := oo.bl x
      simpa using this
    · rw [wd.str, we.str]; refine .inl ⟨rfl, ?_⟩
      have := oo.bl x
      simpa using this
    · rw [wd.bl, we.bl]; refine .inl ⟨rfl, ?_⟩
      have := oo.bl x
      simpa using this
    · exact .inr ⟨_, _, wd.dp x h1, we.dp x h2, h1, h2, oo.bl x⟩
theorem o_ne : Op2 c (rNeA c.K) neD := by
  intro G H v w d e z Q x wd we ez oo
  unfold neD at ez
  cases q : eqDD d e with
  | none => rw [q] at ez; cases ez
  | some b =>
    rw [q] at ez
    cases ez
    rcases eq_cases q with ⟨i, j, rfl, rfl, rfl⟩ | ⟨i, j, rfl, rfl, rfl⟩ | ⟨i, j, rfl, rfl, rfl⟩ | ⟨h1, h2, rfl⟩
    · rw [wd.int, we.int]; refine .inl ⟨rfl, ?_⟩
      have := oo.bl x
      simpa using this
    · rw [wd.str, we.str]; refine .inl ⟨rfl, ?_⟩
      have := oo.bl x
      simpa using this
    · rw [wd.bl, we.bl]; refine .inl ⟨rfl, ?_⟩
      have := oo.bl x
      simpa using this
    · exact .inr ⟨_, _, wd.dp x h1, we.dp x h2, h1, h2, oo.bl x⟩
end

def isN : D → D → Option OV
  | .non, .non => some (.frz (.bl true))
  | _, .non => some (.frz (.bl false))
  | _, _ => none
def notN : D → D → Option OV
  | .non, .non => some (.frz (.bl false))
  | _, .non => some (.frz (.bl true))
  | _, _ => none
theorem Vw.non {c : Ct} {G H : Hp} {v : V} (w : Vw c G H v .non) : v = .non := by
  generalize hd : D.non = d at w
  cases w with
  | rep r => subst hd; exact r.vnon
  | @own a ho o h1 w z => cases o with | dk _ _ => cases z | lst _ => cases hd | obj _ _ _ => cases hd
theorem Vw.nn {c : Ct} {G H : Hp} {v : V} {d : D} (w : Vw c G H v d) (h : d ≠ .non) : v ≠ .non := by
  intro e
  subst e
  cases w with
  | rep r => cases r; exact h rfl
theorem o_isN {c : Ct} : Op2 c (fun x y H Q => y = .non ∧ Q (.bl (decide (x = .non))) H) isN := by
  intro G H v w d e z Q x wd we ez oo
  cases e <;> first | (cases d <;> cases ez; done) | skip
  refine ⟨we.non, ?_⟩
  by_cases hd : d = .non
  · subst hd; cases ez; rw [wd.non]; exact oo.bl x
  · rw [decide_eq_false (wd.nn hd)]
    have : z = .frz (.bl false) := by cases d <;> first | (cases ez; rfl) | exact (hd rfl).elim
    subst this; exact oo.bl x
theorem o_notN {c : Ct} : Op2 c (fun x y H Q => y = .non ∧ Q (.bl (!decide (x = .non))) H) notN := by
  intro G H v w d e z Q x wd we ez oo
  cases e <;> first | (cases d <;> cases ez; done) | skip
  refine ⟨we.non, ?_⟩
  by_cases hd : d = .non
  · subst hd; cases ez; rw [wd.non]; exact oo.bl x
  · rw [decide_eq_false (wd.nn hd)]
    have : z = .frz (.bl true) := by cases d <;> first | (cases ez; rfl) | exact (hd rfl).elim
    subst this; exact oo.bl x

def D.flat : D → Bool
  | .non => true
  | .bl _ => true
  | .int _ => true
  | .str _ => true
  | _ => false
def D.v : D → V
  | .bl b => .bl b
  | .int i => .int i
  | .str s => .str s
  | _ => .non
theorem Rep.flat {c : Ct} {G : Hp} {v : V} {d : D} (r : Rep c G v d) (h : d.flat = true) : v = d.v ∧ flatV v = true := by
  cases r <;> first | exact ⟨rfl, rfl⟩ | cases h
theorem Reps.flats {c : Ct} {G : Hp} {vs : List V} {ds : List D} (r : Reps c G vs ds) (h : ds.all D.flat = true) : vs = ds.map D.v ∧ vs.all flatV = true := by
  induction vs generalizing ds with
  | nil => cases r; exact ⟨rfl, rfl⟩
  | cons v vs ih =>
    cases r with
    | cons r1 r2 =>
      rw [List.all_cons, Bool.and_eq_true] at h
      obtain ⟨e1, f1⟩ := r1.flat h.1
      obtain ⟨e2, f2⟩ := ih r2 h.2
      exact ⟨by rw [List.map_cons, ← e1, ← e2], by rw [List.all_cons, f1, f2]; rfl⟩
theorem Vw.flat {c : Ct} {G H : Hp} {v : V} {d : D} (w : Vw c G H v d) (h : d.flat = true) : v = d.v ∧ flatV v = true := by
  cases w with
  | rep r => exact r.flat h
  | @own a ho o h1 w z => cases o with | dk _ _ => cases z | lst _ => cases h | obj _ _ _ => cases h
def inF (d : D) (ds : List D) : Bool := ds.any fun e => eqV e.v d.v
/-- is d among ds? -/
def inDs (d : D) (ds : List D) : Option Bool := if d.flat && ds.all D.flat then some (inF d ds) else none
def inDD : D → D → Option Bool
  | .str s, .str t => match s.cps with
    | ⟨[k]⟩ => some (decide (k ∈ t.cps.toList))
    | _ => none
  | d, .lst es => match inDs d es with
    | some b => some b
    | none => if d.pl && (D.lst es).pl then some ((D.pys es).any fun z => PyData.eqv z d.py) else none
  | d, .tup es => inDs d es
  | _, _ => none
def inD (d e : D) : Option OV := (inDD d e).map fun b => .frz (.bl b)
def niD (d e : D) : Option OV := (inDD d e).map fun b => .frz (.bl (!b))
def rInA (K : PySem.W.Frag) : R2 := fun x y H Q => (∃ (c : Nat) (z : Str), x = .str ⟨#[c]⟩ ∧ y = .str z ∧ Q (.bl (decide (c ∈ z.cps.toList))) H) ∨ rIn K false x y H Q ∨ rInD K x y H Q
def rNiA (K : PySem.W.Frag) : R2 := fun x y H Q => (∃ (c : Nat) (z : Str), x = .str ⟨#[c]⟩ ∧ y = .str z ∧ Q (.bl (!decide (c ∈ z.cps.toList))) H) ∨ rIn K true x y H Q ∨ rNotInD K x y H Q
theorem op_inA {X : Cx} (hu : X.A.units + 65 < cLine) : OpR X (compareOp .In) (rInA X.K) := op_in_sign.or (op_in_seq.or (op_inD hu))
theorem op_niA {X : Cx} (hu : X.A.units + 65 < cLine) : OpR X (compareOp .NotIn) (rNiA X.K) := op_notIn_sign.or (op_notIn_seq.or (op_notInD hu))
theorem any_map {d : D} {es : List D} : inV d.v (es.map D.v) = inF d es := by
  unfold inV inF
  rw [List.any_map]
  rfl
theorem in_cases {d e : D} {b : Bool} (h : inDD d e = some b) :
    (∃ k t, d = .str ⟨#[k]⟩ ∧ e = .str t ∧ b = decide (k ∈ t.cps.toList)) ∨ (∃ es, (e = .lst es ∨ e = .tup es) ∧ d.flat = true ∧ es.all D.flat = true ∧ b = inF d es) ∨
      (∃ es, e = .lst es ∧ d.pl = true ∧ (D.lst es).pl = true ∧ b = (D.pys es).any fun z => PyData.eqv z d.py) := by
  have seq : ∀ {es : List D} {b' : Bool}, inDs d es = some b' → d.flat = true ∧ es.all D.flat = true ∧ b' = inF d es := fun {es b'} q => by
    unfold inDs at q
    split at q
    · rename_i z; rw [Bool.and_eq_true] at z; cases q; exact ⟨z.1, z.2, rfl⟩
    · cases q
  unfold inDD at h
  split at h
  · rename_i s t
    split at h
    · rename_i k hk
      cases h
      obtain ⟨cs⟩ := s
      exact .inl ⟨k, t, by rw [show cs = ⟨[k]⟩ from hk], rfl, rfl⟩
    · cases h
  · rename_i es
    split at h
    · rename_i b' q
      cases h
      obtain ⟨h1, h2, h3⟩ := seq q
      exact .inr (.inl ⟨es, .inl rfl, h1, h2, h3⟩)
    · split at h
      · rename_i z; rw [Bool.and_eq_true] at z; cases h
        exact .inr (.inr ⟨es, rfl, z.1, z.2, rfl⟩)
      · cases h
  · rename_i es
    obtain ⟨h1, h2, h3⟩ := seq h
    exact .inr (.inl ⟨es, .inr rfl, h1, h2, h3⟩)
  · cases h
theorem o_in {c : Ct} : Op2 c (rInA c.K) inD := by
  intro G H v w d e z Q x wd we ez oo
  unfold inD at ez
  cases q : inDD d e with
  | none => rw [q] at ez; cases ez
  | some b =>
    rw [q] at ez
    cases ez
    rcases in_cases q with ⟨k, t, rfl, rfl, rfl⟩ | ⟨es, he, h1, h2, rfl⟩ | ⟨es, rfl, h1, h2, rfl⟩
    · exact .inl ⟨k, t, wd.str, we.str, oo.bl x⟩
    · obtain ⟨e1, f1⟩ := wd.flat h1
      rcases he with rfl | rfl
      · obtain ⟨a, vs, e2, h, r⟩ := we.lst x
        obtain ⟨e3, f3⟩ := r.flats h2
        refine .inr (.inl ⟨a, vs, e2, .inl (SqL.of h), f1, f3, ?_⟩)
        rw [e1, e3, any_map]; exact oo.bl x
      · obtain ⟨a, vs, e2, h, r⟩ := we.tup x
        obtain ⟨e3, f3⟩ := r.flats h2
        refine .inr (.inl ⟨a, vs, e2, .inr h, f1, f3, ?_⟩)
        rw [e1, e3, any_map]; exact oo.bl x
    · exact .inr (.inr ⟨_, _, wd.dp x h1, we.dp x h2, h1, h2, oo.bl x⟩)
theorem o_ni {c : Ct} : Op2 c (rNiA c.K) niD := by
  intro G H v w d e z Q x wd we ez oo
  unfold niD at ez
  cases q : inDD d e with
  | none => rw [q] at ez; cases ez
  | some b =>
    rw [q] at ez
    cases ez
    rcases in_cases q with ⟨k, t, rfl, rfl, rfl⟩ | ⟨es, he, h1, h2, rfl⟩ | ⟨es, rfl, h1, h2, rfl⟩
    · exact .inl ⟨k, t, wd.str, we.str, oo.bl x⟩
    · obtain ⟨e1, f1⟩ := wd.flat h1
      rcases he with rfl | rfl
      · obtain ⟨a, vs, e2, h, r⟩ := we.lst x
        obtain ⟨e3, f3⟩ := r.flats h2
        refine .inr (.inl ⟨a, vs, e2, .inl (SqL.of h), f1, f3, ?_⟩)
        rw [e1, e3, any_map]; exact oo.bl x
      · obtain ⟨a, vs, e2, h, r⟩ := we.tup x
        obtain ⟨e3, f3⟩ := r.flats h2
        refine .inr (.inl ⟨a, vs, e2, .inr h, f1, f3, ?_⟩)
        rw [e1, e3, any_map]; exact oo.bl x
    · exact .inr (.inr ⟨_, _, wd.dp x h1, we.dp x h2, h1, h2, oo.bl x⟩)

def ixD : D → D → Option OV
  | .lst ds, .int i => (atI ds i).map OV.frz
  | .scr ds, .int i => (atI ds i).map OV.frz
  | .tup ds, .int i => (atI ds i).map OV.frz
  | .str s, .int i => if s.length ≤ sizeLine then (atI s.cps.toList i).map fun k => .frz (.str ⟨#[k]⟩) else none
  | _, _ => none
theorem Reps.at {c : Ct} {G : Hp} {vs : List V} {ds : List D} (r : Reps c G vs ds) {i : Int} {d : D} (h : atI ds i = some d) : ∃ v, atI vs i = some v ∧ Rep c G v d := by
  unfold atI at h ⊢
  rw [r.length]
  cases q : ixN ds.length i with
  | none => rw [q] at h; cases h
  | some j => rw [q] at h; exact r.get h
theorem o_ix {c : Ct} : Op2 c (rIx c.K) ixD := by
  intro G H v w d e z Q x wd we ez oo
  have fin : ∀ {ds : List D} {i : Int} {vs : List V}, Reps c G vs ds → (atI ds i).map OV.frz = some z → ∃ u, atI vs i = some u ∧ Q u H := fun {ds i vs} r q => by
    cases q1 : atI ds i with
    | none => rw [q1] at q; cases q
    | some d' =>
      rw [q1] at q
      cases q
      obtain ⟨u, h1, h2⟩ := r.at q1
      exact ⟨u, h1, oo.rep x h2⟩
  cases d <;> cases e <;> first | (cases ez; done) | skip
  · dsimp only [ixD] at ez
    split at ez
    · rename_i s i hz
      cases q1 : atI s.cps.toList i with
      | none => rw [q1] at ez; cases ez
      | some k =>
        rw [q1] at ez
        cases ez
        exact .inr (.inr ⟨s, i, k, wd.str, we.int, hz, q1, oo.str x⟩)
    · cases ez
  · obtain ⟨a, vs, e1, h, r⟩ := wd.tup x
    obtain ⟨u, h1, q⟩ := fin r ez
    exact .inr (.inl ⟨a, vs, _, u, e1, we.int, h, h1, q⟩)
  · obtain ⟨a, vs, e1, h, r⟩ := wd.lst x
    obtain ⟨u, h1, q⟩ := fin r ez
    exact .inl ⟨a, vs, _, u, e1, we.int, SqL.of h, h1, q⟩
  · obtain ⟨a, vs, e1, h, r⟩ := wd.scr x
    obtain ⟨u, h1, q⟩ := fin r ez
    exact .inl ⟨a, vs, _, u, e1, we.int, h, h1, q⟩
end Zed
set_option Elab.async false
set_option linter.all false
set_option maxRecDepth 100000
set_option maxHeartbeats 2000000
namespace Zed
open PySem L2

def NewAt (v : V) (r : RV) (a : Addr) : Prop := v = .ref a ∧ ∃ o, r = .new o
def okA : OkRel (List RV) (List V) := fun c σ H0 env G H vs rs => vs.length = rs.length ∧ (∀ (i : Nat) v r, vs[i]? = some v → rs[i]? = some r → RvOk c σ H0 env G H v r) ∧
  ∀ (i j : Nat) v w r q a, vs[i]? = some v → vs[j]? = some w → rs[i]? = some r → rs[j]? = some q → NewAt v r a → NewAt w q a → i = j
abbrev Args := Env → Option (Rs (List RV))
def aNil : Args := fun env => some (.val [] env)
def aCons (f : Exp) (g : Args) : Args := fun env => Rs.b (f env) fun r e1 => Rs.b (g e1) fun rs e2 => some (.val (r :: rs) e2)
def SA (X : Cx) (W : WX) (es : List Expr) (f : Args) : Prop := ∃ ta, PA X es ta ∧ Ev okA (ct X) W ta f
/-- settled arguments -/
def okDs : OkRel (List D) (List V) := fun c _ _ _ G _ vs ds => Reps c G vs ds
abbrev Dargs := Env → Option (Rs (List D))
def dNil : Dargs := fun env => some (.val [] env)
def dCons (f : Exp) (g : Dargs) : Dargs := fun env => Rs.b (fzE f env) fun d e1 => Rs.b (g e1) fun ds e2 => some (.val (d :: ds) e2)
def SDA (X : Cx) (W : WX) (es : List Expr) (f : Dargs) : Prop := ∃ ta, PA X es ta ∧ Ev okDs (ct X) W ta f
section
variable {c : Ct} {W : WX} {X : Cx} {e : Expr} {es : List Expr} {f : Exp} {g : Args} {h : Dargs}
theorem SA.nil : SA X W [] aNil := ⟨_, pa_nil, fun env σ G H r0 Q p => p [] G H (Step.refl r0) ⟨rfl, fun i v r h => by simp at h, fun i j v w r q a h => by simp at h⟩⟩
theorem Ev.acons {te : TE} {ta : TA} (hf : Ev RvOk c W te f) (hg : Ev okA c W ta g) : Ev okA c W (tCons te ta) (aCons f g) := fun env σ G H r0 Q p => by
  refine hf.use (Step.refl r0) p fun r e1 v1 G1 H1 s1 _ ok1 p => hg.use s1 p fun rs e2 vs G2 H2 s2 s12 ok2 p => ?_
  have k1 := ok1.step r0 s1 s12
  obtain ⟨hl, hr, hd⟩ := ok2
  refine p (v1 :: vs) G2 H2 s2 ⟨by rw [List.length_cons, List.length_cons, hl], fun i v r' h1 h2 => ?_, fun i j v w r' q a h1 h2 h3 h4 n1 n2 => ?_⟩
  · cases i with
    | zero => simp at h1 h2; subst h1 h2; exact k1
    | succ i => exact (hr i v r' (by simpa using h1) (by simpa using h2)).back s1.al
  · have cross : ∀ {k : Nat} {u : V} {q' : RV}, vs[k]? = some u → rs[k]? = some q' → NewAt u q' a → ∀ {r0 : RV}, RvOk c σ H e1 G1 H1 v1 r0 → NewAt v1 r0 a → False := fun {k u q'} z1 z2 z3 {r0} z4 z5 => by
      obtain ⟨e, o, rfl⟩ := z3
      obtain ⟨e', o', rfl⟩ := z5
      obtain ⟨b, ho, eb, hb, _⟩ := hr k u _ z1 z2
      obtain ⟨b', ho', eb', _, _, hb', _⟩ := z4
      rw [e] at eb; cases eb
      rw [e'] at eb'; cases eb'
      rw [hb] at hb'; cases hb'
    cases i with
    | zero =>
      cases j with
      | zero => rfl
      | succ j => simp at h1 h3; subst h1 h3; exact (cross (by simpa using h2) (by simpa using h4) n2 ok1 n1).elim
    | succ i =>
      cases j with
      | zero => simp at h2 h4; subst h2 h4; exact (cross (by simpa using h1) (by simpa using h3) n1 ok1 n2).elim
      | succ j => exact congrArg (· + 1) (hd i j v w r' q a (by simpa using h1) (by simpa using h2) (by simpa using h3) (by simpa using h4) n1 n2)
theorem SA.cons (hf : SE X W e f) (hg : SA X W es g) (hs : starEach (e :: es) X.env = (false, eval e X.env) :: starEach es X.env := by rfl) : SA X W (e :: es) (aCons f g) :=
  let ⟨_, p, q⟩ := hf; let ⟨_, p2, q2⟩ := hg; ⟨_, pa_cons p p2 hs, q.acons q2⟩
theorem SDA.nil : SDA X W [] dNil := ⟨_, pa_nil, fun env σ G H r0 Q p => p [] G H (Step.refl r0) .nil⟩
theorem Ev.dcons {te : TE} {ta : TA} (hf : Ev RvOk c W te f) (hg : Ev okDs c W ta h) : Ev okDs c W (tCons te ta) (dCons f h) := fun env σ G H r0 Q p => by
  refine hf.fz.use (Step.refl r0) p fun r e1 v1 G1 H1 s1 _ ok1 p => hg.use s1 p fun rs e2 vs G2 H2 s2 s12 ok2 p => ?_
  exact p (v1 :: vs) G2 H2 s2 (.cons (Rep.mono s12.g ok1) ok2)
theorem SDA.cons (hf : SE X W e f) (hg : SDA X W es h) (hs : starEach (e :: es) X.env = (false, eval e X.env) :: starEach es X.env := by rfl) : SDA X W (e :: es) (dCons f h) :=
  let ⟨_, p, q⟩ := hf; let ⟨_, p2, q2⟩ := hg; ⟨_, pa_cons p p2 hs, q.dcons q2⟩
end

def lstE (g : Dargs) : Exp := fun env => Rs.b (g env) fun ds e1 => if ds.length ≤ sizeLine then some (.val (.new (.lst ds)) e1) else none
def tupE (g : Dargs) : Exp := fun env => Rs.b (g env) fun ds e1 => if ds.length ≤ sizeLine then some (.val (.frz (.tup ds)) e1) else none
section
variable {c : Ct} {W : WX} {X : Cx} {es : List Expr} {g : Dargs} {pos : Pos}
theorem Ev.lst {ta : TA} (h : Ev okDs c W ta g) : Ev RvOk c W (tLst ta) (lstE g) := fun env σ G H r0 Q p => by
  refine h.use (Step.refl r0) p fun ds e1 vs G1 H1 s1 _ ok p => ?_
  split at p
  · rename_i hz
    obtain ⟨z, ez, oo⟩ := s1.out (x := some (.new (.lst ds))) p
    cases ez
    exact ⟨by rw [Reps.length ok]; exact hz, fun q hq => oo.lst s1.rel.ex ok hq⟩
  · exact p.elim
theorem Ev.tup {ta : TA} (h : Ev okDs c W ta g) : Ev RvOk c W (tTup ta) (tupE g) := fun env σ G H r0 Q p => by
  refine h.use (Step.refl r0) p fun ds e1 vs G1 H1 s1 _ ok p => ?_
  split at p
  · rename_i hz
    obtain ⟨z, ez, oo⟩ := s1.out (x := some (.frz (.tup ds))) p
    cases ez
    exact ⟨by rw [Reps.length ok]; exact hz, fun q hq => oo.tup s1.rel.ex ok hq⟩
  · exact p.elim
theorem SE.lst (h : SDA X W es g) : SE X W (.List es pos) (lstE g) := let ⟨_, p, q⟩ := h; ⟨_, pe_lst p, q.lst⟩
theorem SE.tup {k : Nat} (h : SDA X W es g) : SE X W (.Tuple es k pos) (tupE g) := let ⟨_, p, q⟩ := h; ⟨_, pe_tup p, q.tup⟩
end

def okO : OkRel (Option Int) (Option Int) := fun _ _ _ _ _ _ b b' => b = b'
abbrev Part := Env → Option (Rs (Option Int))
def pNone : Part := fun env => some (.val none env)
def pSome (f : Exp) : Part := fun env => Rs.b (f env) fun r e1 => match r with
  | .frz (.int i) => some (.val (some i) e1)
  | _ => none
def cutD {α : Type} (ds : List α) (lo hi : Option Int) : List α := (ds.drop (HT.sIx ds.length 0 lo)).take (HT.sIx ds.length ds.length hi - HT.sIx ds.length 0 lo)
def slD (d : D) (lo hi : Option Int) : Option OV := match d with
  | .lst ds => some (.new (.lst (cutD ds lo hi)))
  | .scr ds => some (.new (.lst (cutD ds lo hi)))
  | .tup ds => some (.frz (.tup (cutD ds lo hi)))
  | .str s => if s.length ≤ sizeLine then some (.frz (.str (cutS s lo hi))) else none
  | _ => none
def slE (f : Exp) (l h : Part) : Exp := fun env => Rs.b (f env) fun r e1 => Rs.b (l e1) fun lo e2 => Rs.b (h e2) fun hi e3 => out (peek1 (fun d => slD d lo hi) r e3) e3
def SO (X : Cx) (W : WX) (e : Option Expr) (f : Part) : Prop := ∃ t, PO X e t ∧ Ev okO (ct X) W t f
def rSlAll (K : PySem.W.Frag) : V → Option Int → Option Int → Hp → VK → Prop := fun x lo hi H Q => rSlL K x lo hi H Q ∨ rSlA K x lo hi H Q ∨ rSlS x lo hi H Q
theorem sl_all {X : Cx} : SlR X (rSlAll X.K) := sl_list.or (sl_tupA.or sl_str)
theorem Reps.cut {c : Ct} {G : Hp} {vs : List V} {ds : List D} (r : Reps c G vs ds) (lo hi : Option Int) : Reps c G (cutV vs lo hi) (cutD ds lo hi) := by
  unfold cutV cutD
  rw [r.length]
  exact (r.drop _).take _
theorem sIx_le (n d : Nat) (o : Option Int) (h : d ≤ n) : HT.sIx n d o ≤ n := HT.sIx_le _ _ h _
theorem cut_whole {ds : List D} {lo hi : Option Int} (h : HT.sIx ds.length 0 lo = 0 ∧ HT.sIx ds.length ds.length hi = ds.length) : cutD ds lo hi = ds := by
  unfold cutD
  rw [h.1, h.2]
  simp
theorem sl_ok {c : Ct} {G H : Hp} {v : V} {d : D} {lo hi : Option Int} {z : OV} {Q : VK} (x : Ex G H) (w : Vw c G H v d) (e : slD d lo hi = some z) (oo : OutOk c G H Q z) : rSlAll c.K v lo hi H Q := by
  cases d <;> first | (cases e; done) | skip
  · dsimp only [slD] at e
    split at e
    · rename_i hz; cases e; exact .inr (.inr ⟨_, w.str, hz, oo.str x⟩)
    · cases e
  · cases e
    obtain ⟨a, vs, e1, h, r⟩ := w.tup x
    refine .inr (.inl ⟨a, vs, e1, h, fun hw => ?_, fun _ p hp => oo.tup x (r.cut lo hi) hp⟩)
    rw [r.length] at hw
    subst e1
    rw [cut_whole hw] at oo
    exact oo.rep x w.repT
  · cases e
    obtain ⟨a, vs, e1, h, r⟩ := w.lst x
    exact .inl ⟨a, vs, e1, SqL.of h, fun p hp => oo.lst x (r.cut lo hi) hp⟩
  · cases e
    obtain ⟨a, vs, e1, h, r⟩ := w.scr x
    exact .inl ⟨a, vs, e1, h, fun p hp => oo.lst x (r.cut lo hi) hp⟩
section
variable {c : Ct} {W : WX} {X : Cx} {e : Expr} {lo hi : Option Expr} {f : Exp} {l h : Part} {pos p2 : Pos}
theorem SO.none : SO X W none pNone := ⟨_, po_none, fun env σ G H r0 Q p => p _ G H (Step.refl r0) rfl⟩
theorem SO.some (hf : SE X W e f) : SO X W (some e) (pSome f) := by
  obtain ⟨te, p1, q⟩ := hf
  refine ⟨_, po_some p1, fun env σ G H r0 Q p => ?_⟩
  refine q.use (Step.refl r0) p fun r e1 v G1 H1 s1 _ ok p => ?_
  split at p
  · rename_i i
    exact ⟨i, Rep.vint ok, p _ G1 H1 s1 rfl⟩
  · exact p.elim
theorem SE.sl (hf : SE X W e f) (hl : SO X W lo l) (hh : SO X W hi h) : SE X W (.Subscript e (.Slice lo hi .none p2) pos) (slE f l h) := by
  obtain ⟨te, p1, q1⟩ := hf
  obtain ⟨tl, p2, q2⟩ := hl
  obtain ⟨th, p3, q3⟩ := hh
  refine ⟨_, pe_slice sl_all p1 p2 p3, fun env σ G H r0 Q p => ?_⟩
  refine q1.use (Step.refl r0) p fun r e1 v G1 H1 s1 _ ok p => q2.use s1 p fun lo e2 lo' G2 H2 s2 s12 ok2 p => q3.use s2 p fun hi e3 hi' G3 H3 s3 s23 ok3 p => ?_
  have ok2 : lo' = lo := ok2
  have ok3 : hi' = hi := ok3
  subst ok2 ok3
  have ok := (ok.step r0 s1 s12).step r0 s2 s23
  obtain ⟨z, hz, oo⟩ := s3.out p
  unfold peek1 at hz
  cases q : peek r e3 with
  | none => rw [q] at hz; cases hz
  | some d => rw [q] at hz; exact sl_ok s3.rel.ex (peek_ok s3.rel ok q) hz oo
end

def look {α : Type} (f : Str) : List Str → List α → Option α
  | n :: ns, d :: ds => if f = n then some d else look f ns ds
  | _, _ => none
def fldD (f : Str) (cs : List Str) : D → Option OV
  | .obj x ns ds => if x ∈ cs then (look f ns ds).map OV.frz else none
  | _ => none
def fldE (f : Str) (cs : List Str) (g : Exp) : Exp := un (fldD f cs) g
/-- the classes cs have objects, f is no attribute of theirs -/
def HasF (c : Ct) (f : Str) (cs : List Str) : Prop := ∀ x ∈ cs, ∀ C, c.mg x = some (.ref C) → Cls c.K C ∧ NoAttr c.K C f
theorem Reps.look {c : Ct} {G : Hp} {f : Str} {d : D} : ∀ {fs : List (Str × V)} {ds : List D}, Reps c G (fs.map (·.2)) ds → look f (fs.map (·.1)) ds = some d → ∃ v, fs.lookup f = some v ∧ Rep c G v d
  | [], ds, r, h => by cases ds <;> cases h
  | (n, v) :: fs, ds, r, h => by
    cases r with
    | @cons _ d' _ ds' r1 r2 =>
      have h : (if f = n then some d' else Zed.look f (fs.map (·.1)) ds') = some d := h
      by_cases e : f = n
      · rw [if_pos e] at h
        cases h
        exact ⟨v, by rw [e]; simp [List.lookup], r1⟩
      · rw [if_neg e] at h
        obtain ⟨w, h1, h2⟩ := Reps.look r2 h
        refine ⟨w, ?_, h2⟩
        have : (f == n) = false := by simpa using e
        simp [List.lookup, this, h1]
theorem SE.fld {W : WX} {X : Cx} {e : Expr} {f : Str} {g : Exp} {pos : Pos} (cs : List Str) (hF : HasF (ct X) f cs) (hg : SE X W e g) (hb : attributeBase e f X.env (eval e X.env) = eval e X.env := by rfl) : SE X W (.Attribute e f pos) (fldE f cs g) := by
  obtain ⟨te, p1, q⟩ := hg
  refine ⟨_, pe_fld p1 hb, fun env σ G H r0 Q p => ?_⟩
  refine q.use (Step.refl r0) p fun r e1 v G1 H1 s1 _ ok p => ?_
  obtain ⟨z, hz, oo⟩ := s1.out p
  unfold peek1 at hz
  cases q : peek r e1 with
  | none => rw [q] at hz; cases hz
  | some d =>
    rw [q] at hz
    have w := peek_ok s1.rel ok q
    cases d <;> first | (cases hz; done) | skip
    rename_i x ns ds
    dsimp only [fldD] at hz
    split at hz
    · rename_i hx
      cases q2 : look f ns ds with
      | none => rw [q2] at hz; cases hz
      | some d' =>
        rw [q2] at hz
        cases hz
        obtain ⟨a, C, dx, fs, e1, hC, h1, hn, rr⟩ := w.obj s1.rel.ex
        subst hn
        obtain ⟨u, h2, h3⟩ := rr.look q2
        obtain ⟨k1, k2⟩ := hF x hx C hC
        exact ⟨a, C, dx, fs, u, e1, h1, k1, k2, h2, oo.rep s1.rel.ex h3⟩
    · cases hz

def Vws (c : Ct) (G H : Hp) : List V → List D → Prop
  | [], [] => True
  | v :: vs, d :: ds => Vw c G H v d ∧ Vws c G H vs ds
  | _, _ => False
def peekL : List RV → Env → Option (List D)
  | [], _ => some []
  | r :: rs, env => match peek r env, peekL rs env with
    | some d, some ds => some (d :: ds)
    | _, _ => none
theorem peekL_ok {c : Ct} {σ : L2.St} {H0 : Hp} {env : Env} {G H : Hp} (rl : Rel c env σ G H) : ∀ {vs : List V} {rs : List RV} {ds : List D}, vs.length = rs.length → (∀ (i : Nat) v r, vs[i]? = some v → rs[i]? = some r → RvOk c σ H0 env G H v r) → peekL rs env = some ds → Vws c G H vs ds
  | [], [], ds, _, _, e => by cases e; exact True.intro
  | [], _ :: _, _, h, _, _ => by cases h
  | _ :: _, [], _, h, _, _ => by cases h
  | v :: vs, r :: rs, ds, hl, h, e => by
    unfold peekL at e
    split at e
    · rename_i d ds' q1 q2
      cases e
      exact ⟨peek_ok rl (h 0 v r rfl rfl) q1, peekL_ok rl (by simpa using hl) (fun i v r h1 h2 => h (i + 1) v r (by simpa using h1) (by simpa using h2)) q2⟩
    · cases e
def OpN (c : Ct) (r : List V → Hp → VK → Prop) (o : List D → Option OV) : Prop := ∀ G H vs ds z Q, Ex G H → Vws c G H vs ds → o ds = some z → OutOk c G H Q z → r vs H Q
def peekN (o : List D → Option OV) (rs : List RV) (env : Env) : Option OV := match peekL rs env with
  | some ds => o ds
  | none => none
def bltE (o : List D → Option OV) (g : Args) : Exp := fun env => Rs.b (g env) fun rs e1 => out (peekN o rs e1) e1
section
variable {c : Ct} {W : WX} {X : Cx} {e : Expr} {es : List Expr} {g : Args} {r : List V → Hp → VK → Prop} {o : List D → Option OV} {x : Str} {p pos : Pos} {id : String}
theorem Ev.blt {ta : TA} (h : OpN c r o) (hg : Ev okA c W ta g) : Ev RvOk c W (tCB r ta) (bltE o g) := fun env σ G H r0 Q p => by
  refine hg.use (Step.refl r0) p fun rs e1 vs G1 H1 s1 _ ok p => ?_
  obtain ⟨z, hz, oo⟩ := s1.out p
  unfold peekN at hz
  split at hz
  · rename_i ds q
    exact h G1 H1 vs ds z Q s1.rel.ex (peekL_ok s1.rel ok.1 ok.2.1 q) hz oo
  · cases hz
theorem SE.blt (hc : CallR X (.builtin id) r) (h : OpN (ct X) r o) (hm : X.mg x = none) (hv : bootBuiltins x = some (.builtin id)) (hg : SA X W (e :: es) g) (hG : Gl X x := by rfl) (hn : x ≠ "__name__" := by decide) (hdb : (x == ("__debug__" : Str)) = false := by decide)
    (he : starEach (e :: es) X.env = (false, eval e X.env) :: starEach es X.env := by rfl) (hpl : (backTo pos (starEach es X.env)).any (·.1) = false := by rfl) : SE X W (.Call (.Name x p) (e :: es) [] pos) (bltE o g) :=
  let ⟨_, p1, q1⟩ := hg; ⟨_, pe_callB hc hG hm hv p1 hn hdb he hpl, q1.blt h⟩
theorem SE.blty {T : String} (hc : CallR X (.type T) r) (h : OpN (ct X) r o) (hm : X.mg x = none) (hv : bootBuiltins x = some (.type T)) (hg : SA X W (e :: es) g) (hG : Gl X x := by rfl) (hn : x ≠ "__name__" := by decide) (hdb : (x == ("__debug__" : Str)) = false := by decide)
    (he : starEach (e :: es) X.env = (false, eval e X.env) :: starEach es X.env := by rfl) (hpl : (backTo pos (starEach es X.env)).any (·.1) = false := by rfl) : SE X W (.Call (.Name x p) (e :: es) [] pos) (bltE o g) :=
  let ⟨_, p1, q1⟩ := hg; ⟨_, pe_callTy hc hG hm hv p1 hn hdb he hpl, q1.blt h⟩
end

def OpM (c : Ct) (r : V → List V → Hp → VK → Prop) (o : D → List D → Option OV) : Prop := ∀ G H v d vs ds z Q, Ex G H → Vw c G H v d → Vws c G H vs ds → o d ds = some z → OutOk c G H Q z → r v vs H Q
def isT (T : String) : D → Bool
  | .str _ => T == "str"
  | .lst _ => T == "list"
  | .scr _ => T == "list"
  | .int _ => T == "int"
  | _ => false
theorem isT_ok {c : Ct} {G H : Hp} {v : V} {d : D} {T : String} (x : Ex G H) (w : Vw c G H v d) (h : isT T d = true) : tyV c.K T v H := by
  cases d <;> first | (cases h; done) | skip
  · rw [w.int]; exact eq_of_beq h
  · rw [w.str]; exact eq_of_beq h
  · obtain ⟨a, vs, rfl, h1, _⟩ := w.lst x
    exact .inl ⟨eq_of_beq h, vs, SqL.of h1⟩
  · obtain ⟨a, vs, rfl, h1, _⟩ := w.scr x
    exact .inl ⟨eq_of_beq h, vs, h1⟩
def metE (T : String) (o : D → List D → Option OV) (f : Exp) (g : Args) : Exp := fun env => Rs.b (f env) fun r e1 => match peek r e1 with
  | some d => if isT T d = true then Rs.b (g e1) fun rs e2 => out (peek1 (fun d => peekN (o d) rs e2) r e2) e2 else none
  | none => none
section
variable {c : Ct} {W : WX} {X : Cx} {e o : Expr} {es : List Expr} {f : Exp} {g : Args} {r : V → List V → Hp → VK → Prop} {m : D → List D → Option OV} {name : Str} {apos cpos : Pos} {T id : String}
theorem Ev.met {to : TE} {ta : TA} (h : OpM c r m) (hf : Ev RvOk c W to f) (hg : Ev okA c W ta g) : Ev RvOk c W (tBM c.K T r to ta) (metE T m f g) := fun env σ G H r0 Q p => by
  refine hf.use (Step.refl r0) p fun ra e1 v G1 H1 s1 _ ok1 p => ?_
  split at p
  · rename_i d q1
    split at p
    · rename_i ht
      refine ⟨isT_ok s1.rel.ex (peek_ok s1.rel ok1 q1) ht, ?_⟩
      refine hg.use s1 p fun rs e2 vs G2 H2 s2 s12 ok2 p => ?_
      have k1 := ok1.step r0 s1 s12
      obtain ⟨z, hz, oo⟩ := s2.out p
      unfold peek1 at hz
      split at hz
      · rename_i d2 q2
        unfold peekN at hz
        split at hz
        · rename_i ds q3
          exact h G2 H2 v d2 vs ds z Q s2.rel.ex (peek_ok s2.rel k1 q2) (peekL_ok s2.rel ok2.1 ok2.2.1 q3) hz oo
        · cases hz
      · cases hz
    · exact p.elim
  · exact p.elim
theorem SE.met (h : OpM (ct X) r m) (pa : PlainAttrs T) (slot : Slot T name id) (hty : typeOf (.builtin id) = pure (.type "method_descriptor")) (hm : MtR X id r) (hf : SE X W o f) (hg : SA X W (e :: es) g)
    (hbase : attributeBase o name X.env (eval o X.env) = eval o X.env := by rfl)
    (hfew : ((backTo cpos (starEach (e :: es) X.env)).all (fun x => !x.1) && (backToKw cpos (keywordEach [] X.env)).all (fun x => x.1.isSome)
      && decide ((e :: es).length + ([] : List Keyword).length + (if ([] : List Keyword).isEmpty then 0 else 1) < 30)) = true := by rfl)
    (hline : (apos.endLine == cpos.line) = true := by rfl) (hs : starEach (e :: es) X.env = (false, eval e X.env) :: starEach es X.env := by rfl) (hplain : (backTo cpos (starEach es X.env)).any (·.1) = false := by rfl) :
    SE X W (.Call (.Attribute o name apos) (e :: es) [] cpos) (metE T m f g) :=
  let ⟨_, p1, q1⟩ := hf; let ⟨_, p2, q2⟩ := hg; ⟨_, pe_bm pa slot hty hm p1 p2 hbase hfew hline hs hplain, q1.met h q2⟩
def met0 (T : String) (o : D → List D → Option OV) (f : Exp) : Exp := fun env => Rs.b (f env) fun r e1 => out (peek1 (fun d => if isT T d = true then o d [] else none) r e1) e1
theorem SE.met0 (h : OpM (ct X) r m) (pa : PlainAttrs T) (slot : Slot T name id) (hty : typeOf (.builtin id) = pure (.type "method_descriptor")) (hm : MtR X id r) (hf : SE X W o f)
    (hbase : attributeBase o name X.env (eval o X.env) = eval o X.env := by rfl) (hline : (apos.endLine == cpos.line) = true := by rfl) : SE X W (.Call (.Attribute o name apos) [] [] cpos) (met0 T m f) := by
  obtain ⟨te, p1, q1⟩ := hf
  refine ⟨_, pe_bm0 pa slot hty hm p1 hbase hline, fun env σ G H r0 Q p => ?_⟩
  refine q1.use (Step.refl r0) p fun ra e1 v G1 H1 s1 _ ok1 p => ?_
  obtain ⟨z, hz, oo⟩ := s1.out p
  unfold peek1 at hz
  split at hz
  · rename_i d q
    dsimp only at hz
    split at hz
    · rename_i ht
      have w := peek_ok s1.rel ok1 q
      exact ⟨isT_ok s1.rel.ex w ht, h G1 H1 v d [] [] z Q s1.rel.ex w True.intro hz oo⟩
    · cases hz
  · cases hz
end
end Zed
set_option Elab.async false
set_option linter.all false
set_option maxRecDepth 100000
set_option maxHeartbeats 2000000
namespace Zed
open PySem L2

inductive Fl where
  | nx (env : Env)
  | ret (r : RV) (env : Env)
  | brk (env : Env)
  | cont (env : Env)
  | exc (x : Exc) (env : Env)
abbrev Stm := Env → Option Fl
/-- the slot i owns what stands at a -/
def OAt (env : Env) (σ : L2.St) (i : Nat) (a : Addr) : Prop := (∃ o, env[i]? = some (some (LV.own o))) ∧ σ[i]? = some (some (V.ref a))
/-- from a state to a later one; F: the names that are never stored to -/
structure SStep (F : Nat → Bool) (c : Ct) (σ : L2.St) (env : Env) (G H : Hp) (σ' : L2.St) (env' : Env) (G' H' : Hp) : Prop where
  g : Ex G G'
  rel : Rel c env' σ' G' H'
  keep : Keep env σ G H G' H'
  fix : ∀ i, F i = true → σ'[i]? = σ[i]?
  ow : ∀ i o, F i = true → env'[i]? = some (some (LV.own o)) → ∃ o', env[i]? = some (some (LV.own o'))
  nf : ∀ i a, F i = false → OAt env' σ' i a → (∃ j, F j = false ∧ OAt env σ j a) ∨ H a = none
  al : ∀ a, H' a = none → H a = none
  ln : env'.length = env.length
theorem OAt.oa {env : Env} {σ : L2.St} {i : Nat} {a : Addr} (h : OAt env σ i a) : OA env σ a := let ⟨⟨o, h1⟩, h2⟩ := h; ⟨i, o, h1, h2⟩
theorem OA.at' {env : Env} {σ : L2.St} {a : Addr} (h : OA env σ a) : ∃ i, OAt env σ i a := let ⟨i, o, h1, h2⟩ := h; ⟨i, ⟨o, h1⟩, h2⟩
section
variable {F : Nat → Bool} {c : Ct} {σ σ' σ1 σ2 : L2.St} {env env' env1 env2 : Env} {G H G' H' G1 H1 G2 H2 : Hp}
theorem SStep.refl (r : Rel c env σ G H) : SStep F c σ env G H σ env G H := ⟨Ex.refl _, r, Keep.refl, fun _ _ => rfl, fun _ o _ h => ⟨o, h⟩, fun i a f h => .inl ⟨i, f, h⟩, fun _ h => h, rfl⟩
theorem SStep.oa (s : SStep F c σ env G H σ' env' G' H') {a : Addr} (h : OA env' σ' a) : OA env σ a ∨ H a = none := by
  obtain ⟨i, hi⟩ := h.at'
  cases f : F i with
  | true =>
    obtain ⟨⟨o, h1⟩, h2⟩ := hi
    obtain ⟨o', h3⟩ := s.ow i o f h1
    exact .inl ⟨i, o', h3, by rw [← s.fix i f]; exact h2⟩
  | false =>
    rcases s.nf i a f hi with ⟨j, _, hj⟩ | h0
    · exact .inl hj.oa
    · exact .inr h0
theorem SStep.trans (a : SStep F c σ env G H σ1 env1 G1 H1) (b : SStep F c σ1 env1 G1 H1 σ2 env2 G2 H2) : SStep F c σ env G H σ2 env2 G2 H2 := by
  refine ⟨a.g.trans b.g, b.rel, fun x o h g n => ?_, fun i f => (b.fix i f).trans (a.fix i f), fun i o f h => ?_, fun i x f h => ?_, fun x h => a.al x (b.al x h), b.ln.trans a.ln⟩
  · obtain ⟨h1, g1⟩ := a.keep x o h g n
    refine b.keep x o h1 g1 fun z => ?_
    rcases a.oa z with z | z
    · exact n z
    · rw [h] at z; cases z
  · obtain ⟨o1, h1⟩ := b.ow i o f h
    exact a.ow i o1 f h1
  · rcases b.nf i x f h with ⟨j, f2, h2⟩ | h0
    · exact a.nf j x f2 h2
    · exact .inr (a.al x h0)
theorem Step.ln (s : Step c σ env G H env' G' H') (r : Rel c env σ G H) : env'.length = env.length := s.rel.len.symm.trans r.len
theorem Step.s (s : Step c σ env G H env' G' H') (r : Rel c env σ G H) : SStep F c σ env G H σ env' G' H' :=
  ⟨s.g, s.rel, s.keep, fun _ _ => rfl, fun i o _ h => s.ow i o h, fun i a f ⟨⟨o, h1⟩, h2⟩ => .inl ⟨i, f, let ⟨o', h3⟩ := s.ow i o h1; ⟨⟨o', h3⟩, h2⟩⟩, s.al, s.ln r⟩
theorem get_set' {α : Type} {l : List α} {i j : Nat} {x y : α} (h : (l.set i x)[j]? = some y) : (i = j ∧ x = y ∧ i < l.length) ∨ (i ≠ j ∧ l[j]? = some y) := by
  rcases set_get h with ⟨e1, e2⟩ | z
  · refine .inl ⟨e1, e2, ?_⟩
    subst e1
    by_cases q : i < l.length
    · exact q
    · rw [List.getElem?_eq_none (by simpa using q)] at h; cases h
  · exact .inr z
/-- a name gets a settled value -/
theorem SStep.setF (r : Rel c env σ G H) {i : Nat} (f : F i = false) {v : V} {d : D} (rp : Rep c G v d) : SStep F c σ env G H (σ.set i (some v)) (env.set i (some (.frz d))) G H := by
  refine ⟨Ex.refl _, ⟨r.ex, by simpa using r.len, fun j lv e => ?_, fun j k oj ok a h1 h2 h3 h4 => ?_⟩, Keep.refl, fun j fj => ?_, fun j o fj h => ?_, fun j a fj h => ?_, fun _ h => h, by simp⟩
  · rcases get_set' e with ⟨rfl, e2, hi⟩ | ⟨hne, e⟩
    · cases e2
      exact ⟨v, List.getElem?_set_self (by rw [r.len]; exact hi), rp⟩
    · obtain ⟨u, h1, h2⟩ := r.sl j lv e
      exact ⟨u, by rw [List.getElem?_set_ne hne]; exact h1, h2⟩
  · rcases get_set' h1 with ⟨_, e2, _⟩ | ⟨n1, h1⟩
    · cases e2
    · rcases get_set' h2 with ⟨_, e2, _⟩ | ⟨n2, h2⟩
      · cases e2
      · rw [List.getElem?_set_ne n1] at h3
        rw [List.getElem?_set_ne n2] at h4
        exact r.dj j k oj ok a h1 h2 h3 h4
  · have : i ≠ j := fun e => by rw [e] at f; rw [f] at fj; cases fj
    exact List.getElem?_set_ne this
  · rcases get_set' h with ⟨_, e2, _⟩ | ⟨_, h⟩
    · cases e2
    · exact ⟨o, h⟩
  · obtain ⟨⟨o, h1⟩, h2⟩ := h
    rcases get_set' h1 with ⟨_, e2, _⟩ | ⟨n1, h1⟩
    · cases e2
    · rw [List.getElem?_set_ne n1] at h2
      exact .inl ⟨j, fj, ⟨o, h1⟩, h2⟩
/-- a name gets a new thing; H0: the base -/
theorem SStep.setN {σ0 : L2.St} {env0 : Env} {G0 H0 : Hp} (r0 : Rel c env0 σ0 G0 H0) (s : SStep F c σ0 env0 G0 H0 σ env G H) {i : Nat} (f : F i = false) {a : Addr} {ho : HO} {o : O} (h0 : H0 a = none) (noa : ¬ OA env σ a) (g : G a = none) (h : H a = some ho) (w : Own c G ho o) :
    SStep F c σ0 env0 G0 H0 (σ.set i (some (.ref a))) (env.set i (some (.own o))) G H := by
  have r := s.rel
  refine ⟨s.g, ⟨r.ex, by simpa using r.len, fun j lv e => ?_, fun j k oj ok b h1 h2 h3 h4 => ?_⟩, s.keep, fun j fj => ?_, fun j o' fj h' => ?_, fun j b fj h' => ?_, s.al, by simpa using s.ln⟩
  · rcases get_set' e with ⟨rfl, e2, hi⟩ | ⟨hne, e⟩
    · cases e2
      exact ⟨.ref a, List.getElem?_set_self (by rw [r.len]; exact hi), a, ho, rfl, g, h, w⟩
    · obtain ⟨u, h1, h2⟩ := r.sl j lv e
      exact ⟨u, by rw [List.getElem?_set_ne hne]; exact h1, h2⟩
  · rcases get_set' h1 with ⟨e1, e2, hi⟩ | ⟨n1, h1⟩
    · subst e1
      rw [List.getElem?_set_self (by rw [r.len]; exact hi)] at h3
      cases h3
      rcases get_set' h2 with ⟨e1, _, _⟩ | ⟨n2, h2⟩
      · exact e1
      · rw [List.getElem?_set_ne n2] at h4
        exact (noa ⟨k, ok, h2, h4⟩).elim
    · rw [List.getElem?_set_ne n1] at h3
      rcases get_set' h2 with ⟨e1, e2, hi⟩ | ⟨n2, h2⟩
      · subst e1
        rw [List.getElem?_set_self (by rw [r.len]; exact hi)] at h4
        cases h4
        exact (noa ⟨j, oj, h1, h3⟩).elim
      · rw [List.getElem?_set_ne n2] at h4
        exact r.dj j k oj ok b h1 h2 h3 h4
  · have : i ≠ j := fun e => by rw [e] at f; rw [f] at fj; cases fj
    rw [List.getElem?_set_ne this]
    exact s.fix j fj
  · rcases get_set' h' with ⟨e1, _, _⟩ | ⟨_, h'⟩
    · rw [e1] at f; rw [f] at fj; cases fj
    · exact s.ow j o' fj h'
  · obtain ⟨⟨o', h1⟩, h2⟩ := h'
    rcases get_set' h1 with ⟨e1, _, hi⟩ | ⟨n1, h1⟩
    · subst e1
      rw [List.getElem?_set_self (by rw [r.len]; exact hi)] at h2
      cases h2
      exact .inr h0
    · rw [List.getElem?_set_ne n1] at h2
      exact s.nf j b fj ⟨⟨o', h1⟩, h2⟩
/-- what a name owns is changed -/
theorem SStep.mut (r : Rel c env σ G H) {i : Nat} {a : Addr} {ho : HO} {o o' : O} (he : env[i]? = some (some (.own o))) (hs : σ[i]? = some (some (.ref a))) (w : Own c G ho o') :
    SStep F c σ env G H σ (env.set i (some (.own o'))) G (upd H a ho) := by
  have hi : i < env.length := (List.getElem?_eq_some_iff.mp he).1
  obtain ⟨⟨u, hu⟩, ga⟩ := r.oaH ⟨i, o, he, hs⟩
  have ex : Ex G (upd H a ho) := fun b q e => by rw [upd_ne (ne_of_none e ga)]; exact r.ex b q e
  refine ⟨Ex.refl _, ⟨ex, by simpa using r.len, fun j lv e => ?_, fun j k oj ok b h1 h2 h3 h4 => ?_⟩, fun b q h1 g1 n => ?_, fun _ _ => rfl, fun j o2 fj h => ?_, fun j b fj h => ?_, fun b h => ?_, by simp⟩
  · rcases get_set' e with ⟨rfl, e2, hi⟩ | ⟨hne, e⟩
    · cases e2
      exact ⟨.ref a, hs, a, ho, rfl, ga, upd_same, w⟩
    · obtain ⟨v, h1, h2⟩ := r.sl j lv e
      refine ⟨v, h1, ?_⟩
      cases lv with
      | frz d => exact h2
      | own o2 =>
        obtain ⟨b, hb, e2, gb, hb1, wb⟩ := h2
        subst e2
        have : b ≠ a := fun z => hne (r.dj i j _ _ a he e hs (by rw [← z]; exact h1))
        exact ⟨b, hb, rfl, gb, by rw [upd_ne this]; exact hb1, wb⟩
  · have aux : ∀ {k : Nat} {ok : O}, (env.set i (some (LV.own o')))[k]? = some (some (LV.own ok)) → ∃ ok', env[k]? = some (some (LV.own ok')) := fun {k ok} z => by
      rcases get_set' z with ⟨e1, _, _⟩ | ⟨_, z⟩
      · exact ⟨o, by rw [← e1]; exact he⟩
      · exact ⟨ok, z⟩
    obtain ⟨x1, y1⟩ := aux h1
    obtain ⟨x2, y2⟩ := aux h2
    exact r.dj j k x1 x2 b y1 y2 h3 h4
  · have : b ≠ a := fun z => n (by rw [z]; exact ⟨i, o, he, hs⟩)
    rw [upd_ne this]
    exact ⟨h1, g1⟩
  · rcases get_set' h with ⟨e1, _, _⟩ | ⟨_, z⟩
    · exact ⟨o, by rw [← e1]; exact he⟩
    · exact ⟨o2, z⟩
  · obtain ⟨⟨o2, h1⟩, h2⟩ := h
    rcases get_set' h1 with ⟨e1, _, _⟩ | ⟨_, z⟩
    · exact .inl ⟨j, fj, ⟨o, by rw [← e1]; exact he⟩, h2⟩
    · exact .inl ⟨j, fj, ⟨o2, z⟩, h2⟩
  · by_cases hb : b = a
    · rw [hb, upd_same] at h; cases h
    · rw [upd_ne hb] at h; exact h
theorem SStep.toStep (s : SStep F c σ env G H σ env' G' H') (h : ∀ (i : Nat) (o : O), env'[i]? = some (some (LV.own o)) → ∃ o', env[i]? = some (some (LV.own o'))) : Step c σ env G H env' G' H' := ⟨s.g, s.rel, s.keep, h, s.al⟩
end

def PostS (F : Nat → Bool) (c : Ct) (W : WX) (σ : L2.St) (env : Env) (G H : Hp) (D : Ends) : Option Fl → Prop
  | none => False
  | some (.nx env') => ∀ σ' G' H', SStep F c σ env G H σ' env' G' H' → D.nx σ' H'
  | some (.brk env') => ∀ σ' G' H', SStep F c σ env G H σ' env' G' H' → D.bk σ' H'
  | some (.cont env') => ∀ σ' G' H', SStep F c σ env G H σ' env' G' H' → D.ct σ' H'
  | some (.ret r env') => ∀ v σ' G' H', SStep F c σ env G H σ' env' G' H' → RvOk c σ' H env' G' H' v r → D.rt v H'
  | some (.exc x env') => ∀ cls dd σ' G' H', SStep F c σ env G H σ' env' G' H' → ExcOk c G' H' cls dd x → (∀ a, dd = some a → H a = none) → W cls dd σ' H'
def EvS (F : Nat → Bool) (c : Ct) (W : WX) (ts : TS) (f : Stm) : Prop := ∀ env σ G H, Rel c env σ G H → ∀ D : Ends, PostS F c W σ env G H D (f env) → ts D σ H
def SS (X : Cx) (W : WX) (F : Nat → Bool) (sts : List Stmt) (f : Stm) : Prop := ∃ ts, PSs X sts ts ∧ EvS F (ct X) W ts f
def S1 (X : Cx) (W : WX) (F : Nat → Bool) (st : Stmt) (f : Stm) : Prop := ∃ ts, PS X st ts ∧ EvS F (ct X) W ts f

/-- an expression's result, then what a statement makes of it -/
def Rs.s {α : Type} (x : Option (Rs α)) (k : α → Env → Option Fl) : Option Fl := match x with
  | some (.val a env) => k a env
  | some (.exc x env) => some (.exc x env)
  | none => none
def skip : Stm := fun env => some (.nx env)
def seqS (f g : Stm) : Stm := fun env => match f env with
  | some (.nx e1) => g e1
  | r => r
def ifS (t : Tst) (f g : Stm) : Stm := fun env => Rs.s (t env) fun b e1 => if b = true then f e1 else g e1
def retS (f : Exp) : Stm := fun env => Rs.s (f env) fun r e1 => some (.ret r e1)
def retN : Stm := fun env => some (.ret (.frz .non) env)
def brkS : Stm := fun env => some (.brk env)
def contS : Stm := fun env => some (.cont env)
def dropS (f : Exp) : Stm := fun env => Rs.s (f env) fun _ e1 => some (.nx e1)
def bindR (i : Nat) (r : RV) (env : Env) : Option Env := match r with
  | .frz d => some (env.set i (some (.frz d)))
  | .new o => some (env.set i (some (.own o)))
  | .slot j => match freeze (.slot j) env with
    | some (d, e2) => some (e2.set i (some (.frz d)))
    | none => none
def asgS (i : Nat) (f : Exp) : Stm := fun env => Rs.s (f env) fun r e1 => match bindR i r e1 with
  | some e2 => some (.nx e2)
  | none => none
section
variable {F : Nat → Bool} {c : Ct} {W : WX} {X : Cx} {σ σ1 : L2.St} {env env1 : Env} {G H G1 H1 : Hp}
/-- an expression within a statement -/
theorem Ev.uses {α β : Type} {ok : OkRel α β} {tb : Tg β} {fb : Env → Option (Rs α)} (hb : Ev ok c W tb fb) (s : SStep F c σ env G H σ1 env1 G1 H1) {D : Ends} {k : α → Env → Option Fl} (p : PostS F c W σ env G H D (Rs.s (fb env1) k)) {K : β → Hp → Prop}
    (hK : ∀ r env2 v G2 H2, SStep F c σ env G H σ1 env2 G2 H2 → Step c σ1 env1 G1 H1 env2 G2 H2 → ok c σ1 H1 env2 G2 H2 v r → PostS F c W σ env G H D (k r env2) → K v H2) : tb σ1 H1 K := by
  refine hb env1 σ1 G1 H1 s.rel K ?_
  cases q : fb env1 with
  | none => rw [q] at p; exact p
  | some er =>
    rw [q] at p
    cases er with
    | exc x env' => intro cls dd G' H' s' hx hd; exact p cls dd σ1 G' H' (s.trans (s'.s s.rel)) hx fun a e => s.al a (hd a e)
    | val r env' => intro v G' H' s' okv; exact hK r env' v G' H' (s.trans (s'.s s.rel)) s' okv p
/-- a statement behind others -/
theorem EvS.at {ts : TS} {g : Stm} (hg : EvS F c W ts g) (s : SStep F c σ env G H σ1 env1 G1 H1) {D D' : Ends} (p : PostS F c W σ env G H D (g env1))
    (h1 : ∀ e2 σ' G' H', g env1 = some (.nx e2) → SStep F c σ env G H σ' e2 G' H' → D'.nx σ' H') (h2 : ∀ e2 σ' G' H', g env1 = some (.brk e2) → SStep F c σ env G H σ' e2 G' H' → D'.bk σ' H')
    (h3 : ∀ e2 σ' G' H', g env1 = some (.cont e2) → SStep F c σ env G H σ' e2 G' H' → D'.ct σ' H') (h4 : ∀ v H', D.rt v H' → D'.rt v H') : ts D' σ1 H1 := by
  refine hg env1 σ1 G1 H1 s.rel D' ?_
  cases q : g env1 with
  | none => rw [q] at p; exact p
  | some fl =>
    rw [q] at p
    cases fl with
    | nx e2 => exact fun σ' G' H' s' => h1 e2 σ' G' H' q (s.trans s')
    | brk e2 => exact fun σ' G' H' s' => h2 e2 σ' G' H' q (s.trans s')
    | cont e2 => exact fun σ' G' H' s' => h3 e2 σ' G' H' q (s.trans s')
    | ret r e2 => exact fun v σ' G' H' s' ok => h4 v H' (p v σ' G' H' (s.trans s') (ok.back s.al))
    | exc x e2 => exact fun cls dd σ' G' H' s' hx hd => p cls dd σ' G' H' (s.trans s') hx fun a e => s.al a (hd a e)
theorem EvS.at' {ts : TS} {g : Stm} (hg : EvS F c W ts g) (s : SStep F c σ env G H σ1 env1 G1 H1) {D : Ends} (p : PostS F c W σ env G H D (g env1)) : ts D σ1 H1 :=
  hg.at s p (fun e2 σ' G' H' q s' => by rw [q] at p; exact p σ' G' H' s') (fun e2 σ' G' H' q s' => by rw [q] at p; exact p σ' G' H' s') (fun e2 σ' G' H' q s' => by rw [q] at p; exact p σ' G' H' s') fun _ _ h => h

variable {st : Stmt} {rest : List Stmt} {f g : Stm} {e : Expr} {fe : Exp} {pos : Pos}
theorem SS.nil : SS X W F [] skip := ⟨_, pss_nil, fun env σ G H r D p => p σ G H (SStep.refl r)⟩
theorem SS.one (h : S1 X W F st f) : SS X W F [st] f := let ⟨_, p, q⟩ := h; ⟨_, pss_one p, q⟩
theorem EvS.seq {t u : TS} (hf : EvS F c W t f) (hg : EvS F c W u g) : EvS F c W (tSeq t u) (seqS f g) := fun env σ G H r D p => by
  refine hf env σ G H r _ ?_
  unfold seqS at p
  cases q : f env with
  | none => rw [q] at p; exact p
  | some fl =>
    rw [q] at p
    cases fl with
    | nx e1 => exact fun σ' G' H' s => hg.at' s p
    | brk e2 => exact p
    | cont e2 => exact p
    | ret r e2 => exact p
    | exc x e2 => exact p
theorem SS.cons (h : S1 X W F st f) (k : SS X W F rest g) : SS X W F (st :: rest) (seqS f g) := let ⟨_, p, q⟩ := h; let ⟨_, p2, q2⟩ := k; ⟨_, pss_cons p p2, q.seq q2⟩
theorem S1.pass : S1 X W F (.Pass pos) skip := ⟨_, ps_pass, fun env σ G H r D p => p σ G H (SStep.refl r)⟩
theorem S1.brk : S1 X W F (.Break pos) brkS := ⟨_, ps_break, fun env σ G H r D p => p σ G H (SStep.refl r)⟩
theorem S1.cont : S1 X W F (.Continue pos) contS := ⟨_, ps_continue, fun env σ G H r D p => p σ G H (SStep.refl r)⟩
theorem S1.retN : S1 X W F (.Return none pos) Zed.retN := ⟨_, ps_retN, fun env σ G H r D p => p .non σ G H (SStep.refl r) .non⟩
theorem S1.ret (h : SE X W e fe) : S1 X W F (.Return (some e) pos) (retS fe) := by
  obtain ⟨te, p1, q1⟩ := h
  refine ⟨_, ps_ret p1, fun env σ G H r D p => ?_⟩
  exact q1.uses (SStep.refl r) p fun rv e1 v G1 H1 s _ ok p => p v σ G1 H1 s ok
theorem S1.drop (h : SE X W e fe) (hs : swapsWith e none pos.line X.env = pure false := by rfl) : S1 X W F (.Expr e pos) (dropS fe) := by
  obtain ⟨te, p1, q1⟩ := h
  refine ⟨_, ps_expr p1 hs, fun env σ G H r D p => ?_⟩
  exact q1.uses (SStep.refl r) p fun rv e1 v G1 H1 s _ ok p => p σ G1 H1 s
theorem S1.ifs {t : Tst} {a b : List Stmt} (ht : ST X W e t) (ha : SS X W F a f) (hb : SS X W F b g) : S1 X W F (.If e a b pos) (ifS t f g) := by
  obtain ⟨tt, p1, q1⟩ := ht
  obtain ⟨ta, p2, q2⟩ := ha
  obtain ⟨tb, p3, q3⟩ := hb
  refine ⟨_, ps_if p1 p2 p3, fun env σ G H r D p => ?_⟩
  refine q1.uses (SStep.refl r) p fun b' e1 b1 G1 H1 s _ ok p => ?_
  have ok : b1 = b' := ok
  subst ok
  cases b1 with
  | true => rw [if_pos rfl] at p ⊢; exact q2.at' s p
  | false => rw [if_neg Bool.false_ne_true] at p ⊢; exact q3.at' s p
/-- a name is given a value -/
theorem bind_ok {σ0 : L2.St} {env0 env2 : Env} {G0 H0 : Hp} (r0 : Rel c env0 σ0 G0 H0) (s0 : SStep F c σ0 env0 G0 H0 σ env G H) (s : Step c σ env G H env1 G1 H1) {v : V} {r : RV} (ok : RvOk c σ H env1 G1 H1 v r) {i : Nat} (f : F i = false) (e : bindR i r env1 = some env2) :
    ∃ G2, SStep F c σ0 env0 G0 H0 (σ.set i (some v)) env2 G2 H1 := by
  have s1 := s0.trans (s.s s0.rel)
  unfold bindR at e
  split at e
  · cases e
    exact ⟨G1, s1.trans (SStep.setF s1.rel f ok)⟩
  · cases e
    obtain ⟨a, ho, rfl, h0, g, h1, w⟩ := ok
    exact ⟨G1, s1.setN r0 f (s0.al a h0) (fun z => s0.rel.fresh h0 (s.oa a z)) g h1 w⟩
  · split at e
    · rename_i j d e2 q
      cases e
      obtain ⟨G2, s2, rp⟩ := freeze_ok (H0 := H) s0.rel s ok q
      have s3 := s0.trans (s2.s s0.rel)
      exact ⟨G2, s3.trans (SStep.setF s3.rel f rp)⟩
    · cases e
theorem S1.asg {x : Str} {pos' : Pos} (i : Nat) (h : SE X W e fe) (f : F i = false := by rfl) (hN : X.N.Nodup) (hi : X.N[i]? = some x := by rfl) (hx : Loc X.env.scope x := by first | exact Or.inl rfl | exact Or.inr rfl)
    (hs : swapsWith e (some (.Name x pos')) pos.line X.env = pure false := by rfl) (hf : X.fn x = true ∨ X.env.scope.names.lookup x = some .local := by first | exact .inl rfl | exact .inr rfl) : S1 X W F (.Assign [.Name x pos'] e pos) (asgS i fe) := by
  obtain ⟨te, p1, q1⟩ := h
  refine ⟨_, ps_set hN hi hx p1 hs hf, fun env σ G H r D p => ?_⟩
  refine q1.uses (SStep.refl r) p fun rv e1 v G1 H1 s s1 ok p => ?_
  split at p
  · rename_i e2 q
    obtain ⟨G2, s2⟩ := bind_ok r (SStep.refl r) s1 ok f q
    exact p _ G2 H1 s2
  · exact p.elim
end
end Zed
set_option Elab.async false
set_option linter.all false
set_option maxRecDepth 100000
set_option maxHeartbeats 2000000
namespace Zed
open PySem L2

/-- a settled item is bound -/
abbrev Bnd := D → Env → Option Env
def bName (i : Nat) : Bnd := fun d env => some (env.set i (some (.frz d)))
def bNames : List Nat → List D → Env → Option Env
  | [], [], env => some env
  | i :: is, d :: ds, env => bNames is ds (env.set i (some (.frz d)))
  | _, _, _ => none
def bTup (is : List Nat) : Bnd := fun d env => match d with
  | .tup ds => bNames is ds env
  | _ => none
/-- the target tg binds as b does -/
def BndOk (F : Nat → Bool) (c : Ct) (g : TG) (b : Bnd) : Prop := ∀ env σ G H v d e', Rel c env σ G H → Rep c G v d → b d env = some e' → ∀ Q : L2.St → Hp → Prop, (∀ σ', SStep F c σ env G H σ' e' G H → Q σ' H) → g v σ H Q
def SG (X : Cx) (F : Nat → Bool) (tg : Expr) (b : Bnd) : Prop := ∃ g, PG X tg g ∧ BndOk F (ct X) g b
section
variable {F : Nat → Bool} {c : Ct} {X : Cx} {pos : Pos}
theorem bndName {i : Nat} (f : F i = false) : BndOk F c (gName i) (bName i) := fun env σ G H v d e' r rp e Q q => by
  cases e
  exact q _ (SStep.setF r f rp)
theorem SG.name {x : Str} (i : Nat) (f : F i = false := by rfl) (hN : X.N.Nodup) (hi : X.N[i]? = some x := by rfl) (hx : Loc X.env.scope x := by first | exact Or.inl rfl | exact Or.inr rfl) (hf : X.fn x = true ∨ X.env.scope.names.lookup x = some .local := by first | exact .inl rfl | exact .inr rfl) : SG X F (.Name x pos) (bName i) :=
  ⟨_, pg_name hN hi hx hf, bndName f⟩
def BndsOk (F : Nat → Bool) (c : Ct) (g : TGs) (is : List Nat) : Prop := ∀ env σ G H vs ds e', Rel c env σ G H → Reps c G vs ds → bNames is ds env = some e' → ∀ Q : L2.St → Hp → Prop, (∀ σ', SStep F c σ env G H σ' e' G H → Q σ' H) → g vs σ H Q
def SGs (X : Cx) (F : Nat → Bool) (tgs : List Expr) (is : List Nat) : Prop := ∃ g, PGs X tgs g ∧ BndsOk F (ct X) g is
theorem SGs.nil : SGs X F [] [] := ⟨_, pgs_nil, fun env σ G H vs ds e' r rs e Q q => by
  cases rs with
  | nil => cases e; exact ⟨rfl, q σ (SStep.refl r)⟩
  | cons _ _ => cases e⟩
theorem SGs.cons {x : Str} {es : List Expr} {is : List Nat} (i : Nat) (h : SGs X F es is) (f : F i = false := by rfl) (hN : X.N.Nodup) (hi : X.N[i]? = some x := by rfl) (hx : Loc X.env.scope x := by first | exact Or.inl rfl | exact Or.inr rfl)
    (hf : X.fn x = true ∨ X.env.scope.names.lookup x = some .local := by first | exact .inl rfl | exact .inr rfl) (h2 : (assignEach (.Name x pos :: es) X.env).map (·.2) = assign (.Name x pos) X.env :: (assignEach es X.env).map (·.2) := by rfl) : SGs X F (.Name x pos :: es) (i :: is) := by
  obtain ⟨g, p, q⟩ := h
  refine ⟨_, pgs_cons (pg_name hN hi hx hf) p h2, fun env σ G H vs ds e' r rs e Q k => ?_⟩
  cases rs with
  | nil => cases e
  | @cons v d vs ds r1 r2 =>
    have s := SStep.setF (F := F) r f r1
    exact ⟨v, vs, rfl, q _ _ G H vs ds e' s.rel r2 e Q fun σ' s' => k σ' (s.trans s')⟩
theorem SG.tup {es : List Expr} {k : Nat} {n : Nat} {is : List Nat} (hc : X.calm = true) (h : SGs X F es is) (hl : is.length = n := by rfl) (hn : (assignEach es X.env).length = n := by rfl) (h0 : (assignEach es X.env).findIdx? (·.1) = none := by rfl) : SG X F (.Tuple es k pos) (bTup is) := by
  obtain ⟨g, p, q⟩ := h
  refine ⟨_, pg_tup hc p hn h0, fun env σ G H v d e' r rp e Q kk => ?_⟩
  cases d <;> first | (cases e; done) | skip
  rename_i ds
  cases rp with
  | tup hT rs =>
    have len : ∀ {is : List Nat} {ds : List D} {env e' : Env}, bNames is ds env = some e' → ds.length = is.length := by
      intro is
      induction is with
      | nil => intro ds env e' z; cases ds with | nil => rfl | cons _ _ => cases z
      | cons i is ih => intro ds env e' z; cases ds with | nil => cases z | cons d ds => rw [List.length_cons, List.length_cons, ih z]
    exact ⟨_, _, rfl, r.ex.st hT, by rw [rs.length, len e, hl], q env σ G H _ _ e' r rs e Q kk⟩
end

abbrev Seq := Env → Option (Rs (List D))
/-- J gives ds, as long as what is settled stays -/
def ItOk (c : Ct) (J : It) (G1 : Hp) (ds : List D) : Prop := ∀ (i : Nat) env σ G H, Rel c env σ G H → Ex G1 G →
  (ds.length ≤ i → J.stop i H) ∧ ∀ d, ds[i]? = some d → J.go i H ∧ ∀ x H', J.yld i H x H' → ∃ G', Step c σ env G H env G' H' ∧ Rep c G' x d
def okI : OkRel (List D) It := fun c _ _ _ G _ J ds => ItOk c J G ds
def SI (X : Cx) (W : WX) (tg e : Expr) (it : Seq) : Prop := ∃ wi, PI X tg e wi ∧ Ev okI (ct X) W wi it
/-- what every reading that computes f does -/
def uE {α β : Type} (ok : OkRel α β) (c : Ct) (W : WX) (f : Env → Option (Rs α)) : Tg β := fun σ H Q => ∀ te, Ev ok c W te f → te σ H Q
theorem uE_ev {α β : Type} {ok : OkRel α β} {c : Ct} {W : WX} {f : Env → Option (Rs α)} : Ev ok c W (uE ok c W f) f := fun env σ G H r Q p te he => he env σ G H r Q p
theorem SE.u {X : Cx} {W : WX} {e : Expr} {f : Exp} (h : SE X W e f) : PE X e (uE RvOk (ct X) W f) := let ⟨te, p, q⟩ := h; ⟨fun pins s σ H Q I hu => p.run pins s σ H Q I (hu te q)⟩
theorem ST.u {X : Cx} {W : WX} {e : Expr} {f : Tst} (h : ST X W e f) : PT X e (uE okT (ct X) W f) := let ⟨te, p, q⟩ := h; ⟨fun pins s σ H Q I hu => p.run pins s σ H Q I (hu te q)⟩
def uG (F : Nat → Bool) (c : Ct) (b : Bnd) : TG := fun v σ H Q => ∀ g, BndOk F c g b → g v σ H Q
theorem uG_ev {F : Nat → Bool} {c : Ct} {b : Bnd} : BndOk F c (uG F c b) b := fun env σ G H v d e' r rp e Q q g hg => hg env σ G H v d e' r rp e Q q
theorem SG.u {X : Cx} {F : Nat → Bool} {tg : Expr} {b : Bnd} (h : SG X F tg b) : PG X tg (uG F (ct X) b) := let ⟨g, p, q⟩ := h; ⟨fun pins s σ H v u Q I r hu => p.run pins s σ H v u Q I r (hu g q)⟩

def seqOf : D → Option (List D)
  | .lst ds => some ds
  | .scr ds => some ds
  | _ => none
def tupOf : D → Option (List D)
  | .tup ds => some ds
  | _ => none
def strOf : D → Option (List D)
  | .str z => some (z.cps.toList.map fun ch => D.str ⟨#[ch]⟩)
  | _ => none
def itE {α : Type} (f : Env → Option (Rs α)) (k : α → Option (List D)) : Seq := fun env => Rs.b (f env) fun d e1 => match k d with
  | some ds => some (.val ds e1)
  | none => none
def rngD (lo : Int) (n : Nat) : List D := (List.range n).map fun (i : Nat) => D.int (lo + (i : Int))
def rng1 : List RV → Option (List D)
  | [.frz (.int j)] => if -(2 ^ 62) ≤ j ∧ j < 2 ^ 62 then some (rngD 0 j.toNat) else none
  | _ => none
def rng2 : List RV → Option (List D)
  | [.frz (.int i), .frz (.int j)] => if -(2 ^ 62) ≤ i ∧ i < 2 ^ 62 ∧ -(2 ^ 62) ≤ j ∧ j < 2 ^ 62 then some (rngD i (j - i).toNat) else none
  | _ => none
section
variable {c : Ct} {W : WX}
theorem itl_ok {v : V} {d : D} {ds : List D} {G : Hp} (ok : Rep c G v d) (e : seqOf d = some ds) : ∃ a vs, v = .ref a ∧ SqL c.K G a vs ∧ ItOk c (Itl c.K a) G ds := by
  have key : ∃ a vs, v = .ref a ∧ SqL c.K G a vs ∧ Reps c G vs ds := by
    cases d <;> first | (cases e; done) | skip
    · cases e; cases ok with | lst h r => exact ⟨_, _, rfl, SqL.of h, r⟩
    · cases e; cases ok with | scr h r => exact ⟨_, _, rfl, h, r⟩
  obtain ⟨a, vs, e1, hq, rs⟩ := key
  refine ⟨a, vs, e1, hq, fun i env σ G' H r x => ⟨fun hi => ⟨vs, r.ex.sl (x.sl hq), by rw [rs.length]; exact hi⟩, fun d hd => ?_⟩⟩
  obtain ⟨u, hu, ru⟩ := rs.get hd
  refine ⟨⟨vs, u, r.ex.sl (x.sl hq), hu⟩, fun y H' ⟨e2, hy⟩ => ?_⟩
  subst e2
  have := hy vs (r.ex.sl (x.sl hq))
  rw [hu] at this; cases this
  exact ⟨G', Step.refl r, ru.mono x⟩
theorem itt_ok {v : V} {d : D} {ds : List D} {G : Hp} (ok : Rep c G v d) (e : tupOf d = some ds) : ∃ a vs, v = .ref a ∧ SqT c.K G a vs ∧ ItOk c (Itt c.K a) G ds := by
  cases d <;> first | (cases e; done) | skip
  cases e
  cases ok with
  | @tup a vs _ hq rs =>
    refine ⟨a, vs, rfl, hq, fun i env σ G' H r x => ⟨fun hi => ⟨vs, r.ex.st (x.st hq), by rw [rs.length]; exact hi⟩, fun d hd => ?_⟩⟩
    obtain ⟨u, hu, ru⟩ := rs.get hd
    refine ⟨⟨vs, u, r.ex.st (x.st hq), hu⟩, fun y H' ⟨e2, hy⟩ => ?_⟩
    subst e2
    have := hy vs (r.ex.st (x.st hq))
    rw [hu] at this; cases this
    exact ⟨G', Step.refl r, ru.mono x⟩
theorem itr_ok {lo : Int} {n : Nat} {G : Hp} : ItOk c (Itr lo n) G (rngD lo n) := by
  have hl : (rngD lo n).length = n := by unfold rngD; rw [List.length_map, List.length_range]
  refine fun i env σ G' H r x => ⟨fun hi => by rw [hl] at hi; exact hi, fun d hd => ?_⟩
  have hi : i < n := by rw [← hl]; exact (List.getElem?_eq_some_iff.mp hd).1
  have : d = .int (lo + (i : Int)) := by
    unfold rngD at hd
    rw [List.getElem?_map, List.getElem?_range hi] at hd
    exact (Option.some.inj hd).symm
  subst this
  refine ⟨hi, fun y H' ⟨e2, hy⟩ => ?_⟩
  subst e2 hy
  exact ⟨G', Step.refl r, .int⟩
theorem its_ok {z : Str} {G : Hp} : ItOk c (Its z) G (z.cps.toList.map fun ch => D.str ⟨#[ch]⟩) := by
  refine fun i env σ G' H r x => ⟨fun hi => by simp at hi; exact hi, fun d hd => ?_⟩
  rw [List.getElem?_map] at hd
  cases q : z.cps.toList[i]? with
  | none => rw [q] at hd; cases hd
  | some ch =>
    rw [q] at hd
    have hd : d = .str ⟨#[ch]⟩ := (Option.some.inj hd).symm
    subst hd
    have q' : z.cps[i]? = some ch := by simpa using q
    refine ⟨(Array.getElem?_eq_some_iff.mp q').1, fun y H' ⟨e2, ch', hc, hy⟩ => ?_⟩
    rw [q'] at hc; cases hc
    subst e2 hy
    exact ⟨G', Step.refl r, .str⟩
theorem evI_list {tl : TE} {f : Exp} (hf : Ev RvOk c W tl f) : Ev okI c W (iList c.K tl) (itE (fzE f) seqOf) := fun env σ G H r R p => by
  refine hf.fz.use (Step.refl r) p fun d e1 v G1 H1 s _ ok p => ?_
  have ok : Rep c G1 v d := ok
  split at p
  · rename_i ds q
    obtain ⟨a, vs, e, hq, hi⟩ := itl_ok ok q
    exact ⟨a, e, ⟨vs, s.rel.ex.sl hq⟩, p _ G1 H1 s hi⟩
  · exact p.elim
theorem evI_tup {tl : TE} {f : Exp} (hf : Ev RvOk c W tl f) : Ev okI c W (iTup c.K tl) (itE (fzE f) tupOf) := fun env σ G H r R p => by
  refine hf.fz.use (Step.refl r) p fun d e1 v G1 H1 s _ ok p => ?_
  have ok : Rep c G1 v d := ok
  split at p
  · rename_i ds q
    obtain ⟨a, vs, e, hq, hi⟩ := itt_ok ok q
    exact ⟨a, e, ⟨vs, s.rel.ex.st hq⟩, p _ G1 H1 s hi⟩
  · exact p.elim
theorem evI_str {tl : TE} {f : Exp} (hf : Ev RvOk c W tl f) : Ev okI c W (iStr tl) (itE (fzE f) strOf) := fun env σ G H r R p => by
  refine hf.fz.use (Step.refl r) p fun d e1 v G1 H1 s _ ok p => ?_
  have ok : Rep c G1 v d := ok
  split at p
  · rename_i ds q
    cases d <;> first | (cases q; done) | skip
    cases q
    exact ⟨_, ok.vstr, p _ G1 H1 s its_ok⟩
  · exact p.elim
theorem evI_rng1 {ta : TA} {f : Args} (hf : Ev okA c W ta f) : Ev okI c W (iRng1 ta) (itE f rng1) := fun env σ G H r R p => by
  refine hf.use (Step.refl r) p fun rs e1 vs G1 H1 s _ ok p => ?_
  obtain ⟨hl, hr, hx⟩ := ok; clear hx
  split at p
  · rename_i ds q
    unfold rng1 at q
    split at q
    · rename_i j
      split at q
      · rename_i hj
        cases q
        match vs, hl, hr with
        | [v], _, hr =>
          have := Rep.vint (hr 0 v _ rfl rfl)
          subst this
          exact ⟨j, rfl, hj.1, hj.2, p _ G1 H1 s itr_ok⟩
      · cases q
    · cases q
  · exact p.elim
theorem evI_rng2 {ta : TA} {f : Args} (hf : Ev okA c W ta f) : Ev okI c W (iRng2 ta) (itE f rng2) := fun env σ G H r R p => by
  refine hf.use (Step.refl r) p fun rs e1 vs G1 H1 s _ ok p => ?_
  obtain ⟨hl, hr, hx⟩ := ok; clear hx
  split at p
  · rename_i ds q
    unfold rng2 at q
    split at q
    · rename_i i j
      split at q
      · rename_i hj
        cases q
        match vs, hl, hr with
        | [v, w], _, hr =>
          have := Rep.vint (hr 0 v _ rfl rfl)
          have := Rep.vint (hr 1 w _ rfl rfl)
          subst v w
          exact ⟨i, j, rfl, hj, p _ G1 H1 s itr_ok⟩
      · cases q
    · cases q
  · exact p.elim
/-- pairs -/
def enumD : Nat → List D → List D
  | _, [] => []
  | k, d :: ds => .tup [.int (k : Nat), d] :: enumD (k + 1) ds
theorem enum_len : ∀ {ds : List D} {k : Nat}, (enumD k ds).length = ds.length
  | [], _ => rfl
  | d :: ds, k => congrArg (· + 1) enum_len
theorem enum_get : ∀ {ds : List D} {k i : Nat} {x : D}, (enumD k ds)[i]? = some x → ∃ d, ds[i]? = some d ∧ x = .tup [.int ((k + i : Nat) : Int), d]
  | [], _, _, _, h => by simp [enumD] at h
  | d :: ds, k, i, x, h => by
    cases i with
    | zero =>
      have h : D.tup [.int (k : Nat), d] = x := by simpa [enumD] using h
      exact ⟨d, rfl, h.symm⟩
    | succ i =>
      obtain ⟨d', h1, h2⟩ := enum_get (ds := ds) (k := k + 1) (i := i) (x := x) (by simpa [enumD] using h)
      exact ⟨d', by simpa using h1, by rw [h2]; congr 4; omega⟩

def enum1 : List D → Option (List D)
  | [d] => match seqOf d with
    | some ds => some (enumD 0 ds)
    | none => none
  | _ => none
def zipD : List D → List D → List D
  | d :: ds, e :: es => .tup [d, e] :: zipD ds es
  | _, _ => []
theorem zip_get : ∀ {ds es : List D} {i : Nat} {x : D}, (zipD ds es)[i]? = some x → ∃ d e, ds[i]? = some d ∧ es[i]? = some e ∧ x = .tup [d, e]
  | [], es, _, _, h => by simp [zipD] at h
  | d :: ds, [], _, _, h => by simp [zipD] at h
  | d :: ds, e :: es, i, x, h => by
    cases i with
    | zero =>
      have h : D.tup [d, e] = x := by simpa [zipD] using h
      exact ⟨d, e, rfl, rfl, h.symm⟩
    | succ i =>
      obtain ⟨d', e', h1, h2, h3⟩ := zip_get (ds := ds) (es := es) (i := i) (x := x) (by simpa [zipD] using h)
      exact ⟨d', e', by simpa using h1, by simpa using h2, h3⟩
theorem zip_len : ∀ {ds es : List D} {i : Nat}, (zipD ds es).length ≤ i → ds.length ≤ i ∨ es.length ≤ i
  | [], es, i, _ => .inl (Nat.zero_le _)
  | d :: ds, [], i, _ => .inr (Nat.zero_le _)
  | d :: ds, e :: es, i, h => by
    cases i with
    | zero => simp [zipD] at h
    | succ i =>
      rcases zip_len (ds := ds) (es := es) (i := i) (by simpa [zipD] using h) with z | z
      · exact .inl (by simpa using z)
      · exact .inr (by simpa using z)
def zip2 : List D → Option (List D)
  | [d, e] => match seqOf d, seqOf e with
    | some ds, some es => some (zipD ds es)
    | none, none => match tupOf d, tupOf e with
      | some ds, some es => some (zipD ds es)
      | _, _ => none
    | _, _ => none
  | _ => none
theorem pair_step {σ : L2.St} {env : Env} {G G1 H : Hp} (r : Rel c env σ G H) (x : Ex G1 G) {T : Addr} {a b : V} {d e : D} (hT : H T = none) (ra : Rep c G1 a d) (rb : Rep c G1 b e) : ∃ G', Step c σ env G H env G' (upd H T (.tup [a, b])) ∧ Rep c G' (.ref T) (.tup [d, e]) := by
  have w : Grow G H (upd G T (.tup [a, b])) (upd H T (.tup [a, b])) := Grow.frz r.ex hT
  exact ⟨_, w.step r, .tup (vs := [a, b]) (.inl (.inl upd_same)) (.cons ((ra.mono x).mono w.g) (.cons ((rb.mono x).mono w.g) .nil))⟩
theorem key_seq {v : V} {d : D} {ds : List D} {G : Hp} (ok : Rep c G v d) (e : seqOf d = some ds) : ∃ a vs, v = .ref a ∧ SqL c.K G a vs ∧ Reps c G vs ds := by
  cases d <;> first | (cases e; done) | skip
  · cases e; cases ok with | lst h r => exact ⟨_, _, rfl, SqL.of h, r⟩
  · cases e; cases ok with | scr h r => exact ⟨_, _, rfl, h, r⟩
theorem key_tup {v : V} {d : D} {ds : List D} {G : Hp} (ok : Rep c G v d) (e : tupOf d = some ds) : ∃ a vs, v = .ref a ∧ SqT c.K G a vs ∧ Reps c G vs ds := by
  cases d <;> first | (cases e; done) | skip
  cases e; cases ok with | tup h r => exact ⟨_, _, rfl, h, r⟩
theorem ite_ok {a : Addr} {vs : List V} {ds : List D} {G : Hp} (hq : SqL c.K G a vs) (rs : Reps c G vs ds) : ItOk c (Ite c.K a) G (enumD 0 ds) := by
  refine fun i env σ G' H r x => ⟨fun hi => ⟨vs, r.ex.sl (x.sl hq), by rw [rs.length, ← enum_len (ds := ds) (k := 0)]; exact hi⟩, fun d hd => ?_⟩
  obtain ⟨d', h1, h2⟩ := enum_get hd
  obtain ⟨u, hu, ru⟩ := rs.get h1
  refine ⟨⟨vs, u, r.ex.sl (x.sl hq), hu⟩, fun y H' ⟨T, u', e1, hT, e2, hy⟩ => ?_⟩
  have := hy vs (r.ex.sl (x.sl hq))
  rw [hu] at this; cases this
  subst e1 e2 h2
  rw [Nat.zero_add]
  exact pair_step r x hT .int ru
theorem itz_ok {a b : Addr} {vs us : List V} {ds es : List D} {G : Hp} (hq : SqL c.K G a vs) (hq2 : SqL c.K G b us) (rs : Reps c G vs ds) (rs2 : Reps c G us es) : ItOk c (Itz c.K a b) G (zipD ds es) := by
  refine fun i env σ G' H r x => ⟨fun hi => ⟨vs, us, r.ex.sl (x.sl hq), r.ex.sl (x.sl hq2), by rw [rs.length, rs2.length]; exact zip_len hi⟩, fun d hd => ?_⟩
  obtain ⟨d', e', h1, h2, h3⟩ := zip_get hd
  obtain ⟨u, hu, ru⟩ := rs.get h1
  obtain ⟨u2, hu2, ru2⟩ := rs2.get h2
  refine ⟨⟨vs, us, u, u2, r.ex.sl (x.sl hq), r.ex.sl (x.sl hq2), hu, hu2⟩, fun y H' ⟨T, p, q, e1, hT, e2, hy, hz⟩ => ?_⟩
  have := hy vs (r.ex.sl (x.sl hq))
  rw [hu] at this; cases this
  have := hz us (r.ex.sl (x.sl hq2))
  rw [hu2] at this; cases this
  subst e1 e2 h3
  exact pair_step r x hT ru ru2
theorem itzT_ok {a b : Addr} {vs us : List V} {ds es : List D} {G : Hp} (hq : SqT c.K G a vs) (hq2 : SqT c.K G b us) (rs : Reps c G vs ds) (rs2 : Reps c G us es) : ItOk c (RZ.ItzT c.K a b) G (zipD ds es) := by
  refine fun i env σ G' H r x => ⟨fun hi => ⟨vs, us, r.ex.st (x.st hq), r.ex.st (x.st hq2), by rw [rs.length, rs2.length]; exact zip_len hi⟩, fun d hd => ?_⟩
  obtain ⟨d', e', h1, h2, h3⟩ := zip_get hd
  obtain ⟨u, hu, ru⟩ := rs.get h1
  obtain ⟨u2, hu2, ru2⟩ := rs2.get h2
  refine ⟨⟨vs, us, u, u2, r.ex.st (x.st hq), r.ex.st (x.st hq2), hu, hu2⟩, fun y H' ⟨T, p, q, e1, hT, e2, hy, hz⟩ => ?_⟩
  have := hy vs (r.ex.st (x.st hq))
  rw [hu] at this; cases this
  have := hz us (r.ex.st (x.st hq2))
  rw [hu2] at this; cases this
  subst e1 e2 h3
  exact pair_step r x hT ru ru2
theorem Reps.two {G : Hp} {vs : List V} {d e : D} (h : Reps c G vs [d, e]) : ∃ v w, vs = [v, w] ∧ Rep c G v d ∧ Rep c G w e := by
  cases h with
  | cons h1 r => cases r with | cons h2 r => cases r; exact ⟨_, _, rfl, h1, h2⟩
theorem Reps.one {G : Hp} {vs : List V} {d : D} (h : Reps c G vs [d]) : ∃ v, vs = [v] ∧ Rep c G v d := by
  cases h with
  | cons h1 r => cases r; exact ⟨_, rfl, h1⟩
theorem evI_enum {ta : TA} {f : Dargs} (hf : Ev okDs c W ta f) : Ev okI c W (iEnum c.K ta) (itE f enum1) := fun env σ G H r R p => by
  refine hf.use (Step.refl r) p fun rs e1 vs G1 H1 s _ ok p => ?_
  have ok : Reps c G1 vs rs := ok
  split at p
  · rename_i ds q
    unfold enum1 at q
    split at q
    · split at q
      · rename_i ds' q2
        cases q
        obtain ⟨v, rfl, r1⟩ := ok.one
        obtain ⟨a, us, rfl, hq, rs⟩ := key_seq r1 q2
        exact ⟨a, us, rfl, s.rel.ex.sl hq, p _ G1 H1 s (ite_ok hq rs)⟩
      · cases q
    · cases q
  · exact p.elim
theorem evI_zip {ta : TA} {f : Dargs} (hf : Ev okDs c W ta f) : Ev okI c W (RZ.iZipA c.K ta) (itE f zip2) := fun env σ G H r R p => by
  refine hf.use (Step.refl r) p fun rs e1 vs G1 H1 s _ ok p => ?_
  have ok : Reps c G1 vs rs := ok
  split at p
  · rename_i ds q
    unfold zip2 at q
    split at q
    · obtain ⟨v, w, rfl, r1, r2⟩ := ok.two
      split at q
      · rename_i z1 z2
        cases q
        obtain ⟨a, us, rfl, hq, rs⟩ := key_seq r1 z1
        obtain ⟨b, us2, rfl, hq2, rs2⟩ := key_seq r2 z2
        exact ⟨a, b, us, us2, rfl, .inl ⟨s.rel.ex.sl hq, s.rel.ex.sl hq2, p _ G1 H1 s (itz_ok hq hq2 rs rs2)⟩⟩
      · split at q
        · rename_i z1 z2
          cases q
          obtain ⟨a, us, rfl, hq, rs⟩ := key_tup r1 z1
          obtain ⟨b, us2, rfl, hq2, rs2⟩ := key_tup r2 z2
          exact ⟨a, b, us, us2, rfl, .inr ⟨s.rel.ex.st hq, s.rel.ex.st hq2, p _ G1 H1 s (itzT_ok hq hq2 rs rs2)⟩⟩
        · cases q
      · cases q
    · cases q
  · exact p.elim
end
section
variable {X : Cx} {W : WX} {tg e e2 a a' : Expr} {f : Exp} {g : Args} {h : Dargs} {p' pos' tpos : Pos} {elts : List Expr} {kk : Nat}
theorem SI.list (he : SE X W e f) : SI X W tg e (itE (fzE f) seqOf) := let ⟨_, p, q⟩ := he; ⟨_, pi_list p, evI_list q⟩
theorem SI.tup (he : SE X W e f) : SI X W tg e (itE (fzE f) tupOf) := let ⟨_, p, q⟩ := he; ⟨_, pi_tup p, evI_tup q⟩
theorem SI.str (he : SE X W e f) : SI X W tg e (itE (fzE f) strOf) := let ⟨_, p, q⟩ := he; ⟨_, pi_str p, evI_str q⟩
theorem SI.rng1 (hm : X.mg "range" = none) (he : SA X W [a] g) (hG : Gl X "range" := by rfl) (h1 : starEach [a] X.env = [(false, eval a X.env)] := by rfl) : SI X W tg (.Call (.Name "range" p') [a] [] pos') (itE g Zed.rng1) :=
  let ⟨_, p, q⟩ := he; ⟨_, pi_range1 hG hm p h1, evI_rng1 q⟩
theorem SI.rng2 (hm : X.mg "range" = none) (he : SA X W [a, a'] g) (hG : Gl X "range" := by rfl) (h1 : starEach [a, a'] X.env = [(false, eval a X.env), (false, eval a' X.env)] := by rfl)
    (h2 : starEach [a'] X.env = [(false, eval a' X.env)] := by rfl) : SI X W tg (.Call (.Name "range" p') [a, a'] [] pos') (itE g Zed.rng2) :=
  let ⟨_, p, q⟩ := he; ⟨_, pi_range2 hG hm p h1 h2, evI_rng2 q⟩
theorem SI.enum (hm : X.mg "enumerate" = none) (he : SDA X W [e] h) (hG : Gl X "enumerate" := by rfl) (h1 : starEach [e] X.env = [(false, eval e X.env)] := by rfl) : SI X W (.Tuple elts kk tpos) (.Call (.Name "enumerate" p') [e] [] pos') (itE h enum1) :=
  let ⟨_, p, q⟩ := he; ⟨_, pi_enum hG hm p h1, evI_enum q⟩
theorem SI.zip (hm : X.mg "zip" = none) (he : SDA X W [e, e2] h) (hG : Gl X "zip" := by rfl) (h1 : starEach [e, e2] X.env = (false, eval e X.env) :: starEach [e2] X.env := by rfl) (h2 : (backTo pos' (starEach [e2] X.env)).any (·.1) = false := by rfl) :
    SI X W (.Tuple elts kk tpos) (.Call (.Name "zip" p') [e, e2] [] pos') (itE h zip2) :=
  let ⟨_, p, q⟩ := he; ⟨_, RZ.pi_zipA hG hm p h1 h2, evI_zip q⟩
end

/-- what becomes of a turn's end -/
def loopK (r : Option Fl) (k : Stm) : Option Fl := match r with
  | some (.nx e) => k e
  | some (.cont e) => k e
  | some (.brk e) => some (.nx e)
  | r => r
def iter (b : Bnd) (body : Stm) : List D → Stm
  | [], env => some (.nx env)
  | d :: ds, env => match b d env with
    | none => none
    | some e1 => loopK (body e1) (iter b body ds)
def whileN (t : Tst) (body : Stm) : Nat → Stm
  | 0, _ => none
  | n + 1, env => Rs.s (t env) fun b e1 => if b = true then loopK (body e1) (whileN t body n) else some (.nx e1)
def forI (b : Bnd) (it : Seq) (body : Stm) : Stm := fun env => Rs.s (it env) fun ds e1 => iter b body ds e1
section
variable {F : Nat → Bool} {c : Ct} {W : WX} {σ σ1 : L2.St} {env env1 : Env} {G H G1 H1 : Hp}
theorem loopK_ok {tb : TS} {body : Stm} (hb : EvS F c W tb body) {D' : Ends} {k : Stm} (s : SStep F c σ env G H σ1 env1 G1 H1) (p : PostS F c W σ env G H D' (loopK (body env1) k)) {N : L2.St → Hp → Prop}
    (hN : ∀ e2 σ4 G4 H4, SStep F c σ env G H σ4 e2 G4 H4 → Ex G1 G4 → PostS F c W σ env G H D' (k e2) → N σ4 H4) : tb { D' with nx := N, ct := N, bk := D'.nx } σ1 H1 := by
  refine hb env1 σ1 G1 H1 s.rel _ ?_
  unfold loopK at p
  cases q2 : body env1 with
  | none => rw [q2] at p; exact p
  | some fl =>
    rw [q2] at p
    cases fl with
    | nx e2 => exact fun σ4 G4 H4 s4 => hN e2 σ4 G4 H4 (s.trans s4) s4.g p
    | cont e2 => exact fun σ4 G4 H4 s4 => hN e2 σ4 G4 H4 (s.trans s4) s4.g p
    | brk e2 => exact fun σ4 G4 H4 s4 => p σ4 G4 H4 (s.trans s4)
    | ret r e2 => exact fun v σ4 G4 H4 s4 ok => p v σ4 G4 H4 (s.trans s4) (ok.back s.al)
    | exc x e2 => exact fun cls dd σ4 G4 H4 s4 hx hd => p cls dd σ4 G4 H4 (s.trans s4) hx fun a e => s.al a (hd a e)
/-- what holds between two turns; G1: what was settled ahead of the loop -/
def Turn (F : Nat → Bool) (c : Ct) (W : WX) (σ : L2.St) (env : Env) (G H G1 : Hp) (D' : Ends) (f : Stm) (σ' : L2.St) (H' : Hp) : Prop := ∃ env' G', SStep F c σ env G H σ' env' G' H' ∧ Ex G1 G' ∧ PostS F c W σ env G H D' (f env')
theorem turn_step {g : TG} {b : Bnd} {tb : TS} {body : Stm} (hg : BndOk F c g b) (hb : EvS F c W tb body) {D' : Ends} {ds : List D} {d : D} {v : V} {G' : Hp} {env' : Env} {σ' : L2.St} {H' : Hp} (s : SStep F c σ env G H σ' env' G' H') (x : Ex G1 G') (rp : Rep c G' v d)
    (p : PostS F c W σ env G H D' (iter b body (d :: ds) env')) : g v σ' H' fun σ2 H2 => tb { D' with nx := Turn F c W σ env G H G1 D' (iter b body ds), ct := Turn F c W σ env G H G1 D' (iter b body ds), bk := D'.nx } σ2 H2 := by
  unfold iter at p
  cases q1 : b d env' with
  | none => rw [q1] at p; exact p.elim
  | some e1 =>
    rw [q1] at p
    refine hg env' σ' G' H' v d e1 s.rel rp q1 _ fun σ2 s2 => ?_
    exact loopK_ok hb (s.trans s2) p fun e2 σ4 G4 H4 s4 x4 p4 => ⟨e2, G4, s4, x.trans x4, p4⟩
theorem drop_cons {ds : List D} {i : Nat} {d : D} (h : ds[i]? = some d) : ds.drop i = d :: ds.drop (i + 1) := (List.drop_eq_getElem?_toList_append (l := ds) (i := i)).trans (by rw [h]; rfl)
theorem turn_end {b : Bnd} {body : Stm} {D' : Ends} {ds : List D} {n : Nat} (hn : ds.length ≤ n) {σ' : L2.St} {H' : Hp} (h : Turn F c W σ env G H G1 D' (iter b body (ds.drop n)) σ' H') : D'.nx σ' H' := by
  obtain ⟨_, G', s, _, p⟩ := h
  rw [List.drop_of_length_le hn] at p
  exact p σ' G' H' s
theorem for_ok {wi : TI} {it : Seq} {g : TG} {b : Bnd} {tb : TS} {body : Stm} (hi : Ev okI c W wi it) (hg : BndOk F c g b) (hb : EvS F c W tb body) : EvS F c W (tFor wi g tb) (forI b it body) := fun env σ G H r D' p => by
  refine hi.uses (SStep.refl r) p fun ds e1 J G1 H1 s _ ok p => ?_
  have ok : ItOk c J G1 ds := ok
  refine ⟨fun i m σ' H' => m = ds.length - i ∧ i ≤ ds.length ∧ Turn F c W σ env G H G1 D' (Zed.iter b body (ds.drop i)) σ' H', ⟨ds.length, by simp, Nat.zero_le _, e1, G1, s, Ex.refl _, p⟩, ?_⟩
  rintro i m σ' H' ⟨rfl, hi, t⟩
  obtain ⟨env', G', s', x1, p'⟩ := id t
  obtain ⟨o1, o2⟩ := ok i env' σ' G' H' s'.rel x1
  by_cases hlt : i < ds.length
  · obtain ⟨go, y⟩ := o2 ds[i] (by simp [hlt])
    refine .inr ⟨go, Turn F c W σ env G H G1 D' (Zed.iter b body (ds.drop (i + 1))), fun σ2 H2 t2 => ⟨ds.length - (i + 1), by omega, rfl, hlt, t2⟩, fun x H2 hy => ?_⟩
    obtain ⟨G2, st, rp⟩ := y x H2 hy
    rw [drop_cons (d := ds[i]) (by simp [hlt])] at p'
    exact turn_step hg hb (s'.trans (st.s s'.rel)) (x1.trans st.g) rp p'
  · exact .inl ⟨o1 (by omega), turn_end (by omega) t⟩
theorem whileN_ok {tc : TT} {t : Tst} {tb : TS} {body : Stm} (ht : Ev okT c W tc t) (hb : EvS F c W tb body) (n : Nat) : EvS F c W (tWhile tc tb) (whileN t body n) := fun env σ G H r D' p => by
  refine ⟨fun m => Turn F c W σ env G H G D' (whileN t body m), ⟨n, env, G, SStep.refl r, Ex.refl _, p⟩, ?_⟩
  rintro m σ' H' ⟨env', G', s', x', p'⟩
  cases m with
  | zero => exact p'.elim
  | succ m =>
    refine ht.uses s' p' fun b' e1 b1 G1 H1 s s1 ok p => ?_
    have ok : b1 = b' := ok
    subst ok
    cases b1 with
    | false => rw [if_neg Bool.false_ne_true] at p ⊢; exact p σ' G1 H1 s
    | true =>
      rw [if_pos rfl] at p ⊢
      refine ⟨Turn F c W σ env G H G D' (whileN t body m), fun σ' H' h => ⟨m, Nat.lt_succ_self m, h⟩, ?_⟩
      exact loopK_ok hb s p fun e2 σ4 G4 H4 s4 x4 p4 => ⟨e2, G4, s4, x'.trans (s1.g.trans x4), p4⟩
end
section
variable {X : Cx} {W : WX} {F : Nat → Bool} {tg e : Expr} {b : Bnd} {it : Seq} {t : Tst} {sts : List Stmt} {body : Stm} {pos : Pos}
theorem S1.for (hp : PassesOwn (model X.prog X.w) X.A X.env X.xe) (hc : X.calm = true) (hi : SI X W tg e it) (hg : SG X F tg b) (hb : SS X W F sts body) (hs : ∀ x, foldedSetIterable e X.env x = pure x := by intro _; rfl) : S1 X W F (.For tg e sts [] pos) (forI b it body) :=
  let ⟨_, p1, q1⟩ := hi; let ⟨_, p2, q2⟩ := hg; let ⟨_, p3, q3⟩ := hb; ⟨_, ps_for hp hc p1 p2 p3 hs, for_ok q1 q2 q3⟩
theorem S1.while (n : Nat) (hp : PassesOwn (model X.prog X.w) X.A X.env X.xe) (ht : ST X W e t) (hb : SS X W F sts body) : S1 X W F (.While e sts [] pos) (whileN t body n) :=
  let ⟨_, p1, q1⟩ := ht; let ⟨_, p2, q2⟩ := hb; ⟨_, ps_while hp p1 p2, whileN_ok q1 q2 n⟩
end
end Zed
set_option Elab.async false
set_option linter.all false
set_option maxRecDepth 100000
set_option maxHeartbeats 2000000
namespace Zed
open PySem L2
open PyProof.Rows (envOfC)

abbrev FDen := Env → Option (Rs RV)
/-- own things come only for parameters that the def doesn't store to -/
def okIn (F : Nat → Bool) : Nat → Env → Bool
  | _, [] => true
  | k, some (.own _) :: as => F k && okIn F (k + 1) as
  | k, _ :: as => okIn F (k + 1) as
/-- what the parameters hold at the end -/
def mask (F : Nat → Bool) : Nat → Nat → Env → Env
  | 0, _, _ => []
  | n + 1, k, [] => none :: mask F n (k + 1) []
  | n + 1, k, x :: xs => (if F k = true then x else none) :: mask F n (k + 1) xs
def giveR (np : Nat) (F : Nat → Bool) (r : RV) (e : Env) : Option RV := match r with
  | .frz d => some (.frz d)
  | .new o => some (.new o)
  | .slot i => if (decide (i < np) && F i) = true then some (.slot i) else match e[i]? with
    | some (some (.frz d)) => some (.frz d)
    | some (some (.own o)) => some (.new o)
    | _ => none
def endF (np : Nat) (F : Nat → Bool) (as : Env) : Option Fl → Option (Rs RV)
  | some (.nx e) => some (.val (.frz .non) (mask F np 0 e))
  | some (.ret r e) => match giveR np F r e with
    | some r' => some (.val r' (mask F np 0 e))
    | none => none
  | some (.exc x _) => some (.exc x (as.map fun _ => none))
  | _ => none
def runF (np nl : Nat) (F : Nat → Bool) (body : Stm) : FDen := fun as =>
  if as.length = np ∧ okIn F 0 as = true then endF np F as (body (as ++ List.replicate (nl - np) none)) else none
/-- what a def promises that computes f -/
def SpOf (c : Ct) (np : Nat) (f : FDen) : Sp := fun vs H Q E => vs.length = np ∧ ∃ G as, Rel c as (vs.map some) G H ∧ Post RvOk c (fun cls dd _ H => E cls dd H) (vs.map some) as G H Q (f as)

theorem okIn_get {F : Nat → Bool} : ∀ {as : Env} {k i : Nat} {o : O}, okIn F k as = true → as[i]? = some (some (.own o)) → F (k + i) = true
  | [], _, _, _, _, h => by simp at h
  | a :: as, k, i, o, h, e => by
    cases i with
    | zero =>
      simp at e
      subst e
      have h' : (F k && okIn F (k + 1) as) = true := h
      rw [Bool.and_eq_true] at h'
      exact h'.1
    | succ i =>
      have e' : as[i]? = some (some (.own o)) := by simpa using e
      have h' : okIn F (k + 1) as = true := by
        cases a with
        | none => exact h
        | some lv =>
          cases lv with
          | frz d => exact h
          | own o' =>
            have h' : (F k && okIn F (k + 1) as) = true := h
            rw [Bool.and_eq_true] at h'
            exact h'.2
      have := okIn_get h' e'
      rw [show k + (i + 1) = k + 1 + i by omega]
      exact this
theorem mask_get {F : Nat → Bool} : ∀ {n k i : Nat} {e : Env} {lv : LV}, (mask F n k e)[i]? = some (some lv) → i < n ∧ F (k + i) = true ∧ e[i]? = some (some lv)
  | 0, _, _, _, _, h => by simp [mask] at h
  | n + 1, k, i, [], lv, h => by
    cases i with
    | zero => simp [mask] at h
    | succ i =>
      have h' : (mask F n (k + 1) [])[i]? = some (some lv) := by simpa [mask] using h
      obtain ⟨_, _, h3⟩ := mask_get h'
      simp at h3
  | n + 1, k, i, x :: xs, lv, h => by
    cases i with
    | zero =>
      have h' : (if F k = true then x else none) = some lv := by simpa [mask] using h
      split at h'
      · rename_i hf
        exact ⟨by omega, hf, by simpa using h'⟩
      · cases h'
    | succ i =>
      have h' : (mask F n (k + 1) xs)[i]? = some (some lv) := by simpa [mask] using h
      obtain ⟨h1, h2, h3⟩ := mask_get h'
      exact ⟨by omega, by rw [show k + (i + 1) = k + 1 + i by omega]; exact h2, by simpa using h3⟩
theorem mask_len {F : Nat → Bool} : ∀ {n k : Nat} {e : Env}, (mask F n k e).length = n
  | 0, _, _ => rfl
  | n + 1, k, [] => by simp [mask, mask_len]
  | n + 1, k, x :: xs => by simp [mask, mask_len]
section
variable {F : Nat → Bool} {c : Ct} {W : WX} {as : Env} {vs : List V} {G H : Hp} {n : Nat}
theorem get_app {α : Type} {l : List α} {k i : Nat} {x y : α} (h : (l ++ List.replicate k x)[i]? = some y) : l[i]? = some y ∨ y = x := by
  by_cases hi : i < l.length
  · rw [List.getElem?_append_left hi] at h; exact .inl h
  · rw [List.getElem?_append_right (by omega)] at h
    rw [List.getElem?_replicate] at h
    split at h
    · cases h; exact .inr rfl
    · cases h
theorem Rel.ext (r : Rel c as (vs.map some) G H) (k : Nat) : Rel c (as ++ List.replicate k none) (vs.map some ++ List.replicate k none) G H := by
  have hl : vs.length = as.length := by simpa using r.len
  have up : ∀ {i : Nat} {v : V}, (vs.map some)[i]? = some (some v) → (vs.map some ++ List.replicate k none)[i]? = some (some v) := fun {i v} h => by
    rw [List.getElem?_append_left (List.getElem?_eq_some_iff.mp h).1]; exact h
  have dn : ∀ {i : Nat} {v : V}, (vs.map some ++ List.replicate k none)[i]? = some (some v) → (vs.map some)[i]? = some (some v) := fun {i v} h => by
    rcases get_app h with h | h
    · exact h
    · cases h
  have de : ∀ {i : Nat} {v : LV}, (as ++ List.replicate k none)[i]? = some (some v) → as[i]? = some (some v) := fun {i v} h => by
    rcases get_app h with h | h
    · exact h
    · cases h
  refine ⟨r.ex, by simp [hl], fun i lv e => ?_, fun i j oi oj a h1 h2 h3 h4 => r.dj i j oi oj a (de h1) (de h2) (dn h3) (dn h4)⟩
  obtain ⟨v, h1, h2⟩ := r.sl i lv (de e)
  exact ⟨v, up h1, h2⟩
theorem oa_ext {k : Nat} {a : Addr} (h : OA (as ++ List.replicate k none) (vs.map some ++ List.replicate k none) a) : OA as (vs.map some) a := by
  obtain ⟨i, o, h1, h2⟩ := h
  refine ⟨i, o, ?_, ?_⟩
  · rcases get_app h1 with h | h
    · exact h
    · cases h
  · rcases get_app h2 with h | h
    · exact h
    · cases h
/-- the body's end is the def's -/
theorem run_end (r : Rel c as (vs.map some) G H) (hv : vs.length = n) {k : Nat} {σ' : L2.St} {e : Env} {G' H' : Hp} (s : SStep F c (vs.map some ++ List.replicate k none) (as ++ List.replicate k none) G H σ' e G' H') :
    Step c (vs.map some) as G H (mask F n 0 e) G' H' := by
  have hl : vs.length = as.length := by simpa using r.len
  have fx : ∀ {i : Nat}, i < n → F i = true → σ'[i]? = (vs.map some)[i]? := fun {i} hi f => by
    rw [s.fix i f, List.getElem?_append_left (by simpa [hv] using hi)]
  have mk : ∀ {i : Nat} {lv : LV}, (mask F n 0 e)[i]? = some (some lv) → i < n ∧ F i = true ∧ e[i]? = some (some lv) := fun {i lv} h => by
    obtain ⟨h1, h2, h3⟩ := mask_get h
    rw [Nat.zero_add] at h2
    exact ⟨h1, h2, h3⟩
  refine ⟨s.g, ⟨s.rel.ex, by rw [mask_len]; simpa using hv, fun i lv q => ?_, fun i j oi oj a h1 h2 h3 h4 => ?_⟩, fun a o h g no => s.keep a o h g fun z => no (oa_ext z), fun i o q => ?_, s.al⟩
  · obtain ⟨h1, h2, h3⟩ := mk q
    obtain ⟨v, h4, h5⟩ := s.rel.sl i lv h3
    exact ⟨v, by rw [← fx h1 h2]; exact h4, h5⟩
  · obtain ⟨p1, p2, p3⟩ := mk h1
    obtain ⟨q1, q2, q3⟩ := mk h2
    exact s.rel.dj i j oi oj a p3 q3 (by rw [fx p1 p2]; exact h3) (by rw [fx q1 q2]; exact h4)
  · obtain ⟨h1, h2, h3⟩ := mk q
    obtain ⟨o', h4⟩ := s.ow i o h2 h3
    rcases get_app h4 with h4 | h4
    · exact ⟨o', h4⟩
    · cases h4
theorem runF_ok {nl : Nat} {body : Stm} {ts : TS} (hb : EvS F c W ts body) (hn : vs.length = n) (r : Rel c as (vs.map some) G H) {Q : VK} {E : XK} (hW : W = fun cls dd _ H => E cls dd H) (p : Post RvOk c (fun cls dd _ H => E cls dd H) (vs.map some) as G H Q (runF n nl F body as)) :
    ts { nx := fun _ H' => Q .non H', rt := Q } (vs.map some ++ List.replicate (nl - n) none) H := by
  subst hW
  unfold runF at p
  split at p
  · rename_i hin
    refine hb _ _ G H (r.ext _) _ ?_
    cases q : body (as ++ List.replicate (nl - n) none) with
    | none => rw [q] at p; exact p
    | some fl =>
      rw [q] at p
      cases fl with
      | nx e => exact fun σ' G' H' s => p .non G' H' (run_end r hn s) .non
      | brk e => exact p.elim
      | cont e => exact p.elim
      | exc x e =>
        intro cls dd σ' G' H' s hx hd
        refine p cls dd G' H' ?_ hx hd
        have s1 := run_end (F := F) r hn s
        refine ⟨s1.g, ⟨s1.rel.ex, by simpa using r.len, fun i lv q => ?_, fun i j oi oj a h1 => ?_⟩, s1.keep, fun i o q => ?_, s1.al⟩
        · rw [List.getElem?_map] at q; cases h : as[i]? <;> rw [h] at q <;> cases q
        · rw [List.getElem?_map] at h1; cases h : as[i]? <;> rw [h] at h1 <;> cases h1
        · rw [List.getElem?_map] at q; cases h : as[i]? <;> rw [h] at q <;> cases q
      | ret rv e =>
        intro v σ' G' H' s ok
        dsimp only [endF] at p
        have s1 := run_end (F := F) r hn s
        cases qr : giveR n F rv e with
        | none => rw [qr] at p; exact p.elim
        | some r' =>
          rw [qr] at p
          refine p v G' H' s1 ?_
          cases rv with
          | frz d => cases qr; exact ok
          | new o => cases qr; exact ok
          | slot i =>
            dsimp only [giveR] at qr
            split at qr
            · rename_i hc
              cases qr
              rw [Bool.and_eq_true] at hc
              have hi := of_decide_eq_true hc.1
              show (vs.map some)[i]? = some (some v)
              rw [← List.getElem?_append_left (l₂ := List.replicate (nl - n) none) (by simpa [hn] using hi), ← s.fix i hc.2]
              exact ok
            · rename_i hc
              have hs : σ'[i]? = some (some v) := ok
              split at qr
              · rename_i d he
                cases qr
                obtain ⟨v', h1, h2⟩ := s.rel.sl i _ he
                rw [hs] at h1; cases h1
                exact h2
              · rename_i o he
                cases qr
                obtain ⟨v', h1, a, ho, ev, g, h2, w⟩ := s.rel.sl i _ he
                rw [hs] at h1
                have e1 := Option.some.inj (Option.some.inj h1)
                subst e1 ev
                refine ⟨a, ho, rfl, ?_, g, h2, w⟩
                have noF : ∀ {j : Nat} {o' : O}, F j = false → (as ++ List.replicate (nl - n) none)[j]? = some (some (.own o')) → False := fun {j o'} fj z => by
                  rcases get_app z with z | z
                  · have := okIn_get hin.2 z
                    rw [Nat.zero_add, fj] at this; cases this
                  · cases z
                by_cases hf : F i = true
                · obtain ⟨o', h3⟩ := s.ow i o hf he
                  rcases get_app h3 with z | z
                  · have : i < n := by rw [← hin.1]; exact (List.getElem?_eq_some_iff.mp z).1
                    exact (hc (by rw [Bool.and_eq_true]; exact ⟨decide_eq_true this, hf⟩)).elim
                  · cases z
                · have hf : F i = false := by simpa using hf
                  rcases s.nf i a hf ⟨⟨o, he⟩, hs⟩ with ⟨j, fj, ⟨o', h3⟩, _⟩ | h0
                  · exact (noF fj h3).elim
                  · exact h0
              · cases qr
  · exact p.elim
end
/-- the context of the body of st -/
abbrev BX (P : Program) (w : World) (K : PySem.W.Frag) (mg : Str → Option Value) (base : Heap) (N : List Str) (qual : Str) (st : Stmt) (f : Addr) (cdv : Value) (A : Around) (outer : List PySem.Env) (s : Shared) (H : Hp) (E : XK) : Cx :=
  cxOf (L2.CX P w) P w K mg base N qual (defScope st) f cdv A outer s H E
abbrev BW (E : XK) : WX := fun cls dd _ H => E cls dd H
theorem fn_ok {P : Program} {w : World} {K : PySem.W.Frag} {mg : Str → Option Value} {base : Heap} {x qual : Str} {st : Stmt} {f : Addr} {fd : FuncData} {N ps : List Str} {k : Nat} {Fx : Nat → Bool} {d : Stm} (F : Fun K x qual st f fd) (S : FnScope N ps (defScope st))
    (body : ∀ (cdv : Value) (A : Around) (outer : List PySem.Env) (s : Shared) (H : Hp) (E : XK), Room k (A.deeper (envOfC qual (defScope st) s.heap.objs.size f cdv)) → SS (BX P w K mg base N qual st f cdv A outer s H E) (BW E) Fx (defBody st) d) :
    FnOk P w K mg base (L2.CX P w) (k + 1) f fd ps (SpOf (c0 K mg) ps.length (runF ps.length N.length Fx d)) := by
  refine F.okX S (fun vs H Q E h => h.1) fun cdv A outer s H vs Q E hr h => ?_
  obtain ⟨hl, G, as, r, p⟩ := h
  obtain ⟨ts, h1, h2⟩ := body cdv A outer s H E hr
  refine ⟨ts, h1, ?_⟩
  unfold L2.start
  rw [hl]
  exact runF_ok h2 hl r rfl p
theorem bx_takes {P : Program} {w : World} {K : PySem.W.Frag} {mg : Str → Option Value} {base : Heap} {N : List Str} {qual : Str} {st : Stmt} {f : Addr} {cdv : Value} {A : Around} {outer : List PySem.Env} {s : Shared} {H : Hp} {E : XK} : Takes (BX P w K mg base N qual st f cdv A outer s H E) (BW E) := takes_of rfl rfl rfl rfl
theorem bx_passes {P : Program} {w : World} {K : PySem.W.Frag} {mg : Str → Option Value} {base : Heap} {N : List Str} {qual : Str} {st : Stmt} {f : Addr} {cdv : Value} {A : Around} {outer : List PySem.Env} {s : Shared} {H : Hp} {E : XK} :
    PassesOwn (model (BX P w K mg base N qual st f cdv A outer s H E).prog (BX P w K mg base N qual st f cdv A outer s H E).w) (BX P w K mg base N qual st f cdv A outer s H E).A (BX P w K mg base N qual st f cdv A outer s H E).env (BX P w K mg base N qual st f cdv A outer s H E).xe := passes_of rfl
end Zed
set_option Elab.async false
set_option linter.all false
set_option maxRecDepth 100000
set_option maxHeartbeats 2000000
namespace Zed
open PySem L2

def normR (r : RV) (e : Env) : Option (RV × Option LV) := match r with
  | .frz d => some (.frz d, some (.frz d))
  | .new o => some (.new o, some (.own o))
  | .slot i => match e[i]? with
    | some (some (.frz d)) => some (.frz d, some (.frz d))
    | some (some (.own o)) => some (.slot i, some (.own o))
    | _ => none
def normL : List RV → Env → Option (List RV × Env)
  | [], _ => some ([], [])
  | r :: rs, e => match normR r e, normL rs e with
    | some (r', a), some (rs', as) => some (r' :: rs', a :: as)
    | _, _ => none
def slotsOf : List RV → List Nat
  | [] => []
  | .slot i :: rs => i :: slotsOf rs
  | _ :: rs => slotsOf rs
def putOuts : List RV → Env → Env → Env
  | .slot i :: rs, a :: as, e => putOuts rs as (e.set i a)
  | _ :: rs, _ :: as, e => putOuts rs as e
  | _, _, e => e
def mapR (rs : List RV) (as' : Env) : RV → Option RV
  | .frz d => some (.frz d)
  | .new o => some (.new o)
  | .slot j => match rs[j]? with
    | some (.frz d) => some (.frz d)
    | some (.slot i) => some (.slot i)
    | some (.new _) => match as'[j]? with
      | some (some (.frz d)) => some (.frz d)
      | some (some (.own o)) => some (.new o)
      | _ => none
    | none => none
def dfl (dd : List D) : Env := dd.map fun d => some (.frz d)
def callK (f : FDen) (dd : List D) (rs : List RV) (e1 : Env) : Option (Rs RV) := match normL rs e1 with
  | some (rs', as) => if decide (slotsOf rs').Nodup = true then match f (as ++ dfl dd) with
      | some (.val r as') => match mapR (rs' ++ dd.map RV.frz) as' r with
        | some r' => some (.val r' (putOuts rs' as' e1))
        | none => none
      | some (.exc x as') => some (.exc x (putOuts rs' as' e1))
      | none => none
    else none
  | none => none
def callE (f : FDen) (dd : List D) (g : Args) : Exp := fun env => Rs.b (g env) fun rs e1 => callK f dd rs e1

theorem mem_slots {k : Nat} : ∀ {rs : List RV} {i : Nat}, rs[i]? = some (.slot k) → k ∈ slotsOf rs
  | [], _, h => by simp at h
  | r :: rs, i, h => by
    cases i with
    | zero => simp at h; subst h; exact List.mem_cons_self
    | succ i =>
      have := mem_slots (rs := rs) (i := i) (by simpa using h)
      cases r with
      | slot j => exact List.mem_cons_of_mem _ this
      | frz d => exact this
      | new o => exact this
theorem slots_inj {k : Nat} : ∀ {rs : List RV} {i j : Nat}, (slotsOf rs).Nodup → rs[i]? = some (.slot k) → rs[j]? = some (.slot k) → i = j
  | [], _, _, _, h, _ => by simp at h
  | r :: rs, i, j, hn, h1, h2 => by
    have tl : (slotsOf rs).Nodup := by
      cases r with
      | slot j => exact (List.nodup_cons.mp hn).2
      | frz d => exact hn
      | new o => exact hn
    have hd : r = .slot k → k ∉ slotsOf rs := fun e => by subst e; exact (List.nodup_cons.mp hn).1
    cases i with
    | zero =>
      cases j with
      | zero => rfl
      | succ j => exact (hd (by simpa using h1) (mem_slots (i := j) (by simpa using h2))).elim
    | succ i =>
      cases j with
      | zero => exact (hd (by simpa using h2) (mem_slots (i := i) (by simpa using h1))).elim
      | succ j => exact congrArg (· + 1) (slots_inj tl (by simpa using h1) (by simpa using h2))
theorem put_other {k : Nat} : ∀ {rs : List RV} {as e : Env}, (∀ i : Nat, rs[i]? ≠ some (.slot k)) → (putOuts rs as e)[k]? = e[k]?
  | [], as, e, _ => by unfold putOuts; rfl
  | r :: rs, [], e, _ => by cases r <;> (unfold putOuts; rfl)
  | r :: rs, a :: as, e, h => by
    have h' : ∀ i : Nat, rs[i]? ≠ some (.slot k) := fun i z => h (i + 1) (by simpa using z)
    cases r with
    | slot j =>
      have hj : j ≠ k := fun z => h 0 (by simp [z])
      show (putOuts rs as (e.set j a))[k]? = e[k]?
      rw [put_other h', List.getElem?_set_ne hj]
    | frz d => exact put_other (rs := rs) h'
    | new o => exact put_other (rs := rs) h'
theorem put_len : ∀ {rs : List RV} {as e : Env}, (putOuts rs as e).length = e.length
  | [], as, e => by unfold putOuts; rfl
  | r :: rs, [], e => by cases r <;> (unfold putOuts; rfl)
  | r :: rs, a :: as, e => by
    cases r with
    | slot j => show (putOuts rs as (e.set j a)).length = e.length; rw [put_len, List.length_set]
    | frz d => exact put_len (rs := rs)
    | new o => exact put_len (rs := rs)
theorem put_at {k : Nat} {x : Option LV} : ∀ {rs : List RV} {as e : Env} {i : Nat}, (slotsOf rs).Nodup → rs[i]? = some (.slot k) → as[i]? = some x → k < e.length → (putOuts rs as e)[k]? = some x
  | [], _, _, _, _, h, _, _ => by simp at h
  | r :: rs, [], _, _, _, _, h, _ => by simp at h
  | r :: rs, a :: as, e, i, hn, h1, h2, hk => by
    have tl : (slotsOf rs).Nodup := by
      cases r with
      | slot j => exact (List.nodup_cons.mp hn).2
      | frz d => exact hn
      | new o => exact hn
    cases i with
    | zero =>
      simp at h1 h2
      subst h1 h2
      show (putOuts rs as (e.set k a))[k]? = some a
      rw [put_other fun i z => (List.nodup_cons.mp hn).1 (mem_slots z), List.getElem?_set_self hk]
    | succ i =>
      have h1' : rs[i]? = some (.slot k) := by simpa using h1
      have h2' : as[i]? = some x := by simpa using h2
      cases r with
      | slot j => show (putOuts rs as (e.set j a))[k]? = some x; exact put_at tl h1' h2' (by simpa using hk)
      | frz d => exact put_at (rs := rs) tl h1' h2' hk
      | new o => exact put_at (rs := rs) tl h1' h2' hk

structure ArgsOk (c : Ct) (σ : L2.St) (H0 : Hp) (e1 : Env) (G H : Hp) (vs : List V) (rs : List RV) (as : Env) : Prop where
  l1 : vs.length = rs.length
  l2 : as.length = rs.length
  fz : ∀ (i : Nat) v d, vs[i]? = some v → rs[i]? = some (.frz d) → as[i]? = some (some (.frz d)) ∧ Rep c G v d
  nw : ∀ (i : Nat) v o, vs[i]? = some v → rs[i]? = some (.new o) → as[i]? = some (some (.own o)) ∧ RvOk c σ H0 e1 G H v (.new o)
  sl : ∀ (i : Nat) v k, vs[i]? = some v → rs[i]? = some (.slot k) → ∃ o, as[i]? = some (some (.own o)) ∧ e1[k]? = some (some (.own o)) ∧ σ[k]? = some (some v)
  dn : ∀ (i j : Nat) v w r q a, vs[i]? = some v → vs[j]? = some w → rs[i]? = some r → rs[j]? = some q → NewAt v r a → NewAt w q a → i = j
  ds : (slotsOf rs).Nodup
section
variable {c : Ct} {W : WX} {σ : L2.St} {env e1 as as' : Env} {G H G1 H1 G2 H2 : Hp} {vs : List V} {rs rs' : List RV}
/-- one owned argument: where it comes from -/
theorem ArgsOk.own (k : ArgsOk c σ H e1 G1 H1 vs rs as) {i : Nat} {o : O} {a : Addr} (h : as[i]? = some (some (.own o))) (hv : (vs.map some)[i]? = some (some (V.ref a))) :
    (∃ n, rs[i]? = some (.slot n) ∧ e1[n]? = some (some (.own o)) ∧ σ[n]? = some (some (V.ref a))) ∨ (rs[i]? = some (.new o) ∧ H a = none ∧ NewAt (.ref a) (.new o) a) := by
  have hv' : vs[i]? = some (.ref a) := by
    rw [List.getElem?_map] at hv
    cases q : vs[i]? with
    | none => rw [q] at hv; cases hv
    | some v => rw [q] at hv; exact Option.some.inj hv
  have hi : i < rs.length := by rw [← k.l2]; exact (List.getElem?_eq_some_iff.mp h).1
  obtain ⟨r, hr⟩ : ∃ r, rs[i]? = some r := ⟨rs[i], by simp [hi]⟩
  cases r with
  | frz d => obtain ⟨z, _⟩ := k.fz i _ d hv' hr; rw [h] at z; cases z
  | new o' =>
    obtain ⟨z, y⟩ := k.nw i _ o' hv' hr
    rw [h] at z; cases z
    obtain ⟨b, ho, eb, hb, _⟩ := y
    cases eb
    exact .inr ⟨hr, hb, rfl, o, rfl⟩
  | slot n =>
    obtain ⟨o', z, y1, y2⟩ := k.sl i _ n hv' hr
    rw [h] at z; cases z
    exact .inl ⟨n, hr, y1, y2⟩
theorem ArgsOk.rel (r0 : Rel c env σ G H) (s1 : Step c σ env G H e1 G1 H1) (k : ArgsOk c σ H e1 G1 H1 vs rs as) : Rel c as (vs.map some) G1 H1 := by
  refine ⟨s1.rel.ex, by rw [List.length_map, k.l1, k.l2], fun i lv h => ?_, fun i j oi oj a h1 h2 h3 h4 => ?_⟩
  · have hi : i < rs.length := by rw [← k.l2]; exact (List.getElem?_eq_some_iff.mp h).1
    obtain ⟨r, hr⟩ : ∃ r, rs[i]? = some r := ⟨rs[i], by simp [hi]⟩
    obtain ⟨v, hv⟩ : ∃ v, vs[i]? = some v := ⟨vs[i]'(by rw [k.l1]; exact hi), by simp⟩
    refine ⟨v, by rw [List.getElem?_map, hv]; rfl, ?_⟩
    cases r with
    | frz d => obtain ⟨z, y⟩ := k.fz i v d hv hr; rw [h] at z; cases z; exact y
    | new o =>
      obtain ⟨z, a, ho, e, _, g, h1, w⟩ := k.nw i v o hv hr
      rw [h] at z; cases z; exact ⟨a, ho, e, g, h1, w⟩
    | slot n =>
      obtain ⟨o, z, y1, y2⟩ := k.sl i v n hv hr
      rw [h] at z; cases z
      obtain ⟨v', h1, h2⟩ := s1.rel.sl n _ y1
      rw [y2] at h1; cases h1; exact h2
  · rcases k.own h1 h3 with ⟨n, r1, x1, y1⟩ | ⟨r1, f1, n1⟩
    · rcases k.own h2 h4 with ⟨m, r2, x2, y2⟩ | ⟨r2, f2, n2⟩
      · have e := s1.rel.dj n m _ _ a x1 x2 y1 y2
        subst e
        exact slots_inj k.ds r1 r2
      · exact (r0.fresh f2 (s1.oa a ⟨n, _, x1, y1⟩)).elim
    · rcases k.own h2 h4 with ⟨m, r2, x2, y2⟩ | ⟨r2, f2, n2⟩
      · exact (r0.fresh f1 (s1.oa a ⟨m, _, x2, y2⟩)).elim
      · have gv : ∀ {i : Nat}, (vs.map some)[i]? = some (some (V.ref a)) → vs[i]? = some (.ref a) := fun {i} z => by
          rw [List.getElem?_map] at z
          cases q : vs[i]? with
          | none => rw [q] at z; cases z
          | some v => rw [q] at z; exact Option.some.inj z
        exact k.dn i j _ _ _ _ a (gv h3) (gv h4) r1 r2 n1 n2
theorem ArgsOk.oaw (r0 : Rel c env σ G H) (s1 : Step c σ env G H e1 G1 H1) (k : ArgsOk c σ H e1 G1 H1 vs rs as) {a : Addr} (h : OA as (vs.map some) a) : (∃ (i n : Nat) (o : O), rs[i]? = some (RV.slot n) ∧ e1[n]? = some (some (LV.own o)) ∧ σ[n]? = some (some (V.ref a))) ∨ H a = none := by
  obtain ⟨i, o, h1, h2⟩ := h
  rcases k.own h1 h2 with ⟨n, r1, x1, y1⟩ | ⟨r1, f1, n1⟩
  · exact .inl ⟨i, n, o, r1, x1, y1⟩
  · exact .inr f1
/-- behind the call, back in the caller -/
theorem ArgsOk.back (r0 : Rel c env σ G H) (s1 : Step c σ env G H e1 G1 H1) (k : ArgsOk c σ H e1 G1 H1 vs rs as) (s : Step c (vs.map some) as G1 H1 as' G2 H2) : Step c σ env G H (putOuts rs as' e1) G2 H2 := by
  have r1 := k.rel r0 s1
  have la : as'.length = rs.length := by rw [s.ln r1, k.l2]
  have inn : ∀ {n i : Nat}, rs[i]? = some (.slot n) → ∃ x, as'[i]? = some x ∧ (putOuts rs as' e1)[n]? = some x ∧ ∃ v o, vs[i]? = some v ∧ e1[n]? = some (some (LV.own o)) ∧ σ[n]? = some (some v) ∧ as[i]? = some (some (LV.own o)) := fun {n i} hr => by
    have hi : i < rs.length := (List.getElem?_eq_some_iff.mp hr).1
    obtain ⟨v, hv⟩ : ∃ v, vs[i]? = some v := ⟨vs[i]'(by rw [k.l1]; exact hi), by simp⟩
    obtain ⟨o, z, y1, y2⟩ := k.sl i v n hv hr
    have hx : as'[i]? = some (as'[i]'(by rw [la]; exact hi)) := by simp
    exact ⟨_, hx, put_at k.ds hr hx (List.getElem?_eq_some_iff.mp y1).1, v, o, hv, y1, y2, z⟩
  -- what a name owns that was not handed over
  have stay : ∀ {n : Nat} {o : O} {a : Addr}, (∀ i : Nat, rs[i]? ≠ some (.slot n)) → e1[n]? = some (some (LV.own o)) → σ[n]? = some (some (V.ref a)) → ¬ OA as (vs.map some) a := fun {n o a} hn he hs z => by
    rcases k.oaw r0 s1 z with ⟨i, m, o', q1, q2, q3⟩ | f
    · have e := s1.rel.dj n m _ _ a he q2 hs q3
      subst e
      exact hn i q1
    · exact r0.fresh f (s1.oa a ⟨n, o, he, hs⟩)
  have own' : ∀ {n : Nat} {o : O}, (putOuts rs as' e1)[n]? = some (some (LV.own o)) → (∃ (i : Nat) (o' : O), rs[i]? = some (RV.slot n) ∧ as'[i]? = some (some (LV.own o)) ∧ e1[n]? = some (some (LV.own o'))) ∨ ((∀ i : Nat, rs[i]? ≠ some (.slot n)) ∧ e1[n]? = some (some (LV.own o))) := fun {n o} h => by
    by_cases q : ∃ i : Nat, rs[i]? = some (.slot n)
    · obtain ⟨i, hr⟩ := q
      obtain ⟨x, h1, h2, v, o', _, h3, _, _⟩ := inn hr
      rw [h] at h2; cases h2
      exact .inl ⟨i, o', hr, h1, h3⟩
    · have q' : ∀ i : Nat, rs[i]? ≠ some (.slot n) := fun i z => q ⟨i, z⟩
      rw [put_other q'] at h
      exact .inr ⟨q', h⟩
  refine ⟨s1.g.trans s.g, ⟨s.rel.ex, by rw [put_len]; exact s1.rel.len, fun n lv h => ?_, fun n m on om a h1 h2 h3 h4 => ?_⟩, fun a o h g no => ?_, fun n o h => ?_, fun a h => s1.al a (s.al a h)⟩
  · by_cases q : ∃ i : Nat, rs[i]? = some (.slot n)
    · obtain ⟨i, hr⟩ := q
      obtain ⟨x, h1, h2, v, o', hv, h3, hs, _⟩ := inn hr
      rw [h] at h2; cases h2
      obtain ⟨v', h4, h5⟩ := s.rel.sl i lv h1
      rw [List.getElem?_map, hv] at h4
      cases h4
      exact ⟨v, hs, h5⟩
    · have q' : ∀ i : Nat, rs[i]? ≠ some (.slot n) := fun i z => q ⟨i, z⟩
      rw [put_other q'] at h
      obtain ⟨v, hv, ok⟩ := s1.rel.sl n lv h
      refine ⟨v, hv, ?_⟩
      cases lv with
      | frz d => exact Rep.mono s.g ok
      | own o =>
        obtain ⟨a, ho, e, g, h1, w⟩ := ok
        subst e
        obtain ⟨h2, g2⟩ := s.keep a ho h1 g (stay q' h hv)
        exact ⟨a, ho, rfl, g2, h2, w.mono s.g⟩
  · rcases own' h1 with ⟨i, o1, r1, x1, y1⟩ | ⟨q1, x1⟩
    · rcases own' h2 with ⟨j, o2, r2, x2, y2⟩ | ⟨q2, x2⟩
      · exact s1.rel.dj n m _ _ a y1 y2 h3 h4
      · exact s1.rel.dj n m _ _ a y1 x2 h3 h4
    · rcases own' h2 with ⟨j, o2, r2, x2, y2⟩ | ⟨q2, x2⟩
      · exact s1.rel.dj n m _ _ a x1 y2 h3 h4
      · exact s1.rel.dj n m _ _ a x1 x2 h3 h4
  · obtain ⟨h1, g1⟩ := s1.keep a o h g no
    refine s.keep a o h1 g1 fun z => ?_
    rcases k.oaw r0 s1 z with ⟨i, m, o', q1, q2, q3⟩ | f
    · exact no (s1.oa a ⟨m, o', q2, q3⟩)
    · rw [h] at f; cases f
  · rcases own' h with ⟨i, o1, r1, x1, y1⟩ | ⟨q1, x1⟩
    · exact s1.ow n o1 y1
    · exact s1.ow n o x1
theorem ArgsOk.ret (k : ArgsOk c σ H e1 G1 H1 vs rs as) (al : ∀ a, H1 a = none → H a = none) (s : Step c (vs.map some) as G1 H1 as' G2 H2) {v : V} {r r' : RV} (ok : RvOk c (vs.map some) H1 as' G2 H2 v r) (e : mapR rs as' r = some r') {e2 : Env} : RvOk c σ H e2 G2 H2 v r' := by
  cases r with
  | frz d => cases e; exact ok
  | new o =>
    cases e
    obtain ⟨a, ho, e, h0, rest⟩ := ok
    exact ⟨a, ho, e, al a h0, rest⟩
  | slot j =>
    have hv : vs[j]? = some v := by
      have ok : (vs.map some)[j]? = some (some v) := ok
      rw [List.getElem?_map] at ok
      cases q : vs[j]? with
      | none => rw [q] at ok; cases ok
      | some u => rw [q] at ok; exact Option.some.inj ok
    dsimp only [mapR] at e
    split at e
    · rename_i d hr
      cases e
      exact (k.fz j v d hv hr).2.mono s.g
    · rename_i n hr
      cases e
      obtain ⟨o, _, _, y⟩ := k.sl j v n hv hr
      exact y
    · rename_i o hr
      obtain ⟨_, b, ho, eb, hb, _⟩ := k.nw j v o hv hr
      split at e
      · rename_i d q
        cases e
        obtain ⟨v', h1, h2⟩ := s.rel.sl j _ q
        rw [List.getElem?_map, hv] at h1; cases h1
        exact h2
      · rename_i o' q
        cases e
        obtain ⟨v', h1, a, ho', ea, g, h2, w⟩ := s.rel.sl j _ q
        rw [List.getElem?_map, hv] at h1; cases h1
        rw [eb] at ea; cases ea
        exact ⟨b, ho', eb, hb, g, h2, w⟩
      · cases e
    · cases e
theorem norm_ok {rs : List RV} (s1 : Step c σ env G H e1 G1 H1) : ∀ {vs : List V} {rs rs' : List RV} {as : Env}, okA c σ H e1 G1 H1 vs rs → normL rs e1 = some (rs', as) → rs'.length = rs.length ∧ as.length = rs.length ∧
    ∀ (i : Nat) v r, vs[i]? = some v → rs'[i]? = some r → (∀ a, NewAt v r a → ∃ q, rs[i]? = some q ∧ NewAt v q a) ∧ match r with
      | .frz d => as[i]? = some (some (.frz d)) ∧ Rep c G1 v d
      | .new o => as[i]? = some (some (.own o)) ∧ RvOk c σ H e1 G1 H1 v (.new o)
      | .slot n => ∃ o, as[i]? = some (some (.own o)) ∧ e1[n]? = some (some (.own o)) ∧ σ[n]? = some (some v) := by
  intro vs rs
  induction rs generalizing vs with
  | nil => intro rs' as ok e; cases e; exact ⟨rfl, rfl, fun i v r _ h => by simp at h⟩
  | cons r rs ih =>
    intro rs' as ok e
    obtain ⟨hl, hr, hd⟩ := ok
    cases vs with
    | nil => cases hl
    | cons v vs =>
      unfold normL at e
      split at e
      · rename_i r' a rs2 as2 q1 q2
        cases e
        obtain ⟨l1, l2, h⟩ := ih (vs := vs) ⟨by simpa using hl, fun i v r h1 h2 => hr (i + 1) v r (by simpa using h1) (by simpa using h2), fun i j v w r q a h1 h2 h3 h4 n1 n2 => by
          have := hd (i + 1) (j + 1) v w r q a (by simpa using h1) (by simpa using h2) (by simpa using h3) (by simpa using h4) n1 n2
          omega⟩ q2
        refine ⟨by simp [l1], by simp [l2], fun i u r0 h1 h2 => ?_⟩
        cases i with
        | succ i =>
          obtain ⟨h3, h4⟩ := h i u r0 (by simpa using h1) (by simpa using h2)
          refine ⟨fun a n => let ⟨q, e1, e2⟩ := h3 a n; ⟨q, by simpa using e1, e2⟩, ?_⟩
          cases r0 <;> simpa using h4
        | zero =>
          simp at h1 h2
          subst h1 h2
          have ok1 := hr 0 v r rfl rfl
          cases r with
          | frz d => cases q1; exact ⟨fun a n => (by obtain ⟨_, o, z⟩ := n; cases z), by simp, ok1⟩
          | new o => cases q1; exact ⟨fun a n => ⟨_, rfl, n⟩, by simp, ok1⟩
          | slot n =>
            dsimp only [normR] at q1
            split at q1
            · rename_i d he
              cases q1
              obtain ⟨v', h3, h4⟩ := s1.rel.sl n _ he
              rw [show σ[n]? = some (some v) from ok1] at h3
              cases h3
              exact ⟨fun a n => (by obtain ⟨_, o, z⟩ := n; cases z), by simp, h4⟩
            · rename_i o he
              cases q1
              exact ⟨fun a n => (by obtain ⟨_, o, z⟩ := n; cases z), o, by simp, he, ok1⟩
            · cases q1
      · cases e
theorem get_map {α β : Type} {f : α → β} {l : List α} {i : Nat} {y : β} (h : (l.map f)[i]? = some y) : ∃ x, l[i]? = some x ∧ f x = y := by
  rw [List.getElem?_map] at h
  cases q : l[i]? with
  | none => rw [q] at h; cases h
  | some x => rw [q] at h; exact ⟨x, rfl, Option.some.inj h⟩
theorem slots_dfl {dd : List D} : ∀ {rs : List RV}, slotsOf (rs ++ dd.map RV.frz) = slotsOf rs
  | [] => by
    induction dd with
    | nil => rfl
    | cons d dd ih => exact ih
  | r :: rs => by
    have := slots_dfl (dd := dd) (rs := rs)
    cases r with
    | slot i => exact congrArg (i :: ·) this
    | frz d => exact this
    | new o => exact this
theorem put_dfl {dd : List D} : ∀ {rs : List RV} {as e : Env}, putOuts (rs ++ dd.map RV.frz) as e = putOuts rs as e
  | [], as, e => by
    induction dd generalizing as with
    | nil => rfl
    | cons d dd ih =>
      cases as with
      | nil => rfl
      | cons a as => exact (ih (as := as)).trans (by unfold putOuts; rfl)
  | r :: rs, [], e => by cases r <;> (unfold putOuts; rfl)
  | r :: rs, a :: as, e => by
    cases r with
    | slot i => exact put_dfl (rs := rs)
    | frz d => exact put_dfl (rs := rs)
    | new o => exact put_dfl (rs := rs)
theorem ArgsOk.of {dd : List D} {dvs : List V} (s1 : Step c σ env G H e1 G1 H1) (ok : okA c σ H e1 G1 H1 vs rs) (rd : Reps c G1 dvs dd) (e : normL rs e1 = some (rs', as)) (hn : (slotsOf rs').Nodup) : ArgsOk c σ H e1 G1 H1 (vs ++ dvs) (rs' ++ dd.map RV.frz) (as ++ dfl dd) := by
  obtain ⟨l1, l2, h⟩ := norm_ok (rs := rs) s1 ok e
  obtain ⟨hl, hr, hd⟩ := ok
  have ln : vs.length = rs'.length := by rw [l1, hl]
  have la : as.length = rs'.length := by rw [l2, l1]
  -- an item: one of the arguments, or a default
  have cs : ∀ {i : Nat} {v : V} {r : RV}, (vs ++ dvs)[i]? = some v → (rs' ++ dd.map RV.frz)[i]? = some r → (vs[i]? = some v ∧ rs'[i]? = some r ∧ (as ++ dfl dd)[i]? = as[i]?) ∨ (∃ d, r = .frz d ∧ Rep c G1 v d ∧ (as ++ dfl dd)[i]? = some (some (.frz d))) := fun {i v r} h1 h2 => by
    by_cases hi : i < vs.length
    · rw [List.getElem?_append_left hi] at h1
      rw [List.getElem?_append_left (by omega)] at h2
      exact .inl ⟨h1, h2, by rw [List.getElem?_append_left (by omega)]⟩
    · rw [List.getElem?_append_right (by omega)] at h1 h2
      obtain ⟨d, h3, h4⟩ := get_map h2
      rw [← ln] at h3
      obtain ⟨d', h5, h6⟩ := rd.getV h1
      rw [h3] at h5; cases h5
      refine .inr ⟨d, h4.symm, h6, ?_⟩
      rw [List.getElem?_append_right (by omega), la, ← ln]
      unfold dfl
      rw [List.getElem?_map, h3]; rfl
  refine ⟨by rw [List.length_append, List.length_append, List.length_map, ln, rd.length], by unfold dfl; rw [List.length_append, List.length_append, List.length_map, List.length_map, la], fun i v d h1 h2 => ?_, fun i v o h1 h2 => ?_, fun i v n h1 h2 => ?_, fun i j v w r q a h1 h2 h3 h4 n1 n2 => ?_, by rw [slots_dfl]; exact hn⟩
  · rcases cs h1 h2 with ⟨x1, x2, x3⟩ | ⟨d', x1, x2, x3⟩
    · rw [x3]; exact (h i v _ x1 x2).2
    · cases x1; exact ⟨x3, x2⟩
  · rcases cs h1 h2 with ⟨x1, x2, x3⟩ | ⟨d', x1, x2, x3⟩
    · rw [x3]; exact (h i v _ x1 x2).2
    · cases x1
  · rcases cs h1 h2 with ⟨x1, x2, x3⟩ | ⟨d', x1, x2, x3⟩
    · rw [x3]; exact (h i v _ x1 x2).2
    · cases x1
  · rcases cs h1 h3 with ⟨x1, x2, x3⟩ | ⟨d', x1, x2, x3⟩
    · rcases cs h2 h4 with ⟨y1, y2, y3⟩ | ⟨d', y1, y2, y3⟩
      · obtain ⟨q1, p1, p2⟩ := (h i v r x1 x2).1 a n1
        obtain ⟨q2, p3, p4⟩ := (h j w q y1 y2).1 a n2
        exact hd i j v w q1 q2 a x1 y1 p1 p3 p2 p4
      · subst y1; obtain ⟨_, o, z⟩ := n2; cases z
    · subst x1; obtain ⟨_, o, z⟩ := n1; cases z
/-- the heart of a call -/
theorem call_ok {f : FDen} {dd : List D} {dvs : List V} (r0 : Rel c env σ G H) (s1 : Step c σ env G H e1 G1 H1) (ok : okA c σ H e1 G1 H1 vs rs) (rd : ∀ G, Reps c G dvs dd) {np : Nat} (hnp : ∀ as r, f as = some r → as.length = np) {Q : VK} (p : Post RvOk c W σ env G H Q (callK f dd rs e1)) :
    SpOf c np f (vs ++ dvs) H1 Q fun cls dd H => W cls dd σ H := by
  unfold callK at p
  split at p
  · rename_i rs' as e
    split at p
    · rename_i hn
      have k := ArgsOk.of s1 ok (rd G1) e (of_decide_eq_true hn)
      have rl := k.rel r0 s1
      have la : (vs ++ dvs).length = (as ++ dfl dd).length := by rw [k.l1, k.l2]
      cases q : f (as ++ dfl dd) with
      | none => rw [q] at p; exact p.elim
      | some er =>
        rw [q] at p
        refine ⟨by rw [la]; exact hnp _ _ q, G1, as ++ dfl dd, rl, ?_⟩
        rw [q]
        cases er with
        | exc x as' =>
          intro cls dd' G2 H2 s2 hx hd
          have b := k.back r0 s1 s2
          rw [put_dfl] at b
          exact p cls dd' G2 H2 b hx fun a e => s1.al a (hd a e)
        | val r as' =>
          intro v G2 H2 s2 ok2
          dsimp only at p
          split at p
          · rename_i r' e2
            have b := k.back r0 s1 s2
            rw [put_dfl] at b
            exact p v G2 H2 b (k.ret s1.al s2 ok2 e2)
          · exact p.elim
    · exact p.elim
  · exact p.elim
end
theorem runF_np {np nl : Nat} {F : Nat → Bool} {body : Stm} (as : Env) (r : Rs RV) (h : runF np nl F body as = some r) : as.length = np := by
  unfold runF at h
  split at h
  · rename_i q; exact q.1
  · cases h
end Zed
set_option Elab.async false
set_option linter.all false
set_option maxRecDepth 100000
set_option maxHeartbeats 2000000
namespace Zed
open PySem L2 PySem.Spec PyProof.Rows

/-- the def at a computes f; dd: the defaults at its end -/
structure FnS (P : Program) (w : World) (K : PySem.W.Frag) (mg : Str → Option Value) (base : Heap) (k : Nat) (f : FDen) (a : Addr) (dd : List D) : Prop where
  ex : ∃ (fd : FuncData) (ps : List Str) (ds : List Value) (dvs : List V) (np : Nat), FnOk P w K mg base (L2.CX P w) k a fd ps (SpOf (c0 K mg) np f) ∧ Binds K fd ps ds ∧ Vals dvs ds ∧ (∀ G, Reps (c0 K mg) G dvs dd) ∧ (∀ as r, f as = some r → as.length = np)
  kp : PySem.W.keepIn K (.ref a) = true
theorem FnS.mono {P : Program} {w : World} {K : PySem.W.Frag} {mg : Str → Option Value} {base : Heap} {j k : Nat} {f : FDen} {a : Addr} {dd : List D} (h : FnS P w K mg base j f a dd) (hk : j ≤ k) : FnS P w K mg base k f a dd :=
  let ⟨fd, ps, ds, dvs, np, h1, h2⟩ := h.ex; ⟨⟨fd, ps, ds, dvs, np, h1.mono hk, h2⟩, h.kp⟩
section
variable {X : Cx} {W : WX} {k : Nat} {f : FDen} {a C : Addr} {dd : List D} {x m cn : Str} {p pos apos : Pos} {e o : Expr} {es : List Expr} {g : Args} {fo : Exp}
/-- what the callee may let out goes where W says, slots as they are -/
abbrev EW (W : WX) (σ : L2.St) : XK := fun cls dd H => W cls dd σ H
theorem goesAt (tk : Takes X W) (σ : L2.St) : PassesAt (L2.CX X.prog X.w) X σ (EW W σ) := passAt tk σ
theorem Ev.call {ta : TA} (hf : Ev okA (ct X) W ta g) {dvs : List V} {np : Nat} (rd : ∀ G, Reps (ct X) G dvs dd) (hnp : ∀ as r, f as = some r → as.length = np) : Ev RvOk (ct X) W (tCallSD (SpOf (ct X) np f) dvs (EW W) ta) (callE f dd g) := fun env σ G H r0 Q p =>
  hf.use (Step.refl r0) p fun rs e1 vs G1 H1 s1 _ ok p => call_ok r0 s1 ok rd hnp p
theorem SE.call (F : FnS X.prog X.w X.K X.mg X.base k f a dd) (hm : X.mg x = some (.ref a)) (hr : Room k X.A) (hcalm : X.calm = true) (tk : Takes X W) (hg : SA X W (e :: es) g) (hG : Gl X x := by rfl) (hdb : (x == ("__debug__" : Str)) = false := by decide)
    (he : starEach (e :: es) X.env = (false, eval e X.env) :: starEach es X.env := by rfl) (hpl : (backTo pos (starEach es X.env)).any (·.1) = false := by rfl) : SE X W (.Call (.Name x p) (e :: es) [] pos) (callE f dd g) := by
  obtain ⟨fd, ps, ds, dvs, np, h1, h2, h3, h4, h5⟩ := F.ex
  rw [← ct0 hcalm] at h1
  have h4 : ∀ G, Reps (ct X) G dvs dd := by rw [ct0 hcalm]; exact h4
  obtain ⟨ta, p1, q1⟩ := hg
  exact ⟨_, pe_callSD (E := EW W) h1 hr hG hm F.kp h2 h3 (goesAt tk) p1 hdb he hpl, q1.call h4 h5⟩
theorem SE.call0 (F : FnS X.prog X.w X.K X.mg X.base k f a dd) (hm : X.mg x = some (.ref a)) (hr : Room k X.A) (hcalm : X.calm = true) (tk : Takes X W) (hG : Gl X x := by rfl) (hdb : (x == ("__debug__" : Str)) = false := by decide) : SE X W (.Call (.Name x p) [] [] pos) (callE f dd aNil) := by
  obtain ⟨fd, ps, ds, dvs, np, h1, h2, h3, h4, h5⟩ := F.ex
  rw [← ct0 hcalm] at h1
  have h4 : ∀ G, Reps (ct X) G dvs dd := by rw [ct0 hcalm]; exact h4
  obtain ⟨ta, p1, q1⟩ := SA.nil (X := X) (W := W)
  refine ⟨tCallSD (SpOf (ct X) np f) dvs (EW W) tNil, ⟨fun pins s σ H Q I h => ?_⟩, fun env σ G H r0 Q p => ?_⟩
  · exact wpAny_Call_Name_kw (ld_glob I hG hm (PySem.W.callWith_K0 I.kIn F.kp (run_fnSD (E := EW W) (us := []) (vs := []) h1 hr h2 h3 (goesAt tk σ) I .nil h)) hdb)
  · have p : Post RvOk (ct X) W σ env G H Q (callK f dd [] env) := p
    exact call_ok (rs := []) (vs := []) r0 (Step.refl r0) ⟨rfl, fun i v r h => by simp at h, fun i j v w r q a h => by simp at h⟩ h4 h5 p
/-- a method: the object first; cn, m: its class, the method's name -/
def methK (cn m : Str) (r : RV) (e1 : Env) : Bool := match peek r e1 with
  | some (.obj y ns _) => decide (y = cn) && !(ns.contains m)
  | _ => false
def methE (cn m : Str) (f : FDen) (dd : List D) (fo : Exp) (g : Args) : Exp := fun env => Rs.b (fo env) fun r e1 => if methK cn m r e1 = true then Rs.b (g e1) fun rs e2 => callK f dd (r :: rs) e2 else none
/-- the reading of a method's call -/
def tMethSD (C : Addr) (m : Str) (sp : Sp) (dvs : List V) (E : L2.St → XK) (ta : TE) (t : TA) : TE := fun σ H Q => ta σ H fun y H1 => ∃ (b dx : Addr) (fs : List (Str × V)), y = .ref b ∧ H1 b = some (.ins C dx fs) ∧ fs.lookup m = none ∧ t σ H1 fun vs H2 => sp (y :: (vs ++ dvs)) H2 Q (E σ)
theorem no_look {m : Str} : ∀ {fs : List (Str × V)}, ((fs.map (·.1)).contains m) = false → fs.lookup m = none
  | [], _ => rfl
  | (n, v) :: fs, h => by
    rw [List.map_cons, List.contains_cons, Bool.or_eq_false_iff] at h
    have : (m == n) = false := h.1
    simp [List.lookup, this, no_look h.2]
theorem acons_ok {c : Ct} {σ : L2.St} {env e1 e2 : Env} {G H G1 H1 G2 H2 : Hp} {v : V} {vs : List V} {r : RV} {rs : List RV} (r0 : Rel c env σ G H) (s1 : Step c σ env G H e1 G1 H1) (s12 : Step c σ e1 G1 H1 e2 G2 H2) (ok1 : RvOk c σ H e1 G1 H1 v r) (ok2 : okA c σ H1 e2 G2 H2 vs rs) : okA c σ H e2 G2 H2 (v :: vs) (r :: rs) := by
  have k1 := ok1.step r0 s1 s12
  obtain ⟨hl, hr, hd⟩ := ok2
  refine ⟨by rw [List.length_cons, List.length_cons, hl], fun i v r' h1 h2 => ?_, fun i j u w r' q a h1 h2 h3 h4 n1 n2 => ?_⟩
  · cases i with
    | zero => simp at h1 h2; subst h1 h2; exact k1
    | succ i => exact (hr i v r' (by simpa using h1) (by simpa using h2)).back s1.al
  · have cross : ∀ {k : Nat} {u : V} {q' : RV}, vs[k]? = some u → rs[k]? = some q' → NewAt u q' a → NewAt v r a → False := fun {k u q'} z1 z2 z3 z5 => by
      obtain ⟨e, o, rfl⟩ := z3
      obtain ⟨e', o', rfl⟩ := z5
      obtain ⟨b, ho, eb, hb, _⟩ := hr k u _ z1 z2
      obtain ⟨b', ho', eb', _, _, hb', _⟩ := ok1
      rw [e] at eb; cases eb
      rw [e'] at eb'; cases eb'
      rw [hb] at hb'; cases hb'
    cases i with
    | zero =>
      cases j with
      | zero => rfl
      | succ j => simp at h1 h3; subst h1 h3; exact (cross (by simpa using h2) (by simpa using h4) n2 n1).elim
    | succ i =>
      cases j with
      | zero => simp at h2 h4; subst h2 h4; exact (cross (by simpa using h1) (by simpa using h3) n1 n2).elim
      | succ j => exact congrArg (· + 1) (hd i j u w r' q a (by simpa using h1) (by simpa using h2) (by simpa using h3) (by simpa using h4) n1 n2)
theorem Ev.meth {to : TE} {ta : TA} (ho : Ev RvOk (ct X) W to fo) (hf : Ev okA (ct X) W ta g) {dvs : List V} {np : Nat} (hC : X.mg cn = some (.ref C)) (rd : ∀ G, Reps (ct X) G dvs dd) (hnp : ∀ as r, f as = some r → as.length = np) :
    Ev RvOk (ct X) W (tMethSD C m (SpOf (ct X) np f) dvs (EW W) to ta) (methE cn m f dd fo g) := fun env σ G H r0 Q p => by
  refine ho.use (Step.refl r0) p fun r e1 v G1 H1 s1 _ ok1 pp => ?_
  split at pp
  · rename_i hk
    unfold methK at hk
    split at hk
    · rename_i y ns ds q1
      rw [Bool.and_eq_true] at hk
      have hy := of_decide_eq_true hk.1
      subst hy
      obtain ⟨b, C', dx, fs, rfl, hC', h1, hn, _⟩ := (peek_ok s1.rel ok1 q1).obj s1.rel.ex
      have eC : C' = C := by
        have z := hC'.symm.trans hC
        cases z; rfl
      subst eC
      refine ⟨b, dx, fs, rfl, h1, no_look (by rw [hn]; simpa using hk.2), ?_⟩
      exact hf.use s1 pp fun rs e2 vs G2 H2 s2 s12 ok2 p => call_ok (vs := V.ref b :: vs) r0 s2 (acons_ok r0 s1 s12 ok1 ok2) rd hnp p
    · cases hk
  · exact pp.elim
/-- the class of an object with methods -/
structure ClsS (X : Cx) (cn : Str) (C : Addr) : Prop where
  mg : X.mg cn = some (.ref C)
  cl : Cls X.K C
theorem SE.meth {pl : Sem Bool} (F : FnS X.prog X.w X.K X.mg X.base k f a dd) (hC : ClsS X cn C) (hm : Meth X.K C m a) (hr : Room k X.A) (hcalm : X.calm = true) (tk : Takes X W) (hfo : SE X W o fo) (hg : SA X W (e :: es) g)
    (he : starEach (e :: es) X.env = (false, eval e X.env) :: starEach es X.env := by rfl) (hpl : (backTo pos (starEach es X.env)).any (·.1) = false := by rfl)
    (ht : eval (.Call (.Attribute o m apos) (e :: es) [] pos) X.env = (do let ov ← eval o X.env; standAt apos.atName; let (f, first) ← holding [ov] (getMethod ov m pl); callWith pos f first (backTo pos (starEach (e :: es) X.env)) (backToKw pos (keywordEach [] X.env))) := by rfl) :
    SE X W (.Call (.Attribute o m apos) (e :: es) [] pos) (methE cn m f dd fo g) := by
  obtain ⟨fd, ps, ds, dvs, np, h1, h2, h3, h4, h5⟩ := F.ex
  rw [← ct0 hcalm] at h1
  have h4 : ∀ G, Reps (ct X) G dvs dd := by rw [ct0 hcalm]; exact h4
  obtain ⟨to, p1, q1⟩ := hfo
  obtain ⟨ta, p2, q2⟩ := hg
  refine ⟨_, ⟨fun pins s σ H Q I h => ?_⟩, q1.meth q2 hC.mg h4 h5⟩
  refine PySem.W.methodCall_KW (pl := pl) (thn (p1.run pins s σ H _ I h) fun u s1 hx => ?_) ht
  obtain ⟨y, H1, I1, ry, b, dx, fs, ey, hb, hl, q⟩ := hx
  subst ey
  obtain rfl : u = Value.ref b := ry
  refine getmeth_ok I1 hb hC.cl hm hl (PySem.W.callWith_K (first := [.ref b]) (h₀ := X.base) I.ok.mod.kin F.kp (thn (p2.run pos pins s1 σ H1 _ I1 q) fun us s2 hy => ?_) he hpl)
  obtain ⟨vs, H2, I2, rv, q⟩ := hy
  exact ⟨I2.kIn, run_fnSD (E := EW W) (us := .ref b :: us) (vs := .ref b :: vs) h1 hr h2 h3 (goesAt tk σ) I2 (.cons rfl rv) q⟩
theorem SE.meth0 {pl : Sem Bool} (F : FnS X.prog X.w X.K X.mg X.base k f a dd) (hC : ClsS X cn C) (hm : Meth X.K C m a) (hr : Room k X.A) (hcalm : X.calm = true) (tk : Takes X W) (hfo : SE X W o fo)
    (ht : eval (.Call (.Attribute o m apos) [] [] pos) X.env = (do let ov ← eval o X.env; standAt apos.atName; let (f, first) ← holding [ov] (getMethod ov m pl); callWith pos f first (backTo pos (starEach [] X.env)) (backToKw pos (keywordEach [] X.env))) := by rfl) :
    SE X W (.Call (.Attribute o m apos) [] [] pos) (methE cn m f dd fo aNil) := by
  obtain ⟨fd, ps, ds, dvs, np, h1, h2, h3, h4, h5⟩ := F.ex
  rw [← ct0 hcalm] at h1
  have h4 : ∀ G, Reps (ct X) G dvs dd := by rw [ct0 hcalm]; exact h4
  obtain ⟨to, p1, q1⟩ := hfo
  obtain ⟨ta, p2, q2⟩ := SA.nil (X := X) (W := W)
  refine ⟨tMethSD C m (SpOf (ct X) np f) dvs (EW W) to tNil, ⟨fun pins s σ H Q I h => ?_⟩, q1.meth (g := aNil) (fun env σ G H r0 Q p => p [] G H (Step.refl r0) ⟨rfl, fun i v r h => by simp at h, fun i j v w r q a h => by simp at h⟩) hC.mg h4 h5⟩
  refine PySem.W.methodCall_KW (pl := pl) (thn (p1.run pins s σ H _ I h) fun u s1 hx => ?_) ht
  obtain ⟨y, H1, I1, ry, b, dx, fs, ey, hb, hl, q⟩ := hx
  subst ey
  obtain rfl : u = Value.ref b := ry
  exact getmeth_ok I1 hb hC.cl hm hl (PySem.W.callWith_K0 (first := [.ref b]) I1.kIn F.kp (run_fnSD (E := EW W) (us := [.ref b]) (vs := [.ref b]) h1 hr h2 h3 (goesAt tk σ) I1 (.cons rfl .nil) q))

end
end Zed
set_option Elab.async false
set_option linter.all false
set_option maxRecDepth 100000
set_option maxHeartbeats 2000000
namespace Zed
open PySem L2

def wipeE (e : Env) : List Nat → Env
  | [] => e
  | v :: vs => (wipeE e vs).set v none
/-- the names of a block are those at vs -/
def bF (vs : List Nat) : Nat → Bool := fun i => !(vs.contains i)
def keepF : Option LV → Option LV
  | some (.frz d) => some (.frz d)
  | _ => none
def backE (vs : List Nat) : Nat → Env → Env → Env
  | k, a :: as, b :: bs => (if vs.contains k = true then keepF a else b) :: backE vs (k + 1) as bs
  | _, _, _ => []
abbrev W0 : WX := fun _ _ _ _ => False
def compN (vs : List Nat) (b : Bnd) (t : Tst) (f : Exp) : List D → List D → Env → Option (Rs (List D))
  | [], acc, env => some (.val acc env)
  | d :: ds, acc, env => match b d env with
    | none => none
    | some e1 => Rs.b (t e1) fun ok e2 => if ok = true then if acc.length < 16777216 then Rs.b (fzE f e2) fun x e3 => compN vs b t f ds (acc ++ [x]) (wipeE e3 vs) else none else compN vs b t f ds acc (wipeE e2 vs)
def compI (vs : List Nat) (b : Bnd) (it : Seq) (t : Tst) (f : Exp) : Exp := fun env => Rs.b (it env) fun ds e1 => match compN vs b t f ds [] (wipeE e1 vs) with
  | some (.val acc e2) => some (.val (.new (.lst acc)) (backE vs 0 e1 e2))
  | _ => none
def yesT : Tst := fun env => some (.val true env)
theorem wipeE_get {e : Env} {i : Nat} {x : LV} : ∀ {vs : List Nat}, (wipeE e vs)[i]? = some (some x) → e[i]? = some (some x) ∧ i ∉ vs
  | [], h => ⟨h, by simp⟩
  | v :: vs, h => by
    unfold wipeE at h
    rcases get_set' h with ⟨_, e2, _⟩ | ⟨hne, h⟩
    · cases e2
    · obtain ⟨h1, h2⟩ := wipeE_get h
      exact ⟨h1, by simp only [List.mem_cons, not_or]; exact ⟨fun e => hne e.symm, h2⟩⟩
theorem wipeE_len {e : Env} : ∀ {vs : List Nat}, (wipeE e vs).length = e.length
  | [] => rfl
  | v :: vs => by unfold wipeE; rw [List.length_set, wipeE_len]
theorem wipeE_put {e : Env} {i : Nat} {x : LV} : ∀ {vs : List Nat}, i ∉ vs → e[i]? = some (some x) → (wipeE e vs)[i]? = some (some x)
  | [], _, h => h
  | v :: vs, hn, h => by
    rw [List.mem_cons, not_or] at hn
    unfold wipeE
    rw [List.getElem?_set_ne (fun z => hn.1 z.symm)]
    exact wipeE_put hn.2 h
theorem out_of {σ : L2.St} {i : Nat} : ∀ {vs : List Nat}, i ∉ vs → (wipe σ vs)[i]? = σ[i]?
  | [], _ => rfl
  | v :: vs, h => by
    rw [List.mem_cons, not_or] at h
    unfold wipe
    rw [List.getElem?_set_ne (fun z => h.1 z.symm)]
    exact out_of h.2
theorem wipe_in {σ : L2.St} {i : Nat} : ∀ {vs : List Nat}, i ∈ vs → (wipe σ vs)[i]? = if i < σ.length then some none else none
  | v :: vs, h => by
    unfold wipe
    by_cases hv : v = i
    · subst hv
      by_cases hl : v < σ.length
      · rw [if_pos hl, List.getElem?_set_self (by rw [wipe_length]; exact hl)]
      · rw [if_neg hl, List.getElem?_eq_none (by rw [List.length_set, wipe_length]; omega)]
    · rw [List.getElem?_set_ne hv]
      exact wipe_in ((List.mem_cons.mp h).resolve_left fun z => hv z.symm)
theorem wipe_eq {σ σ2 : L2.St} {vs : List Nat} (hl : σ2.length = σ.length) (h : ∀ i, i ∉ vs → σ2[i]? = σ[i]?) : wipe σ2 vs = wipe σ vs := by
  refine List.ext_getElem? fun i => ?_
  by_cases hi : i ∈ vs
  · rw [wipe_in hi, wipe_in hi, hl]
  · rw [out_of hi, out_of hi, h i hi]
theorem bF_out {vs : List Nat} {i : Nat} : bF vs i = true ↔ i ∉ vs := by unfold bF; simp
theorem bF_in {vs : List Nat} {i : Nat} : bF vs i = false ↔ i ∈ vs := by unfold bF; simp
theorem backE_len {vs : List Nat} : ∀ {k : Nat} {a b : Env}, a.length = b.length → (backE vs k a b).length = b.length
  | k, [], [], _ => rfl
  | k, a :: as, b :: bs, h => congrArg (· + 1) (backE_len (by simpa using h))
theorem backE_get {vs : List Nat} {x : LV} : ∀ {k i : Nat} {a b : Env}, (backE vs k a b)[i]? = some (some x) → (k + i ∈ vs ∧ a[i]? = some (some x) ∧ ∃ d, x = .frz d) ∨ (k + i ∉ vs ∧ b[i]? = some (some x))
  | k, i, [], _, h => by simp [backE] at h
  | k, i, _ :: _, [], h => by simp [backE] at h
  | k, 0, a :: as, b :: bs, h => by
    have h : (if vs.contains k = true then keepF a else b) = some x := by simpa [backE] using h
    split at h
    · rename_i hk
      refine .inl ⟨by simpa using hk, ?_⟩
      cases a with
      | none => cases h
      | some lv =>
        cases lv with
        | frz d => cases h; exact ⟨rfl, d, rfl⟩
        | own o => cases h
    · rename_i hk
      exact .inr ⟨by simpa using hk, by simp [h]⟩
  | k, i + 1, a :: as, b :: bs, h => by
    have h : (backE vs (k + 1) as bs)[i]? = some (some x) := by simpa [backE] using h
    rw [show k + (i + 1) = k + 1 + i by omega]
    simpa using backE_get h
section
variable {c : Ct} {W : WX} {σ σ' σ0 : L2.St} {env env' env0 e1 e2 : Env} {G H G' H' G0 H0 : Hp} {vs : List Nat}
theorem Rel.wipe (r : Rel c env σ G H) : Rel c (wipeE env vs) (wipe σ vs) G H :=
  ⟨r.ex, by rw [wipe_length, wipeE_len]; exact r.len, fun i lv h => by
    obtain ⟨h1, h2⟩ := wipeE_get h
    rw [out_of h2]; exact r.sl i lv h1, fun i j oi oj a h1 h2 h3 h4 => r.dj i j oi oj a (wipeE_get h1).1 (wipeE_get h2).1 (wipe_some h3).1 (wipe_some h4).1⟩
theorem SStep.wipe (s : SStep (bF vs) c σ0 env0 G0 H0 σ env G H) : SStep (bF vs) c σ0 env0 G0 H0 (L2.wipe σ vs) (wipeE env vs) G H := by
  refine ⟨s.g, s.rel.wipe, s.keep, fun i f => by rw [out_of (bF_out.mp f)]; exact s.fix i f, fun i o f h => s.ow i o f (wipeE_get h).1, fun i a f h => ?_, s.al, by rw [wipeE_len]; exact s.ln⟩
  obtain ⟨⟨o, h1⟩, _⟩ := h
  exact ((wipeE_get h1).2 (bF_in.mp f)).elim
/-- an address that nobody knows is given something else -/
theorem SStep.upd (s : SStep (bF vs) c σ0 env0 G0 H0 σ env G H) {a : Addr} {o : HO} (h0 : H0 a = none) (g : G a = none) (n : ¬ OA env σ a) : SStep (bF vs) c σ0 env0 G0 H0 σ env G (upd H a o) := by
  have r := s.rel
  refine ⟨s.g, ⟨fun b q e => by rw [upd_ne (ne_of_none e g)]; exact r.ex b q e, r.len, fun i lv h => ?_, r.dj⟩, fun b q h1 g1 n1 => ?_, s.fix, s.ow, s.nf, fun b hb => ?_, s.ln⟩
  · obtain ⟨v, h1, h2⟩ := r.sl i lv h
    refine ⟨v, h1, ?_⟩
    cases lv with
    | frz d => exact h2
    | own o2 =>
      obtain ⟨b, hb, e2, gb, hb1, wb⟩ := h2
      subst e2
      have : b ≠ a := fun z => n ⟨i, o2, h, by rw [← z]; exact h1⟩
      exact ⟨b, hb, rfl, gb, by rw [upd_ne this]; exact hb1, wb⟩
  · have : b ≠ a := fun z => by rw [z, h0] at h1; cases h1
    rw [upd_ne this]
    exact s.keep b q h1 g1 n1
  · by_cases e : b = a
    · rw [e, upd_same] at hb; cases hb
    · rw [upd_ne e] at hb; exact s.al b hb
theorem back_ok (r : Rel c e1 σ G H) (s : SStep (bF vs) c (wipe σ vs) (wipeE e1 vs) G H (wipe σ vs) e2 G' H') : Step c σ e1 G H (backE vs 0 e1 e2) G' H' := by
  have ln : e1.length = e2.length := by rw [s.ln, wipeE_len]
  have get : ∀ {i : Nat} {lv : LV}, (backE vs 0 e1 e2)[i]? = some (some lv) → (i ∈ vs ∧ e1[i]? = some (some lv) ∧ ∃ d, lv = .frz d) ∨ (i ∉ vs ∧ e2[i]? = some (some lv)) := fun {i lv} h => by
    have := backE_get h
    rwa [Nat.zero_add] at this
  refine ⟨s.g, ⟨s.rel.ex, by rw [backE_len ln, ← ln]; exact r.len, fun i lv h => ?_, fun i j oi oj a h1 h2 h3 h4 => ?_⟩, fun a o h g n => s.keep a o h g fun z => n ?_, fun i o h => ?_, s.al⟩
  · rcases get h with ⟨_, h1, d, rfl⟩ | ⟨hi, h1⟩
    · obtain ⟨v, h2, h3⟩ := r.sl i _ h1
      exact ⟨v, h2, Rep.mono s.g h3⟩
    · obtain ⟨v, h2, h3⟩ := s.rel.sl i _ h1
      exact ⟨v, (wipe_some h2).1, h3⟩
  · rcases get h1 with ⟨_, _, d, z⟩ | ⟨i1, x1⟩
    · cases z
    · rcases get h2 with ⟨_, _, d, z⟩ | ⟨i2, x2⟩
      · cases z
      · exact s.rel.dj i j oi oj a x1 x2 (by rw [out_of i1]; exact h3) (by rw [out_of i2]; exact h4)
  · obtain ⟨i, o', h1, h2⟩ := z
    exact ⟨i, o', (wipeE_get h1).1, (wipe_some h2).1⟩
  · rcases get h with ⟨_, _, d, z⟩ | ⟨i1, x1⟩
    · cases z
    · obtain ⟨o', h2⟩ := s.ow i o (bF_out.mpr i1) x1
      exact ⟨o', (wipeE_get h2).1⟩
theorem SStep.wf (r : Rel c env (L2.wipe σ vs) G H) (s : SStep (bF vs) c (L2.wipe σ vs) env G H σ' env' G' H') : L2.wipe σ' vs = L2.wipe σ vs := by
  refine wipe_eq ?_ fun i hi => ?_
  · rw [s.rel.len, s.ln, ← r.len, wipe_length]
  · rw [s.fix i (bF_out.mpr hi), out_of hi]
theorem OA.unwipe {a : Addr} (h : OA (wipeE env vs) (wipe σ vs) a) : OA env σ a := let ⟨i, o, h1, h2⟩ := h; ⟨i, o, (wipeE_get h1).1, (wipe_some h2).1⟩
theorem Ev.got {α β : Type} {ok : OkRel α β} {tb : Tg β} {fb : Env → Option (Rs α)} {W' : WX} (hb : Ev ok c W' tb fb) (r : Rel c env σ G H) {x : α} (e : fb env = some (.val x env')) {K : β → Hp → Prop}
    (hK : ∀ v G2 H2, Step c σ env G H env' G2 H2 → ok c σ H env' G2 H2 v x → K v H2) : tb σ H K := hb env σ G H r K (by rw [e]; exact hK)
theorem rsb_val {α γ : Type} {x : Option (Rs α)} {k : α → Env → Option (Rs γ)} {r : γ} {e : Env} (h : Rs.b x k = some (.val r e)) : ∃ a e1, x = some (.val a e1) ∧ k a e1 = some (.val r e) := by
  unfold Rs.b at h
  split at h
  · exact ⟨_, _, rfl, h⟩
  · cases h
  · cases h
/-- what holds between two turns of the block -/
def BlkAt (c : Ct) (σ : L2.St) (vs : List Nat) (e1 : Env) (G1 H1 : Hp) (Dn : Addr) (rest : List D → Env → Option (Rs (List D))) (out : Rs (List D)) (H' : Hp) : Prop :=
  ∃ env' G' vsd acc', SStep (bF vs) c (wipe σ vs) (wipeE e1 vs) G1 H1 (wipe σ vs) env' G' H' ∧ H' Dn = some (.lst vsd) ∧ Reps c G' vsd acc' ∧ G' Dn = none ∧ ¬ OA env' (wipe σ vs) Dn ∧ rest acc' env' = some out
theorem blk_next {σ2 : L2.St} {e3 env1 : Env} {G4 H4 Gx Hx : Hp} {G1 H1 : Hp} {Dn : Addr} {vsd : List V} {acc' : List D} (h1n : H1 Dn = none) (s' : SStep (bF vs) c (wipe σ vs) (wipeE e1 vs) G1 H1 (wipe σ vs) env1 Gx Hx) (hD : Hx Dn = some (.lst vsd)) (rs : Reps c Gx vsd acc') (gD : Gx Dn = none) (no : ¬ OA env1 (wipe σ vs) Dn)
    (sT : SStep (bF vs) c (wipe σ vs) env1 Gx Hx σ2 e3 G4 H4) (wf : wipe σ2 vs = wipe σ vs) {rest : List D → Env → Option (Rs (List D))} {out : Rs (List D)} :
    (∀ y x', Rep c G4 y x' → rest (acc' ++ [x']) (wipeE e3 vs) = some out → H4 Dn = some (.lst vsd) ∧ BlkAt c σ vs e1 G1 H1 Dn rest out (L2.upd H4 Dn (.lst (vsd ++ [y])))) ∧ (rest acc' (wipeE e3 vs) = some out → BlkAt c σ vs e1 G1 H1 Dn rest out H4) := by
  obtain ⟨k1, k2⟩ := sT.keep Dn _ hD gD no
  have no4 : ¬ OA e3 σ2 Dn := fun z => by
    rcases sT.oa z with z | z
    · exact no z
    · rw [hD] at z; cases z
  have s5 := s'.trans sT
  refine ⟨fun y x' rp e => ⟨k1, ?_⟩, fun e => ?_⟩
  · have s7 := (s5.upd (o := .lst (vsd ++ [y])) h1n k2 no4).wipe
    rw [wf] at s7
    exact ⟨_, _, _, _, s7, upd_same, (rs.mono sT.g).snoc rp, k2, fun z => no4 (OA.unwipe (by rw [wf]; exact z)), e⟩
  · have s7 := s5.wipe
    rw [wf] at s7
    exact ⟨_, _, _, _, s7, k1, rs.mono sT.g, k2, fun z => no4 (OA.unwipe (by rw [wf]; exact z)), e⟩
theorem comp_ok {wi : TI} {it : Seq} {g : TG} {b : Bnd} {tt : TT} {t : Tst} {te : TE} {f : Exp} (hi : Ev okI c W wi it) (hg : BndOk (bF vs) c g b) (ht : Ev okT c W0 tt t) (hf : Ev RvOk c W0 te f) : Ev RvOk c W (tLc wi g tt te vs) (compI vs b it t f) := fun env σ G H r Q p => by
  refine hi.use (Step.refl r) p fun ds e1 J G1 H1 s _ ok p => ?_
  have ok : ItOk c J G1 ds := ok
  cases qc : compN vs b t f ds [] (wipeE e1 vs) with
  | none => rw [qc] at p; exact p.elim
  | some out =>
    rw [qc] at p
    cases out with
    | exc x e => exact p.elim
    | val acc e2 =>
      intro Dn hn
      refine ⟨fun i m H' => m = ds.length - i ∧ i ≤ ds.length ∧ BlkAt c σ vs e1 G1 H1 Dn (compN vs b t f (ds.drop i)) (.val acc e2) H', ⟨ds.length, by simp, Nat.zero_le _, wipeE e1 vs, G1, [], [], ?_, upd_same, .nil, ?_, fun z => s.rel.fresh hn (OA.unwipe z), qc⟩, ?_⟩
      · exact (SStep.refl s.rel.wipe).upd hn (s.rel.ex.none hn) fun z => s.rel.fresh hn (OA.unwipe z)
      · exact s.rel.ex.none hn
      rintro i m H' ⟨rfl, hi, env', G', vsd, acc', s', hD, rs, gD, no, p'⟩
      obtain ⟨o1, o2⟩ := ok i env' (wipe σ vs) G' H' s'.rel s'.g
      by_cases hlt : i < ds.length
      · obtain ⟨go, y⟩ := o2 ds[i] (by simp [hlt])
        refine .inr ⟨go, BlkAt c σ vs e1 G1 H1 Dn (compN vs b t f (ds.drop (i + 1))) (.val acc e2), fun H2 t2 => ⟨ds.length - (i + 1), by omega, rfl, hlt, t2⟩, fun x H2 hy => ?_⟩
        obtain ⟨G2, st, rp⟩ := y x H2 hy
        rw [drop_cons (d := ds[i]) (by simp [hlt])] at p'
        unfold compN at p'
        cases q1 : b ds[i] env' with
        | none => rw [q1] at p'; cases p'
        | some e1' =>
          rw [q1] at p'
          obtain ⟨bv, e2', q2, p'⟩ := rsb_val p'
          refine hg env' (wipe σ vs) G2 H2 x _ e1' st.rel rp q1 _ fun σ2 s3 => ?_
          refine ⟨s3.wf st.rel, ht.got s3.rel q2 fun bv' G3 H3 st3 ok3 => ?_⟩
          have ok3 : bv' = bv := ok3
          subst ok3
          have sT := ((st.s (F := bF vs) s'.rel).trans s3).trans (st3.s s3.rel)
          cases bv' with
          | false =>
            rw [if_neg Bool.false_ne_true] at p' ⊢
            exact (blk_next hn s' hD rs gD no sT (sT.wf s'.rel)).2 p'
          | true =>
            rw [if_pos rfl] at p' ⊢
            split at p'
            · rename_i hlen
              obtain ⟨x', e3', q3, p'⟩ := rsb_val p'
              refine hf.fz.got st3.rel q3 fun y G4 H4 st4 ok4 => ?_
              have ok4 : Rep c G4 y x' := ok4
              have sT := sT.trans (st4.s st3.rel)
              obtain ⟨z1, z2⟩ := (blk_next hn s' hD rs gD no sT (sT.wf s'.rel) (rest := compN vs b t f (ds.drop (i + 1))) (out := .val acc e2)).1 y x' ok4 p'
              exact ⟨vsd, z1, by rw [rs.length]; exact hlen, z2⟩
            · cases p'
      · refine .inl ⟨o1 (by omega), ?_⟩
        rw [List.drop_of_length_le (by omega)] at p'
        cases p'
        have b := back_ok s.rel s'
        exact p _ G' H' (s.trans b) ⟨Dn, _, rfl, s.al _ hn, gD, hD, _, rfl, rs⟩
end
section
variable {X : Cx} {W : WX} {F : Nat → Bool} {tg e elt : Expr} {b : Bnd} {it : Seq} {t : Tst} {f : Exp} {scope : Scope} {own : List (Str × Nat)} {pos spos py : Pos} {ifs : List Expr}
/-- the tests of a clause -/
def STs (X : Cx) (W : WX) (es : List Expr) (t : Tst) : Prop := ∃ tt, PTs X es tt ∧ Ev okT (ct X) W tt t
theorem STs.nil : STs X W [] yesT := ⟨_, pts_nil, fun env σ G H r Q p => p true G H (Step.refl r) rfl⟩
theorem STs.one {e : Expr} (h : ST X W e t) : STs X W [e] t := let ⟨_, p, q⟩ := h; ⟨_, pts_one p, q⟩
theorem STs.u {es : List Expr} (h : STs X W es t) : PTs X es (uE okT (ct X) W t) := let ⟨te, p, q⟩ := h; ⟨fun pins s σ H Q I hu => p.run pins s σ H Q I (hu te q)⟩
theorem SE.lc (vs : List Nat) (hc : X.calm = true) (hN : X.N.Nodup) (hi : SI X W tg e it) (ok : BlkOk X.N X.env.scope scope own) (hv : own.map (·.2) = vs)
    (hb : ∀ (s : Shared) (H : Hp) (C : Addr) (cl : List (Str × Addr)) (fp : List Addr), SG (X.blk s H scope (compEnvC scope cl C X.env) fp) (bF vs) tg b ∧ STs (X.blk s H scope (compEnvC scope cl C X.env) fp) W0 ifs t ∧ SE (X.blk s H scope (compEnvC scope cl C X.env) fp) W0 elt f)
    (hs : ∀ x, foldedSetIterable e X.env x = pure x := by intro _; rfl) : SE X W (.ListComp elt [⟨tg, e, ifs, 0⟩] scope pos) (compI vs b it t f) := by
  obtain ⟨wi, p, q⟩ := hi
  subst hv
  have hct : ∀ (s : Shared) (H : Hp) (C : Addr) (cl : List (Str × Addr)) (fp : List Addr), ct (X.blk s H scope (compEnvC scope cl C X.env) fp) = ct X := fun s H C cl fp => (ct0 (X := X.blk s H scope (compEnvC scope cl C X.env) fp) hc).trans (ct0 (X := X) hc).symm
  exact ⟨_, pe_lc hc hN p ok (fun s H C cl fp => hct s H C cl fp ▸ (hb s H C cl fp).1.u) (fun s H C cl fp => hct s H C cl fp ▸ (hb s H C cl fp).2.1.u) (fun s H C cl fp => hct s H C cl fp ▸ (hb s H C cl fp).2.2.u) hs, comp_ok q uG_ev uE_ev uE_ev⟩
theorem asg_ok {te : TE} {fe : Exp} {i : Nat} {c : Ct} (q1 : Ev RvOk c W te fe) (f : F i = false) : EvS F c W (tAsg te (gName i)) (asgS i fe) := fun env σ G H r D p => by
  refine q1.uses (SStep.refl r) p fun rv e1 v G1 H1 s s1 ok p => ?_
  split at p
  · rename_i e2 q
    obtain ⟨G2, s2⟩ := bind_ok r (SStep.refl r) s1 ok f q
    exact p _ G2 H1 s2
  · exact p.elim
theorem S1.asgLc {y : Str} (i : Nat) (vs : List Nat) (hc : X.calm = true) (hN : X.N.Nodup) (hi : SI X W tg e it) (ok : BlkOk X.N X.env.scope scope own) (hv : own.map (·.2) = vs)
    (hb : ∀ (s : Shared) (H : Hp) (C : Addr) (cl : List (Str × Addr)) (fp : List Addr), SG (X.blk s H scope (compEnvC scope cl C X.env) fp) (bF vs) tg b ∧ STs (X.blk s H scope (compEnvC scope cl C X.env) fp) W0 ifs t ∧ SE (X.blk s H scope (compEnvC scope cl C X.env) fp) W0 elt f)
    (hsw : swapsWith (.ListComp elt [⟨tg, e, ifs, 0⟩] scope pos) (some (.Name y py)) spos.line X.env = pure true) (hF : F i = false := by rfl) (hy : X.N[i]? = some y := by rfl) (hyl : X.env.scope.names.lookup y = some .local := by rfl)
    (hs : ∀ x, foldedSetIterable e X.env x = pure x := by intro _; rfl) : S1 X W F (.Assign [.Name y py] (.ListComp elt [⟨tg, e, ifs, 0⟩] scope pos) spos) (asgS i (compI vs b it t f)) := by
  obtain ⟨wi, p, q⟩ := hi
  subst hv
  have hct : ∀ (s : Shared) (H : Hp) (C : Addr) (cl : List (Str × Addr)) (fp : List Addr), ct (X.blk s H scope (compEnvC scope cl C X.env) fp) = ct X := fun s H C cl fp => (ct0 (X := X.blk s H scope (compEnvC scope cl C X.env) fp) hc).trans (ct0 (X := X) hc).symm
  exact ⟨_, ps_setLc hc hN hy hyl hsw p ok (fun s H C cl fp => hct s H C cl fp ▸ (hb s H C cl fp).1.u) (fun s H C cl fp => hct s H C cl fp ▸ (hb s H C cl fp).2.1.u) (fun s H C cl fp => hct s H C cl fp ▸ (hb s H C cl fp).2.2.u) hs, asg_ok (comp_ok q uG_ev uE_ev uE_ev) hF⟩
end
end Zed
set_option Elab.async false
set_option linter.all false
set_option maxRecDepth 100000
set_option maxHeartbeats 4000000
namespace Zed
open PySem L2 PySem.Spec PyProof.Rows

/-- what the written part says of an __init__ at f over the class at D that says super() -/
structure SupK (P : Program) (K : PySem.W.Frag) (mg : Str → Option Value) (f cc cda D : Addr) (ar : Arg) : Prop where
  hf : ∃ oc od fd osl, K.lookup f = some ⟨oc, od, .func fd, osl⟩ ∧ (fd.params.posonlyargs ++ fd.params.args).head? = some ar
  hc : ∃ ccl cdd vs ccs file tf, K.lookup cda = some ⟨ccl, cdd, .fields vs, ccs⟩ ∧ (vs : Array Value)[2]? = some (.str file tf) ∧ ((P.main.file : Str) == file) = true
  cell : ∃ cl cld csl, K.lookup cc = some ⟨cl, cld, .cell (some (.ref D)), csl⟩
  hD : ∃ cdD, PySem.W.clsIn K D = some cdD
  opq : PySem.W.nsIn K cStatics "thirdparty.any" = some none
  su : mg "super" = none
  top : (P.main.scope.names.lookup ("super" : Str)).isSome = false
section
variable {X : Cx} {pins : List (Addr × Obj)} {σ : L2.St} {H : Hp} {s : Shared} {a C D f cc cda : Addr} {ar : Arg} {E : Value → Shared → Prop} {qual : Str} {scope : Scope} {L : Addr}
theorem exo_inst {s : Shared} (hok : HOk X.prog X.w H s.heap) (he : H a = some (exo a C none)) : ∃ ox, PySem.W.InstAt s.heap a ox C none ∧ ∃ t1 : Addr, ox = { cls := .ref C, dict := none, data := .fields #[.ref t1, .none, .none, .none, .bool false, .none] } := by
  obtain ⟨t1, ho⟩ := exo_at hok he
  exact ⟨_, ⟨ho, rfl, rfl, trivial⟩, t1, rfl⟩
theorem super_node {body : List Stmt} {p0 p1 : Pos} {whole : Sem Value} {Q : Value → Shared → Prop} (I : Inv X pins σ H s) (S : SupK X.prog X.K X.mg f cc cda D ar) (he : X.env = PySem.W.envX qual scope L f (.ref cda) [("__class__", cc)])
    (hks : scope.names.lookup ("super" : Str) = some .globalImplicit) (hkc : scope.names.lookup ("__class__" : Str) = some .free) (hka : scope.names.lookup ar.arg = some .local)
    (hN : X.N[0]? = some ar.arg) (hσ : σ[0]? = some (some (.ref a))) (hx : H a = some (exo a C none)) (hsub : PySem.W.mroIn X.K C (.ref D) = some true)
    (h : ∀ so h', Inv X pins σ H { s with heap := h' } → h'.get? so = some (PySem.W.ks_superObj D a C) → Q (.ref so) { s with heap := h' }) :
    _root_.PySem.wpAt (model X.prog X.w) X.A (.func body X.env) (attributeBase (.Call (.Name "super" p0) [] [] p1) "__init__" X.env whole) Q E s := by
  obtain ⟨oc, od, fd, osl, hf, hp⟩ := S.hf
  obtain ⟨ccl, cdd, vs, ccs, file, tf, hcode, hvs, hfile⟩ := S.hc
  obtain ⟨cl, cld, csl, hcell⟩ := S.cell
  obtain ⟨cdD, hD⟩ := S.hD
  have Xk := I.kIn
  obtain ⟨m, hn, hl⟩ := I.loc
  have hk : X.env.scope.kind = .function := I.ok.kind
  obtain ⟨u, ru, look⟩ := hl 0 ar.arg _ hN hσ (.inl (by rw [he]; exact hka))
  obtain rfl : u = Value.ref a := ru
  have hm : m ar.arg = some (.ref a) := by
    rcases look with ⟨_, z⟩ | ⟨z | z, _⟩
    · exact z
    · rw [he] at z; exact absurd (hka.symm.trans z) (by decide)
    · rw [he] at z; exact absurd (hka.symm.trans z) (by decide)
  obtain ⟨ox, It, _⟩ := exo_inst I.hok hx
  obtain ⟨mb, hb1, hb2⟩ := I.mod.blt
  obtain ⟨oD, hD1, hD2⟩ : ∃ oD, s.heap.get? D = some oD ∧ oD.data = .cls cdD := by
    unfold PySem.W.clsIn at hD
    split at hD
    · rename_i c d cd' sl ho
      cases hD
      exact ⟨_, Xk _ _ ho, rfl⟩
    · cases hD
  have kL : X.env.kindOf ar.arg = some .local := by rw [he]; exact hka
  have kS : X.env.kindOf ("super" : Str) = some .globalImplicit := by rw [he]; exact hks
  have kC : X.env.kindOf ("__class__" : Str) = some .free := by rw [he]; exact hkc
  have sb : s = ⟨s.heap, s.gens, s.drawn, s.toks, s.os⟩ := rfl
  refine PySem.ks_wpAt_super_base (env := X.env) kS kC rfl (by rw [he]) (Xk _ _ hf) rfl hp (by rw [he]) (Xk _ _ hcode) rfl hvs hfile S.top ?_
  refine PySem.W.ks_loadName_global hk kS (Calls.loadGlobal_builtin (by rw [I.ok.glob]; exact I.mod.glob.keeps I.bk) S.su (by rw [I.ok.blt]; exact hb1.keeps I.bk) ((hb2 _ (by decide)).trans PyProof.Rows.Boot.«super») ⟨rfl, ?_⟩)
  refine wpAny_loadName_free hk kC (by rw [he]; rfl) ⟨_, Xk _ _ hcell, rfl⟩ ?_
  refine wpAny_loadName_local hk kL hn hm ?_
  refine PySem.ks_wpAny_isType_cls hD1 hD2 ⟨rfl, ?_⟩
  refine PySem.ks_wpAny_call_super hD1 hD2 It.at_ It.cls (fun c e => ?_) (PySem.W.looks_mroIn Xk hsub) (fun h' e k => ?_)
  · have := It.no
    unfold PySem.W.notCls at this
    rw [e] at this
    exact Bool.noConfusion this
  · exact h _ h' (I.kept (t' := s.toks) k) e

/-- a fresh object may be pinned -/
theorem pin_new {o : Obj} (I : Inv X pins σ H s) (hd : ∀ v, o.data ≠ .cell v) {h' : Heap} {tk : Nat} (hg : h'.get? s.heap.objs.size = some o) (k : ∀ b u, s.heap.get? b = some u → h'.get? b = some u) : ∃ pl, Inv X (pins ++ pl) σ H { s with heap := h', toks := tk } ∧ (s.heap.objs.size, o) ∈ pl := by
  have I1 : Inv X pins σ H { s with heap := h', toks := tk } := I.kept k
  refine ⟨_, I1.pinned (fp := [s.heap.objs.size]) (fun b hb => ?_) (fun b hb => ?_), mem_pinsAt (by simp) hg⟩
  · have e : b = s.heap.objs.size := by simpa using hb
    subst e
    exact I.fpOk (Nat.le_refl _) (I.hok.fresh (Nat.le_refl _))
  · have e : b = s.heap.objs.size := by simpa using hb
    subst e
    exact ⟨o, hg, hd⟩
/-- the bound built-in __init__ is called -/
theorem call_mw {u : Addr} {us : List Value} {Q : Value → Shared → Prop} {A : Around} (T : OexC X.K C) (I : Inv X pins σ H s) (hu : s.heap.get? u = some (PySem.W.kxs_mw "ValueError.__init__" a)) (e : H a = some (exo a C none)) (hl : us.length ≤ sizeLine) (h : ∀ s', Inv X pins σ H s' → Q .none s') :
    wpAny (model X.prog X.w) A (call (.ref u) us) Q E s := by
  obtain ⟨nm, q, N, bs, bm, sn, sub, ab, col, dd, k0, k1, k2, k3, k5, hC, hbm⟩ := T.cls
  obtain ⟨t1, ho⟩ := exo_at I.hok e
  have hC' := I.kIn _ _ hC
  obtain ⟨hp, g, d, t, os⟩ := s
  refine wpAny_call (codeAny_of_tree ?_)
  show wpAny _ A.in1 (callAny (.ref u) ⟨us, []⟩) _ _ _
  simp only [callAny]
  refine wpAny_bind (wpAny_load hu ?_)
  simp only [PySem.W.kxs_mw, show (Value.type "method-wrapper" == Value.type "method" || Value.type "method-wrapper" == Value.type "builtin_function_or_method" || Value.type "method-wrapper" == Value.type "method-wrapper") = true by decide, if_true]
  refine PySem.W.KFB.if_so (by decide) ?_
  refine wpAny_bind (PySem.W.check_bound_init F.excBase_ValueError.toExcCallFacts hC' ho rfl ?_)
  refine wpAny_bind (wpAny_pure (wpAny_pure ?_))
  refine ⟨plainId_quiet F.excBase_ValueError.init.plain _, codeAny_builtin F.excBase_ValueError.initEntry ?_⟩
  have fin : ∀ h' t2, (∀ b o, b ≠ a → hp.get? b = some o → h'.get? b = some o) → h'.get? a = some (PySem.HandSPX.excO C t2) → Q .none ⟨h', g, d, t, os⟩ := fun h' t2 k hx => by
    have J := I.write (t' := t) (x := a) (e := a) (o := exo a C none) (by rw [e]; exact True.intro) (.inl rfl) k ⟨_, hx⟩ (exo_ok hx)
    have eu : upd H a (exo a C none) = H := by
      funext b
      by_cases hb : b = a
      · rw [hb, upd_same, e]
      · rw [upd_ne hb]
    rw [eu] at J
    exact h _ J
  rw [Around.under_plainId F.excBase_ValueError.init.plain _]
  wp_walk
  refine fin _ hp.objs.size (fun b o hb ho => ?_) ?_
  · rw [Heap.get?_update_other _ _ (Ne.symm hb)]
    exact Heap.get?_push_of_some _ ho
  · rw [Heap.get?_update_self _ (Heap.get?_push_of_some _ ho) rfl]
    rfl
variable {e : Expr} {es : List Expr} {p0 p1 ap pos : Pos} {ta : TA}
theorem superIn_of {m : Str} {r : Option Value} (hm : PySem.W.ks_superIn X.K C D m = some r) : ∃ cd, PySem.W.clsIn X.K C = some cd ∧ PySem.W.alongIn X.K m ((cd.mro.dropWhile (· != .ref D)).drop 1) = some r := by
  unfold PySem.W.ks_superIn at hm
  cases hc : PySem.W.clsIn X.K C with
  | none => rw [hc] at hm; cases hm
  | some cd => rw [hc] at hm; exact ⟨cd, rfl, hm⟩
/-- the call, the next __init__ being that of ValueError -/
theorem sup_builtin {body : List Stmt} {Qf : Hp → Prop} {pl : Sem Bool} (I : Inv X pins σ H s) (S : SupK X.prog X.K X.mg f cc cda D ar) (he : X.env = PySem.W.envX qual scope L f (.ref cda) [("__class__", cc)])
    (hks : scope.names.lookup ("super" : Str) = some .globalImplicit) (hkc : scope.names.lookup ("__class__" : Str) = some .free) (hka : scope.names.lookup ar.arg = some .local)
    (hN : X.N[0]? = some ar.arg) (hσ : σ[0]? = some (some (.ref a))) (hx : H a = some (exo a C none)) (hsub : PySem.W.mroIn X.K C (.ref D) = some true) (T : OexC X.K C) (hve : PySem.W.subIn X.K (.ref C) (.type "ValueError") = some true)
    (hm : PySem.W.ks_superIn X.K C D "__init__" = some (some (.builtin "ValueError.__init__"))) (ha : PA X (e :: es) ta)
    (h : ta σ H fun vs H1 => H1 a = some (exo a C none) ∧ vs.length ≤ sizeLine ∧ Qf H1)
    (hev : eval (.Call (.Attribute (.Call (.Name "super" p0) [] [] p1) "__init__" ap) (e :: es) [] pos) X.env = (do
      let ov ← attributeBase (.Call (.Name "super" p0) [] [] p1) "__init__" X.env (eval (.Call (.Name "super" p0) [] [] p1) X.env)
      standAt ap.atName
      let (f, first) ← holding [ov] (getMethod ov "__init__" pl)
      callWith pos f first (backTo pos (starEach (e :: es) X.env)) []) := by rfl)
    (hst : starEach (e :: es) X.env = (false, eval e X.env) :: starEach es X.env := by rfl) (hpl : (backTo pos (starEach es X.env)).any (·.1) = false := by rfl) :
    _root_.PySem.wpAt (model X.prog X.w) X.A (.func body X.env) (eval (.Call (.Attribute (.Call (.Name "super" p0) [] [] p1) "__init__" ap) (e :: es) [] pos) X.env) (fun _ s' => ∃ H', Inv X pins σ H' s' ∧ Qf H') X.xe s := by
  refine PySem.ks_wpAt_MethodCall (pl := pl) ?_ hev
  refine super_node I S he hks hkc hka hN hσ hx hsub fun so h1 I1 hso => ?_
  obtain ⟨cd, hcd, hal⟩ := superIn_of hm
  obtain ⟨ox, It, _⟩ := exo_inst I1.hok hx
  have Xk := I1.kIn
  obtain ⟨hp0, g, d, t, os⟩ := s
  refine PySem.W.kxs_getMethod PySem.W.kxs_ValueError hso (PySem.W.looks_opaque Xk S.opq) (l₀ := cd.mro) ?_ rfl Xk hal (It.type.andThen (PySem.W.looks_subIn Xk hve)) (PySem.W.ks_ne Xk It hcd) rfl ?_
  · exact fun A Q E s k q => wpAny_bind ((PySem.W.looks_clsIn Xk hcd) A _ E s k (wpAny_pure q))
  obtain ⟨pl', I2, hpin⟩ := pin_new (tk := t + 1) I1 (o := PySem.W.kxs_mw "ValueError.__init__" a) (fun v z => by cases z) (h' := h1.push (PySem.W.kxs_mw "ValueError.__init__" a)) (Heap.get?_push_at rfl rfl) (fun b u q => Heap.get?_push_of_some _ q)
  rw [hst]
  refine PySem.W.kxs_callWith (i := "ValueError.__init__") (x := a) (by show (false || (backTo pos (starEach es X.env)).any (·.1)) = false; rw [hpl]; rfl) (Calls.evalArgs_plain ?_)
  have this := ha.run pos (pins ++ pl') _ σ H _ I2 h
  rw [hst] at this
  refine thn this fun us s1 ⟨vs, H1, I3, r1, hx1, hl, q⟩ => ?_
  have hat := (I3.pin (h1.objs.size, PySem.W.kxs_mw "ValueError.__init__" a) (List.mem_append_right _ (List.mem_append_right _ hpin))).1
  refine ⟨hat, call_mw T I3 hat hx1 (by show us.length ≤ sizeLine; rw [← r1.length]; exact hl) fun s' J => ⟨H1, J.unpinned, q⟩⟩
/-- the call, the next __init__ being an own one -/
theorem sup_own {body : List Stmt} {Qf : Hp → Prop} {pl : Sem Bool} {f2 : Addr} {CX : CXT} {k : Nat} {sp : Sp} {E2 : XK} (I : Inv X pins σ H s) (S : SupK X.prog X.K X.mg f cc cda D ar) (he : X.env = PySem.W.envX qual scope L f (.ref cda) [("__class__", cc)])
    (hks : scope.names.lookup ("super" : Str) = some .globalImplicit) (hkc : scope.names.lookup ("__class__" : Str) = some .free) (hka : scope.names.lookup ar.arg = some .local)
    (hN : X.N[0]? = some ar.arg) (hσ : σ[0]? = some (some (.ref a))) (hx : H a = some (exo a C none)) (hsub : PySem.W.mroIn X.K C (.ref D) = some true)
    (hm : PySem.W.ks_superIn X.K C D "__init__" = some (some (.ref f2))) (tf : PySem.W.typeIn X.K (.ref f2) = some (.type "function")) (hf2 : PySem.W.fnIn X.K f2 = true) (F2 : FnR X.prog X.w X.K X.mg X.base CX k f2 sp) (hr : Room k X.A) (hps : Passes CX X E2) (ha : PA X (e :: es) ta)
    (h : ta σ H fun vs H1 => sp (.ref a :: vs) H1 (fun _ H2 => Qf H2) E2)
    (hev : eval (.Call (.Attribute (.Call (.Name "super" p0) [] [] p1) "__init__" ap) (e :: es) [] pos) X.env = (do
      let ov ← attributeBase (.Call (.Name "super" p0) [] [] p1) "__init__" X.env (eval (.Call (.Name "super" p0) [] [] p1) X.env)
      standAt ap.atName
      let (f, first) ← holding [ov] (getMethod ov "__init__" pl)
      callWith pos f first (backTo pos (starEach (e :: es) X.env)) []) := by rfl)
    (hst : starEach (e :: es) X.env = (false, eval e X.env) :: starEach es X.env := by rfl) (hpl : (backTo pos (starEach es X.env)).any (·.1) = false := by rfl) :
    _root_.PySem.wpAt (model X.prog X.w) X.A (.func body X.env) (eval (.Call (.Attribute (.Call (.Name "super" p0) [] [] p1) "__init__" ap) (e :: es) [] pos) X.env) (fun _ s' => ∃ H', Inv X pins σ H' s' ∧ Qf H') X.xe s := by
  refine PySem.ks_wpAt_MethodCall (pl := pl) ?_ hev
  refine super_node I S he hks hkc hka hN hσ hx hsub fun so h1 I1 hso => ?_
  obtain ⟨cd, hcd, hal⟩ := superIn_of hm
  obtain ⟨ox, It, _⟩ := exo_inst I1.hok hx
  have Xk := I1.kIn
  obtain ⟨of, hof, hofc⟩ : ∃ of, h1.get? f2 = some of ∧ of.cls = .type "function" := by
    have ht' : (X.K.lookup f2).map (·.cls) = some (.type "function") := tf
    cases z : X.K.lookup f2 with
    | none => rw [z] at ht'; cases ht'
    | some of => rw [z] at ht'; exact ⟨of, Xk _ _ z, Option.some.inj ht'⟩
  obtain ⟨hp0, g, d, t, os⟩ := s
  refine PySem.ks_wpAny_getMethod_super hso (PySem.W.looks_opaque Xk S.opq) (l₀ := cd.mro) ?_ rfl Xk hal hof hofc (PySem.W.ks_ne Xk It hcd) rfl ?_
  · exact fun A Q E s k q => wpAny_bind ((PySem.W.looks_clsIn Xk hcd) A _ E s k (wpAny_pure q))
  obtain ⟨pl', I2, hpin⟩ := pin_new (tk := t + 1) I1 (o := PySem.W.methodObj (.ref f2) (.ref a)) (fun v z => by cases z) (h' := h1.push (PySem.W.methodObj (.ref f2) (.ref a))) (Heap.get?_push_at rfl rfl) (fun b u q => Heap.get?_push_of_some _ q)
  rw [hst]
  refine PySem.W.callWith_of (P := PySem.W.MethP X.K h1.objs.size f2 (.ref a)) (by show ((false || (backTo pos (starEach es X.env)).any (·.1)) || false) = false; rw [hpl]; rfl) (PySem.W.keeps_M hf2) (Calls.evalArgs_plain ?_)
  have this := ha.run pos (pins ++ pl') _ σ H _ I2 h
  rw [hst] at this
  refine thn this fun us s1 ⟨vs, H1, I3, r1, q⟩ => ?_
  have hat := (I3.pin (h1.objs.size, PySem.W.methodObj (.ref f2) (.ref a)) (List.mem_append_right _ (List.mem_append_right _ hpin))).1
  refine ⟨⟨hat, I3.kIn⟩, wpAny_call (PySem.W.method_call hat ?_)⟩
  refine codeAny_mono (run_fnR F2 hr hps I3 (.cons (show RelV (.ref a) (.ref a) from rfl) r1) q) fun r s' hq => ?_
  cases r with
  | error e => exact hq
  | ok fl =>
    cases fl with
    | ret v =>
      obtain ⟨x, H2, J, _, q2⟩ := hq
      exact ⟨H2, J.unpinned, q2⟩
    | next => exact hq.elim
    | brk => exact hq.elim
    | cont => exact hq.elim
end
end Zed
set_option Elab.async false
set_option linter.all false
set_option maxRecDepth 100000
set_option maxHeartbeats 4000000
namespace Zed
open PySem L2 PySem.Spec PyProof.Rows NdefX
/-- super().__init__(e, ..) -/
abbrev supCall (p0 p1 ap pos : Pos) (es : List Expr) : Expr := .Call (.Attribute (.Call (.Name "super" p0) [] [] p1) "__init__" ap) es [] pos
def SupEv (p0 p1 ap pos : Pos) (es : List Expr) (env : PySem.Env) : Prop := ∃ pl, eval (supCall p0 p1 ap pos es) env = (do
      let ov ← attributeBase (.Call (.Name "super" p0) [] [] p1) "__init__" env (eval (.Call (.Name "super" p0) [] [] p1) env)
      standAt ap.atName
      let (f, first) ← holding [ov] (getMethod ov "__init__" pl)
      callWith pos f first (backTo pos (starEach es env)) [])
/-- an __init__ at f whose first statement is that call -/
structure SupFn (P : Program) (K : PySem.W.Frag) (mg : Str → Option Value) (F : NF) (f cc D : Addr) (ar : Arg) (fd : FuncData) (N ps : List Str) : Prop where
  lk : ∃ oc od osl dV kV doc pm an ct, fd = PySem.W.fnX F.name F.qual F.params F.body F.scope F.cl dV kV doc pm an (.ref F.c) ct ∧ K.lookup f = some ⟨oc, od, .func fd, osl⟩
  cl : F.cl = [(("__class__" : Str), cc)]
  code : PySem.W.codeIn K (.ref F.c) F.qual = true
  sc : NScope N ps ["__class__"] F.scope
  S : SupK P K mg f cc F.c D ar
  ks : F.scope.names.lookup ("super" : Str) = some .globalImplicit
  ka : F.scope.names.lookup ar.arg = some .local
  N0 : N[0]? = some ar.arg
abbrev FX (CX : CXT) (P : Program) (w : World) (K : PySem.W.Frag) (mg : Str → Option Value) (base : Heap) (N : List Str) (F : NF) (f : Addr) (A : Around) (outer : List PySem.Env) (s : Shared) (H : Hp) (E : XK) : Cx := ncx CX P w K mg base N F f A outer s H E
section
variable {CX : CXT} {P : Program} {w : World} {K : PySem.W.Frag} {mg : Str → Option Value} {base : Heap} {N ps : List Str} {F : NF} {f cc D : Addr} {ar : Arg} {fd : FuncData} {k : Nat} {sp : Sp} {p0 p1 ap pos pos' : Pos} {e : Expr} {es : List Expr} {rest : List Stmt}
theorem fn_at (S : SupFn P K mg F f cc D ar fd N ps) (len : ∀ vs H Q E, sp vs H Q E → vs.length = ps.length)
    (hbody : ∀ (A : Around) (outer : List PySem.Env) (s : Shared) (H : Hp) (vs : List V) (Q : VK) (E : XK), Room k (A.deeper (envF F f s.heap.objs.size)) → sp vs H Q E → ∀ s1 : Shared, L2.Inv (FX CX P w K mg base N F f A outer s H E) [] (startF N vs [some (.ref D)]) H s1 →
      _root_.PySem.wpAt (model P w) (A.deeper (envF F f s.heap.objs.size)) (.func F.body (envF F f s.heap.objs.size)) (execs F.body (envF F f s.heap.objs.size)) (fun fl s' => fl = .next ∧ ∃ σ' H', L2.Inv (FX CX P w K mg base N F f A outer s H E) [] σ' H' s' ∧ Q .non H') (FX CX P w K mg base N F f A outer s H E).xe s1) :
    FnOk P w K mg base CX (k + 1) f fd ps sp := by
  obtain ⟨oc, od, osl, dV, kV, doc, pm, an, ct, rfl, lk⟩ := S.lk
  obtain ⟨cl, cld, csl, hcell⟩ := S.S.cell
  refine ⟨len, fun A outer s H args us vs Q E hr e0 hb r hsp => ?_⟩
  have hl := len _ _ _ _ hsp
  have KX : K.In s.heap := e0.mod.kin.keeps fun b o e => (e0.bs b o e).1
  have lim : s.heap.NoLimit := e0.mod.nolimit.keeps fun b o e => (e0.bs b o e).1
  have bH : ∀ {b : Addr} {o : Obj}, K.lookup b = some o → H b = none := fun {b o} z => (e0.bs b o (e0.mod.kin _ _ z)).2
  refine PySem.ks_codeAny_call_defAt hr.depth (KX _ _ lk) rfl lim (PySem.W.codeRec_of KX S.code) rfl hb S.sc.nocell (fun ⟨n, _⟩ hy => S.sc.par n (List.of_mem_zip hy).1) (fun h₁ hns kp => ?_) S.sc.co S.sc.gen S.sc.kind
  have C : CellsAt F.cl ["__class__"] [some (.ref D)] s.heap H := by
    rw [S.cl]
    have one : ∀ {y : Str} {c : Addr}, ([(("__class__" : Str), cc)] : List (Str × Addr)).lookup y = some c → y = "__class__" ∧ c = cc := fun {y c} z => by
      have := PySem.mem_of_lookup z
      simp at this
      exact this
    refine ⟨rfl, fun y c z => ?_, fun x y c h1 h2 => (one h1).1.trans (one h2).1.symm, fun i y hy => ?_⟩
    · obtain ⟨_, rfl⟩ := one z
      exact ⟨bH hcell, _, _, KX _ _ hcell, rfl⟩
    · cases i with
      | zero =>
        have hy : ("__class__" : Str) = y := by simpa using hy
        subst hy
        refine ⟨cc, by rfl, fun v hv => ?_⟩
        have hv : V.ref D = v := by simpa using hv
        subst hv
        exact ⟨.ref D, rfl, _, KX _ _ hcell, rfl⟩
      | succ i => simp at hy
  have I : L2.Inv (FX CX P w K mg base N F f A outer s H E) [] (startF N vs [some (.ref D)]) H { s with heap := h₁, toks := s.toks + (ps.zip us).length } := inv_startN S.sc hr.hd e0 hl r C hns kp
  refine PySem.ks_wpAt_mono (hbody A outer s H vs Q E (hr.deeper _) hsp _ I) (fun fl s' ⟨hfl, σ', H', J, q⟩ => ?_) fun e s' hs => hs
  subst hfl
  exact ⟨.non, H', J.os, J.bare, J.base, J.hok, rfl, q⟩
/-- .. the next __init__ being that of ValueError -/
theorem fn_supV (S : SupFn P K mg F f cc D ar fd N ps) (hbd : F.body = .Expr (supCall p0 p1 ap pos (e :: es)) pos' :: rest) (len : ∀ vs H Q E, sp vs H Q E → vs.length = ps.length)
    (hst : ∀ env, starEach (e :: es) env = (false, eval e env) :: starEach es env) (hpl : ∀ env, (backTo pos (starEach es env)).any (·.1) = false)
    (hev : ∀ L, SupEv p0 p1 ap pos (e :: es) (envF F f L)) (hin : ∀ L, interactive (envF F f L) = false) (hsw : ∀ L, swapsWith (supCall p0 p1 ap pos (e :: es)) none pos'.line (envF F f L) = pure false)
    (hbody : ∀ (A : Around) (outer : List PySem.Env) (s : Shared) (H : Hp) (vs : List V) (Q : VK) (E : XK), Room k (A.deeper (envF F f s.heap.objs.size)) → sp vs H Q E → ∃ a C ws ta tr, vs = .ref a :: ws ∧ H a = some (exo a C none) ∧ PySem.W.mroIn K C (.ref D) = some true ∧ OexC K C ∧ PySem.W.subIn K (.ref C) (.type "ValueError") = some true ∧
      PySem.W.ks_superIn K C D "__init__" = some (some (.builtin "ValueError.__init__")) ∧ PA (FX CX P w K mg base N F f A outer s H E) (e :: es) ta ∧ PSs (FX CX P w K mg base N F f A outer s H E) rest tr ∧
      ta (startF N vs [some (.ref D)]) H fun ws H1 => H1 a = some (exo a C none) ∧ ws.length ≤ sizeLine ∧ tr { nx := fun _ H' => Q .non H', rt := fun _ _ => False } (startF N vs [some (.ref D)]) H1) :
    FnOk P w K mg base CX (k + 1) f fd ps sp := by
  refine fn_at S len fun A outer s H vs Q E hr hsp s1 I => ?_
  obtain ⟨a, C, ws, ta, tr, rfl, hx, hsub, T, hve, hm, ha, hrest, hq⟩ := hbody A outer s H vs Q E hr hsp
  obtain ⟨pl, hev⟩ := hev s.heap.objs.size
  have := sup_builtin (body := F.body) I S.S (by show PySem.W.envX _ _ _ _ _ F.cl = _; rw [S.cl]) S.ks (S.sc.frk _ (by simp)) S.ka S.N0 (by rfl) hx hsub T hve hm ha hq hev (hst _) (hpl _)
  have key : _root_.PySem.wpAt (model P w) (A.deeper (envF F f s.heap.objs.size)) (.func F.body (envF F f s.heap.objs.size)) (execs (.Expr (supCall p0 p1 ap pos (e :: es)) pos' :: rest) (envF F f s.heap.objs.size)) (fun fl s' => fl = .next ∧ ∃ σ' H', L2.Inv (FX CX P w K mg base N F f A outer s H E) [] σ' H' s' ∧ Q .non H') (FX CX P w K mg base N F f A outer s H E).xe s1 := by
    refine PySem.ks_wpAt_execs_cons (PySem.ks_wpAt_Expr_any ?_ (hin _) (hsw _))
    refine PySem.ks_wpAt_mono this (fun _ s' ⟨H', J, q⟩ => PySem.wpAt_of_wpAny ?_) fun _ _ x => x
    refine wpAny_mono (hrest.run [] s' _ H' _ J q) (fun fl s2 h2 => ?_) fun _ _ x => x
    cases fl with
    | next => obtain ⟨σ', H2, J2, q2⟩ := h2; exact ⟨rfl, σ', H2, J2, q2⟩
    | ret u => obtain ⟨x, σ', H2, J2, r2, q2⟩ := h2; exact q2.elim
    | brk => obtain ⟨σ', H2, J2, q2⟩ := h2; exact q2.elim
    | cont => obtain ⟨σ', H2, J2, q2⟩ := h2; exact q2.elim
  rw [← hbd] at key
  exact key
/-- .. an own one -/
theorem fn_supO {f2 : Addr} {sp2 : Sp} (S : SupFn P K mg F f cc D ar fd N ps) (hbd : F.body = .Expr (supCall p0 p1 ap pos (e :: es)) pos' :: rest) (len : ∀ vs H Q E, sp vs H Q E → vs.length = ps.length)
    (hst : ∀ env, starEach (e :: es) env = (false, eval e env) :: starEach es env) (hpl : ∀ env, (backTo pos (starEach es env)).any (·.1) = false)
    (hev : ∀ L, SupEv p0 p1 ap pos (e :: es) (envF F f L)) (hin : ∀ L, interactive (envF F f L) = false) (hsw : ∀ L, swapsWith (supCall p0 p1 ap pos (e :: es)) none pos'.line (envF F f L) = pure false)
    (tf : PySem.W.typeIn K (.ref f2) = some (.type "function")) (hf2 : PySem.W.fnIn K f2 = true) (F2 : FnR P w K mg base CX0 k f2 sp2)
    (hbody : ∀ (A : Around) (outer : List PySem.Env) (s : Shared) (H : Hp) (vs : List V) (Q : VK) (E : XK), Room k (A.deeper (envF F f s.heap.objs.size)) → sp vs H Q E → ∃ a C ws ta tr, vs = .ref a :: ws ∧ H a = some (exo a C none) ∧ PySem.W.mroIn K C (.ref D) = some true ∧
      PySem.W.ks_superIn K C D "__init__" = some (some (.ref f2)) ∧ PA (FX CX P w K mg base N F f A outer s H E) (e :: es) ta ∧ PSs (FX CX P w K mg base N F f A outer s H E) rest tr ∧
      ta (startF N vs [some (.ref D)]) H fun ws H1 => sp2 (.ref a :: ws) H1 (fun _ H2 => tr { nx := fun _ H' => Q .non H', rt := fun _ _ => False } (startF N vs [some (.ref D)]) H2) (fun _ _ _ => False)) :
    FnOk P w K mg base CX (k + 1) f fd ps sp := by
  refine fn_at S len fun A outer s H vs Q E hr hsp s1 I => ?_
  obtain ⟨a, C, ws, ta, tr, rfl, hx, hsub, hm, ha, hrest, hq⟩ := hbody A outer s H vs Q E hr hsp
  obtain ⟨pl, hev⟩ := hev s.heap.objs.size
  have := sup_own (body := F.body) (E2 := fun _ _ _ => False) I S.S (by show PySem.W.envX _ _ _ _ _ F.cl = _; rw [S.cl]) S.ks (S.sc.frk _ (by simp)) S.ka S.N0 (by rfl) hx hsub hm tf hf2 F2 hr pass0 ha hq hev (hst _) (hpl _)
  have key : _root_.PySem.wpAt (model P w) (A.deeper (envF F f s.heap.objs.size)) (.func F.body (envF F f s.heap.objs.size)) (execs (.Expr (supCall p0 p1 ap pos (e :: es)) pos' :: rest) (envF F f s.heap.objs.size)) (fun fl s' => fl = .next ∧ ∃ σ' H', L2.Inv (FX CX P w K mg base N F f A outer s H E) [] σ' H' s' ∧ Q .non H') (FX CX P w K mg base N F f A outer s H E).xe s1 := by
    refine PySem.ks_wpAt_execs_cons (PySem.ks_wpAt_Expr_any ?_ (hin _) (hsw _))
    refine PySem.ks_wpAt_mono this (fun _ s' ⟨H', J, q⟩ => PySem.wpAt_of_wpAny ?_) fun _ _ x => x
    refine wpAny_mono (hrest.run [] s' _ H' _ J q) (fun fl s2 h2 => ?_) fun _ _ x => x
    cases fl with
    | next => obtain ⟨σ', H2, J2, q2⟩ := h2; exact ⟨rfl, σ', H2, J2, q2⟩
    | ret u => obtain ⟨x, σ', H2, J2, r2, q2⟩ := h2; exact q2.elim
    | brk => obtain ⟨σ', H2, J2, q2⟩ := h2; exact q2.elim
    | cont => obtain ⟨σ', H2, J2, q2⟩ := h2; exact q2.elim
  rw [← hbd] at key
  exact key
end
end Zed
set_option Elab.async false
set_option linter.all false
set_option maxRecDepth 100000
set_option maxHeartbeats 4000000
namespace Zed
open PySem L2 PySem.Spec PyProof.Rows NdefX

section
variable {X : Cx} {e : Expr} {es : List Expr} {ta : TA} {p pos : Pos}
/-- C(..): the error at d (its dict), or without a dict -/
def tMkZ (C : Addr) (sp : Sp) (dvs : List V) (ta : TA) : L2.St → Hp → XK → Prop := fun σ H Q => ta σ H fun vs H1 => vs.length ≤ 1000 ∧ ∀ a, H1 a = none → sp (.ref a :: (vs ++ dvs)) (upd H1 a (exo a C none))
  (fun v H2 => v = .non ∧ ((H2 a = some (exo a C none) ∧ Q (.ref C) none (del H2 a)) ∨ ∃ (d : Addr) (fs : List (Str × V)), H2 a = some (exo a C (some d)) ∧ H2 d = some (exd d fs) ∧ H1 d = none ∧ Q (.ref C) (some d) (upd (del H2 a) d (.xd fs)))) (fun _ _ _ => False)
theorem mk_endN {pins : List (Addr × Obj)} {σ : L2.St} {H1 H2 : Hp} {Q : XK} {hp hp2 h2 : Heap} {g1 g2 : Array GenState} {d1 d2 : Drawn} {t1 t2 : Nat} {os1 os2 : OsState} {a C : Addr} (T : Raises X (.ref C)) (I1 : L2.Inv X pins σ H1 ⟨hp, g1, d1, t1, os1⟩)
    (ha : hp.objs.size ≤ a) (k : ∀ b o, hp.get? b = some o → hp2.get? b = some o) (un : Un (frs X.stack) [] (upd H1 a (exo a C none)) H2 hp2 h2) (hok : HOk X.prog X.w H2 h2) (ho : os2 = os1) (hb : AllBare g2)
    (ea : H2 a = some (exo a C none)) (q : Q (.ref C) none (del H2 a)) : MkP X pins σ Q (.ref a) ⟨h2, g2, d2, t2, os2⟩ := by
  obtain ⟨t0, hoe⟩ := exo_at hok ea
  have hn : H1 a = none := I1.hok.fresh ha
  obtain ⟨G, x1, x2⟩ := restrict h2 fun b => decide (b ≠ a)
  have gk : ∀ b, b ≠ a → G.get? b = h2.get? b := fun b hb => x1 b (decide_eq_true hb)
  have ge : G.get? a = none := x2 a (by simp)
  have lo : ∀ {b : Addr} {o : Obj}, hp.get? b = some o → b ≠ a := fun {b o} z => Nat.ne_of_lt (Nat.lt_of_lt_of_le (Heap.lt_size z) ha)
  have up : ∀ {b : Addr}, b ≠ a → H1 b = none → upd H1 a (exo a C none) b = none := fun {b} hb n => by rw [upd_ne hb]; exact n
  have U : Un (frs X.stack) [] H1 (del H2 a) hp G := {
    keep := fun b o z n hf hx => (gk b (lo z)).trans (un.keep b o (k b o z) (up (lo z) n) hf hx)
    slot := fun b o z n hf hx => by rw [gk b (lo z)]; exact un.slot b o (k b o z) (up (lo z) n) hf hx
    free := fun b o z n hx => by rw [del_ne (lo z)]; exact un.free b o (k b o z) (up (lo z) n) hx
    there := fun b o z hx => by rw [gk b (lo z)]; exact un.there b o (k b o z) hx
    tups := fun b xs z => by rw [del_ne (ne_of_none z hn)]; exact un.tups b xs ((upd_ne (ne_of_none z hn)).trans z)
    frzs := fun b o v z => by rw [del_ne (ne_of_none z hn)]; exact un.frzs b o v ((upd_ne (ne_of_none z hn)).trans z)
    tbls := fun b ps z => by rw [del_ne (ne_of_none z hn)]; exact un.tbls b ps ((upd_ne (ne_of_none z hn)).trans z) }
  have hok3 : HOk X.prog X.w (del H2 a) G := fun b o z => by
    have hba : b ≠ a := fun e => by rw [e, del_same] at z; cases z
    rw [del_ne hba] at z
    have noa : ∀ {c : Addr}, H2 c = some (.own b) → c ≠ a := fun {c} hc => at_ne ea hc exo_own
    refine (hok b o z).stay (fun c v hc y => ?_) (fun c hc => (del_ne (noa hc)).trans hc) (fun c xs hc => (del_ne (at_ne ea hc exo_tup)).trans hc)
    have hca : c ≠ a := by
      rcases hc with hc | hc
      · rw [hc]; exact hba
      · exact noa hc
    exact (gk c hca).trans y
  have J : L2.Inv X pins σ (del H2 a) ⟨G, g2, d2, t2, os2⟩ := I1.call' (ch := []) ho U hok3 hb (fun b z => absurd z (by simp))
  refine ⟨a, _, _, ⟨G, g2, d2, t2, os2⟩, _, .ref C, none, rfl, J, fun b o z => ?_, ge, hoe, ⟨rfl, rfl⟩, rfl, rfl, del_same, rfl, hb, T, q⟩
  by_cases hba : b = a
  · rw [hba, ge] at z; cases z
  · exact (gk b hba).symm.trans z
theorem mk_core {CX : CXT} {C fI : Addr} {k : Nat} {fd : FuncData} {ps : List Str} {sp : Sp} {ds : List Value} {dvs : List V} {us : List Value} {vs : List V} {pins : List (Addr × Obj)} {σ : L2.St} {H1 : Hp} {Q : XK} {s1 : Shared} (T : OexC X.K C) (iC : PySem.W.findIn X.K (.ref C) "__init__" = some (some (.ref fI))) (tI : PySem.W.typeIn X.K (.ref fI) = some (.type "function"))
    (F1 : FnOk X.prog X.w X.K X.mg X.base CX k fI fd ps sp) (hr : Room (k + 1) X.A) (hb : Binds X.K fd ps ds) (hd : Vals dvs ds) (hx : Passes CX X (fun _ _ _ => False)) (I1 : L2.Inv X pins σ H1 s1) (r1 : Vals vs us) (hz : vs.length ≤ 1000)
    (q1 : ∀ a, H1 a = none → sp (.ref a :: (vs ++ dvs)) (upd H1 a (exo a C none)) (fun v H2 => v = .non ∧ ((H2 a = some (exo a C none) ∧ Q (.ref C) none (del H2 a)) ∨ ∃ (d : Addr) (fs : List (Str × V)), H2 a = some (exo a C (some d)) ∧ H2 d = some (exd d fs) ∧ H1 d = none ∧ Q (.ref C) (some d) (upd (del H2 a) d (.xd fs)))) (fun _ _ _ => False)) :
    wpAny (model X.prog X.w) X.A (call (.ref C) us) (MkP X pins σ Q) X.xe s1 := by
  obtain ⟨nm, q, N, bs, bm, sn, sub, ab, col, dd, k0, k1, k2, k3, k5, hC, hbm⟩ := T.cls
  obtain ⟨hp, g, dr, tk, os⟩ := s1
  have hsz : hp.objs.size ≤ hp.objs.size + 1 := Nat.le_succ _
  have hn : H1 (hp.objs.size + 1) = none := I1.hok.fresh hsz
  have hq := q1 (hp.objs.size + 1) hn
  have kk : ∀ b o, hp.get? b = some o → ((hp.push (PySem.W.kdv_tup us)).push (PySem.HandSPX.excO C hp.objs.size)).get? b = some o := fun b o e => Heap.get?_push_of_some _ (Heap.get?_push_of_some _ e)
  have hget : ((hp.push (PySem.W.kdv_tup us)).push (PySem.HandSPX.excO C hp.objs.size)).get? (hp.objs.size + 1) = some (PySem.HandSPX.excO C hp.objs.size) := by heap_get
  have I2 : L2.Inv X pins σ (upd H1 (hp.objs.size + 1) (exo (hp.objs.size + 1) C none)) ⟨(hp.push (PySem.W.kdv_tup us)).push (PySem.HandSPX.excO C hp.objs.size), g, dr, tk, os⟩ := I1.laid (t' := tk) kk hsz (exo_ok hget)
  have r2 : Vals (V.ref (hp.objs.size + 1) :: (vs ++ dvs)) (Value.ref (hp.objs.size + 1) :: (us ++ ds)) := .cons rfl (r1.append hd)
  have hl : (Value.ref (hp.objs.size + 1) :: us ++ ds).length = ps.length := r2.length.symm.trans (F1.len _ _ _ _ hq)
  have hus : us.length ≤ sizeLine := by rw [← Paired.length r1, sizeLine_eq]; omega
  refine wpAny_call (PySem.HandSPX.call_own F.excBase_ValueError (fun Y => PySem.HandSPX.refsVE_contains Y bm hbm) (I1.kIn _ _ hC) (PySem.W.looks_findIn I1.kIn iC) (fun self => PySem.W.bind_fn I1.kIn self tI) hus
    (codeAny_mono (F1.run _ X.stack _ _ ⟨Value.ref (hp.objs.size + 1) :: us, []⟩ (Value.ref (hp.objs.size + 1) :: (us ++ ds)) _ _ (fun _ _ _ => False) (hr.make C us []) (I2.env0.make C us []) (hb _ (Value.ref (hp.objs.size + 1) :: us) I2.kIn hl) r2 hq) fun r s' hq' => ?_))
  cases r with
  | error er => exact hx pins σ _ _ er s' I2 hq'
  | ok fl =>
    cases fl with
    | ret u =>
      obtain ⟨v, H2, os2, bare2, un2, hok2, rv, ev, w⟩ := hq'
      subst ev
      obtain ⟨h2, g2, d2, t2, os'⟩ := s'
      refine ⟨rv, ?_⟩
      rcases w with ⟨ea, q2⟩ | ⟨d, fs, ea, ed, hd1, q2⟩
      · exact mk_endN (raises_own T.exC T.tyC) I1 hsz kk un2 hok2 os2 bare2 ea q2
      · exact mk_end (raises_own T.exC T.tyC) I1 hsz kk un2 hok2 os2 bare2 ea ed hd1 q2
    | next => exact False.elim hq'
    | brk => exact False.elim hq'
    | cont => exact False.elim hq'
theorem pmk_z {CX : CXT} {x : Str} {C fI : Addr} {k : Nat} {fd : FuncData} {ps : List Str} {sp : Sp} {ds : List Value} {dvs : List V} (T : OexC X.K C) (iC : PySem.W.findIn X.K (.ref C) "__init__" = some (some (.ref fI))) (tI : PySem.W.typeIn X.K (.ref fI) = some (.type "function"))
    (F1 : FnOk X.prog X.w X.K X.mg X.base CX k fI fd ps sp) (hr : Room (k + 1) X.A) (hb : Binds X.K fd ps ds) (hd : Vals dvs ds) (hx : Passes CX X (fun _ _ _ => False)) (hg : Gl X x) (hm : X.mg x = some (.ref C)) (ha : PA X (e :: es) ta)
    (hdb : (x == ("__debug__" : Str)) = false := by decide) (he : starEach (e :: es) X.env = (false, eval e X.env) :: starEach es X.env := by rfl) (hpl : (backTo pos (starEach es X.env)).any (·.1) = false := by rfl) :
    PMk X (.Call (.Name x p) (e :: es) [] pos) (tMkZ C sp dvs ta) := fun pins s σ H Q I h => by
  refine wpAny_Call_Name_kw (ld_glob I hg hm ?_ hdb)
  refine PySem.W.callWith_K (h₀ := X.base) I.ok.mod.kin T.kC (thn (ha.run pos pins s σ H _ I h) fun us s1 ⟨vs, H1, I1, r1, hz, q1⟩ => ⟨I1.kIn, ?_⟩) he hpl
  exact mk_core T iC tI F1 hr hb hd hx I1 r1 hz q1
theorem pmk_z0 {CX : CXT} {x : Str} {C fI : Addr} {k : Nat} {fd : FuncData} {ps : List Str} {sp : Sp} {ds : List Value} {dvs : List V} (T : OexC X.K C) (iC : PySem.W.findIn X.K (.ref C) "__init__" = some (some (.ref fI))) (tI : PySem.W.typeIn X.K (.ref fI) = some (.type "function"))
    (F1 : FnOk X.prog X.w X.K X.mg X.base CX k fI fd ps sp) (hr : Room (k + 1) X.A) (hb : Binds X.K fd ps ds) (hd : Vals dvs ds) (hx : Passes CX X (fun _ _ _ => False)) (hg : Gl X x) (hm : X.mg x = some (.ref C))
    (hdb : (x == ("__debug__" : Str)) = false := by decide) : PMk X (.Call (.Name x p) [] [] pos) (tMkZ C sp dvs tNil) := fun pins s σ H Q I h => by
  refine wpAny_Call_Name_kw (ld_glob I hg hm ?_ hdb)
  obtain ⟨hz, q1⟩ := (show _ ∧ _ from h)
  exact PySem.W.callWith_K0 I.kIn T.kC (mk_core T iC tI F1 hr hb hd hx I .nil hz q1)
end
end Zed
set_option Elab.async false
set_option linter.all false
set_option maxRecDepth 100000
set_option maxHeartbeats 4000000
namespace Zed
open PySem L2 PySem.Spec PyProof.Rows NdefX

theorem SDA.u {X : Cx} {W : WX} {es : List Expr} {g : Dargs} (h : SDA X W es g) : PA X es (uE okDs (ct X) W g) := let ⟨te, p, q⟩ := h; ⟨fun ps pins s σ H Q I hu => p.run ps pins s σ H Q I (hu te q)⟩
abbrev ErrD := List D → Option (List Str × List D)
/-- at a: the error of the class at C, its fields ns, with fs -/
def ErrAt (c : Ct) (a C : Addr) (H0 : Hp) (ns : List Str) (fs : List D) (G H : Hp) : Prop :=
  (ns = [] ∧ fs = [] ∧ H a = some (exo a C none)) ∨ ∃ dx l, H0 dx = none ∧ dx ≠ a ∧ G dx = none ∧ H a = some (exo a C (some dx)) ∧ H dx = some (exd dx l) ∧ l.map (·.1) = ns ∧ Reps c G (l.map (·.2)) fs
/-- from the entry of an __init__ to its end -/
structure ErrGo (c : Ct) (a C : Addr) (G H : Hp) (ns : List Str) (fs : List D) (G' H' : Hp) : Prop where
  g : Ex G G'
  ex : Ex G' H'
  kp : ∀ b o, b ≠ a → H b = some o → G b = none → H' b = some o ∧ G' b = none
  al : ∀ b, H' b = none → H b = none
  na : G' a = none
  at_ : ErrAt c a C H ns fs G' H'
def SpE (c : Ct) (n : Nat) (cl : Addr → Prop) (fi : ErrD) : Sp := fun vs H Q _ => vs.length = n + 1 ∧ ∃ a C G ws ds ns fs, vs = .ref a :: ws ∧ Ex G H ∧ G a = none ∧ H a = some (exo a C none) ∧ cl C ∧ Reps c G ws ds ∧ fi ds = some (ns, fs) ∧ ∀ G' H', ErrGo c a C G H ns fs G' H' → Q .non H'
/-- self.f = x, .. -/
def storesD (ds : List D) : List (Str × Nat) → List Str → List D → Option (List Str × List D)
  | [], ns, fs => some (ns, fs)
  | (f, i) :: r, ns, fs => match ds[i]? with
    | some d => storesD ds r (f :: ns) (d :: fs)
    | none => none
def tStores (K : PySem.W.Frag) : List (Str × Nat) → TS
  | [] => tNext
  | (f, i) :: r => tSeq (tOst K f (tVar 0) (tVar (i + 1))) (tStores K r)
section
variable {X : Cx} {pos p p1 p2 p3 : Pos} {rest : List Stmt} {fl : List (Str × Nat)}
theorem fs_nil : PSs X [] (tStores X.K []) := pss_nil
theorem fs_cons {self f x : Str} (i : Nat) (h : PSs X rest (tStores X.K fl)) (h0 : X.N[0]? = some self := by rfl) (hi : X.N[i + 1]? = some x := by rfl) (v0 : Vis X.env.scope self := by first | exact Or.inl rfl | exact Or.inr (Or.inl rfl)) (vi : Vis X.env.scope x := by first | exact Or.inl rfl | exact Or.inr (Or.inl rfl))
    (d0 : (self == ("__debug__" : Str)) = false := by decide) (c0 : (self == ("__classdict__" : Str)) = false := by decide) (d1 : (x == ("__debug__" : Str)) = false := by decide) (c1 : (x == ("__classdict__" : Str)) = false := by decide)
    (hs : swapsWith (.Name x p3) (some (.Attribute (.Name self p1) f p2)) pos.line X.env = pure false := by rfl) : PSs X (.Assign [.Attribute (.Name self p1) f p2] (.Name x p3) pos :: rest) (tStores X.K ((f, i) :: fl)) :=
  pss_cons (ps_ost (pe_var h0 v0 d0 c0) (pe_var hi vi d1 c1) hs) h
end
theorem stores_ok {c : Ct} {a C : Addr} {σ : L2.St} {ws : List V} {ds : List D} {G0 H0 G : Hp} {Q : Hp → Prop} (T : OexC c.K C) (h0 : σ[0]? = some (some (.ref a))) (hw : ∀ (i : Nat) (v : V), ws[i]? = some v → σ[i + 1]? = some (some v)) (rs : Reps c G ws ds) :
    ∀ {fl : List (Str × Nat)} {ns : List Str} {fs : List D} {H : Hp} {r : List Str × List D}, (∀ p ∈ fl, PySem.W.findIn c.K (.ref C) p.1 = some none) → storesD ds fl ns fs = some r → fl.length + ns.length ≤ 900 → ErrGo c a C G0 H0 ns fs G H →
      (∀ H', ErrGo c a C G0 H0 r.1 r.2 G H' → Q H') → ∀ R : VK, tStores c.K fl { nx := fun _ H' => Q H', rt := R } σ H
  | [], ns, fs, H, r, _, e, _, g, k, R => by
    cases e
    exact k H g
  | (f, i) :: fl, ns, fs, H, r, hf, e, hl, g, k, R => by
    unfold storesD at e
    cases q : ds[i]? with
    | none => rw [q] at e; cases e
    | some d =>
      rw [q] at e
      obtain ⟨v, hv, rv⟩ := rs.get q
      refine ⟨v, hw i v hv, .ref a, h0, a, C, rfl, T, hf _ List.mem_cons_self, ?_⟩
      have hl' : fl.length + (f :: ns).length ≤ 900 := by simp only [List.length_cons] at hl ⊢; omega
      rcases g.at_ with ⟨rfl, rfl, ha⟩ | ⟨dx, l, q1, q2, q3, ha, hd, q4, q5⟩
      · refine .inl ⟨ha, fun dx hn ne => stores_ok T h0 hw rs (fun p hp => hf p (List.mem_cons_of_mem _ hp)) e hl' ?_ k R⟩
        have gd : G dx = none := g.ex.none hn
        refine ⟨g.g, fun b o z => ?_, fun b o nb hb gb => ?_, fun b hb => ?_, g.na, .inr ⟨dx, [(f, v)], g.al _ hn, ne, gd, upd_same, by rw [upd_ne ne]; exact upd_same, rfl, .cons rv .nil⟩⟩
        · rw [upd_ne (ne_of_none z g.na), upd_ne (ne_of_none z gd)]
          exact g.ex b o z
        · obtain ⟨z1, z2⟩ := g.kp b o nb hb gb
          rw [upd_ne nb, upd_ne (ne_of_none z1 hn)]
          exact ⟨z1, z2⟩
        · by_cases h1 : b = a
          · rw [h1, upd_same] at hb; cases hb
          · rw [upd_ne h1] at hb
            by_cases h2 : b = dx
            · rw [h2, upd_same] at hb; cases hb
            · rw [upd_ne h2] at hb
              exact g.al b hb
      · refine .inr ⟨dx, l, ha, hd, ?_, stores_ok T h0 hw rs (fun p hp => hf p (List.mem_cons_of_mem _ hp)) e hl' ?_ k R⟩
        · have : l.length = ns.length := by rw [← q4, List.length_map]
          simp only [List.length_cons] at hl
          omega
        · refine ⟨g.g, fun b o z => ?_, fun b o nb hb gb => ?_, fun b hb => ?_, g.na, .inr ⟨dx, (f, v) :: l, q1, q2, q3, by rw [upd_ne (Ne.symm q2)]; exact ha, upd_same, by simp [q4], .cons rv q5⟩⟩
          · rw [upd_ne (ne_of_none z q3)]
            exact g.ex b o z
          · obtain ⟨z1, z2⟩ := g.kp b o nb hb gb
            rw [upd_ne (ne_of_none hb q1)]
            exact ⟨z1, z2⟩
          · by_cases h2 : b = dx
            · rw [h2, upd_same] at hb; cases hb
            · rw [upd_ne h2] at hb
              exact g.al b hb
/-- the names' values at the entry, as data -/
def errEnv (nl : Nat) (ds : List D) : Env := none :: (ds.map fun d => some (.frz d)) ++ (none :: List.replicate (nl - (ds.length + 1) - 1) none)
theorem errEnv_get {nl : Nat} {ds : List D} {i : Nat} {lv : LV} (h : (errEnv nl ds)[i]? = some (some lv)) : ∃ j d, i = j + 1 ∧ ds[j]? = some d ∧ lv = .frz d := by
  unfold errEnv at h
  rw [List.cons_append] at h
  cases i with
  | zero => simp at h
  | succ j =>
    rw [List.getElem?_cons_succ] at h
    by_cases hj : j < ds.length
    · rw [List.getElem?_append_left (by simpa using hj), List.getElem?_map] at h
      cases q : ds[j]? with
      | none => rw [q] at h; cases h
      | some d => rw [q] at h; exact ⟨j, d, rfl, q, (Option.some.inj (Option.some.inj h)).symm⟩
    · rw [List.getElem?_append_right (by simpa using hj)] at h
      cases q : j - (ds.map fun d => some (LV.frz d)).length with
      | zero => rw [q] at h; simp at h
      | succ m =>
        rw [q, List.getElem?_cons_succ, List.getElem?_replicate] at h
        split at h <;> cases h
theorem start_rel {c : Ct} {N : List Str} {a D0 : Addr} {ws : List V} {ds : List D} {G H : Hp} (ex : Ex G H) (rs : Reps c G ws ds) (hN : ws.length + 2 ≤ N.length) : Rel c (errEnv N.length ds) (startF N (.ref a :: ws) [some (.ref D0)]) G H := by
  have hl := rs.length
  refine ⟨ex, ?_, fun i lv h => ?_, fun i j oi oj b h1 => ?_⟩
  · unfold startF errEnv
    simp only [List.length_append, List.length_map, List.length_cons, List.length_replicate, List.length_nil]
    omega
  · obtain ⟨j, d, rfl, q, rfl⟩ := errEnv_get h
    obtain ⟨v, hv, rv⟩ := rs.get q
    refine ⟨v, ?_, rv⟩
    unfold startF
    have hj : j < ws.length := (List.getElem?_eq_some_iff.mp hv).1
    rw [List.getElem?_append_left (by simp; omega), List.getElem?_map, List.getElem?_cons_succ, hv]; rfl
  · obtain ⟨j, d, _, _, z⟩ := errEnv_get h1
    cases z
section
variable {P : Program} {w : World} {K : PySem.W.Frag} {mg : Str → Option Value} {base : Heap} {N ps : List Str} {F : NF} {f cc D0 : Addr} {ar : Arg} {fd : FuncData} {k n : Nat} {p0 p1 ap pos pos' : Pos} {e : Expr} {es : List Expr} {rest : List Stmt} {g : Dargs} {fl : List (Str × Nat)} {cl : Addr → Prop}
theorem no_own {nl : Nat} {ds : List D} {σ : L2.St} {a : Addr} : ¬ OA (errEnv nl ds) σ a := fun ⟨i, o, h1, _⟩ => by
  obtain ⟨j, d, _, _, z⟩ := errEnv_get h1
  cases z
theorem start_self {N : List Str} {a D0 : Addr} {ws : List V} : (startF N (.ref a :: ws) [some (.ref D0)])[0]? = some (some (.ref a)) := rfl
theorem start_arg {N : List Str} {a D0 : Addr} {ws : List V} (i : Nat) (v : V) (h : ws[i]? = some v) : (startF N (.ref a :: ws) [some (.ref D0)])[i + 1]? = some (some v) := by
  unfold startF
  have hj : i < ws.length := (List.getElem?_eq_some_iff.mp h).1
  rw [List.getElem?_append_left (by simp; omega), List.getElem?_map, List.getElem?_cons_succ, h]; rfl
/-- what the __init__ does, the next one being that of ValueError -/
def errV (n nl : Nat) (g : Dargs) (fl : List (Str × Nat)) : ErrD := fun ds => if ds.length = n then (match g (errEnv nl ds) with
  | some (.val rs _) => if rs.length ≤ 1000 ∧ fl.length ≤ 900 then storesD ds fl [] [] else none
  | _ => none) else none
/-- .. an own one, of fi -/
def errO (n nl : Nat) (g : Dargs) (dd : List D) (fi : ErrD) : ErrD := fun ds => if ds.length = n then (match g (errEnv nl ds) with
  | some (.val rs _) => fi (rs ++ dd)
  | _ => none) else none
theorem errV_len {n nl : Nat} {g : Dargs} {fl : List (Str × Nat)} (ds : List D) (r : List Str × List D) (h : errV n nl g fl ds = some r) : ds.length = n := by
  unfold errV at h
  split at h
  · assumption
  · cases h
theorem errO_len {n nl : Nat} {g : Dargs} {dd : List D} {fi : ErrD} (ds : List D) (r : List Str × List D) (h : errO n nl g dd fi ds = some r) : ds.length = n := by
  unfold errO at h
  split at h
  · assumption
  · cases h
/-- the class at C, an heir of the one at D0, whose next __init__ is par, without fields fl -/
structure HeirK (K : PySem.W.Frag) (D0 : Addr) (par : Value) (fl : List (Str × Nat)) (C : Addr) : Prop where
  T : OexC K C
  sub : PySem.W.mroIn K C (.ref D0) = some true
  ve : PySem.W.subIn K (.ref C) (.type "ValueError") = some true
  su : PySem.W.ks_superIn K C D0 "__init__" = some (some par)
  no : ∀ p ∈ fl, PySem.W.findIn K (.ref C) p.1 = some none
theorem initV (S : SupFn P K mg F f cc D0 ar fd N ps) (hbd : F.body = .Expr (supCall p0 p1 ap pos (e :: es)) pos' :: rest) (hst : ∀ env, starEach (e :: es) env = (false, eval e env) :: starEach es env) (hpl : ∀ env, (backTo pos (starEach es env)).any (·.1) = false)
    (hev : ∀ L, SupEv p0 p1 ap pos (e :: es) (envF F f L)) (hin : ∀ L, interactive (envF F f L) = false) (hsw : ∀ L, swapsWith (supCall p0 p1 ap pos (e :: es)) none pos'.line (envF F f L) = pure false)
    (hcl : ∀ C, cl C → HeirK K D0 (.builtin "ValueError.__init__") fl C)
    (hargs : ∀ (A : Around) (outer : List PySem.Env) (s : Shared) (H : Hp) (E : XK), Room k (A.deeper (envF F f s.heap.objs.size)) → SDA (FX CX0 P w K mg base N F f A outer s H E) W0 (e :: es) g ∧ PSs (FX CX0 P w K mg base N F f A outer s H E) rest (tStores K fl)) (hps : ps.length = n + 1) :
    FnOk P w K mg base CX0 (k + 1) f fd ps (SpE (c0 K mg) n cl (errV n N.length g fl)) := by
  refine fn_supV S hbd (fun vs H Q E h => h.1.trans hps.symm) hst hpl hev hin hsw fun A outer s H vs Q E hr hsp => ?_
  obtain ⟨hl, a, C, G, ws, ds, ns, fs, rfl, ex, ga, ha, hc, rs, hfi, hq⟩ := hsp
  have T := hcl C hc
  obtain ⟨h1, h2⟩ := hargs A outer s H E hr
  have hN : ws.length + 2 ≤ N.length := by
    have q := congrArg List.length S.sc.pre
    rw [List.length_take, List.length_append] at q
    simp only [List.length_cons, List.length_nil] at q hl
    omega
  refine ⟨a, C, ws, _, _, rfl, ha, T.sub, T.T, T.ve, T.su, h1.u, h2, fun te hte => ?_⟩
  have rl : Rel (c0 K mg) (errEnv N.length ds) (startF N (.ref a :: ws) [some (.ref D0)]) G H := start_rel ex rs hN
  unfold errV at hfi
  rw [if_pos (by rw [← rs.length]; simpa using hl)] at hfi
  cases q : g (errEnv N.length ds) with
  | none => rw [q] at hfi; cases hfi
  | some out =>
    rw [q] at hfi
    cases out with
    | exc x e1 => cases hfi
    | val rs1 e1 =>
      have hfi : (if rs1.length ≤ 1000 ∧ fl.length ≤ 900 then storesD ds fl [] [] else none) = some (ns, fs) := hfi
      split at hfi
      · rename_i hlim
        refine Ev.got hte rl q fun us G2 H2 st ok => ?_
        have ok : Reps (c0 K mg) G2 us rs1 := ok
        obtain ⟨ka, kg⟩ := st.keep a _ ha ga no_own
        refine ⟨ka, by rw [ok.length]; exact Nat.le_trans hlim.1 (by decide), ?_⟩
        refine stores_ok (G0 := G) (H0 := H) T.T start_self start_arg (rs.mono st.g) T.no hfi (by simp; omega) ⟨st.g, st.rel.ex, fun b o nb hb gb => st.keep b o hb gb no_own, st.al, kg, .inl ⟨rfl, rfl, ka⟩⟩ (fun H' gg => hq G2 H' gg) _
      · cases hfi
theorem initO {f2 : Addr} {fd2 : FuncData} {ps2 : List Str} {n2 : Nat} {cl2 : Addr → Prop} {fi : ErrD} {dvs : List Value} {dw : List V} {dd : List D} (S : SupFn P K mg F f cc D0 ar fd N ps) (hbd : F.body = [.Expr (supCall p0 p1 ap pos (e :: es)) pos']) (hst : ∀ env, starEach (e :: es) env = (false, eval e env) :: starEach es env) (hpl : ∀ env, (backTo pos (starEach es env)).any (·.1) = false)
    (hev : ∀ L, SupEv p0 p1 ap pos (e :: es) (envF F f L)) (hin : ∀ L, interactive (envF F f L) = false) (hsw : ∀ L, swapsWith (supCall p0 p1 ap pos (e :: es)) none pos'.line (envF F f L) = pure false)
    (tf : PySem.W.typeIn K (.ref f2) = some (.type "function")) (hf2 : PySem.W.fnIn K f2 = true) (F2 : FnOk P w K mg base CX0 k f2 fd2 ps2 (SpE (c0 K mg) n2 cl2 fi)) (hb : Binds K fd2 ps2 dvs) (hd : Vals dw dvs) (rd : ∀ G, Reps (c0 K mg) G dw dd)
    (hcl : ∀ C, cl C → HeirK K D0 (.ref f2) [] C ∧ cl2 C) (hnp : ∀ ds r, fi ds = some r → ds.length = n2)
    (hargs : ∀ (A : Around) (outer : List PySem.Env) (s : Shared) (H : Hp) (E : XK), Room k (A.deeper (envF F f s.heap.objs.size)) → SDA (FX CX0 P w K mg base N F f A outer s H E) W0 (e :: es) g) (hps : ps.length = n + 1) :
    FnOk P w K mg base CX0 (k + 1) f fd ps (SpE (c0 K mg) n cl (errO n N.length g dd fi)) := by
  refine fn_supO S hbd (fun vs H Q E h => h.1.trans hps.symm) hst hpl hev hin hsw tf hf2 (F2.raw hb hd) fun A outer s H vs Q E hr hsp => ?_
  obtain ⟨hl, a, C, G, ws, ds, ns, fs, rfl, ex, ga, ha, hc, rs, hfi, hq⟩ := hsp
  obtain ⟨T, hc2⟩ := hcl C hc
  have h1 := hargs A outer s H E hr
  have hN : ws.length + 2 ≤ N.length := by
    have q := congrArg List.length S.sc.pre
    rw [List.length_take, List.length_append] at q
    simp only [List.length_cons, List.length_nil] at q hl
    omega
  refine ⟨a, C, ws, _, _, rfl, ha, T.sub, T.su, h1.u, pss_nil, fun te hte => ?_⟩
  have rl : Rel (c0 K mg) (errEnv N.length ds) (startF N (.ref a :: ws) [some (.ref D0)]) G H := start_rel ex rs hN
  unfold errO at hfi
  rw [if_pos (by rw [← rs.length]; simpa using hl)] at hfi
  cases q : g (errEnv N.length ds) with
  | none => rw [q] at hfi; cases hfi
  | some out =>
    rw [q] at hfi
    cases out with
    | exc x e1 => cases hfi
    | val rs1 e1 =>
      refine Ev.got hte rl q fun us G2 H2 st ok => ?_
      have ok : Reps (c0 K mg) G2 us rs1 := ok
      obtain ⟨ka, kg⟩ := st.keep a _ ha ga no_own
      have ok2 := ok.append (rd G2)
      refine ⟨?_, a, C, G2, us ++ dw, rs1 ++ dd, ns, fs, rfl, st.rel.ex, kg, ka, hc2, ok2, hfi, fun G' H' gg => ?_⟩
      · have := hnp _ _ hfi
        rw [← ok2.length] at this
        simp only [List.length_cons, List.cons_append] at this ⊢
        omega
      · refine hq G' H' ⟨st.g.trans gg.g, gg.ex, fun b o nb hb gb => ?_, fun b hb => st.al b (gg.al b hb), gg.na, ?_⟩
        · obtain ⟨z1, z2⟩ := st.keep b o hb gb no_own
          exact gg.kp b o nb z1 z2
        · rcases gg.at_ with z | ⟨dx, l, q1, q2⟩
          · exact .inl z
          · exact .inr ⟨dx, l, st.al _ q1, q2⟩
end
end Zed
set_option Elab.async false
set_option linter.all false
set_option maxRecDepth 100000
set_option maxHeartbeats 4000000
namespace Zed
open PySem L2 PySem.Spec PyProof.Rows NdefX
structure ErrS (P : Program) (w : World) (K : PySem.W.Frag) (mg : Str → Option Value) (base : Heap) (k : Nat) (cn : Str) (fi : ErrD) (dd : List D) : Prop where
  ex : ∃ (C fI : Addr) (fd : FuncData) (ps : List Str) (ds : List Value) (dvs : List V) (n : Nat) (cl : Addr → Prop), mg cn = some (.ref C) ∧ OexC K C ∧ PySem.W.findIn K (.ref C) "__init__" = some (some (.ref fI)) ∧ PySem.W.typeIn K (.ref fI) = some (.type "function") ∧
    FnOk P w K mg base CX0 k fI fd ps (SpE (c0 K mg) n cl fi) ∧ L2.Binds K fd ps ds ∧ Vals dvs ds ∧ (∀ G, Reps (c0 K mg) G dvs dd) ∧ cl C ∧ ∀ ds r, fi ds = some r → ds.length = n
def raiseS (cn : Str) (fi : ErrD) (dd : List D) (g : Dargs) : Stm := fun env => Rs.s (g env) fun ds e1 => if ds.length ≤ 1000 then (match fi (ds ++ dd) with
  | some (ns, fs) => some (.exc ⟨cn, ns, fs⟩ e1)
  | none => none) else none
section
variable {c : Ct} {σ : L2.St} {G1 H1 G' H' : Hp} {a C : Addr} {ns : List Str} {fs : List D}
theorem err_grow (ex : Ex G1 H1) (hn : H1 a = none) (g : ErrGo c a C G1 (upd H1 a (exo a C none)) ns fs G' H') {HX : Hp} (h1 : ∀ b o, H1 b = some o → H' b = some o → HX b = some o) (h2 : Ex G' HX) : Grow G1 H1 G' HX := by
  refine ⟨g.g, fun b o z => ?_, fun b o z => ?_, h2⟩
  · refine h1 b o z ?_
    have nb : b ≠ a := ne_of_none z hn
    cases q : G1 b with
    | none => exact (g.kp b o nb ((upd_ne nb).trans z) q).1
    | some o' =>
      have := ex b o' q
      rw [z] at this; cases this
      exact g.ex b o (g.g b o q)
  · cases q : G1 b with
    | some o' => exact .inl ((g.g b o' q).symm.trans z ▸ rfl)
    | none =>
      refine .inr ?_
      cases y : H1 b with
      | none => rfl
      | some o' =>
        have nb : b ≠ a := ne_of_none y hn
        rw [(g.kp b o' nb ((upd_ne nb).trans y) q).2] at z; cases z
end
section
variable {X : Cx} {W : WX} {F : Nat → Bool} {e : Expr} {es : List Expr} {g : Dargs} {cn : Str} {fi : ErrD} {dd : List D} {k : Nat} {p pos rpos : Pos}
theorem raise_ok {ta : TA} {C : Addr} {n : Nat} {cl : Addr → Prop} {dvs : List V} (q1 : Ev okDs (ct X) W ta g) (hm : X.mg cn = some (.ref C)) (rd : ∀ G, Reps (ct X) G dvs dd) (hc : cl C) (hnp : ∀ ds r, fi ds = some r → ds.length = n) :
    EvS F (ct X) W (fun _ σ H => tMkZ C (SpE (ct X) n cl fi) dvs ta σ H fun cls d H' => W cls d σ H') (raiseS cn fi dd g) := fun env σ G H r D' p => by
  refine q1.uses (SStep.refl r) p fun ds e1 vs G1 H1 s s1 ok p => ?_
  have ok : Reps (ct X) G1 vs ds := ok
  split at p
  · rename_i hlen
    refine ⟨by rw [ok.length]; exact hlen, fun a hn => ?_⟩
    split at p
    · rename_i ns fs hfi
      have ok2 := ok.append (rd G1)
      have ex := s.rel.ex
      have ga : G1 a = none := ex.none hn
      refine ⟨by have := hnp _ _ hfi; rw [← ok2.length] at this; simp only [List.length_cons] at this ⊢; omega, a, C, G1, vs ++ dvs, ds ++ dd, ns, fs, rfl, fun b o z => by rw [upd_ne (ne_of_none z ga)]; exact ex b o z, ga, upd_same, hc, ok2, hfi, fun G' H' gg => ⟨rfl, ?_⟩⟩
      rcases gg.at_ with ⟨e1', e2, ha⟩ | ⟨dx, l, hd, ne, gd, ha, hx, hl, rl⟩
      · refine .inl ⟨ha, ?_⟩
        have gw : Grow G1 H1 G' (del H' a) := err_grow ex hn gg (fun b o y z => (del_ne (ne_of_none y hn)).trans z) fun b o z => (del_ne (ne_of_none z gg.na)).trans (gg.ex b o z)
        exact p (.ref C) none σ G' (del H' a) (s.trans ((gw.step s.rel).s s.rel)) ⟨C, rfl, hm, .inl ⟨rfl, e1', e2⟩⟩ fun a e => by cases e
      · have hd1 : H1 dx = none := by rw [upd_ne ne] at hd; exact hd
        refine .inr ⟨dx, l, ha, hx, hd1, ?_⟩
        have gw : Grow G1 H1 G' (upd (del H' a) dx (.xd l)) := err_grow ex hn gg (fun b o y z => by rw [upd_ne (ne_of_none y hd1), del_ne (ne_of_none y hn)]; exact z) fun b o z => by
          rw [upd_ne (ne_of_none z gd), del_ne (ne_of_none z gg.na)]; exact gg.ex b o z
        exact p (.ref C) (some dx) σ G' _ (s.trans ((gw.step s.rel).s s.rel)) ⟨C, rfl, hm, .inr ⟨dx, l, rfl, upd_same, gd, hl, rl⟩⟩ fun a e => by cases e; exact s1.al _ hd1
    · exact p.elim
  · exact p.elim
theorem S1.raise (E : ErrS X.prog X.w X.K X.mg X.base k cn fi dd) (hr : Room (k + 1) X.A) (hc : X.calm = true) (tk : Takes X W) (hg : SDA X W (e :: es) g) (hG : Gl X cn := by rfl) (hdb : (cn == ("__debug__" : Str)) = false := by decide)
    (he : starEach (e :: es) X.env = (false, eval e X.env) :: starEach es X.env := by rfl) (hpl : (backTo pos (starEach es X.env)).any (·.1) = false := by rfl) : S1 X W F (.Raise (some (.Call (.Name cn p) (e :: es) [] pos)) none rpos) (raiseS cn fi dd g) := by
  obtain ⟨C, fI, fd, ps, ds, dvs, n, cl, h1, h2, h3, h4, h5, h6, h7, h8, h9, h10⟩ := E.ex
  rw [← ct0 hc] at h5
  have h8 : ∀ G, Reps (ct X) G dvs dd := by rw [ct0 hc]; exact h8
  obtain ⟨ta, p1, q1⟩ := hg
  exact ⟨_, ps_raise hc tk (pmk_z h2 h3 h4 h5 hr h6 h7 pass0 hG h1 p1 hdb he hpl), raise_ok q1 h1 h8 h9 h10⟩
theorem S1.raise0 (E : ErrS X.prog X.w X.K X.mg X.base k cn fi dd) (hr : Room (k + 1) X.A) (hc : X.calm = true) (tk : Takes X W) (hG : Gl X cn := by rfl) (hdb : (cn == ("__debug__" : Str)) = false := by decide) :
    S1 X W F (.Raise (some (.Call (.Name cn p) [] [] pos)) none rpos) (raiseS cn fi dd dNil) := by
  obtain ⟨C, fI, fd, ps, ds, dvs, n, cl, h1, h2, h3, h4, h5, h6, h7, h8, h9, h10⟩ := E.ex
  rw [← ct0 hc] at h5
  have h8 : ∀ G, Reps (ct X) G dvs dd := by rw [ct0 hc]; exact h8
  obtain ⟨ta, p1, q1⟩ := SDA.nil (X := X) (W := W)
  exact ⟨_, ps_raise hc tk (pmk_z0 h2 h3 h4 h5 hr h6 h7 pass0 hG h1 hdb), raise_ok (g := dNil) (fun env σ G H r Q p => p [] G H (Step.refl r) .nil) h1 h8 h9 h10⟩
/-- a statement that is never reached -/
def never : Stm := fun _ => none
theorem S1.never {st : Stmt} : S1 X W F st never := ⟨fun _ _ _ => False, ⟨fun _ _ _ _ _ _ h => h.elim⟩, fun env σ G H r D p => p⟩
theorem SE.never {e : Expr} : SE X W e (fun _ => none) := ⟨fun _ _ _ => False, ⟨fun _ _ _ _ _ _ h => h.elim⟩, fun env σ G H r D p => p⟩
end
end Zed
set_option Elab.async false
set_option linter.all false
set_option maxRecDepth 100000
set_option maxHeartbeats 4000000
namespace Zed
open PySem L2 PySem.Spec PyProof.Rows

/-- a clause: its class, the slot of its name, what its suite reads -/
abbrev Clause := Value × Option Nat × (Addr → Value → Option Addr → TS)
def endsAt (i : Nat) (D : Ends) : Ends := { nx := fun σ' H' => D.nx (σ'.set i none) H', rt := D.rt, bk := fun σ' H' => D.bk (σ'.set i none) H', ct := fun σ' H' => D.ct (σ'.set i none) H' }
def wMZ (K : PySem.W.Frag) (Wout : WX) (D : Ends) : List Clause → WX
  | [] => Wout
  | (c, none, ts) :: r => fun cls d σ H => ∃ b, PySem.W.exmOne K cls c = some b ∧ (b = true → ∀ a, H a = none → ts a cls d D σ H) ∧ (b = false → wMZ K Wout D r cls d σ H)
  | (c, some i, ts) :: r => fun cls d σ H => ∃ b, PySem.W.exmOne K cls c = some b ∧ (b = true → ∀ a, H a = none → ts a cls d (endsAt i D) (σ.set i (some (.ref a))) H) ∧ (b = false → wMZ K Wout D r cls d σ H)
inductive HdsZ (X : Cx) : List ExceptHandler → List Clause → Prop
  | nil : HdsZ X [] []
  | cons {x : Str} {c : Value} {ts : Addr → Value → Option Addr → TS} {b₀ : Stmt} {suite : List Stmt} {np pos' : Pos} {hds : List ExceptHandler} {l : List Clause} (hc : Names X x c)
      (hsu : ∀ (a : Addr) (oe : Obj) (cls : Value) (d : Option Addr) (pn : List (Addr × Obj)), Zc cls d oe → (∃ vs, oe.data = .fields vs) → PSs (X.suite a ((a, oe) :: pn)) (b₀ :: suite) (ts a cls d)) (r : HdsZ X hds l) :
      HdsZ X (.ExceptHandler (some (.Name x np)) none (b₀ :: suite) pos' :: hds) ((c, none, ts) :: l)
  | named {x n : Str} {i : Nat} {c : Value} {ts : Addr → Value → Option Addr → TS} {b₀ : Stmt} {suite : List Stmt} {np pos' : Pos} {hds : List ExceptHandler} {l : List Clause} (hi : X.N[i]? = some n) (hln : X.env.kindOf n = some .local) (hc : Names X x c)
      (hsu : ∀ (a : Addr) (oe : Obj) (cls : Value) (d : Option Addr) (pn : List (Addr × Obj)), Zc cls d oe → (∃ vs, oe.data = .fields vs) → PSs (X.suite a ((a, oe) :: pn)) (b₀ :: suite) (ts a cls d)) (r : HdsZ X hds l) :
      HdsZ X (.ExceptHandler (some (.Name x np)) (some n) (b₀ :: suite) pos' :: hds) ((c, some i, ts) :: l)
section
variable {X : Cx} {body : List Stmt} {h₀ : ExceptHandler} {hds : List ExceptHandler} {l : List Clause} {pos : Pos} {tb : WX → TS} {Wout : WX}
theorem ps_try_z (hs : X.stack = X.env :: X.outer) (hf : X.env.frame = some X.env.locals) (hN : X.N.Nodup) (tk : Takes X Wout)
    (hb : ∀ (W : WX) (pn : List (Addr × Obj)) (xe : Value → Shared → Prop), Takes (X.tr pn xe) W → PassesOwn (model X.prog X.w) X.A X.env xe → PSs (X.tr pn xe) body (tb W))
    (hh : HdsZ X (h₀ :: hds) l) : PS X (.Try body (h₀ :: hds) [] [] pos) (fun D σ H => tb (wMZ X.K Wout D l) D σ H) := by
  refine ⟨fun pins s σ H D I h => ?_⟩
  have ok := I.ok
  have hfr : X.A.frames = some (X.env :: X.outer) := by rw [ok.frames, hs]
  refine wpAny_Try_except ?_
  refine wpAny_mono ((hb (wMZ X.K Wout D l) (X.pn ++ pins) (fun e s₁ => wpAny (model X.prog X.w) X.A (noteFrame e X.env) (fun _ s₂ => wpAny (model X.prog X.w) X.A (setFlight e none) (fun _ s₃ =>
    wpAny (model X.prog X.w) X.A (handleBy e X.env (h₀ :: hds)) (SP X pins D) X.xe s₃) X.xe s₂) X.xe s₁) (fun u s' xx => ?_) PassesOwn.looking).run [] s σ H D (I.toTry _) h) (fun f s1 hsp => ?_) (fun e s1 he => he)
  · obtain ⟨a, B, sI, pins', σ', H', cls, d, rfl, J', nb, up, sky, na, os, ag, w⟩ := xx
    have J : L2.Inv X pins σ' H' sI := J'.ofTry ok
    have sky' : Sky B (X.env :: X.outer) a (Zc cls d) X.env.locals s'.heap := by rw [← hs]; exact sky
    show wpAny (model X.prog X.w) X.A (noteFrame (.ref a) X.env) _ _ _
    refine Sky.land Zc.steady hfr hf sky' fun h3 fl3 up3 => ?_
    have J3 : L2.Inv X pins σ' H' { s' with heap := h3 } := J.landed nb fl3.1 (up.trans up3) os ag
    obtain ⟨oe3, vs3, he3, hz3, hd3⟩ := fl3.there
    have notFr : ∀ {h : Heap} {o : Obj} {vs : Array Value}, h.FunFrames B (X.env :: X.outer) → h.get? a = some o → o.data = .fields vs → a ∉ frs (X.env :: X.outer) := fun {h o vs} ff e dd hm => by
      obtain ⟨_, o', e', hnf⟩ := ff.mem hm
      rw [e] at e'; cases e'
      exact hnf _ dd
    have nfr := notFr fl3.2.2.1 he3 hd3
    have nL : a ≠ X.env.locals := fun z => nfr (List.mem_filterMap.mpr ⟨X.env, List.mem_cons_self, by rw [hf, z]⟩)
    have nF : a ∉ X.fs := fun hm => by
      obtain ⟨e, he, q⟩ := List.mem_filterMap.mp hm
      exact nfr (List.mem_filterMap.mpr ⟨e, List.mem_cons_of_mem _ he, q⟩)
    have S3 := J3.suite he3 hd3 na nL nF
    have LT : PySem.W.Looks (model X.prog X.w) h3 (typeOf (.ref a)) cls := fun A Q E s k q => wpAny_typeOf_ref (k _ _ he3) (by rw [hz3.1]; exact q)
    have test : ∀ {x : Str} {c : Value} {np : Pos} {Q : Value → Shared → Prop} {E : Value → Shared → Prop}, Names X x c → Q c { s' with heap := h3 } → wpAny (model X.prog X.w) (X.A.mark (some (.ref a))) (eval (.Name x np) X.env) Q E { s' with heap := h3 } := fun {x c np Q E} hc q => by
      obtain ⟨hg, hdbg, hm | ⟨hm, hv, hnn⟩⟩ := hc
      · exact ld_glob (X := X.suite a ((a, oe3) :: (X.pn ++ pins))) S3 hg hm q hdbg
      · exact ld_blt (X := X.suite a ((a, oe3) :: (X.pn ++ pins))) S3 hg hm hv q hnn hdbg
    have go : ∀ {hds' : List ExceptHandler} {l' : List Clause}, HdsZ X hds' l' → wMZ X.K Wout D l' cls d σ' H' →
        wpAny (model X.prog X.w) X.A (handleBy (.ref a) X.env hds') (SP X pins D) X.xe { s' with heap := h3 } := by
      intro hds' l' hk
      induction hk with
      | nil =>
        intro w
        refine wpAny_handleBy_nil ?_
        obtain ⟨k1, k2, k3, oe, vs, T, oT, ts', he, hz, hd, h1, hr⟩ := id fl3
        unfold PySem.passOn
        refine wpAny_bind (wpAny_field he hd h1 ?_)
        rw [if_neg (show ¬ ((Value.ref T == Value.none) = true) from by simp)]
        have fin : wpAny (model X.prog X.w) X.A (setFlight (.ref a) X.env.frame) (fun _ s4 => wpAny (model X.prog X.w) X.A (throw (.ref a) : Sem Flow) (SP X pins D) X.xe s4) X.xe { s' with heap := h3 } := by
          rw [hf]
          refine HandSPX.setFlight_upZ fl3 fun h4 hh4 up4 => wpAny_throw (tk _ _ ?_)
          exact ⟨a, B, sI, pins, σ', H', cls, d, rfl, J, nb, (up.trans up3).trans up4, .inr (.inr (by rw [hs]; exact hh4)), na, os, ag, w⟩
        first
          | exact wpAny_bind (wpAny_pure (wpAny_bind fin))
          | exact wpAny_bind fin
      | @cons x c ts b₀ suite np pos' hds2 l2 hc hsu r ih =>
        intro w
        obtain ⟨b, hb1, hyes, hno⟩ := w
        refine wpAny_handleBy_cons (codeAny_handlers_test ?_) (by intro q; cases q)
        have LM := PySem.W.exm_one (M := model X.prog X.w) (J3.kIn) LT hb1
        refine test hc (LM.here ?_)
        cases b with
        | true =>
          refine codeAny_handlers_suite ?_
          refine HandSPX.lands_againZ fl3 fun h4 fl4 up4 => ?_
          have J4 : L2.Inv X pins σ' H' { s' with heap := h4 } := J.landed nb fl4.1 ((up.trans up3).trans up4) os ag
          obtain ⟨oe4, vs4, he4, hz4, hd4⟩ := fl4.there
          have S4 := J4.suite he4 hd4 na nL nF
          refine wpAny_mono ((hsu a oe4 cls d (X.pn ++ pins) hz4 ⟨_, hd4⟩).run [] _ _ H' _ S4 (hyes rfl a na)) (fun f s6 hsp => ?_) (fun _ _ z => False.elim z)
          cases f with
          | next => obtain ⟨σ6, H6, S6, q6⟩ := hsp; exact ⟨_, _, S6.unsuite ok, q6⟩
          | brk => obtain ⟨σ6, H6, S6, q6⟩ := hsp; exact ⟨_, _, S6.unsuite ok, q6⟩
          | cont => obtain ⟨σ6, H6, S6, q6⟩ := hsp; exact ⟨_, _, S6.unsuite ok, q6⟩
          | ret u => obtain ⟨v6, σ6, H6, S6, r6, q6⟩ := hsp; exact ⟨_, _, _, S6.unsuite ok, r6, q6⟩
        | false =>
          show wpAny _ X.A (handleBy (.ref a) X.env hds2) _ _ _
          exact ih (hno rfl)
      | @named x n i c ts b₀ suite np pos' hds2 l2 hi hln hc hsu r ih =>
        intro w
        obtain ⟨b, hb1, hyes, hno⟩ := w
        refine wpAny_handleBy_cons (codeAny_handlers_test ?_) (by intro q; cases q)
        have LM := PySem.W.exm_one (M := model X.prog X.w) (J3.kIn) LT hb1
        refine test hc (LM.here ?_)
        cases b with
        | true =>
          refine codeAny_handlers_suite_as ?_
          refine HandSPX.lands_againZ fl3 fun h4 fl4 up4 => ?_
          have J4 : L2.Inv X pins σ' H' { s' with heap := h4 } := J.landed nb fl4.1 ((up.trans up3).trans up4) os ag
          obtain ⟨oe4, vs4, he4, hz4, hd4⟩ := fl4.there
          have S4 := J4.suite he4 hd4 na nL nF
          refine store_ok (X := X.suite a ((a, oe4) :: (X.pn ++ pins))) (v := .ref a) S4 hN hi (.inl hln) rfl (fun s5 S5 => ?_) (.inr hln)
          refine wpAny_mono ((hsu a oe4 cls d (X.pn ++ pins) hz4 ⟨_, hd4⟩).run [] s5 _ H' _ S5 (hyes rfl a na)) (fun f s6 hsp => ?_) (fun _ _ z => False.elim z)
          have fin : ∀ {σ6 : L2.St} {H6 : Hp} {Q : Shared → Prop}, L2.Inv (X.suite a ((a, oe4) :: (X.pn ++ pins))) [] σ6 H6 s6 → (∀ s7, L2.Inv X pins (σ6.set i none) H6 s7 → Q s7) →
              wpAny (model X.prog X.w) X.A (do bindName X.env n .none; unbindBehindTheSuite X.env n pos') (fun _ s7 => Q s7) X.xe s6 := fun {σ6 H6 Q} S6 hq => gone_ok (S6.unsuite ok) hN hi hln hq
          cases f with
          | next => obtain ⟨σ6, H6, S6, q6⟩ := hsp; exact fin S6 fun s7 J7 => ⟨_, _, J7, q6⟩
          | brk => obtain ⟨σ6, H6, S6, q6⟩ := hsp; exact fin S6 fun s7 J7 => ⟨_, _, J7, q6⟩
          | cont => obtain ⟨σ6, H6, S6, q6⟩ := hsp; exact fin S6 fun s7 J7 => ⟨_, _, J7, q6⟩
          | ret u => obtain ⟨v6, σ6, H6, S6, r6, q6⟩ := hsp; exact fin S6 fun s7 J7 => ⟨_, _, _, J7, r6, q6⟩
        | false =>
          show wpAny _ X.A (handleBy (.ref a) X.env hds2) _ _ _
          exact ih (hno rfl)
    exact go hh w
  · cases f with
    | next => obtain ⟨σ', H', J', q⟩ := hsp; exact wpAny_execs_nil ⟨σ', H', J'.ofTry ok, q⟩
    | brk => obtain ⟨σ', H', J', q⟩ := hsp; exact ⟨σ', H', J'.ofTry ok, q⟩
    | cont => obtain ⟨σ', H', J', q⟩ := hsp; exact ⟨σ', H', J'.ofTry ok, q⟩
    | ret u => obtain ⟨v, σ', H', J', r, q⟩ := hsp; exact ⟨v, σ', H', J'.ofTry ok, r, q⟩
end
end Zed
set_option Elab.async false
set_option linter.all false
set_option maxRecDepth 100000
set_option maxHeartbeats 4000000
namespace Zed
open PySem L2 PySem.Spec PyProof.Rows

mutual
def D.nox : D → Bool
  | .tup ds => D.noxs ds
  | .lst ds => D.noxs ds
  | .scr ds => D.noxs ds
  | .obj _ _ ds => D.noxs ds
  | .exc _ _ _ => false
  | _ => true
def D.noxs : List D → Bool
  | [] => true
  | d :: ds => D.nox d && D.noxs ds
end
section
variable {K : PySem.W.Frag} {mg : Str → Option Value} {xl xl' : Option (Addr × Value × Option Addr)} {G : Hp}
mutual
theorem Rep.up {v : V} {d : D} (h : Rep (c0 K mg) G v d) : Rep ⟨K, mg, xl⟩ G v d := by
  cases h with
  | non => exact .non
  | bl => exact .bl
  | int => exact .int
  | str => exact .str
  | ty => exact .ty
  | gl h => exact .gl h
  | tup h r => exact .tup h (Reps.up r)
  | lst h r => exact .lst h (Reps.up r)
  | scr h r => exact .scr h (Reps.up r)
  | obj hc h hn r => exact .obj hc h hn (Reps.up r)
  | exc0 hx hc => cases hx
  | exc hx hc h hn r => cases hx
theorem Reps.up {vs : List V} {ds : List D} (h : Reps (c0 K mg) G vs ds) : Reps ⟨K, mg, xl⟩ G vs ds := by
  cases h with
  | nil => exact .nil
  | cons h r => exact .cons (Rep.up h) (Reps.up r)
end
mutual
theorem Rep.dn {v : V} {d : D} (h : Rep ⟨K, mg, xl⟩ G v d) (e : d.nox = true) : Rep (c0 K mg) G v d := by
  cases h with
  | non => exact .non
  | bl => exact .bl
  | int => exact .int
  | str => exact .str
  | ty => exact .ty
  | gl h => exact .gl h
  | tup h r => exact .tup h (Reps.dn r e)
  | lst h r => exact .lst h (Reps.dn r e)
  | scr h r => exact .scr h (Reps.dn r e)
  | obj hc h hn r => exact .obj hc h hn (Reps.dn r e)
  | exc0 hx hc => cases e
  | exc hx hc h hn r => cases e
theorem Reps.dn {vs : List V} {ds : List D} (h : Reps ⟨K, mg, xl⟩ G vs ds) (e : D.noxs ds = true) : Reps (c0 K mg) G vs ds := by
  cases h with
  | nil => exact .nil
  | cons h r =>
    have e' := Bool.and_eq_true_iff.mp (show (_ && _) = true from e)
    exact .cons (Rep.dn h e'.1) (Reps.dn r e'.2)
end
def O.nox : O → Bool
  | .lst ds => D.noxs ds
  | .obj _ _ ds => D.noxs ds
  | .dk _ ds => D.noxs ds
theorem Own.up {ho : HO} {o : O} (h : Own (c0 K mg) G ho o) : Own ⟨K, mg, xl⟩ G ho o := by
  cases o with
  | lst ds => obtain ⟨vs, e1, r⟩ := h; exact ⟨vs, e1, r.up⟩
  | obj x ns ds => obtain ⟨C, dx, fs, h1, h2, h3, r⟩ := h; exact ⟨C, dx, fs, h1, h2, h3, r.up⟩
  | dk ks ds => obtain ⟨kvs, h2, h3, r⟩ := h; exact ⟨kvs, h2, h3, r.up⟩
theorem Own.dn {ho : HO} {o : O} (h : Own ⟨K, mg, xl⟩ G ho o) (e : o.nox = true) : Own (c0 K mg) G ho o := by
  cases o with
  | lst ds => obtain ⟨vs, e1, r⟩ := h; exact ⟨vs, e1, r.dn e⟩
  | obj x ns ds => obtain ⟨C, dx, fs, h1, h2, h3, r⟩ := h; exact ⟨C, dx, fs, h1, h2, h3, r.dn e⟩
  | dk ks ds => obtain ⟨kvs, h2, h3, r⟩ := h; exact ⟨kvs, h2, h3, r.dn e⟩
def LV.nox : LV → Bool
  | .frz d => d.nox
  | .own o => o.nox
/-- the names that hold no error -/
def cleanE (e : Env) : Env := e.map fun o => match o with
  | some lv => if lv.nox = true then some lv else none
  | none => none
theorem cleanE_get {e : Env} {i : Nat} {lv : LV} (h : (cleanE e)[i]? = some (some lv)) : e[i]? = some (some lv) ∧ lv.nox = true := by
  unfold cleanE at h
  rw [List.getElem?_map] at h
  cases q : e[i]? with
  | none => rw [q] at h; cases h
  | some o =>
    rw [q] at h
    cases o with
    | none => cases h
    | some lv' =>
      have h : (if lv'.nox = true then some lv' else none) = some lv := Option.some.inj h
      split at h
      · rename_i z; cases h; exact ⟨rfl, z⟩
      · cases h
theorem cleanE_len {e : Env} : (cleanE e).length = e.length := List.length_map ..
theorem Rel.up {env : Env} {σ : L2.St} {H : Hp} (r : Rel (c0 K mg) env σ G H) : Rel ⟨K, mg, xl⟩ env σ G H :=
  ⟨r.ex, r.len, fun i lv h => let ⟨v, h1, h2⟩ := r.sl i lv h; ⟨v, h1, match lv, h2 with
    | .frz d, h2 => Rep.up h2
    | .own o, ⟨a, ho, e, g, h3, w⟩ => ⟨a, ho, e, g, h3, w.up⟩⟩, r.dj⟩
theorem Rel.dn {env : Env} {σ : L2.St} {H : Hp} (r : Rel ⟨K, mg, xl⟩ env σ G H) : Rel (c0 K mg) (cleanE env) σ G H :=
  ⟨r.ex, by rw [cleanE_len]; exact r.len, fun i lv h => by
    obtain ⟨h0, hz⟩ := cleanE_get h
    obtain ⟨v, h1, h2⟩ := r.sl i lv h0
    refine ⟨v, h1, ?_⟩
    cases lv with
    | frz d => exact Rep.dn h2 hz
    | own o => obtain ⟨a, ho, e, g, h3, w⟩ := h2; exact ⟨a, ho, e, g, h3, w.dn hz⟩, fun i j oi oj a h1 h2 h3 h4 => r.dj i j oi oj a (cleanE_get h1).1 (cleanE_get h2).1 h3 h4⟩
end
section
variable {F : Nat → Bool} {c c' : Ct} {σ σ' : L2.St} {env env' : Env} {G H G' H' : Hp}
theorem SStep.re (s : SStep F c σ env G H σ' env' G' H') (r : Rel c' env' σ' G' H') : SStep F c' σ env G H σ' env' G' H' := ⟨s.g, r, s.keep, s.fix, s.ow, s.nf, s.al, s.ln⟩
/-- less is told of the names -/
theorem SStep.less (s : SStep F c σ env G H σ' env' G' H') {e2 : Env} (h : ∀ (i : Nat) (o : O), e2[i]? = some (some (LV.own o)) → env'[i]? = some (some (LV.own o))) (hl : e2.length = env'.length) (r : Rel c' e2 σ' G' H') : SStep F c' σ env G H σ' e2 G' H' :=
  ⟨s.g, r, s.keep, s.fix, fun i o f q => s.ow i o f (h i o q), fun i a f ⟨⟨o, h1⟩, h2⟩ => s.nf i a f ⟨⟨o, h i o h1⟩, h2⟩, s.al, hl.trans s.ln⟩
/-- a name goes -/
theorem SStep.gone (s : SStep F c σ env G H σ' env' G' H') {i : Nat} (f : F i = false) : SStep F c σ env G H (σ'.set i none) (env'.set i none) G' H' := by
  have out : ∀ {j : Nat} {lv : LV}, (env'.set i none)[j]? = some (some lv) → i ≠ j ∧ env'[j]? = some (some lv) := fun {j lv} q => by
    rcases get_set' q with ⟨_, e2, _⟩ | z
    · cases e2
    · exact z
  have r := s.rel
  refine ⟨s.g, ⟨r.ex, by simpa using r.len, fun j lv q => ?_, fun j k oj ok a h1 h2 h3 h4 => ?_⟩, s.keep, fun j fj => ?_, fun j o fj q => s.ow j o fj (out q).2, fun j a fj ⟨⟨o, h1⟩, h2⟩ => ?_, s.al, by simpa using s.ln⟩
  · obtain ⟨ne, q⟩ := out q
    obtain ⟨v, h1, h2⟩ := r.sl j lv q
    exact ⟨v, by rw [List.getElem?_set_ne ne]; exact h1, h2⟩
  · obtain ⟨n1, q1⟩ := out h1
    obtain ⟨n2, q2⟩ := out h2
    rw [List.getElem?_set_ne n1] at h3
    rw [List.getElem?_set_ne n2] at h4
    exact r.dj j k oj ok a q1 q2 h3 h4
  · have : i ≠ j := fun e => by rw [e] at f; rw [f] at fj; cases fj
    rw [List.getElem?_set_ne this]; exact s.fix j fj
  · obtain ⟨ne, q⟩ := out h1
    rw [List.getElem?_set_ne ne] at h2
    exact s.nf j a fj ⟨⟨o, q⟩, h2⟩
end
/-- what every reading of statements that computes f does -/
def uS (F : Nat → Bool) (c : Ct) (W : WX) (f : Stm) : TS := fun D σ H => ∀ ts, EvS F c W ts f → ts D σ H
theorem uS_ev {F : Nat → Bool} {c : Ct} {W : WX} {f : Stm} : EvS F c W (uS F c W f) f := fun env σ G H r D p ts h => h env σ G H r D p
theorem SS.u {X : Cx} {W : WX} {F : Nat → Bool} {sts : List Stmt} {f : Stm} (h : SS X W F sts f) : PSs X sts (uS F (ct X) W f) := let ⟨ts, p, q⟩ := h; ⟨fun pins s σ H D I hu => p.run pins s σ H D I (hu ts q)⟩
/-- a clause: does it take errors of the class? its name's slot; its suite -/
structure Hd where
  tab : Str → Option Bool
  slot : Option Nat
  suite : Stm
def retX (r : RV) (e : Env) : Option RV := match r with
  | .frz d => if d.nox = true then some (.frz d) else none
  | .new o => if o.nox = true then some (.new o) else none
  | .slot i => match e[i]? with
    | some (some (.frz d)) => if d.nox = true then some (.frz d) else none
    | _ => none
def goneE : Option Nat → Env → Env
  | some i, e => cleanE (e.set i none)
  | none, e => cleanE e
def endX (sl : Option Nat) : Option Fl → Option Fl
  | some (.nx e) => some (.nx (goneE sl e))
  | some (.brk e) => some (.brk (goneE sl e))
  | some (.cont e) => some (.cont (goneE sl e))
  | some (.ret r e) => match retX r e with
    | some r' => some (.ret r' (goneE sl e))
    | none => none
  | _ => none
def inX (sl : Option Nat) (x : Exc) (e : Env) : Env := match sl with
  | some i => e.set i (some (.frz (.exc x.c x.ns x.ds)))
  | none => e
def catch_ (x : Exc) (e1 : Env) : List Hd → Option Fl
  | [] => some (.exc x e1)
  | h :: hs => match h.tab x.c with
    | some true => endX h.slot (h.suite (inX h.slot x e1))
    | some false => catch_ x e1 hs
    | none => none
def tryS (body : Stm) (hs : List Hd) : Stm := fun env => match body env with
  | some (.exc x e1) => catch_ x e1 hs
  | r => r
/-- what the clauses are, and do -/
inductive ClsOk (F : Nat → Bool) (K : PySem.W.Frag) (mg : Str → Option Value) : List Hd → List Clause → Prop
  | nil : ClsOk F K mg [] []
  | cons {h : Hd} {c : Value} {hs : List Hd} {l : List Clause} (ht : ∀ x b C, h.tab x = some b → mg x = some (.ref C) → PySem.W.exmOne K (.ref C) c = some b) (hi : ∀ i, h.slot = some i → F i = false) (r : ClsOk F K mg hs l) :
      ClsOk F K mg (h :: hs) ((c, h.slot, fun a cls d => uS F ⟨K, mg, some (a, cls, d)⟩ W0 h.suite) :: l)
section
variable {F : Nat → Bool} {K : PySem.W.Frag} {mg : Str → Option Value} {σ σ1 : L2.St} {env e1 : Env} {G H G1 H1 : Hp} {W : WX} {D' : Ends}
theorem freeze_dict {c : Ct} (s : SStep F c σ env G H σ1 e1 G1 H1) {d : Addr} {fs : List (Str × V)} (hd : H1 d = some (.xd fs)) (gd : G1 d = none) (h0 : H d = none) : SStep F c σ env G H σ1 e1 (L2.upd G1 d (.xd fs)) H1 := by
  have r := s.rel
  have g' : Ex G1 (L2.upd G1 d (.xd fs)) := Ex.new gd
  refine ⟨s.g.trans g', ⟨fun b o z => ?_, r.len, fun i lv q => ?_, r.dj⟩, fun a o h g n => ?_, s.fix, s.ow, s.nf, s.al, s.ln⟩
  · by_cases e : b = d
    · rw [e, upd_same] at z; cases z; rw [e]; exact hd
    · rw [upd_ne e] at z; exact r.ex b o z
  · obtain ⟨v, h1, h2⟩ := r.sl i lv q
    refine ⟨v, h1, ?_⟩
    cases lv with
    | frz dd => exact Rep.mono g' h2
    | own o =>
      obtain ⟨a, ho, e, g, h3, w⟩ := h2
      have ne : a ≠ d := fun z => by
        rw [z, hd] at h3; cases h3
        cases o with
        | lst ds => obtain ⟨_, e, _⟩ := w; cases e
        | obj _ _ _ => obtain ⟨_, _, _, _, e, _⟩ := w; cases e
        | dk _ _ => obtain ⟨_, e, _⟩ := w; cases e
      exact ⟨a, ho, e, by rw [upd_ne ne]; exact g, h3, w.mono g'⟩
  · obtain ⟨z1, z2⟩ := s.keep a o h g n
    have ne : a ≠ d := fun z => by rw [z, h0] at h; cases h
    exact ⟨z1, by rw [upd_ne ne]; exact z2⟩
theorem endX_ok {sl : Option Nat} {c' : Ct} (hc : c'.K = K ∧ c'.mg = mg) {σ2 : L2.St} {e2 : Env} {G2 H2 : Hp} (hF : ∀ i, sl = some i → F i = false) (s : SStep F (c0 K mg) σ env G H σ1 e1 G1 H1) {env2 : Env} {σs : L2.St} {Gs : Hp}
    (ss : SStep F c' σ env G H σs env2 Gs H1) {r : Option Fl} (p : PostS F (c0 K mg) W σ env G H D' (endX sl r)) {D2 : Ends} (hD : D2 = match sl with | some i => endsAt i D' | none => D') : PostS F c' W0 σs env2 Gs H1 D2 r := by
  obtain ⟨K', mg', xl⟩ := c'
  obtain ⟨rfl, rfl⟩ := hc
  have fin : ∀ {e' : Env} {σ' : L2.St} {G' H' : Hp}, SStep F ⟨K', mg', xl⟩ σs env2 Gs H1 σ' e' G' H' → SStep F (c0 K' mg') σ env G H (match sl with | some i => σ'.set i none | none => σ') (goneE sl e') G' H' := fun {e' σ' G' H'} s2 => by
    have s3 := ss.trans s2
    cases sl with
    | none => exact s3.less (fun i o q => (cleanE_get q).1) cleanE_len s3.rel.dn
    | some i =>
      have s4 := s3.gone (hF i rfl)
      exact s4.less (fun i o q => (cleanE_get q).1) cleanE_len s4.rel.dn
  cases r with
  | none => exact p.elim
  | some fl =>
    cases fl with
    | nx e => intro σ' G' H' s2; subst hD; cases sl <;> exact p _ G' H' (fin s2)
    | brk e => intro σ' G' H' s2; subst hD; cases sl <;> exact p _ G' H' (fin s2)
    | cont e => intro σ' G' H' s2; subst hD; cases sl <;> exact p _ G' H' (fin s2)
    | exc x e => exact p.elim
    | ret rv e =>
      intro v σ' G' H' s2 ok
      dsimp only [endX] at p
      have hrt : D2.rt = D'.rt := by subst hD; cases sl <;> rfl
      rw [hrt]
      cases q : retX rv e with
      | none => rw [q] at p; exact p.elim
      | some r' =>
        rw [q] at p
        refine p v _ G' H' (fin s2) ?_
        cases rv with
        | frz d =>
          dsimp only [retX] at q
          split at q
          · rename_i z; cases q; exact Rep.dn ok z
          · cases q
        | new o =>
          dsimp only [retX] at q
          split at q
          · rename_i z; cases q
            obtain ⟨a, ho, e, h0, g, h1, w⟩ := ok
            exact ⟨a, ho, e, ss.al a h0, g, h1, w.dn z⟩
          · cases q
        | slot i =>
          dsimp only [retX] at q
          split at q
          · rename_i d he
            split at q
            · rename_i z; cases q
              obtain ⟨v', h1, h2⟩ := s2.rel.sl i _ he
              have ok : σ'[i]? = some (some v) := ok
              rw [ok] at h1; cases h1
              exact Rep.dn h2 z
            · cases q
          · cases q
theorem catch_ok {x : Exc} {cls : Value} {dd : Option Addr} (s : SStep F (c0 K mg) σ env G H σ1 e1 G1 H1) (hx : ExcOk (c0 K mg) G1 H1 cls dd x) (hd : ∀ a, dd = some a → H a = none) : ∀ {hs : List Hd} {l : List Clause}, ClsOk F K mg hs l → PostS F (c0 K mg) W σ env G H D' (catch_ x e1 hs) → wMZ K W D' l cls dd σ1 H1
  | _, _, .nil, p => p cls dd σ1 G1 H1 s hx hd
  | _, _, @ClsOk.cons _ _ _ h c hs l ht hi r, p => by
    obtain ⟨C, rfl, hC, hf⟩ := id hx
    unfold catch_ at p
    cases q : h.tab x.c with
    | none => rw [q] at p; exact p.elim
    | some b =>
      rw [q] at p
      have hm := ht _ _ _ q hC
      have go : b = true → ∀ a, H1 a = none → uS F ⟨K, mg, some (a, .ref C, dd)⟩ W0 h.suite (match h.slot with | some i => endsAt i D' | none => D') (match h.slot with | some i => σ1.set i (some (.ref a)) | none => σ1) H1 := fun hb a ha => by
        subst hb
        -- the error's dict is settled
        obtain ⟨G2, s2, rx⟩ : ∃ G2, SStep F (c0 K mg) σ env G H σ1 e1 G2 H1 ∧ Rep ⟨K, mg, some (a, .ref C, dd)⟩ G2 (.ref a) (.exc x.c x.ns x.ds) := by
          rcases hf with ⟨rfl, e2, e3⟩ | ⟨d, fs, rfl, h1, g1, hn, rs⟩
          · exact ⟨G1, s, by rw [e2, e3]; exact .exc0 rfl hC⟩
          · exact ⟨_, freeze_dict s h1 g1 (hd d rfl), .exc rfl hC upd_same hn (rs.mono (Ex.new g1)).up⟩
        have s3 : SStep F ⟨K, mg, some (a, .ref C, dd)⟩ σ env G H σ1 e1 G2 H1 := s2.re s2.rel.up
        have p : PostS F (c0 K mg) W σ env G H D' (endX h.slot (h.suite (inX h.slot x e1))) := p
        cases hsl : h.slot with
        | none =>
          rw [hsl] at p
          exact uS_ev e1 σ1 G2 H1 s3.rel _ (endX_ok (sl := none) (c' := ⟨K, mg, some (a, .ref C, dd)⟩) ⟨rfl, rfl⟩ (σ2 := σ1) (e2 := e1) (G2 := G2) (H2 := H1) (fun i z => by cases z) s s3 p rfl)
        | some i =>
          rw [hsl] at p
          have s4 := s3.trans (SStep.setF (F := F) s3.rel (hi i hsl) rx)
          exact uS_ev _ _ G2 H1 s4.rel _ (endX_ok (sl := some i) (c' := ⟨K, mg, some (a, .ref C, dd)⟩) ⟨rfl, rfl⟩ (σ2 := σ1) (e2 := e1) (G2 := G2) (H2 := H1) (fun j z => by cases z; exact hi i hsl) s s4 p rfl)
      have no : b = false → wMZ K W D' l (.ref C) dd σ1 H1 := fun hb => by
        subst hb
        exact catch_ok s hx hd r p
      cases hsl : h.slot with
      | none => rw [hsl] at go; exact ⟨b, hm, go, no⟩
      | some i => rw [hsl] at go; exact ⟨b, hm, go, no⟩
theorem try_ok {body : Stm} {hs : List Hd} {l : List Clause} (k : ClsOk F K mg hs l) : EvS F (c0 K mg) W (fun D σ H => uS F (c0 K mg) (wMZ K W D l) body D σ H) (tryS body hs) := fun env σ G H r D' p => by
  refine uS_ev env σ G H r D' ?_
  unfold tryS at p
  cases q : body env with
  | none => rw [q] at p; exact p.elim
  | some fl =>
    rw [q] at p
    cases fl with
    | exc x e1 => exact fun cls dd σ' G' H' s hx hd => catch_ok s hx hd k p
    | nx e => exact p
    | brk e => exact p
    | cont e => exact p
    | ret r e => exact p
end
/-- the clauses of a try -/
inductive SH (X : Cx) (F : Nat → Bool) : List ExceptHandler → List Hd → Prop
  | nil : SH X F [] []
  | cons {x : Str} {c : Value} {tab : Str → Option Bool} {f : Stm} {b₀ : Stmt} {suite : List Stmt} {np pos' : Pos} {hds : List ExceptHandler} {hs : List Hd} (hc : Names X x c) (ht : ∀ y b C, tab y = some b → X.mg y = some (.ref C) → PySem.W.exmOne X.K (.ref C) c = some b)
      (hsu : ∀ (a : Addr) (oe : Obj) (pn : List (Addr × Obj)), (∃ vs, oe.data = .fields vs) → SS (X.suite a ((a, oe) :: pn)) W0 F (b₀ :: suite) f) (r : SH X F hds hs) : SH X F (.ExceptHandler (some (.Name x np)) none (b₀ :: suite) pos' :: hds) (⟨tab, none, f⟩ :: hs)
  | named {x n : Str} {i : Nat} {c : Value} {tab : Str → Option Bool} {f : Stm} {b₀ : Stmt} {suite : List Stmt} {np pos' : Pos} {hds : List ExceptHandler} {hs : List Hd} (hi : X.N[i]? = some n) (hln : X.env.kindOf n = some .local) (hF : F i = false) (hc : Names X x c) (ht : ∀ y b C, tab y = some b → X.mg y = some (.ref C) → PySem.W.exmOne X.K (.ref C) c = some b)
      (hsu : ∀ (a : Addr) (oe : Obj) (pn : List (Addr × Obj)), (∃ vs, oe.data = .fields vs) → SS (X.suite a ((a, oe) :: pn)) W0 F (b₀ :: suite) f) (r : SH X F hds hs) : SH X F (.ExceptHandler (some (.Name x np)) (some n) (b₀ :: suite) pos' :: hds) (⟨tab, some i, f⟩ :: hs)
theorem SH.split {X : Cx} {F : Nat → Bool} {hds : List ExceptHandler} {hs : List Hd} (h : SH X F hds hs) : ∃ l, HdsZ X hds l ∧ ClsOk F X.K X.mg hs l := by
  have sct : ∀ {a : Addr} {oe : Obj} {pn : List (Addr × Obj)} {cls : Value} {d : Option Addr}, Zc cls d oe → ct (X.suite a ((a, oe) :: pn)) = ⟨X.K, X.mg, some (a, cls, d)⟩ := fun {a oe pn cls d} hz => by
    obtain ⟨z1, z2⟩ := hz
    subst z1 z2
    rfl
  induction h with
  | nil => exact ⟨[], .nil, .nil⟩
  | @cons x c tab f b₀ suite np pos' hds hs hc ht hsu r ih =>
    obtain ⟨l, h1, h2⟩ := ih
    refine ⟨_, .cons (ts := fun a cls d => uS F ⟨X.K, X.mg, some (a, cls, d)⟩ W0 f) hc (fun a oe cls d pn hz hf => ?_) h1, .cons (h := ⟨tab, none, f⟩) ht (fun i z => by cases z) h2⟩
    rw [← sct hz]
    exact (hsu a oe pn hf).u
  | @named x n i c tab f b₀ suite np pos' hds hs hi hln hF hc ht hsu r ih =>
    obtain ⟨l, h1, h2⟩ := ih
    refine ⟨_, .named (ts := fun a cls d => uS F ⟨X.K, X.mg, some (a, cls, d)⟩ W0 f) hi hln hc (fun a oe cls d pn hz hf => ?_) h1, .cons (h := ⟨tab, some i, f⟩) ht (fun j z => by cases z; exact hF) h2⟩
    rw [← sct hz]
    exact (hsu a oe pn hf).u
theorem S1.try {X : Cx} {W : WX} {F : Nat → Bool} {body : List Stmt} {h₀ : ExceptHandler} {hds : List ExceptHandler} {f : Stm} {hs : List Hd} {pos : Pos} (hst : X.stack = X.env :: X.outer) (hf : X.env.frame = some X.env.locals) (hN : X.N.Nodup) (hc : X.calm = true) (tk : Takes X W)
    (hb : ∀ (W : WX) (pn : List (Addr × Obj)) (xe : Value → Shared → Prop), Takes (X.tr pn xe) W → PassesOwn (model X.prog X.w) X.A X.env xe → SS (X.tr pn xe) W F body f) (hh : SH X F (h₀ :: hds) hs) : S1 X W F (.Try body (h₀ :: hds) [] [] pos) (tryS f hs) := by
  obtain ⟨l, h1, h2⟩ := hh.split
  refine ⟨_, ps_try_z (tb := fun W => uS F (c0 X.K X.mg) W f) hst hf hN tk (fun W pn xe tk' hp => ?_) h1, by rw [ct0 hc]; exact try_ok h2⟩
  have := (hb W pn xe tk' hp).u
  rw [ct0 (X := X.tr pn xe) hc] at this
  exact this
end Zed
set_option Elab.async false
set_option linter.all false
set_option maxRecDepth 100000
set_option maxHeartbeats 4000000
namespace Zed
open PySem L2 PySem.Spec PyProof.Rows

theorem Vws.one {c : Ct} {G H : Hp} {vs : List V} {d : D} (h : Vws c G H vs [d]) : ∃ v, vs = [v] ∧ Vw c G H v d := by
  match vs, h with
  | [v], h => exact ⟨v, rfl, h.1⟩
theorem Vws.two {c : Ct} {G H : Hp} {vs : List V} {d e : D} (h : Vws c G H vs [d, e]) : ∃ v w, vs = [v, w] ∧ Vw c G H v d ∧ Vw c G H w e := by
  match vs, h with
  | [v, w], h => exact ⟨v, w, rfl, h.1, h.2.1⟩
theorem Vws.nil {c : Ct} {G H : Hp} {vs : List V} (h : Vws c G H vs []) : vs = [] := by
  match vs, h with
  | [], _ => rfl
theorem Vw.of {c : Ct} {G H : Hp} {v : V} {d : D} (h : ∀ o : O, o.d ≠ d) (w : Vw c G H v d) : Rep c G v d := by
  generalize e : d = d' at w
  cases w with
  | rep r => subst e; exact r
  | own h1 w z => exact (h _ e.symm).elim
theorem Vw.tupR {c : Ct} {G H : Hp} {v : V} {ds : List D} (w : Vw c G H v (.tup ds)) : Rep c G v (.tup ds) := w.of fun o e => by cases o <;> cases e
def lenN : List D → Option OV
  | [.str s] => if s.length ≤ sizeLine then some (.frz (.int s.length)) else none
  | [.lst ds] => some (.frz (.int ds.length))
  | [.scr ds] => some (.frz (.int ds.length))
  | [.tup ds] => some (.frz (.int ds.length))
  | _ => none
def strN : List D → Option OV
  | [.int i] => if i.natAbs.log2 < 1920 then some (.frz (.str (toString i))) else none
  | [.str a] => some (.frz (.str a))
  | _ => none
def intN : List D → Option OV
  | [.int i] => some (.frz (.int i))
  | [.str a] => match PySem.intText? a with
    | some n => if a.length ≤ 640 then some (.frz (.int n)) else none
    | none => none
  | _ => none
def absN : List D → Option OV
  | [.int i] => some (.frz (.int (if i < 0 then -i else i)))
  | _ => none
def minN : List D → Option OV
  | [.int i, .int j] => some (.frz (.int (if j < i then j else i)))
  | _ => none
def maxN : List D → Option OV
  | [.int i, .int j] => some (.frz (.int (if j > i then j else i)))
  | _ => none
def tupN : List D → Option OV
  | [.lst ds] => some (.frz (.tup ds))
  | [.scr ds] => some (.frz (.tup ds))
  | [.tup ds] => some (.frz (.tup ds))
  | _ => none
def listN : List D → Option OV
  | [.lst ds] => some (.new (.lst ds))
  | [.scr ds] => some (.new (.lst ds))
  | [.tup ds] => some (.new (.lst ds))
  | _ => none
section
variable {c : Ct} {X : Cx}
abbrev rLen (K : PySem.W.Frag) : List V → Hp → VK → Prop := fun xs H Q => ∃ x n, xs = [x] ∧ LenV K x H n ∧ Q (.int n) H
theorem o_len : OpN c (rLen c.K) lenN := fun G H vs ds z Q x w e o => by
  unfold lenN at e
  split at e
  · split at e
    · rename_i s hz; cases e
      obtain ⟨v, rfl, w0⟩ := w.one
      rw [w0.str]
      exact ⟨_, s.length, rfl, ⟨hz, rfl⟩, o.int x⟩
    · cases e
  · rename_i ds; cases e
    obtain ⟨v, rfl, w0⟩ := w.one
    obtain ⟨a, us, rfl, h, r⟩ := w0.lst x
    exact ⟨_, us.length, rfl, .inl ⟨us, SqL.of h, rfl⟩, by rw [r.length]; exact o.int x⟩
  · rename_i ds; cases e
    obtain ⟨v, rfl, w0⟩ := w.one
    obtain ⟨a, us, rfl, h, r⟩ := w0.scr x
    exact ⟨_, us.length, rfl, .inl ⟨us, h, rfl⟩, by rw [r.length]; exact o.int x⟩
  · rename_i ds; cases e
    obtain ⟨v, rfl, w0⟩ := w.one
    obtain ⟨a, us, rfl, h, r⟩ := w0.tup x
    exact ⟨_, us.length, rfl, .inr ⟨us, h, rfl⟩, by rw [r.length]; exact o.int x⟩
  · cases e
abbrev rStr : List V → Hp → VK → Prop := fun xs H Q => (∃ i, xs = [.int i] ∧ i.natAbs.log2 < 1920 ∧ Q (.str (toString i)) H) ∨ ∃ a, xs = [.str a] ∧ Q (.str a) H
theorem c_str : CallR X (.type "str") rStr := CallR.or call_str_int SkE.call_str_str
theorem o_str : OpN c rStr strN := fun G H vs ds z Q x w e o => by
  unfold strN at e
  split at e
  · split at e
    · rename_i i hz; cases e
      obtain ⟨v, rfl, w0⟩ := w.one
      rw [w0.int]
      exact .inl ⟨i, rfl, hz, o.str x⟩
    · cases e
  · rename_i a; cases e
    obtain ⟨v, rfl, w0⟩ := w.one
    rw [w0.str]
    exact .inr ⟨a, rfl, o.str x⟩
  · cases e
abbrev rInt : List V → Hp → VK → Prop := fun xs H Q => ((∃ i, xs = [.int i] ∧ Q (.int i) H) ∨ ∃ k, xs = [.bl k] ∧ Q (.int (if k then 1 else 0)) H) ∨ ∃ a n, xs = [.str a] ∧ PySem.intText? a = some n ∧ a.length ≤ 640 ∧ Q (.int n) H
theorem c_int : CallR X (.type "int") rInt := CallR.or call_int1 call_int_str
theorem o_int2 : OpN c rInt intN := fun G H vs ds z Q x w e o => by
  unfold intN at e
  split at e
  · rename_i i; cases e
    obtain ⟨v, rfl, w0⟩ := w.one
    rw [w0.int]
    exact .inl (.inl ⟨i, rfl, o.int x⟩)
  · rename_i a
    split at e
    · rename_i n hn
      split at e
      · rename_i hl; cases e
        obtain ⟨v, rfl, w0⟩ := w.one
        rw [w0.str]
        exact .inr ⟨a, n, rfl, hn, hl, o.int x⟩
      · cases e
    · cases e
  · cases e
abbrev rAbs : List V → Hp → VK → Prop := fun xs H Q => ∃ i, xs = [.int i] ∧ Q (.int (if i < 0 then -i else i)) H
theorem o_abs : OpN c rAbs absN := fun G H vs ds z Q x w e o => by
  unfold absN at e
  split at e
  · rename_i i; cases e
    obtain ⟨v, rfl, w0⟩ := w.one
    rw [w0.int]
    exact ⟨i, rfl, o.int x⟩
  · cases e
abbrev rMin : List V → Hp → VK → Prop := fun xs H Q => ∃ i j, xs = [.int i, .int j] ∧ Q (.int (if j < i then j else i)) H
theorem o_min : OpN c rMin minN := fun G H vs ds z Q x w e o => by
  unfold minN at e
  split at e
  · rename_i i j; cases e
    obtain ⟨v, u, rfl, w1, w2⟩ := w.two
    rw [w1.int, w2.int]
    exact ⟨i, j, rfl, o.int x⟩
  · cases e
abbrev rMax : List V → Hp → VK → Prop := fun xs H Q => ∃ i j, xs = [.int i, .int j] ∧ Q (.int (if j > i then j else i)) H
theorem o_max : OpN c rMax maxN := fun G H vs ds z Q x w e o => by
  unfold maxN at e
  split at e
  · rename_i i j; cases e
    obtain ⟨v, u, rfl, w1, w2⟩ := w.two
    rw [w1.int, w2.int]
    exact ⟨i, j, rfl, o.int x⟩
  · cases e
abbrev rTup (K : PySem.W.Frag) : List V → Hp → VK → Prop := fun xs H Q => ∃ p ys, xs = [.ref p] ∧ ((SqL K H p ys ∧ ∀ l, H l = none → Q (.ref l) (upd H l (.tup ys))) ∨ (SqT K H p ys ∧ Q (.ref p) H))
theorem o_tup : OpN c (rTup c.K) tupN := fun G H vs ds z Q x w e o => by
  unfold tupN at e
  split at e
  · rename_i ds; cases e
    obtain ⟨v, rfl, w0⟩ := w.one
    obtain ⟨a, us, rfl, h, r⟩ := w0.lst x
    exact ⟨a, us, rfl, .inl ⟨SqL.of h, fun l hl => o.tup x r hl⟩⟩
  · rename_i ds; cases e
    obtain ⟨v, rfl, w0⟩ := w.one
    obtain ⟨a, us, rfl, h, r⟩ := w0.scr x
    exact ⟨a, us, rfl, .inl ⟨h, fun l hl => o.tup x r hl⟩⟩
  · rename_i ds; cases e
    obtain ⟨v, rfl, w0⟩ := w.one
    have rp := w0.tupR
    obtain ⟨a, us, rfl, h, r⟩ := w0.tup x
    exact ⟨a, us, rfl, .inr ⟨h, o.rep x rp⟩⟩
  · cases e
abbrev rList (K : PySem.W.Frag) : List V → Hp → VK → Prop := fun xs H Q => ∃ p ys, xs = [.ref p] ∧ (SqL K H p ys ∨ SqT K H p ys) ∧ ∀ l, H l = none → Q (.ref l) (upd H l (.lst ys))
theorem o_list : OpN c (rList c.K) listN := fun G H vs ds z Q x w e o => by
  unfold listN at e
  split at e
  · rename_i ds; cases e
    obtain ⟨v, rfl, w0⟩ := w.one
    obtain ⟨a, us, rfl, h, r⟩ := w0.lst x
    exact ⟨a, us, rfl, .inl (SqL.of h), fun l hl => o.lst x r hl⟩
  · rename_i ds; cases e
    obtain ⟨v, rfl, w0⟩ := w.one
    obtain ⟨a, us, rfl, h, r⟩ := w0.scr x
    exact ⟨a, us, rfl, .inl h, fun l hl => o.lst x r hl⟩
  · rename_i ds; cases e
    obtain ⟨v, rfl, w0⟩ := w.one
    obtain ⟨a, us, rfl, h, r⟩ := w0.tup x
    exact ⟨a, us, rfl, .inr h, fun l hl => o.lst x r hl⟩
  · cases e
end

/-- a type: a built-in one, or the class of a name -/
abbrev Ty := String ⊕ Str
def tyD : D → Option Ty
  | .non => some (.inl "NoneType")
  | .bl _ => some (.inl "bool")
  | .int _ => some (.inl "int")
  | .str _ => some (.inl "str")
  | .lst _ => some (.inl "list")
  | .scr _ => some (.inl "list")
  | .tup _ => some (.inl "tuple")
  | .obj x _ _ => some (.inr x)
  | _ => none
def clD : D → Option Ty
  | .ty n => some (.inl n)
  | .gl x => some (.inr x)
  | _ => none
abbrev Tab := List (Ty × Ty × Bool)
def tabGet (t : Tab) (a b : Ty) : Option Bool := (t.find? fun p => decide (p.1 = a) && decide (p.2.1 = b)).map (·.2.2)
def TyVal (mg : Str → Option Value) : Ty → Value → Prop
  | .inl s, v => v = .type s
  | .inr x, v => mg x = some v
/-- the table tells the truth -/
structure TabOk (K : PySem.W.Frag) (mg : Str → Option Value) (t : Tab) : Prop where
  ans : ∀ p ∈ t, ∀ u v, TyVal mg p.1 u → TyVal mg p.2.1 v → PySem.W.kitOne K u v = some p.2.2
  own : ∀ p ∈ t, ∀ x C, p.1 = .inr x → mg x = some (.ref C) → Cls K C ∧ PySem.W.findIn K (.ref C) "__class__" = some (some (.builtin "object.__class__")) ∧ PySem.W.mroIn K C (.type "object") = some true
  sp : PySem.W.specialIn K (.builtin "object.__class__") "__get__" = some (some (.builtin "getset_descriptor.__get__"))
  tk : PySem.W.takesIn K (.builtin "object.__class__") = some true
theorem tabGet_mem {t : Tab} {a b : Ty} {r : Bool} (h : tabGet t a b = some r) : (a, b, r) ∈ t := by
  unfold tabGet at h
  cases q : t.find? fun p => decide (p.1 = a) && decide (p.2.1 = b) with
  | none => rw [q] at h; cases h
  | some p =>
    rw [q] at h
    have h1 := List.mem_of_find?_eq_some q
    have h2 := List.find?_some q
    rw [Bool.and_eq_true] at h2
    have e1 := of_decide_eq_true h2.1
    have e2 := of_decide_eq_true h2.2
    cases h
    obtain ⟨p1, p2, p3⟩ := p
    dsimp only at e1 e2
    subst e1 e2
    exact h1
def isiN (t : Tab) : List D → Option OV
  | [d, e] => match tyD d, clD e with
    | some a, some b => (tabGet t a b).map fun r => .frz (.bl r)
    | _, _ => none
  | _ => none
section
variable {c : Ct} {X : Cx}
/-- the type of what stands at v -/
theorem tyx_of {t : Tab} (T : TabOk c.K c.mg t) {G H : Hp} (x : Ex G H) {v : V} {d : D} {a b : Ty} {r : Bool} (w : Vw c G H v d) (e : tyD d = some a) (hm : (a, b, r) ∈ t) : ∃ u, TyVal c.mg a u ∧ TyX c.K H v u := by
  have seq : ∀ {p : Addr} {xs : List V}, SqL c.K H p xs → TyX c.K H (.ref p) (.type "list") := fun {p xs} h => by
    rcases h with (h | ⟨o, h⟩) | ⟨o, its, n, h, hc, _⟩
    · exact .base (.lst h)
    · exact .base (.frz h)
    · exact .kList h hc
  have tup : ∀ {p : Addr} {xs : List V}, SqT c.K H p xs → TyX c.K H (.ref p) (.type "tuple") := fun {p xs} h => by
    rcases h with (h | ⟨o, h⟩) | ⟨o, its, n, h, hc, _⟩
    · exact .base (.tup h)
    · exact .fTuple h
    · exact .kTuple h hc
  cases d <;> first | (cases e; done) | skip
  · cases e
    have : v = .non := by
      generalize hd : D.non = d at w
      cases w with
      | rep r => subst hd; exact r.vnon
      | @own a ho o h1 w z => cases o with | dk _ _ => cases z | lst _ => cases hd | obj _ _ _ => cases hd
    subst this
    exact ⟨_, rfl, .base .non⟩
  · cases e; rw [w.bl]; exact ⟨_, rfl, .base (.bl _)⟩
  · cases e; rw [w.int]; exact ⟨_, rfl, .base (.int _)⟩
  · cases e; rw [w.str]; exact ⟨_, rfl, .base (.str _)⟩
  · cases e; obtain ⟨p, us, rfl, h, _⟩ := w.tup x; exact ⟨_, rfl, tup h⟩
  · cases e; obtain ⟨p, us, rfl, h, _⟩ := w.lst x; exact ⟨_, rfl, .base (.lst h)⟩
  · cases e; obtain ⟨p, us, rfl, h, _⟩ := w.scr x; exact ⟨_, rfl, seq h⟩
  · cases e
    obtain ⟨p, C, dx, fs, rfl, hC, h, _⟩ := w.obj x
    obtain ⟨k1, k2, k3⟩ := T.own _ hm _ C rfl hC
    exact ⟨_, hC, .base (.ins h k1 k2 T.sp T.tk k3)⟩
theorem o_isi {t : Tab} (T : TabOk c.K c.mg t) : OpN c (rIsi c.K) (isiN t) := fun G H vs ds z Q x w e o => by
  unfold isiN at e
  split at e
  · rename_i d e2
    split at e
    · rename_i a b h1 h2
      cases q : tabGet t a b with
      | none => rw [q] at e; cases e
      | some r =>
        rw [q] at e
        cases e
        have hm := tabGet_mem q
        obtain ⟨v, u, rfl, w1, w2⟩ := w.two
        obtain ⟨tv, t1, t2⟩ := tyx_of T x w1 h1 hm
        cases e2 <;> first | (cases h2; done) | skip
        · cases h2
          rw [w2.ty]
          exact ⟨v, _, tv, .type _, r, rfl, .ty _, t2, T.ans _ hm _ _ t1 rfl, o.bl x⟩
        · cases h2
          obtain ⟨p, rfl, hp⟩ := w2.gl
          exact ⟨v, _, tv, .ref p, r, rfl, .own p, t2, T.ans _ hm _ _ t1 hp, o.bl x⟩
    · cases e
  · cases e
/-- one of several classes -/
def isiAll (t : Tab) (a : Ty) : List D → Option Bool
  | [] => some false
  | e :: es => match clD e with
    | some b => match tabGet t a b with
      | some true => if es.all (fun e => (clD e).isSome) = true then some true else none
      | some false => isiAll t a es
      | none => none
    | none => none
end
end Zed
set_option Elab.async false
set_option linter.all false
set_option maxRecDepth 100000
set_option maxHeartbeats 4000000
namespace Zed
open PySem L2 PySem.Spec PyProof.Rows

def strsOf : List D → Option (List Str)
  | [] => some []
  | .str s :: ds => match strsOf ds with
    | some l => some (s :: l)
    | none => none
  | _ :: _ => none
theorem strsOf_ok {c : Ct} {G : Hp} : ∀ {ds : List D} {vs : List V} {ys : List Str}, Reps c G vs ds → strsOf ds = some ys → vs = ys.map V.str
  | [], _, _, r, e => by cases r; cases e; rfl
  | d :: ds, _, ys, r, e => by
    cases r with
    | cons h r =>
      cases d <;> first | (cases e; done) | skip
      unfold strsOf at e
      split at e
      · rename_i l q
        cases e
        rw [h.vstr, strsOf_ok r q]; rfl
      · cases e
def isdigitM : D → List D → Option OV
  | .str a, [] => some (.frz (.bl (Txt.isdigit a)))
  | _, _ => none
def upperM : D → List D → Option OV
  | .str a, [] => if a.length ≤ 5592405 then some (.frz (.str (Txt.upper a))) else none
  | _, _ => none
def splitM : D → List D → Option OV
  | .str a, [.str b] => if (b.length == 0) = false ∧ a.length + 2 ≤ sizeLine then some (.new (.lst ((Txt.split a b).map D.str))) else none
  | _, _ => none
def joinM : D → List D → Option OV
  | .str a, [.lst ds] => match strsOf ds with
    | some ys => if (ys.map (·.length)).sum + ys.length * a.length ≤ 16777216 then some (.frz (.str (Txt.join a ys))) else none
    | none => none
  | .str a, [.tup ds] => match strsOf ds with
    | some ys => if (ys.map (·.length)).sum + ys.length * a.length ≤ 16777216 then some (.frz (.str (Txt.join a ys))) else none
    | none => none
  | _, _ => none
theorem reps_str {c : Ct} {G : Hp} : ∀ {ys : List Str}, Reps c G (ys.map V.str) (ys.map D.str)
  | [] => .nil
  | y :: ys => .cons .str reps_str
section
variable {c : Ct} {X : Cx}
theorem o_isdigit : OpM c (fun x xs H Q => ∃ a, x = .str a ∧ xs = [] ∧ True ∧ Q (.bl (Txt.isdigit a)) H) isdigitM := fun G H v d vs ds z Q x w ws e o => by
  unfold isdigitM at e
  split at e
  · rename_i a; cases e
    rw [w.str, ws.nil]
    exact ⟨a, rfl, rfl, trivial, o.bl x⟩
  · cases e
theorem o_upper : OpM c (fun x xs H Q => ∃ a, x = .str a ∧ xs = [] ∧ a.length ≤ 5592405 ∧ Q (.str (Txt.upper a)) H) upperM := fun G H v d vs ds z Q x w ws e o => by
  unfold upperM at e
  split at e
  · rename_i a
    split at e
    · rename_i hl; cases e
      rw [w.str, ws.nil]
      exact ⟨a, rfl, rfl, hl, o.str x⟩
    · cases e
  · cases e
theorem o_split : OpM c (fun x xs H Q => ∃ a b, x = .str a ∧ xs = [.str b] ∧ (b.length == 0) = false ∧ a.length + 2 ≤ sizeLine ∧ rNewStrs (Txt.split a b) H Q) splitM := fun G H v d vs ds z Q x w ws e o => by
  unfold splitM at e
  split at e
  · rename_i a b
    split at e
    · rename_i hl; cases e
      obtain ⟨u, rfl, w1⟩ := ws.one
      rw [w.str, w1.str]
      exact ⟨a, b, rfl, rfl, hl.1, hl.2, fun p hp => o.lst x reps_str hp⟩
    · cases e
  · cases e
theorem o_join : OpM c (fun x xs H Q => ∃ a p, ∃ ys : List Str, x = .str a ∧ xs = [.ref p] ∧ (SqL c.K H p (ys.map V.str) ∨ SqT c.K H p (ys.map V.str)) ∧ (ys.map (·.length)).sum + ys.length * a.length ≤ 16777216 ∧ Q (.str (Txt.join a ys)) H) joinM := fun G H v d vs ds z Q x w ws e o => by
  unfold joinM at e
  split at e
  · rename_i a es
    split at e
    · rename_i ys q
      split at e
      · rename_i hl; cases e
        obtain ⟨u, rfl, w1⟩ := ws.one
        obtain ⟨p, us, rfl, h, r⟩ := w1.lst x
        rw [w.str]
        have := strsOf_ok r q
        subst this
        exact ⟨a, p, ys, rfl, rfl, .inl (SqL.of h), hl, o.str x⟩
      · cases e
    · cases e
  · rename_i a es
    split at e
    · rename_i ys q
      split at e
      · rename_i hl; cases e
        obtain ⟨u, rfl, w1⟩ := ws.one
        obtain ⟨p, us, rfl, h, r⟩ := w1.tup x
        rw [w.str]
        have := strsOf_ok r q
        subst this
        exact ⟨a, p, ys, rfl, rfl, .inr h, hl, o.str x⟩
      · cases e
    · cases e
  · cases e
/-- the first place of a text -/
def indexM : D → List D → Option OV
  | .lst ds, [.str s] => match strsOf ds with
    | some ys => match ys.findIdx? (fun y => decide (y = s)) with
      | some j => some (.frz (.int (j : Nat)))
      | none => none
    | none => none
  | _, _ => none
theorem o_index : OpM c (rIndex c.K) indexM := fun G H v d vs ds z Q x w ws e o => by
  unfold indexM at e
  split at e
  · rename_i es s
    split at e
    · rename_i ys q
      split at e
      · rename_i j hj; cases e
        obtain ⟨u, rfl, w1⟩ := ws.one
        obtain ⟨p, us, rfl, h, r⟩ := w.lst x
        rw [w1.str]
        have := strsOf_ok r q
        subst this
        obtain ⟨hlt, hp, hno⟩ := List.findIdx?_eq_some_iff_getElem.mp hj
        have hp := of_decide_eq_true hp
        refine ⟨p, _, .str s, j, .str s, rfl, rfl, SqL.of h, rfl, ?_, ?_, ?_, ?_, o.int x⟩
        · simp [flatV]
        · rw [List.getElem?_map, List.getElem?_eq_getElem hlt, hp]; rfl
        · show (s == s) = true
          simp
        · intro m z' hm hz
          have hm' : m < ys.length := Nat.lt_trans hm hlt
          rw [List.getElem?_map, List.getElem?_eq_getElem hm'] at hz
          cases hz
          have := hno m hm
          show (ys[m] == s) = false
          simpa using this
      · cases e
    · cases e
  · cases e
end

def chainE (o1 o2 : D → D → Option OV) (fa fb fc : Exp) : Exp := fun env => Rs.b (fa env) fun ra e1 => Rs.b (fb e1) fun rb e2 => match peek2 o1 ra rb e2 with
  | some (.frz (.bl true)) => Rs.b (fc e2) fun rc e3 => out (peek2 o2 rb rc e3) e3
  | some (.frz (.bl false)) => some (.val (.frz (.bl false)) e2)
  | _ => none
section
variable {c : Ct} {W : WX} {X : Cx} {ta tb tc : TE} {fa fb fc : Exp} {r r' : R2} {o1 o2 : D → D → Option OV} {a b d : Expr} {pos : Pos}
theorem Ev.chain (h1 : Op2 c r o1) (h2 : Op2 c r' o2) (ha : Ev RvOk c W ta fa) (hb : Ev RvOk c W tb fb) (hc : Ev RvOk c W tc fc) : Ev RvOk c W (tChain r r' ta tb tc) (chainE o1 o2 fa fb fc) := fun env σ G H r0 Q p => by
  refine ha.use (Step.refl r0) p fun ra e1 v1 G1 H1 s1 _ ok1 p => hb.use s1 p fun rb e2 v2 G2 H2 s2 s12 ok2 p => ?_
  have k1 := ok1.step r0 s1 s12
  have ok2' : RvOk c σ H e2 G2 H2 v2 rb := ok2.back s1.al
  cases q1 : peek ra e2 with
  | none => unfold peek2 at p; rw [q1] at p; exact p.elim
  | some da =>
    cases q2 : peek rb e2 with
    | none => unfold peek2 at p; rw [q1, q2] at p; exact p.elim
    | some db =>
      have e0 : peek2 o1 ra rb e2 = o1 da db := by unfold peek2; rw [q1, q2]
      rw [e0] at p
      cases q3 : o1 da db with
      | none => rw [q3] at p; exact p.elim
      | some ov =>
        rw [q3] at p
        refine h1 G2 H2 v1 v2 da db ov _ s2.rel.ex (peek_ok s2.rel k1 q1) (peek_ok s2.rel ok2' q2) q3 ?_
        cases ov with
        | new o => exact p.elim
        | frz z =>
          intro v G' H' w rp
          cases z <;> first | (exact p.elim) | skip
          rename_i k
          refine ⟨k, rp.vbl, ?_⟩
          have s3 := w.step s2.rel
          have s := s2.trans s3
          cases k with
          | false => exact p _ G' H' s .bl
          | true =>
            rw [if_pos rfl]
            refine hc.use s p fun rc e3 v3 G3 H3 s4 s34 ok3 p => ?_
            have k2 := (ok2'.step r0 s2 s3).step r0 s s34
            obtain ⟨z, hz, oo⟩ := s4.out p
            unfold peek2 at hz
            split at hz
            · rename_i db' dc q4 q5
              exact h2 G3 H3 v2 v3 db' dc z Q s4.rel.ex (peek_ok s4.rel k2 q4) (peek_ok s4.rel (ok3.back s.al) q5) hz oo
            · cases hz
theorem SE.chain {op op' : CmpOp} (ho : OpR X (compareOp op) r) (h1 : Op2 (ct X) r o1) (ho' : OpR X (compareOp op') r') (h2 : Op2 (ct X) r' o2) (ha : SE X W a fa) (hb : SE X W b fb) (hc : SE X W d fc) (hm : lastMarks [op, op'] [b, d] = false := by with_unfolding_all rfl) :
    SE X W (.Compare a [op, op'] [b, d] pos) (chainE o1 o2 fa fb fc) := let ⟨_, p1, q1⟩ := ha; let ⟨_, p2, q2⟩ := hb; let ⟨_, p3, q3⟩ := hc; ⟨_, pe_chain ho ho' p1 p2 p3 hm, q1.chain h1 h2 q2 q3⟩
theorem ST.chain {op op' : CmpOp} (ho : OpR X (compareOp op) r) (h1 : Op2 (ct X) r o1) (ho' : OpR X (compareOp op') r') (h2 : Op2 (ct X) r' o2) (ha : SE X W a fa) (hb : SE X W b fb) (hc : SE X W d fc) (hm : lastMarks [op, op'] [b, d] = false := by with_unfolding_all rfl) :
    ST X W (.Compare a [op, op'] [b, d] pos) (Zed.tst (chainE o1 o2 fa fb fc)) := let ⟨_, p1, q1⟩ := ha; let ⟨_, p2, q2⟩ := hb; let ⟨_, p3, q3⟩ := hc; ⟨_, pt_chain ho ho' p1 p2 p3 hm, (q1.chain h1 h2 q2 q3).tst⟩
end

def isiOne (t : Tab) (d : D) (cs : List D) : Option Bool := match tyD d with
  | some a => if 0 < cs.length ∧ cs.length ≤ 1000 then isiAll t a cs else none
  | none => none
def isiTE (t : Tab) (f : Exp) (g : Dargs) : Exp := fun env => Rs.b (f env) fun r e1 => Rs.b (g e1) fun cs e2 => match peek r e2 with
  | some d => match isiOne t d cs with
    | some b => some (.val (.frz (.bl b)) e2)
    | none => none
  | none => none
section
variable {c : Ct} {W : WX} {X : Cx} {e : Expr} {es : List Expr} {f : Exp} {g : Dargs} {p p2 pos : Pos} {k : Nat}
theorem cls_all {c : Ct} {G : Hp} : ∀ {cs : List D} {vs : List V}, Reps c G vs cs → cs.all (fun e => (clD e).isSome) = true → ∃ us, Paired ClsV vs us
  | [], _, r, _ => by cases r; exact ⟨[], .nil⟩
  | d :: cs, _, r, h => by
    cases r with
    | cons h1 r =>
      rw [List.all_cons, Bool.and_eq_true] at h
      obtain ⟨us, k⟩ := cls_all r h.2
      have h0 := h.1
      cases d <;> first | (cases h0; done) | skip
      · cases h1; exact ⟨_, .cons (.ty _) k⟩
      · cases h1; exact ⟨_, .cons (.own _) k⟩
theorem isiAll_ok {t : Tab} (T : TabOk c.K c.mg t) {G : Hp} {u : Value} {a : Ty} (hu : TyVal c.mg a u) : ∀ {cs : List D} {vs : List V} {b : Bool}, Reps c G vs cs → isiAll t a cs = some b → ∃ us, Paired ClsV vs us ∧ PySem.W.kitAny c.K u us = some b
  | [], _, b, r, e => by cases r; cases e; exact ⟨[], .nil, rfl⟩
  | d :: cs, _, b, r, e => by
    cases r with
    | @cons v _ vs _ h r =>
      unfold isiAll at e
      split at e
      · rename_i ty hty
        have key : ∀ {r : Bool}, tabGet t a ty = some r → ∃ w, ClsV v w ∧ PySem.W.kitOne c.K u w = some r := fun {r} q => by
          have hm := tabGet_mem q
          cases d <;> first | (cases hty; done) | skip
          · cases hty; cases h; exact ⟨_, .ty _, T.ans _ hm _ _ hu rfl⟩
          · cases hty; cases h with | gl hg => exact ⟨_, .own _, T.ans _ hm _ _ hu hg⟩
        split at e
        · rename_i q
          split at e
          · rename_i hall
            cases e
            obtain ⟨w, h1, h2⟩ := key q
            obtain ⟨us, h3⟩ := cls_all r hall
            refine ⟨w :: us, .cons h1 h3, ?_⟩
            unfold PySem.W.kitAny
            rw [h2]
          · cases e
        · rename_i q
          obtain ⟨w, h1, h2⟩ := key q
          obtain ⟨us, h3, h4⟩ := isiAll_ok T hu r e
          refine ⟨w :: us, .cons h1 h3, ?_⟩
          unfold PySem.W.kitAny
          rw [h2]
          exact h4
        · cases e
      · cases e
theorem isiAll_nil {t : Tab} {a : Ty} {cs : List D} {b : Bool} (h : isiAll t a cs = some b) : (b = false ∧ cs = []) ∨ ∃ ty r, (a, ty, r) ∈ t := by
  cases cs with
  | nil => cases h; exact .inl ⟨rfl, rfl⟩
  | cons d cs =>
    unfold isiAll at h
    split at h
    · rename_i ty hty
      split at h
      · rename_i q; exact .inr ⟨_, _, tabGet_mem q⟩
      · rename_i q; exact .inr ⟨_, _, tabGet_mem q⟩
      · cases h
    · cases h
theorem SE.isiT {t : Tab} (T : TabOk (ct X).K (ct X).mg t) (hm : X.mg "isinstance" = none) (hf : SE X W e f) (hg : SDA X W es g) (hG : Gl X "isinstance" := by rfl)
    (he : starEach [e, .Tuple es k p2] X.env = (false, eval e X.env) :: starEach [.Tuple es k p2] X.env := by rfl) (he2 : starEach [.Tuple es k p2] X.env = (false, eval (.Tuple es k p2) X.env) :: starEach [] X.env := by rfl)
    (hpl : (backTo pos (starEach [.Tuple es k p2] X.env)).any (·.1) = false := by rfl) : SE X W (.Call (.Name "isinstance" p) [e, .Tuple es k p2] [] pos) (isiTE t f g) := by
  obtain ⟨te, p1, q1⟩ := hf
  obtain ⟨ta, p3, q3⟩ := hg
  refine ⟨_, pe_callB call_isiT hG hm PyProof.Rows.boot_isinstance (pa_cons p1 (pa_cons (pe_tup p3) pa_nil he2) he) (by decide) (by decide) he hpl, fun env σ G H r0 Q p => ?_⟩
  refine q1.use (Step.refl r0) p fun r e1 v G1 H1 s1 _ ok1 p => q3.use s1 p fun cs e2 vs G2 H2 s2 s12 ok2 p => ?_
  have ok2 : Reps (ct X) G2 vs cs := ok2
  have k1 := ok1.step r0 s1 s12
  cases q : peek r e2 with
  | none => rw [q] at p; exact p.elim
  | some d =>
    rw [q] at p
    dsimp only at p
    cases q4 : isiOne t d cs with
    | none => rw [q4] at p; exact p.elim
    | some b =>
      rw [q4] at p
      unfold isiOne at q4
      split at q4
      · rename_i a q5
        split at q4
        · rename_i hlen
          refine ⟨by rw [ok2.length]; exact Nat.le_trans hlen.2 (by decide), fun pt hp => ?_⟩
          have w : Grow G2 H2 G2 (upd H2 pt (.tup vs)) := Grow.own s2.rel.ex hp
          have wv : Vw (ct X) G2 (upd H2 pt (.tup vs)) v d := (peek_ok s2.rel k1 q).mono (Ex.refl _) w.h
          rcases isiAll_nil q4 with ⟨_, z⟩ | ⟨ty, rr, hmem⟩
          · rw [z] at hlen; exact absurd hlen.1 (by decide)
          · obtain ⟨u, hu, tx⟩ := tyx_of T w.x wv q5 hmem
            obtain ⟨us, h3, h4⟩ := isiAll_ok T hu ok2 q4
            exact ⟨v, pt, vs, u, us, b, rfl, upd_same, h3, tx, h4, p _ G2 _ (s2.trans (w.step s2.rel)) .bl⟩
        · cases q4
      · cases q4
end
end Zed
set_option Elab.async false
set_option linter.all false
set_option maxRecDepth 100000
set_option maxHeartbeats 4000000
namespace Zed
open PySem L2 PySem.Spec PyProof.Rows

def ownL (r : RV) (env : Env) : Option (Nat × List D) := match r with
  | .slot i => match env[i]? with
    | some (some (.own (.lst ds))) => some (i, ds)
    | _ => none
  | _ => none
theorem ownL_ok {c : Ct} {σ : L2.St} {H0 : Hp} {env : Env} {G H : Hp} {v : V} {r : RV} {i : Nat} {ds : List D} (rl : Rel c env σ G H) (ok : RvOk c σ H0 env G H v r) (e : ownL r env = some (i, ds)) :
    r = .slot i ∧ env[i]? = some (some (.own (.lst ds))) ∧ ∃ a vs, v = .ref a ∧ σ[i]? = some (some (.ref a)) ∧ H a = some (.lst vs) ∧ Reps c G vs ds := by
  unfold ownL at e
  split at e
  · split at e
    · rename_i he
      cases e
      obtain ⟨v', h1, a, ho, rfl, g, h2, w⟩ := rl.sl _ _ he
      obtain ⟨vs, rfl, rs⟩ := w
      rw [show σ[i]? = some (some v) from ok] at h1
      cases h1
      exact ⟨rfl, he, a, vs, rfl, ok, h2, rs⟩
    · cases e
  · cases e
def OpU (c : Ct) (r : V → List V → Hp → VK → Prop) (o : List D → List D → Option (List D)) : Prop := ∀ G H a vs us xs ds ys Q, H a = some (.lst vs) → Reps c G vs xs → Reps c G us ds → o xs ds = some ys → (∀ ws, Reps c G ws ys → Q .non (upd H a (.lst ws))) → r (.ref a) us H Q
def mutE (o : List D → List D → Option (List D)) (f : Exp) (g : Dargs) : Exp := fun env => Rs.b (f env) fun r e1 => match ownL r e1 with
  | some _ => Rs.b (g e1) fun ds e2 => match ownL r e2 with
    | some (i, xs) => match o xs ds with
      | some ys => some (.val (.frz .non) (e2.set i (some (.own (.lst ys)))))
      | none => none
    | none => none
  | none => none
/-- the own list at slot i has become ys -/
theorem mut_step {c : Ct} {σ : L2.St} {env : Env} {G H : Hp} {i : Nat} {a : Addr} {xs ys : List D} {ws : List V} (r : Rel c env σ G H) (he : env[i]? = some (some (.own (.lst xs)))) (hs : σ[i]? = some (some (.ref a))) (w : Reps c G ws ys) : Step c σ env G H (env.set i (some (.own (.lst ys)))) G (upd H a (.lst ws)) := by
  refine (SStep.mut (F := fun _ => true) r he hs (o' := .lst ys) ⟨ws, rfl, w⟩).toStep fun j o h => ?_
  rcases get_set' h with ⟨rfl, _, _⟩ | ⟨_, z⟩
  · exact ⟨_, he⟩
  · exact ⟨o, z⟩
section
variable {c : Ct} {W : WX} {X : Cx} {e o : Expr} {es : List Expr} {f : Exp} {g : Dargs} {r : V → List V → Hp → VK → Prop} {m : List D → List D → Option (List D)} {name : Str} {apos cpos : Pos} {id : String}
theorem Ev.mut {to : TE} {ta : TA} (h : OpU c r m) (hf : Ev RvOk c W to f) (hg : Ev okDs c W ta g) : Ev RvOk c W (tBM c.K "list" r to ta) (mutE m f g) := fun env σ G H r0 Q p => by
  refine hf.use (Step.refl r0) p fun ra e1 v G1 H1 s1 _ ok1 p => ?_
  split at p
  · rename_i u q1
    obtain ⟨i, xs⟩ := u
    obtain ⟨_, _, a, vs, rfl, _, h1, _⟩ := ownL_ok s1.rel ok1 q1
    refine ⟨.inl ⟨rfl, vs, SqL.of h1⟩, ?_⟩
    refine hg.use s1 p fun ds e2 us G2 H2 s2 s12 ok2 p => ?_
    have k1 := ok1.step r0 s1 s12
    split at p
    · rename_i j ys q2
      obtain ⟨_, he, a', vs', e', hs, h2, r2⟩ := ownL_ok s2.rel k1 q2
      cases e'
      split at p
      · rename_i zs q3
        exact h G2 H2 a vs' us ys ds zs Q h2 r2 ok2 q3 fun ws rw' => p _ G2 _ (s2.trans (mut_step s2.rel he hs rw')) .non
      · exact p.elim
    · exact p.elim
  · exact p.elim
theorem SE.mut (h : OpU (ct X) r m) (slot : Slot "list" name id) (hty : typeOf (.builtin id) = pure (.type "method_descriptor")) (hm : MtR X id r) (hf : SE X W o f) (hg : SDA X W (e :: es) g)
    (hbase : attributeBase o name X.env (eval o X.env) = eval o X.env := by rfl)
    (hfew : ((backTo cpos (starEach (e :: es) X.env)).all (fun x => !x.1) && ((backToKw cpos (keywordEach [] X.env)).all (fun x => x.1.isSome) && decide ((e :: es).length + ([] : List Keyword).length + (if ([] : List Keyword).isEmpty then 0 else 1) < 30))) = true := by rfl)
    (hline : (apos.endLine == cpos.line) = true := by rfl) (hs : starEach (e :: es) X.env = (false, eval e X.env) :: starEach es X.env := by rfl) (hplain : (backTo cpos (starEach es X.env)).any (·.1) = false := by rfl) :
    SE X W (.Call (.Attribute o name apos) (e :: es) [] cpos) (mutE m f g) := by
  obtain ⟨to, p1, q1⟩ := hf
  obtain ⟨ta, p2, q2⟩ := hg
  exact ⟨_, pe_bm PySem.F.plainAttrs_list slot hty hm p1 p2 hbase (by rw [Bool.and_assoc]; exact hfew) hline hs hplain, q1.mut h q2⟩
def appendU : List D → List D → Option (List D)
  | xs, [d] => if xs.length < sizeLine then some (xs ++ [d]) else none
  | _, _ => none
def insertU : List D → List D → Option (List D)
  | xs, [.int i, d] => if xs.length < sizeLine ∧ 0 ≤ i ∧ i < 2 ^ 63 then some (xs.take i.toNat ++ [d] ++ xs.drop i.toNat) else none
  | _, _ => none
theorem u_append : OpU c rAppend appendU := fun G H a vs us xs ds ys Q h r r2 e k => by
  unfold appendU at e
  split at e
  · split at e
    · rename_i hl; cases e
      obtain ⟨u, rfl, ru⟩ := r2.one
      exact ⟨a, vs, u, rfl, rfl, h, by rw [r.length]; exact hl, k _ (r.snoc ru)⟩
    · cases e
  · cases e
theorem u_insert : OpU c (fun x vs H Q => ∃ (l : Addr) (xs : List V) (i : Int) (y : V), x = .ref l ∧ vs = [.int i, y] ∧ H l = some (.lst xs) ∧ xs.length < sizeLine ∧ 0 ≤ i ∧ i < 2 ^ 63 ∧ Q .non (upd H l (.lst (xs.take i.toNat ++ [y] ++ xs.drop i.toNat)))) insertU := fun G H a vs us xs ds ys Q h r r2 e k => by
  unfold insertU at e
  split at e
  · split at e
    · rename_i hl; cases e
      obtain ⟨u, w, rfl, ru, rw'⟩ := r2.two
      rw [ru.vint]
      exact ⟨a, vs, _, w, rfl, rfl, h, by rw [r.length]; exact hl.1, hl.2.1, hl.2.2, k _ (((r.take _).append (.cons rw' .nil)).append (r.drop _))⟩
    · cases e
  · cases e
end

def subS (fo fi fe : Exp) : Stm := fun env => Rs.s (fzE fe env) fun d e1 => Rs.s (fo e1) fun r e2 => Rs.s (fzE fi e2) fun k e3 => match k with
  | .int z => match ownL r e3 with
    | some (j, xs) => match ixN xs.length z with
      | some n => some (.nx (e3.set j (some (.own (.lst (xs.set n d))))))
      | none => none
    | none => none
  | _ => none
def putNs (f : Str) : List Str → List Str
  | [] => [f]
  | n :: ns => if n = f then n :: ns else n :: putNs f ns
def putDs (f : Str) (d : D) : List Str → List D → List D
  | n :: ns, x :: ds => if n = f then d :: ds else x :: putDs f d ns ds
  | _, _ => [d]
def fldS (f : Str) (cs : List Str) (fo fe : Exp) : Stm := fun env => Rs.s (fzE fe env) fun d e1 => Rs.s (fo e1) fun r e2 => match r with
  | .slot i => match e2[i]? with
    | some (some (.own (.obj x ns ds))) => if x ∈ cs ∧ ns.length < 1000 then some (.nx (e2.set i (some (.own (.obj x (putNs f ns) (putDs f d ns ds)))))) else none
    | _ => none
  | _ => none
def unpS (b : Bnd) (fe : Exp) : Stm := fun env => Rs.s (fzE fe env) fun d e1 => match b d e1 with
  | some e2 => some (.nx e2)
  | none => none
section
variable {F : Nat → Bool} {W : WX} {X : Cx} {o i e tg : Expr} {fo fi fe : Exp} {pos pos' : Pos} {f : Str}
theorem S1.sub (ho : SE X W o fo) (hi : SE X W i fi) (he : SE X W e fe) (hs : swapsWithSole [.Subscript o i pos'] e pos.line X.env = pure false := by rfl) (hw : swappedStores [.Subscript o i pos'] e X.env = pure none := by rfl)
    (h1 : (assignEach [.Subscript o i pos'] X.env).map (·.2) = [assign (.Subscript o i pos') X.env] := by rfl)
    (ha : ∀ v, assign (.Subscript o i pos') X.env v = (do
      let ov ← holding [v] (eval o X.env)
      let iv ← holding [v, ov] (eval i X.env)
      standAt pos'
      holding [v, ov, iv] (setItem ov iv v)
      release [v, ov, iv] []) := by intro _; rfl) : S1 X W F (.Assign [.Subscript o i pos'] e pos) (subS fo fi fe) := by
  obtain ⟨to, p1, q1⟩ := ho
  obtain ⟨ti, p2, q2⟩ := hi
  obtain ⟨te, p3, q3⟩ := he
  refine ⟨_, ps_asg p3 (pg_sub p1 p2 set_list ha) hs hw h1, fun env σ G H r D p => ?_⟩
  refine q3.fz.uses (SStep.refl r) p fun d e1 v G1 H1 s1 _ ok1 p => q1.uses s1 p fun ra e2 u G2 H2 s2 s12 ok2 p => q2.fz.uses s2 p fun k e3 w G3 H3 s3 s23 ok3 p => ?_
  have ok1 : Rep (ct X) G1 v d := ok1
  obtain ⟨z, rfl⟩ : ∃ z, k = Zed.D.int z := by
    cases k <;> first | (exact p.elim) | exact ⟨_, rfl⟩
  have ok3 : Rep (ct X) G3 w (.int z) := ok3

  cases q4 : ownL ra e3 with
  | none => rw [q4] at p; exact p.elim
  | some jx =>
    obtain ⟨j, xs⟩ := jx
    rw [q4] at p
    dsimp only at p
    have k2 : RvOk (ct X) σ H1 e3 G3 H3 u ra := ok2.step s1.rel s12 s23
    obtain ⟨_, hje, a, vs, rfl, hsj, h3, r3⟩ := ownL_ok s3.rel k2 q4
    cases q5 : ixN xs.length z with
    | none => rw [q5] at p; exact p.elim
    | some n =>
      rw [q5] at p
      rw [ok3.vint]
      refine ⟨a, vs, z, n, rfl, rfl, h3, by rw [r3.length]; exact q5, p σ G3 _ (s3.trans ((mut_step s3.rel hje hsj (r3.set (Rep.mono (s12.g.trans s23.g) ok1) n)).s s3.rel))⟩
theorem put_names {f : Str} {v : V} : ∀ {fs : List (Str × V)}, (putF f v fs).map (·.1) = putNs f (fs.map (·.1))
  | [] => rfl
  | (n, x) :: fs => by
    show List.map (·.1) (if n = f then (n, v) :: fs else (n, x) :: putF f v fs) = if n = f then n :: fs.map (·.1) else n :: putNs f (fs.map (·.1))
    split
    · rfl
    · exact congrArg (n :: ·) put_names
theorem put_reps {c : Ct} {G : Hp} {f : Str} {v : V} {d : D} (rv : Rep c G v d) : ∀ {fs : List (Str × V)} {ds : List D}, Reps c G (fs.map (·.2)) ds → Reps c G ((putF f v fs).map (·.2)) (putDs f d (fs.map (·.1)) ds)
  | [], _, r => by cases r; exact .cons rv .nil
  | (n, x) :: fs, _, r => by
    cases r with
    | @cons _ d' _ ds h r =>
      show Reps c G (List.map (·.2) (if n = f then (n, v) :: fs else (n, x) :: putF f v fs)) (if n = f then d :: ds else d' :: putDs f d (fs.map (·.1)) ds)
      split
      · exact .cons rv r
      · exact .cons h (put_reps rv r)
theorem S1.fld (cs : List Str) (hF : HasF (ct X) f cs) (ho : SE X W o fo) (he : SE X W e fe) (hs : swapsWith e (some (.Attribute o f pos')) pos.line X.env = pure false := by rfl) : S1 X W F (.Assign [.Attribute o f pos'] e pos) (fldS f cs fo fe) := by
  obtain ⟨to, p1, q1⟩ := ho
  obtain ⟨te, p3, q3⟩ := he
  refine ⟨_, ps_fld p1 p3 hs, fun env σ G H r D p => ?_⟩
  refine q3.fz.uses (SStep.refl r) p fun d e1 v G1 H1 s1 _ ok1 p => q1.uses s1 p fun ra e2 u G2 H2 s2 s12 ok2 p => ?_
  have ok1 : Rep (ct X) G1 v d := ok1
  cases ra with
  | frz _ => exact p.elim
  | new _ => exact p.elim
  | slot i =>
    dsimp only at p
    split at p
    · rename_i x ns ds q4
      split at p
      · rename_i hx
        obtain ⟨v', h1, a, ho, rfl, g, h2, w⟩ := s2.rel.sl i _ q4
        have ok2 : σ[i]? = some (some u) := ok2
        rw [ok2] at h1; cases h1
        obtain ⟨C, dx, fs, hC, rfl, hn, rs⟩ := w
        subst hn
        obtain ⟨k1, k2⟩ := hF x hx.1 C hC
        refine ⟨a, C, dx, fs, rfl, h2, k1, k2, by have := hx.2; rw [List.length_map] at this; exact this, ?_⟩
        exact p σ G2 _ (s2.trans (SStep.mut (F := F) s2.rel q4 ok2 (o' := .obj x (putNs f (fs.map (·.1))) (putDs f d (fs.map (·.1)) ds)) ⟨C, dx, _, hC, rfl, put_names, put_reps (Rep.mono s12.g ok1) rs⟩))
      · exact p.elim
    · exact p.elim
theorem S1.unp {b : Bnd} (hg : SG X F tg b) (he : SE X W e fe) (hs : swapsWithSole [tg] e pos.line X.env = pure false := by rfl) (hw : swappedStores [tg] e X.env = pure none := by rfl)
    (h1 : (assignEach [tg] X.env).map (·.2) = [assign tg X.env] := by rfl) : S1 X W F (.Assign [tg] e pos) (unpS b fe) := by
  obtain ⟨g, p1, q1⟩ := hg
  obtain ⟨te, p3, q3⟩ := he
  refine ⟨_, ps_asg p3 p1 hs hw h1, fun env σ G H r D p => ?_⟩
  refine q3.fz.uses (SStep.refl r) p fun d e1 v G1 H1 s1 _ ok1 p => ?_
  cases q : b d e1 with
  | none => rw [q] at p; exact p.elim
  | some e2 =>
    rw [q] at p
    exact q1 e1 σ G1 H1 v d e2 s1.rel ok1 q _ fun σ' s' => p σ' G1 H1 (s1.trans s')
end
end Zed
set_option Elab.async false
set_option linter.all false
set_option maxRecDepth 100000
set_option maxHeartbeats 4000000
namespace Zed
open PySem L2 PySem.Spec PyProof.Rows

def makeK (cn : Str) (f : FDen) (dd : List D) (rs : List RV) (e1 : Env) : Option (Rs RV) := match normL rs e1 with
  | some (rs', as) => if decide (slotsOf rs').Nodup = true then match f (some (.own (.obj cn [] [])) :: (as ++ dfl dd)) with
      | some (.val (.frz .non) (some (.own o) :: as')) => some (.val (.new o) (putOuts rs' as' e1))
      | _ => none
    else none
  | none => none
def makeE (cn : Str) (f : FDen) (dd : List D) (g : Args) : Exp := fun env => Rs.b (g env) fun rs e1 => makeK cn f dd rs e1
/-- the class cn, its __init__ computing f -/
structure MkS (P : Program) (w : World) (K : PySem.W.Frag) (mg : Str → Option Value) (base : Heap) (k : Nat) (cn : Str) (C : Addr) (f : FDen) (dd : List D) : Prop where
  at_ : mg cn = some (.ref C)
  ex : ∃ fI, Mk K C fI ∧ FnS P w K mg base k f fI dd
section
variable {X : Cx} {W : WX} {k : Nat} {f : FDen} {a C : Addr} {dd : List D} {x m cn : Str} {p pos apos : Pos} {e o : Expr} {es : List Expr} {g : Args} {fo : Exp}
theorem passes0 {X : Cx} : Passes (L2.CX X.prog X.w) X (fun _ _ _ => False) := fun pins σ H s e s' I h => goesAt (W := W0) (X := X) (fun _ _ x => by obtain ⟨_, _, _, _, _, _, _, _, _, _, _, _, _, _, _, _, w⟩ := x; exact w.elim) σ pins H s e s' I h
/-- the heart of it -/
theorem make_ok {c : Ct} {σ : L2.St} {env e1 : Env} {G H G1 H1 : Hp} {vs dvs : List V} {rs : List RV} {np : Nat} {Q : VK} (r0 : Rel c env σ G H) (s1 : Step c σ env G H e1 G1 H1) (ok : okA c σ H e1 G1 H1 vs rs) (hC : c.mg cn = some (.ref C)) (rd : ∀ G, Reps c G dvs dd) (hnp : ∀ as r, f as = some r → as.length = np)
    (p : Post RvOk c W σ env G H Q (makeK cn f dd rs e1)) : ∀ x dx, H1 x = none → H1 dx = none → dx ≠ x → SpOf c np f (.ref x :: (vs ++ dvs)) (upd (upd H1 dx (.own x)) x (.ins C dx [])) (fun v H2 => v = .non ∧ Q (.ref x) H2) (fun _ _ _ => False) := fun x dx hx hdx ne => by
  unfold makeK at p
  split at p
  · rename_i rs' as e
    split at p
    · rename_i hn
      have gx : G1 x = none := s1.rel.ex.none hx
      have w1 : Grow G1 H1 G1 (upd H1 dx (.own x)) := Grow.own s1.rel.ex hdx
      have hx' : upd H1 dx (.own x) x = none := by rw [upd_ne (Ne.symm ne)]; exact hx
      have w2 := w1.trans (Grow.own (o := .ins C dx []) w1.x hx')
      have s12 := w2.step s1.rel
      have s2 := s1.trans s12
      have okx : RvOk c σ H e1 G1 (upd (upd H1 dx (.own x)) x (.ins C dx [])) (.ref x) (.new (.obj cn [] [])) := ⟨x, _, rfl, s1.al x hx, gx, upd_same, C, dx, [], hC, rfl, rfl, .nil⟩
      have oka : okA c σ H e1 G1 (upd (upd H1 dx (.own x)) x (.ins C dx [])) (.ref x :: vs) (.new (.obj cn [] []) :: rs) := by
        obtain ⟨hl, hr, hd⟩ := ok
        have old : ∀ {i : Nat} {v : V} {r : RV} {b : Addr}, vs[i]? = some v → rs[i]? = some r → NewAt v r b → b ≠ x := fun {i v r b} z1 z2 z3 z => by
          obtain ⟨rfl, o, rfl⟩ := z3
          obtain ⟨b', ho, eb, _, _, hb, _⟩ := hr i _ _ z1 z2
          cases eb
          rw [z, hx] at hb; cases hb
        refine ⟨by rw [List.length_cons, List.length_cons, hl], fun i v r h1 h2 => ?_, fun i j v w r q b h1 h2 h3 h4 n1 n2 => ?_⟩
        · cases i with
          | zero => simp at h1 h2; subst h1 h2; exact okx
          | succ i => exact (hr i v r (by simpa using h1) (by simpa using h2)).step r0 s1 s12
        · cases i with
          | zero =>
            cases j with
            | zero => rfl
            | succ j =>
              simp at h1 h3
              subst h1 h3
              exact (old (by simpa using h2) (by simpa using h4) n2 (by obtain ⟨e, _⟩ := n1; cases e; rfl)).elim
          | succ i =>
            cases j with
            | zero =>
              simp at h2 h4
              subst h2 h4
              exact (old (by simpa using h1) (by simpa using h3) n1 (by obtain ⟨e, _⟩ := n2; cases e; rfl)).elim
            | succ j => exact congrArg (· + 1) (hd i j v w r q b (by simpa using h1) (by simpa using h2) (by simpa using h3) (by simpa using h4) n1 n2)
      have en : normL (.new (.obj cn [] []) :: rs) e1 = some (.new (.obj cn [] []) :: rs', some (.own (.obj cn [] [])) :: as) := by
        unfold normL
        rw [e]; rfl
      have k := ArgsOk.of s2 oka (rd G1) en (of_decide_eq_true hn)
      have rl := k.rel r0 s2
      cases q : f (some (.own (.obj cn [] [])) :: (as ++ dfl dd)) with
      | none => rw [q] at p; exact p.elim
      | some er =>
        rw [q] at p
        refine ⟨?_, G1, some (.own (.obj cn [] [])) :: (as ++ dfl dd), rl, ?_⟩
        · have h1 := hnp _ _ q
          have h2 := k.l1
          have h3 := k.l2
          simp only [List.length_cons, List.length_append, List.length_map] at h1 h2 h3 ⊢
          omega
        · rw [q]
          split at p
          · rename_i o as' q2
            cases q2
            intro v G2 H2 s3 ok3
            have ok3 : Rep c G2 v .non := ok3
            refine ⟨ok3.vnon, ?_⟩
            have b := k.back r0 s2 s3
            rw [show putOuts (RV.new (.obj cn [] []) :: rs' ++ dd.map RV.frz) (some (LV.own o) :: as') e1 = putOuts (rs' ++ dd.map RV.frz) as' e1 from rfl, put_dfl] at b
            obtain ⟨v', h1, a, ho, ea, g, h2, w⟩ := s3.rel.sl 0 _ rfl
            have h1 : V.ref x = v' := by simpa using h1
            subst h1
            cases ea
            exact p _ G2 H2 b ⟨x, ho, rfl, s1.al x hx, g, h2, w⟩
          · exact p.elim
    · exact p.elim
  · exact p.elim
theorem SE.make (M : MkS X.prog X.w X.K X.mg X.base k cn C f dd) (hr : Room (k + 1) X.A) (hcalm : X.calm = true) (hg : SA X W (e :: es) g) (hG : Gl X cn := by rfl) (hdb : (cn == ("__debug__" : Str)) = false := by decide)
    (he : starEach (e :: es) X.env = (false, eval e X.env) :: starEach es X.env := by rfl) (hpl : (backTo pos (starEach es X.env)).any (·.1) = false := by rfl) : SE X W (.Call (.Name cn p) (e :: es) [] pos) (makeE cn f dd g) := by
  obtain ⟨fI, M1, F⟩ := M.ex
  obtain ⟨fd, ps, ds, dvs, np, h1, h2, h3, h4, h5⟩ := F.ex
  rw [← ct0 hcalm] at h1
  have h4 : ∀ G, Reps (ct X) G dvs dd := by rw [ct0 hcalm]; exact h4
  obtain ⟨ta, p1, q1⟩ := hg
  refine ⟨_, pe_make M1 h1 hr hG M.at_ h2 h3 passes0 p1 hdb he hpl, fun env σ G H r0 Q p => ?_⟩
  exact q1.use (Step.refl r0) p fun rs e1 vs G1 H1 s1 _ ok p => make_ok r0 s1 ok M.at_ h4 h5 p
/-- .. the class in the i-th name -/
def makeV (i : Nat) (cn : Str) (f : FDen) (dd : List D) (g : Args) : Exp := fun env => match env[i]? with
  | some (some (.frz (.gl y))) => if y = cn then makeE cn f dd g env else none
  | _ => none
theorem SE.makeV (i : Nat) (M : MkS X.prog X.w X.K X.mg X.base k cn C f dd) (hr : Room (k + 1) X.A) (hcalm : X.calm = true) (hg : SA X W (e :: es) g) (hN : X.N[i]? = some x := by rfl) (hv : Vis X.env.scope x := by first | exact Or.inl rfl | exact Or.inr (Or.inl rfl) | exact Or.inr (Or.inr rfl))
    (hdb : (x == ("__debug__" : Str)) = false := by decide) (hcd : (x == ("__classdict__" : Str)) = false := by decide)
    (he : starEach (e :: es) X.env = (false, eval e X.env) :: starEach es X.env := by rfl) (hpl : (backTo pos (starEach es X.env)).any (·.1) = false := by rfl) : SE X W (.Call (.Name x p) (e :: es) [] pos) (Zed.makeV i cn f dd g) := by
  obtain ⟨fI, M1, F⟩ := M.ex
  obtain ⟨fd, ps, ds, dvs, np, h1, h2, h3, h4, h5⟩ := F.ex
  rw [← ct0 hcalm] at h1
  have h4 : ∀ G, Reps (ct X) G dvs dd := by rw [ct0 hcalm]; exact h4
  obtain ⟨ta, p1, q1⟩ := hg
  refine ⟨fun σ H Q => σ[i]? = some (some (.ref C)) ∧ tMake C (SpOf (ct X) np f) dvs (fun _ _ _ => False) ta σ H Q, ⟨fun pins s σ H Q I h => ?_⟩, fun env σ G H r0 Q p => ?_⟩
  · obtain ⟨hs, ht⟩ := h
    refine wpAny_Call_Name_kw (thn ((pe_var (pos := p) hN hv hdb hcd).run pins s σ H (fun v H1 => v = .ref C ∧ H1 = H) I ⟨.ref C, hs, rfl, rfl⟩) fun u s1 ⟨v, H1, I1, r1, z⟩ => ?_)
    obtain ⟨rfl, rfl⟩ := z
    cases r1
    refine PySem.W.callWith_K (h₀ := X.base) I.ok.mod.kin M1.kp (thn (p1.run pos pins s1 σ _ _ I1 ht) fun us s2 ⟨vs, H2, I2, r, z⟩ => ⟨I2.kIn, ?_⟩) he hpl
    exact run_make M1 h1 hr h2 h3 passes0 I2 r z
  · unfold Zed.makeV at p
    split at p
    · rename_i y q
      split at p
      · rename_i e1
        subst e1
        obtain ⟨v, hv, rp⟩ := r0.sl i _ q
        have hc : v = .ref C := by
          cases rp with
          | gl h =>
            have z := h.symm.trans (show (ct X).mg y = some (.ref C) from M.at_)
            cases z; rfl
        subst hc
        exact ⟨hv, q1.use (Step.refl r0) p fun rs e1 vs G1 H1 s1 _ ok p => make_ok r0 s1 ok M.at_ h4 h5 p⟩
      · exact p.elim
    · exact p.elim

/-- what the defs that the name may hold compute -/
abbrev DTab := List (Str × FDen × List D)
def callV (i : Nat) (tab : DTab) (g : Args) : Exp := fun env => match env[i]? with
  | some (some (.frz (.gl y))) => match tab.lookup y with
    | some (f, dd) => callE f dd g env
    | none => none
  | _ => none
theorem SE.callV (i : Nat) {tab : DTab} (T : ∀ y f dd, (y, f, dd) ∈ tab → ∃ a, X.mg y = some (.ref a) ∧ FnS X.prog X.w X.K X.mg X.base k f a dd) (hr : Room k X.A) (hcalm : X.calm = true) (tk : Takes X W) (hg : SA X W (e :: es) g) (hN : X.N[i]? = some x := by rfl) (hv : Vis X.env.scope x := by first | exact Or.inl rfl | exact Or.inr (Or.inl rfl) | exact Or.inr (Or.inr rfl))
    (hdb : (x == ("__debug__" : Str)) = false := by decide) (hcd : (x == ("__classdict__" : Str)) = false := by decide)
    (he : starEach (e :: es) X.env = (false, eval e X.env) :: starEach es X.env := by rfl) (hpl : (backTo pos (starEach es X.env)).any (·.1) = false := by rfl) : SE X W (.Call (.Name x p) (e :: es) [] pos) (Zed.callV i tab g) := by
  obtain ⟨ta, p1, q1⟩ := hg
  refine ⟨fun σ H Q => ∃ a f dd, σ[i]? = some (some (.ref a)) ∧ FnS X.prog X.w X.K X.mg X.base k f a dd ∧ ∀ np dvs, (∀ G, Reps (ct X) G dvs dd) → (∀ as r, f as = some r → as.length = np) → tCallSD (SpOf (ct X) np f) dvs (EW W) ta σ H Q, ⟨fun pins s σ H Q I h => ?_⟩, fun env σ G H r0 Q p => ?_⟩
  · obtain ⟨a, f, dd, hs, F, ht⟩ := h
    obtain ⟨fd, ps, ds, dvs, np, h1, h2, h3, h4, h5⟩ := F.ex
    rw [← ct0 hcalm] at h1
    have h4 : ∀ G, Reps (ct X) G dvs dd := by rw [ct0 hcalm]; exact h4
    have ht := ht np dvs h4 h5
    refine wpAny_Call_Name_kw (thn ((pe_var (pos := p) hN hv hdb hcd).run pins s σ H (fun v H1 => v = .ref a ∧ H1 = H) I ⟨.ref a, hs, rfl, rfl⟩) fun u s1 ⟨v, H1, I1, r1, z⟩ => ?_)
    obtain ⟨rfl, rfl⟩ := z
    cases r1
    refine PySem.W.callWith_K (h₀ := X.base) I.ok.mod.kin F.kp (thn (p1.run pos pins s1 σ _ _ I1 ht) fun us s2 ⟨vs, H2, I2, r, z⟩ => ⟨I2.kIn, ?_⟩) he hpl
    exact run_fnSD (E := EW W) h1 hr h2 h3 (goesAt tk σ) I2 r z
  · unfold Zed.callV at p
    split at p
    · rename_i y q
      cases q2 : tab.lookup y with
      | none => rw [q2] at p; exact p.elim
      | some fd =>
        obtain ⟨f, dd⟩ := fd
        rw [q2] at p
        obtain ⟨a, hm, F⟩ := T y f dd (PySem.mem_of_lookup q2)
        obtain ⟨v, hv, rp⟩ := r0.sl i _ q
        have hc : v = .ref a := by
          cases rp with
          | gl h =>
            have z := h.symm.trans (show (ct X).mg y = some (.ref a) from hm)
            cases z; rfl
        subst hc
        exact ⟨a, f, dd, hv, F, fun np dvs rd hnp => q1.call rd hnp env σ G H r0 Q p⟩
    · exact p.elim

theorem run_fnRA {pins : List (Addr × Obj)} {σ : L2.St} {H : Hp} {s : Shared} {CX : CXT} {f : Addr} {sp : Sp} {E : XK} {Q : VK} {us : List Value} {vs : List V} (F : FnR X.prog X.w X.K X.mg X.base CX k f sp) (hr : Room k X.A) (hx : PassesAt CX X σ E) (I : L2.Inv X pins σ H s) (r : Vals vs us) (h : sp vs H Q E) :
    codeAny (model X.prog X.w) X.A (.call (.ref f) ⟨us, []⟩) (fun r s' => match r with | .ok (.ret v) => EP X pins σ Q v s' | .ok _ => False | .error e => X.xe e s') s := by
  refine codeAny_mono (F X.A X.stack s H us vs Q E hr I.env0 r h) fun r s' hq => ?_
  cases r with
  | error e => exact hx pins H s e s' I hq
  | ok fl =>
    cases fl with
    | ret u => exact I.after hq
    | next => exact False.elim hq
    | brk => exact False.elim hq
    | cont => exact False.elim hq
def cmE (cn : Str) (f : FDen) (dd : List D) (g : Args) : Exp := fun env => Rs.b (g env) fun rs e1 => callK f dd (.frz (.gl cn) :: rs) e1
/-- the classmethod m of the class cn computes f -/
structure CmS (P : Program) (w : World) (K : PySem.W.Frag) (mg : Str → Option Value) (base : Heap) (k : Nat) (cn m : Str) (f : FDen) (dd : List D) : Prop where
  ex : ∃ C mc p g, mg cn = some (.ref C) ∧ ClX.CRead K C mc ∧ ClX.CMet K C mc m p g ∧ FnS P w K mg base k f g dd
theorem SE.cm {pl : Sem Bool} (M : CmS X.prog X.w X.K X.mg X.base k cn m f dd) (hr : Room k X.A) (hcalm : X.calm = true) (tk : Takes X W) (hg : SA X W (e :: es) g) (hG : Gl X cn := by rfl) (hdb : (cn == ("__debug__" : Str)) = false := by decide)
    (hst : starEach (e :: es) X.env = (false, eval e X.env) :: starEach es X.env := by rfl) (hpl : (backTo pos (starEach es X.env)).any (·.1) = false := by rfl)
    (ht : eval (.Call (.Attribute (.Name cn p) m apos) (e :: es) [] pos) X.env = (do let ov ← eval (.Name cn p) X.env; standAt apos.atName; let (f, first) ← holding [ov] (getMethod ov m pl); callWith pos f first (backTo pos (starEach (e :: es) X.env)) (backToKw pos (keywordEach [] X.env))) := by rfl) :
    SE X W (.Call (.Attribute (.Name cn p) m apos) (e :: es) [] pos) (cmE cn f dd g) := by
  obtain ⟨C, mc, pr, ga, hC, hR, hM, F⟩ := M.ex
  obtain ⟨fd, ps, ds, dvs, np, h1, h2, h3, h4, h5⟩ := F.ex
  rw [← ct0 hcalm] at h1
  have h4 : ∀ G, Reps (ct X) G dvs dd := by rw [ct0 hcalm]; exact h4
  obtain ⟨ta, p1, q1⟩ := hg
  refine ⟨fun σ H Q => ta σ H fun vs H2 => SpOf (ct X) np f ((.ref C :: vs) ++ dvs) H2 Q (EW W σ), ⟨fun pins s σ H Q I h => ?_⟩, fun env σ G H r0 Q p => ?_⟩
  · refine PySem.W.methodCall_KW (pl := pl) (ld_glob I hG hC ?_ hdb) ht
    refine ClX.getmethcm_ok I hR hM fun s2 I2 => ?_
    refine ClX.callwith_cm I2 (ClX.base_none I (Nat.le_refl _)) hM.fi (thn (p1.run pos _ s2 σ H _ I2 h) fun us s3 ⟨vs, H2, I3, rv, z⟩ => ⟨⟨ClX.pin_at I3, I3.kIn⟩, ?_⟩) hst hpl
    have y := wpAny_call (PySem.W.method_call (ClX.pin_at I3) (run_fnRA (us := .ref C :: us) (vs := .ref C :: vs) (h1.raw h2 h3) hr (goesAt tk σ) I3 (.cons rfl rv) z))
    exact thn y fun _ _ y => ClX.unpinE y
  · refine q1.use (Step.refl r0) p fun rs e1 vs G1 H1 s1 _ ok p => ?_
    have hc : okA (ct X) σ H e1 G1 H1 (.ref C :: vs) (.frz (.gl cn) :: rs) := acons_ok r0 (Step.refl r0) s1 (show RvOk (ct X) σ H env G H (.ref C) (.frz (.gl cn)) from Rep.gl hC) ok
    exact call_ok r0 s1 hc h4 h5 p
end
end Zed
set_option Elab.async false
set_option linter.all false
set_option maxRecDepth 100000
set_option maxHeartbeats 4000000
namespace Zed
open PySem L2 PySem.Spec PyProof.Rows

mutual
/-- does the value u stand for d? -/
def repK (K : PySem.W.Frag) (glob : Str → Option (Option Value)) : Value → D → Bool
  | .int i _, .int j => decide (i = j)
  | .str x _, .str y => decide (x = y)
  | .none, .non => true
  | .bool a, .bl b => decide (a = b)
  | .type a, .ty b => decide (a = b)
  | .ref a, .gl x => decide (glob x = some (some (.ref a)))
  | .ref a, .tup ds => match K.lookup a with
    | some ⟨.type t, _, .seq its _, _⟩ => decide (t = "tuple") && (decide (its.size ≤ sizeLine) && repKs K glob its.toList ds)
    | _ => false
  | .ref a, .scr ds => match K.lookup a with
    | some ⟨.type t, none, .seq its _, _⟩ => decide (t = "list") && (decide (its.size ≤ sizeLine) && repKs K glob its.toList ds)
    | _ => false
  | _, _ => false
def repKs (K : PySem.W.Frag) (glob : Str → Option (Option Value)) : List Value → List D → Bool
  | [], [] => true
  | u :: us, d :: ds => repK K glob u d && repKs K glob us ds
  | _, _ => false
end
section
variable {K : PySem.W.Frag} {mg : Str → Option Value} {glob : Str → Option (Option Value)}
mutual
theorem repK_ok (hg : ∀ x v, glob x = some (some v) → mg x = some v) : ∀ (d : D) (u : Value), repK K glob u d = true → ∃ v : V, RelV v u ∧ ∀ G, Rep (c0 K mg) G v d
  | .int j, u, h => by
    unfold repK at h
    split at h <;> first | (cases h; done) | skip
    all_goals first | (rename_i e; cases e; done) | skip
    rename_i i t k e; cases e
    exact ⟨.int _, ⟨t, by rw [of_decide_eq_true h]⟩, fun G => .int⟩
  | .str y, u, h => by
    unfold repK at h
    split at h <;> first | (cases h; done) | skip
    all_goals first | (rename_i e; cases e; done) | skip
    rename_i i t k e; cases e
    exact ⟨.str _, ⟨t, by rw [of_decide_eq_true h]⟩, fun G => .str⟩
  | .non, u, h => by
    unfold repK at h
    split at h <;> first | (cases h; done) | skip
    all_goals first | (rename_i e; cases e; done) | skip
    exact ⟨.non, rfl, fun G => .non⟩
  | .bl b, u, h => by
    unfold repK at h
    split at h <;> first | (cases h; done) | skip
    all_goals first | (rename_i e; cases e; done) | skip
    rename_i a k e; cases e
    exact ⟨.bl _, by rw [of_decide_eq_true h]; rfl, fun G => .bl⟩
  | .ty b, u, h => by
    unfold repK at h
    split at h <;> first | (cases h; done) | skip
    all_goals first | (rename_i e; cases e; done) | skip
    rename_i a k e; cases e
    exact ⟨.ty _, by rw [of_decide_eq_true h]; rfl, fun G => .ty⟩
  | .gl x, u, h => by
    unfold repK at h
    split at h <;> first | (cases h; done) | skip
    all_goals first | (rename_i e; cases e; done) | skip
    rename_i a k e; cases e
    exact ⟨.ref a, rfl, fun G => .gl (hg _ _ (of_decide_eq_true h))⟩
  | .tup ds, u, h => by
    unfold repK at h
    split at h <;> first | (cases h; done) | skip
    all_goals first | (rename_i e; cases e; done) | skip
    rename_i a k e; cases e
    split at h
    · rename_i t dd its n sl hl
      rw [Bool.and_eq_true, Bool.and_eq_true] at h
      have ht := of_decide_eq_true h.1
      subst ht
      obtain ⟨vs, h1, h2⟩ := repKs_ok hg ds its.toList h.2.2
      exact ⟨.ref a, rfl, fun G => .tup (vs := vs) (.inr ⟨_, its, n, hl, rfl, rfl, of_decide_eq_true h.2.1, h1⟩) (h2 G)⟩
    · cases h
  | .scr ds, u, h => by
    unfold repK at h
    split at h <;> first | (cases h; done) | skip
    all_goals first | (rename_i e; cases e; done) | skip
    rename_i a k e; cases e
    split at h
    · rename_i t its n sl hl
      rw [Bool.and_eq_true, Bool.and_eq_true] at h
      have ht := of_decide_eq_true h.1
      subst ht
      obtain ⟨vs, h1, h2⟩ := repKs_ok hg ds its.toList h.2.2
      exact ⟨.ref a, rfl, fun G => .scr (vs := vs) (.inr ⟨_, its, n, hl, rfl, rfl, rfl, of_decide_eq_true h.2.1, h1⟩) (h2 G)⟩
    · cases h
  | .lst ds, u, h => by
    unfold repK at h
    split at h <;> first | (cases h; done) | skip
    all_goals (rename_i e; cases e)
  | .obj _ _ ds, u, h => by
    unfold repK at h
    split at h <;> first | (cases h; done) | skip
    all_goals (rename_i e; cases e)
  | .exc _ _ ds, u, h => by
    unfold repK at h
    split at h <;> first | (cases h; done) | skip
    all_goals (rename_i e; cases e)
theorem repKs_ok (hg : ∀ x v, glob x = some (some v) → mg x = some v) : ∀ (ds : List D) (us : List Value), repKs K glob us ds = true → ∃ vs : List V, Vals vs us ∧ ∀ G, Reps (c0 K mg) G vs ds
  | [], us, h => by
    cases us with
    | nil => exact ⟨[], .nil, fun G => .nil⟩
    | cons _ _ => unfold repKs at h; cases h
  | d :: ds, us, h => by
    cases us with
    | nil => unfold repKs at h; cases h
    | cons u us =>
      unfold repKs at h
      rw [Bool.and_eq_true] at h
      obtain ⟨v, h1, h2⟩ := repK_ok hg d u h.1
      obtain ⟨vs, h3, h4⟩ := repKs_ok hg ds us h.2
      exact ⟨v :: vs, .cons h1 h3, fun G => .cons (h2 G) (h4 G)⟩
end
end
structure KdS (K : PySem.W.Frag) (w : World) (mg : Str → Option Value) (x : Str) (tab : List (Str × D)) : Prop where
  ex : ∃ d es n, mg x = some (.ref d) ∧ KDict K w d es n ∧ (∀ z dd, tab.lookup z = some dd → ∃ u v, PySem.W.nsIn K d z = some (some u) ∧ RelV v u ∧ ∀ G, Rep (c0 K mg) G v dd) ∧ ∀ z, tab.lookup z = none → PySem.W.nsIn K d z = some none
def keysOf : List DictEntry → List (Str × Value)
  | [] => []
  | e :: es => match e.key with
    | .str x _ => (x, e.val) :: keysOf es
    | _ => keysOf es
theorem keys_find {P : Params} : ∀ {l : List DictEntry} {z : Str}, PySem.W.KeysLit P l → (l.find? (·.key.isStr z)).map (·.val) = (keysOf l).lookup z ∧ l.any (·.refKey) = false
  | [], z, _ => ⟨rfl, rfl⟩
  | e :: l, z, h => by
    obtain ⟨⟨x, t, h1, h2⟩, h3⟩ := h
    obtain ⟨k1, k2⟩ := keys_find (z := z) h3
    have e1 : e.key.isStr z = (x == z) := by rw [h1]; rfl
    refine ⟨?_, ?_⟩
    · rw [List.find?_cons]
      unfold keysOf
      rw [h1]
      dsimp only
      rw [show (Value.str x t).isStr z = (x == z) from rfl, List.lookup_cons]
      by_cases q : x = z
      · subst q; simp
      · have q1 : (x == z) = false := by simpa using q
        have q2 : (z == x) = false := by simpa using fun y => q y.symm
        rw [q1, q2]
        exact k1
    · rw [List.any_cons, k2, Bool.or_false]
      unfold DictEntry.refKey
      rw [h1]
def tabK (K : PySem.W.Frag) (glob : Str → Option (Option Value)) : List (Str × Value) → List (Str × D) → Bool
  | [], [] => true
  | (x, u) :: l, (y, d) :: r => decide (x = y) && (repK K glob u d && tabK K glob l r)
  | _, _ => false
theorem tabK_get {K : PySem.W.Frag} {glob : Str → Option (Option Value)} : ∀ {l : List (Str × Value)} {tab : List (Str × D)} {z : Str}, tabK K glob l tab = true → (∀ d, tab.lookup z = some d → ∃ u, l.lookup z = some u ∧ repK K glob u d = true) ∧ (tab.lookup z = none → l.lookup z = none)
  | [], [], z, _ => ⟨fun d h => (by cases h), fun _ => rfl⟩
  | [], _ :: _, z, h => by unfold tabK at h; cases h
  | _ :: _, [], z, h => by unfold tabK at h; cases h
  | (x, u) :: l, (y, d) :: r, z, h => by
    unfold tabK at h
    rw [Bool.and_eq_true, Bool.and_eq_true] at h
    have e := of_decide_eq_true h.1
    subst e
    have hu := h.2.1
    obtain ⟨h1, h2⟩ := tabK_get (z := z) h.2.2
    rw [List.lookup_cons, List.lookup_cons]
    cases q : z == x with
    | true => exact ⟨fun d' h => by cases h; exact ⟨u, rfl, hu⟩, fun h => by cases h⟩
    | false => exact ⟨h1, h2⟩
theorem KdS.of {K : PySem.W.Frag} {w : World} {mg : Str → Option Value} {x : Str} {tab : List (Str × D)} {d n : Nat} {es : Array DictEntry} {glob : Str → Option (Option Value)} (hg : ∀ x v, glob x = some (some v) → mg x = some v) (hx : mg x = some (.ref d)) (hl : K.lookup d = some ⟨.type "dict", none, .dict es n, #[]⟩) (hk : PySem.W.KeysLit w.params es.toList) (low : (d == sysModules) = false)
    (ht : tabK K glob (keysOf es.toList) tab = true) : KdS K w mg x tab := by
  have key : ∀ z, PySem.W.nsIn K d z = some ((keysOf es.toList).lookup z) := fun z => by
    obtain ⟨k1, k2⟩ := keys_find (z := z) hk
    unfold PySem.W.nsIn
    rw [hl]
    dsimp only
    rw [← k1]
    cases es.toList.find? (·.key.isStr z) with
    | some e => rfl
    | none => dsimp only; rw [k2]; rfl
  refine ⟨d, es, n, hx, ⟨hl, hk, low⟩, fun z dd h => ?_, fun z h => ?_⟩
  · obtain ⟨u, h1, h2⟩ := (tabK_get (z := z) ht).1 dd h
    obtain ⟨v, h3, h4⟩ := repK_ok hg dd u h2
    exact ⟨u, v, by rw [key, h1], h3, h4⟩
  · rw [key, (tabK_get (z := z) ht).2 h]
def inTab (x : Str) (tab : List (Str × D)) (neg : Bool) : D → D → Option OV
  | .str z, .gl y => if y = x then some (.frz (.bl (if neg = true then !(tab.lookup z).isSome else (tab.lookup z).isSome))) else none
  | _, _ => none
def ixTab (x : Str) (tab : List (Str × D)) : D → D → Option OV
  | .gl y, .str z => if y = x then (tab.lookup z).map OV.frz else none
  | _, _ => none
section
variable {X : Cx} {W : WX} {e : Expr} {f : Exp} {x : Str} {tab : List (Str × D)} {p pos : Pos}
theorem tab_in (T : KdS X.K X.w X.mg x tab) (hc : X.calm = true) (neg : Bool) : ∃ r, OpR X (compareOp (if neg = true then .NotIn else .In)) r ∧ Op2 (ct X) r (inTab x tab neg) := by
  obtain ⟨d, es, n, hx, D0, h1, h2⟩ := T.ex
  have key : ∀ z, ∃ r, PySem.W.nsIn X.K d z = some r ∧ r.isSome = (tab.lookup z).isSome := fun z => by
    cases q : tab.lookup z with
    | none => exact ⟨none, h2 z q, rfl⟩
    | some dd => obtain ⟨u, v, k1, _⟩ := h1 z dd q; exact ⟨some u, k1, rfl⟩
  have gl : ∀ {G H : Hp} {w : V} {y : Str}, Vw (ct X) G H w (.gl y) → y = x → w = .ref d := fun {G H w y} v e => by
    obtain ⟨a, rfl, ha⟩ := v.gl
    subst e
    have z := ha.symm.trans (show (ct X).mg y = some (.ref d) from hx)
    cases z; rfl
  cases neg with
  | true =>
    refine ⟨_, op_notIn_kd D0, fun G H v w a b z Q ex va vb e o => ?_⟩
    unfold inTab at e
    split at e
    · rename_i s y
      split at e
      · rename_i hy; cases e
        obtain ⟨r, k1, k2⟩ := key s
        refine ⟨s, r, va.str, gl vb hy, k1, ?_⟩
        rw [k2]; exact o.bl ex
      · cases e
    · cases e
  | false =>
    refine ⟨_, op_in_kd D0, fun G H v w a b z Q ex va vb e o => ?_⟩
    unfold inTab at e
    split at e
    · rename_i s y
      split at e
      · rename_i hy; cases e
        obtain ⟨r, k1, k2⟩ := key s
        refine ⟨s, r, va.str, gl vb hy, k1, ?_⟩
        rw [k2]; exact o.bl ex
      · cases e
    · cases e
theorem tab_ix (T : KdS X.K X.w X.mg x tab) (hc : X.calm = true) : Op2 (ct X) (rIxD X.K X.w) (ixTab x tab) := fun G H v w a b z Q ex va vb e o => by
  obtain ⟨d, es, n, hx, D0, h1, h2⟩ := T.ex
  unfold ixTab at e
  split at e
  · rename_i y s
    split at e
    · rename_i hy
      cases q : tab.lookup s with
      | none => rw [q] at e; cases e
      | some dd =>
        rw [q] at e
        cases e
        obtain ⟨u, vv, k1, k2, k3⟩ := h1 s dd q
        obtain ⟨a, rfl, ha⟩ := va.gl
        subst hy
        have zz := ha.symm.trans (show (ct X).mg y = some (.ref d) from hx)
        cases zz
        exact ⟨d, s, vv, rfl, vb.str, ⟨es, n, u, D0.at_, D0.lit, k1, k2⟩, o.rep ex (by rw [ct0 hc]; exact k3 G)⟩
    · cases e
  · cases e
theorem ST.inTab (T : KdS X.K X.w X.mg x tab) (hc : X.calm = true) (he : SE X W e f) (hG : Gl X x := by rfl) (hd : (x == ("__debug__" : Str)) = false := by decide) : ST X W (.Compare e [.In] [.Name x p] pos) (Zed.tst (bin (Zed.inTab x tab false) f (Zed.cst (.gl x)))) := by
  obtain ⟨r, h1, h2⟩ := tab_in T hc false
  obtain ⟨d, es, n, hx, _⟩ := T.ex
  exact ST.cmp h1 h2 he (SE.gl hx hG hd)
theorem ST.niTab (T : KdS X.K X.w X.mg x tab) (hc : X.calm = true) (he : SE X W e f) (hG : Gl X x := by rfl) (hd : (x == ("__debug__" : Str)) = false := by decide) : ST X W (.Compare e [.NotIn] [.Name x p] pos) (Zed.tst (bin (Zed.inTab x tab true) f (Zed.cst (.gl x)))) := by
  obtain ⟨r, h1, h2⟩ := tab_in T hc true
  obtain ⟨d, es, n, hx, _⟩ := T.ex
  exact ST.cmp h1 h2 he (SE.gl hx hG hd)
theorem SE.ixTab (T : KdS X.K X.w X.mg x tab) (hc : X.calm = true) (he : SE X W e f) (hG : Gl X x := by rfl) (hd : (x == ("__debug__" : Str)) = false := by decide) (hs : PlainIx e := by exact fun _ _ => rfl) : SE X W (.Subscript (.Name x p) e pos) (bin (Zed.ixTab x tab) (Zed.cst (.gl x)) f) := by
  obtain ⟨d, es, n, hx, _⟩ := T.ex
  exact SE.ix ix_kdict (tab_ix T hc) (SE.gl hx hG hd) he hs
end
end Zed
set_option Elab.async false
set_option linter.all false
set_option maxRecDepth 100000
set_option maxHeartbeats 4000000
namespace Zed
open PySem L2 PySem.Spec PyProof.Rows

abbrev fz (ds : List D) : Env := ds.map fun d => some (.frz d)
/-- the special method computes f at settled arguments -/
def dunK (f : FDen) (ok : D → Bool) (ds : List D) : Option D := match f (fz ds) with
  | some (.val (.frz z) _) => if ok z = true then some z else none
  | _ => none
abbrev OTab := List (Str × FDen)
/-- own objects: by the table; others: o -/
def dunO (tab : OTab) (ok : D → Bool) (o : List D → Option OV) : List D → Option OV
  | [.obj y ns fs] => match tab.lookup y with
    | some f => (dunK f ok [.obj y ns fs]).map OV.frz
    | none => none
  | [d] => o [d]
  | _ => none
def dunE (tab : OTab) (ok : D → Bool) (o : List D → Option OV) (g : Dargs) : Exp := fun env => Rs.b (g env) fun ds e1 => out (dunO tab ok o ds) e1
/-- the class cn says m by the def at g that computes f -/
structure OwnS (P : Program) (w : World) (K : PySem.W.Frag) (mg : Str → Option Value) (base : Heap) (k : Nat) (cn m : Str) (f : FDen) : Prop where
  ex : ∃ C g, mg cn = some (.ref C) ∧ PySem.W.findIn K (.ref C) m = some (some (.ref g)) ∧ PySem.W.isFn K (.ref g) = true ∧ FnS P w K mg base k f g []
theorem fz_rel {c : Ct} {G H : Hp} {vs : List V} {ds : List D} (x : Ex G H) (r : Reps c G vs ds) : Rel c (fz ds) (vs.map some) G H := by
  refine ⟨x, by simp [r.length], fun i lv h => ?_, fun i j oi oj a h1 => ?_⟩
  · rw [List.getElem?_map] at h
    cases q : ds[i]? with
    | none => rw [q] at h; cases h
    | some d =>
      rw [q] at h
      cases h
      obtain ⟨v, hv, rv⟩ := r.get q
      exact ⟨v, by rw [List.getElem?_map, hv]; rfl, rv⟩
  · rw [List.getElem?_map] at h1
    cases q : ds[i]? with
    | none => rw [q] at h1; cases h1
    | some d => rw [q] at h1; cases h1
theorem fz_no {ds : List D} {σ : L2.St} {a : Addr} : ¬ OA (fz ds) σ a := fun ⟨i, o, h1, _⟩ => by
  rw [List.getElem?_map] at h1
  cases q : ds[i]? with
  | none => rw [q] at h1; cases h1
  | some d => rw [q] at h1; cases h1
theorem Step.grow {c : Ct} {σ : L2.St} {env env' : Env} {G H G' H' : Hp} (x : Ex G H) (s : Step c σ env G H env' G' H') (no : ∀ a, ¬ OA env σ a) : Grow G H G' H' := by
  refine ⟨s.g, fun b o z => ?_, fun b o z => ?_, s.rel.ex⟩
  · cases q : G b with
    | none => exact (s.keep b o z q (no b)).1
    | some o' =>
      have := x b o' q
      rw [z] at this; cases this
      exact s.rel.ex b o (s.g b o q)
  · cases q : G b with
    | some o' => exact .inl ((s.g b o' q).symm.trans z ▸ rfl)
    | none =>
      refine .inr ?_
      cases y : H b with
      | none => rfl
      | some o' => rw [(s.keep b o' y q (no b)).2] at z; cases z
/-- what the special method's call asks -/
theorem dun_sp {c : Ct} {np : Nat} {f : FDen} {ok : D → Bool} {G H : Hp} {vs : List V} {ds : List D} {z : D} {Q : VK} (x : Ex G H) (r : Reps c G vs ds) (hnp : ∀ as r, f as = some r → as.length = np) (e : dunK f ok ds = some z) (o : OutOk c G H Q (.frz z)) :
    SpOf c np f vs H (fun v H' => (∃ G', Rep c G' v z) ∧ ok z = true ∧ Q v H') (fun _ _ _ => False) := by
  unfold dunK at e
  split at e
  · rename_i z' as' q
    split at e
    · rename_i hok
      cases e
      refine ⟨by rw [r.length]; simpa using hnp _ _ q, G, fz ds, fz_rel x r, ?_⟩
      rw [q]
      intro v G' H' s rp
      exact ⟨⟨G', rp⟩, hok, o v G' H' (s.grow x fun a => fz_no) rp⟩
    · cases e
  · cases e
section
variable {X : Cx} {W : WX} {k : Nat} {tab : OTab} {e : Expr} {es : List Expr} {g : Dargs} {p pos : Pos}
/-- an instance at hand -/
theorem inst_of {pins : List (Addr × Obj)} {σ : L2.St} {H : Hp} {s : Shared} {a C dx : Addr} {fs : List (Str × V)} (I : L2.Inv X pins σ H s) (h : H a = some (.ins C dx fs)) : ∃ ox od, PySem.W.InstAt s.heap a ox C (some od) := by
  obtain ⟨mA, O, _⟩ := ins_get I.hok h
  obtain ⟨od, J, _⟩ := O.look
  exact ⟨_, od, J⟩
def rDun (X : Cx) (k : Nat) (m : Str) (okV : V → Prop) (ex : List V → Hp → Prop) : List V → Hp → VK → Prop := fun vs H Q => ∃ a C dx fs ws g sp, vs = .ref a :: ws ∧ H a = some (.ins C dx fs) ∧ PySem.W.findIn X.K (.ref C) m = some (some (.ref g)) ∧ PySem.W.isFn X.K (.ref g) = true ∧ ex vs H ∧
  FnR X.prog X.w X.K X.mg X.base (L2.CX X.prog X.w) k g sp ∧ sp vs H (fun v H' => okV v ∧ Q v H') (fun _ _ _ => False)
theorem call_lenO (hr : Room (k + 1) X.A) : CallR X (.builtin "len") (rDun X k "__len__" (fun v => ∃ n : Int, v = .int n ∧ 0 ≤ n ∧ n < 2 ^ 63) fun vs _ => vs.length = 1) := fun pins s σ H vs us Q I r h => by
  obtain ⟨a, C, dx, fs, ws, g, sp, rfl, ha, hs, hf, hl, F, q⟩ := h
  have : ws = [] := by simpa using hl
  subst this
  obtain ⟨u, rfl, ru⟩ := L2.Vals.one r
  cases (show u = Value.ref a from ru)
  obtain ⟨ox, od, J⟩ := inst_of I ha
  obtain ⟨m, hF⟩ := I.fr
  refine PySem.W.len_K hF I.ok.mod.kin J hs hf (wpAny_mono (wpAny_call (SlX.run_at (us := [.ref a]) (ws := [.ref a]) F hr.in1 I.env0.in1 passes0 I (.cons rfl .nil) q)) (fun w s' z => ?_) fun _ _ x => x)
  obtain ⟨z', H', I', rz, ⟨n, rfl, h0, h1⟩, qz⟩ := z
  obtain ⟨t, rfl⟩ := (show ∃ t, w = Value.int n t from rz)
  exact ⟨⟨h0, h1⟩, .int n, H', I'.tok _, ⟨_, rfl⟩, qz⟩
theorem call_strO (hr : Room (k + 2) X.A) : CallR X (.type "str") (rDun X k "__str__" (fun v => ∃ y, v = .str y) fun vs _ => vs.length = 1) := fun pins s σ H vs us Q I r h => by
  obtain ⟨a, C, dx, fs, ws, g, sp, rfl, ha, hs, hf, hl, F, q⟩ := h
  have : ws = [] := by simpa using hl
  subst this
  obtain ⟨u, rfl, ru⟩ := L2.Vals.one r
  cases (show u = Value.ref a from ru)
  obtain ⟨ox, od, J⟩ := inst_of I ha
  have hr2 : Room k X.A.in1.in1 := (show Room (k + 1) X.A.in1 from Room.in1 hr).in1
  refine PySem.W.kso_call hr2.units0 I.kIn J hs hf (wpAny_mono (wpAny_call (SlX.run_at (us := [.ref a]) (ws := [.ref a]) F hr2 I.env0.in1.in1 passes0 I (.cons rfl .nil) q)) (fun w s' z => ?_) fun _ _ x => x)
  obtain ⟨z', H', I', rz, ⟨y, rfl⟩, qz⟩ := z
  obtain ⟨t, rfl⟩ := (show ∃ t, w = Value.str y t from rz)
  exact ⟨.str y, H', I', ⟨_, rfl⟩, qz⟩
/-- the types of the right side that leave the left one's __eq__ first -/
def EqEx (K : PySem.W.Frag) (vs : List V) (H : Hp) : Prop := ∃ a C dx fs w tb, vs = [.ref a, w] ∧ H a = some (.ins C dx fs) ∧ TyX K H w tb ∧ PySem.W.notFirst K C tb = true
theorem op_eqO (hr : Room k X.A) : OpR X (compareOp .Eq) (fun x y H Q => rDun X k "__eq__" (fun _ => True) (EqEx X.K) [x, y] H Q) := fun pins s σ H x y v u Q I rx ry h => by
  obtain ⟨a, C, dx, fs, ws, g, sp, e, ha, hs, hf, ⟨a', C', dx', fs', w', tb, e', ha', ty, hn⟩, F, q⟩ := h
  cases e
  cases e'
  rw [ha] at ha'; cases ha'
  cases (show v = Value.ref a from rx)
  obtain ⟨ox, od, J⟩ := inst_of I ha
  obtain ⟨m, hF⟩ := I.fr
  obtain ⟨P, Z, hP, _⟩ := kit_of I ry ty
  show wpAny _ _ (richCompare .Eq (.ref a) u) _ _ _
  refine PySem.W.cmp_K (op := .Eq) (tb := tb) hr.units0 hF I.ok.mod.kin J (Z.ty _ _ I.kIn hP) hn hs hf ?_
  refine wpAny_mono (wpAny_call (run_fnR (us := [.ref a, u]) (vs := [.ref a, y]) F hr passes0 I (.cons rfl (.cons ry .nil)) q)) (fun w s' z => ?_) fun _ _ x => x
  obtain ⟨z', H', I', rz, _, qz⟩ := z
  exact SlX.cmpback rz ⟨z', H', I', rz, qz⟩
/-- what the table promises -/
def DunOk (X : Cx) (k : Nat) (m : Str) (tab : OTab) : Prop := ∀ y f, (y, f) ∈ tab → OwnS X.prog X.w X.K X.mg X.base k y m f
theorem dun_r {m : Str} {okV : V → Prop} {ok : D → Bool} {exP : List V → Hp → Prop} (T : DunOk X k m tab) (hc : X.calm = true) (hok : ∀ G v z, Rep (ct X) G v z → ok z = true → okV v) {G H : Hp} {vs : List V} {y : Str} {ns : List Str} {fs rest : List D} {z : D} {Q : VK} {f : FDen} (x : Ex G H) (r : Reps (ct X) G vs (.obj y ns fs :: rest))
    (hl : tab.lookup y = some f) (e : dunK f ok (.obj y ns fs :: rest) = some z) (o : OutOk (ct X) G H Q (.frz z)) (hex : exP vs H) : rDun X k m okV exP vs H Q := by
  obtain ⟨C, g, h1, h2, h3, F⟩ := (T y f (PySem.mem_of_lookup hl)).ex
  obtain ⟨fd, ps, ds, dvs, np, k1, k2, k3, k4, k5⟩ := F.ex
  rw [← ct0 hc] at k1
  cases dvs with
  | cons v l => have := k4 (fun _ => none); cases this
  | nil =>
    have hsp := dun_sp x r k5 e o
    cases r with
    | @cons v _ ws _ h0 r =>
      cases h0 with
      | @obj a C' dx fs' _ _ _ hC hG hn hr =>
        have z1 := hC.symm.trans (show (ct X).mg y = some (.ref C) from h1)
        cases z1
        refine ⟨a, C, dx, fs', ws, g, _, rfl, x _ _ hG, h2, h3, hex, k1.raw k2 k3, ?_⟩
        rw [List.append_nil]
        obtain ⟨q1, G', as, q2, q3⟩ := hsp
        refine ⟨q1, G', as, q2, ?_⟩
        cases q4 : f as with
        | none => rw [q4] at q3; exact q3
        | some er =>
          rw [q4] at q3
          cases er with
          | exc _ _ => exact q3
          | val rv e' => exact fun v G2 H2 s2 ok2 => let ⟨⟨G3, y1⟩, y2, y3⟩ := q3 v G2 H2 s2 ok2; ⟨hok G3 v z y1 y2, y3⟩
def lenOk : D → Bool
  | .int n => decide (0 ≤ n) && decide (n < 2 ^ 63)
  | _ => false
def strOk : D → Bool
  | .str _ => true
  | _ => false
theorem Reps.vws {c : Ct} {G H : Hp} : ∀ {vs : List V} {ds : List D}, Reps c G vs ds → Vws c G H vs ds
  | _, [], r => by cases r; exact True.intro
  | _, d :: ds, r => by cases r with | cons h r => exact ⟨.rep h, r.vws⟩
theorem dun_ev {rr ro : List V → Hp → VK → Prop} {o : List D → Option OV} {ok : D → Bool} {ta : TA} (h1 : OpN (ct X) rr o)
    (h2 : ∀ G H vs y ns fs z Q f, Ex G H → Reps (ct X) G vs [.obj y ns fs] → tab.lookup y = some f → dunK f ok [.obj y ns fs] = some z → OutOk (ct X) G H Q (.frz z) → ro vs H Q) (q1 : Ev okDs (ct X) W ta g) :
    Ev RvOk (ct X) W (tCB (fun xs H Q => rr xs H Q ∨ ro xs H Q) ta) (dunE tab ok o g) := fun env σ G H r0 Q p => by
  refine q1.use (Step.refl r0) p fun ds e1 vs G1 H1 s1 _ okr p => ?_
  have okr : Reps (ct X) G1 vs ds := okr
  obtain ⟨z, hz, oo⟩ := s1.out p
  unfold dunO at hz
  split at hz
  · rename_i y ns fs _
    cases q : tab.lookup y with
    | none => rw [q] at hz; cases hz
    | some f =>
      rw [q] at hz
      dsimp only at hz
      cases q2 : dunK f ok [.obj y ns fs] with
      | none => rw [q2] at hz; cases hz
      | some zd =>
        rw [q2] at hz
        cases hz
        exact .inr (h2 G1 H1 vs y ns fs zd Q f s1.rel.ex okr q q2 oo)
  · exact .inl (h1 G1 H1 vs _ z Q s1.rel.ex okr.vws hz oo)
  · cases hz
theorem rep_int {c : Ct} {G : Hp} {v : V} {z : D} (r : Rep c G v z) (h : lenOk z = true) : ∃ n : Int, v = .int n ∧ 0 ≤ n ∧ n < 2 ^ 63 := by
  cases z <;> first | (cases h; done) | skip
  have h := Bool.and_eq_true_iff.mp (show (_ && _) = true from h)
  exact ⟨_, r.vint, of_decide_eq_true h.1, of_decide_eq_true h.2⟩
theorem rep_strv {c : Ct} {G : Hp} {v : V} {z : D} (r : Rep c G v z) (h : strOk z = true) : ∃ y, v = .str y := by
  cases z <;> first | (cases h; done) | skip
  exact ⟨_, r.vstr⟩
theorem SE.lenO (T : DunOk X k "__len__" tab) (hr : Room (k + 1) X.A) (hc : X.calm = true) (hm : X.mg "len" = none) (hg : SDA X W [e] g) (hG : Gl X "len" := by rfl) (he : starEach [e] X.env = (false, eval e X.env) :: starEach [] X.env := by rfl)
    (hpl : (backTo pos (starEach [] X.env)).any (·.1) = false := by rfl) : SE X W (.Call (.Name "len" p) [e] [] pos) (dunE tab lenOk lenN g) :=
  let ⟨_, p1, q1⟩ := hg
  ⟨_, pe_callB (CallR.or call_len (call_lenO hr)) hG hm PySem.boot_len p1 (by decide) (by decide) he hpl, dun_ev o_len (fun G H vs y ns fs z Q f x r hl e o => dun_r T hc (fun G v z => rep_int) x r hl e o r.length) q1⟩
theorem SE.strO (T : DunOk X k "__str__" tab) (hr : Room (k + 2) X.A) (hc : X.calm = true) (hm : X.mg "str" = none) (hg : SDA X W [e] g) (hG : Gl X "str" := by rfl) (he : starEach [e] X.env = (false, eval e X.env) :: starEach [] X.env := by rfl)
    (hpl : (backTo pos (starEach [] X.env)).any (·.1) = false := by rfl) : SE X W (.Call (.Name "str" p) [e] [] pos) (dunE tab strOk strN g) :=
  let ⟨_, p1, q1⟩ := hg
  ⟨_, pe_callTy (CallR.or c_str (call_strO hr)) hG hm PyProof.Rows.Boot.«str» p1 (by decide) (by decide) he hpl, dun_ev o_str (fun G H vs y ns fs z Q f x r hl e o => dun_r T hc (fun G v z => rep_strv) x r hl e o r.length) q1⟩
/-- ==, own objects of the table to the left -/
def eqO (tab : OTab) (t : Tab) (d e : D) : Option D := match d with
  | .obj y ns fs => match tab.lookup y, tyD e with
    | some f, some b => match tabGet t b (.inr y) with
      | some r => if (decide (b = .inr y) || !r) = true then dunK f (fun _ => true) [.obj y ns fs, e] else none
      | none => none
    | _, _ => none
  | _ => none
def eqOE (tab : OTab) (t : Tab) (fa fb : Exp) : Exp := fun env => Rs.b (fzE fa env) fun d e1 => Rs.b (fzE fb e1) fun e e2 => out ((eqO tab t d e).map OV.frz) e2
/-- the table's answers for == -/
structure EqTab (K : PySem.W.Frag) (mg : Str → Option Value) (t : Tab) : Prop where
  ok : TabOk K mg t
  sub : ∀ p ∈ t, ∀ y u C, p.2.1 = .inr y → p.2.2 = false → TyVal mg p.1 u → mg y = some (.ref C) → PySem.W.subIn K u (.ref C) = some false
theorem eqO_ev {t : Tab} {ta tb : TE} {a b : Expr} {fa fb : Exp} (T : DunOk X k "__eq__" tab) (E : EqTab (ct X).K (ct X).mg t) (hc : X.calm = true) (q1 : Ev RvOk (ct X) W ta fa) (q2 : Ev RvOk (ct X) W tb fb) :
    Ev RvOk (ct X) W (tOp (fun x y H Q => rDun X k "__eq__" (fun _ => True) (EqEx X.K) [x, y] H Q) ta tb) (eqOE tab t fa fb) := fun env σ G H r0 Q p => by
  refine q1.fz.use (Step.refl r0) p fun d e1 v G1 H1 s1 _ ok1 p => q2.fz.use s1 p fun e e2 w G2 H2 s2 s12 ok2 p => ?_
  have ok1 : Rep (ct X) G2 v d := Rep.mono s12.g ok1
  have ok2 : Rep (ct X) G2 w e := ok2
  obtain ⟨z, hz, oo⟩ := s2.out p
  cases q : eqO tab t d e with
  | none => rw [q] at hz; cases hz
  | some zd =>
    rw [q] at hz
    cases hz
    unfold eqO at q
    split at q
    · rename_i y ns fs _ _
      split at q
      · rename_i f b hf hb
        split at q
        · rename_i r hr
          split at q
          · rename_i hcond
            have hmem := tabGet_mem hr
            refine dun_r T hc (ok := fun _ => true) (fun _ _ _ _ _ => trivial) s2.rel.ex (.cons ok1 (.cons ok2 .nil)) hf q oo ?_
            obtain ⟨tb, t1, t2⟩ := tyx_of E.ok s2.rel.ex (.rep ok2) hb hmem
            cases ok1 with
            | @obj a C dx fs' _ _ _ hC hG hn hr' =>
              refine ⟨a, C, dx, fs', w, tb, rfl, s2.rel.ex _ _ hG, t2, ?_⟩
              unfold PySem.W.notFirst
              rw [Bool.or_eq_true] at hcond
              rcases hcond with hb' | hb'
              · have hb' := of_decide_eq_true hb'
                subst hb'
                have z := (show (ct X).mg y = some tb from t1).symm.trans hC
                cases z
                simp
              · have hr0 : r = false := by simpa using hb'
                have : PySem.W.subIn X.K tb (.ref C) = some false := E.sub _ hmem y tb C rfl hr0 t1 hC
                rw [this]
                simp
          · cases q
        · cases q
      · cases q
    · cases q
theorem SE.eqO {t : Tab} {a b : Expr} {fa fb : Exp} (T : DunOk X k "__eq__" tab) (E : EqTab (ct X).K (ct X).mg t) (hr : Room k X.A) (hc : X.calm = true) (ha : SE X W a fa) (hb : SE X W b fb) (hm : behindInMarks .Eq b = false := by first | exact nomark _ (by decide) (by decide) | rfl) : SE X W (.Compare a [.Eq] [b] pos) (eqOE tab t fa fb) :=
  let ⟨_, p1, q1⟩ := ha; let ⟨_, p2, q2⟩ := hb; ⟨_, pe_cmpR (op_eqO hr) p1 p2 hm, eqO_ev (a := a) (b := b) T E hc q1 q2⟩
theorem ST.eqO {t : Tab} {a b : Expr} {fa fb : Exp} (T : DunOk X k "__eq__" tab) (E : EqTab (ct X).K (ct X).mg t) (hr : Room k X.A) (hc : X.calm = true) (ha : SE X W a fa) (hb : SE X W b fb) (hm : behindInMarks .Eq b = false := by first | exact nomark _ (by decide) (by decide) | rfl) : ST X W (.Compare a [.Eq] [b] pos) (Zed.tst (eqOE tab t fa fb)) :=
  let ⟨_, p1, q1⟩ := ha; let ⟨_, p2, q2⟩ := hb; ⟨_, pt_cmpR (op_eqO hr) p1 p2 hm, (eqO_ev (a := a) (b := b) T E hc q1 q2).tst⟩
end

def excF (f : Str) (cs : List Str) (fo : Exp) : Exp := fun env => Rs.b (fzE fo env) fun d e1 => match d with
  | .exc x ns ds => if x ∈ cs then (match look f ns ds with
    | some z => some (.val (.frz z) e1)
    | none => none) else none
  | _ => none
/-- the classes cs of errors have no attribute f -/
def XfH (c : Ct) (f : Str) (cs : List Str) : Prop := ∀ x ∈ cs, ∀ C, c.mg x = some (.ref C) → XfC c.K C ∧ PySem.W.findIn c.K (.ref C) f = some none
section
variable {X : Cx} {W : WX} {a : Addr} {oe : Obj} {pn : List (Addr × Obj)} {e : Expr} {f : Str} {fo : Exp} {pos : Pos} {cs : List Str}
theorem SE.excF (hF : XfH (c0 X.K X.mg) f cs) (hf : ∃ vs, oe.data = .fields vs) (he : SE (X.suite a ((a, oe) :: pn)) W e fo) (hb : attributeBase e f X.env (eval e X.env) = eval e X.env := by rfl) : SE (X.suite a ((a, oe) :: pn)) W (.Attribute e f pos) (Zed.excF f cs fo) := by
  obtain ⟨te, p1, q1⟩ := he
  refine ⟨fun σ H Q => te σ H fun x H1 => ∃ C dd fs v, x = .ref a ∧ oe.cls = .ref C ∧ oe.dict = some dd ∧ XfC X.K C ∧ PySem.W.findIn X.K (.ref C) f = some none ∧ H1 dd = some (.xd fs) ∧ fs.lookup f = some v ∧ Q v H1, ⟨fun pins s σ H Q I h => ?_⟩, fun env σ G H r0 Q p => ?_⟩
  · refine attr_of hb (thn (p1.run pins s σ H _ I h) fun u s1 hh => ?_)
    obtain ⟨x, H1, I1, rx, C, dd, fs, v, rfl, ec, ed, T, hno, ea, l, q⟩ := hh
    obtain ⟨oc, od, odata, osl⟩ := oe
    dsimp only at ec ed hf
    subst ec ed
    have pk : PE (X.suite a ((a, ⟨.ref C, some dd, odata, osl⟩) :: pn)) e (fun σ H Q => te σ H Q) := p1
    obtain rfl : u = Value.ref a := rx
    obtain ⟨ha, _⟩ := I1.pin (a, _) (List.mem_append_left _ List.mem_cons_self)
    obtain ⟨vs, hd⟩ := hf
    subst hd
    obtain ⟨mA, hns, hr⟩ := (show ObjOk X.prog X.w H1 s1.heap dd (.xd fs) from I1.hok dd _ ea)
    obtain ⟨od, ho, hl⟩ := lookIn_ns hns
    obtain ⟨u, hu, ru⟩ := RelO.some_of (v := v) (o := mA f) (by rw [← l]; exact hr f)
    exact HandSPX.exc_get I1.kIn ⟨ha, rfl, rfl, ho⟩ T.ga T.gg T.exC (PySem.W.findObj_own T.hdC hno rfl (by rw [hl, hu])) (handed_of ru) ⟨v, H1, I1.tok _, ru, q⟩
  · refine q1.fz.use (Step.refl r0) p fun d e1 v G1 H1 s1 _ ok1 p => ?_
    obtain ⟨x, ns, ds, rfl⟩ : ∃ x ns ds, d = Zed.D.exc x ns ds := by
      cases d <;> first | (exact p.elim) | exact ⟨_, _, _, rfl⟩
    have ok1 : Rep (ct (X.suite a ((a, oe) :: pn))) G1 v (.exc x ns ds) := ok1
    dsimp only at p
    split at p
    · rename_i hx
      cases q : look f ns ds with
      | none => rw [q] at p; exact p.elim
      | some z =>
        rw [q] at p
        cases ok1 with
        | exc0 hx' hc => cases q
        | @exc a' C d _ fs _ _ hx' hc hG hn hr =>
          have hx' : some (a, oe.cls, oe.dict) = some (a', Value.ref C, some d) := hx'
          simp only [Option.some.injEq, Prod.mk.injEq] at hx'
          obtain ⟨rfl, hcl, hdi⟩ := hx'
          subst hn
          obtain ⟨u, h2, h3⟩ := hr.look q
          obtain ⟨k1, k2⟩ := hF x hx C hc
          exact ⟨C, d, fs, u, rfl, hcl, hdi, k1, k2, s1.rel.ex _ _ hG, h2, p u G1 H1 s1 h3⟩
    · exact p.elim
end
end Zed
set_option Elab.async false
set_option linter.all false
set_option maxRecDepth 100000
set_option maxHeartbeats 4000000
namespace Zed
open PySem L2 PySem.Spec PyProof.Rows

structure ExcTab (K : PySem.W.Frag) (mg : Str → Option Value) (t : Tab) : Prop where
  ans : ∀ p ∈ t, ∀ u v, TyVal mg p.1 u → TyVal mg p.2.1 v → PySem.W.kitOne K u v = some p.2.2
  own : ∀ p ∈ t, ∀ x C, p.1 = .inr x → mg x = some (.ref C) → (PySem.W.clsIn K C).isSome = true ∧ PySem.W.findIn K (.ref C) "__getattribute__" = some (some (.builtin "BaseException.__getattribute__")) ∧ (∃ gt, PySem.W.findIn K (.ref C) "__getattr__" = some gt) ∧ PySem.W.subIn K (.ref C) (.type "BaseException") = some true ∧
    PySem.W.findIn K (.ref C) "__class__" = some (some (.builtin "object.__class__")) ∧ PySem.W.mroIn K C (.type "object") = some true
  sp : PySem.W.specialIn K (.builtin "object.__class__") "__get__" = some (some (.builtin "getset_descriptor.__get__"))
  tk : PySem.W.takesIn K (.builtin "object.__class__") = some true
def isEE (t : Tab) (fo fc : Exp) : Exp := fun env => Rs.b (fzE fo env) fun d e1 => Rs.b (fzE fc e1) fun c e2 => match d, clD c with
  | .exc x _ _, some b => match tabGet t (.inr x) b with
    | some r => some (.val (.frz (.bl r)) e2)
    | none => none
  | _, _ => none
section
variable {X : Cx} {W : WX} {a : Addr} {oe : Obj} {pn : List (Addr × Obj)} {e ec : Expr} {fo fc : Exp} {p pos : Pos} {t : Tab}
def rIsEZ (K : PySem.W.Frag) (a : Addr) (oe : Obj) : List V → Hp → VK → Prop := fun xs H Q => ∃ C c u b gt, xs = [.ref a, c] ∧ ClsV c u ∧ oe.cls = .ref C ∧ (oe.dict = none ∨ ∃ d fs, oe.dict = some d ∧ H d = some (.xd fs)) ∧ (PySem.W.clsIn K C).isSome = true ∧ PySem.W.findIn K (.ref C) "__getattribute__" = some (some (.builtin "BaseException.__getattribute__")) ∧
  PySem.W.findIn K (.ref C) "__getattr__" = some gt ∧ PySem.W.subIn K (.ref C) (.type "BaseException") = some true ∧ PySem.W.findIn K (.ref C) "__class__" = some (some (.builtin "object.__class__")) ∧ PySem.W.mroIn K C (.type "object") = some true ∧
  PySem.W.specialIn K (.builtin "object.__class__") "__get__" = some (some (.builtin "getset_descriptor.__get__")) ∧ PySem.W.takesIn K (.builtin "object.__class__") = some true ∧ PySem.W.kitOne K (.ref C) u = some b ∧ Q (.bl b) H
theorem call_isEZ (hf : ∃ vs, oe.data = .fields vs) : CallR (X.suite a ((a, oe) :: pn)) (.builtin "isinstance") (rIsEZ X.K a oe) := fun pins s σ H xs us Q I r h => by
  obtain ⟨C, c, u, b, gt, rfl, hc, ecl, ed, k1, k2, k3, k4, k5, k6, k7, k8, hk, q⟩ := h
  obtain ⟨u1, u2, rfl, r1, r2⟩ := vals2 r
  cases (show u1 = Value.ref a from r1)
  have := hc.eq r2
  subst this
  obtain ⟨ha, _⟩ := I.pin (a, oe) (List.mem_append_left _ List.mem_cons_self)
  obtain ⟨vs, hd⟩ := hf
  obtain ⟨oc, od, odata, osl⟩ := oe
  dsimp only at ecl ed hd
  subst ecl hd
  obtain ⟨od', J⟩ : ∃ od', PySem.W.InstAt s.heap a ⟨.ref C, od, .fields vs, osl⟩ C od' := by
    rcases ed with rfl | ⟨d, fs, rfl, hx⟩
    · exact ⟨none, ha, rfl, rfl, trivial⟩
    · obtain ⟨mA, hns, hr⟩ := (show ObjOk X.prog X.w H s.heap d (.xd fs) from I.hok d _ hx)
      obtain ⟨od, ho, hl⟩ := lookIn_ns hns
      exact ⟨some od, ha, rfl, rfl, ho⟩
  exact PySem.W.kia_one (PySem.W.kitx_exc k1 k2 k3 k4 k5 k7 k8 k6) I.kIn J hk (fun z => nomatch z) fun tk => ⟨.bl b, H, I.tok tk, rfl, q⟩
theorem SE.isE (T : ExcTab X.K X.mg t) (hm : X.mg "isinstance" = none) (hf : ∃ vs, oe.data = .fields vs) (he : SE (X.suite a ((a, oe) :: pn)) W e fo) (hc : SE (X.suite a ((a, oe) :: pn)) W ec fc) (hG : Gl X "isinstance" := by rfl)
    (h1 : starEach [e, ec] X.env = (false, eval e X.env) :: starEach [ec] X.env := by rfl) (h2 : starEach [ec] X.env = (false, eval ec X.env) :: starEach [] X.env := by rfl) (hpl : (backTo pos (starEach [ec] X.env)).any (·.1) = false := by rfl) :
    SE (X.suite a ((a, oe) :: pn)) W (.Call (.Name "isinstance" p) [e, ec] [] pos) (isEE t fo fc) := by
  obtain ⟨te, p1, q1⟩ := he
  obtain ⟨tc, p2, q2⟩ := hc
  refine ⟨_, pe_callB (X := X.suite a ((a, oe) :: pn)) (call_isEZ hf) hG hm PyProof.Rows.boot_isinstance (pa_cons p1 (pa_cons p2 pa_nil h2) h1) (by decide) (by decide) h1 hpl, fun env σ G H r0 Q p => ?_⟩
  refine q1.fz.use (Step.refl r0) p fun d e1 v G1 H1 s1 _ ok1 p => q2.fz.use s1 p fun c e2 w G2 H2 s2 s12 ok2 p => ?_
  obtain ⟨x, ns, ds, rfl⟩ : ∃ x ns ds, d = Zed.D.exc x ns ds := by
    cases d <;> first | (exact p.elim) | exact ⟨_, _, _, rfl⟩
  have ok1 : Rep (ct (X.suite a ((a, oe) :: pn))) G2 v (.exc x ns ds) := Rep.mono s12.g ok1
  have ok2 : Rep (ct (X.suite a ((a, oe) :: pn))) G2 w c := ok2
  cases hb : clD c with
  | none => rw [hb] at p; exact p.elim
  | some b =>
    rw [hb] at p
    dsimp only at p
    cases q : tabGet t (.inr x) b with
    | none => rw [q] at p; exact p.elim
    | some r =>
      rw [q] at p
      have hmem := tabGet_mem q
      obtain ⟨C, hC, hcl, hdi, hv⟩ : ∃ C, X.mg x = some (.ref C) ∧ oe.cls = .ref C ∧ (oe.dict = none ∨ ∃ d fs, oe.dict = some d ∧ H2 d = some (.xd fs)) ∧ v = .ref a := by
        cases ok1 with
        | @exc0 a' C _ hx hc =>
          have hx : some (a, oe.cls, oe.dict) = some (a', Value.ref C, none) := hx
          simp only [Option.some.injEq, Prod.mk.injEq] at hx
          obtain ⟨rfl, h1, h2⟩ := hx
          exact ⟨C, hc, h1, .inl h2, rfl⟩
        | @exc a' C d _ fs _ _ hx hc hG hn hr =>
          have hx : some (a, oe.cls, oe.dict) = some (a', Value.ref C, some d) := hx
          simp only [Option.some.injEq, Prod.mk.injEq] at hx
          obtain ⟨rfl, h1, h2⟩ := hx
          exact ⟨C, hc, h1, .inr ⟨d, fs, h2, s2.rel.ex _ _ hG⟩, rfl⟩
      subst hv
      obtain ⟨k1, k2, ⟨gt, k3⟩, k4, k5, k6⟩ := T.own _ hmem x C rfl hC
      obtain ⟨u, hu, hty⟩ : ∃ u, ClsV w u ∧ TyVal X.mg b u := by
        cases c <;> first | (cases hb; done) | skip
        · cases hb; cases ok2; exact ⟨_, .ty _, rfl⟩
        · cases hb; cases ok2 with | gl hg => exact ⟨_, .own _, hg⟩
      exact ⟨C, w, u, r, gt, rfl, hu, hcl, hdi, k1, k2, k3, k4, k5, k6, T.sp, T.tk, T.ans _ hmem _ _ hC hty, p _ G2 H2 s2 .bl⟩
end
end Zed
set_option Elab.async false
set_option linter.all false
set_option maxRecDepth 100000
set_option maxHeartbeats 4000000
namespace Zed
open PySem L2 PySem.Spec PyProof.Rows
def flg (l : List Bool) : Nat → Bool := fun i => l.getD i false
theorem hu65 {k : Nat} {A : Around} (r : Room k A) : A.units + 65 < cLine := by have := r.un; omega
theorem tk0 {X : Cx} : Takes X W0 := fun _ _ x => by obtain ⟨_, _, _, _, _, _, _, _, _, _, _, _, _, _, _, _, w⟩ := x; exact w.elim
/-- a constant of the module -/
def GlbS (K : PySem.W.Frag) (mg : Str → Option Value) (x : Str) (d : D) : Prop := ∃ u v, mg x = some u ∧ RelV v u ∧ ∀ G, Rep (c0 K mg) G v d
theorem SE.glb {X : Cx} {W : WX} {x : Str} {d : D} {pos : Pos} (h : GlbS X.K X.mg x d) (hc : X.calm = true) (hG : Gl X x := by rfl) (hd : (x == ("__debug__" : Str)) = false := by decide) : SE X W (.Name x pos) (Zed.cst d) :=
  let ⟨_, _, h1, h2, h3⟩ := h
  SE.glob hG h1 h2 (by rw [ct0 hc]; exact h3) hd
def negD : D → Option OV
  | .int i => some (.frz (.int (-i)))
  | _ => none
theorem o_neg {c : Ct} : Op1 c (rU fun i => .int (-i)) negD := fun G H v d z Q x w e o => by
  unfold negD at e
  split at e
  · cases e; rw [w.int]; exact ⟨_, rfl, o.int x⟩
  · cases e
theorem SE.neg {X : Cx} {W : WX} {a : Expr} {f : Exp} {pos : Pos} (h : SE X W a f) : SE X W (.UnaryOp .USub a pos) (un negD f) := SE.unop un_neg o_neg h
/-- a def of the text -/
structure DefS (K : PySem.W.Frag) (x qual : Str) (st : Stmt) (ps : List Str) (a : Addr) : Prop where
  ex : ∃ fd, L2.Fun K x qual st a fd ∧ L2.Binds K fd ps []
theorem fnS_of {P : Program} {w : World} {K : PySem.W.Frag} {mg : Str → Option Value} {base : Heap} {x qual : Str} {st : Stmt} {a : Addr} {N ps : List Str} {k : Nat} {Fx : Nat → Bool} {d : Stm} (F : DefS K x qual st ps a) (S : FnScope N ps (defScope st))
    (body : ∀ (cdv : Value) (A : Around) (outer : List PySem.Env) (s : Shared) (H : Hp) (E : XK), Room k (A.deeper (envOfC qual (defScope st) s.heap.objs.size a cdv)) → SS (BX P w K mg base N qual st a cdv A outer s H E) (BW E) Fx (defBody st) d) :
    FnS P w K mg base (k + 1) (runF ps.length N.length Fx d) a [] := by
  obtain ⟨fd, F, hb⟩ := F.ex
  exact ⟨⟨fd, ps, [], [], ps.length, fn_ok F S body, hb, .nil, fun G => .nil, runF_np⟩, F.kp⟩
end Zed
set_option Elab.async false
set_option linter.all false
set_option maxRecDepth 100000
set_option maxHeartbeats 4000000
namespace Zed
open PySem L2 PySem.Spec PyProof.Rows

section
variable {prog : Program} {w : World} {A : Around}
def itb : Bool → Heap → Addr → Addr → Nat → Prop
  | true, h, t, l, i => h.IsTupleIter t l i
  | false, h, t, l, i => h.IsListIter t l i
def sqb : Bool → Heap → Addr → Array Value → Prop
  | true, h, l, xs => h.IsTuple l xs
  | false, h, l, xs => h.IsList l xs
def stb (b : Bool) (t l : Addr) (xs : Array Value) (i : Nat) : Nat → Heap → Prop := fun j h => (itb b h t l j ∧ sqb b h l xs) ∧ (xs.size ≤ i → j = i)
theorem itb_at {b : Bool} {h h' : Heap} {t l : Addr} {i : Nat} (x : itb b h t l i) (e : ∀ o, h.get? t = some o → h'.get? t = some o) : itb b h' t l i := by
  cases b
  · exact Heap.IsListIter.at x e
  · exact Heap.IsTupleIter.at x e
theorem sqb_at {b : Bool} {h h' : Heap} {l : Addr} {xs : Array Value} (x : sqb b h l xs) (e : ∀ o, h.get? l = some o → h'.get? l = some o) : sqb b h' l xs := by
  cases b
  · exact Heap.IsList.at x e
  · exact Heap.IsTuple.at x e
theorem itb_obj {b : Bool} {h : Heap} {t l : Addr} {i : Nat} (x : itb b h t l i) : ∃ o, h.get? t = some o ∧ ∀ v, o.data ≠ .cell v := by
  cases b <;> (obtain ⟨o, e, _, d⟩ := x; exact ⟨o, e, fun v q => by rw [d] at q; cases q⟩)
theorem sqb_lt {b : Bool} {h : Heap} {l : Addr} {xs : Array Value} (x : sqb b h l xs) : l < h.objs.size := by
  cases b <;> (obtain ⟨o, e, _⟩ := x; exact Heap.lt_size e)
theorem draws_b (b : Bool) (hh : A.handled = none) (t l : Addr) (hne : l ≠ t) (xs : Array Value) (i : Nat) : Draws prog w A t [t, l] (max xs.size i) (fun j v => xs[j]? = some v) (stb b t l xs i) where
  live := fun _ _ z => let ⟨o, ho, _⟩ := itb_obj z.1.1; ⟨o, ho⟩
  frame := fun _ _ _ z hk => ⟨⟨itb_at z.1.1 (hk t (by simp)), sqb_at z.1.2 (hk l (by simp))⟩, z.2⟩
  item := fun j s Q E hj z hQ => by
    obtain ⟨⟨z1, z2⟩, z3⟩ := z
    have hs : j < xs.size := by
      by_cases q : xs.size ≤ i
      · have := z3 q; omega
      · omega
    cases b with
    | false => exact wpAny_nextOf_list_item z1 z2 (x := xs[j]) (by simp [hs]) fun h' y1 y2 => hQ _ h' s.toks (by simp [hs]) ⟨⟨y1, Heap.IsList.extBut z2 y2.extBut hne⟩, fun q => by have := z3 q; omega⟩ y2
    | true => exact wpAny_nextOf_tuple_item z1 z2 (x := xs[j]) (by simp [hs]) fun h' y1 y2 => hQ _ h' s.toks (by simp [hs]) ⟨⟨y1, Heap.IsTuple.extBut z2 y2.extBut hne⟩, fun q => by have := z3 q; omega⟩ y2
  done := fun s Q E z hE => by
    obtain ⟨⟨z1, z2⟩, z3⟩ := z
    have hs : xs[max xs.size i]? = none := by simp; omega
    cases b with
    | false => exact wpAny_nextOf_list_end hh z1 z2 hs hE
    | true => exact wpAny_nextOf_tuple_end hh z1 z2 hs hE
def objb : Bool → Addr → Obj
  | true, l => { cls := .type "tuple_iterator", data := .fields #[.ref l, .int 0 0] }
  | false, l => { cls := .type "list_iterator", data := .fields #[.ref l, .int 0 0] }
theorem begins_b (b : Bool) (l : Addr) (xs : Array Value) : Begins (.ref l) (objb b l) fun h => sqb b h l xs := by
  cases b
  · exact begins_list l xs
  · exact begins_tuple l xs
theorem itb_of {b : Bool} {h : Heap} {t l : Addr} (e : h.get? t = some (objb b l)) : itb b h t l 0 := by
  cases b <;> exact ⟨_, e, rfl, rfl⟩
end
def SqB (K : PySem.W.Frag) : Bool → Hp → Addr → List V → Prop
  | true, H, a, xs => SqT K H a xs
  | false, H, a, xs => SqL K H a xs
def Itb (K : PySem.W.Frag) (b c : Bool) (a1 a2 : Addr) : It :=
  ⟨fun i H => ∃ (xs ys : List V) (x y : V), SqB K b H a1 xs ∧ SqB K c H a2 ys ∧ xs[i]? = some x ∧ ys[i]? = some y,
    fun i H v H' => ∃ T x y, v = .ref T ∧ H T = none ∧ H' = upd H T (.tup [x, y]) ∧ (∀ xs, SqB K b H a1 xs → xs[i]? = some x) ∧ ∀ ys, SqB K c H a2 ys → ys[i]? = some y,
    fun i H => ∃ xs ys : List V, SqB K b H a1 xs ∧ SqB K c H a2 ys ∧ (xs.length ≤ i ∨ ys.length ≤ i)⟩
section
variable {X : Cx} {pins : List (Addr × Obj)} {σ : L2.St} {H : Hp} {s : Shared}
theorem inv_sqb {b : Bool} {a : Addr} {xs : List V} (I : L2.Inv X pins σ H s) (h : SqB X.K b H a xs) : ∃ its, Vals xs its ∧ sqb b s.heap a its.toArray := by
  cases b with
  | false => obtain ⟨its, rv, p, _⟩ := I.list h; exact ⟨its, rv, p.isList⟩
  | true => obtain ⟨its, rv, p, _⟩ := I.tuple h; exact ⟨its, rv, p⟩
theorem inv_inj {b : Bool} {a : Addr} {xs ys : List V} (I : L2.Inv X pins σ H s) (h : SqB X.K b H a xs) (h' : SqB X.K b H a ys) : xs = ys := by
  cases b with
  | false => exact I.list_inj h h'
  | true => exact I.tuple_inj h h'
def tnb (b c : Bool) (a1 a2 z TI TO i1 i2 : Addr) : Nat → Heap → Prop := fun i h => IsZip h z TI TO .none ∧ IsPair h TI (.ref i1) (.ref i2) ∧ (∃ x y, IsPair h TO x y) ∧ itb b h i1 a1 i ∧ itb c h i2 a2 i ∧ ZipSep2 z TI TO i1 i2 [i1, a1] [i2, a2] ∧ a1 ≠ i1 ∧ a2 ≠ i2
theorem ch5 {c z TI TO i1 i2 : Addr} (h : c ∈ [z, TI, TO, i1, i2]) : c = z ∨ c = TI ∨ c = TO ∨ c = i1 ∨ c = i2 := by simpa using h
theorem turn_b {P : Program} {w : World} {K : PySem.W.Frag} {elts : List Expr} {kk : Nat} {tpos : Pos} {b c : Bool} {a1 a2 z TI TO i1 i2 : Addr} :
    L2.Turn P w K (.Tuple elts kk tpos) (Itb K b c a1 a2) [z, TI, TO, i1, i2] z (tnb b c a1 a2 z TI TO i1 i2) where
  mem := List.mem_cons_self
  obj := fun i h st d hd => by
    obtain ⟨hz, hTI, ⟨x, y, hTO⟩, h1, h2, _⟩ := st
    rcases ch5 hd with rfl | rfl | rfl | rfl | rfl
    · exact ⟨_, hz, fun v q => nomatch q⟩
    · exact ⟨_, hTI, fun v q => nomatch q⟩
    · exact ⟨_, hTO, fun v q => nomatch q⟩
    · exact itb_obj h1
    · exact itb_obj h2
  keep := fun i h h' st k => by
    obtain ⟨hz, hTI, ⟨x, y, hTO⟩, h1, h2, r⟩ := st
    exact ⟨k z (by simp) _ hz, k TI (by simp) _ hTI, ⟨x, y, k TO (by simp) _ hTO⟩, itb_at h1 (k i1 (by simp)), itb_at h2 (k i2 (by simp)), r⟩
  item := by
    rintro X rfl rfl rfl hc i pins s σ H E I hf st ⟨xs, ys, x, y, q1, q2, g1, g2⟩
    obtain ⟨hz, hTI, ⟨x0, y0, hTO⟩, h1, h2, S, n1, n2⟩ := st
    obtain ⟨us, r1, p1⟩ := inv_sqb I q1
    obtain ⟨vs, r2, p2⟩ := inv_sqb I q2
    obtain ⟨u, hu, ru⟩ := r1.get g1
    obtain ⟨v, hv, rv⟩ := r2.get g2
    have l1 : i < us.toArray.size := by simpa using (List.getElem?_eq_some_iff.mp hu).1
    have l2 : i < vs.toArray.size := by simpa using (List.getElem?_eq_some_iff.mp hv).1
    have zlt : z < s.heap.objs.size := Heap.lt_size hz
    have D1 : Draws X.prog X.w X.A.in1 i1 [i1, a1] (max us.toArray.size i) (fun j v => us.toArray[j]? = some v) (stb b i1 a1 us.toArray i) := draws_b (A := X.A.in1) b (show X.A.in1.handled = none from I.ok.hd hc) i1 a1 n1 us.toArray i
    have D2 : Draws X.prog X.w X.A.in1 i2 [i2, a2] (max vs.toArray.size i) (fun j v => vs.toArray[j]? = some v) (stb c i2 a2 vs.toArray i) := draws_b (A := X.A.in1) c (show X.A.in1.handled = none from I.ok.hd hc) i2 a2 n2 vs.toArray i
    refine wpAny_pyNext_zipD2_item S D1 D2 hz hTI hTO ⟨⟨h1, p1⟩, fun _ => rfl⟩ ⟨⟨h2, p2⟩, fun _ => rfl⟩ (by omega) (by omega) fun u' v' h' tk e1 e2 z' TO' t1 t2 hT hsz hk => ?_
    obtain rfl : u = u' := by have := e1; simp only [List.getElem?_toArray, hu] at this; cases this; rfl
    obtain rfl : v = v' := by have := e2; simp only [List.getElem?_toArray, hv] at this; cases this; rfl
    refine ⟨_, rfl, wpAny_letOwnedTupleGo_zip (s := { s with heap := h', toks := tk }) z' fun h'' z'' sb => ?_⟩
    have up : ∀ d o, d ≠ z → h'.get? d = some o → h''.get? d = some o := fun d o hd e => (sb.2 d hd).trans e
    have new : ObjOk X.prog X.w (upd H s.heap.objs.size (.tup [x, y])) h'' s.heap.objs.size (.tup [x, y]) :=
      ⟨by show 2 ≤ sizeLine; decide, [u, v], .cons ru (.cons rv .nil), ⟨_, up _ _ (Nat.ne_of_gt zlt) hT, rfl, _, rfl⟩⟩
    have far : ∀ d o, d ∉ [z, TI, TO, i1, i2] → s.heap.get? d = some o → h''.get? d = some o := fun d o hd e => by
      simp only [List.mem_cons, List.not_mem_nil, or_false, not_or] at hd
      exact up d o hd.1 (hk d o hd.1 hd.2.2.1 hd.2.2.2.1 hd.2.2.2.2 e)
    have I1 : L2.Inv X pins σ (upd H s.heap.objs.size (.tup [x, y])) { s with heap := h'', toks := tk } := I.turnedNew far hf (Nat.le_refl _) new
    refine ⟨.ref s.heap.objs.size, _, I1, rfl, ⟨_, x, y, rfl, I.hok.fresh (Nat.le_refl _), rfl, fun l hl => by rw [inv_inj I hl q1]; exact g1, fun l hl => by rw [inv_inj I hl q2]; exact g2⟩, ⟨z'', ?_, ⟨u, v, up _ _ S.TOz TO'⟩, itb_at t1.1.1 fun o q => up _ _ S.zi1.symm q, itb_at t2.1.1 fun o q => up _ _ S.zi2.symm q, S, n1, n2⟩, fun d hd => ?_⟩
    · exact up _ _ S.TIz (hk _ _ S.TIz S.TITO S.TIi1 S.TIi2 hTI)
    · have hlt : d < s.heap.objs.size := by
        rcases ch5 hd with rfl | rfl | rfl | rfl | rfl
        · exact zlt
        · exact Heap.lt_size hTI
        · exact Heap.lt_size hTO
        · obtain ⟨_, e, _⟩ := itb_obj h1; exact Heap.lt_size e
        · obtain ⟨_, e, _⟩ := itb_obj h2; exact Heap.lt_size e
      rw [upd_ne (Nat.ne_of_lt hlt)]
      exact (hf d hd).1
  done := by
    rintro X rfl rfl rfl hc i pins s σ H E I hf st ⟨xs, ys, q1, q2, hend⟩
    obtain ⟨hz, hTI, ⟨x0, y0, hTO⟩, h1, h2, S, n1, n2⟩ := st
    obtain ⟨us, r1, p1⟩ := inv_sqb I q1
    obtain ⟨vs, r2, p2⟩ := inv_sqb I q2
    have l1 : us.toArray.size = xs.length := by simpa using r1.length.symm
    have l2 : vs.toArray.size = ys.length := by simpa using r2.length.symm
    have D1 : Draws X.prog X.w X.A.in1 i1 [i1, a1] (max us.toArray.size i) (fun j v => us.toArray[j]? = some v) (stb b i1 a1 us.toArray i) := draws_b (A := X.A.in1) b (show X.A.in1.handled = none from I.ok.hd hc) i1 a1 n1 us.toArray i
    have D2 : Draws X.prog X.w X.A.in1 i2 [i2, a2] (max vs.toArray.size i) (fun j v => vs.toArray[j]? = some v) (stb c i2 a2 vs.toArray i) := draws_b (A := X.A.in1) c (show X.A.in1.handled = none from I.ok.hd hc) i2 a2 n2 vs.toArray i
    refine wpAny_pyNext_zipD2_end S D1 D2 hz hTI hTO ⟨⟨h1, p1⟩, fun _ => rfl⟩ ⟨⟨h2, p2⟩, fun _ => rfl⟩ (by omega) (by omega) (by omega) fun h' tk hk => ⟨rfl, I.turnedL (ch := [z, TI, TO, i1, i2]) (fun d o hd e => ?_) hf⟩
    simp only [List.mem_cons, List.not_mem_nil, or_false, not_or] at hd
    exact hk d o hd.1 hd.2.2.1 hd.2.2.2.1 hd.2.2.2.2 e
  self := fun A i s Q E st h => wpAny_pyIter_zip st.1 h
theorem sep_b {N a1 a2 : Nat} (h1 : a1 < N) (h2 : a2 < N) : ZipSep2 (N + 4) (N + 2) (N + 3) N (N + 1) [N, a1] [N + 1, a2] :=
  zip_sep2 (fp1 := [a1]) (fp2 := [a2]) (fun b hb => by rw [List.mem_singleton.mp hb]; exact h1) (fun b hb => by rw [List.mem_singleton.mp hb]; exact h2)
def iZb (K : PySem.W.Frag) (b c : Bool) (ta : TA) : TI := fun σ H R => ta σ H fun vs H1 => ∃ a1 a2 xs ys, vs = [.ref a1, .ref a2] ∧ SqB K b H1 a1 xs ∧ SqB K c H1 a2 ys ∧ R (Itb K b c a1 a2) H1
theorem pi_zb {b c : Bool} {e e2 : Expr} {ta : TA} {p pos tpos : Pos} {elts : List Expr} {kk : Nat} (hg : Gl X "zip") (hm : X.mg "zip" = none) (ha : PA X [e, e2] ta)
    (hs : starEach [e, e2] X.env = (false, eval e X.env) :: starEach [e2] X.env := by rfl) (hpl : (backTo pos (starEach [e2] X.env)).any (·.1) = false := by rfl) :
    PI X (.Tuple elts kk tpos) (.Call (.Name "zip" p) [e, e2] [] pos) (iZb X.K b c ta) := by
  refine ⟨fun pins s σ H R I h => Call_ (ld_blt I hg hm PyProof.Rows.boot_zip (PyProof.Rows.callWith_type1 (thn (ha.run pos pins s σ H _ I h) fun us s1 ⟨vs, H1, I1, r1, q1⟩ => ?_) hs hpl))⟩
  obtain ⟨a1, a2, xs, ys, rfl, q1, q2, q⟩ := q1
  obtain ⟨u, v, rfl, ru, rv⟩ := vals2 r1
  cases ru
  cases rv
  obtain ⟨us, _, p1⟩ := inv_sqb I1 q1
  obtain ⟨vs, _, p2⟩ := inv_sqb I1 q2
  have l1 := sqb_lt p1
  have l2 := sqb_lt p2
  refine zip_begins2 (begins_b b a1 us.toArray) (begins_b c a2 vs.toArray) p1 p2 fun h' hz hTI hTO h1 h2 hsz hk => wpAny_pyIter_zip hz ?_
  have I2 : L2.Inv X pins σ H1 { s1 with heap := h' } := I1.kept (t' := s1.toks) hk
  refine ⟨s1.heap.objs.size + 4, [s1.heap.objs.size + 4, s1.heap.objs.size + 2, s1.heap.objs.size + 3, s1.heap.objs.size, s1.heap.objs.size + 1], _, _, H1, rfl, I2, turn_b, ⟨hz, hTI, ⟨_, _, hTO⟩, itb_of h1, itb_of h2, sep_b l1 l2, Nat.ne_of_lt l1, Nat.ne_of_lt (Nat.lt_succ_of_lt l2)⟩, fun d hd => ?_, q⟩
  have hle : s1.heap.objs.size ≤ d := by
    rcases ch5 hd with rfl | rfl | rfl | rfl | rfl
    · exact Nat.le_add_right _ 4
    · exact Nat.le_add_right _ 2
    · exact Nat.le_add_right _ 3
    · exact Nat.le_refl _
    · exact Nat.le_add_right _ 1
  exact I1.fpOk hle (I1.hok.fresh hle)
end
/-- the items of a list (false) or tuple (true) -/
def sqD : Bool → D → Option (List D)
  | true, d => tupOf d
  | false, d => seqOf d
def zipB (b c : Bool) : List D → Option (List D)
  | [d, e] => match sqD b d, sqD c e with
    | some ds, some es => some (zipD ds es)
    | _, _ => none
  | _ => none
section
variable {c : Ct} {W : WX}
theorem key_sq {b : Bool} {v : V} {d : D} {ds : List D} {G : Hp} (ok : Rep c G v d) (e : sqD b d = some ds) : ∃ a vs, v = .ref a ∧ SqB c.K b G a vs ∧ Reps c G vs ds := by
  cases b with
  | false => exact key_seq ok e
  | true => exact key_tup ok e
theorem ex_sq {b : Bool} {G H : Hp} (x : Ex G H) {a : Addr} {vs : List V} (h : SqB c.K b G a vs) : SqB c.K b H a vs := by
  cases b with
  | false => exact x.sl h
  | true => exact x.st h
theorem itb_ok {b b' : Bool} {a1 a2 : Addr} {vs us : List V} {ds es : List D} {G : Hp} (h1 : SqB c.K b G a1 vs) (h2 : SqB c.K b' G a2 us) (r1 : Reps c G vs ds) (r2 : Reps c G us es) : ItOk c (Itb c.K b b' a1 a2) G (zipD ds es) := by
  refine fun i env σ G' H r x => ⟨fun hi => ⟨vs, us, ex_sq r.ex (ex_sq x h1), ex_sq r.ex (ex_sq x h2), by rw [r1.length, r2.length]; exact zip_len hi⟩, fun d hd => ?_⟩
  obtain ⟨d', e', k1, k2, rfl⟩ := zip_get hd
  obtain ⟨u, hu, ru⟩ := r1.get k1
  obtain ⟨u2, hu2, ru2⟩ := r2.get k2
  refine ⟨⟨vs, us, u, u2, ex_sq r.ex (ex_sq x h1), ex_sq r.ex (ex_sq x h2), hu, hu2⟩, fun y H' ⟨T, p, q, e1, hT, e2, y1, y2⟩ => ?_⟩
  have z1 := y1 vs (ex_sq r.ex (ex_sq x h1))
  have z2 := y2 us (ex_sq r.ex (ex_sq x h2))
  rw [hu] at z1; cases z1
  rw [hu2] at z2; cases z2
  subst e1 e2
  exact pair_step r x hT ru ru2
theorem evI_zb {b b' : Bool} {ta : TA} {f : Dargs} (hf : Ev okDs c W ta f) : Ev okI c W (iZb c.K b b' ta) (itE f (zipB b b')) := fun env σ G H r R p => by
  refine hf.use (Step.refl r) p fun rs e1 vs G1 H1 s _ ok p => ?_
  have ok : Reps c G1 vs rs := ok
  split at p
  · rename_i ds q
    unfold zipB at q
    split at q
    · obtain ⟨v, w, rfl, r1, r2⟩ := ok.two
      split at q
      · rename_i z1 z2
        cases q
        obtain ⟨a, us, rfl, hq, rs⟩ := key_sq r1 z1
        obtain ⟨b, us2, rfl, hq2, rs2⟩ := key_sq r2 z2
        exact ⟨a, b, us, us2, rfl, ex_sq s.rel.ex hq, ex_sq s.rel.ex hq2, p _ G1 H1 s (itb_ok hq hq2 rs rs2)⟩
      · cases q
    · cases q
  · exact p.elim
end
section
variable {X : Cx} {W : WX} {e e2 : Expr} {h : Dargs} {p' pos' tpos : Pos} {elts : List Expr} {kk : Nat}
theorem SI.zipB (b c : Bool) (hm : X.mg "zip" = none) (he : SDA X W [e, e2] h) (hG : Gl X "zip" := by rfl) (h1 : starEach [e, e2] X.env = (false, eval e X.env) :: starEach [e2] X.env := by rfl) (h2 : (backTo pos' (starEach [e2] X.env)).any (·.1) = false := by rfl) :
    SI X W (.Tuple elts kk tpos) (.Call (.Name "zip" p') [e, e2] [] pos') (itE h (Zed.zipB b c)) :=
  let ⟨_, p, q⟩ := he; ⟨_, pi_zb hG hm p h1 h2, evI_zb q⟩
end
end Zed
set_option Elab.async false
set_option linter.all false
set_option maxRecDepth 100000
set_option maxHeartbeats 4000000
namespace Zed
open PySem L2 PySem.Spec PyProof.Rows

def SET (X : Cx) (W : WX) (e : Expr) (f : Exp) : Prop := ∃ t, L2.PET X e t ∧ Ev RvOk (ct X) W t f
def S1T (X : Cx) (W : WX) (F : Nat → Bool) (st : Stmt) (f : Stm) : Prop := ∃ t, L2.PST X st t ∧ EvS F (ct X) W t f
def SST (X : Cx) (W : WX) (F : Nat → Bool) (sts : List Stmt) (f : Stm) : Prop := ∃ t, L2.PSsT X sts t ∧ EvS F (ct X) W t f
/-- a test behind which a token is out -/
def STt (X : Cx) (W : WX) (e : Expr) (f : Tst) : Prop := ∃ t : TT, (∀ (pins : List (Addr × Obj)) (s : Shared) (σ : L2.St) (H : Hp) (Q : Bool → Hp → Prop), L2.Inv X pins σ H s → t σ H Q →
  wpAny (model X.prog X.w) X.A (isTrue e X.env (eval e X.env)) (fun b s1 => TP X pins σ Q b s1 ∧ 1 ≤ s1.toks) X.xe s) ∧ Ev okT (ct X) W t f
def replN (y z : Str) : D → Option OV
  | .str x => if x.length + (x.length + 1) * z.length ≤ 16777216 then some (.frz (.str (Txt.replace x y z))) else none
  | _ => none
section
variable {X : Cx} {W : WX} {F : Nat → Bool} {a b o : Expr} {fa fb fo fe : Exp} {f g : Stm} {e : Expr} {st : Stmt} {rest sts : List Stmt} {pos p p' apos c0 c1 : Pos}
theorem STt.cmp {op : CmpOp} {r : R2} {φ : D → D → Option OV} {k : Int} {j : Nat} {cp : Pos} (ho : OpR X (compareOp op) r) (h : Op2 (ct X) r φ) (ha : SE X W a fa) (hm : behindInMarks op (.Constant (.int k) j cp) = false := by first | exact nomark _ (by decide) (by decide) | rfl) :
    STt X W (.Compare a [op] [.Constant (.int k) j cp] pos) (tst (bin φ fa (Zed.cst (.int k)))) := by
  obtain ⟨te, p1, q1⟩ := ha
  refine ⟨_, fun pins s σ H Q I hh => ?_, (q1.op h (show Ev RvOk (ct X) W (tC (.int k)) (Zed.cst (.int k)) from fun env σ G H r Q p => p _ G H (Step.refl r) .int)).tst⟩
  refine wpAny_isTrue_Compare1 (thn (p1.run pins s σ H _ I hh) fun v s1 ⟨x, H1, I1, r1, y1⟩ => ?_) hm
  refine wpAny_Constant_int ?_
  have y1 : r x (.int k) H1 fun z H2 => ∃ d, z = .bl d ∧ Q d H2 := y1
  refine wpAny_mono (PySem.wpAny_toks (ho pins { s1 with toks := s1.toks + 1 } σ H1 x (.int k) v (.int k s1.toks) _ (I1.tok _) r1 ⟨_, rfl⟩ y1)) (fun c s3 z => ?_) fun _ _ z => z.2
  obtain ⟨hk, z, H3, I3, r3, d, rfl, q3⟩ := z
  have hk : s1.toks + 1 ≤ s3.toks := hk
  cases r3
  exact wpAny_truthy_bool ⟨⟨H3, I3, q3⟩, by omega⟩
theorem SET.of (h : SE X W e fe) : SET X W e fe := let ⟨_, p, q⟩ := h; ⟨_, CwR.PET.of p, q⟩
theorem SET.op {op : Operator} {r : R2} {φ : D → D → Option OV} (ho : OpR X (binaryOp op) r) (h : Op2 (ct X) r φ) (ha : SET X W a fa) (hb : SET X W b fb) : SET X W (.BinOp a op b pos) (bin φ fa fb) :=
  let ⟨_, p1, q1⟩ := ha; let ⟨_, p2, q2⟩ := hb; ⟨_, CwR.pet_op ho p1 p2, q1.op h q2⟩
theorem SET.repl {y z : Str} {j k : Nat} (ho : SE X W o fo) (hyz : (y == z) = false := by decide)
    (hst : starEach [.Constant (.str y) j c0, .Constant (.str z) k c1] X.env = [(false, eval (.Constant (.str y) j c0) X.env), (false, eval (.Constant (.str z) k c1) X.env)] := by rfl)
    (hbase : attributeBase o "replace" X.env (eval o X.env) = eval o X.env := by rfl) (hline : (apos.endLine == pos.line) = true := by rfl) :
    SET X W (.Call (.Attribute o "replace" apos) [.Constant (.str y) j c0, .Constant (.str z) k c1] [] pos) (un (replN y z) fo) := by
  obtain ⟨to, p1, q1⟩ := ho
  refine ⟨_, CwR.pet_replC p1 hyz hst hbase hline, fun env σ G H r0 Q p => ?_⟩
  refine q1.un (r := fun v H Q => ∃ x, v = .str x ∧ x.length + (x.length + 1) * z.length ≤ 16777216 ∧ Q (.str (Txt.replace x y z)) H) (fun G H v d w Q x vw e o => ?_) env σ G H r0 Q p
  unfold replN at e
  split at e
  · split at e
    · rename_i s hs
      cases e
      exact ⟨_, vw.str, hs, o.str x⟩
    · cases e
  · cases e
theorem S1T.of (h : S1 X W F st f) : S1T X W F st f := let ⟨_, p, q⟩ := h; ⟨_, L2.PST.of p, q⟩
theorem S1T.ret (h : SET X W e fe) : S1T X W F (.Return (some e) pos) (retS fe) := by
  obtain ⟨te, p1, q1⟩ := h
  refine ⟨_, CwR.pst_ret p1, fun env σ G H r D p => ?_⟩
  exact q1.uses (SStep.refl r) p fun rv e1 v G1 H1 s _ ok p => p v σ G1 H1 s ok
theorem S1T.asg {x : Str} {pos' : Pos} (i : Nat) (h : SET X W e fe) (f : F i = false := by rfl) (hN : X.N.Nodup) (hi : X.N[i]? = some x := by rfl) (hx : Loc X.env.scope x := by first | exact Or.inl rfl | exact Or.inr rfl)
    (hs : swapsWith e (some (.Name x pos')) pos.line X.env = pure false := by rfl) (hf : X.fn x = true ∨ X.env.scope.names.lookup x = some .local := by first | exact .inl rfl | exact .inr rfl) : S1T X W F (.Assign [.Name x pos'] e pos) (asgS i fe) := by
  obtain ⟨te, p1, q1⟩ := h
  refine ⟨tAsg te (gName i), fun pins s σ H D h0 I h => ?_, fun env σ G H r D p => ?_⟩
  · exact wpAny_Assign_Name (thn (p1 pins s σ H _ h0 I h) fun v s1 ⟨y, H1, I1, r1, y1⟩ => store_ok I1 hN hi hx r1 (fun s2 I2 => ⟨_, H1, I2, y1⟩) hf) hs
  · refine q1.uses (SStep.refl r) p fun rv e1 v G1 H1 s s1 ok p => ?_
    split at p
    · rename_i e2 q
      obtain ⟨G2, s2⟩ := bind_ok r (SStep.refl r) s1 ok f q
      exact p _ G2 H1 s2
    · exact p.elim
theorem evS_ifs {t : Tst} {tt : TT} {ta tb : TS} (q1 : Ev okT (ct X) W tt t) (q2 : EvS F (ct X) W ta f) (q3 : EvS F (ct X) W tb g) : EvS F (ct X) W (tIfS tt ta tb) (ifS t f g) := fun env σ G H r D p => by
  refine q1.uses (SStep.refl r) p fun b' e1 b1 G1 H1 s _ ok p => ?_
  have ok : b1 = b' := ok
  subst ok
  cases b1 with
  | true => rw [if_pos rfl] at p ⊢; exact q2.at' s p
  | false => rw [if_neg Bool.false_ne_true] at p ⊢; exact q3.at' s p
theorem S1T.ifs {t : Tst} {as bs : List Stmt} (ht : ST X W e t) (ha : SST X W F as f) (hb : SST X W F bs g) : S1T X W F (.If e as bs pos) (ifS t f g) :=
  let ⟨_, p1, q1⟩ := ht; let ⟨_, p2, q2⟩ := ha; let ⟨_, p3, q3⟩ := hb; ⟨_, CwR.pst_if p1 p2 p3, evS_ifs q1 q2 q3⟩
theorem SST.of (h : SS X W F sts f) : SST X W F sts f := let ⟨_, p, q⟩ := h; ⟨_, L2.PSsT.of p, q⟩
theorem SST.one (h : S1T X W F st f) : SST X W F [st] f := let ⟨_, p, q⟩ := h; ⟨_, fun pins s σ H D h0 I z => wpAny_execs_cons (thn (p pins s σ H D h0 I z) fun fl s1 q => by
  cases fl with
  | next => exact wpAny_execs_nil q
  | ret v => exact q
  | brk => exact q
  | cont => exact q), q⟩
theorem SST.cons (h : S1T X W F st f) (k : SST X W F rest g) : SST X W F (st :: rest) (seqS f g) := let ⟨_, p, q⟩ := h; let ⟨_, p2, q2⟩ := k; ⟨_, L2.psst_cons p p2, q.seq q2⟩
/-- behind the test of this if a token is out -/
theorem SS.tok {t : Tst} {as bs : List Stmt} {k : Stm} (ht : STt X W e t) (ha : SST X W F as f) (hb : SST X W F bs g) (hr : SST X W F rest k) : SS X W F (.If e as bs pos :: rest) (seqS (ifS t f g) k) := by
  obtain ⟨tt, p1, q1⟩ := ht
  obtain ⟨ta, p2, q2⟩ := ha
  obtain ⟨tb, p3, q3⟩ := hb
  obtain ⟨tr, p4, q4⟩ := hr
  refine ⟨tSeq (tIfS tt ta tb) tr, ⟨fun pins s σ H D I h => ?_⟩, (evS_ifs q1 q2 q3).seq q4⟩
  have h : tt σ H fun d H1 => if d = true then ta { D with nx := tr D } σ H1 else tb { D with nx := tr D } σ H1 := h
  have key : wpAny (model X.prog X.w) X.A (exec (.If e as bs pos) X.env) (fun fl s1 => SP X pins { D with nx := tr D } fl s1 ∧ 1 ≤ s1.toks) X.xe s := by
    refine wpAny_If (thn (p1 pins s σ H _ I h) fun d s1 ⟨⟨H1, I1, y⟩, hk⟩ => ?_)
    cases d with
    | true =>
      rw [if_pos rfl] at y
      exact wpAny_mono (PySem.wpAny_toks (p2 pins s1 σ H1 _ hk I1 y)) (fun fl s2 z => ⟨z.2, Nat.le_trans hk z.1⟩) fun _ _ z => z.2
    | false =>
      rw [if_neg Bool.false_ne_true] at y
      exact wpAny_mono (PySem.wpAny_toks (p3 pins s1 σ H1 _ hk I1 y)) (fun fl s2 z => ⟨z.2, Nat.le_trans hk z.1⟩) fun _ _ z => z.2
  refine wpAny_execs_cons (thn key fun fl s1 ⟨z, hk⟩ => ?_)
  cases fl with
  | next => obtain ⟨σ', H', I', z⟩ := z; exact p4 pins s1 σ' H' D hk I' z
  | ret v => exact z
  | brk => exact z
  | cont => exact z
end
end Zed
set_option Elab.async false
set_option linter.all false
set_option maxRecDepth 100000
set_option maxHeartbeats 4000000
namespace K50
open PySem L2 PySem.Spec PyProof.Rows Zed
def top (i : Nat) : Stmt := PySem.Challenge.pw_rightatlast_k50_code_texts.main.body.getD i (.Pass ⟨0, 0, 0, 0⟩)
abbrev c_SMALL : D := .str "abcdefghijklmnopqrstuvwxyz"
abbrev c_CAPITALS : D := .str "ABCDEFGHIJKLMNOPQRSTUVWXYZ"
abbrev c_DIGITS : D := .str "0123456789"
abbrev c_RESERVED : D := .tup [.str "not", .str "and", .str "or", .str "some", .str "every", .str "by"]
abbrev c_LONGEST_WORD : D := .int 8
abbrev c_MOST_ROWS : D := .int 40000
abbrev tab_FORMS : List (Str × D) := [("number", .tup [.tup [.int 0, .int 99]]), ("name", .tup [.str "name"]), ("add", .tup [.tup [.int 1, .int 9]]), ("call", .tup [.str "name", .tup [.int 1, .int 2]]), ("guess", .tup [.str "choice", .tup [.int 0, .int 6]]), ("letter", .tup [.str "letter"]), ("same", .tup []), ("most", .tup []), ("holds", .tup [.str "relation", .tup [.int 1, .int 2]]), ("not", .tup []), ("and", .tup []), ("or", .tup []), ("if", .tup []), ("body", .tup [.str "choice"]), ("end", .tup []), ("demand", .tup [.tup [.int 1, .int 60]]), ("pass", .tup [.tup [.int 1, .int 99999]]), ("correct", .tup [.str "choice", .tup [.int 0, .int 6], .tup [.int 1, .int 60]]), ("stop", .tup [])]
abbrev tab_LOOKS : List (Str × D) := [("name", .gl "is_name"), ("letter", .gl "is_letter"), ("relation", .gl "is_relation"), ("choice", .gl "is_choice")]
abbrev ty_tab : Tab := [((.inl "NoneType"), (.inl "int"), false), ((.inl "NoneType"), (.inl "str"), false), ((.inl "NoneType"), (.inl "bool"), false), ((.inl "NoneType"), (.inl "tuple"), false), ((.inl "NoneType"), (.inr "Code"), false), ((.inl "bool"), (.inl "int"), true), ((.inl "bool"), (.inl "str"), false), ((.inl "bool"), (.inl "bool"), true), ((.inl "bool"), (.inl "tuple"), false), ((.inl "bool"), (.inr "Code"), false), ((.inl "int"), (.inl "int"), true), ((.inl "int"), (.inl "str"), false), ((.inl "int"), (.inl "bool"), false), ((.inl "int"), (.inl "tuple"), false), ((.inl "int"), (.inr "Code"), false), ((.inl "str"), (.inl "int"), false), ((.inl "str"), (.inl "str"), true), ((.inl "str"), (.inl "bool"), false), ((.inl "str"), (.inl "tuple"), false), ((.inl "str"), (.inr "Code"), false), ((.inl "list"), (.inl "int"), false), ((.inl "list"), (.inl "str"), false), ((.inl "list"), (.inl "bool"), false), ((.inl "list"), (.inl "tuple"), false), ((.inl "list"), (.inr "Code"), false), ((.inl "tuple"), (.inl "int"), false), ((.inl "tuple"), (.inl "str"), false), ((.inl "tuple"), (.inl "bool"), false), ((.inl "tuple"), (.inl "tuple"), true), ((.inl "tuple"), (.inr "Code"), false), ((.inr "Code"), (.inl "int"), false), ((.inr "Code"), (.inl "str"), false), ((.inr "Code"), (.inl "bool"), false), ((.inr "Code"), (.inl "tuple"), false), ((.inr "Code"), (.inr "Code"), true)]
abbrev xc_tab : Tab := [((.inr "BadRow"), (.inr "RowError"), true), ((.inr "TooLarge"), (.inl "ValueError"), true), ((.inr "BadRow"), (.inl "ValueError"), true)]
def x_tab_BadRow : Str → Option Bool := fun y => ([("BadRow", true), ("TooLarge", false)] : List (Str × Bool)).lookup y
def x_tab_TooLarge : Str → Option Bool := fun y => ([("BadRow", false), ("TooLarge", true)] : List (Str × Bool)).lookup y
def x_tab_RightatlastError : Str → Option Bool := fun y => ([("BadRow", true), ("TooLarge", true)] : List (Str × Bool)).lookup y
abbrev cf_rows : List Str := ["Code"]
abbrev cf_text : List Str := ["Code"]
abbrev cx_row : List Str := ["BadRow"]
abbrev N_TooLarge : Nat := 3
def e_TooLarge : ErrD := errV 1 3 (dCons (var 1) dNil) []
def e_RowError : ErrD := errV 2 4 (dCons (bin addD (bin addD (bin addD (cst (.str "row ")) (bltE strN (aCons (var 1) aNil))) (cst (.str " "))) (var 2)) dNil) [("row", 0)]
def e_BadRow : ErrD := errO 1 3 (dCons (var 1) (dCons (cst (.str "has none of the allowed forms")) dNil)) [] e_RowError
structure AdT where
  a_consists_of : Addr
  a_is_name : Addr
  a_is_letter : Addr
  a_is_relation : Addr
  a_is_choice : Addr
  a_whole_number : Addr
  a_number_in : Addr
  a_item_in : Addr
  a_row_in : Addr
  a_Code_init : Addr
  a_Code_read : Addr
  a_Code_len : Addr
  a_Code_eq : Addr
  a_Code_str : Addr
  a__law_purse : Addr
  a__law_take : Addr
  a__law_small : Addr
  a__law_name : Addr
  a__law_great : Addr
  a__law_choice : Addr
  a__law_edge : Addr
  a__law_row : Addr
  a__law_line : Addr
  a__law_bounds : Addr
  a__law_bad_number : Addr
  a__law_bad_word : Addr
  a__law_spoil : Addr
  a__law_plain : Addr
  a__law_try : Addr
  a__law_base : Addr
  a__law_refused : Addr
  a__law_right : Addr
  a__law_large : Addr
  a__law_spoilt : Addr
  a_law : Addr
  a_Code : Addr
  a_RowError : Addr
abbrev s_consists_of : Stmt := (top 11)
abbrev s_is_name : Stmt := (top 12)
abbrev s_is_letter : Stmt := (top 13)
abbrev s_is_relation : Stmt := (top 14)
abbrev s_is_choice : Stmt := (top 15)
abbrev s_whole_number : Stmt := (top 17)
abbrev s_number_in : Stmt := (top 19)
abbrev s_item_in : Stmt := (top 25)
abbrev s_row_in : Stmt := (top 26)
abbrev s_Code_init : Stmt := (inClass (top 24) 0)
abbrev s_Code_read : Stmt := (inClass (top 24) 1)
abbrev s_Code_len : Stmt := (inClass (top 24) 2)
abbrev s_Code_eq : Stmt := (inClass (top 24) 3)
abbrev s_Code_str : Stmt := (inClass (top 24) 4)
abbrev s__law_purse : Stmt := (top 28)
abbrev s__law_take : Stmt := (top 29)
abbrev s__law_small : Stmt := (top 30)
abbrev s__law_name : Stmt := (top 31)
abbrev s__law_great : Stmt := (top 32)
abbrev s__law_choice : Stmt := (top 33)
abbrev s__law_edge : Stmt := (top 34)
abbrev s__law_row : Stmt := (top 35)
abbrev s__law_line : Stmt := (top 36)
abbrev s__law_bounds : Stmt := (top 37)
abbrev s__law_bad_number : Stmt := (top 38)
abbrev s__law_bad_word : Stmt := (top 39)
abbrev s__law_spoil : Stmt := (top 40)
abbrev s__law_plain : Stmt := (top 41)
abbrev s__law_try : Stmt := (top 42)
abbrev s__law_base : Stmt := (top 43)
abbrev s__law_refused : Stmt := (top 44)
abbrev s__law_right : Stmt := (top 45)
abbrev s__law_large : Stmt := (top 46)
abbrev s__law_spoilt : Stmt := (top 47)
abbrev s_law : Stmt := (top 48)
structure Tx (P : Program) (w : World) (K : PySem.W.Frag) (mg : Str → Option Value) (base : Heap) (Ad : AdT) : Prop where
  m_Code : mg "Code" = some (.ref Ad.a_Code)
  m_RowError : mg "RowError" = some (.ref Ad.a_RowError)
  m__law_bad_number : mg "_law_bad_number" = some (.ref Ad.a__law_bad_number)
  m__law_bad_word : mg "_law_bad_word" = some (.ref Ad.a__law_bad_word)
  m__law_base : mg "_law_base" = some (.ref Ad.a__law_base)
  m__law_bounds : mg "_law_bounds" = some (.ref Ad.a__law_bounds)
  m__law_choice : mg "_law_choice" = some (.ref Ad.a__law_choice)
  m__law_edge : mg "_law_edge" = some (.ref Ad.a__law_edge)
  m__law_great : mg "_law_great" = some (.ref Ad.a__law_great)
  m__law_large : mg "_law_large" = some (.ref Ad.a__law_large)
  m__law_line : mg "_law_line" = some (.ref Ad.a__law_line)
  m__law_name : mg "_law_name" = some (.ref Ad.a__law_name)
  m__law_plain : mg "_law_plain" = some (.ref Ad.a__law_plain)
  m__law_purse : mg "_law_purse" = some (.ref Ad.a__law_purse)
  m__law_refused : mg "_law_refused" = some (.ref Ad.a__law_refused)
  m__law_right : mg "_law_right" = some (.ref Ad.a__law_right)
  m__law_row : mg "_law_row" = some (.ref Ad.a__law_row)
  m__law_small : mg "_law_small" = some (.ref Ad.a__law_small)
  m__law_spoil : mg "_law_spoil" = some (.ref Ad.a__law_spoil)
  m__law_spoilt : mg "_law_spoilt" = some (.ref Ad.a__law_spoilt)
  m__law_take : mg "_law_take" = some (.ref Ad.a__law_take)
  m__law_try : mg "_law_try" = some (.ref Ad.a__law_try)
  m_consists_of : mg "consists_of" = some (.ref Ad.a_consists_of)
  m_is_choice : mg "is_choice" = some (.ref Ad.a_is_choice)
  m_is_letter : mg "is_letter" = some (.ref Ad.a_is_letter)
  m_is_name : mg "is_name" = some (.ref Ad.a_is_name)
  m_is_relation : mg "is_relation" = some (.ref Ad.a_is_relation)
  m_item_in : mg "item_in" = some (.ref Ad.a_item_in)
  m_number_in : mg "number_in" = some (.ref Ad.a_number_in)
  m_row_in : mg "row_in" = some (.ref Ad.a_row_in)
  m_whole_number : mg "whole_number" = some (.ref Ad.a_whole_number)
  g_CAPITALS : GlbS K mg "CAPITALS" c_CAPITALS
  g_DIGITS : GlbS K mg "DIGITS" c_DIGITS
  t_FORMS : KdS K w mg "FORMS" tab_FORMS
  g_LONGEST_WORD : GlbS K mg "LONGEST_WORD" c_LONGEST_WORD
  t_LOOKS : KdS K w mg "LOOKS" tab_LOOKS
  g_MOST_ROWS : GlbS K mg "MOST_ROWS" c_MOST_ROWS
  g_RESERVED : GlbS K mg "RESERVED" c_RESERVED
  g_SMALL : GlbS K mg "SMALL" c_SMALL
  b_ValueError : mg "ValueError" = none
  b_abs : mg "abs" = none
  b_bool : mg "bool" = none
  b_enumerate : mg "enumerate" = none
  b_int : mg "int" = none
  b_isinstance : mg "isinstance" = none
  b_len : mg "len" = none
  b_list : mg "list" = none
  b_min : mg "min" = none
  b_range : mg "range" = none
  b_str : mg "str" = none
  b_tuple : mg "tuple" = none
  b_zip : mg "zip" = none
  f_consists_of : DefS K "consists_of" "consists_of" s_consists_of ["text", "characters"] Ad.a_consists_of
  f_is_name : DefS K "is_name" "is_name" s_is_name ["text"] Ad.a_is_name
  f_is_letter : DefS K "is_letter" "is_letter" s_is_letter ["text"] Ad.a_is_letter
  f_is_relation : DefS K "is_relation" "is_relation" s_is_relation ["text"] Ad.a_is_relation
  f_is_choice : DefS K "is_choice" "is_choice" s_is_choice ["text"] Ad.a_is_choice
  f_whole_number : DefS K "whole_number" "whole_number" s_whole_number ["word", "most"] Ad.a_whole_number
  f_number_in : DefS K "number_in" "number_in" s_number_in ["word", "least", "most"] Ad.a_number_in
  f_item_in : DefS K "item_in" "item_in" s_item_in ["word", "form"] Ad.a_item_in
  f_row_in : DefS K "row_in" "row_in" s_row_in ["line"] Ad.a_row_in
  f_Code_init : DefS K "__init__" "Code.__init__" s_Code_init ["self", "rows"] Ad.a_Code_init
  f_Code_read : DefS K "read" "Code.read" s_Code_read ["cls", "text"] Ad.a_Code_read
  f_Code_len : DefS K "__len__" "Code.__len__" s_Code_len ["self"] Ad.a_Code_len
  f_Code_eq : DefS K "__eq__" "Code.__eq__" s_Code_eq ["self", "other"] Ad.a_Code_eq
  f_Code_str : DefS K "__str__" "Code.__str__" s_Code_str ["self"] Ad.a_Code_str
  f__law_purse : DefS K "_law_purse" "_law_purse" s__law_purse ["script"] Ad.a__law_purse
  f__law_take : DefS K "_law_take" "_law_take" s__law_take ["bag", "many"] Ad.a__law_take
  f__law_small : DefS K "_law_small" "_law_small" s__law_small ["bag", "many"] Ad.a__law_small
  f__law_name : DefS K "_law_name" "_law_name" s__law_name ["bag"] Ad.a__law_name
  f__law_great : DefS K "_law_great" "_law_great" s__law_great ["bag", "many"] Ad.a__law_great
  f__law_choice : DefS K "_law_choice" "_law_choice" s__law_choice ["bag"] Ad.a__law_choice
  f__law_edge : DefS K "_law_edge" "_law_edge" s__law_edge ["bag", "low", "high"] Ad.a__law_edge
  f__law_row : DefS K "_law_row" "_law_row" s__law_row ["bag", "kind"] Ad.a__law_row
  f__law_line : DefS K "_law_line" "_law_line" s__law_line ["row"] Ad.a__law_line
  f__law_bounds : DefS K "_law_bounds" "_law_bounds" s__law_bounds ["row", "at"] Ad.a__law_bounds
  f__law_bad_number : DefS K "_law_bad_number" "_law_bad_number" s__law_bad_number ["bag", "row"] Ad.a__law_bad_number
  f__law_bad_word : DefS K "_law_bad_word" "_law_bad_word" s__law_bad_word ["bag", "row"] Ad.a__law_bad_word
  f__law_spoil : DefS K "_law_spoil" "_law_spoil" s__law_spoil ["bag", "row"] Ad.a__law_spoil
  f__law_plain : DefS K "_law_plain" "_law_plain" s__law_plain ["rows"] Ad.a__law_plain
  f__law_try : DefS K "_law_try" "_law_try" s__law_try ["text"] Ad.a__law_try
  f__law_base : DefS K "_law_base" "_law_base" s__law_base ["text"] Ad.a__law_base
  f__law_refused : DefS K "_law_refused" "_law_refused" s__law_refused ["text", "word", "row"] Ad.a__law_refused
  f__law_right : DefS K "_law_right" "_law_right" s__law_right ["text", "rows"] Ad.a__law_right
  f__law_large : DefS K "_law_large" "_law_large" s__law_large ["bag"] Ad.a__law_large
  f__law_spoilt : DefS K "_law_spoilt" "_law_spoilt" s__law_spoilt ["bag", "rows", "turn"] Ad.a__law_spoilt
  f_law : DefS K "law" "law" s_law ["script"] Ad.a_law
  hf_rows : HasF (c0 K mg) "rows" cf_rows
  hf_text : HasF (c0 K mg) "text" cf_text
  xf_row : XfH (c0 K mg) "row" cx_row
  k_Code : Mk K Ad.a_Code Ad.a_Code_init
  cm_Code_read : ∃ mc p, ClX.CRead K Ad.a_Code mc ∧ ClX.CMet K Ad.a_Code mc "read" p Ad.a_Code_read
  tyt : TabOk K mg ty_tab
  eqt : EqTab K mg ty_tab
  xct : ExcTab K mg xc_tab
  o_Code_len : PySem.W.findIn K (.ref Ad.a_Code) "__len__" = some (some (.ref Ad.a_Code_len)) ∧ PySem.W.isFn K (.ref Ad.a_Code_len) = true
  o_Code_eq : PySem.W.findIn K (.ref Ad.a_Code) "__eq__" = some (some (.ref Ad.a_Code_eq)) ∧ PySem.W.isFn K (.ref Ad.a_Code_eq) = true
  o_Code_str : PySem.W.findIn K (.ref Ad.a_Code) "__str__" = some (some (.ref Ad.a_Code_str)) ∧ PySem.W.isFn K (.ref Ad.a_Code_str) = true
  x_BadRow : ∃ c, mg "BadRow" = some c ∧ ∀ y b C, x_tab_BadRow y = some b → mg y = some (.ref C) → PySem.W.exmOne K (.ref C) c = some b
  x_TooLarge : ∃ c, mg "TooLarge" = some c ∧ ∀ y b C, x_tab_TooLarge y = some b → mg y = some (.ref C) → PySem.W.exmOne K (.ref C) c = some b
  x_RightatlastError : ∃ c, mg "RightatlastError" = some c ∧ ∀ y b C, x_tab_RightatlastError y = some b → mg y = some (.ref C) → PySem.W.exmOne K (.ref C) c = some b
  er_TooLarge : ErrS P w K mg base 1 "TooLarge" e_TooLarge [.str "a number, size, depth, text or list is above its limit"]
  er_BadRow : ErrS P w K mg base 2 "BadRow" e_BadRow []
variable {P : Program} {w : World} {K : PySem.W.Frag} {mg : Str → Option Value} {base : Heap} {Ad : AdT}
end K50
set_option Elab.async false
set_option linter.all false
set_option maxRecDepth 100000
set_option maxHeartbeats 4000000
namespace K50
open PySem L2 PySem.Spec PyProof.Rows Zed
variable {P : Program} {w : World} {K : PySem.W.Frag} {mg : Str → Option Value} {base : Heap} {Ad : AdT}
abbrev N_consists_of : List Str := ["text", "characters", "character"]
theorem nd_consists_of : (N_consists_of : List Str).Nodup := by decide +kernel
theorem sc_consists_of : FnScope N_consists_of ["text", "characters"] (defScope s_consists_of) := ⟨rfl, rfl, rfl, nd_consists_of, rfl, by decide +kernel, by decide +kernel⟩
def b_consists_of : Stm := (seqS (forI (bName 2) (itE (fzE (var 0)) strOf) (ifS (tst (bin niD (var 2) (var 1))) (retS (cst (.bl false))) skip))
  (retS (cst (.bl true))))
def d_consists_of : FDen := runF 2 3 (flg [true, true, false]) b_consists_of
theorem ok_consists_of (T : Tx P w K mg base Ad) : FnS P w K mg base 1 d_consists_of Ad.a_consists_of [] := fnS_of (N := N_consists_of) (ps := ["text", "characters"]) (Fx := flg [true, true, false]) (d := b_consists_of) T.f_consists_of sc_consists_of fun cdv A outer s H E hr =>
  (SS.cons (S1.for bx_passes rfl (SI.str (SE.var 0)) (SG.name 2 rfl nd_consists_of) (SS.one (S1.ifs (ST.cmp (op_niA (hu65 hr)) o_ni (SE.var 2) (SE.var 1)) (SS.one (S1.ret SE.bl)) SS.nil)))
  (SS.one (S1.ret SE.bl)))
abbrev N_is_name : List Str := ["text"]
theorem nd_is_name : (N_is_name : List Str).Nodup := by decide +kernel
theorem sc_is_name : FnScope N_is_name ["text"] (defScope s_is_name) := ⟨rfl, rfl, rfl, nd_is_name, rfl, by decide +kernel, by decide +kernel⟩
def b_is_name : Stm := (seqS (ifS (orT (tst (bin inD (var 0) (cst c_RESERVED))) (notT (tst (chainE (cmpD fun i j => decide (i ≤ j)) (cmpD fun i j => decide (i ≤ j)) (cst (.int 1)) (bltE lenN (aCons (var 0) aNil)) (cst c_LONGEST_WORD))))) (retS (cst (.bl false))) skip)
  (retS (callE d_consists_of [] (aCons (var 0) (aCons (cst c_SMALL) aNil)))))
def d_is_name : FDen := runF 1 1 (flg [true]) b_is_name
theorem ok_is_name (T : Tx P w K mg base Ad) : FnS P w K mg base 2 d_is_name Ad.a_is_name [] := fnS_of (N := N_is_name) (ps := ["text"]) (Fx := flg [true]) (d := b_is_name) T.f_is_name sc_is_name fun cdv A outer s H E hr =>
  (SS.cons (S1.ifs (SW.toT (SW.or (ST.cmp (op_inA (hu65 hr)) o_in (SE.var 0) (SE.glb T.g_RESERVED rfl)) (SW.or1 (ST.not (ST.chain op_le o_cmp op_le o_cmp SE.int (SE.blt call_len o_len T.b_len PySem.boot_len (SA.cons (SE.var 0) SA.nil)) (SE.glb T.g_LONGEST_WORD rfl)))))) (SS.one (S1.ret SE.bl)) SS.nil)
  (SS.one (S1.ret (SE.call (ok_consists_of T) T.m_consists_of (hr.mono (by decide)) rfl bx_takes (SA.cons (SE.var 0) (SA.cons (SE.glb T.g_SMALL rfl) SA.nil))))))
abbrev N_is_letter : List Str := ["text"]
theorem nd_is_letter : (N_is_letter : List Str).Nodup := by decide +kernel
theorem sc_is_letter : FnScope N_is_letter ["text"] (defScope s_is_letter) := ⟨rfl, rfl, rfl, nd_is_letter, rfl, by decide +kernel, by decide +kernel⟩
def b_is_letter : Stm := (retS (andE (bin eqD (bltE lenN (aCons (var 0) aNil)) (cst (.int 2))) (andE (bin inD (bin ixD (var 0) (cst (.int 0))) (cst c_SMALL)) (bin inD (bin ixD (var 0) (cst (.int 1))) (cst c_DIGITS)))))
def d_is_letter : FDen := runF 1 1 (flg [true]) b_is_letter
theorem ok_is_letter (T : Tx P w K mg base Ad) : FnS P w K mg base 1 d_is_letter Ad.a_is_letter [] := fnS_of (N := N_is_letter) (ps := ["text"]) (Fx := flg [true]) (d := b_is_letter) T.f_is_letter sc_is_letter fun cdv A outer s H E hr =>
  (SS.one (S1.ret (SE.and (SE.cmp (op_eqA hr.units) o_eq (SE.blt call_len o_len T.b_len PySem.boot_len (SA.cons (SE.var 0) SA.nil)) SE.int) (SE.and (SE.cmp (op_inA (hu65 hr)) o_in (SE.ix ix_seq o_ix (SE.var 0) SE.int) (SE.glb T.g_SMALL rfl)) (SE.one (SE.cmp (op_inA (hu65 hr)) o_in (SE.ix ix_seq o_ix (SE.var 0) SE.int) (SE.glb T.g_DIGITS rfl)))))))
abbrev N_is_relation : List Str := ["text"]
theorem nd_is_relation : (N_is_relation : List Str).Nodup := by decide +kernel
theorem sc_is_relation : FnScope N_is_relation ["text"] (defScope s_is_relation) := ⟨rfl, rfl, rfl, nd_is_relation, rfl, by decide +kernel, by decide +kernel⟩
def b_is_relation : Stm := (retS (andE (chainE (cmpD fun i j => decide (i ≤ j)) (cmpD fun i j => decide (i ≤ j)) (cst (.int 1)) (bltE lenN (aCons (var 0) aNil)) (cst c_LONGEST_WORD)) (callE d_consists_of [] (aCons (var 0) (aCons (cst c_CAPITALS) aNil)))))
def d_is_relation : FDen := runF 1 1 (flg [true]) b_is_relation
theorem ok_is_relation (T : Tx P w K mg base Ad) : FnS P w K mg base 2 d_is_relation Ad.a_is_relation [] := fnS_of (N := N_is_relation) (ps := ["text"]) (Fx := flg [true]) (d := b_is_relation) T.f_is_relation sc_is_relation fun cdv A outer s H E hr =>
  (SS.one (S1.ret (SE.and (SE.chain op_le o_cmp op_le o_cmp SE.int (SE.blt call_len o_len T.b_len PySem.boot_len (SA.cons (SE.var 0) SA.nil)) (SE.glb T.g_LONGEST_WORD rfl)) (SE.one (SE.call (ok_consists_of T) T.m_consists_of (hr.mono (by decide)) rfl bx_takes (SA.cons (SE.var 0) (SA.cons (SE.glb T.g_CAPITALS rfl) SA.nil)))))))
abbrev N_is_choice : List Str := ["text"]
theorem nd_is_choice : (N_is_choice : List Str).Nodup := by decide +kernel
theorem sc_is_choice : FnScope N_is_choice ["text"] (defScope s_is_choice) := ⟨rfl, rfl, rfl, nd_is_choice, rfl, by decide +kernel, by decide +kernel⟩
def b_is_choice : Stm := (retS (andE (chainE (cmpD fun i j => decide (i ≤ j)) (cmpD fun i j => decide (i ≤ j)) (cst (.int 2)) (bltE lenN (aCons (var 0) aNil)) (cst c_LONGEST_WORD)) (andE (bin inD (bin ixD (var 0) (cst (.int 0))) (cst c_CAPITALS)) (callE d_consists_of [] (aCons (slE (var 0) (pSome (cst (.int 1))) pNone) (aCons (cst c_SMALL) aNil))))))
def d_is_choice : FDen := runF 1 1 (flg [true]) b_is_choice
theorem ok_is_choice (T : Tx P w K mg base Ad) : FnS P w K mg base 2 d_is_choice Ad.a_is_choice [] := fnS_of (N := N_is_choice) (ps := ["text"]) (Fx := flg [true]) (d := b_is_choice) T.f_is_choice sc_is_choice fun cdv A outer s H E hr =>
  (SS.one (S1.ret (SE.and (SE.chain op_le o_cmp op_le o_cmp SE.int (SE.blt call_len o_len T.b_len PySem.boot_len (SA.cons (SE.var 0) SA.nil)) (SE.glb T.g_LONGEST_WORD rfl)) (SE.and (SE.cmp (op_inA (hu65 hr)) o_in (SE.ix ix_seq o_ix (SE.var 0) SE.int) (SE.glb T.g_CAPITALS rfl)) (SE.one (SE.call (ok_consists_of T) T.m_consists_of (hr.mono (by decide)) rfl bx_takes (SA.cons (SE.sl (SE.var 0) (SO.some SE.int) SO.none) (SA.cons (SE.glb T.g_SMALL rfl) SA.nil))))))))
abbrev tab_look : DTab := [("is_name", d_is_name, []), ("is_letter", d_is_letter, []), ("is_relation", d_is_relation, []), ("is_choice", d_is_choice, [])]
theorem look_ok (T : Tx P w K mg base Ad) : ∀ y f dd, (y, f, dd) ∈ tab_look → ∃ a, mg y = some (.ref a) ∧ FnS P w K mg base 2 f a dd := fun y f dd h => by
  simp only [tab_look, List.mem_cons, List.not_mem_nil, or_false, Prod.mk.injEq] at h
  rcases h with ⟨rfl, rfl, rfl⟩ | ⟨rfl, rfl, rfl⟩ | ⟨rfl, rfl, rfl⟩ | ⟨rfl, rfl, rfl⟩
  · exact ⟨_, T.m_is_name, (ok_is_name T).mono (by decide)⟩
  · exact ⟨_, T.m_is_letter, (ok_is_letter T).mono (by decide)⟩
  · exact ⟨_, T.m_is_relation, (ok_is_relation T).mono (by decide)⟩
  · exact ⟨_, T.m_is_choice, (ok_is_choice T).mono (by decide)⟩
abbrev N_whole_number : List Str := ["word", "most", "number"]
theorem nd_whole_number : (N_whole_number : List Str).Nodup := by decide +kernel
theorem sc_whole_number : FnScope N_whole_number ["word", "most"] (defScope s_whole_number) := ⟨rfl, rfl, rfl, nd_whole_number, rfl, by decide +kernel, by decide +kernel⟩
def b_whole_number : Stm := (seqS (ifS (orT (notT (tru (met0 "str" isdigitM (var 0)))) (tst (bin (cmpD fun i j => decide (i > j)) (bltE lenN (aCons (var 0) aNil)) (bltE lenN (aCons (bltE strN (aCons (var 1) aNil)) aNil))))) (retS (cst .non)) skip)
  (seqS (ifS (andT (tst (bin eqD (bin ixD (var 0) (cst (.int 0))) (cst (.str "0")))) (tst (bin (cmpD fun i j => decide (i > j)) (bltE lenN (aCons (var 0) aNil)) (cst (.int 1))))) (retS (cst .non)) skip)
  (seqS (asgS 2 (bltE intN (aCons (var 0) aNil)))
  (retS (ifE (tst (bin (cmpD fun i j => decide (i ≤ j)) (var 2) (var 1))) (var 2) (cst .non))))))
def d_whole_number : FDen := runF 2 3 (flg [true, true, false]) b_whole_number
theorem ok_whole_number (T : Tx P w K mg base Ad) : FnS P w K mg base 1 d_whole_number Ad.a_whole_number [] := fnS_of (N := N_whole_number) (ps := ["word", "most"]) (Fx := flg [true, true, false]) (d := b_whole_number) T.f_whole_number sc_whole_number fun cdv A outer s H E hr =>
  (SS.cons (S1.ifs (SW.toT (SW.or (ST.not (ST.tru (SE.met0 o_isdigit PySem.F.plainAttrs_str PySem.F.slot_str_isdigit PySem.F.type_str_isdigit mt_isdigit (SE.var 0)))) (SW.or1 (ST.cmp op_gt o_cmp (SE.blt call_len o_len T.b_len PySem.boot_len (SA.cons (SE.var 0) SA.nil)) (SE.blt call_len o_len T.b_len PySem.boot_len (SA.cons (SE.blty c_str o_str T.b_str PyProof.Rows.Boot.«str» (SA.cons (SE.var 1) SA.nil)) SA.nil)))))) (SS.one (S1.ret SE.non)) SS.nil)
  (SS.cons (S1.ifs (SW.toT (SW.and (ST.cmp (op_eqA hr.units) o_eq (SE.ix ix_seq o_ix (SE.var 0) SE.int) SE.str) (SW.and1 (ST.cmp op_gt o_cmp (SE.blt call_len o_len T.b_len PySem.boot_len (SA.cons (SE.var 0) SA.nil)) SE.int)))) (SS.one (S1.ret SE.non)) SS.nil)
  (SS.cons (S1.asg 2 (SE.blty c_int o_int2 T.b_int PyProof.Rows.Boot.«int» (SA.cons (SE.var 0) SA.nil)) rfl nd_whole_number)
  (SS.one (S1.ret (SE.ife (ST.cmp op_le o_cmp (SE.var 2) (SE.var 1)) (SE.var 2) SE.non))))))
abbrev N_number_in : List Str := ["word", "least", "most", "number"]
theorem nd_number_in : (N_number_in : List Str).Nodup := by decide +kernel
theorem sc_number_in : FnScope N_number_in ["word", "least", "most"] (defScope s_number_in) := ⟨rfl, rfl, rfl, nd_number_in, rfl, by decide +kernel, by decide +kernel⟩
def b_number_in : Stm := (seqS (asgS 3 (callE d_whole_number [] (aCons (var 0) (aCons (var 2) aNil))))
  (seqS (ifS (orT (tst (bin isN (var 3) (cst .non))) (tst (bin (cmpD fun i j => decide (i < j)) (var 3) (var 1)))) (retS (cst .non)) skip)
  (retS (var 3))))
def d_number_in : FDen := runF 3 4 (flg [true, true, true, false]) b_number_in
theorem ok_number_in (T : Tx P w K mg base Ad) : FnS P w K mg base 2 d_number_in Ad.a_number_in [] := fnS_of (N := N_number_in) (ps := ["word", "least", "most"]) (Fx := flg [true, true, true, false]) (d := b_number_in) T.f_number_in sc_number_in fun cdv A outer s H E hr =>
  (SS.cons (S1.asg 3 (SE.call (ok_whole_number T) T.m_whole_number (hr.mono (by decide)) rfl bx_takes (SA.cons (SE.var 0) (SA.cons (SE.var 2) SA.nil))) rfl nd_number_in)
  (SS.cons (S1.ifs (SW.toT (SW.or (ST.cmp op_isN o_isN (SE.var 3) SE.non) (SW.or1 (ST.cmp op_lt o_cmp (SE.var 3) (SE.var 1))))) (SS.one (S1.ret SE.non)) SS.nil)
  (SS.one (S1.ret (SE.var 3)))))
abbrev N_item_in : List Str := ["word", "form", "least", "most", "has_look"]
theorem nd_item_in : (N_item_in : List Str).Nodup := by decide +kernel
theorem sc_item_in : FnScope N_item_in ["word", "form"] (defScope s_item_in) := ⟨rfl, rfl, rfl, nd_item_in, rfl, by decide +kernel, by decide +kernel⟩
def b_item_in : Stm := (seqS (ifS (tru (bltE (isiN ty_tab) (aCons (var 1) (aCons (cst (.ty "tuple")) aNil)))) (seqS (unpS (bTup [2, 3]) (var 1))
  (retS (callE d_number_in [] (aCons (var 0) (aCons (var 2) (aCons (var 3) aNil)))))) skip)
  (seqS (asgS 4 (bin (ixTab "LOOKS" tab_LOOKS) (cst (.gl "LOOKS")) (var 1)))
  (retS (ifE (tru (callV 4 tab_look (aCons (var 0) aNil))) (var 0) (cst .non)))))
def d_item_in : FDen := runF 2 5 (flg [true, true, false, false, false]) b_item_in
theorem ok_item_in (T : Tx P w K mg base Ad) : FnS P w K mg base 3 d_item_in Ad.a_item_in [] := fnS_of (N := N_item_in) (ps := ["word", "form"]) (Fx := flg [true, true, false, false, false]) (d := b_item_in) T.f_item_in sc_item_in fun cdv A outer s H E hr =>
  (SS.cons (S1.ifs (ST.tru (SE.blt call_isi (o_isi T.tyt) T.b_isinstance PyProof.Rows.boot_isinstance (SA.cons (SE.var 1) (SA.cons (SE.ty rfl T.b_tuple PyProof.Rows.Boot.«tuple») SA.nil)))) (SS.cons (S1.unp (SG.tup rfl (SGs.cons 2 (SGs.cons 3 SGs.nil rfl nd_item_in) rfl nd_item_in)) (SE.var 1))
  (SS.one (S1.ret (SE.call (ok_number_in T) T.m_number_in (hr.mono (by decide)) rfl bx_takes (SA.cons (SE.var 0) (SA.cons (SE.var 2) (SA.cons (SE.var 3) SA.nil))))))) SS.nil)
  (SS.cons (S1.asg 4 (SE.ixTab T.t_LOOKS rfl (SE.var 1)) rfl nd_item_in)
  (SS.one (S1.ret (SE.ife (ST.tru (SE.callV 4 (look_ok T) (hr.mono (by decide)) rfl bx_takes (SA.cons (SE.var 0) SA.nil))) (SE.var 0) SE.non)))))
abbrev N_row_in : List Str := ["line", "words", "forms", "items", "word", "form"]
theorem nd_row_in : (N_row_in : List Str).Nodup := by decide +kernel
theorem sc_row_in : FnScope N_row_in ["line"] (defScope s_row_in) := ⟨rfl, rfl, rfl, nd_row_in, rfl, by decide +kernel, by decide +kernel⟩
def b_row_in : Stm := (seqS (asgS 1 (metE "str" splitM (var 0) (aCons (cst (.str " ")) aNil)))
  (seqS (ifS (tst (bin (inTab "FORMS" tab_FORMS true) (bin ixD (var 1) (cst (.int 0))) (cst (.gl "FORMS")))) (retS (cst .non)) skip)
  (seqS (asgS 2 (bin (ixTab "FORMS" tab_FORMS) (cst (.gl "FORMS")) (bin ixD (var 1) (cst (.int 0)))))
  (seqS (ifS (tst (bin neD (bltE lenN (aCons (var 1) aNil)) (bin addD (bltE lenN (aCons (var 2) aNil)) (cst (.int 1))))) (retS (cst .non)) skip)
  (seqS (asgS 3 (compI [4, 5] (bTup [4, 5]) (itE (dCons (slE (var 1) (pSome (cst (.int 1))) pNone) (dCons (var 2) dNil)) (zipB false true)) yesT (callE d_item_in [] (aCons (var 4) (aCons (var 5) aNil)))))
  (seqS (ifS (tst (bin inD (cst .non) (var 3))) (retS (cst .non)) skip)
  (retS (bltE tupN (aCons (bin addD (lstE (dCons (bin ixD (var 1) (cst (.int 0))) dNil)) (var 3)) aNil)))))))))
def d_row_in : FDen := runF 1 6 (flg [true, false, false, false, true, true]) b_row_in
theorem ok_row_in (T : Tx P w K mg base Ad) : FnS P w K mg base 4 d_row_in Ad.a_row_in [] := fnS_of (N := N_row_in) (ps := ["line"]) (Fx := flg [true, false, false, false, true, true]) (d := b_row_in) T.f_row_in sc_row_in fun cdv A outer s H E hr =>
  (SS.cons (S1.asg 1 (SE.met o_split PySem.F.plainAttrs_str PySem.F.slot_str_split PySem.F.type_str_split mt_split (SE.var 0) (SA.cons SE.str SA.nil)) rfl nd_row_in)
  (SS.cons (S1.ifs (ST.niTab T.t_FORMS rfl (SE.ix ix_seq o_ix (SE.var 1) SE.int)) (SS.one (S1.ret SE.non)) SS.nil)
  (SS.cons (S1.asg 2 (SE.ixTab T.t_FORMS rfl (SE.ix ix_seq o_ix (SE.var 1) SE.int)) rfl nd_row_in)
  (SS.cons (S1.ifs (ST.cmp (op_neA hr.units) o_ne (SE.blt call_len o_len T.b_len PySem.boot_len (SA.cons (SE.var 1) SA.nil)) (SE.op op_addA o_add (SE.blt call_len o_len T.b_len PySem.boot_len (SA.cons (SE.var 2) SA.nil)) SE.int)) (SS.one (S1.ret SE.non)) SS.nil)
  (SS.cons (S1.asgLc 3 [4, 5] rfl nd_row_in (SI.zipB false true T.b_zip (SDA.cons (SE.sl (SE.var 1) (SO.some SE.int) SO.none) (SDA.cons (SE.var 2) SDA.nil))) (blkOk_by (own := [("word", 4), ("form", 5)]) (by first | rfl | kernel_rfl)) rfl (fun s H C cl fp => ⟨(SG.tup rfl (SGs.cons 4 (SGs.cons 5 SGs.nil rfl nd_row_in) rfl nd_row_in)), STs.nil, (SE.call (ok_item_in T) T.m_item_in (hr.mono (by decide)) rfl tk0 (SA.cons (SE.var 4) (SA.cons (SE.var 5) SA.nil)))⟩) (sw_true rfl rfl rfl (by first | rfl | kernel_rfl)))
  (SS.cons (S1.ifs (ST.cmp (op_inA (hu65 hr)) o_in SE.non (SE.var 3)) (SS.one (S1.ret SE.non)) SS.nil)
  (SS.one (S1.ret (SE.blty call_tuple_of o_tup T.b_tuple PyProof.Rows.Boot.«tuple» (SA.cons (SE.op op_addA o_add (SE.lst (SDA.cons (SE.ix ix_seq o_ix (SE.var 1) SE.int) SDA.nil)) (SE.var 3)) SA.nil))))))))))
end K50
set_option Elab.async false
set_option linter.all false
set_option maxRecDepth 100000
set_option maxHeartbeats 4000000
namespace K50
open PySem L2 PySem.Spec PyProof.Rows Zed
variable {P : Program} {w : World} {K : PySem.W.Frag} {mg : Str → Option Value} {base : Heap} {Ad : AdT}
abbrev N_Code_init : List Str := ["self", "rows", "row", "item"]
theorem nd_Code_init : (N_Code_init : List Str).Nodup := by decide +kernel
theorem sc_Code_init : FnScope N_Code_init ["self", "rows"] (defScope s_Code_init) := ⟨rfl, rfl, rfl, nd_Code_init, rfl, by decide +kernel, by decide +kernel⟩
def b_Code_init : Stm := (seqS (fldS "rows" cf_rows (var 0) (bltE tupN (aCons (compI [2] (bName 2) (itE (fzE (var 1)) seqOf) yesT (bltE tupN (aCons (var 2) aNil))) aNil)))
  (fldS "text" cf_text (var 0) (metE "str" joinM (cst (.str "\n")) (aCons (compI [2] (bName 2) (itE (fzE (fldE "rows" cf_rows (var 0))) tupOf) yesT (metE "str" joinM (cst (.str " ")) (aCons (compI [3] (bName 3) (itE (fzE (var 2)) tupOf) yesT (bltE strN (aCons (var 3) aNil))) aNil))) aNil))))
def d_Code_init : FDen := runF 2 4 (flg [true, true, true, true]) b_Code_init
theorem ok_Code_init (T : Tx P w K mg base Ad) : FnS P w K mg base 1 d_Code_init Ad.a_Code_init [] := fnS_of (N := N_Code_init) (ps := ["self", "rows"]) (Fx := flg [true, true, true, true]) (d := b_Code_init) T.f_Code_init sc_Code_init fun cdv A outer s H E hr =>
  (SS.cons (S1.fld cf_rows T.hf_rows (SE.var 0) (SE.blty call_tuple_of o_tup T.b_tuple PyProof.Rows.Boot.«tuple» (SA.cons (SE.lc [2] rfl nd_Code_init (SI.list (SE.var 1)) (blkOk_by (own := [("row", 2)]) (by first | rfl | kernel_rfl)) rfl (fun s H C cl fp => ⟨(SG.name 2 rfl nd_Code_init), STs.nil, (SE.blty call_tuple_of o_tup T.b_tuple PyProof.Rows.Boot.«tuple» (SA.cons (SE.var 2) SA.nil))⟩)) SA.nil)))
  (SS.one (S1.fld cf_text T.hf_text (SE.var 0) (SE.met o_join PySem.F.plainAttrs_str PySem.F.slot_str_join PySem.F.type_str_join mt_join SE.str (SA.cons (SE.lc [2] rfl nd_Code_init (SI.tup (SE.fld cf_rows T.hf_rows (SE.var 0))) (blkOk_by (own := [("row", 2)]) (by first | rfl | kernel_rfl)) rfl (fun s H C cl fp => ⟨(SG.name 2 rfl nd_Code_init), STs.nil, (SE.met o_join PySem.F.plainAttrs_str PySem.F.slot_str_join PySem.F.type_str_join mt_join SE.str (SA.cons (SE.lc [3] rfl nd_Code_init (SI.tup (SE.var 2)) (blkOk_by (own := [("item", 3)]) (by first | rfl | kernel_rfl)) rfl (fun s H C cl fp => ⟨(SG.name 3 rfl nd_Code_init), STs.nil, (SE.blty c_str o_str T.b_str PyProof.Rows.Boot.«str» (SA.cons (SE.var 3) SA.nil))⟩)) SA.nil))⟩)) SA.nil)))))
theorem mk_Code (T : Tx P w K mg base Ad) : MkS P w K mg base 1 "Code" Ad.a_Code d_Code_init [] := ⟨T.m_Code, _, T.k_Code, ok_Code_init T⟩
abbrev N_Code_read : List Str := ["cls", "text", "lines", "rows", "index", "line", "row"]
theorem nd_Code_read : (N_Code_read : List Str).Nodup := by decide +kernel
theorem sc_Code_read : FnScope N_Code_read ["cls", "text"] (defScope s_Code_read) := ⟨rfl, rfl, rfl, nd_Code_read, rfl, by decide +kernel, by decide +kernel⟩
def b_Code_read : Stm := (seqS (asgS 2 (ifE (tst (bin neD (var 1) (cst (.str "")))) (metE "str" splitM (var 1) (aCons (cst (.str "\n")) aNil)) (lstE dNil)))
  (seqS (ifS (tst (bin (cmpD fun i j => decide (i > j)) (bltE lenN (aCons (var 2) aNil)) (cst c_MOST_ROWS))) (raiseS "TooLarge" e_TooLarge [.str "a number, size, depth, text or list is above its limit"] dNil) skip)
  (seqS (asgS 3 (lstE dNil))
  (seqS (forI (bTup [4, 5]) (itE (dCons (var 2) dNil) enum1) (seqS (asgS 6 (callE d_row_in [] (aCons (var 5) aNil)))
  (seqS (ifS (tst (bin isN (var 6) (cst .non))) (raiseS "BadRow" e_BadRow [] (dCons (bin addD (var 4) (cst (.int 1))) dNil)) skip)
  (dropS (mutE appendU (var 3) (dCons (var 6) dNil))))))
  (retS (makeV 0 "Code" d_Code_init [] (aCons (var 3) aNil)))))))
def d_Code_read : FDen := runF 2 7 (flg [true, true, false, false, false, false, false]) b_Code_read
theorem ok_Code_read (T : Tx P w K mg base Ad) : FnS P w K mg base 5 d_Code_read Ad.a_Code_read [] := fnS_of (N := N_Code_read) (ps := ["cls", "text"]) (Fx := flg [true, true, false, false, false, false, false]) (d := b_Code_read) T.f_Code_read sc_Code_read fun cdv A outer s H E hr =>
  (SS.cons (S1.asg 2 (SE.ife (ST.cmp (op_neA hr.units) o_ne (SE.var 1) SE.str) (SE.met o_split PySem.F.plainAttrs_str PySem.F.slot_str_split PySem.F.type_str_split mt_split (SE.var 1) (SA.cons SE.str SA.nil)) (SE.lst SDA.nil)) rfl nd_Code_read)
  (SS.cons (S1.ifs (ST.cmp op_gt o_cmp (SE.blt call_len o_len T.b_len PySem.boot_len (SA.cons (SE.var 2) SA.nil)) (SE.glb T.g_MOST_ROWS rfl)) (SS.one (S1.raise0 T.er_TooLarge (hr.mono (by decide)) rfl bx_takes)) SS.nil)
  (SS.cons (S1.asg 3 (SE.lst SDA.nil) rfl nd_Code_read)
  (SS.cons (S1.for bx_passes rfl (SI.enum T.b_enumerate (SDA.cons (SE.var 2) SDA.nil)) (SG.tup rfl (SGs.cons 4 (SGs.cons 5 SGs.nil rfl nd_Code_read) rfl nd_Code_read)) (SS.cons (S1.asg 6 (SE.call (ok_row_in T) T.m_row_in (hr.mono (by decide)) rfl bx_takes (SA.cons (SE.var 5) SA.nil)) rfl nd_Code_read)
  (SS.cons (S1.ifs (ST.cmp op_isN o_isN (SE.var 6) SE.non) (SS.one (S1.raise T.er_BadRow (hr.mono (by decide)) rfl bx_takes (SDA.cons (SE.op op_addA o_add (SE.var 4) SE.int) SDA.nil))) SS.nil)
  (SS.one (S1.drop (SE.mut u_append PySem.F.slot_list_append PySem.F.type_list_append mt_append (SE.var 3) (SDA.cons (SE.var 6) SDA.nil)))))))
  (SS.one (S1.ret (SE.makeV 0 (mk_Code T) (hr.mono (by decide)) rfl (SA.cons (SE.var 3) SA.nil))))))))
theorem cm_Code_read (T : Tx P w K mg base Ad) : CmS P w K mg base 5 "Code" "read" d_Code_read [] := by
  obtain ⟨mc, p, h1, h2⟩ := T.cm_Code_read
  exact ⟨_, _, _, _, T.m_Code, h1, h2, ok_Code_read T⟩
abbrev N_Code_len : List Str := ["self"]
theorem nd_Code_len : (N_Code_len : List Str).Nodup := by decide +kernel
theorem sc_Code_len : FnScope N_Code_len ["self"] (defScope s_Code_len) := ⟨rfl, rfl, rfl, nd_Code_len, rfl, by decide +kernel, by decide +kernel⟩
def b_Code_len : Stm := (retS (bltE lenN (aCons (fldE "rows" cf_rows (var 0)) aNil)))
def d_Code_len : FDen := runF 1 1 (flg [true]) b_Code_len
theorem ok_Code_len (T : Tx P w K mg base Ad) : FnS P w K mg base 1 d_Code_len Ad.a_Code_len [] := fnS_of (N := N_Code_len) (ps := ["self"]) (Fx := flg [true]) (d := b_Code_len) T.f_Code_len sc_Code_len fun cdv A outer s H E hr =>
  (SS.one (S1.ret (SE.blt call_len o_len T.b_len PySem.boot_len (SA.cons (SE.fld cf_rows T.hf_rows (SE.var 0)) SA.nil))))
abbrev o_lent : OTab := [("Code", d_Code_len)]
theorem dun_len (T : Tx P w K mg base Ad) : ∀ y f, (y, f) ∈ o_lent → OwnS P w K mg base 1 y "__len__" f := fun y f h => by
  simp only [o_lent, List.mem_cons, List.not_mem_nil, or_false, Prod.mk.injEq] at h
  obtain ⟨rfl, rfl⟩ := h
  exact ⟨_, _, T.m_Code, T.o_Code_len.1, T.o_Code_len.2, ok_Code_len T⟩
abbrev N_Code_eq : List Str := ["self", "other"]
theorem nd_Code_eq : (N_Code_eq : List Str).Nodup := by decide +kernel
theorem sc_Code_eq : FnScope N_Code_eq ["self", "other"] (defScope s_Code_eq) := ⟨rfl, rfl, rfl, nd_Code_eq, rfl, by decide +kernel, by decide +kernel⟩
def b_Code_eq : Stm := (retS (andE (bltE (isiN ty_tab) (aCons (var 1) (aCons (cst (.gl "Code")) aNil))) (bin eqD (fldE "text" cf_text (var 0)) (fldE "text" cf_text (var 1)))))
def d_Code_eq : FDen := runF 2 2 (flg [true, true]) b_Code_eq
theorem ok_Code_eq (T : Tx P w K mg base Ad) : FnS P w K mg base 1 d_Code_eq Ad.a_Code_eq [] := fnS_of (N := N_Code_eq) (ps := ["self", "other"]) (Fx := flg [true, true]) (d := b_Code_eq) T.f_Code_eq sc_Code_eq fun cdv A outer s H E hr =>
  (SS.one (S1.ret (SE.and (SE.blt call_isi (o_isi T.tyt) T.b_isinstance PyProof.Rows.boot_isinstance (SA.cons (SE.var 1) (SA.cons (SE.gl T.m_Code) SA.nil))) (SE.one (SE.cmp (op_eqA hr.units) o_eq (SE.fld cf_text T.hf_text (SE.var 0)) (SE.fld cf_text T.hf_text (SE.var 1)))))))
abbrev o_eqt : OTab := [("Code", d_Code_eq)]
theorem dun_eq (T : Tx P w K mg base Ad) : ∀ y f, (y, f) ∈ o_eqt → OwnS P w K mg base 1 y "__eq__" f := fun y f h => by
  simp only [o_eqt, List.mem_cons, List.not_mem_nil, or_false, Prod.mk.injEq] at h
  obtain ⟨rfl, rfl⟩ := h
  exact ⟨_, _, T.m_Code, T.o_Code_eq.1, T.o_Code_eq.2, ok_Code_eq T⟩
abbrev N_Code_str : List Str := ["self"]
theorem nd_Code_str : (N_Code_str : List Str).Nodup := by decide +kernel
theorem sc_Code_str : FnScope N_Code_str ["self"] (defScope s_Code_str) := ⟨rfl, rfl, rfl, nd_Code_str, rfl, by decide +kernel, by decide +kernel⟩
def b_Code_str : Stm := (retS (bltE strN (aCons (fldE "text" cf_text (var 0)) aNil)))
def d_Code_str : FDen := runF 1 1 (flg [true]) b_Code_str
theorem ok_Code_str (T : Tx P w K mg base Ad) : FnS P w K mg base 1 d_Code_str Ad.a_Code_str [] := fnS_of (N := N_Code_str) (ps := ["self"]) (Fx := flg [true]) (d := b_Code_str) T.f_Code_str sc_Code_str fun cdv A outer s H E hr =>
  (SS.one (S1.ret (SE.blty c_str o_str T.b_str PyProof.Rows.Boot.«str» (SA.cons (SE.fld cf_text T.hf_text (SE.var 0)) SA.nil))))
abbrev o_strt : OTab := [("Code", d_Code_str)]
theorem dun_str (T : Tx P w K mg base Ad) : ∀ y f, (y, f) ∈ o_strt → OwnS P w K mg base 1 y "__str__" f := fun y f h => by
  simp only [o_strt, List.mem_cons, List.not_mem_nil, or_false, Prod.mk.injEq] at h
  obtain ⟨rfl, rfl⟩ := h
  exact ⟨_, _, T.m_Code, T.o_Code_str.1, T.o_Code_str.2, ok_Code_str T⟩
end K50
set_option Elab.async false
set_option linter.all false
set_option maxRecDepth 100000
set_option maxHeartbeats 4000000
namespace K50
open PySem L2 PySem.Spec PyProof.Rows Zed
variable {P : Program} {w : World} {K : PySem.W.Frag} {mg : Str → Option Value} {base : Heap} {Ad : AdT}
abbrev N__law_purse : List Str := ["script", "cell"]
theorem nd__law_purse : (N__law_purse : List Str).Nodup := by decide +kernel
theorem sc__law_purse : FnScope N__law_purse ["script"] (defScope s__law_purse) := ⟨rfl, rfl, rfl, nd__law_purse, rfl, by decide +kernel, by decide +kernel⟩
def b__law_purse : Stm := (retS (lstE (dCons (compI [1] (bName 1) (itE (fzE (slE (var 0) pNone (pSome (cst (.int 63))))) seqOf) yesT (bltE absN (aCons (var 1) aNil))) (dCons (cst (.int 0)) (dCons (cst (.int 0)) (dCons (cst (.int 0)) dNil))))))
def d__law_purse : FDen := runF 1 2 (flg [true, true]) b__law_purse
theorem ok__law_purse (T : Tx P w K mg base Ad) : FnS P w K mg base 1 d__law_purse Ad.a__law_purse [] := fnS_of (N := N__law_purse) (ps := ["script"]) (Fx := flg [true, true]) (d := b__law_purse) T.f__law_purse sc__law_purse fun cdv A outer s H E hr =>
  (SS.one (S1.ret (SE.lst (SDA.cons (SE.lc [1] rfl nd__law_purse (SI.list (SE.sl (SE.var 0) SO.none (SO.some SE.int))) (blkOk_by (own := [("cell", 1)]) (by first | rfl | kernel_rfl)) rfl (fun s H C cl fp => ⟨(SG.name 1 rfl nd__law_purse), STs.nil, (SE.blt call_abs o_abs T.b_abs PyProof.Rows.Boot.«abs» (SA.cons (SE.var 1) SA.nil))⟩)) (SDA.cons SE.int (SDA.cons SE.int (SDA.cons SE.int SDA.nil)))))))
abbrev N__law_take : List Str := ["bag", "many", "digit"]
theorem nd__law_take : (N__law_take : List Str).Nodup := by decide +kernel
theorem sc__law_take : FnScope N__law_take ["bag", "many"] (defScope s__law_take) := ⟨rfl, rfl, rfl, nd__law_take, rfl, by decide +kernel, by decide +kernel⟩
def b__law_take : Stm := (seqS (ifS (tst (bin eqD (bin ixD (var 0) (cst (.int 2))) (cst (.int 0)))) (seqS (ifS (notT (tru (bin ixD (var 0) (cst (.int 0))))) (retS (cst (.int 0))) skip)
  (seqS (ifS (tst (bin eqD (bin ixD (var 0) (cst (.int 1))) (bltE lenN (aCons (bin ixD (var 0) (cst (.int 0))) aNil)))) (seqS (subS (var 0) (cst (.int 1)) (cst (.int 0)))
  (subS (var 0) (cst (.int 3)) (bin addD (bin ixD (var 0) (cst (.int 3))) (cst (.int 1))))) skip)
  (seqS (subS (var 0) (cst (.int 2)) (bin addD (bin ixD (bin ixD (var 0) (cst (.int 0))) (bin ixD (var 0) (cst (.int 1)))) (bin mulD (bin ixD (var 0) (cst (.int 3))) (cst (.int 7919)))))
  (subS (var 0) (cst (.int 1)) (bin addD (bin ixD (var 0) (cst (.int 1))) (cst (.int 1))))))) skip)
  (seqS (asgS 2 (bin modD (bltE intN (aCons (bin ixD (var 0) (cst (.int 2))) aNil)) (var 1)))
  (seqS (subS (var 0) (cst (.int 2)) (bin fdivD (bltE intN (aCons (bin ixD (var 0) (cst (.int 2))) aNil)) (var 1)))
  (retS (var 2)))))
def d__law_take : FDen := runF 2 3 (flg [true, true, false]) b__law_take
theorem ok__law_take (T : Tx P w K mg base Ad) : FnS P w K mg base 1 d__law_take Ad.a__law_take [] := fnS_of (N := N__law_take) (ps := ["bag", "many"]) (Fx := flg [true, true, false]) (d := b__law_take) T.f__law_take sc__law_take fun cdv A outer s H E hr =>
  (SS.cons (S1.ifs (ST.cmp (op_eqA hr.units) o_eq (SE.ix ix_seq o_ix (SE.var 0) SE.int) SE.int) (SS.cons (S1.ifs (ST.not (ST.tru (SE.ix ix_seq o_ix (SE.var 0) SE.int))) (SS.one (S1.ret SE.int)) SS.nil)
  (SS.cons (S1.ifs (ST.cmp (op_eqA hr.units) o_eq (SE.ix ix_seq o_ix (SE.var 0) SE.int) (SE.blt call_len o_len T.b_len PySem.boot_len (SA.cons (SE.ix ix_seq o_ix (SE.var 0) SE.int) SA.nil))) (SS.cons (S1.sub (SE.var 0) SE.int SE.int)
  (SS.one (S1.sub (SE.var 0) SE.int (SE.op op_addA o_add (SE.ix ix_seq o_ix (SE.var 0) SE.int) SE.int)))) SS.nil)
  (SS.cons (S1.sub (SE.var 0) SE.int (SE.op op_addA o_add (SE.ix ix_seq o_ix (SE.ix ix_seq o_ix (SE.var 0) SE.int) (SE.ix ix_seq o_ix (SE.var 0) SE.int)) (SE.op op_mulA o_mul (SE.ix ix_seq o_ix (SE.var 0) SE.int) SE.int)))
  (SS.one (S1.sub (SE.var 0) SE.int (SE.op op_addA o_add (SE.ix ix_seq o_ix (SE.var 0) SE.int) SE.int)))))) SS.nil)
  (SS.cons (S1.asg 2 (SE.op op_mod o_mod (SE.blty c_int o_int2 T.b_int PyProof.Rows.Boot.«int» (SA.cons (SE.ix ix_seq o_ix (SE.var 0) SE.int) SA.nil)) (SE.var 1)) rfl nd__law_take)
  (SS.cons (S1.sub (SE.var 0) SE.int (SE.op op_fdiv o_fdiv (SE.blty c_int o_int2 T.b_int PyProof.Rows.Boot.«int» (SA.cons (SE.ix ix_seq o_ix (SE.var 0) SE.int) SA.nil)) (SE.var 1)))
  (SS.one (S1.ret (SE.var 2))))))
abbrev N__law_small : List Str := ["bag", "many", "word", "k"]
theorem nd__law_small : (N__law_small : List Str).Nodup := by decide +kernel
theorem sc__law_small : FnScope N__law_small ["bag", "many"] (defScope s__law_small) := ⟨rfl, rfl, rfl, nd__law_small, rfl, by decide +kernel, by decide +kernel⟩
def b__law_small : Stm := (seqS (asgS 2 (cst (.str "")))
  (seqS (forI (bName 3) (itE (aCons (var 1) aNil) rng1) (asgS 2 (bin addD (var 2) (bin ixD (cst (.str "abcdefghijklmnopqrstuvwxyz")) (callE d__law_take [] (aCons (var 0) (aCons (cst (.int 26)) aNil)))))))
  (retS (var 2))))
def d__law_small : FDen := runF 2 4 (flg [true, true, false, false]) b__law_small
theorem ok__law_small (T : Tx P w K mg base Ad) : FnS P w K mg base 2 d__law_small Ad.a__law_small [] := fnS_of (N := N__law_small) (ps := ["bag", "many"]) (Fx := flg [true, true, false, false]) (d := b__law_small) T.f__law_small sc__law_small fun cdv A outer s H E hr =>
  (SS.cons (S1.asg 2 SE.str rfl nd__law_small)
  (SS.cons (S1.for bx_passes rfl (SI.rng1 T.b_range (SA.cons (SE.var 1) SA.nil)) (SG.name 3 rfl nd__law_small) (SS.one (S1.asg 2 (SE.op op_addA o_add (SE.var 2) (SE.ix ix_seq o_ix SE.str (SE.call (ok__law_take T) T.m__law_take (hr.mono (by decide)) rfl bx_takes (SA.cons (SE.var 0) (SA.cons SE.int SA.nil))))) rfl nd__law_small)))
  (SS.one (S1.ret (SE.var 2)))))
abbrev N__law_name : List Str := ["bag", "word"]
theorem nd__law_name : (N__law_name : List Str).Nodup := by decide +kernel
theorem sc__law_name : FnScope N__law_name ["bag"] (defScope s__law_name) := ⟨rfl, rfl, rfl, nd__law_name, rfl, by decide +kernel, by decide +kernel⟩
def b__law_name : Stm := (seqS (asgS 1 (callE d__law_small [] (aCons (var 0) (aCons (bin addD (cst (.int 1)) (callE d__law_take [] (aCons (var 0) (aCons (cst (.int 8)) aNil)))) aNil))))
  (seqS (ifS (tst (bin inD (var 1) (lstE (dCons (cst (.str "not")) (dCons (cst (.str "and")) (dCons (cst (.str "or")) (dCons (cst (.str "some")) (dCons (cst (.str "every")) (dCons (cst (.str "by")) dNil))))))))) (retS (bin addD (var 1) (cst (.str "s")))) skip)
  (retS (var 1))))
def d__law_name : FDen := runF 1 2 (flg [true, false]) b__law_name
theorem ok__law_name (T : Tx P w K mg base Ad) : FnS P w K mg base 3 d__law_name Ad.a__law_name [] := fnS_of (N := N__law_name) (ps := ["bag"]) (Fx := flg [true, false]) (d := b__law_name) T.f__law_name sc__law_name fun cdv A outer s H E hr =>
  (SS.cons (S1.asg 1 (SE.call (ok__law_small T) T.m__law_small (hr.mono (by decide)) rfl bx_takes (SA.cons (SE.var 0) (SA.cons (SE.op op_addA o_add SE.int (SE.call (ok__law_take T) T.m__law_take (hr.mono (by decide)) rfl bx_takes (SA.cons (SE.var 0) (SA.cons SE.int SA.nil)))) SA.nil))) rfl nd__law_name)
  (SS.cons (S1.ifs (ST.cmp (op_inA (hu65 hr)) o_in (SE.var 1) (SE.lst (SDA.cons SE.str (SDA.cons SE.str (SDA.cons SE.str (SDA.cons SE.str (SDA.cons SE.str (SDA.cons SE.str SDA.nil)))))))) (SS.one (S1.ret (SE.op op_addA o_add (SE.var 1) SE.str))) SS.nil)
  (SS.one (S1.ret (SE.var 1)))))
abbrev N__law_great : List Str := ["bag", "many", "word", "k"]
theorem nd__law_great : (N__law_great : List Str).Nodup := by decide +kernel
theorem sc__law_great : FnScope N__law_great ["bag", "many"] (defScope s__law_great) := ⟨rfl, rfl, rfl, nd__law_great, rfl, by decide +kernel, by decide +kernel⟩
def b__law_great : Stm := (seqS (asgS 2 (cst (.str "")))
  (seqS (forI (bName 3) (itE (aCons (var 1) aNil) rng1) (asgS 2 (bin addD (var 2) (bin ixD (cst (.str "ABCDEFGHIJKLMNOPQRSTUVWXYZ")) (callE d__law_take [] (aCons (var 0) (aCons (cst (.int 26)) aNil)))))))
  (retS (var 2))))
def d__law_great : FDen := runF 2 4 (flg [true, true, false, false]) b__law_great
theorem ok__law_great (T : Tx P w K mg base Ad) : FnS P w K mg base 2 d__law_great Ad.a__law_great [] := fnS_of (N := N__law_great) (ps := ["bag", "many"]) (Fx := flg [true, true, false, false]) (d := b__law_great) T.f__law_great sc__law_great fun cdv A outer s H E hr =>
  (SS.cons (S1.asg 2 SE.str rfl nd__law_great)
  (SS.cons (S1.for bx_passes rfl (SI.rng1 T.b_range (SA.cons (SE.var 1) SA.nil)) (SG.name 3 rfl nd__law_great) (SS.one (S1.asg 2 (SE.op op_addA o_add (SE.var 2) (SE.ix ix_seq o_ix SE.str (SE.call (ok__law_take T) T.m__law_take (hr.mono (by decide)) rfl bx_takes (SA.cons (SE.var 0) (SA.cons SE.int SA.nil))))) rfl nd__law_great)))
  (SS.one (S1.ret (SE.var 2)))))
abbrev N__law_choice : List Str := ["bag", "word"]
theorem nd__law_choice : (N__law_choice : List Str).Nodup := by decide +kernel
theorem sc__law_choice : FnScope N__law_choice ["bag"] (defScope s__law_choice) := ⟨rfl, rfl, rfl, nd__law_choice, rfl, by decide +kernel, by decide +kernel⟩
def b__law_choice : Stm := (seqS (asgS 1 (callE d__law_great [] (aCons (var 0) (aCons (cst (.int 1)) aNil))))
  (retS (bin addD (var 1) (callE d__law_small [] (aCons (var 0) (aCons (bin addD (cst (.int 1)) (callE d__law_take [] (aCons (var 0) (aCons (cst (.int 7)) aNil)))) aNil))))))
def d__law_choice : FDen := runF 1 2 (flg [true, false]) b__law_choice
theorem ok__law_choice (T : Tx P w K mg base Ad) : FnS P w K mg base 3 d__law_choice Ad.a__law_choice [] := fnS_of (N := N__law_choice) (ps := ["bag"]) (Fx := flg [true, false]) (d := b__law_choice) T.f__law_choice sc__law_choice fun cdv A outer s H E hr =>
  (SS.cons (S1.asg 1 (SE.call (ok__law_great T) T.m__law_great (hr.mono (by decide)) rfl bx_takes (SA.cons (SE.var 0) (SA.cons SE.int SA.nil))) rfl nd__law_choice)
  (SS.one (S1.ret (SE.op op_addA o_add (SE.var 1) (SE.call (ok__law_small T) T.m__law_small (hr.mono (by decide)) rfl bx_takes (SA.cons (SE.var 0) (SA.cons (SE.op op_addA o_add SE.int (SE.call (ok__law_take T) T.m__law_take (hr.mono (by decide)) rfl bx_takes (SA.cons (SE.var 0) (SA.cons SE.int SA.nil)))) SA.nil)))))))
abbrev N__law_edge : List Str := ["bag", "low", "high", "kind"]
theorem nd__law_edge : (N__law_edge : List Str).Nodup := by decide +kernel
theorem sc__law_edge : FnScope N__law_edge ["bag", "low", "high"] (defScope s__law_edge) := ⟨rfl, rfl, rfl, nd__law_edge, rfl, by decide +kernel, by decide +kernel⟩
def b__law_edge : Stm := (seqS (asgS 3 (callE d__law_take [] (aCons (var 0) (aCons (cst (.int 4)) aNil))))
  (seqS (ifS (tst (bin eqD (var 3) (cst (.int 0)))) (retS (var 1)) skip)
  (seqS (ifS (tst (bin eqD (var 3) (cst (.int 1)))) (retS (var 2)) skip)
  (retS (bin addD (var 1) (callE d__law_take [] (aCons (var 0) (aCons (bin addD (bin (intD fun i j => i - j) (var 2) (var 1)) (cst (.int 1))) aNil))))))))
def d__law_edge : FDen := runF 3 4 (flg [true, true, true, false]) b__law_edge
theorem ok__law_edge (T : Tx P w K mg base Ad) : FnS P w K mg base 2 d__law_edge Ad.a__law_edge [] := fnS_of (N := N__law_edge) (ps := ["bag", "low", "high"]) (Fx := flg [true, true, true, false]) (d := b__law_edge) T.f__law_edge sc__law_edge fun cdv A outer s H E hr =>
  (SS.cons (S1.asg 3 (SE.call (ok__law_take T) T.m__law_take (hr.mono (by decide)) rfl bx_takes (SA.cons (SE.var 0) (SA.cons SE.int SA.nil))) rfl nd__law_edge)
  (SS.cons (S1.ifs (ST.cmp (op_eqA hr.units) o_eq (SE.var 3) SE.int) (SS.one (S1.ret (SE.var 1))) SS.nil)
  (SS.cons (S1.ifs (ST.cmp (op_eqA hr.units) o_eq (SE.var 3) SE.int) (SS.one (S1.ret (SE.var 2))) SS.nil)
  (SS.one (S1.ret (SE.op op_addA o_add (SE.var 1) (SE.call (ok__law_take T) T.m__law_take (hr.mono (by decide)) rfl bx_takes (SA.cons (SE.var 0) (SA.cons (SE.op op_addA o_add (SE.op op_sub o_int (SE.var 2) (SE.var 1)) SE.int) SA.nil)))))))))
abbrev N__law_row : List Str := ["bag", "kind", "word", "name", "letter", "number"]
theorem nd__law_row : (N__law_row : List Str).Nodup := by decide +kernel
theorem sc__law_row : FnScope N__law_row ["bag", "kind"] (defScope s__law_row) := ⟨rfl, rfl, rfl, nd__law_row, rfl, by decide +kernel, by decide +kernel⟩
def b__law_row : Stm := (seqS (asgS 2 (lstE (dCons (cst (.str "number")) (dCons (cst (.str "name")) (dCons (cst (.str "add")) (dCons (cst (.str "call")) (dCons (cst (.str "guess")) (dCons (cst (.str "letter")) (dCons (cst (.str "holds")) (dCons (cst (.str "body")) (dCons (cst (.str "demand")) (dCons (cst (.str "pass")) dNil))))))))))))
  (seqS (asgS 2 (bin addD (var 2) (lstE (dCons (cst (.str "correct")) (dCons (cst (.str "same")) (dCons (cst (.str "most")) (dCons (cst (.str "not")) (dCons (cst (.str "and")) (dCons (cst (.str "or")) (dCons (cst (.str "if")) (dCons (cst (.str "end")) (dCons (cst (.str "stop")) dNil))))))))))))
  (seqS (asgS 2 (bin ixD (var 2) (var 1)))
  (seqS (ifS (tst (bin eqD (var 1) (cst (.int 0)))) (retS (tupE (dCons (var 2) (dCons (callE d__law_edge [] (aCons (var 0) (aCons (cst (.int 0)) (aCons (cst (.int 99)) aNil)))) dNil)))) skip)
  (seqS (ifS (tst (bin eqD (var 1) (cst (.int 1)))) (retS (tupE (dCons (var 2) (dCons (callE d__law_name [] (aCons (var 0) aNil)) dNil)))) skip)
  (seqS (ifS (tst (bin eqD (var 1) (cst (.int 2)))) (retS (tupE (dCons (var 2) (dCons (callE d__law_edge [] (aCons (var 0) (aCons (cst (.int 1)) (aCons (cst (.int 9)) aNil)))) dNil)))) skip)
  (seqS (ifS (tst (bin eqD (var 1) (cst (.int 3)))) (seqS (asgS 3 (callE d__law_name [] (aCons (var 0) aNil)))
  (retS (tupE (dCons (var 2) (dCons (var 3) (dCons (callE d__law_edge [] (aCons (var 0) (aCons (cst (.int 1)) (aCons (cst (.int 2)) aNil)))) dNil)))))) skip)
  (seqS (ifS (tst (bin eqD (var 1) (cst (.int 4)))) (seqS (asgS 3 (callE d__law_choice [] (aCons (var 0) aNil)))
  (retS (tupE (dCons (var 2) (dCons (var 3) (dCons (callE d__law_edge [] (aCons (var 0) (aCons (cst (.int 0)) (aCons (cst (.int 6)) aNil)))) dNil)))))) skip)
  (seqS (ifS (tst (bin eqD (var 1) (cst (.int 5)))) (seqS (asgS 4 (callE d__law_small [] (aCons (var 0) (aCons (cst (.int 1)) aNil))))
  (retS (tupE (dCons (var 2) (dCons (bin addD (var 4) (bltE strN (aCons (callE d__law_take [] (aCons (var 0) (aCons (cst (.int 10)) aNil))) aNil))) dNil))))) skip)
  (seqS (ifS (tst (bin eqD (var 1) (cst (.int 6)))) (seqS (asgS 3 (callE d__law_great [] (aCons (var 0) (aCons (bin addD (cst (.int 1)) (callE d__law_take [] (aCons (var 0) (aCons (cst (.int 8)) aNil)))) aNil))))
  (retS (tupE (dCons (var 2) (dCons (var 3) (dCons (callE d__law_edge [] (aCons (var 0) (aCons (cst (.int 1)) (aCons (cst (.int 2)) aNil)))) dNil)))))) skip)
  (seqS (ifS (tst (bin eqD (var 1) (cst (.int 7)))) (retS (tupE (dCons (var 2) (dCons (callE d__law_choice [] (aCons (var 0) aNil)) dNil)))) skip)
  (seqS (ifS (tst (bin eqD (var 1) (cst (.int 8)))) (retS (tupE (dCons (var 2) (dCons (callE d__law_edge [] (aCons (var 0) (aCons (cst (.int 1)) (aCons (cst (.int 60)) aNil)))) dNil)))) skip)
  (seqS (ifS (tst (bin eqD (var 1) (cst (.int 9)))) (retS (tupE (dCons (var 2) (dCons (callE d__law_edge [] (aCons (var 0) (aCons (cst (.int 1)) (aCons (cst (.int 99999)) aNil)))) dNil)))) skip)
  (seqS (ifS (tst (bin eqD (var 1) (cst (.int 10)))) (seqS (asgS 3 (callE d__law_choice [] (aCons (var 0) aNil)))
  (seqS (asgS 5 (callE d__law_edge [] (aCons (var 0) (aCons (cst (.int 0)) (aCons (cst (.int 6)) aNil)))))
  (retS (tupE (dCons (var 2) (dCons (var 3) (dCons (var 5) (dCons (callE d__law_edge [] (aCons (var 0) (aCons (cst (.int 1)) (aCons (cst (.int 60)) aNil)))) dNil)))))))) skip)
  (retS (tupE (dCons (var 2) dNil)))))))))))))))))
def d__law_row : FDen := runF 2 6 (flg [true, true, false, false, false, false]) b__law_row
theorem ok__law_row (T : Tx P w K mg base Ad) : FnS P w K mg base 4 d__law_row Ad.a__law_row [] := fnS_of (N := N__law_row) (ps := ["bag", "kind"]) (Fx := flg [true, true, false, false, false, false]) (d := b__law_row) T.f__law_row sc__law_row fun cdv A outer s H E hr =>
  (SS.cons (S1.asg 2 (SE.lst (SDA.cons SE.str (SDA.cons SE.str (SDA.cons SE.str (SDA.cons SE.str (SDA.cons SE.str (SDA.cons SE.str (SDA.cons SE.str (SDA.cons SE.str (SDA.cons SE.str (SDA.cons SE.str SDA.nil))))))))))) rfl nd__law_row)
  (SS.cons (S1.asg 2 (SE.op op_addA o_add (SE.var 2) (SE.lst (SDA.cons SE.str (SDA.cons SE.str (SDA.cons SE.str (SDA.cons SE.str (SDA.cons SE.str (SDA.cons SE.str (SDA.cons SE.str (SDA.cons SE.str (SDA.cons SE.str SDA.nil))))))))))) rfl nd__law_row)
  (SS.cons (S1.asg 2 (SE.ix ix_seq o_ix (SE.var 2) (SE.var 1)) rfl nd__law_row)
  (SS.cons (S1.ifs (ST.cmp (op_eqA hr.units) o_eq (SE.var 1) SE.int) (SS.one (S1.ret (SE.tup (SDA.cons (SE.var 2) (SDA.cons (SE.call (ok__law_edge T) T.m__law_edge (hr.mono (by decide)) rfl bx_takes (SA.cons (SE.var 0) (SA.cons SE.int (SA.cons SE.int SA.nil)))) SDA.nil))))) SS.nil)
  (SS.cons (S1.ifs (ST.cmp (op_eqA hr.units) o_eq (SE.var 1) SE.int) (SS.one (S1.ret (SE.tup (SDA.cons (SE.var 2) (SDA.cons (SE.call (ok__law_name T) T.m__law_name (hr.mono (by decide)) rfl bx_takes (SA.cons (SE.var 0) SA.nil)) SDA.nil))))) SS.nil)
  (SS.cons (S1.ifs (ST.cmp (op_eqA hr.units) o_eq (SE.var 1) SE.int) (SS.one (S1.ret (SE.tup (SDA.cons (SE.var 2) (SDA.cons (SE.call (ok__law_edge T) T.m__law_edge (hr.mono (by decide)) rfl bx_takes (SA.cons (SE.var 0) (SA.cons SE.int (SA.cons SE.int SA.nil)))) SDA.nil))))) SS.nil)
  (SS.cons (S1.ifs (ST.cmp (op_eqA hr.units) o_eq (SE.var 1) SE.int) (SS.cons (S1.asg 3 (SE.call (ok__law_name T) T.m__law_name (hr.mono (by decide)) rfl bx_takes (SA.cons (SE.var 0) SA.nil)) rfl nd__law_row)
  (SS.one (S1.ret (SE.tup (SDA.cons (SE.var 2) (SDA.cons (SE.var 3) (SDA.cons (SE.call (ok__law_edge T) T.m__law_edge (hr.mono (by decide)) rfl bx_takes (SA.cons (SE.var 0) (SA.cons SE.int (SA.cons SE.int SA.nil)))) SDA.nil))))))) SS.nil)
  (SS.cons (S1.ifs (ST.cmp (op_eqA hr.units) o_eq (SE.var 1) SE.int) (SS.cons (S1.asg 3 (SE.call (ok__law_choice T) T.m__law_choice (hr.mono (by decide)) rfl bx_takes (SA.cons (SE.var 0) SA.nil)) rfl nd__law_row)
  (SS.one (S1.ret (SE.tup (SDA.cons (SE.var 2) (SDA.cons (SE.var 3) (SDA.cons (SE.call (ok__law_edge T) T.m__law_edge (hr.mono (by decide)) rfl bx_takes (SA.cons (SE.var 0) (SA.cons SE.int (SA.cons SE.int SA.nil)))) SDA.nil))))))) SS.nil)
  (SS.cons (S1.ifs (ST.cmp (op_eqA hr.units) o_eq (SE.var 1) SE.int) (SS.cons (S1.asg 4 (SE.call (ok__law_small T) T.m__law_small (hr.mono (by decide)) rfl bx_takes (SA.cons (SE.var 0) (SA.cons SE.int SA.nil))) rfl nd__law_row)
  (SS.one (S1.ret (SE.tup (SDA.cons (SE.var 2) (SDA.cons (SE.op op_addA o_add (SE.var 4) (SE.blty c_str o_str T.b_str PyProof.Rows.Boot.«str» (SA.cons (SE.call (ok__law_take T) T.m__law_take (hr.mono (by decide)) rfl bx_takes (SA.cons (SE.var 0) (SA.cons SE.int SA.nil))) SA.nil))) SDA.nil)))))) SS.nil)
  (SS.cons (S1.ifs (ST.cmp (op_eqA hr.units) o_eq (SE.var 1) SE.int) (SS.cons (S1.asg 3 (SE.call (ok__law_great T) T.m__law_great (hr.mono (by decide)) rfl bx_takes (SA.cons (SE.var 0) (SA.cons (SE.op op_addA o_add SE.int (SE.call (ok__law_take T) T.m__law_take (hr.mono (by decide)) rfl bx_takes (SA.cons (SE.var 0) (SA.cons SE.int SA.nil)))) SA.nil))) rfl nd__law_row)
  (SS.one (S1.ret (SE.tup (SDA.cons (SE.var 2) (SDA.cons (SE.var 3) (SDA.cons (SE.call (ok__law_edge T) T.m__law_edge (hr.mono (by decide)) rfl bx_takes (SA.cons (SE.var 0) (SA.cons SE.int (SA.cons SE.int SA.nil)))) SDA.nil))))))) SS.nil)
  (SS.cons (S1.ifs (ST.cmp (op_eqA hr.units) o_eq (SE.var 1) SE.int) (SS.one (S1.ret (SE.tup (SDA.cons (SE.var 2) (SDA.cons (SE.call (ok__law_choice T) T.m__law_choice (hr.mono (by decide)) rfl bx_takes (SA.cons (SE.var 0) SA.nil)) SDA.nil))))) SS.nil)
  (SS.cons (S1.ifs (ST.cmp (op_eqA hr.units) o_eq (SE.var 1) SE.int) (SS.one (S1.ret (SE.tup (SDA.cons (SE.var 2) (SDA.cons (SE.call (ok__law_edge T) T.m__law_edge (hr.mono (by decide)) rfl bx_takes (SA.cons (SE.var 0) (SA.cons SE.int (SA.cons SE.int SA.nil)))) SDA.nil))))) SS.nil)
  (SS.cons (S1.ifs (ST.cmp (op_eqA hr.units) o_eq (SE.var 1) SE.int) (SS.one (S1.ret (SE.tup (SDA.cons (SE.var 2) (SDA.cons (SE.call (ok__law_edge T) T.m__law_edge (hr.mono (by decide)) rfl bx_takes (SA.cons (SE.var 0) (SA.cons SE.int (SA.cons SE.int SA.nil)))) SDA.nil))))) SS.nil)
  (SS.cons (S1.ifs (ST.cmp (op_eqA hr.units) o_eq (SE.var 1) SE.int) (SS.cons (S1.asg 3 (SE.call (ok__law_choice T) T.m__law_choice (hr.mono (by decide)) rfl bx_takes (SA.cons (SE.var 0) SA.nil)) rfl nd__law_row)
  (SS.cons (S1.asg 5 (SE.call (ok__law_edge T) T.m__law_edge (hr.mono (by decide)) rfl bx_takes (SA.cons (SE.var 0) (SA.cons SE.int (SA.cons SE.int SA.nil)))) rfl nd__law_row)
  (SS.one (S1.ret (SE.tup (SDA.cons (SE.var 2) (SDA.cons (SE.var 3) (SDA.cons (SE.var 5) (SDA.cons (SE.call (ok__law_edge T) T.m__law_edge (hr.mono (by decide)) rfl bx_takes (SA.cons (SE.var 0) (SA.cons SE.int (SA.cons SE.int SA.nil)))) SDA.nil))))))))) SS.nil)
  (SS.one (S1.ret (SE.tup (SDA.cons (SE.var 2) SDA.nil))))))))))))))))))
abbrev N__law_line : List Str := ["row", "item"]
theorem nd__law_line : (N__law_line : List Str).Nodup := by decide +kernel
theorem sc__law_line : FnScope N__law_line ["row"] (defScope s__law_line) := ⟨rfl, rfl, rfl, nd__law_line, rfl, by decide +kernel, by decide +kernel⟩
def b__law_line : Stm := (retS (metE "str" joinM (cst (.str " ")) (aCons (compI [1] (bName 1) (itE (fzE (var 0)) tupOf) yesT (bltE strN (aCons (var 1) aNil))) aNil)))
def d__law_line : FDen := runF 1 2 (flg [true, true]) b__law_line
theorem ok__law_line (T : Tx P w K mg base Ad) : FnS P w K mg base 1 d__law_line Ad.a__law_line [] := fnS_of (N := N__law_line) (ps := ["row"]) (Fx := flg [true, true]) (d := b__law_line) T.f__law_line sc__law_line fun cdv A outer s H E hr =>
  (SS.one (S1.ret (SE.met o_join PySem.F.plainAttrs_str PySem.F.slot_str_join PySem.F.type_str_join mt_join SE.str (SA.cons (SE.lc [1] rfl nd__law_line (SI.tup (SE.var 0)) (blkOk_by (own := [("item", 1)]) (by first | rfl | kernel_rfl)) rfl (fun s H C cl fp => ⟨(SG.name 1 rfl nd__law_line), STs.nil, (SE.blty c_str o_str T.b_str PyProof.Rows.Boot.«str» (SA.cons (SE.var 1) SA.nil))⟩)) SA.nil))))
abbrev N__law_bounds : List Str := ["row", "at"]
theorem nd__law_bounds : (N__law_bounds : List Str).Nodup := by decide +kernel
theorem sc__law_bounds : FnScope N__law_bounds ["row", "at"] (defScope s__law_bounds) := ⟨rfl, rfl, rfl, nd__law_bounds, rfl, by decide +kernel, by decide +kernel⟩
def b__law_bounds : Stm := (seqS (ifS (tst (bin eqD (bin ixD (var 0) (cst (.int 0))) (cst (.str "number")))) (retS (lstE (dCons (cst (.int 0)) (dCons (cst (.int 99)) dNil)))) skip)
  (seqS (ifS (tst (bin eqD (bin ixD (var 0) (cst (.int 0))) (cst (.str "add")))) (retS (lstE (dCons (cst (.int 1)) (dCons (cst (.int 9)) dNil)))) skip)
  (seqS (ifS (tst (bin inD (bin ixD (var 0) (cst (.int 0))) (lstE (dCons (cst (.str "call")) (dCons (cst (.str "holds")) dNil))))) (retS (lstE (dCons (cst (.int 1)) (dCons (cst (.int 2)) dNil)))) skip)
  (seqS (ifS (tst (bin eqD (bin ixD (var 0) (cst (.int 0))) (cst (.str "pass")))) (retS (lstE (dCons (cst (.int 1)) (dCons (cst (.int 99999)) dNil)))) skip)
  (seqS (ifS (orT (tst (bin eqD (bin ixD (var 0) (cst (.int 0))) (cst (.str "demand")))) (tst (bin eqD (var 1) (cst (.int 3))))) (retS (lstE (dCons (cst (.int 1)) (dCons (cst (.int 60)) dNil)))) skip)
  (retS (lstE (dCons (cst (.int 0)) (dCons (cst (.int 6)) dNil)))))))))
def d__law_bounds : FDen := runF 2 2 (flg [true, true]) b__law_bounds
theorem ok__law_bounds (T : Tx P w K mg base Ad) : FnS P w K mg base 1 d__law_bounds Ad.a__law_bounds [] := fnS_of (N := N__law_bounds) (ps := ["row", "at"]) (Fx := flg [true, true]) (d := b__law_bounds) T.f__law_bounds sc__law_bounds fun cdv A outer s H E hr =>
  (SS.cons (S1.ifs (ST.cmp (op_eqA hr.units) o_eq (SE.ix ix_seq o_ix (SE.var 0) SE.int) SE.str) (SS.one (S1.ret (SE.lst (SDA.cons SE.int (SDA.cons SE.int SDA.nil))))) SS.nil)
  (SS.cons (S1.ifs (ST.cmp (op_eqA hr.units) o_eq (SE.ix ix_seq o_ix (SE.var 0) SE.int) SE.str) (SS.one (S1.ret (SE.lst (SDA.cons SE.int (SDA.cons SE.int SDA.nil))))) SS.nil)
  (SS.cons (S1.ifs (ST.cmp (op_inA (hu65 hr)) o_in (SE.ix ix_seq o_ix (SE.var 0) SE.int) (SE.lst (SDA.cons SE.str (SDA.cons SE.str SDA.nil)))) (SS.one (S1.ret (SE.lst (SDA.cons SE.int (SDA.cons SE.int SDA.nil))))) SS.nil)
  (SS.cons (S1.ifs (ST.cmp (op_eqA hr.units) o_eq (SE.ix ix_seq o_ix (SE.var 0) SE.int) SE.str) (SS.one (S1.ret (SE.lst (SDA.cons SE.int (SDA.cons SE.int SDA.nil))))) SS.nil)
  (SS.cons (S1.ifs (SW.toT (SW.or (ST.cmp (op_eqA hr.units) o_eq (SE.ix ix_seq o_ix (SE.var 0) SE.int) SE.str) (SW.or1 (ST.cmp (op_eqA hr.units) o_eq (SE.var 1) SE.int)))) (SS.one (S1.ret (SE.lst (SDA.cons SE.int (SDA.cons SE.int SDA.nil))))) SS.nil)
  (SS.one (S1.ret (SE.lst (SDA.cons SE.int (SDA.cons SE.int SDA.nil))))))))))
end K50
set_option Elab.async false
set_option linter.all false
set_option maxRecDepth 100000
set_option maxHeartbeats 4000000
namespace K50
open PySem L2 PySem.Spec PyProof.Rows Zed
variable {P : Program} {w : World} {K : PySem.W.Frag} {mg : Str → Option Value} {base : Heap} {Ad : AdT}
abbrev N__law_bad_number : List Str := ["bag", "row", "places", "at", "bounds", "more", "figures", "words", "items", "k", "item"]
theorem nd__law_bad_number : (N__law_bad_number : List Str).Nodup := by decide +kernel
theorem sc__law_bad_number : FnScope N__law_bad_number ["bag", "row"] (defScope s__law_bad_number) := ⟨rfl, rfl, rfl, nd__law_bad_number, rfl, by decide +kernel, by decide +kernel⟩
def b__law_bad_number : Stm := (seqS (asgS 2 (compI [9] (bName 9) (itE (aCons (bltE lenN (aCons (var 1) aNil)) aNil) rng1) (notT (tru (bltE (isiN ty_tab) (aCons (bin ixD (var 1) (var 9)) (aCons (cst (.ty "str")) aNil))))) (var 9)))
  (seqS (ifS (notT (tru (var 2))) (retS (bin addD (callE d__law_line [] (aCons (var 1) aNil)) (cst (.str " 0")))) skip)
  (seqS (asgS 3 (bin ixD (var 2) (callE d__law_take [] (aCons (var 0) (aCons (bltE lenN (aCons (var 2) aNil)) aNil)))))
  (seqS (asgS 4 (callE d__law_bounds [] (aCons (var 1) (aCons (var 3) aNil))))
  (seqS (asgS 5 (callE d__law_take [] (aCons (var 0) (aCons (cst (.int 3)) aNil))))
  (seqS (asgS 6 (bltE strN (aCons (bin ixD (var 1) (var 3)) aNil)))
  (seqS (asgS 7 (lstE (dCons (bin addD (cst (.str "0")) (var 6)) (dCons (bin addD (cst (.str "+")) (var 6)) (dCons (cst (.str "")) (dCons (bin addD (bin addD (slE (var 6) pNone (pSome (cst (.int 1)))) (cst (.str "_"))) (slE (var 6) (pSome (cst (.int 1))) pNone)) dNil))))))
  (seqS (asgS 7 (bin addD (var 7) (lstE (dCons (bltE strN (aCons (bin addD (bin ixD (var 4) (cst (.int 1))) (cst (.int 1))) aNil)) (dCons (bltE strN (aCons (bin (intD fun i j => i - j) (bin ixD (var 4) (cst (.int 0))) (cst (.int 1))) aNil)) dNil)))))
  (seqS (dropS (mutE appendU (var 7) (dCons (bltE strN (aCons (bin addD (bin mulD (bin ixD (var 4) (cst (.int 1))) (cst (.int 10))) (var 5)) aNil)) dNil)))
  (seqS (asgS 8 (compI [10] (bName 10) (itE (fzE (var 1)) tupOf) yesT (bltE strN (aCons (var 10) aNil))))
  (seqS (subS (var 8) (var 3) (bin ixD (var 7) (callE d__law_take [] (aCons (var 0) (aCons (cst (.int 7)) aNil)))))
  (retS (metE "str" joinM (cst (.str " ")) (aCons (var 8) aNil))))))))))))))
def d__law_bad_number : FDen := runF 2 11 (flg [true, true, false, false, false, false, false, false, false, true, true]) b__law_bad_number
theorem ok__law_bad_number (T : Tx P w K mg base Ad) : FnS P w K mg base 2 d__law_bad_number Ad.a__law_bad_number [] := fnS_of (N := N__law_bad_number) (ps := ["bag", "row"]) (Fx := flg [true, true, false, false, false, false, false, false, false, true, true]) (d := b__law_bad_number) T.f__law_bad_number sc__law_bad_number fun cdv A outer s H E hr =>
  (SS.cons (S1.asgLc 2 [9] rfl nd__law_bad_number (SI.rng1 T.b_range (SA.cons (SE.blt call_len o_len T.b_len PySem.boot_len (SA.cons (SE.var 1) SA.nil)) SA.nil)) (blkOk_by (own := [("k", 9)]) (by first | rfl | kernel_rfl)) rfl (fun s H C cl fp => ⟨(SG.name 9 rfl nd__law_bad_number), (STs.one (ST.not (ST.tru (SE.blt call_isi (o_isi T.tyt) T.b_isinstance PyProof.Rows.boot_isinstance (SA.cons (SE.ix ix_seq o_ix (SE.var 1) (SE.var 9)) (SA.cons (SE.ty rfl T.b_str PyProof.Rows.Boot.«str») SA.nil)))))), (SE.var 9)⟩) (sw_true rfl rfl rfl (by first | rfl | kernel_rfl)))
  (SS.cons (S1.ifs (ST.not (ST.tru (SE.var 2))) (SS.one (S1.ret (SE.op op_addA o_add (SE.call (ok__law_line T) T.m__law_line (hr.mono (by decide)) rfl bx_takes (SA.cons (SE.var 1) SA.nil)) SE.str))) SS.nil)
  (SS.cons (S1.asg 3 (SE.ix ix_seq o_ix (SE.var 2) (SE.call (ok__law_take T) T.m__law_take (hr.mono (by decide)) rfl bx_takes (SA.cons (SE.var 0) (SA.cons (SE.blt call_len o_len T.b_len PySem.boot_len (SA.cons (SE.var 2) SA.nil)) SA.nil)))) rfl nd__law_bad_number)
  (SS.cons (S1.asg 4 (SE.call (ok__law_bounds T) T.m__law_bounds (hr.mono (by decide)) rfl bx_takes (SA.cons (SE.var 1) (SA.cons (SE.var 3) SA.nil))) rfl nd__law_bad_number)
  (SS.cons (S1.asg 5 (SE.call (ok__law_take T) T.m__law_take (hr.mono (by decide)) rfl bx_takes (SA.cons (SE.var 0) (SA.cons SE.int SA.nil))) rfl nd__law_bad_number)
  (SS.cons (S1.asg 6 (SE.blty c_str o_str T.b_str PyProof.Rows.Boot.«str» (SA.cons (SE.ix ix_seq o_ix (SE.var 1) (SE.var 3)) SA.nil)) rfl nd__law_bad_number)
  (SS.cons (S1.asg 7 (SE.lst (SDA.cons (SE.op op_addA o_add SE.str (SE.var 6)) (SDA.cons (SE.op op_addA o_add SE.str (SE.var 6)) (SDA.cons SE.str (SDA.cons (SE.op op_addA o_add (SE.op op_addA o_add (SE.sl (SE.var 6) SO.none (SO.some SE.int)) SE.str) (SE.sl (SE.var 6) (SO.some SE.int) SO.none)) SDA.nil))))) rfl nd__law_bad_number)
  (SS.cons (S1.asg 7 (SE.op op_addA o_add (SE.var 7) (SE.lst (SDA.cons (SE.blty c_str o_str T.b_str PyProof.Rows.Boot.«str» (SA.cons (SE.op op_addA o_add (SE.ix ix_seq o_ix (SE.var 4) SE.int) SE.int) SA.nil)) (SDA.cons (SE.blty c_str o_str T.b_str PyProof.Rows.Boot.«str» (SA.cons (SE.op op_sub o_int (SE.ix ix_seq o_ix (SE.var 4) SE.int) SE.int) SA.nil)) SDA.nil)))) rfl nd__law_bad_number)
  (SS.cons (S1.drop (SE.mut u_append PySem.F.slot_list_append PySem.F.type_list_append mt_append (SE.var 7) (SDA.cons (SE.blty c_str o_str T.b_str PyProof.Rows.Boot.«str» (SA.cons (SE.op op_addA o_add (SE.op op_mulA o_mul (SE.ix ix_seq o_ix (SE.var 4) SE.int) SE.int) (SE.var 5)) SA.nil)) SDA.nil)))
  (SS.cons (S1.asgLc 8 [10] rfl nd__law_bad_number (SI.tup (SE.var 1)) (blkOk_by (own := [("item", 10)]) (by first | rfl | kernel_rfl)) rfl (fun s H C cl fp => ⟨(SG.name 10 rfl nd__law_bad_number), STs.nil, (SE.blty c_str o_str T.b_str PyProof.Rows.Boot.«str» (SA.cons (SE.var 10) SA.nil))⟩) (sw_true rfl rfl rfl (by first | rfl | kernel_rfl)))
  (SS.cons (S1.sub (SE.var 8) (SE.var 3) (SE.ix ix_seq o_ix (SE.var 7) (SE.call (ok__law_take T) T.m__law_take (hr.mono (by decide)) rfl bx_takes (SA.cons (SE.var 0) (SA.cons SE.int SA.nil)))))
  (SS.one (S1.ret (SE.met o_join PySem.F.plainAttrs_str PySem.F.slot_str_join PySem.F.type_str_join mt_join SE.str (SA.cons (SE.var 8) SA.nil)))))))))))))))
abbrev N__law_bad_word : List Str := ["bag", "row", "odd", "items", "item"]
theorem nd__law_bad_word : (N__law_bad_word : List Str).Nodup := by decide +kernel
theorem sc__law_bad_word : FnScope N__law_bad_word ["bag", "row"] (defScope s__law_bad_word) := ⟨rfl, rfl, rfl, nd__law_bad_word, rfl, by decide +kernel, by decide +kernel⟩
def b__law_bad_word : Stm := (seqS (ifS (orT (tst (bin eqD (bltE lenN (aCons (var 1) aNil)) (cst (.int 1)))) (notT (tru (bltE (isiN ty_tab) (aCons (bin ixD (var 1) (cst (.int 1))) (aCons (cst (.ty "str")) aNil)))))) (retS (bin addD (callE d__law_line [] (aCons (var 1) aNil)) (cst (.str " x")))) skip)
  (seqS (asgS 2 (lstE (dCons (cst (.str "low")) (dCons (cst (.str "L")) (dCons (cst (.str "Low1")) (dCons (cst (.str "Abcdefghi")) (dCons (cst (.str "LOW")) dNil)))))))
  (seqS (ifS (tst (bin inD (bin ixD (var 1) (cst (.int 0))) (lstE (dCons (cst (.str "name")) (dCons (cst (.str "call")) dNil))))) (asgS 2 (lstE (dCons (cst (.str "X")) (dCons (cst (.str "and")) (dCons (cst (.str "x1")) (dCons (cst (.str "abcdefghi")) (dCons (cst (.str "by")) dNil))))))) skip)
  (seqS (ifS (tst (bin eqD (bin ixD (var 1) (cst (.int 0))) (cst (.str "holds")))) (asgS 2 (lstE (dCons (cst (.str "r")) (dCons (cst (.str "Rx")) (dCons (cst (.str "R1")) (dCons (cst (.str "ABCDEFGHI")) (dCons (cst (.str "")) dNil))))))) skip)
  (seqS (ifS (tst (bin eqD (bin ixD (var 1) (cst (.int 0))) (cst (.str "letter")))) (asgS 2 (lstE (dCons (cst (.str "p")) (dCons (cst (.str "p10")) (dCons (cst (.str "P1")) (dCons (cst (.str "1p")) (dCons (cst (.str "pp")) dNil))))))) skip)
  (seqS (asgS 3 (compI [4] (bName 4) (itE (fzE (var 1)) tupOf) yesT (bltE strN (aCons (var 4) aNil))))
  (seqS (subS (var 3) (cst (.int 1)) (bin ixD (var 2) (callE d__law_take [] (aCons (var 0) (aCons (cst (.int 5)) aNil)))))
  (retS (metE "str" joinM (cst (.str " ")) (aCons (var 3) aNil))))))))))
def d__law_bad_word : FDen := runF 2 5 (flg [true, true, false, false, true]) b__law_bad_word
theorem ok__law_bad_word (T : Tx P w K mg base Ad) : FnS P w K mg base 2 d__law_bad_word Ad.a__law_bad_word [] := fnS_of (N := N__law_bad_word) (ps := ["bag", "row"]) (Fx := flg [true, true, false, false, true]) (d := b__law_bad_word) T.f__law_bad_word sc__law_bad_word fun cdv A outer s H E hr =>
  (SS.cons (S1.ifs (SW.toT (SW.or (ST.cmp (op_eqA hr.units) o_eq (SE.blt call_len o_len T.b_len PySem.boot_len (SA.cons (SE.var 1) SA.nil)) SE.int) (SW.or1 (ST.not (ST.tru (SE.blt call_isi (o_isi T.tyt) T.b_isinstance PyProof.Rows.boot_isinstance (SA.cons (SE.ix ix_seq o_ix (SE.var 1) SE.int) (SA.cons (SE.ty rfl T.b_str PyProof.Rows.Boot.«str») SA.nil)))))))) (SS.one (S1.ret (SE.op op_addA o_add (SE.call (ok__law_line T) T.m__law_line (hr.mono (by decide)) rfl bx_takes (SA.cons (SE.var 1) SA.nil)) SE.str))) SS.nil)
  (SS.cons (S1.asg 2 (SE.lst (SDA.cons SE.str (SDA.cons SE.str (SDA.cons SE.str (SDA.cons SE.str (SDA.cons SE.str SDA.nil)))))) rfl nd__law_bad_word)
  (SS.cons (S1.ifs (ST.cmp (op_inA (hu65 hr)) o_in (SE.ix ix_seq o_ix (SE.var 1) SE.int) (SE.lst (SDA.cons SE.str (SDA.cons SE.str SDA.nil)))) (SS.one (S1.asg 2 (SE.lst (SDA.cons SE.str (SDA.cons SE.str (SDA.cons SE.str (SDA.cons SE.str (SDA.cons SE.str SDA.nil)))))) rfl nd__law_bad_word)) SS.nil)
  (SS.cons (S1.ifs (ST.cmp (op_eqA hr.units) o_eq (SE.ix ix_seq o_ix (SE.var 1) SE.int) SE.str) (SS.one (S1.asg 2 (SE.lst (SDA.cons SE.str (SDA.cons SE.str (SDA.cons SE.str (SDA.cons SE.str (SDA.cons SE.str SDA.nil)))))) rfl nd__law_bad_word)) SS.nil)
  (SS.cons (S1.ifs (ST.cmp (op_eqA hr.units) o_eq (SE.ix ix_seq o_ix (SE.var 1) SE.int) SE.str) (SS.one (S1.asg 2 (SE.lst (SDA.cons SE.str (SDA.cons SE.str (SDA.cons SE.str (SDA.cons SE.str (SDA.cons SE.str SDA.nil)))))) rfl nd__law_bad_word)) SS.nil)
  (SS.cons (S1.asgLc 3 [4] rfl nd__law_bad_word (SI.tup (SE.var 1)) (blkOk_by (own := [("item", 4)]) (by first | rfl | kernel_rfl)) rfl (fun s H C cl fp => ⟨(SG.name 4 rfl nd__law_bad_word), STs.nil, (SE.blty c_str o_str T.b_str PyProof.Rows.Boot.«str» (SA.cons (SE.var 4) SA.nil))⟩) (sw_true rfl rfl rfl (by first | rfl | kernel_rfl)))
  (SS.cons (S1.sub (SE.var 3) SE.int (SE.ix ix_seq o_ix (SE.var 2) (SE.call (ok__law_take T) T.m__law_take (hr.mono (by decide)) rfl bx_takes (SA.cons (SE.var 0) (SA.cons SE.int SA.nil)))))
  (SS.one (S1.ret (SE.met o_join PySem.F.plainAttrs_str PySem.F.slot_str_join PySem.F.type_str_join mt_join SE.str (SA.cons (SE.var 3) SA.nil)))))))))))
abbrev N__law_spoil : List Str := ["bag", "row", "kind", "line", "items", "wide", "word", "item", "k"]
theorem nd__law_spoil : (N__law_spoil : List Str).Nodup := by decide +kernel
theorem sc__law_spoil : FnScope N__law_spoil ["bag", "row"] (defScope s__law_spoil) := ⟨rfl, rfl, rfl, nd__law_spoil, rfl, by decide +kernel, by decide +kernel⟩
def b__law_spoil : Stm := (seqS (asgS 2 (callE d__law_take [] (aCons (var 0) (aCons (cst (.int 9)) aNil))))
  (seqS (asgS 3 (callE d__law_line [] (aCons (var 1) aNil)))
  (seqS (asgS 4 (compI [7] (bName 7) (itE (fzE (var 1)) tupOf) yesT (bltE strN (aCons (var 7) aNil))))
  (seqS (ifS (tst (bin (cmpD fun i j => decide (i < j)) (var 2) (cst (.int 2)))) (retS (callE d__law_bad_number [] (aCons (var 0) (aCons (var 1) aNil)))) skip)
  (seqS (ifS (tst (bin (cmpD fun i j => decide (i < j)) (var 2) (cst (.int 4)))) (retS (callE d__law_bad_word [] (aCons (var 0) (aCons (var 1) aNil)))) skip)
  (seqS (ifS (tst (bin eqD (var 2) (cst (.int 4)))) (retS (bin addD (bin addD (var 3) (cst (.str " "))) (bin ixD (lstE (dCons (cst (.str "1")) (dCons (cst (.str "x")) (dCons (cst (.str "stop")) (dCons (cst (.str "Low")) dNil))))) (callE d__law_take [] (aCons (var 0) (aCons (cst (.int 4)) aNil)))))) skip)
  (seqS (ifS (tst (bin eqD (var 2) (cst (.int 5)))) (seqS (ifS (tst (bin eqD (bltE lenN (aCons (var 1) aNil)) (cst (.int 1)))) (retS (bin addD (var 3) (cst (.str "s")))) skip)
  (retS (metE "str" joinM (cst (.str " ")) (aCons (slE (var 4) pNone (pSome (un negD (cst (.int 1))))) aNil)))) skip)
  (seqS (ifS (tst (bin eqD (var 2) (cst (.int 6)))) (seqS (asgS 5 (bin addD (un (replN " " "  ") (var 3)) (cst (.str "  "))))
  (retS (bin ixD (lstE (dCons (bin addD (cst (.str " ")) (var 3)) (dCons (bin addD (var 3) (cst (.str " "))) (dCons (var 5) dNil)))) (callE d__law_take [] (aCons (var 0) (aCons (cst (.int 3)) aNil)))))) skip)
  (seqS (ifS (tst (bin eqD (var 2) (cst (.int 7)))) (seqS (asgS 6 (bin addD (met0 "str" upperM (slE (bin ixD (var 4) (cst (.int 0))) pNone (pSome (cst (.int 1))))) (slE (bin ixD (var 4) (cst (.int 0))) (pSome (cst (.int 1))) pNone)))
  (seqS (asgS 6 (bin ixD (lstE (dCons (slE (bin ixD (var 4) (cst (.int 0))) (pSome (cst (.int 1))) pNone) (dCons (cst (.str "push")) (dCons (var 6) dNil)))) (callE d__law_take [] (aCons (var 0) (aCons (cst (.int 3)) aNil)))))
  (retS (metE "str" joinM (cst (.str " ")) (aCons (bin addD (lstE (dCons (var 6) dNil)) (slE (var 4) (pSome (cst (.int 1))) pNone)) aNil))))) skip)
  (seqS (ifS (tst (bin eqD (bltE lenN (aCons (var 1) aNil)) (cst (.int 1)))) (retS (bin addD (var 3) (var 3))) skip)
  (seqS (ifS (orT (tst (bin eqD (callE d__law_take [] (aCons (var 0) (aCons (cst (.int 2)) aNil))) (cst (.int 0)))) (tst (bin eqD (bin ixD (var 1) (cst (.int 0))) (cst (.str "name"))))) (retS (un (replN " " ",") (var 3))) skip)
  (retS (metE "str" joinM (cst (.str " ")) (aCons (compI [8] (bName 8) (itE (aCons (bltE lenN (aCons (var 4) aNil)) aNil) rng1) yesT (bin ixD (var 4) (bin (intD fun i j => i - j) (bin (intD fun i j => i - j) (bltE lenN (aCons (var 4) aNil)) (cst (.int 1))) (var 8)))) aNil))))))))))))))
def d__law_spoil : FDen := runF 2 9 (flg [true, true, false, false, false, false, false, true, true]) b__law_spoil
theorem ok__law_spoil (T : Tx P w K mg base Ad) : FnS P w K mg base 3 d__law_spoil Ad.a__law_spoil [] := fnS_of (N := N__law_spoil) (ps := ["bag", "row"]) (Fx := flg [true, true, false, false, false, false, false, true, true]) (d := b__law_spoil) T.f__law_spoil sc__law_spoil fun cdv A outer s H E hr =>
  (SS.cons (S1.asg 2 (SE.call (ok__law_take T) T.m__law_take (hr.mono (by decide)) rfl bx_takes (SA.cons (SE.var 0) (SA.cons SE.int SA.nil))) rfl nd__law_spoil)
  (SS.cons (S1.asg 3 (SE.call (ok__law_line T) T.m__law_line (hr.mono (by decide)) rfl bx_takes (SA.cons (SE.var 1) SA.nil)) rfl nd__law_spoil)
  (SS.cons (S1.asg 4 (SE.lc [7] rfl nd__law_spoil (SI.tup (SE.var 1)) (blkOk_by (own := [("item", 7)]) (by first | rfl | kernel_rfl)) rfl (fun s H C cl fp => ⟨(SG.name 7 rfl nd__law_spoil), STs.nil, (SE.blty c_str o_str T.b_str PyProof.Rows.Boot.«str» (SA.cons (SE.var 7) SA.nil))⟩)) rfl nd__law_spoil)
  (SS.tok (STt.cmp op_lt o_cmp (SE.var 2)) (SST.of (SS.one (S1.ret (SE.call (ok__law_bad_number T) T.m__law_bad_number (hr.mono (by decide)) rfl bx_takes (SA.cons (SE.var 0) (SA.cons (SE.var 1) SA.nil)))))) (SST.of SS.nil)
  (SST.cons (S1T.of (S1.ifs (ST.cmp op_lt o_cmp (SE.var 2) SE.int) (SS.one (S1.ret (SE.call (ok__law_bad_word T) T.m__law_bad_word (hr.mono (by decide)) rfl bx_takes (SA.cons (SE.var 0) (SA.cons (SE.var 1) SA.nil))))) SS.nil))
  (SST.cons (S1T.of (S1.ifs (ST.cmp (op_eqA hr.units) o_eq (SE.var 2) SE.int) (SS.one (S1.ret (SE.op op_addA o_add (SE.op op_addA o_add (SE.var 3) SE.str) (SE.ix ix_seq o_ix (SE.lst (SDA.cons SE.str (SDA.cons SE.str (SDA.cons SE.str (SDA.cons SE.str SDA.nil))))) (SE.call (ok__law_take T) T.m__law_take (hr.mono (by decide)) rfl bx_takes (SA.cons (SE.var 0) (SA.cons SE.int SA.nil))))))) SS.nil))
  (SST.cons (S1T.of (S1.ifs (ST.cmp (op_eqA hr.units) o_eq (SE.var 2) SE.int) (SS.cons (S1.ifs (ST.cmp (op_eqA hr.units) o_eq (SE.blt call_len o_len T.b_len PySem.boot_len (SA.cons (SE.var 1) SA.nil)) SE.int) (SS.one (S1.ret (SE.op op_addA o_add (SE.var 3) SE.str))) SS.nil)
  (SS.one (S1.ret (SE.met o_join PySem.F.plainAttrs_str PySem.F.slot_str_join PySem.F.type_str_join mt_join SE.str (SA.cons (SE.sl (SE.var 4) SO.none (SO.some (SE.neg SE.int))) SA.nil))))) SS.nil))
  (SST.cons (S1T.ifs (ST.cmp (op_eqA hr.units) o_eq (SE.var 2) SE.int) (SST.cons (S1T.asg 5 (SET.op op_addA o_add (SET.repl (SE.var 3)) (SET.of SE.str)) rfl nd__law_spoil)
  (SST.of (SS.one (S1.ret (SE.ix ix_seq o_ix (SE.lst (SDA.cons (SE.op op_addA o_add SE.str (SE.var 3)) (SDA.cons (SE.op op_addA o_add (SE.var 3) SE.str) (SDA.cons (SE.var 5) SDA.nil)))) (SE.call (ok__law_take T) T.m__law_take (hr.mono (by decide)) rfl bx_takes (SA.cons (SE.var 0) (SA.cons SE.int SA.nil)))))))) (SST.of SS.nil))
  (SST.cons (S1T.of (S1.ifs (ST.cmp (op_eqA hr.units) o_eq (SE.var 2) SE.int) (SS.cons (S1.asg 6 (SE.op op_addA o_add (SE.met0 o_upper PySem.F.plainAttrs_str PySem.F.slot_str_upper PySem.F.type_str_upper mt_upper (SE.sl (SE.ix ix_seq o_ix (SE.var 4) SE.int) SO.none (SO.some SE.int))) (SE.sl (SE.ix ix_seq o_ix (SE.var 4) SE.int) (SO.some SE.int) SO.none)) rfl nd__law_spoil)
  (SS.cons (S1.asg 6 (SE.ix ix_seq o_ix (SE.lst (SDA.cons (SE.sl (SE.ix ix_seq o_ix (SE.var 4) SE.int) (SO.some SE.int) SO.none) (SDA.cons SE.str (SDA.cons (SE.var 6) SDA.nil)))) (SE.call (ok__law_take T) T.m__law_take (hr.mono (by decide)) rfl bx_takes (SA.cons (SE.var 0) (SA.cons SE.int SA.nil)))) rfl nd__law_spoil)
  (SS.one (S1.ret (SE.met o_join PySem.F.plainAttrs_str PySem.F.slot_str_join PySem.F.type_str_join mt_join SE.str (SA.cons (SE.op op_addA o_add (SE.lst (SDA.cons (SE.var 6) SDA.nil)) (SE.sl (SE.var 4) (SO.some SE.int) SO.none)) SA.nil)))))) SS.nil))
  (SST.cons (S1T.of (S1.ifs (ST.cmp (op_eqA hr.units) o_eq (SE.blt call_len o_len T.b_len PySem.boot_len (SA.cons (SE.var 1) SA.nil)) SE.int) (SS.one (S1.ret (SE.op op_addA o_add (SE.var 3) (SE.var 3)))) SS.nil))
  (SST.cons (S1T.ifs (SW.toT (SW.or (ST.cmp (op_eqA hr.units) o_eq (SE.call (ok__law_take T) T.m__law_take (hr.mono (by decide)) rfl bx_takes (SA.cons (SE.var 0) (SA.cons SE.int SA.nil))) SE.int) (SW.or1 (ST.cmp (op_eqA hr.units) o_eq (SE.ix ix_seq o_ix (SE.var 1) SE.int) SE.str)))) (SST.one (S1T.ret (SET.repl (SE.var 3)))) (SST.of SS.nil))
  (SST.of (SS.one (S1.ret (SE.met o_join PySem.F.plainAttrs_str PySem.F.slot_str_join PySem.F.type_str_join mt_join SE.str (SA.cons (SE.lc [8] rfl nd__law_spoil (SI.rng1 T.b_range (SA.cons (SE.blt call_len o_len T.b_len PySem.boot_len (SA.cons (SE.var 4) SA.nil)) SA.nil)) (blkOk_by (own := [("k", 8)]) (by first | rfl | kernel_rfl)) rfl (fun s H C cl fp => ⟨(SG.name 8 rfl nd__law_spoil), STs.nil, (SE.ix ix_seq o_ix (SE.var 4) (SE.op op_sub o_int (SE.op op_sub o_int (SE.blt call_len o_len T.b_len PySem.boot_len (SA.cons (SE.var 4) SA.nil)) SE.int) (SE.var 8)))⟩)) SA.nil))))))))))))))))
end K50
set_option Elab.async false
set_option linter.all false
set_option maxRecDepth 100000
set_option maxHeartbeats 4000000
namespace K50
open PySem L2 PySem.Spec PyProof.Rows Zed
variable {P : Program} {w : World} {K : PySem.W.Frag} {mg : Str → Option Value} {base : Heap} {Ad : AdT}
abbrev N__law_plain : List Str := ["rows", "row", "item"]
theorem nd__law_plain : (N__law_plain : List Str).Nodup := by decide +kernel
theorem sc__law_plain : FnScope N__law_plain ["rows"] (defScope s__law_plain) := ⟨rfl, rfl, rfl, nd__law_plain, rfl, by decide +kernel, by decide +kernel⟩
def b__law_plain : Stm := (seqS (forI (bName 1) (itE (fzE (var 0)) tupOf) (seqS (ifS (notT (tru (bltE (isiN ty_tab) (aCons (var 1) (aCons (cst (.ty "tuple")) aNil))))) (retS (cst (.bl false))) skip)
  (forI (bName 2) (itE (fzE (var 1)) tupOf) (ifS (orT (tru (bltE (isiN ty_tab) (aCons (var 2) (aCons (cst (.ty "bool")) aNil)))) (notT (tru (isiTE ty_tab (var 2) (dCons (cst (.ty "int")) (dCons (cst (.ty "str")) dNil)))))) (retS (cst (.bl false))) skip))))
  (retS (bltE (isiN ty_tab) (aCons (var 0) (aCons (cst (.ty "tuple")) aNil)))))
def d__law_plain : FDen := runF 1 3 (flg [true, false, false]) b__law_plain
theorem ok__law_plain (T : Tx P w K mg base Ad) : FnS P w K mg base 1 d__law_plain Ad.a__law_plain [] := fnS_of (N := N__law_plain) (ps := ["rows"]) (Fx := flg [true, false, false]) (d := b__law_plain) T.f__law_plain sc__law_plain fun cdv A outer s H E hr =>
  (SS.cons (S1.for bx_passes rfl (SI.tup (SE.var 0)) (SG.name 1 rfl nd__law_plain) (SS.cons (S1.ifs (ST.not (ST.tru (SE.blt call_isi (o_isi T.tyt) T.b_isinstance PyProof.Rows.boot_isinstance (SA.cons (SE.var 1) (SA.cons (SE.ty rfl T.b_tuple PyProof.Rows.Boot.«tuple») SA.nil))))) (SS.one (S1.ret SE.bl)) SS.nil)
  (SS.one (S1.for bx_passes rfl (SI.tup (SE.var 1)) (SG.name 2 rfl nd__law_plain) (SS.one (S1.ifs (SW.toT (SW.or (ST.tru (SE.blt call_isi (o_isi T.tyt) T.b_isinstance PyProof.Rows.boot_isinstance (SA.cons (SE.var 2) (SA.cons (SE.ty rfl T.b_bool PyProof.Rows.Boot.«bool») SA.nil)))) (SW.or1 (ST.not (ST.tru (SE.isiT T.tyt T.b_isinstance (SE.var 2) (SDA.cons (SE.ty rfl T.b_int PyProof.Rows.Boot.«int») (SDA.cons (SE.ty rfl T.b_str PyProof.Rows.Boot.«str») SDA.nil)))))))) (SS.one (S1.ret SE.bl)) SS.nil))))))
  (SS.one (S1.ret (SE.blt call_isi (o_isi T.tyt) T.b_isinstance PyProof.Rows.boot_isinstance (SA.cons (SE.var 0) (SA.cons (SE.ty rfl T.b_tuple PyProof.Rows.Boot.«tuple») SA.nil))))))
abbrev N__law_try : List Str := ["text", "e"]
theorem nd__law_try : (N__law_try : List Str).Nodup := by decide +kernel
theorem sc__law_try : FnScope N__law_try ["text"] (defScope s__law_try) := ⟨rfl, rfl, rfl, nd__law_try, rfl, by decide +kernel, by decide +kernel⟩
def b__law_try : Stm := (tryS (retS (tupE (dCons (cst (.str "let")) (dCons (cmE "Code" d_Code_read [] (aCons (var 0) aNil)) (dCons (cst (.int 0)) dNil))))) [⟨x_tab_BadRow, some 1, (retS (tupE (dCons (cst (.str "refused")) (dCons (cst (.str "BadRow")) (dCons (ifE (tru (isEE xc_tab (var 1) (cst (.gl "RowError")))) (excF "row" cx_row (var 1)) (un negD (cst (.int 1)))) dNil)))))⟩, ⟨x_tab_TooLarge, none, (retS (tupE (dCons (cst (.str "refused")) (dCons (cst (.str "TooLarge")) (dCons (cst (.int 0)) dNil)))))⟩])
def d__law_try : FDen := runF 1 2 (flg [true, false]) b__law_try
theorem ok__law_try (T : Tx P w K mg base Ad) : FnS P w K mg base 6 d__law_try Ad.a__law_try [] := fnS_of (N := N__law_try) (ps := ["text"]) (Fx := flg [true, false]) (d := b__law_try) T.f__law_try sc__law_try fun cdv A outer s H E hr =>
  (SS.one (S1.try rfl rfl nd__law_try rfl bx_takes (fun W pn xe tk hp => (SS.one (S1.ret (SE.tup (SDA.cons SE.str (SDA.cons (SE.cm (cm_Code_read T) (hr.mono (by decide)) rfl tk (SA.cons (SE.var 0) SA.nil)) (SDA.cons SE.int SDA.nil))))))) (SH.named (i := 1) rfl rfl rfl ⟨rfl, by decide, .inl (T.x_BadRow).choose_spec.1⟩ (T.x_BadRow).choose_spec.2 (fun a oe pn hfx => (SS.one (S1.ret (SE.tup (SDA.cons SE.str (SDA.cons SE.str (SDA.cons (SE.ife (ST.tru (SE.isE T.xct T.b_isinstance hfx (SE.var 1) (SE.gl T.m_RowError))) (SE.excF T.xf_row hfx (SE.var 1)) (SE.neg SE.int)) SDA.nil))))))) (SH.cons ⟨rfl, by decide, .inl (T.x_TooLarge).choose_spec.1⟩ (T.x_TooLarge).choose_spec.2 (fun a oe pn hfx => (SS.one (S1.ret (SE.tup (SDA.cons SE.str (SDA.cons SE.str (SDA.cons SE.int SDA.nil))))))) SH.nil))))
abbrev N__law_base : List Str := ["text", "e"]
theorem nd__law_base : (N__law_base : List Str).Nodup := by decide +kernel
theorem sc__law_base : FnScope N__law_base ["text"] (defScope s__law_base) := ⟨rfl, rfl, rfl, nd__law_base, rfl, by decide +kernel, by decide +kernel⟩
def b__law_base : Stm := (seqS (tryS (dropS (cmE "Code" d_Code_read [] (aCons (var 0) aNil))) [⟨x_tab_RightatlastError, some 1, (retS (isEE xc_tab (var 1) (cst (.ty "ValueError"))))⟩])
  (retS (cst (.bl false))))
def d__law_base : FDen := runF 1 2 (flg [true, false]) b__law_base
theorem ok__law_base (T : Tx P w K mg base Ad) : FnS P w K mg base 6 d__law_base Ad.a__law_base [] := fnS_of (N := N__law_base) (ps := ["text"]) (Fx := flg [true, false]) (d := b__law_base) T.f__law_base sc__law_base fun cdv A outer s H E hr =>
  (SS.cons (S1.try rfl rfl nd__law_base rfl bx_takes (fun W pn xe tk hp => (SS.one (S1.drop (SE.cm (cm_Code_read T) (hr.mono (by decide)) rfl tk (SA.cons (SE.var 0) SA.nil))))) (SH.named (i := 1) rfl rfl rfl ⟨rfl, by decide, .inl (T.x_RightatlastError).choose_spec.1⟩ (T.x_RightatlastError).choose_spec.2 (fun a oe pn hfx => (SS.one (S1.ret (SE.isE T.xct T.b_isinstance hfx (SE.var 1) (SE.ty rfl T.b_ValueError PyProof.Rows.Boot.«ValueError»))))) SH.nil))
  (SS.one (S1.ret SE.bl)))
abbrev N__law_refused : List Str := ["text", "word", "row", "told"]
theorem nd__law_refused : (N__law_refused : List Str).Nodup := by decide +kernel
theorem sc__law_refused : FnScope N__law_refused ["text", "word", "row"] (defScope s__law_refused) := ⟨rfl, rfl, rfl, nd__law_refused, rfl, by decide +kernel, by decide +kernel⟩
def b__law_refused : Stm := (seqS (asgS 3 (callE d__law_try [] (aCons (var 0) aNil)))
  (seqS (ifS (orT (tst (bin neD (bin ixD (var 3) (cst (.int 0))) (cst (.str "refused")))) (tst (bin neD (bin ixD (var 3) (cst (.int 1))) (var 1)))) (retS (cst (.bl false))) skip)
  (seqS (ifS (orT (notT (tru (bltE (isiN ty_tab) (aCons (bin ixD (var 3) (cst (.int 2))) (aCons (cst (.ty "int")) aNil))))) (tru (bltE (isiN ty_tab) (aCons (bin ixD (var 3) (cst (.int 2))) (aCons (cst (.ty "bool")) aNil))))) (retS (cst (.bl false))) skip)
  (retS (andE (bin eqD (bin ixD (var 3) (cst (.int 2))) (var 2)) (callE d__law_base [] (aCons (var 0) aNil)))))))
def d__law_refused : FDen := runF 3 4 (flg [true, true, true, false]) b__law_refused
theorem ok__law_refused (T : Tx P w K mg base Ad) : FnS P w K mg base 7 d__law_refused Ad.a__law_refused [] := fnS_of (N := N__law_refused) (ps := ["text", "word", "row"]) (Fx := flg [true, true, true, false]) (d := b__law_refused) T.f__law_refused sc__law_refused fun cdv A outer s H E hr =>
  (SS.cons (S1.asg 3 (SE.call (ok__law_try T) T.m__law_try (hr.mono (by decide)) rfl bx_takes (SA.cons (SE.var 0) SA.nil)) rfl nd__law_refused)
  (SS.cons (S1.ifs (SW.toT (SW.or (ST.cmp (op_neA hr.units) o_ne (SE.ix ix_seq o_ix (SE.var 3) SE.int) SE.str) (SW.or1 (ST.cmp (op_neA hr.units) o_ne (SE.ix ix_seq o_ix (SE.var 3) SE.int) (SE.var 1))))) (SS.one (S1.ret SE.bl)) SS.nil)
  (SS.cons (S1.ifs (SW.toT (SW.or (ST.not (ST.tru (SE.blt call_isi (o_isi T.tyt) T.b_isinstance PyProof.Rows.boot_isinstance (SA.cons (SE.ix ix_seq o_ix (SE.var 3) SE.int) (SA.cons (SE.ty rfl T.b_int PyProof.Rows.Boot.«int») SA.nil))))) (SW.or1 (ST.tru (SE.blt call_isi (o_isi T.tyt) T.b_isinstance PyProof.Rows.boot_isinstance (SA.cons (SE.ix ix_seq o_ix (SE.var 3) SE.int) (SA.cons (SE.ty rfl T.b_bool PyProof.Rows.Boot.«bool») SA.nil))))))) (SS.one (S1.ret SE.bl)) SS.nil)
  (SS.one (S1.ret (SE.and (SE.cmp (op_eqA hr.units) o_eq (SE.ix ix_seq o_ix (SE.var 3) SE.int) (SE.var 2)) (SE.one (SE.call (ok__law_base T) T.m__law_base (hr.mono (by decide)) rfl bx_takes (SA.cons (SE.var 0) SA.nil)))))))))
abbrev N__law_right : List Str := ["text", "rows", "told", "code", "back", "other", "row"]
theorem nd__law_right : (N__law_right : List Str).Nodup := by decide +kernel
theorem sc__law_right : FnScope N__law_right ["text", "rows"] (defScope s__law_right) := ⟨rfl, rfl, rfl, nd__law_right, rfl, by decide +kernel, by decide +kernel⟩
def b__law_right : Stm := (seqS (asgS 2 (callE d__law_try [] (aCons (var 0) aNil)))
  (seqS (ifS (orT (tst (bin neD (bin ixD (var 2) (cst (.int 0))) (cst (.str "let")))) (notT (tru (bltE (isiN ty_tab) (aCons (bin ixD (var 2) (cst (.int 1))) (aCons (cst (.gl "Code")) aNil)))))) (retS (cst (.bl false))) skip)
  (seqS (asgS 3 (bin ixD (var 2) (cst (.int 1))))
  (seqS (ifS (orT (notT (tru (callE d__law_plain [] (aCons (fldE "rows" cf_rows (var 3)) aNil)))) (tst (bin neD (bltE listN (aCons (fldE "rows" cf_rows (var 3)) aNil)) (var 1)))) (retS (cst (.bl false))) skip)
  (seqS (ifS (orT (tst (bin neD (fldE "text" cf_text (var 3)) (var 0))) (orT (tst (bin neD (dunE o_strt strOk strN (dCons (var 3) dNil)) (var 0))) (tst (bin neD (dunE o_lent lenOk lenN (dCons (var 3) dNil)) (bltE lenN (aCons (var 1) aNil)))))) (retS (cst (.bl false))) skip)
  (seqS (asgS 4 (cmE "Code" d_Code_read [] (aCons (fldE "text" cf_text (var 3)) aNil)))
  (seqS (ifS (orT (notT (tst (eqOE o_eqt ty_tab (var 4) (var 3)))) (tst (eqOE o_eqt ty_tab (var 4) (var 0)))) (retS (cst (.bl false))) skip)
  (seqS (asgS 5 (cmE "Code" d_Code_read [] (aCons (metE "str" joinM (cst (.str "\n")) (aCons (bin addD (compI [6] (bName 6) (itE (fzE (var 1)) seqOf) yesT (callE d__law_line [] (aCons (var 6) aNil))) (lstE (dCons (cst (.str "stop")) dNil))) aNil)) aNil)))
  (retS (andE (notE (eqOE o_eqt ty_tab (var 5) (var 3))) (bin eqD (dunE o_lent lenOk lenN (dCons (var 5) dNil)) (bin addD (bltE lenN (aCons (var 1) aNil)) (cst (.int 1))))))))))))))
def d__law_right : FDen := runF 2 7 (flg [true, true, false, false, false, false, true]) b__law_right
theorem ok__law_right (T : Tx P w K mg base Ad) : FnS P w K mg base 7 d__law_right Ad.a__law_right [] := fnS_of (N := N__law_right) (ps := ["text", "rows"]) (Fx := flg [true, true, false, false, false, false, true]) (d := b__law_right) T.f__law_right sc__law_right fun cdv A outer s H E hr =>
  (SS.cons (S1.asg 2 (SE.call (ok__law_try T) T.m__law_try (hr.mono (by decide)) rfl bx_takes (SA.cons (SE.var 0) SA.nil)) rfl nd__law_right)
  (SS.cons (S1.ifs (SW.toT (SW.or (ST.cmp (op_neA hr.units) o_ne (SE.ix ix_seq o_ix (SE.var 2) SE.int) SE.str) (SW.or1 (ST.not (ST.tru (SE.blt call_isi (o_isi T.tyt) T.b_isinstance PyProof.Rows.boot_isinstance (SA.cons (SE.ix ix_seq o_ix (SE.var 2) SE.int) (SA.cons (SE.gl T.m_Code) SA.nil)))))))) (SS.one (S1.ret SE.bl)) SS.nil)
  (SS.cons (S1.asg 3 (SE.ix ix_seq o_ix (SE.var 2) SE.int) rfl nd__law_right)
  (SS.cons (S1.ifs (SW.toT (SW.or (ST.not (ST.tru (SE.call (ok__law_plain T) T.m__law_plain (hr.mono (by decide)) rfl bx_takes (SA.cons (SE.fld cf_rows T.hf_rows (SE.var 3)) SA.nil)))) (SW.or1 (ST.cmp (op_neA hr.units) o_ne (SE.blty call_list_of o_list T.b_list PyProof.Rows.Boot.«list» (SA.cons (SE.fld cf_rows T.hf_rows (SE.var 3)) SA.nil)) (SE.var 1))))) (SS.one (S1.ret SE.bl)) SS.nil)
  (SS.cons (S1.ifs (SW.toT (SW.or (ST.cmp (op_neA hr.units) o_ne (SE.fld cf_text T.hf_text (SE.var 3)) (SE.var 0)) (SW.or (ST.cmp (op_neA hr.units) o_ne (SE.strO (dun_str T) (hr.mono (by decide)) rfl T.b_str (SDA.cons (SE.var 3) SDA.nil)) (SE.var 0)) (SW.or1 (ST.cmp (op_neA hr.units) o_ne (SE.lenO (dun_len T) (hr.mono (by decide)) rfl T.b_len (SDA.cons (SE.var 3) SDA.nil)) (SE.blt call_len o_len T.b_len PySem.boot_len (SA.cons (SE.var 1) SA.nil))))))) (SS.one (S1.ret SE.bl)) SS.nil)
  (SS.cons (S1.asg 4 (SE.cm (cm_Code_read T) (hr.mono (by decide)) rfl bx_takes (SA.cons (SE.fld cf_text T.hf_text (SE.var 3)) SA.nil)) rfl nd__law_right)
  (SS.cons (S1.ifs (SW.toT (SW.or (ST.not (ST.eqO (dun_eq T) T.eqt (hr.mono (by decide)) rfl (SE.var 4) (SE.var 3))) (SW.or1 (ST.eqO (dun_eq T) T.eqt (hr.mono (by decide)) rfl (SE.var 4) (SE.var 0))))) (SS.one (S1.ret SE.bl)) SS.nil)
  (SS.cons (S1.asg 5 (SE.cm (cm_Code_read T) (hr.mono (by decide)) rfl bx_takes (SA.cons (SE.met o_join PySem.F.plainAttrs_str PySem.F.slot_str_join PySem.F.type_str_join mt_join SE.str (SA.cons (SE.op op_addA o_add (SE.lc [6] rfl nd__law_right (SI.list (SE.var 1)) (blkOk_by (own := [("row", 6)]) (by first | rfl | kernel_rfl)) rfl (fun s H C cl fp => ⟨(SG.name 6 rfl nd__law_right), STs.nil, (SE.call (ok__law_line T) T.m__law_line (hr.mono (by decide)) rfl tk0 (SA.cons (SE.var 6) SA.nil))⟩)) (SE.lst (SDA.cons SE.str SDA.nil))) SA.nil)) SA.nil)) rfl nd__law_right)
  (SS.one (S1.ret (SE.and (SE.not (SE.eqO (dun_eq T) T.eqt (hr.mono (by decide)) rfl (SE.var 5) (SE.var 3))) (SE.one (SE.cmp (op_eqA hr.units) o_eq (SE.lenO (dun_len T) (hr.mono (by decide)) rfl T.b_len (SDA.cons (SE.var 5) SDA.nil)) (SE.op op_addA o_add (SE.blt call_len o_len T.b_len PySem.boot_len (SA.cons (SE.var 1) SA.nil)) SE.int))))))))))))))
abbrev N__law_large : List Str := ["bag", "kind", "lines", "code", "k"]
theorem nd__law_large : (N__law_large : List Str).Nodup := by decide +kernel
theorem sc__law_large : FnScope N__law_large ["bag"] (defScope s__law_large) := ⟨rfl, rfl, rfl, nd__law_large, rfl, by decide +kernel, by decide +kernel⟩
def b__law_large : Stm := (seqS (asgS 1 (callE d__law_take [] (aCons (var 0) (aCons (cst (.int 64)) aNil))))
  (seqS (ifS (tst (bin (cmpD fun i j => decide (i < j)) (var 1) (cst (.int 61)))) (retS (cst (.bl true))) skip)
  (seqS (asgS 2 (compI [4] (bName 4) (itE (aCons (cst (.int 40000)) aNil) rng1) yesT (cst (.str "stop"))))
  (seqS (ifS (tst (bin eqD (var 1) (cst (.int 61)))) (seqS (asgS 3 (cmE "Code" d_Code_read [] (aCons (metE "str" joinM (cst (.str "\n")) (aCons (var 2) aNil)) aNil)))
  (retS (andE (bin eqD (dunE o_lent lenOk lenN (dCons (var 3) dNil)) (cst (.int 40000))) (bin eqD (bin ixD (fldE "rows" cf_rows (var 3)) (cst (.int 39999))) (tupE (dCons (cst (.str "stop")) dNil)))))) skip)
  (seqS (dropS (mutE appendU (var 2) (dCons (cst (.str "end")) dNil)))
  (seqS (ifS (tst (bin eqD (var 1) (cst (.int 62)))) (subS (var 2) (cst (.int 0)) (cst (.str "push"))) skip)
  (retS (callE d__law_refused [] (aCons (metE "str" joinM (cst (.str "\n")) (aCons (var 2) aNil)) (aCons (cst (.str "TooLarge")) (aCons (cst (.int 0)) aNil)))))))))))
def d__law_large : FDen := runF 1 5 (flg [true, false, false, false, true]) b__law_large
theorem ok__law_large (T : Tx P w K mg base Ad) : FnS P w K mg base 8 d__law_large Ad.a__law_large [] := fnS_of (N := N__law_large) (ps := ["bag"]) (Fx := flg [true, false, false, false, true]) (d := b__law_large) T.f__law_large sc__law_large fun cdv A outer s H E hr =>
  (SS.cons (S1.asg 1 (SE.call (ok__law_take T) T.m__law_take (hr.mono (by decide)) rfl bx_takes (SA.cons (SE.var 0) (SA.cons SE.int SA.nil))) rfl nd__law_large)
  (SS.cons (S1.ifs (ST.cmp op_lt o_cmp (SE.var 1) SE.int) (SS.one (S1.ret SE.bl)) SS.nil)
  (SS.cons (S1.asgLc 2 [4] rfl nd__law_large (SI.rng1 T.b_range (SA.cons SE.int SA.nil)) (blkOk_by (own := [("k", 4)]) (by first | rfl | kernel_rfl)) rfl (fun s H C cl fp => ⟨(SG.name 4 rfl nd__law_large), STs.nil, SE.str⟩) (sw_true rfl rfl rfl (by first | rfl | kernel_rfl)))
  (SS.cons (S1.ifs (ST.cmp (op_eqA hr.units) o_eq (SE.var 1) SE.int) (SS.cons (S1.asg 3 (SE.cm (cm_Code_read T) (hr.mono (by decide)) rfl bx_takes (SA.cons (SE.met o_join PySem.F.plainAttrs_str PySem.F.slot_str_join PySem.F.type_str_join mt_join SE.str (SA.cons (SE.var 2) SA.nil)) SA.nil)) rfl nd__law_large)
  (SS.one (S1.ret (SE.and (SE.cmp (op_eqA hr.units) o_eq (SE.lenO (dun_len T) (hr.mono (by decide)) rfl T.b_len (SDA.cons (SE.var 3) SDA.nil)) SE.int) (SE.one (SE.cmp (op_eqA hr.units) o_eq (SE.ix ix_seq o_ix (SE.fld cf_rows T.hf_rows (SE.var 3)) SE.int) (SE.tup (SDA.cons SE.str SDA.nil)))))))) SS.nil)
  (SS.cons (S1.drop (SE.mut u_append PySem.F.slot_list_append PySem.F.type_list_append mt_append (SE.var 2) (SDA.cons SE.str SDA.nil)))
  (SS.cons (S1.ifs (ST.cmp (op_eqA hr.units) o_eq (SE.var 1) SE.int) (SS.one (S1.sub (SE.var 2) SE.int SE.str)) SS.nil)
  (SS.one (S1.ret (SE.call (ok__law_refused T) T.m__law_refused (hr.mono (by decide)) rfl bx_takes (SA.cons (SE.met o_join PySem.F.plainAttrs_str PySem.F.slot_str_join PySem.F.type_str_join mt_join SE.str (SA.cons (SE.var 2) SA.nil)) (SA.cons SE.str (SA.cons SE.int SA.nil))))))))))))
abbrev N__law_spoilt : List Str := ["bag", "rows", "turn", "lines", "kind", "at", "by", "row"]
theorem nd__law_spoilt : (N__law_spoilt : List Str).Nodup := by decide +kernel
theorem sc__law_spoilt : FnScope N__law_spoilt ["bag", "rows", "turn"] (defScope s__law_spoilt) := ⟨rfl, rfl, rfl, nd__law_spoilt, rfl, by decide +kernel, by decide +kernel⟩
def b__law_spoilt : Stm := (seqS (asgS 3 (compI [7] (bName 7) (itE (fzE (var 1)) seqOf) yesT (callE d__law_line [] (aCons (var 7) aNil))))
  (seqS (asgS 4 (bin modD (bltE intN (aCons (bin addD (callE d__law_take [] (aCons (var 0) (aCons (cst (.int 4)) aNil))) (var 2)) aNil)) (cst (.int 4))))
  (seqS (ifS (notT (tru (var 1))) (retS (lstE (dCons (lstE (dCons (cst (.str "")) (dCons (cst (.str "")) dNil))) (dCons (cst (.int 1)) dNil)))) skip)
  (seqS (asgS 5 (callE d__law_take [] (aCons (var 0) (aCons (bltE lenN (aCons (var 1) aNil)) aNil))))
  (seqS (asgS 6 (callE d__law_take [] (aCons (var 0) (aCons (bltE lenN (aCons (var 1) aNil)) aNil))))
  (seqS (ifS (tst (bin eqD (var 4) (cst (.int 2)))) (seqS (dropS (mutE insertU (var 3) (dCons (bin addD (var 5) (callE d__law_take [] (aCons (var 0) (aCons (cst (.int 2)) aNil)))) (dCons (cst (.str "")) dNil))))
  (retS (lstE (dCons (var 3) (dCons (bin addD (metE "list" indexM (var 3) (aCons (cst (.str "")) aNil)) (cst (.int 1))) dNil))))) skip)
  (seqS (ifS (tst (bin eqD (var 4) (cst (.int 3)))) (retS (lstE (dCons (bin addD (var 3) (lstE (dCons (cst (.str "")) dNil))) (dCons (bin addD (bltE lenN (aCons (var 3) aNil)) (cst (.int 1))) dNil)))) skip)
  (seqS (subS (var 3) (var 5) (callE d__law_spoil [] (aCons (var 0) (aCons (bin ixD (var 1) (var 5)) aNil))))
  (seqS (ifS (orT (tst (bin eqD (var 4) (cst (.int 0)))) (tst (bin eqD (var 6) (var 5)))) (retS (lstE (dCons (var 3) (dCons (bin addD (var 5) (cst (.int 1))) dNil)))) skip)
  (seqS (subS (var 3) (var 6) (callE d__law_spoil [] (aCons (var 0) (aCons (bin ixD (var 1) (var 6)) aNil))))
  (retS (lstE (dCons (var 3) (dCons (bin addD (bltE minN (aCons (var 5) (aCons (var 6) aNil))) (cst (.int 1))) dNil))))))))))))))
def d__law_spoilt : FDen := runF 3 8 (flg [true, true, true, false, false, false, false, true]) b__law_spoilt
theorem ok__law_spoilt (T : Tx P w K mg base Ad) : FnS P w K mg base 4 d__law_spoilt Ad.a__law_spoilt [] := fnS_of (N := N__law_spoilt) (ps := ["bag", "rows", "turn"]) (Fx := flg [true, true, true, false, false, false, false, true]) (d := b__law_spoilt) T.f__law_spoilt sc__law_spoilt fun cdv A outer s H E hr =>
  (SS.cons (S1.asgLc 3 [7] rfl nd__law_spoilt (SI.list (SE.var 1)) (blkOk_by (own := [("row", 7)]) (by first | rfl | kernel_rfl)) rfl (fun s H C cl fp => ⟨(SG.name 7 rfl nd__law_spoilt), STs.nil, (SE.call (ok__law_line T) T.m__law_line (hr.mono (by decide)) rfl tk0 (SA.cons (SE.var 7) SA.nil))⟩) (sw_true rfl rfl rfl (by first | rfl | kernel_rfl)))
  (SS.cons (S1.asg 4 (SE.op op_mod o_mod (SE.blty c_int o_int2 T.b_int PyProof.Rows.Boot.«int» (SA.cons (SE.op op_addA o_add (SE.call (ok__law_take T) T.m__law_take (hr.mono (by decide)) rfl bx_takes (SA.cons (SE.var 0) (SA.cons SE.int SA.nil))) (SE.var 2)) SA.nil)) SE.int) rfl nd__law_spoilt)
  (SS.cons (S1.ifs (ST.not (ST.tru (SE.var 1))) (SS.one (S1.ret (SE.lst (SDA.cons (SE.lst (SDA.cons SE.str (SDA.cons SE.str SDA.nil))) (SDA.cons SE.int SDA.nil))))) SS.nil)
  (SS.cons (S1.asg 5 (SE.call (ok__law_take T) T.m__law_take (hr.mono (by decide)) rfl bx_takes (SA.cons (SE.var 0) (SA.cons (SE.blt call_len o_len T.b_len PySem.boot_len (SA.cons (SE.var 1) SA.nil)) SA.nil))) rfl nd__law_spoilt)
  (SS.cons (S1.asg 6 (SE.call (ok__law_take T) T.m__law_take (hr.mono (by decide)) rfl bx_takes (SA.cons (SE.var 0) (SA.cons (SE.blt call_len o_len T.b_len PySem.boot_len (SA.cons (SE.var 1) SA.nil)) SA.nil))) rfl nd__law_spoilt)
  (SS.cons (S1.ifs (ST.cmp (op_eqA hr.units) o_eq (SE.var 4) SE.int) (SS.cons (S1.drop (SE.mut u_insert PySem.F.slot_list_insert PySem.F.type_list_insert mt_insert (SE.var 3) (SDA.cons (SE.op op_addA o_add (SE.var 5) (SE.call (ok__law_take T) T.m__law_take (hr.mono (by decide)) rfl bx_takes (SA.cons (SE.var 0) (SA.cons SE.int SA.nil)))) (SDA.cons SE.str SDA.nil))))
  (SS.one (S1.ret (SE.lst (SDA.cons (SE.var 3) (SDA.cons (SE.op op_addA o_add (SE.met o_index PySem.F.plainAttrs_list PySem.F.slot_list_index PySem.F.type_list_index mt_index (SE.var 3) (SA.cons SE.str SA.nil)) SE.int) SDA.nil)))))) SS.nil)
  (SS.cons (S1.ifs (ST.cmp (op_eqA hr.units) o_eq (SE.var 4) SE.int) (SS.one (S1.ret (SE.lst (SDA.cons (SE.op op_addA o_add (SE.var 3) (SE.lst (SDA.cons SE.str SDA.nil))) (SDA.cons (SE.op op_addA o_add (SE.blt call_len o_len T.b_len PySem.boot_len (SA.cons (SE.var 3) SA.nil)) SE.int) SDA.nil))))) SS.nil)
  (SS.cons (S1.sub (SE.var 3) (SE.var 5) (SE.call (ok__law_spoil T) T.m__law_spoil (hr.mono (by decide)) rfl bx_takes (SA.cons (SE.var 0) (SA.cons (SE.ix ix_seq o_ix (SE.var 1) (SE.var 5)) SA.nil))))
  (SS.cons (S1.ifs (SW.toT (SW.or (ST.cmp (op_eqA hr.units) o_eq (SE.var 4) SE.int) (SW.or1 (ST.cmp (op_eqA hr.units) o_eq (SE.var 6) (SE.var 5))))) (SS.one (S1.ret (SE.lst (SDA.cons (SE.var 3) (SDA.cons (SE.op op_addA o_add (SE.var 5) SE.int) SDA.nil))))) SS.nil)
  (SS.cons (S1.sub (SE.var 3) (SE.var 6) (SE.call (ok__law_spoil T) T.m__law_spoil (hr.mono (by decide)) rfl bx_takes (SA.cons (SE.var 0) (SA.cons (SE.ix ix_seq o_ix (SE.var 1) (SE.var 6)) SA.nil))))
  (SS.one (S1.ret (SE.lst (SDA.cons (SE.var 3) (SDA.cons (SE.op op_addA o_add (SE.blt (call_min2 rfl) o_min T.b_min PyProof.Rows.Boot.«min» (SA.cons (SE.var 5) (SA.cons (SE.var 6) SA.nil))) SE.int) SDA.nil)))))))))))))))
abbrev N_law : List Str := ["script", "bag", "rows", "k", "text", "turn", "bad", "row"]
theorem nd_law : (N_law : List Str).Nodup := by decide +kernel
theorem sc_law : FnScope N_law ["script"] (defScope s_law) := ⟨rfl, rfl, rfl, nd_law, rfl, by decide +kernel, by decide +kernel⟩
def b_law : Stm := (seqS (asgS 1 (callE d__law_purse [] (aCons (var 0) aNil)))
  (seqS (asgS 2 (lstE dNil))
  (seqS (forI (bName 3) (itE (aCons (bin modD (bltE intN (aCons (bin addD (callE d__law_take [] (aCons (var 1) (aCons (cst (.int 14)) aNil))) (cst (.int 3))) aNil)) (cst (.int 14))) aNil) rng1) (dropS (mutE appendU (var 2) (dCons (callE d__law_row [] (aCons (var 1) (aCons (bin modD (bltE intN (aCons (bin addD (callE d__law_take [] (aCons (var 1) (aCons (cst (.int 19)) aNil))) (bin mulD (cst (.int 5)) (var 3))) aNil)) (cst (.int 19))) aNil))) dNil))))
  (seqS (asgS 4 (metE "str" joinM (cst (.str "\n")) (aCons (compI [7] (bName 7) (itE (fzE (var 2)) seqOf) yesT (callE d__law_line [] (aCons (var 7) aNil))) aNil)))
  (seqS (ifS (notT (tru (callE d__law_right [] (aCons (var 4) (aCons (var 2) aNil))))) (retS (cst (.bl false))) skip)
  (seqS (forI (bName 5) (itE (aCons (cst (.int 3)) aNil) rng1) (seqS (asgS 6 (callE d__law_spoilt [] (aCons (var 1) (aCons (var 2) (aCons (var 5) aNil)))))
  (seqS (ifS (notT (tru (callE d__law_refused [] (aCons (metE "str" joinM (cst (.str "\n")) (aCons (bin ixD (var 6) (cst (.int 0))) aNil)) (aCons (cst (.str "BadRow")) (aCons (bin ixD (var 6) (cst (.int 1))) aNil)))))) (retS (cst (.bl false))) skip)
  (ifS (tst (bin neD (fldE "text" cf_text (cmE "Code" d_Code_read [] (aCons (var 4) aNil))) (var 4))) (retS (cst (.bl false))) skip))))
  (retS (callE d__law_large [] (aCons (var 1) aNil)))))))))
def d_law : FDen := runF 1 8 (flg [true, false, false, false, false, false, false, true]) b_law
theorem ok_law (T : Tx P w K mg base Ad) : FnS P w K mg base 9 d_law Ad.a_law [] := fnS_of (N := N_law) (ps := ["script"]) (Fx := flg [true, false, false, false, false, false, false, true]) (d := b_law) T.f_law sc_law fun cdv A outer s H E hr =>
  (SS.cons (S1.asg 1 (SE.call (ok__law_purse T) T.m__law_purse (hr.mono (by decide)) rfl bx_takes (SA.cons (SE.var 0) SA.nil)) rfl nd_law)
  (SS.cons (S1.asg 2 (SE.lst SDA.nil) rfl nd_law)
  (SS.cons (S1.for bx_passes rfl (SI.rng1 T.b_range (SA.cons (SE.op op_mod o_mod (SE.blty c_int o_int2 T.b_int PyProof.Rows.Boot.«int» (SA.cons (SE.op op_addA o_add (SE.call (ok__law_take T) T.m__law_take (hr.mono (by decide)) rfl bx_takes (SA.cons (SE.var 1) (SA.cons SE.int SA.nil))) SE.int) SA.nil)) SE.int) SA.nil)) (SG.name 3 rfl nd_law) (SS.one (S1.drop (SE.mut u_append PySem.F.slot_list_append PySem.F.type_list_append mt_append (SE.var 2) (SDA.cons (SE.call (ok__law_row T) T.m__law_row (hr.mono (by decide)) rfl bx_takes (SA.cons (SE.var 1) (SA.cons (SE.op op_mod o_mod (SE.blty c_int o_int2 T.b_int PyProof.Rows.Boot.«int» (SA.cons (SE.op op_addA o_add (SE.call (ok__law_take T) T.m__law_take (hr.mono (by decide)) rfl bx_takes (SA.cons (SE.var 1) (SA.cons SE.int SA.nil))) (SE.op op_mulA o_mul SE.int (SE.var 3))) SA.nil)) SE.int) SA.nil))) SDA.nil)))))
  (SS.cons (S1.asg 4 (SE.met o_join PySem.F.plainAttrs_str PySem.F.slot_str_join PySem.F.type_str_join mt_join SE.str (SA.cons (SE.lc [7] rfl nd_law (SI.list (SE.var 2)) (blkOk_by (own := [("row", 7)]) (by first | rfl | kernel_rfl)) rfl (fun s H C cl fp => ⟨(SG.name 7 rfl nd_law), STs.nil, (SE.call (ok__law_line T) T.m__law_line (hr.mono (by decide)) rfl tk0 (SA.cons (SE.var 7) SA.nil))⟩)) SA.nil)) rfl nd_law)
  (SS.cons (S1.ifs (ST.not (ST.tru (SE.call (ok__law_right T) T.m__law_right (hr.mono (by decide)) rfl bx_takes (SA.cons (SE.var 4) (SA.cons (SE.var 2) SA.nil))))) (SS.one (S1.ret SE.bl)) SS.nil)
  (SS.cons (S1.for bx_passes rfl (SI.rng1 T.b_range (SA.cons SE.int SA.nil)) (SG.name 5 rfl nd_law) (SS.cons (S1.asg 6 (SE.call (ok__law_spoilt T) T.m__law_spoilt (hr.mono (by decide)) rfl bx_takes (SA.cons (SE.var 1) (SA.cons (SE.var 2) (SA.cons (SE.var 5) SA.nil)))) rfl nd_law)
  (SS.cons (S1.ifs (ST.not (ST.tru (SE.call (ok__law_refused T) T.m__law_refused (hr.mono (by decide)) rfl bx_takes (SA.cons (SE.met o_join PySem.F.plainAttrs_str PySem.F.slot_str_join PySem.F.type_str_join mt_join SE.str (SA.cons (SE.ix ix_seq o_ix (SE.var 6) SE.int) SA.nil)) (SA.cons SE.str (SA.cons (SE.ix ix_seq o_ix (SE.var 6) SE.int) SA.nil)))))) (SS.one (S1.ret SE.bl)) SS.nil)
  (SS.one (S1.ifs (ST.cmp (op_neA hr.units) o_ne (SE.fld cf_text T.hf_text (SE.cm (cm_Code_read T) (hr.mono (by decide)) rfl bx_takes (SA.cons (SE.var 4) SA.nil))) (SE.var 4)) (SS.one (S1.ret SE.bl)) SS.nil)))))
  (SS.one (S1.ret (SE.call (ok__law_large T) T.m__law_large (hr.mono (by decide)) rfl bx_takes (SA.cons (SE.var 1) SA.nil))))))))))
end K50
set_option Elab.async false
set_option linter.all false
set_option maxRecDepth 100000
set_option maxHeartbeats 4000000
namespace Zed
open PySem L2 PySem.Spec PyProof.Rows NdefX
/-- a call that leaves the parameters at the end to the defaults -/
theorem binds_d {K : PySem.W.Frag} {fd : FuncData} {ps : List Str} {T : Addr} {o : Obj} {its : Array Value} {ds : List Value} {m : Nat} (n : Nat) (lT : K.lookup T = some o) (oT : o.data = .seq its m) (hn : n + ds.length = ps.length)
    (h : ∀ us : List Value, us.length = n → ∃ k, bindArgs fd ⟨us, []⟩ = seqItems? (.ref T) >>= k ∧ k (some its) = pure (ps.zip (us ++ ds))) : L2.Binds K fd ps ds := fun s us X hl => by
  obtain ⟨k, e1, e2⟩ := h us (by rw [List.length_append] at hl; omega)
  refine BindsTo.of_looks fun M => ?_
  rw [e1]
  exact looks_items X lT oT (.of_pure e2)
end Zed
namespace K50
open PySem L2 PySem.Spec PyProof.Rows NdefX Zed
variable {P : Program} {w : World} {K : PySem.W.Frag} {mg : Str → Option Value} {base : Heap}
abbrev s_TooLarge : Stmt := inClass (top 2) 0
abbrev s_RowError : Stmt := inClass (top 3) 0
abbrev s_BadRow : Stmt := inClass (top 4) 0
abbrev ar_of (s : Stmt) : Arg := ((defArgs s).posonlyargs ++ (defArgs s).args).headD ⟨"", none, ⟨0, 0, 0, 0⟩⟩
abbrev nf (q : Str) (s : Stmt) (cc c : Addr) : NF := ⟨"__init__", q, defArgs s, defBody s, defScope s, [("__class__", cc)], c⟩
/-- an __init__ as the top has left it -/
structure IniS (P : Program) (K : PySem.W.Frag) (mg : Str → Option Value) (q : Str) (s : Stmt) (f cc c D : Addr) (dV kV doc pm ct : Value) (an : Option Addr) : Prop where
  lk : ∃ oc od osl, K.lookup f = some ⟨oc, od, .func (PySem.W.fnX "__init__" q (defArgs s) (defBody s) (defScope s) [("__class__", cc)] dV kV doc pm an (.ref c) ct), osl⟩
  code : PySem.W.codeIn K (.ref c) q = true
  ty : PySem.W.typeIn K (.ref f) = some (.type "function")
  hc : ∃ ccl cdd vs ccs file tf, K.lookup c = some ⟨ccl, cdd, .fields vs, ccs⟩ ∧ (vs : Array Value)[2]? = some (.str file tf) ∧ ((P.main.file : Str) == file) = true
  cell : ∃ cl cld csl, K.lookup cc = some ⟨cl, cld, .cell (some (.ref D)), csl⟩
  hD : ∃ cdD, PySem.W.clsIn K D = some cdD
theorem IniS.sup {q : Str} {s : Stmt} {f cc c D : Addr} {dV kV doc pm ct : Value} {an : Option Addr} {N ps : List Str} (I : IniS P K mg q s f cc c D dV kV doc pm ct an) (opq : PySem.W.nsIn K cStatics "thirdparty.any" = some none) (su : mg "super" = none) (tp : (P.main.scope.names.lookup ("super" : Str)).isSome = false)
    (hn : nscB N ps ["__class__"] (defScope s) = true) (har : ((defArgs s).posonlyargs ++ (defArgs s).args).head? = some (ar_of s)) (ks : (defScope s).names.lookup ("super" : Str) = some .globalImplicit) (ka : (defScope s).names.lookup (ar_of s).arg = some .local) (N0 : N[0]? = some (ar_of s).arg) :
    SupFn P K mg (nf q s cc c) f cc D (ar_of s) (PySem.W.fnX "__init__" q (defArgs s) (defBody s) (defScope s) [("__class__", cc)] dV kV doc pm an (.ref c) ct) N ps := by
  obtain ⟨oc, od, osl, hl⟩ := I.lk
  exact ⟨⟨oc, od, osl, dV, kV, doc, pm, an, ct, rfl, hl⟩, rfl, I.code, nscope_by hn, ⟨⟨oc, od, _, osl, hl, har⟩, I.hc, I.cell, I.hD, opq, su, tp⟩, ks, ka, N0⟩
abbrev mTL : Str := "a number, size, depth, text or list is above its limit"
theorem fi_TooLarge {f cc c D T : Addr} {kV doc pm ct : Value} {an : Option Addr} (I : IniS P K mg "TooLarge.__init__" s_TooLarge f cc c D (.ref T) kV doc pm ct an) (opq : PySem.W.nsIn K cStatics "thirdparty.any" = some none) (su : mg "super" = none) (tp : (P.main.scope.names.lookup ("super" : Str)).isSome = false)
    (h : HeirK K D (.builtin "ValueError.__init__") [] D) : FnOk P w K mg base CX0 1 f (PySem.W.fnX "__init__" "TooLarge.__init__" (defArgs s_TooLarge) (defBody s_TooLarge) (defScope s_TooLarge) [("__class__", cc)] (.ref T) kV doc pm an (.ref c) ct) ["self", "message"] (SpE (c0 K mg) 1 (fun C => C = D) e_TooLarge) :=
  initV (N := ["self", "message", "__class__"]) (I.sup opq su tp (by decide +kernel) rfl rfl rfl rfl) rfl (fun _ => rfl) (fun _ => rfl) (fun _ => ⟨_, rfl⟩) (fun _ => rfl) (fun _ => rfl) (fun C e => by subst e; exact h) (fun A outer s H E hr => ⟨SDA.cons (SE.var 1) SDA.nil, fs_nil⟩) rfl
theorem fi_RowError {f cc c D T C2 : Addr} {kV doc pm ct : Value} {an : Option Addr} (I : IniS P K mg "RowError.__init__" s_RowError f cc c D (.ref T) kV doc pm ct an) (opq : PySem.W.nsIn K cStatics "thirdparty.any" = some none) (su : mg "super" = none) (tp : (P.main.scope.names.lookup ("super" : Str)).isSome = false) (bs : mg "str" = none)
    (h : HeirK K D (.builtin "ValueError.__init__") [("row", 0)] C2) : FnOk P w K mg base CX0 1 f (PySem.W.fnX "__init__" "RowError.__init__" (defArgs s_RowError) (defBody s_RowError) (defScope s_RowError) [("__class__", cc)] (.ref T) kV doc pm an (.ref c) ct) ["self", "row", "reason"] (SpE (c0 K mg) 2 (fun C => C = C2) e_RowError) :=
  initV (N := ["self", "row", "reason", "__class__"]) (I.sup opq su tp (by decide +kernel) rfl rfl rfl rfl) rfl (fun _ => rfl) (fun _ => rfl) (fun _ => ⟨_, rfl⟩) (fun _ => rfl) (fun _ => rfl) (fun C e => by subst e; exact h)
    (fun A outer s H E hr => ⟨SDA.cons (SE.op op_addA o_add (SE.op op_addA o_add (SE.op op_addA o_add SE.str (SE.blty c_str o_str bs PyProof.Rows.Boot.«str» (SA.cons (SE.var 1) SA.nil))) SE.str) (SE.var 2)) SDA.nil, fs_cons 0 fs_nil⟩) rfl
theorem bd_RowError {cc c T : Addr} {kV doc pm ct : Value} {an : Option Addr} {oT : Obj} {x : Value} {m : Nat} (lT : K.lookup T = some oT) (dT : oT.data = .seq #[x] m) : Binds K (PySem.W.fnX "__init__" "RowError.__init__" (defArgs s_RowError) (defBody s_RowError) (defScope s_RowError) [("__class__", cc)] (.ref T) kV doc pm an (.ref c) ct) ["self", "row", "reason"] [] :=
  binds_d (ds := []) 3 lT dT rfl fun us hl => match us, hl with | [_, _, _], _ => ⟨_, rfl, rfl⟩
theorem fi_BadRow {f cc c D T f2 cc2 c2 D2 : Addr} {dV kV doc pm ct kV2 doc2 pm2 ct2 : Value} {an an2 : Option Addr} {oT : Obj} {x : Value} {m : Nat} (lT : K.lookup T = some oT) (dT : oT.data = .seq #[x] m) (I : IniS P K mg "BadRow.__init__" s_BadRow f cc c D dV kV doc pm ct an) (I2 : IniS P K mg "RowError.__init__" s_RowError f2 cc2 c2 D2 (.ref T) kV2 doc2 pm2 ct2 an2) (opq : PySem.W.nsIn K cStatics "thirdparty.any" = some none) (su : mg "super" = none) (tp : (P.main.scope.names.lookup ("super" : Str)).isSome = false) (bs : mg "str" = none)
    (hf2 : PySem.W.fnIn K f2 = true) (h : HeirK K D (.ref f2) [] D) (h2 : HeirK K D2 (.builtin "ValueError.__init__") [("row", 0)] D) : FnOk P w K mg base CX0 2 f (PySem.W.fnX "__init__" "BadRow.__init__" (defArgs s_BadRow) (defBody s_BadRow) (defScope s_BadRow) [("__class__", cc)] dV kV doc pm an (.ref c) ct) ["self", "row"] (SpE (c0 K mg) 1 (fun C => C = D) e_BadRow) :=
  initO (N := ["self", "row", "__class__"]) (I.sup opq su tp (by decide +kernel) rfl rfl rfl rfl) rfl (fun _ => rfl) (fun _ => rfl) (fun _ => ⟨_, rfl⟩) (fun _ => rfl) (fun _ => rfl) I2.ty hf2 (fi_RowError I2 opq su tp bs h2) (bd_RowError lT dT) .nil (fun _ => .nil) (fun C e => by subst e; exact ⟨h, rfl⟩) (fun ds r e => errV_len ds r e)
    (fun A outer s H E hr => SDA.cons (SE.var 1) (SDA.cons SE.str SDA.nil)) rfl
theorem er_TooLarge {C f cc c T : Addr} {kV doc pm ct : Value} {an : Option Addr} {t : Tok} {oT : Obj} {m : Nat} (aC : mg "TooLarge" = some (.ref C)) (O : OexC K C) (iC : PySem.W.findIn K (.ref C) "__init__" = some (some (.ref f))) (I : IniS P K mg "TooLarge.__init__" s_TooLarge f cc c C (.ref T) kV doc pm ct an) (opq : PySem.W.nsIn K cStatics "thirdparty.any" = some none) (su : mg "super" = none) (tp : (P.main.scope.names.lookup ("super" : Str)).isSome = false)
    (h : HeirK K C (.builtin "ValueError.__init__") [] C) (lT : K.lookup T = some oT) (dT : oT.data = .seq #[.str mTL t] m) : ErrS P w K mg base 1 "TooLarge" e_TooLarge [.str mTL] :=
  ⟨⟨C, f, _, _, [.str mTL t], [.str mTL], 1, _, aC, O, iC, I.ty, fi_TooLarge I opq su tp h, binds_d (ds := [.str mTL t]) 1 lT dT rfl (fun us hl => match us, hl with | [_], _ => ⟨_, rfl, rfl⟩), .cons ⟨t, rfl⟩ .nil, fun _ => .cons .str .nil, rfl, fun ds r e => errV_len ds r e⟩⟩
theorem er_BadRow {C f cc c T f2 cc2 c2 D2 : Addr} {kV doc pm ct kV2 doc2 pm2 ct2 : Value} {an an2 : Option Addr} {oT : Obj} {x : Value} {m : Nat} (lT : K.lookup T = some oT) (dT : oT.data = .seq #[x] m) (aC : mg "BadRow" = some (.ref C)) (O : OexC K C) (iC : PySem.W.findIn K (.ref C) "__init__" = some (some (.ref f))) (I : IniS P K mg "BadRow.__init__" s_BadRow f cc c C .none kV doc pm ct an) (I2 : IniS P K mg "RowError.__init__" s_RowError f2 cc2 c2 D2 (.ref T) kV2 doc2 pm2 ct2 an2) (opq : PySem.W.nsIn K cStatics "thirdparty.any" = some none) (su : mg "super" = none) (tp : (P.main.scope.names.lookup ("super" : Str)).isSome = false) (bs : mg "str" = none)
    (hf2 : PySem.W.fnIn K f2 = true) (h : HeirK K C (.ref f2) [] C) (h2 : HeirK K D2 (.builtin "ValueError.__init__") [("row", 0)] C) : ErrS P w K mg base 2 "BadRow" e_BadRow [] :=
  ⟨⟨C, f, _, _, [], [], 1, _, aC, O, iC, I.ty, fi_BadRow lT dT I I2 opq su tp bs hf2 h h2, .all fun us hl => match us, hl with | [_, _], _ => rfl, .nil, fun _ => .nil, rfl, fun ds r e => errO_len ds r e⟩⟩
end K50
set_option Elab.async false
set_option linter.all false
set_option maxRecDepth 100000
set_option maxHeartbeats 4000000
namespace Zed
open PySem L2 PySem.Spec PyProof.Rows

section
variable {K : PySem.W.Frag} {mg : Str → Option Value}
def gK (K : PySem.W.Frag) (x : Str) : Option Value := match PySem.W.nsIn K mainGlobals x with
  | some (some v) => some v
  | _ => none
/-- mg is what the written part tells -/
def GOk (K : PySem.W.Frag) (mg : Str → Option Value) : Prop := (∀ x v, PySem.W.nsIn K mainGlobals x = some (some v) → mg x = some v) ∧ ∀ x, PySem.W.nsIn K mainGlobals x = some none → mg x = none
theorem gK_ns {x : Str} {v : Value} (h : gK K x = some v) : PySem.W.nsIn K mainGlobals x = some (some v) := by
  unfold gK at h
  split at h
  · cases h; assumption
  · cases h
theorem GOk.at {x : Str} {v : Value} (g : GOk K mg) (h : gK K x = some v) : mg x = some v := g.1 x v (gK_ns h)
def noneB (K : PySem.W.Frag) (l : List Str) : Bool := l.all fun x => decide (PySem.W.nsIn K mainGlobals x = some none)
theorem noneB_ok (g : GOk K mg) {l : List Str} (h : noneB K l = true) : ∀ x ∈ l, mg x = none := fun x hx => g.2 x (of_decide_eq_true (List.all_eq_true.mp h x hx))
def atB (K : PySem.W.Frag) (l : List (Str × Addr)) : Bool := l.all fun p => decide (PySem.W.nsIn K mainGlobals p.1 = some (some (.ref p.2)))
theorem atB_ok (g : GOk K mg) {l : List (Str × Addr)} (h : atB K l = true) : ∀ p ∈ l, mg p.1 = some (.ref p.2) := fun p hp => g.1 _ _ (of_decide_eq_true (List.all_eq_true.mp h p hp))
def glbB (K : PySem.W.Frag) (x : Str) (d : D) : Bool := match gK K x with
  | some u => repK K (fun x => PySem.W.nsIn K mainGlobals x) u d
  | none => false
theorem glbB_ok (g : GOk K mg) {x : Str} {d : D} (h : glbB K x d = true) : GlbS K mg x d := by
  unfold glbB at h
  split at h
  · rename_i u q
    obtain ⟨v, h1, h2⟩ := repK_ok (mg := mg) g.1 d u h
    exact ⟨u, v, g.at q, h1, h2⟩
  · cases h
def clsB (K : PySem.W.Frag) (C : Addr) : Bool := PySem.W.plainGet K C Str.empty && (PySem.W.hasDictIn K C && (PySem.W.plainOver K C && decide (PySem.W.findIn K (.ref C) "__setattr__" = some (some (.builtin "object.__setattr__")))))
theorem clsB_ok {C : Addr} (h : clsB K C = true) : Cls K C := by
  unfold clsB at h
  simp only [Bool.and_eq_true, decide_eq_true_eq] at h
  exact ⟨h.1, h.2.1, h.2.2.1, h.2.2.2⟩
def hasFB (K : PySem.W.Frag) (f : Str) (cs : List Str) : Bool := cs.all fun x => match gK K x with
  | some (.ref C) => clsB K C && decide (PySem.W.findIn K (.ref C) f = some none)
  | _ => false
theorem hasFB_ok (g : GOk K mg) {f : Str} {cs : List Str} (h : hasFB K f cs = true) : HasF (c0 K mg) f cs := fun x hx C hC => by
  have h := List.all_eq_true.mp h x hx
  split at h
  · rename_i C' q
    have z := (g.at q).symm.trans (show mg x = some (.ref C) from hC)
    cases z
    rw [Bool.and_eq_true] at h
    have h2 := of_decide_eq_true h.2
    exact ⟨clsB_ok h.1, h2⟩
  · cases h
def xfHB (K : PySem.W.Frag) (f : Str) (cs : List Str) : Bool := cs.all fun x => match gK K x with
  | some (.ref C) => xfB K C && decide (PySem.W.findIn K (.ref C) f = some none)
  | _ => false
theorem xfHB_ok (g : GOk K mg) {f : Str} {cs : List Str} (h : xfHB K f cs = true) : XfH (c0 K mg) f cs := fun x hx C hC => by
  have h := List.all_eq_true.mp h x hx
  split at h
  · rename_i C' q
    have z := (g.at q).symm.trans (show mg x = some (.ref C) from hC)
    cases z
    rw [Bool.and_eq_true] at h
    have h2 := of_decide_eq_true h.2
    exact ⟨xfB_ok h.1, h2⟩
  · cases h
def tyK (K : PySem.W.Frag) : Ty → Option Value
  | .inl s => some (.type s)
  | .inr x => gK K x
theorem tyK_ok (g : GOk K mg) {a : Ty} {u v : Value} (h : tyK K a = some u) (t : TyVal mg a v) : u = v := by
  cases a with
  | inl s => cases h; exact (show v = Value.type s from t).symm
  | inr x => have z := (g.at h).symm.trans (show mg x = some v from t); cases z; rfl
def ansB (K : PySem.W.Frag) (t : Tab) : Bool := t.all fun p => match tyK K p.1, tyK K p.2.1 with
  | some u, some v => decide (PySem.W.kitOne K u v = some p.2.2)
  | _, _ => false
theorem ansB_ok (g : GOk K mg) {t : Tab} (h : ansB K t = true) : ∀ p ∈ t, ∀ u v, TyVal mg p.1 u → TyVal mg p.2.1 v → PySem.W.kitOne K u v = some p.2.2 := fun p hp u v h1 h2 => by
  have h := List.all_eq_true.mp h p hp
  split at h
  · rename_i u' v' q1 q2
    rw [← tyK_ok g q1 h1, ← tyK_ok g q2 h2]
    exact of_decide_eq_true h
  · cases h
def baseB (K : PySem.W.Frag) : Bool := decide (PySem.W.specialIn K (.builtin "object.__class__") "__get__" = some (some (.builtin "getset_descriptor.__get__"))) && decide (PySem.W.takesIn K (.builtin "object.__class__") = some true)
theorem baseB_ok (h : baseB K = true) : PySem.W.specialIn K (.builtin "object.__class__") "__get__" = some (some (.builtin "getset_descriptor.__get__")) ∧ PySem.W.takesIn K (.builtin "object.__class__") = some true := by
  unfold baseB at h
  simp only [Bool.and_eq_true, decide_eq_true_eq] at h
  exact h
def ownB (K : PySem.W.Frag) (t : Tab) : Bool := t.all fun p => match p.1 with
  | .inl _ => true
  | .inr x => match gK K x with
    | some (.ref C) => clsB K C && (decide (PySem.W.findIn K (.ref C) "__class__" = some (some (.builtin "object.__class__"))) && decide (PySem.W.mroIn K C (.type "object") = some true))
    | _ => false
theorem tabB_ok (g : GOk K mg) {t : Tab} (h1 : ansB K t = true) (h2 : ownB K t = true) (h3 : baseB K = true) : TabOk K mg t := by
  refine ⟨ansB_ok g h1, fun p hp x C e hC => ?_, (baseB_ok h3).1, (baseB_ok h3).2⟩
  have h := List.all_eq_true.mp h2 p hp
  rw [e] at h
  dsimp only at h
  split at h
  · rename_i C' q
    have z := (g.at q).symm.trans hC
    cases z
    simp only [Bool.and_eq_true, decide_eq_true_eq] at h
    exact ⟨clsB_ok h.1, h.2.1, h.2.2⟩
  · cases h
def eqB (K : PySem.W.Frag) (t : Tab) : Bool := t.all fun p => match p.2.1, p.2.2 with
  | .inr y, false => match tyK K p.1, gK K y with
    | some u, some (.ref C) => decide (PySem.W.subIn K u (.ref C) = some false)
    | _, _ => false
  | _, _ => true
theorem eqB_ok (g : GOk K mg) {t : Tab} (h0 : TabOk K mg t) (h : eqB K t = true) : EqTab K mg t := by
  refine ⟨h0, fun p hp y u C e1 e2 h1 hC => ?_⟩
  have h := List.all_eq_true.mp h p hp
  rw [e1, e2] at h
  dsimp only at h
  split at h
  · rename_i u' C' q1 q2
    rw [← tyK_ok g q1 h1]
    have z := (g.at q2).symm.trans hC
    cases z
    exact of_decide_eq_true h
  · cases h
def xownB (K : PySem.W.Frag) (t : Tab) : Bool := t.all fun p => match p.1 with
  | .inl _ => true
  | .inr x => match gK K x with
    | some (.ref C) => (PySem.W.clsIn K C).isSome && (decide (PySem.W.findIn K (.ref C) "__getattribute__" = some (some (.builtin "BaseException.__getattribute__"))) && ((PySem.W.findIn K (.ref C) "__getattr__").isSome && (decide (PySem.W.subIn K (.ref C) (.type "BaseException") = some true) &&
      (decide (PySem.W.findIn K (.ref C) "__class__" = some (some (.builtin "object.__class__"))) && decide (PySem.W.mroIn K C (.type "object") = some true)))))
    | _ => false
theorem xtabB_ok (g : GOk K mg) {t : Tab} (h1 : ansB K t = true) (h2 : xownB K t = true) (h3 : baseB K = true) : ExcTab K mg t := by
  refine ⟨ansB_ok g h1, fun p hp x C e hC => ?_, (baseB_ok h3).1, (baseB_ok h3).2⟩
  have h := List.all_eq_true.mp h2 p hp
  rw [e] at h
  dsimp only at h
  split at h
  · rename_i C' q
    have z := (g.at q).symm.trans hC
    cases z
    simp only [Bool.and_eq_true, decide_eq_true_eq] at h
    obtain ⟨k1, k2, k3, k4, k5, k6⟩ := h
    exact ⟨k1, k2, Option.isSome_iff_exists.mp k3, k4, k5, k6⟩
  · cases h
def xclB (K : PySem.W.Frag) (cn : Str) (l : List (Str × Bool)) : Bool := match gK K cn with
  | some c => l.all fun p => match gK K p.1 with
    | some u => decide (PySem.W.exmOne K u c = some p.2)
    | none => false
  | none => false
theorem xclB_ok (g : GOk K mg) {cn : Str} {l : List (Str × Bool)} (h : xclB K cn l = true) : ∃ c, mg cn = some c ∧ ∀ y b C, l.lookup y = some b → mg y = some (.ref C) → PySem.W.exmOne K (.ref C) c = some b := by
  unfold xclB at h
  split at h
  · rename_i c q
    refine ⟨c, g.at q, fun y b C hy hC => ?_⟩
    have h := List.all_eq_true.mp h (y, b) (PySem.mem_of_lookup hy)
    split at h
    · rename_i u q2
      have z := (g.at q2).symm.trans hC
      cases z
      exact of_decide_eq_true h
    · cases h
  · cases h
def heirB (K : PySem.W.Frag) (D0 : Addr) (par : Value) (fl : List Str) (C : Addr) : Bool := decide (PySem.W.mroIn K C (.ref D0) = some true) && (decide (PySem.W.subIn K (.ref C) (.type "ValueError") = some true) && (decide (PySem.W.ks_superIn K C D0 "__init__" = some (some par)) && fl.all fun f => decide (PySem.W.findIn K (.ref C) f = some none)))
theorem heirB_ok {D0 C : Addr} {par : Value} {fl : List (Str × Nat)} (O : OexC K C) (h : heirB K D0 par (fl.map (·.1)) C = true) : HeirK K D0 par fl C := by
  unfold heirB at h
  simp only [Bool.and_eq_true, decide_eq_true_eq] at h
  obtain ⟨h1, h2, h3, h4⟩ := h
  exact ⟨O, h1, h2, h3, fun p hp => of_decide_eq_true (List.all_eq_true.mp h4 p.1 (List.mem_map_of_mem hp))⟩
def oexB (K : PySem.W.Frag) (C : Addr) : Bool := decide (PySem.W.findIn K (.ref C) "__setattr__" = some (some (.builtin "object.__setattr__"))) && (decide (PySem.W.subIn K (.ref C) (.type "BaseException") = some true) && (decide (PySem.W.typeIn K (.ref C) = some (.type "type")) && PySem.W.keepIn K (.ref C)))
theorem oexB_ok {C : Addr} {nm q : Str} {N : Addr} {bs bm : List Value} {sn : List Str} {sub : List Value} {ab : Bool} {col : Option Bool} {dd : Option Addr} {m0 m1 m2 m3 m5 : Option Value} (l : K.lookup C = some (excClassObj nm q C N bs bm true sn sub ab col dd m0 m1 m2 m3 m5 "ValueError.__new__")) (hb : PySem.HandSPX.refsVE bm = true) (h : oexB K C = true) : OexC K C := by
  unfold oexB at h
  simp only [Bool.and_eq_true, decide_eq_true_eq] at h
  obtain ⟨h1, h2, h3, h4⟩ := h
  exact ⟨⟨nm, q, N, bs, bm, sn, sub, ab, col, dd, m0, m1, m2, m3, m5, l, hb⟩, h1, h2, h3, h4⟩
end
end Zed
set_option Elab.async false
set_option linter.all false
set_option maxRecDepth 100000
set_option maxHeartbeats 8000000
namespace Zed
open PySem L2 PySem.Spec PyProof.Rows
theorem defS_of {K : PySem.W.Frag} {x qual : Str} {st : Stmt} {a : Addr} {ps : List Str} {oc kV doc pm cd ct : Value} {od an : Option Addr} {osl : Array (Option Value)} (l : K.lookup a = some ⟨oc, od, .func (PySem.W.fnOf x qual (defArgs st) (defBody st) (defScope st) .none kV doc pm an cd ct), osl⟩) (c : PySem.W.codeIn K cd qual = true) (k : PySem.W.keepIn K (.ref a) = true)
    (h : ∀ (kV doc pm : Value) (an : Option Addr) (cdv ct : Value) (us : List Value), us.length = ps.length → bindArgs (PySem.W.fnOf x qual (defArgs st) (defBody st) (defScope st) .none kV doc pm an cdv ct) ⟨us, []⟩ = pure (ps.zip us)) : DefS K x qual st ps a :=
  ⟨⟨_, fun_mk l c k, (fun_mk l c k).binds h⟩⟩
end Zed
namespace K50
open PySem L2 PySem.Spec PyProof.Rows Zed
theorem all_mk {P : Program} {w : World} {K : PySem.W.Frag} {h : Heap} {mg : Str → Option Value} (X : K.In h) (G : h.Ns mainGlobals mg)
    {a_consists_of : Addr}
    {a_is_name : Addr}
    {a_is_letter : Addr}
    {a_is_relation : Addr}
    {a_is_choice : Addr}
    {a_whole_number : Addr}
    {a_number_in : Addr}
    {a_item_in : Addr}
    {a_row_in : Addr}
    {a_Code_init : Addr}
    {a_Code_read : Addr}
    {a_Code_len : Addr}
    {a_Code_eq : Addr}
    {a_Code_str : Addr}
    {a__law_purse : Addr}
    {a__law_take : Addr}
    {a__law_small : Addr}
    {a__law_name : Addr}
    {a__law_great : Addr}
    {a__law_choice : Addr}
    {a__law_edge : Addr}
    {a__law_row : Addr}
    {a__law_line : Addr}
    {a__law_bounds : Addr}
    {a__law_bad_number : Addr}
    {a__law_bad_word : Addr}
    {a__law_spoil : Addr}
    {a__law_plain : Addr}
    {a__law_try : Addr}
    {a__law_base : Addr}
    {a__law_refused : Addr}
    {a__law_right : Addr}
    {a__law_large : Addr}
    {a__law_spoilt : Addr}
    {a_law : Addr}
    {a_Code a_RowError C_TL C_BR f_TL f_RE f_BR cc_TL cc_RE cc_BR c_TL c_RE c_BR T_TL T_RE d_FORMS d_LOOKS p_read : Addr} {mc_Code : Value} {rest_read : List Value} {n_FORMS n_LOOKS : Nat} {es_FORMS es_LOOKS : Array DictEntry}
    {oc_consists_of kV_consists_of dc_consists_of pm_consists_of cd_consists_of ct_consists_of : Value} {od_consists_of an_consists_of : Option Addr} {sl_consists_of : Array (Option Value)}
    {oc_is_name kV_is_name dc_is_name pm_is_name cd_is_name ct_is_name : Value} {od_is_name an_is_name : Option Addr} {sl_is_name : Array (Option Value)}
    {oc_is_letter kV_is_letter dc_is_letter pm_is_letter cd_is_letter ct_is_letter : Value} {od_is_letter an_is_letter : Option Addr} {sl_is_letter : Array (Option Value)}
    {oc_is_relation kV_is_relation dc_is_relation pm_is_relation cd_is_relation ct_is_relation : Value} {od_is_relation an_is_relation : Option Addr} {sl_is_relation : Array (Option Value)}
    {oc_is_choice kV_is_choice dc_is_choice pm_is_choice cd_is_choice ct_is_choice : Value} {od_is_choice an_is_choice : Option Addr} {sl_is_choice : Array (Option Value)}
    {oc_whole_number kV_whole_number dc_whole_number pm_whole_number cd_whole_number ct_whole_number : Value} {od_whole_number an_whole_number : Option Addr} {sl_whole_number : Array (Option Value)}
    {oc_number_in kV_number_in dc_number_in pm_number_in cd_number_in ct_number_in : Value} {od_number_in an_number_in : Option Addr} {sl_number_in : Array (Option Value)}
    {oc_item_in kV_item_in dc_item_in pm_item_in cd_item_in ct_item_in : Value} {od_item_in an_item_in : Option Addr} {sl_item_in : Array (Option Value)}
    {oc_row_in kV_row_in dc_row_in pm_row_in cd_row_in ct_row_in : Value} {od_row_in an_row_in : Option Addr} {sl_row_in : Array (Option Value)}
    {oc_Code_init kV_Code_init dc_Code_init pm_Code_init cd_Code_init ct_Code_init : Value} {od_Code_init an_Code_init : Option Addr} {sl_Code_init : Array (Option Value)}
    {oc_Code_read kV_Code_read dc_Code_read pm_Code_read cd_Code_read ct_Code_read : Value} {od_Code_read an_Code_read : Option Addr} {sl_Code_read : Array (Option Value)}
    {oc_Code_len kV_Code_len dc_Code_len pm_Code_len cd_Code_len ct_Code_len : Value} {od_Code_len an_Code_len : Option Addr} {sl_Code_len : Array (Option Value)}
    {oc_Code_eq kV_Code_eq dc_Code_eq pm_Code_eq cd_Code_eq ct_Code_eq : Value} {od_Code_eq an_Code_eq : Option Addr} {sl_Code_eq : Array (Option Value)}
    {oc_Code_str kV_Code_str dc_Code_str pm_Code_str cd_Code_str ct_Code_str : Value} {od_Code_str an_Code_str : Option Addr} {sl_Code_str : Array (Option Value)}
    {oc__law_purse kV__law_purse dc__law_purse pm__law_purse cd__law_purse ct__law_purse : Value} {od__law_purse an__law_purse : Option Addr} {sl__law_purse : Array (Option Value)}
    {oc__law_take kV__law_take dc__law_take pm__law_take cd__law_take ct__law_take : Value} {od__law_take an__law_take : Option Addr} {sl__law_take : Array (Option Value)}
    {oc__law_small kV__law_small dc__law_small pm__law_small cd__law_small ct__law_small : Value} {od__law_small an__law_small : Option Addr} {sl__law_small : Array (Option Value)}
    {oc__law_name kV__law_name dc__law_name pm__law_name cd__law_name ct__law_name : Value} {od__law_name an__law_name : Option Addr} {sl__law_name : Array (Option Value)}
    {oc__law_great kV__law_great dc__law_great pm__law_great cd__law_great ct__law_great : Value} {od__law_great an__law_great : Option Addr} {sl__law_great : Array (Option Value)}
    {oc__law_choice kV__law_choice dc__law_choice pm__law_choice cd__law_choice ct__law_choice : Value} {od__law_choice an__law_choice : Option Addr} {sl__law_choice : Array (Option Value)}
    {oc__law_edge kV__law_edge dc__law_edge pm__law_edge cd__law_edge ct__law_edge : Value} {od__law_edge an__law_edge : Option Addr} {sl__law_edge : Array (Option Value)}
    {oc__law_row kV__law_row dc__law_row pm__law_row cd__law_row ct__law_row : Value} {od__law_row an__law_row : Option Addr} {sl__law_row : Array (Option Value)}
    {oc__law_line kV__law_line dc__law_line pm__law_line cd__law_line ct__law_line : Value} {od__law_line an__law_line : Option Addr} {sl__law_line : Array (Option Value)}
    {oc__law_bounds kV__law_bounds dc__law_bounds pm__law_bounds cd__law_bounds ct__law_bounds : Value} {od__law_bounds an__law_bounds : Option Addr} {sl__law_bounds : Array (Option Value)}
    {oc__law_bad_number kV__law_bad_number dc__law_bad_number pm__law_bad_number cd__law_bad_number ct__law_bad_number : Value} {od__law_bad_number an__law_bad_number : Option Addr} {sl__law_bad_number : Array (Option Value)}
    {oc__law_bad_word kV__law_bad_word dc__law_bad_word pm__law_bad_word cd__law_bad_word ct__law_bad_word : Value} {od__law_bad_word an__law_bad_word : Option Addr} {sl__law_bad_word : Array (Option Value)}
    {oc__law_spoil kV__law_spoil dc__law_spoil pm__law_spoil cd__law_spoil ct__law_spoil : Value} {od__law_spoil an__law_spoil : Option Addr} {sl__law_spoil : Array (Option Value)}
    {oc__law_plain kV__law_plain dc__law_plain pm__law_plain cd__law_plain ct__law_plain : Value} {od__law_plain an__law_plain : Option Addr} {sl__law_plain : Array (Option Value)}
    {oc__law_try kV__law_try dc__law_try pm__law_try cd__law_try ct__law_try : Value} {od__law_try an__law_try : Option Addr} {sl__law_try : Array (Option Value)}
    {oc__law_base kV__law_base dc__law_base pm__law_base cd__law_base ct__law_base : Value} {od__law_base an__law_base : Option Addr} {sl__law_base : Array (Option Value)}
    {oc__law_refused kV__law_refused dc__law_refused pm__law_refused cd__law_refused ct__law_refused : Value} {od__law_refused an__law_refused : Option Addr} {sl__law_refused : Array (Option Value)}
    {oc__law_right kV__law_right dc__law_right pm__law_right cd__law_right ct__law_right : Value} {od__law_right an__law_right : Option Addr} {sl__law_right : Array (Option Value)}
    {oc__law_large kV__law_large dc__law_large pm__law_large cd__law_large ct__law_large : Value} {od__law_large an__law_large : Option Addr} {sl__law_large : Array (Option Value)}
    {oc__law_spoilt kV__law_spoilt dc__law_spoilt pm__law_spoilt cd__law_spoilt ct__law_spoilt : Value} {od__law_spoilt an__law_spoilt : Option Addr} {sl__law_spoilt : Array (Option Value)}
    {oc_law kV_law dc_law pm_law cd_law ct_law : Value} {od_law an_law : Option Addr} {sl_law : Array (Option Value)}
    {oc_TL kV_TL dc_TL pm_TL ct_TL xc_TL yc_TL : Value} {od_TL an_TL xd_TL yd_TL : Option Addr} {sl_TL xs_TL ys_TL : Array (Option Value)} {vs_TL : Array Value} {fl_TL : Str} {tf_TL : Tok}
    {oc_RE kV_RE dc_RE pm_RE ct_RE xc_RE yc_RE : Value} {od_RE an_RE xd_RE yd_RE : Option Addr} {sl_RE xs_RE ys_RE : Array (Option Value)} {vs_RE : Array Value} {fl_RE : Str} {tf_RE : Tok}
    {oc_BR kV_BR dc_BR pm_BR ct_BR xc_BR yc_BR : Value} {od_BR an_BR xd_BR yd_BR : Option Addr} {sl_BR xs_BR ys_BR : Array (Option Value)} {vs_BR : Array Value} {fl_BR : Str} {tf_BR : Tok}
    {tc_TL : Value} {td_TL : Option Addr} {tn_TL : Nat} {ts_TL : Array (Option Value)}
    {tc_RE : Value} {td_RE : Option Addr} {tn_RE : Nat} {ts_RE : Array (Option Value)}
    {tt_TL : Tok} {xx_RE : Value}
    {nm_TL qn_TL : Str} {N_TL : Addr} {bs_TL bm_TL sub_TL : List Value} {sn_TL : List Str} {ab_TL : Bool} {col_TL : Option Bool} {dd_TL : Option Addr} {m0_TL m1_TL m2_TL m3_TL m5_TL : Option Value}
    {nm_BR qn_BR : Str} {N_BR : Addr} {bs_BR bm_BR sub_BR : List Value} {sn_BR : List Str} {ab_BR : Bool} {col_BR : Option Bool} {dd_BR : Option Addr} {m0_BR m1_BR m2_BR m3_BR m5_BR : Option Value}
    (h_consists_of : PySem.W.nsIn K mainGlobals "consists_of" = some (some (.ref a_consists_of)))
    (h_is_name : PySem.W.nsIn K mainGlobals "is_name" = some (some (.ref a_is_name)))
    (h_is_letter : PySem.W.nsIn K mainGlobals "is_letter" = some (some (.ref a_is_letter)))
    (h_is_relation : PySem.W.nsIn K mainGlobals "is_relation" = some (some (.ref a_is_relation)))
    (h_is_choice : PySem.W.nsIn K mainGlobals "is_choice" = some (some (.ref a_is_choice)))
    (h_whole_number : PySem.W.nsIn K mainGlobals "whole_number" = some (some (.ref a_whole_number)))
    (h_number_in : PySem.W.nsIn K mainGlobals "number_in" = some (some (.ref a_number_in)))
    (h_item_in : PySem.W.nsIn K mainGlobals "item_in" = some (some (.ref a_item_in)))
    (h_row_in : PySem.W.nsIn K mainGlobals "row_in" = some (some (.ref a_row_in)))
    (h__law_purse : PySem.W.nsIn K mainGlobals "_law_purse" = some (some (.ref a__law_purse)))
    (h__law_take : PySem.W.nsIn K mainGlobals "_law_take" = some (some (.ref a__law_take)))
    (h__law_small : PySem.W.nsIn K mainGlobals "_law_small" = some (some (.ref a__law_small)))
    (h__law_name : PySem.W.nsIn K mainGlobals "_law_name" = some (some (.ref a__law_name)))
    (h__law_great : PySem.W.nsIn K mainGlobals "_law_great" = some (some (.ref a__law_great)))
    (h__law_choice : PySem.W.nsIn K mainGlobals "_law_choice" = some (some (.ref a__law_choice)))
    (h__law_edge : PySem.W.nsIn K mainGlobals "_law_edge" = some (some (.ref a__law_edge)))
    (h__law_row : PySem.W.nsIn K mainGlobals "_law_row" = some (some (.ref a__law_row)))
    (h__law_line : PySem.W.nsIn K mainGlobals "_law_line" = some (some (.ref a__law_line)))
    (h__law_bounds : PySem.W.nsIn K mainGlobals "_law_bounds" = some (some (.ref a__law_bounds)))
    (h__law_bad_number : PySem.W.nsIn K mainGlobals "_law_bad_number" = some (some (.ref a__law_bad_number)))
    (h__law_bad_word : PySem.W.nsIn K mainGlobals "_law_bad_word" = some (some (.ref a__law_bad_word)))
    (h__law_spoil : PySem.W.nsIn K mainGlobals "_law_spoil" = some (some (.ref a__law_spoil)))
    (h__law_plain : PySem.W.nsIn K mainGlobals "_law_plain" = some (some (.ref a__law_plain)))
    (h__law_try : PySem.W.nsIn K mainGlobals "_law_try" = some (some (.ref a__law_try)))
    (h__law_base : PySem.W.nsIn K mainGlobals "_law_base" = some (some (.ref a__law_base)))
    (h__law_refused : PySem.W.nsIn K mainGlobals "_law_refused" = some (some (.ref a__law_refused)))
    (h__law_right : PySem.W.nsIn K mainGlobals "_law_right" = some (some (.ref a__law_right)))
    (h__law_large : PySem.W.nsIn K mainGlobals "_law_large" = some (some (.ref a__law_large)))
    (h__law_spoilt : PySem.W.nsIn K mainGlobals "_law_spoilt" = some (some (.ref a__law_spoilt)))
    (h_law : PySem.W.nsIn K mainGlobals "law" = some (some (.ref a_law)))
    (h_Code : PySem.W.nsIn K mainGlobals "Code" = some (some (.ref a_Code)))
    (h_RowError : PySem.W.nsIn K mainGlobals "RowError" = some (some (.ref a_RowError)))
    (h_TooLarge : PySem.W.nsIn K mainGlobals "TooLarge" = some (some (.ref C_TL)))
    (h_BadRow : PySem.W.nsIn K mainGlobals "BadRow" = some (some (.ref C_BR)))
    (h_FORMS : PySem.W.nsIn K mainGlobals "FORMS" = some (some (.ref d_FORMS)))
    (h_LOOKS : PySem.W.nsIn K mainGlobals "LOOKS" = some (some (.ref d_LOOKS)))
    (h_Code_init : PySem.W.findIn K (.ref a_Code) "__init__" = some (some (.ref a_Code_init)))
    (h_Code_len : PySem.W.findIn K (.ref a_Code) "__len__" = some (some (.ref a_Code_len)))
    (h_Code_eq : PySem.W.findIn K (.ref a_Code) "__eq__" = some (some (.ref a_Code_eq)))
    (h_Code_str : PySem.W.findIn K (.ref a_Code) "__str__" = some (some (.ref a_Code_str)))
    (rd_Code : PySem.W.typeIn K (.ref a_Code) = some mc_Code)
    (at_read : PySem.W.findCls K (.ref a_Code) mc_Code "read" = some (.get (.builtin "classmethod.__get__") (.ref p_read) .none (.ref a_Code)))
    (rc_read : PySem.W.recIn K p_read "classmethod" = some (.ref a_Code_read :: rest_read))
    (l_consists_of : K.lookup a_consists_of = some ⟨oc_consists_of, od_consists_of, .func (PySem.W.fnOf "consists_of" "consists_of" (defArgs s_consists_of) (defBody s_consists_of) (defScope s_consists_of) .none kV_consists_of dc_consists_of pm_consists_of an_consists_of cd_consists_of ct_consists_of), sl_consists_of⟩)
    (l_is_name : K.lookup a_is_name = some ⟨oc_is_name, od_is_name, .func (PySem.W.fnOf "is_name" "is_name" (defArgs s_is_name) (defBody s_is_name) (defScope s_is_name) .none kV_is_name dc_is_name pm_is_name an_is_name cd_is_name ct_is_name), sl_is_name⟩)
    (l_is_letter : K.lookup a_is_letter = some ⟨oc_is_letter, od_is_letter, .func (PySem.W.fnOf "is_letter" "is_letter" (defArgs s_is_letter) (defBody s_is_letter) (defScope s_is_letter) .none kV_is_letter dc_is_letter pm_is_letter an_is_letter cd_is_letter ct_is_letter), sl_is_letter⟩)
    (l_is_relation : K.lookup a_is_relation = some ⟨oc_is_relation, od_is_relation, .func (PySem.W.fnOf "is_relation" "is_relation" (defArgs s_is_relation) (defBody s_is_relation) (defScope s_is_relation) .none kV_is_relation dc_is_relation pm_is_relation an_is_relation cd_is_relation ct_is_relation), sl_is_relation⟩)
    (l_is_choice : K.lookup a_is_choice = some ⟨oc_is_choice, od_is_choice, .func (PySem.W.fnOf "is_choice" "is_choice" (defArgs s_is_choice) (defBody s_is_choice) (defScope s_is_choice) .none kV_is_choice dc_is_choice pm_is_choice an_is_choice cd_is_choice ct_is_choice), sl_is_choice⟩)
    (l_whole_number : K.lookup a_whole_number = some ⟨oc_whole_number, od_whole_number, .func (PySem.W.fnOf "whole_number" "whole_number" (defArgs s_whole_number) (defBody s_whole_number) (defScope s_whole_number) .none kV_whole_number dc_whole_number pm_whole_number an_whole_number cd_whole_number ct_whole_number), sl_whole_number⟩)
    (l_number_in : K.lookup a_number_in = some ⟨oc_number_in, od_number_in, .func (PySem.W.fnOf "number_in" "number_in" (defArgs s_number_in) (defBody s_number_in) (defScope s_number_in) .none kV_number_in dc_number_in pm_number_in an_number_in cd_number_in ct_number_in), sl_number_in⟩)
    (l_item_in : K.lookup a_item_in = some ⟨oc_item_in, od_item_in, .func (PySem.W.fnOf "item_in" "item_in" (defArgs s_item_in) (defBody s_item_in) (defScope s_item_in) .none kV_item_in dc_item_in pm_item_in an_item_in cd_item_in ct_item_in), sl_item_in⟩)
    (l_row_in : K.lookup a_row_in = some ⟨oc_row_in, od_row_in, .func (PySem.W.fnOf "row_in" "row_in" (defArgs s_row_in) (defBody s_row_in) (defScope s_row_in) .none kV_row_in dc_row_in pm_row_in an_row_in cd_row_in ct_row_in), sl_row_in⟩)
    (l_Code_init : K.lookup a_Code_init = some ⟨oc_Code_init, od_Code_init, .func (PySem.W.fnOf "__init__" "Code.__init__" (defArgs s_Code_init) (defBody s_Code_init) (defScope s_Code_init) .none kV_Code_init dc_Code_init pm_Code_init an_Code_init cd_Code_init ct_Code_init), sl_Code_init⟩)
    (l_Code_read : K.lookup a_Code_read = some ⟨oc_Code_read, od_Code_read, .func (PySem.W.fnOf "read" "Code.read" (defArgs s_Code_read) (defBody s_Code_read) (defScope s_Code_read) .none kV_Code_read dc_Code_read pm_Code_read an_Code_read cd_Code_read ct_Code_read), sl_Code_read⟩)
    (l_Code_len : K.lookup a_Code_len = some ⟨oc_Code_len, od_Code_len, .func (PySem.W.fnOf "__len__" "Code.__len__" (defArgs s_Code_len) (defBody s_Code_len) (defScope s_Code_len) .none kV_Code_len dc_Code_len pm_Code_len an_Code_len cd_Code_len ct_Code_len), sl_Code_len⟩)
    (l_Code_eq : K.lookup a_Code_eq = some ⟨oc_Code_eq, od_Code_eq, .func (PySem.W.fnOf "__eq__" "Code.__eq__" (defArgs s_Code_eq) (defBody s_Code_eq) (defScope s_Code_eq) .none kV_Code_eq dc_Code_eq pm_Code_eq an_Code_eq cd_Code_eq ct_Code_eq), sl_Code_eq⟩)
    (l_Code_str : K.lookup a_Code_str = some ⟨oc_Code_str, od_Code_str, .func (PySem.W.fnOf "__str__" "Code.__str__" (defArgs s_Code_str) (defBody s_Code_str) (defScope s_Code_str) .none kV_Code_str dc_Code_str pm_Code_str an_Code_str cd_Code_str ct_Code_str), sl_Code_str⟩)
    (l__law_purse : K.lookup a__law_purse = some ⟨oc__law_purse, od__law_purse, .func (PySem.W.fnOf "_law_purse" "_law_purse" (defArgs s__law_purse) (defBody s__law_purse) (defScope s__law_purse) .none kV__law_purse dc__law_purse pm__law_purse an__law_purse cd__law_purse ct__law_purse), sl__law_purse⟩)
    (l__law_take : K.lookup a__law_take = some ⟨oc__law_take, od__law_take, .func (PySem.W.fnOf "_law_take" "_law_take" (defArgs s__law_take) (defBody s__law_take) (defScope s__law_take) .none kV__law_take dc__law_take pm__law_take an__law_take cd__law_take ct__law_take), sl__law_take⟩)
    (l__law_small : K.lookup a__law_small = some ⟨oc__law_small, od__law_small, .func (PySem.W.fnOf "_law_small" "_law_small" (defArgs s__law_small) (defBody s__law_small) (defScope s__law_small) .none kV__law_small dc__law_small pm__law_small an__law_small cd__law_small ct__law_small), sl__law_small⟩)
    (l__law_name : K.lookup a__law_name = some ⟨oc__law_name, od__law_name, .func (PySem.W.fnOf "_law_name" "_law_name" (defArgs s__law_name) (defBody s__law_name) (defScope s__law_name) .none kV__law_name dc__law_name pm__law_name an__law_name cd__law_name ct__law_name), sl__law_name⟩)
    (l__law_great : K.lookup a__law_great = some ⟨oc__law_great, od__law_great, .func (PySem.W.fnOf "_law_great" "_law_great" (defArgs s__law_great) (defBody s__law_great) (defScope s__law_great) .none kV__law_great dc__law_great pm__law_great an__law_great cd__law_great ct__law_great), sl__law_great⟩)
    (l__law_choice : K.lookup a__law_choice = some ⟨oc__law_choice, od__law_choice, .func (PySem.W.fnOf "_law_choice" "_law_choice" (defArgs s__law_choice) (defBody s__law_choice) (defScope s__law_choice) .none kV__law_choice dc__law_choice pm__law_choice an__law_choice cd__law_choice ct__law_choice), sl__law_choice⟩)
    (l__law_edge : K.lookup a__law_edge = some ⟨oc__law_edge, od__law_edge, .func (PySem.W.fnOf "_law_edge" "_law_edge" (defArgs s__law_edge) (defBody s__law_edge) (defScope s__law_edge) .none kV__law_edge dc__law_edge pm__law_edge an__law_edge cd__law_edge ct__law_edge), sl__law_edge⟩)
    (l__law_row : K.lookup a__law_row = some ⟨oc__law_row, od__law_row, .func (PySem.W.fnOf "_law_row" "_law_row" (defArgs s__law_row) (defBody s__law_row) (defScope s__law_row) .none kV__law_row dc__law_row pm__law_row an__law_row cd__law_row ct__law_row), sl__law_row⟩)
    (l__law_line : K.lookup a__law_line = some ⟨oc__law_line, od__law_line, .func (PySem.W.fnOf "_law_line" "_law_line" (defArgs s__law_line) (defBody s__law_line) (defScope s__law_line) .none kV__law_line dc__law_line pm__law_line an__law_line cd__law_line ct__law_line), sl__law_line⟩)
    (l__law_bounds : K.lookup a__law_bounds = some ⟨oc__law_bounds, od__law_bounds, .func (PySem.W.fnOf "_law_bounds" "_law_bounds" (defArgs s__law_bounds) (defBody s__law_bounds) (defScope s__law_bounds) .none kV__law_bounds dc__law_bounds pm__law_bounds an__law_bounds cd__law_bounds ct__law_bounds), sl__law_bounds⟩)
    (l__law_bad_number : K.lookup a__law_bad_number = some ⟨oc__law_bad_number, od__law_bad_number, .func (PySem.W.fnOf "_law_bad_number" "_law_bad_number" (defArgs s__law_bad_number) (defBody s__law_bad_number) (defScope s__law_bad_number) .none kV__law_bad_number dc__law_bad_number pm__law_bad_number an__law_bad_number cd__law_bad_number ct__law_bad_number), sl__law_bad_number⟩)
    (l__law_bad_word : K.lookup a__law_bad_word = some ⟨oc__law_bad_word, od__law_bad_word, .func (PySem.W.fnOf "_law_bad_word" "_law_bad_word" (defArgs s__law_bad_word) (defBody s__law_bad_word) (defScope s__law_bad_word) .none kV__law_bad_word dc__law_bad_word pm__law_bad_word an__law_bad_word cd__law_bad_word ct__law_bad_word), sl__law_bad_word⟩)
    (l__law_spoil : K.lookup a__law_spoil = some ⟨oc__law_spoil, od__law_spoil, .func (PySem.W.fnOf "_law_spoil" "_law_spoil" (defArgs s__law_spoil) (defBody s__law_spoil) (defScope s__law_spoil) .none kV__law_spoil dc__law_spoil pm__law_spoil an__law_spoil cd__law_spoil ct__law_spoil), sl__law_spoil⟩)
    (l__law_plain : K.lookup a__law_plain = some ⟨oc__law_plain, od__law_plain, .func (PySem.W.fnOf "_law_plain" "_law_plain" (defArgs s__law_plain) (defBody s__law_plain) (defScope s__law_plain) .none kV__law_plain dc__law_plain pm__law_plain an__law_plain cd__law_plain ct__law_plain), sl__law_plain⟩)
    (l__law_try : K.lookup a__law_try = some ⟨oc__law_try, od__law_try, .func (PySem.W.fnOf "_law_try" "_law_try" (defArgs s__law_try) (defBody s__law_try) (defScope s__law_try) .none kV__law_try dc__law_try pm__law_try an__law_try cd__law_try ct__law_try), sl__law_try⟩)
    (l__law_base : K.lookup a__law_base = some ⟨oc__law_base, od__law_base, .func (PySem.W.fnOf "_law_base" "_law_base" (defArgs s__law_base) (defBody s__law_base) (defScope s__law_base) .none kV__law_base dc__law_base pm__law_base an__law_base cd__law_base ct__law_base), sl__law_base⟩)
    (l__law_refused : K.lookup a__law_refused = some ⟨oc__law_refused, od__law_refused, .func (PySem.W.fnOf "_law_refused" "_law_refused" (defArgs s__law_refused) (defBody s__law_refused) (defScope s__law_refused) .none kV__law_refused dc__law_refused pm__law_refused an__law_refused cd__law_refused ct__law_refused), sl__law_refused⟩)
    (l__law_right : K.lookup a__law_right = some ⟨oc__law_right, od__law_right, .func (PySem.W.fnOf "_law_right" "_law_right" (defArgs s__law_right) (defBody s__law_right) (defScope s__law_right) .none kV__law_right dc__law_right pm__law_right an__law_right cd__law_right ct__law_right), sl__law_right⟩)
    (l__law_large : K.lookup a__law_large = some ⟨oc__law_large, od__law_large, .func (PySem.W.fnOf "_law_large" "_law_large" (defArgs s__law_large) (defBody s__law_large) (defScope s__law_large) .none kV__law_large dc__law_large pm__law_large an__law_large cd__law_large ct__law_large), sl__law_large⟩)
    (l__law_spoilt : K.lookup a__law_spoilt = some ⟨oc__law_spoilt, od__law_spoilt, .func (PySem.W.fnOf "_law_spoilt" "_law_spoilt" (defArgs s__law_spoilt) (defBody s__law_spoilt) (defScope s__law_spoilt) .none kV__law_spoilt dc__law_spoilt pm__law_spoilt an__law_spoilt cd__law_spoilt ct__law_spoilt), sl__law_spoilt⟩)
    (l_law : K.lookup a_law = some ⟨oc_law, od_law, .func (PySem.W.fnOf "law" "law" (defArgs s_law) (defBody s_law) (defScope s_law) .none kV_law dc_law pm_law an_law cd_law ct_law), sl_law⟩)
    (i_TL : PySem.W.findIn K (.ref C_TL) "__init__" = some (some (.ref f_TL)))
    (l_TL : K.lookup f_TL = some ⟨oc_TL, od_TL, .func (PySem.W.fnX "__init__" "TooLarge.__init__" (defArgs s_TooLarge) (defBody s_TooLarge) (defScope s_TooLarge) [("__class__", cc_TL)] (.ref T_TL) kV_TL dc_TL pm_TL an_TL (.ref c_TL) ct_TL), sl_TL⟩)
    (x_TL : K.lookup c_TL = some ⟨xc_TL, xd_TL, .fields vs_TL, xs_TL⟩)
    (y_TL : K.lookup cc_TL = some ⟨yc_TL, yd_TL, .cell (some (.ref C_TL)), ys_TL⟩)
    (v_TL : (vs_TL : Array Value)[2]? = some (.str fl_TL tf_TL))
    (w_TL : ((P.main.file : Str) == fl_TL) = true)
    (i_RE : PySem.W.findIn K (.ref a_RowError) "__init__" = some (some (.ref f_RE)))
    (l_RE : K.lookup f_RE = some ⟨oc_RE, od_RE, .func (PySem.W.fnX "__init__" "RowError.__init__" (defArgs s_RowError) (defBody s_RowError) (defScope s_RowError) [("__class__", cc_RE)] (.ref T_RE) kV_RE dc_RE pm_RE an_RE (.ref c_RE) ct_RE), sl_RE⟩)
    (x_RE : K.lookup c_RE = some ⟨xc_RE, xd_RE, .fields vs_RE, xs_RE⟩)
    (y_RE : K.lookup cc_RE = some ⟨yc_RE, yd_RE, .cell (some (.ref a_RowError)), ys_RE⟩)
    (v_RE : (vs_RE : Array Value)[2]? = some (.str fl_RE tf_RE))
    (w_RE : ((P.main.file : Str) == fl_RE) = true)
    (i_BR : PySem.W.findIn K (.ref C_BR) "__init__" = some (some (.ref f_BR)))
    (l_BR : K.lookup f_BR = some ⟨oc_BR, od_BR, .func (PySem.W.fnX "__init__" "BadRow.__init__" (defArgs s_BadRow) (defBody s_BadRow) (defScope s_BadRow) [("__class__", cc_BR)] .none kV_BR dc_BR pm_BR an_BR (.ref c_BR) ct_BR), sl_BR⟩)
    (x_BR : K.lookup c_BR = some ⟨xc_BR, xd_BR, .fields vs_BR, xs_BR⟩)
    (y_BR : K.lookup cc_BR = some ⟨yc_BR, yd_BR, .cell (some (.ref C_BR)), ys_BR⟩)
    (v_BR : (vs_BR : Array Value)[2]? = some (.str fl_BR tf_BR))
    (w_BR : ((P.main.file : Str) == fl_BR) = true)
    (t_TL : K.lookup T_TL = some ⟨tc_TL, td_TL, .seq #[.str mTL tt_TL] tn_TL, ts_TL⟩)
    (t_RE : K.lookup T_RE = some ⟨tc_RE, td_RE, .seq #[xx_RE] tn_RE, ts_RE⟩)
    (o_TL : K.lookup C_TL = some (excClassObj nm_TL qn_TL C_TL N_TL bs_TL bm_TL true sn_TL sub_TL ab_TL col_TL dd_TL m0_TL m1_TL m2_TL m3_TL m5_TL "ValueError.__new__"))
    (r_TL : PySem.HandSPX.refsVE bm_TL = true)
    (o_BR : K.lookup C_BR = some (excClassObj nm_BR qn_BR C_BR N_BR bs_BR bm_BR true sn_BR sub_BR ab_BR col_BR dd_BR m0_BR m1_BR m2_BR m3_BR m5_BR "ValueError.__new__"))
    (r_BR : PySem.HandSPX.refsVE bm_BR = true)
    (l_FORMS : K.lookup d_FORMS = some ⟨.type "dict", none, .dict es_FORMS n_FORMS, #[]⟩)
    (k_FORMS : PySem.W.KeysLit w.params es_FORMS.toList)
    (z_FORMS : (d_FORMS == sysModules) = false)
    (l_LOOKS : K.lookup d_LOOKS = some ⟨.type "dict", none, .dict es_LOOKS n_LOOKS, #[]⟩)
    (k_LOOKS : PySem.W.KeysLit w.params es_LOOKS.toList)
    (z_LOOKS : (d_LOOKS == sysModules) = false)
    (su : (P.main.scope.names.lookup ("super" : Str)).isSome = false)
    (hB : (noneB K ["ValueError", "abs", "bool", "enumerate", "int", "isinstance", "len", "list", "min", "range", "str", "super", "tuple", "zip"] && (glbB K "CAPITALS" c_CAPITALS && (glbB K "DIGITS" c_DIGITS && (tabK K (fun x => PySem.W.nsIn K mainGlobals x) (keysOf es_FORMS.toList) tab_FORMS && (glbB K "LONGEST_WORD" c_LONGEST_WORD && (tabK K (fun x => PySem.W.nsIn K mainGlobals x) (keysOf es_LOOKS.toList) tab_LOOKS && (glbB K "MOST_ROWS" c_MOST_ROWS && (glbB K "RESERVED" c_RESERVED && (glbB K "SMALL" c_SMALL && (PySem.W.codeIn K cd_consists_of "consists_of" && (PySem.W.keepIn K (.ref a_consists_of) && (PySem.W.codeIn K cd_is_name "is_name" && (PySem.W.keepIn K (.ref a_is_name) && (PySem.W.codeIn K cd_is_letter "is_letter" && (PySem.W.keepIn K (.ref a_is_letter) && (PySem.W.codeIn K cd_is_relation "is_relation" && (PySem.W.keepIn K (.ref a_is_relation) && (PySem.W.codeIn K cd_is_choice "is_choice" && (PySem.W.keepIn K (.ref a_is_choice) && (PySem.W.codeIn K cd_whole_number "whole_number" && (PySem.W.keepIn K (.ref a_whole_number) && (PySem.W.codeIn K cd_number_in "number_in" && (PySem.W.keepIn K (.ref a_number_in) && (PySem.W.codeIn K cd_item_in "item_in" && (PySem.W.keepIn K (.ref a_item_in) && (PySem.W.codeIn K cd_row_in "row_in" && (PySem.W.keepIn K (.ref a_row_in) && (PySem.W.codeIn K cd_Code_init "Code.__init__" && (PySem.W.keepIn K (.ref a_Code_init) && (PySem.W.codeIn K cd_Code_read "Code.read" && (PySem.W.keepIn K (.ref a_Code_read) && (PySem.W.codeIn K cd_Code_len "Code.__len__" && (PySem.W.keepIn K (.ref a_Code_len) && (PySem.W.codeIn K cd_Code_eq "Code.__eq__" && (PySem.W.keepIn K (.ref a_Code_eq) && (PySem.W.codeIn K cd_Code_str "Code.__str__" && (PySem.W.keepIn K (.ref a_Code_str) && (PySem.W.codeIn K cd__law_purse "_law_purse" && (PySem.W.keepIn K (.ref a__law_purse) && (PySem.W.codeIn K cd__law_take "_law_take" && (PySem.W.keepIn K (.ref a__law_take) && (PySem.W.codeIn K cd__law_small "_law_small" && (PySem.W.keepIn K (.ref a__law_small) && (PySem.W.codeIn K cd__law_name "_law_name" && (PySem.W.keepIn K (.ref a__law_name) && (PySem.W.codeIn K cd__law_great "_law_great" && (PySem.W.keepIn K (.ref a__law_great) && (PySem.W.codeIn K cd__law_choice "_law_choice" && (PySem.W.keepIn K (.ref a__law_choice) && (PySem.W.codeIn K cd__law_edge "_law_edge" && (PySem.W.keepIn K (.ref a__law_edge) && (PySem.W.codeIn K cd__law_row "_law_row" && (PySem.W.keepIn K (.ref a__law_row) && (PySem.W.codeIn K cd__law_line "_law_line" && (PySem.W.keepIn K (.ref a__law_line) && (PySem.W.codeIn K cd__law_bounds "_law_bounds" && (PySem.W.keepIn K (.ref a__law_bounds) && (PySem.W.codeIn K cd__law_bad_number "_law_bad_number" && (PySem.W.keepIn K (.ref a__law_bad_number) && (PySem.W.codeIn K cd__law_bad_word "_law_bad_word" && (PySem.W.keepIn K (.ref a__law_bad_word) && (PySem.W.codeIn K cd__law_spoil "_law_spoil" && (PySem.W.keepIn K (.ref a__law_spoil) && (PySem.W.codeIn K cd__law_plain "_law_plain" && (PySem.W.keepIn K (.ref a__law_plain) && (PySem.W.codeIn K cd__law_try "_law_try" && (PySem.W.keepIn K (.ref a__law_try) && (PySem.W.codeIn K cd__law_base "_law_base" && (PySem.W.keepIn K (.ref a__law_base) && (PySem.W.codeIn K cd__law_refused "_law_refused" && (PySem.W.keepIn K (.ref a__law_refused) && (PySem.W.codeIn K cd__law_right "_law_right" && (PySem.W.keepIn K (.ref a__law_right) && (PySem.W.codeIn K cd__law_large "_law_large" && (PySem.W.keepIn K (.ref a__law_large) && (PySem.W.codeIn K cd__law_spoilt "_law_spoilt" && (PySem.W.keepIn K (.ref a__law_spoilt) && (PySem.W.codeIn K cd_law "law" && (PySem.W.keepIn K (.ref a_law) && (hasFB K "rows" cf_rows && (hasFB K "text" cf_text && (xfHB K "row" cx_row && (ansB K ty_tab && (ownB K ty_tab && (baseB K && (eqB K ty_tab && (ansB K xc_tab && (xownB K xc_tab && (xclB K "BadRow" [("BadRow", true), ("TooLarge", false)] && (xclB K "TooLarge" [("BadRow", false), ("TooLarge", true)] && (xclB K "RightatlastError" [("BadRow", true), ("TooLarge", true)] && (PySem.W.makesIn K a_Code && (PySem.W.keepIn K (.ref a_Code) && (PySem.W.readsIn K a_Code mc_Code && (decide (PySem.W.specialIn K (.ref a_Code) "__getattribute__" = some (some (.builtin "type.__getattribute__"))) && (PySem.W.fnIn K a_Code_read && (PySem.W.isFn K (.ref a_Code_init) && (PySem.W.isFn K (.ref a_Code_len) && (PySem.W.isFn K (.ref a_Code_eq) && (PySem.W.isFn K (.ref a_Code_str) && (PySem.W.codeIn K (.ref c_TL) "TooLarge.__init__" && (decide (PySem.W.typeIn K (.ref f_TL) = some (.type "function")) && ((PySem.W.clsIn K C_TL).isSome && (PySem.W.codeIn K (.ref c_RE) "RowError.__init__" && (decide (PySem.W.typeIn K (.ref f_RE) = some (.type "function")) && ((PySem.W.clsIn K a_RowError).isSome && (PySem.W.codeIn K (.ref c_BR) "BadRow.__init__" && (decide (PySem.W.typeIn K (.ref f_BR) = some (.type "function")) && ((PySem.W.clsIn K C_BR).isSome && (decide (PySem.W.nsIn K cStatics "thirdparty.any" = some none) && (PySem.W.fnIn K f_RE && (heirB K C_TL (.builtin "ValueError.__init__") [] C_TL && (heirB K C_BR (.ref f_RE) [] C_BR && (heirB K a_RowError (.builtin "ValueError.__init__") ["row"] C_BR && (oexB K C_TL && (oexB K C_BR)))))))))))))))))))))))))))))))))))))))))))))))))))))))))))))))))))))))))))))))))))))))))))))))))))))))))))))))))))) = true) :
    ∃ Ad : AdT, mg "law" = some (.ref Ad.a_law) ∧ ∀ base, Tx P w K mg base Ad := by
  have g : GOk K mg := ⟨fun x v e => PySem.W.mg_of X G e, fun x e => PySem.W.mg_none_of X G e⟩
  rw [Bool.and_eq_true] at hB
  obtain ⟨bn, hB⟩ := hB
  rw [Bool.and_eq_true] at hB
  obtain ⟨bg_CAPITALS, hB⟩ := hB
  rw [Bool.and_eq_true] at hB
  obtain ⟨bg_DIGITS, hB⟩ := hB
  rw [Bool.and_eq_true] at hB
  obtain ⟨bt_FORMS, hB⟩ := hB
  rw [Bool.and_eq_true] at hB
  obtain ⟨bg_LONGEST_WORD, hB⟩ := hB
  rw [Bool.and_eq_true] at hB
  obtain ⟨bt_LOOKS, hB⟩ := hB
  rw [Bool.and_eq_true] at hB
  obtain ⟨bg_MOST_ROWS, hB⟩ := hB
  rw [Bool.and_eq_true] at hB
  obtain ⟨bg_RESERVED, hB⟩ := hB
  rw [Bool.and_eq_true] at hB
  obtain ⟨bg_SMALL, hB⟩ := hB
  rw [Bool.and_eq_true] at hB
  obtain ⟨bc_consists_of, hB⟩ := hB
  rw [Bool.and_eq_true] at hB
  obtain ⟨bk_consists_of, hB⟩ := hB
  rw [Bool.and_eq_true] at hB
  obtain ⟨bc_is_name, hB⟩ := hB
  rw [Bool.and_eq_true] at hB
  obtain ⟨bk_is_name, hB⟩ := hB
  rw [Bool.and_eq_true] at hB
  obtain ⟨bc_is_letter, hB⟩ := hB
  rw [Bool.and_eq_true] at hB
  obtain ⟨bk_is_letter, hB⟩ := hB
  rw [Bool.and_eq_true] at hB
  obtain ⟨bc_is_relation, hB⟩ := hB
  rw [Bool.and_eq_true] at hB
  obtain ⟨bk_is_relation, hB⟩ := hB
  rw [Bool.and_eq_true] at hB
  obtain ⟨bc_is_choice, hB⟩ := hB
  rw [Bool.and_eq_true] at hB
  obtain ⟨bk_is_choice, hB⟩ := hB
  rw [Bool.and_eq_true] at hB
  obtain ⟨bc_whole_number, hB⟩ := hB
  rw [Bool.and_eq_true] at hB
  obtain ⟨bk_whole_number, hB⟩ := hB
  rw [Bool.and_eq_true] at hB
  obtain ⟨bc_number_in, hB⟩ := hB
  rw [Bool.and_eq_true] at hB
  obtain ⟨bk_number_in, hB⟩ := hB
  rw [Bool.and_eq_true] at hB
  obtain ⟨bc_item_in, hB⟩ := hB
  rw [Bool.and_eq_true] at hB
  obtain ⟨bk_item_in, hB⟩ := hB
  rw [Bool.and_eq_true] at hB
  obtain ⟨bc_row_in, hB⟩ := hB
  rw [Bool.and_eq_true] at hB
  obtain ⟨bk_row_in, hB⟩ := hB
  rw [Bool.and_eq_true] at hB
  obtain ⟨bc_Code_init, hB⟩ := hB
  rw [Bool.and_eq_true] at hB
  obtain ⟨bk_Code_init, hB⟩ := hB
  rw [Bool.and_eq_true] at hB
  obtain ⟨bc_Code_read, hB⟩ := hB
  rw [Bool.and_eq_true] at hB
  obtain ⟨bk_Code_read, hB⟩ := hB
  rw [Bool.and_eq_true] at hB
  obtain ⟨bc_Code_len, hB⟩ := hB
  rw [Bool.and_eq_true] at hB
  obtain ⟨bk_Code_len, hB⟩ := hB
  rw [Bool.and_eq_true] at hB
  obtain ⟨bc_Code_eq, hB⟩ := hB
  rw [Bool.and_eq_true] at hB
  obtain ⟨bk_Code_eq, hB⟩ := hB
  rw [Bool.and_eq_true] at hB
  obtain ⟨bc_Code_str, hB⟩ := hB
  rw [Bool.and_eq_true] at hB
  obtain ⟨bk_Code_str, hB⟩ := hB
  rw [Bool.and_eq_true] at hB
  obtain ⟨bc__law_purse, hB⟩ := hB
  rw [Bool.and_eq_true] at hB
  obtain ⟨bk__law_purse, hB⟩ := hB
  rw [Bool.and_eq_true] at hB
  obtain ⟨bc__law_take, hB⟩ := hB
  rw [Bool.and_eq_true] at hB
  obtain ⟨bk__law_take, hB⟩ := hB
  rw [Bool.and_eq_true] at hB
  obtain ⟨bc__law_small, hB⟩ := hB
  rw [Bool.and_eq_true] at hB
  obtain ⟨bk__law_small, hB⟩ := hB
  rw [Bool.and_eq_true] at hB
  obtain ⟨bc__law_name, hB⟩ := hB
  rw [Bool.and_eq_true] at hB
  obtain ⟨bk__law_name, hB⟩ := hB
  rw [Bool.and_eq_true] at hB
  obtain ⟨bc__law_great, hB⟩ := hB
  rw [Bool.and_eq_true] at hB
  obtain ⟨bk__law_great, hB⟩ := hB
  rw [Bool.and_eq_true] at hB
  obtain ⟨bc__law_choice, hB⟩ := hB
  rw [Bool.and_eq_true] at hB
  obtain ⟨bk__law_choice, hB⟩ := hB
  rw [Bool.and_eq_true] at hB
  obtain ⟨bc__law_edge, hB⟩ := hB
  rw [Bool.and_eq_true] at hB
  obtain ⟨bk__law_edge, hB⟩ := hB
  rw [Bool.and_eq_true] at hB
  obtain ⟨bc__law_row, hB⟩ := hB
  rw [Bool.and_eq_true] at hB
  obtain ⟨bk__law_row, hB⟩ := hB
  rw [Bool.and_eq_true] at hB
  obtain ⟨bc__law_line, hB⟩ := hB
  rw [Bool.and_eq_true] at hB
  obtain ⟨bk__law_line, hB⟩ := hB
  rw [Bool.and_eq_true] at hB
  obtain ⟨bc__law_bounds, hB⟩ := hB
  rw [Bool.and_eq_true] at hB
  obtain ⟨bk__law_bounds, hB⟩ := hB
  rw [Bool.and_eq_true] at hB
  obtain ⟨bc__law_bad_number, hB⟩ := hB
  rw [Bool.and_eq_true] at hB
  obtain ⟨bk__law_bad_number, hB⟩ := hB
  rw [Bool.and_eq_true] at hB
  obtain ⟨bc__law_bad_word, hB⟩ := hB
  rw [Bool.and_eq_true] at hB
  obtain ⟨bk__law_bad_word, hB⟩ := hB
  rw [Bool.and_eq_true] at hB
  obtain ⟨bc__law_spoil, hB⟩ := hB
  rw [Bool.and_eq_true] at hB
  obtain ⟨bk__law_spoil, hB⟩ := hB
  rw [Bool.and_eq_true] at hB
  obtain ⟨bc__law_plain, hB⟩ := hB
  rw [Bool.and_eq_true] at hB
  obtain ⟨bk__law_plain, hB⟩ := hB
  rw [Bool.and_eq_true] at hB
  obtain ⟨bc__law_try, hB⟩ := hB
  rw [Bool.and_eq_true] at hB
  obtain ⟨bk__law_try, hB⟩ := hB
  rw [Bool.and_eq_true] at hB
  obtain ⟨bc__law_base, hB⟩ := hB
  rw [Bool.and_eq_true] at hB
  obtain ⟨bk__law_base, hB⟩ := hB
  rw [Bool.and_eq_true] at hB
  obtain ⟨bc__law_refused, hB⟩ := hB
  rw [Bool.and_eq_true] at hB
  obtain ⟨bk__law_refused, hB⟩ := hB
  rw [Bool.and_eq_true] at hB
  obtain ⟨bc__law_right, hB⟩ := hB
  rw [Bool.and_eq_true] at hB
  obtain ⟨bk__law_right, hB⟩ := hB
  rw [Bool.and_eq_true] at hB
  obtain ⟨bc__law_large, hB⟩ := hB
  rw [Bool.and_eq_true] at hB
  obtain ⟨bk__law_large, hB⟩ := hB
  rw [Bool.and_eq_true] at hB
  obtain ⟨bc__law_spoilt, hB⟩ := hB
  rw [Bool.and_eq_true] at hB
  obtain ⟨bk__law_spoilt, hB⟩ := hB
  rw [Bool.and_eq_true] at hB
  obtain ⟨bc_law, hB⟩ := hB
  rw [Bool.and_eq_true] at hB
  obtain ⟨bk_law, hB⟩ := hB
  rw [Bool.and_eq_true] at hB
  obtain ⟨bh_rows, hB⟩ := hB
  rw [Bool.and_eq_true] at hB
  obtain ⟨bh_text, hB⟩ := hB
  rw [Bool.and_eq_true] at hB
  obtain ⟨bh_x_row, hB⟩ := hB
  rw [Bool.and_eq_true] at hB
  obtain ⟨b_ans, hB⟩ := hB
  rw [Bool.and_eq_true] at hB
  obtain ⟨b_own, hB⟩ := hB
  rw [Bool.and_eq_true] at hB
  obtain ⟨b_base, hB⟩ := hB
  rw [Bool.and_eq_true] at hB
  obtain ⟨b_eq, hB⟩ := hB
  rw [Bool.and_eq_true] at hB
  obtain ⟨b_xans, hB⟩ := hB
  rw [Bool.and_eq_true] at hB
  obtain ⟨b_xown, hB⟩ := hB
  rw [Bool.and_eq_true] at hB
  obtain ⟨bx_BadRow, hB⟩ := hB
  rw [Bool.and_eq_true] at hB
  obtain ⟨bx_TooLarge, hB⟩ := hB
  rw [Bool.and_eq_true] at hB
  obtain ⟨bx_RightatlastError, hB⟩ := hB
  rw [Bool.and_eq_true] at hB
  obtain ⟨b_mk, hB⟩ := hB
  rw [Bool.and_eq_true] at hB
  obtain ⟨b_kc, hB⟩ := hB
  rw [Bool.and_eq_true] at hB
  obtain ⟨b_rd, hB⟩ := hB
  rw [Bool.and_eq_true] at hB
  obtain ⟨b_ga, hB⟩ := hB
  rw [Bool.and_eq_true] at hB
  obtain ⟨b_fi, hB⟩ := hB
  rw [Bool.and_eq_true] at hB
  obtain ⟨b_fn_init, hB⟩ := hB
  rw [Bool.and_eq_true] at hB
  obtain ⟨b_fn_len, hB⟩ := hB
  rw [Bool.and_eq_true] at hB
  obtain ⟨b_fn_eq, hB⟩ := hB
  rw [Bool.and_eq_true] at hB
  obtain ⟨b_fn_str, hB⟩ := hB
  rw [Bool.and_eq_true] at hB
  obtain ⟨bi_TL, hB⟩ := hB
  rw [Bool.and_eq_true] at hB
  obtain ⟨bj_TL, hB⟩ := hB
  rw [Bool.and_eq_true] at hB
  obtain ⟨bq_TL, hB⟩ := hB
  rw [Bool.and_eq_true] at hB
  obtain ⟨bi_RE, hB⟩ := hB
  rw [Bool.and_eq_true] at hB
  obtain ⟨bj_RE, hB⟩ := hB
  rw [Bool.and_eq_true] at hB
  obtain ⟨bq_RE, hB⟩ := hB
  rw [Bool.and_eq_true] at hB
  obtain ⟨bi_BR, hB⟩ := hB
  rw [Bool.and_eq_true] at hB
  obtain ⟨bj_BR, hB⟩ := hB
  rw [Bool.and_eq_true] at hB
  obtain ⟨bq_BR, hB⟩ := hB
  rw [Bool.and_eq_true] at hB
  obtain ⟨b_opq, hB⟩ := hB
  rw [Bool.and_eq_true] at hB
  obtain ⟨b_f2, hB⟩ := hB
  rw [Bool.and_eq_true] at hB
  obtain ⟨b_hTL, hB⟩ := hB
  rw [Bool.and_eq_true] at hB
  obtain ⟨b_hBR, hB⟩ := hB
  rw [Bool.and_eq_true] at hB
  obtain ⟨b_hRE, hB⟩ := hB
  rw [Bool.and_eq_true] at hB
  obtain ⟨b_oTL, hB⟩ := hB
  have b_oBR := hB
  have bnone := noneB_ok g bn
  have hsu : mg "super" = none := bnone _ (by simp)
  have htab := tabB_ok g b_ans b_own b_base
  have oTL := oexB_ok o_TL r_TL b_oTL
  have oBR := oexB_ok o_BR r_BR b_oBR
  refine ⟨⟨a_consists_of, a_is_name, a_is_letter, a_is_relation, a_is_choice, a_whole_number, a_number_in, a_item_in, a_row_in, a_Code_init, a_Code_read, a_Code_len, a_Code_eq, a_Code_str, a__law_purse, a__law_take, a__law_small, a__law_name, a__law_great, a__law_choice, a__law_edge, a__law_row, a__law_line, a__law_bounds, a__law_bad_number, a__law_bad_word, a__law_spoil, a__law_plain, a__law_try, a__law_base, a__law_refused, a__law_right, a__law_large, a__law_spoilt, a_law, a_Code, a_RowError⟩, g.1 _ _ h_law, fun base => ?_⟩
  exact {
    m_Code := g.1 _ _ h_Code
    m_RowError := g.1 _ _ h_RowError
    m__law_bad_number := g.1 _ _ h__law_bad_number
    m__law_bad_word := g.1 _ _ h__law_bad_word
    m__law_base := g.1 _ _ h__law_base
    m__law_bounds := g.1 _ _ h__law_bounds
    m__law_choice := g.1 _ _ h__law_choice
    m__law_edge := g.1 _ _ h__law_edge
    m__law_great := g.1 _ _ h__law_great
    m__law_large := g.1 _ _ h__law_large
    m__law_line := g.1 _ _ h__law_line
    m__law_name := g.1 _ _ h__law_name
    m__law_plain := g.1 _ _ h__law_plain
    m__law_purse := g.1 _ _ h__law_purse
    m__law_refused := g.1 _ _ h__law_refused
    m__law_right := g.1 _ _ h__law_right
    m__law_row := g.1 _ _ h__law_row
    m__law_small := g.1 _ _ h__law_small
    m__law_spoil := g.1 _ _ h__law_spoil
    m__law_spoilt := g.1 _ _ h__law_spoilt
    m__law_take := g.1 _ _ h__law_take
    m__law_try := g.1 _ _ h__law_try
    m_consists_of := g.1 _ _ h_consists_of
    m_is_choice := g.1 _ _ h_is_choice
    m_is_letter := g.1 _ _ h_is_letter
    m_is_name := g.1 _ _ h_is_name
    m_is_relation := g.1 _ _ h_is_relation
    m_item_in := g.1 _ _ h_item_in
    m_number_in := g.1 _ _ h_number_in
    m_row_in := g.1 _ _ h_row_in
    m_whole_number := g.1 _ _ h_whole_number
    g_CAPITALS := glbB_ok g bg_CAPITALS
    g_DIGITS := glbB_ok g bg_DIGITS
    t_FORMS := KdS.of g.1 (g.1 _ _ h_FORMS) l_FORMS k_FORMS z_FORMS bt_FORMS
    g_LONGEST_WORD := glbB_ok g bg_LONGEST_WORD
    t_LOOKS := KdS.of g.1 (g.1 _ _ h_LOOKS) l_LOOKS k_LOOKS z_LOOKS bt_LOOKS
    g_MOST_ROWS := glbB_ok g bg_MOST_ROWS
    g_RESERVED := glbB_ok g bg_RESERVED
    g_SMALL := glbB_ok g bg_SMALL
    b_ValueError := bnone _ (by simp)
    b_abs := bnone _ (by simp)
    b_bool := bnone _ (by simp)
    b_enumerate := bnone _ (by simp)
    b_int := bnone _ (by simp)
    b_isinstance := bnone _ (by simp)
    b_len := bnone _ (by simp)
    b_list := bnone _ (by simp)
    b_min := bnone _ (by simp)
    b_range := bnone _ (by simp)
    b_str := bnone _ (by simp)
    b_tuple := bnone _ (by simp)
    b_zip := bnone _ (by simp)
    f_consists_of := defS_of l_consists_of bc_consists_of bk_consists_of fun _ _ _ _ _ _ us hl => match us, hl with | [_, _], _ => rfl
    f_is_name := defS_of l_is_name bc_is_name bk_is_name fun _ _ _ _ _ _ us hl => match us, hl with | [_], _ => rfl
    f_is_letter := defS_of l_is_letter bc_is_letter bk_is_letter fun _ _ _ _ _ _ us hl => match us, hl with | [_], _ => rfl
    f_is_relation := defS_of l_is_relation bc_is_relation bk_is_relation fun _ _ _ _ _ _ us hl => match us, hl with | [_], _ => rfl
    f_is_choice := defS_of l_is_choice bc_is_choice bk_is_choice fun _ _ _ _ _ _ us hl => match us, hl with | [_], _ => rfl
    f_whole_number := defS_of l_whole_number bc_whole_number bk_whole_number fun _ _ _ _ _ _ us hl => match us, hl with | [_, _], _ => rfl
    f_number_in := defS_of l_number_in bc_number_in bk_number_in fun _ _ _ _ _ _ us hl => match us, hl with | [_, _, _], _ => rfl
    f_item_in := defS_of l_item_in bc_item_in bk_item_in fun _ _ _ _ _ _ us hl => match us, hl with | [_, _], _ => rfl
    f_row_in := defS_of l_row_in bc_row_in bk_row_in fun _ _ _ _ _ _ us hl => match us, hl with | [_], _ => rfl
    f_Code_init := defS_of l_Code_init bc_Code_init bk_Code_init fun _ _ _ _ _ _ us hl => match us, hl with | [_, _], _ => rfl
    f_Code_read := defS_of l_Code_read bc_Code_read bk_Code_read fun _ _ _ _ _ _ us hl => match us, hl with | [_, _], _ => rfl
    f_Code_len := defS_of l_Code_len bc_Code_len bk_Code_len fun _ _ _ _ _ _ us hl => match us, hl with | [_], _ => rfl
    f_Code_eq := defS_of l_Code_eq bc_Code_eq bk_Code_eq fun _ _ _ _ _ _ us hl => match us, hl with | [_, _], _ => rfl
    f_Code_str := defS_of l_Code_str bc_Code_str bk_Code_str fun _ _ _ _ _ _ us hl => match us, hl with | [_], _ => rfl
    f__law_purse := defS_of l__law_purse bc__law_purse bk__law_purse fun _ _ _ _ _ _ us hl => match us, hl with | [_], _ => rfl
    f__law_take := defS_of l__law_take bc__law_take bk__law_take fun _ _ _ _ _ _ us hl => match us, hl with | [_, _], _ => rfl
    f__law_small := defS_of l__law_small bc__law_small bk__law_small fun _ _ _ _ _ _ us hl => match us, hl with | [_, _], _ => rfl
    f__law_name := defS_of l__law_name bc__law_name bk__law_name fun _ _ _ _ _ _ us hl => match us, hl with | [_], _ => rfl
    f__law_great := defS_of l__law_great bc__law_great bk__law_great fun _ _ _ _ _ _ us hl => match us, hl with | [_, _], _ => rfl
    f__law_choice := defS_of l__law_choice bc__law_choice bk__law_choice fun _ _ _ _ _ _ us hl => match us, hl with | [_], _ => rfl
    f__law_edge := defS_of l__law_edge bc__law_edge bk__law_edge fun _ _ _ _ _ _ us hl => match us, hl with | [_, _, _], _ => rfl
    f__law_row := defS_of l__law_row bc__law_row bk__law_row fun _ _ _ _ _ _ us hl => match us, hl with | [_, _], _ => rfl
    f__law_line := defS_of l__law_line bc__law_line bk__law_line fun _ _ _ _ _ _ us hl => match us, hl with | [_], _ => rfl
    f__law_bounds := defS_of l__law_bounds bc__law_bounds bk__law_bounds fun _ _ _ _ _ _ us hl => match us, hl with | [_, _], _ => rfl
    f__law_bad_number := defS_of l__law_bad_number bc__law_bad_number bk__law_bad_number fun _ _ _ _ _ _ us hl => match us, hl with | [_, _], _ => rfl
    f__law_bad_word := defS_of l__law_bad_word bc__law_bad_word bk__law_bad_word fun _ _ _ _ _ _ us hl => match us, hl with | [_, _], _ => rfl
    f__law_spoil := defS_of l__law_spoil bc__law_spoil bk__law_spoil fun _ _ _ _ _ _ us hl => match us, hl with | [_, _], _ => rfl
    f__law_plain := defS_of l__law_plain bc__law_plain bk__law_plain fun _ _ _ _ _ _ us hl => match us, hl with | [_], _ => rfl
    f__law_try := defS_of l__law_try bc__law_try bk__law_try fun _ _ _ _ _ _ us hl => match us, hl with | [_], _ => rfl
    f__law_base := defS_of l__law_base bc__law_base bk__law_base fun _ _ _ _ _ _ us hl => match us, hl with | [_], _ => rfl
    f__law_refused := defS_of l__law_refused bc__law_refused bk__law_refused fun _ _ _ _ _ _ us hl => match us, hl with | [_, _, _], _ => rfl
    f__law_right := defS_of l__law_right bc__law_right bk__law_right fun _ _ _ _ _ _ us hl => match us, hl with | [_, _], _ => rfl
    f__law_large := defS_of l__law_large bc__law_large bk__law_large fun _ _ _ _ _ _ us hl => match us, hl with | [_], _ => rfl
    f__law_spoilt := defS_of l__law_spoilt bc__law_spoilt bk__law_spoilt fun _ _ _ _ _ _ us hl => match us, hl with | [_, _, _], _ => rfl
    f_law := defS_of l_law bc_law bk_law fun _ _ _ _ _ _ us hl => match us, hl with | [_], _ => rfl
    hf_rows := hasFB_ok g bh_rows
    hf_text := hasFB_ok g bh_text
    xf_row := xfHB_ok g bh_x_row
    k_Code := ⟨b_mk, h_Code_init, b_fn_init, b_kc⟩
    cm_Code_read := ⟨mc_Code, p_read, ⟨b_rd, of_decide_eq_true b_ga⟩, ⟨at_read, ⟨_, rc_read⟩, b_fi⟩⟩
    tyt := htab
    eqt := eqB_ok g htab b_eq
    xct := xtabB_ok g b_xans b_xown b_base
    o_Code_len := ⟨h_Code_len, b_fn_len⟩
    o_Code_eq := ⟨h_Code_eq, b_fn_eq⟩
    o_Code_str := ⟨h_Code_str, b_fn_str⟩
    x_BadRow := xclB_ok g bx_BadRow
    x_TooLarge := xclB_ok g bx_TooLarge
    x_RightatlastError := xclB_ok g bx_RightatlastError
    er_TooLarge := er_TooLarge (g.1 _ _ h_TooLarge) oTL i_TL ⟨⟨_, _, _, l_TL⟩, bi_TL, of_decide_eq_true bj_TL, ⟨_, _, _, _, _, _, x_TL, v_TL, w_TL⟩, ⟨_, _, _, y_TL⟩, Option.isSome_iff_exists.mp bq_TL⟩ (of_decide_eq_true b_opq) hsu su (heirB_ok oTL b_hTL) t_TL rfl
    er_BadRow := er_BadRow t_RE rfl (g.1 _ _ h_BadRow) oBR i_BR ⟨⟨_, _, _, l_BR⟩, bi_BR, of_decide_eq_true bj_BR, ⟨_, _, _, _, _, _, x_BR, v_BR, w_BR⟩, ⟨_, _, _, y_BR⟩, Option.isSome_iff_exists.mp bq_BR⟩ ⟨⟨_, _, _, l_RE⟩, bi_RE, of_decide_eq_true bj_RE, ⟨_, _, _, _, _, _, x_RE, v_RE, w_RE⟩, ⟨_, _, _, y_RE⟩, Option.isSome_iff_exists.mp bq_RE⟩ (of_decide_eq_true b_opq) hsu su (bnone _ (by simp)) b_f2 (heirB_ok oBR b_hBR) (heirB_ok oBR b_hRE) }
end K50
set_option Elab.async false
set_option linter.all false
set_option maxRecDepth 100000
set_option maxHeartbeats 4000000
namespace Zed
open PySem L2 PySem.Spec PyProof.Rows
/-- what is asked of law: a list of at most 63 ints is handed in, True comes out -/
def spW (K : PySem.W.Frag) : Sp := fun vs H Q _ => ∃ (a : Addr) (ns : List Int), vs = [.ref a] ∧ SqL K H a (ns.map V.int) ∧ ns.length ≤ 63 ∧ ∀ H', Q (.bl true) H'
theorem reps_int {c : Ct} {G : Hp} : ∀ {ns : List Int}, Reps c G (ns.map V.int) (ns.map D.int)
  | [] => .nil
  | _ :: _ => .cons .int reps_int
/-- the plain law -/
def Plain (f : FDen) : Prop := ∀ ns : List Int, ns.length ≤ 63 → ∃ e, f [some (.frz (.scr (ns.map D.int)))] = some (.val (.frz (.bl true)) e)
theorem plain_sp {K : PySem.W.Frag} {mg : Str → Option Value} {f : FDen} (PL : Plain f) (vs : List V) (H : Hp) (Q : VK) (E : XK) (h : spW K vs H Q E) : SpOf (c0 K mg) 1 f vs H Q E := by
  obtain ⟨a, ns, rfl, hq, hl, k⟩ := h
  obtain ⟨e, he⟩ := PL ns hl
  refine ⟨rfl, H, [some (.frz (.scr (ns.map D.int)))], ⟨fun _ _ z => z, rfl, fun i lv h => ?_, fun i j oi oj a h1 => ?_⟩, ?_⟩
  · cases i with
    | zero => simp at h; subst h; exact ⟨.ref a, rfl, show Rep (c0 K mg) H (.ref a) (.scr (ns.map D.int)) from .scr (vs := ns.map V.int) hq reps_int⟩
    | succ i => simp at h
  · cases i with
    | zero => simp at h1
    | succ i => simp at h1
  · rw [he]
    intro v G' H' s ok
    have ok : Rep (c0 K mg) G' v (.bl true) := ok
    rw [ok.vbl]
    exact k H'
theorem walk {l : PySem.W.OpenLaw} {q : Program} {loose : List Str} {XP : (Str → Option Value) → Heap → Prop} {YP : World → Heap → Prop} {d : DefRec} {K : Params → PySem.W.Frag} {f : FDen} {k : Nat} (PL : Plain f) (hr : Room k callerA) (hn : l.most = some 63) (hdf : d.params.defaults = [])
    (hY : ∀ (w : World) (h : Heap), YP w h → (K w.params).In h)
    (F : ∀ (w : World) (mg : Str → Option Value) (fa : Addr) (h : Heap), (K w.params).In h → h.Ns mainGlobals mg → mg d.name = some (.ref fa) →
      ∃ fd : FuncData, (∀ (s : Shared) (u : Value), BindsTo s fd ⟨[u], []⟩ [("script", u)]) ∧ ∀ base : Heap, (K w.params).In base → base.Ns mainGlobals mg → FnOk l.prog w (K w.params) mg base (L2.CX l.prog w) k fa fd ["script"] (SpOf (c0 (K w.params) mg) 1 f)) :
    PySem.W.WalkO q loose XP YP l.row.toRowW d [] (fun f vs => PySem.call f vs) :=
  L2.walk_of (n := 63) (k := k) (x := "script") (CX := fun w => L2.CX l.prog w) (sp := fun w => spW (K w.params)) hn (by decide) hdf hr hY
    (fun w mg fa h KX G hm => let ⟨fd, b, F⟩ := F w mg fa h KX G hm; ⟨fd, b, fun base h1 h2 => (F base h1 h2).imp (plain_sp PL)⟩) (fun _ _ a ns hl _ hS => ⟨a, ns, rfl, hS, hl, fun _ => rfl⟩) fun _ _ _ _ _ z => by
      obtain ⟨_, _, _, _, _, _, _, _, _, _, _, _, _, _, _, _, w⟩ := z
      first | done | exact w.elim
end Zed
set_option Elab.async false
set_option linter.all false
set_option maxRecDepth 100000
set_option maxHeartbeats 4000000
namespace K50
open PySem L2 PySem.Spec PyProof.Rows Zed
variable {P : Program} {w : World} {K : PySem.W.Frag} {mg : Str → Option Value} {base : Heap} {Ad : AdT}
theorem fn_law (T : Tx P w K mg base Ad) {fd : FuncData} (F : L2.Fun K "law" "law" s_law Ad.a_law fd) : FnOk P w K mg base (L2.CX P w) 9 Ad.a_law fd ["script"] (SpOf (c0 K mg) 1 d_law) :=
  fn_ok (N := N_law) (ps := ["script"]) (Fx := flg [true, false, false, false, false, false, false, true]) (d := b_law) F sc_law fun cdv A outer s H E hr =>
  (SS.cons (S1.asg 1 (SE.call (ok__law_purse T) T.m__law_purse (hr.mono (by decide)) rfl bx_takes (SA.cons (SE.var 0) SA.nil)) rfl nd_law)
  (SS.cons (S1.asg 2 (SE.lst SDA.nil) rfl nd_law)
  (SS.cons (S1.for bx_passes rfl (SI.rng1 T.b_range (SA.cons (SE.op op_mod o_mod (SE.blty c_int o_int2 T.b_int PyProof.Rows.Boot.«int» (SA.cons (SE.op op_addA o_add (SE.call (ok__law_take T) T.m__law_take (hr.mono (by decide)) rfl bx_takes (SA.cons (SE.var 1) (SA.cons SE.int SA.nil))) SE.int) SA.nil)) SE.int) SA.nil)) (SG.name 3 rfl nd_law) (SS.one (S1.drop (SE.mut u_append PySem.F.slot_list_append PySem.F.type_list_append mt_append (SE.var 2) (SDA.cons (SE.call (ok__law_row T) T.m__law_row (hr.mono (by decide)) rfl bx_takes (SA.cons (SE.var 1) (SA.cons (SE.op op_mod o_mod (SE.blty c_int o_int2 T.b_int PyProof.Rows.Boot.«int» (SA.cons (SE.op op_addA o_add (SE.call (ok__law_take T) T.m__law_take (hr.mono (by decide)) rfl bx_takes (SA.cons (SE.var 1) (SA.cons SE.int SA.nil))) (SE.op op_mulA o_mul SE.int (SE.var 3))) SA.nil)) SE.int) SA.nil))) SDA.nil)))))
  (SS.cons (S1.asg 4 (SE.met o_join PySem.F.plainAttrs_str PySem.F.slot_str_join PySem.F.type_str_join mt_join SE.str (SA.cons (SE.lc [7] rfl nd_law (SI.list (SE.var 2)) (blkOk_by (own := [("row", 7)]) (by first | rfl | kernel_rfl)) rfl (fun s H C cl fp => ⟨(SG.name 7 rfl nd_law), STs.nil, (SE.call (ok__law_line T) T.m__law_line (hr.mono (by decide)) rfl tk0 (SA.cons (SE.var 7) SA.nil))⟩)) SA.nil)) rfl nd_law)
  (SS.cons (S1.ifs (ST.not (ST.tru (SE.call (ok__law_right T) T.m__law_right (hr.mono (by decide)) rfl bx_takes (SA.cons (SE.var 4) (SA.cons (SE.var 2) SA.nil))))) (SS.one (S1.ret SE.bl)) SS.nil)
  (SS.cons (S1.for bx_passes rfl (SI.rng1 T.b_range (SA.cons SE.int SA.nil)) (SG.name 5 rfl nd_law) (SS.cons (S1.asg 6 (SE.call (ok__law_spoilt T) T.m__law_spoilt (hr.mono (by decide)) rfl bx_takes (SA.cons (SE.var 1) (SA.cons (SE.var 2) (SA.cons (SE.var 5) SA.nil)))) rfl nd_law)
  (SS.cons (S1.ifs (ST.not (ST.tru (SE.call (ok__law_refused T) T.m__law_refused (hr.mono (by decide)) rfl bx_takes (SA.cons (SE.met o_join PySem.F.plainAttrs_str PySem.F.slot_str_join PySem.F.type_str_join mt_join SE.str (SA.cons (SE.ix ix_seq o_ix (SE.var 6) SE.int) SA.nil)) (SA.cons SE.str (SA.cons (SE.ix ix_seq o_ix (SE.var 6) SE.int) SA.nil)))))) (SS.one (S1.ret SE.bl)) SS.nil)
  (SS.one (S1.ifs (ST.cmp (op_neA hr.units) o_ne (SE.fld cf_text T.hf_text (SE.cm (cm_Code_read T) (hr.mono (by decide)) rfl bx_takes (SA.cons (SE.var 4) SA.nil))) (SE.var 4)) (SS.one (S1.ret SE.bl)) SS.nil)))))
  (SS.one (S1.ret (SE.call (ok__law_large T) T.m__law_large (hr.mono (by decide)) rfl bx_takes (SA.cons (SE.var 1) SA.nil))))))))))
theorem at_law {fa : Addr} (hm : mg "law" = some (.ref fa)) (h : Heap) (T : ∃ Ad : AdT, mg "law" = some (.ref Ad.a_law) ∧ ∀ base, Tx P w K mg base Ad) : ∃ fd : FuncData, (∀ (s : Shared) (u : Value), BindsTo s fd ⟨[u], []⟩ [("script", u)]) ∧ ∀ base : Heap, K.In base → base.Ns mainGlobals mg → FnOk P w K mg base (L2.CX P w) 9 fa fd ["script"] (SpOf (c0 K mg) 1 d_law) := by
  obtain ⟨Ad, T1, T2⟩ := T
  have e := hm.symm.trans T1
  cases e
  obtain ⟨fd, F, hb⟩ := (T2 h).f_law.ex
  refine ⟨fd, fun s u => ?_, fun base _ _ => fn_law (T2 base) F⟩
  obtain ⟨oc, od, kV, doc, pm, an, cdv, ct, osl, rfl, _, _⟩ := F.ex
  exact .of_eq rfl
end K50
set_option Elab.async false
set_option linter.all false
set_option maxRecDepth 100000
set_option maxHeartbeats 4000000
namespace K50
open PySem Zed
structure Bag where
  cs : List Int
  a : Int
  r : Int
  t : Int
structure Bag.Ok (b : Bag) : Prop where
  pos : ∀ c ∈ b.cs, 0 ≤ c
  a0 : 0 ≤ b.a
  a1 : b.a ≤ b.cs.length
  r0 : 0 ≤ b.r
  t0 : 0 ≤ b.t
def Bag.o (b : Bag) : O := .lst [.lst (b.cs.map .int), .int b.a, .int b.r, .int b.t]
def Bag.fill (b : Bag) : Bag := if b.a = b.cs.length then ⟨b.cs, 1, b.cs.getD 0 0 + (b.t + 1) * 7919, b.t + 1⟩ else ⟨b.cs, b.a + 1, b.cs.getD b.a.toNat 0 + b.t * 7919, b.t⟩
def Bag.cut (b : Bag) (m : Int) : Bag := { b with r := b.r / m }
def Bag.take (b : Bag) (m : Int) : Int × Bag := if b.r = 0 then (if b.cs = [] then (0, b) else (b.fill.r % m, b.fill.cut m)) else (b.r % m, b.cut m)
theorem Bag.fill_ok {b : Bag} (h : b.Ok) (hc : b.cs ≠ []) : b.fill.Ok := by
  have hl : 0 < b.cs.length := List.length_pos_iff.mpr hc
  have g : ∀ i, 0 ≤ b.cs.getD i 0 := fun i => by
    rw [List.getD_eq_getElem?_getD]
    cases e : b.cs[i]? with
    | none => simp
    | some c => exact h.pos c (List.mem_of_getElem? e)
  unfold Bag.fill
  split
  · exact ⟨h.pos, by show (0 : Int) ≤ 1; omega, by show (1 : Int) ≤ (b.cs.length : Int); omega, by have := g 0; have := h.t0; show 0 ≤ b.cs.getD 0 0 + (b.t + 1) * 7919; omega, by have := h.t0; show 0 ≤ b.t + 1; omega⟩
  · rename_i hne
    have := h.a0
    have := h.a1
    exact ⟨h.pos, by show 0 ≤ b.a + 1; omega, by show b.a + 1 ≤ (b.cs.length : Int); omega, by have := g b.a.toNat; have := h.t0; show 0 ≤ b.cs.getD b.a.toNat 0 + b.t * 7919; omega, h.t0⟩
theorem Bag.cut_ok {b : Bag} {m : Int} (h : b.Ok) (hm : 0 < m) : (b.cut m).Ok := ⟨h.pos, h.a0, h.a1, Int.ediv_nonneg h.r0 (Int.le_of_lt hm), h.t0⟩
theorem Bag.take_ok {b : Bag} {m : Int} (h : b.Ok) (hm : 0 < m) : (b.take m).2.Ok ∧ 0 ≤ (b.take m).1 ∧ (b.take m).1 < m := by
  unfold Bag.take
  split
  · split
    · exact ⟨h, Int.le_refl 0, hm⟩
    · rename_i hc
      exact ⟨Bag.cut_ok (Bag.fill_ok h hc) hm, Int.emod_nonneg _ (by omega), Int.emod_lt_of_pos _ hm⟩
  · exact ⟨Bag.cut_ok h hm, Int.emod_nonneg _ (by omega), Int.emod_lt_of_pos _ hm⟩
theorem ixN_nat {n : Nat} {i : Int} (h0 : 0 ≤ i) (h1 : i < n) : L2.ixN n i = some i.toNat := by
  unfold L2.ixN; rw [if_pos h0, if_pos h1]
theorem at_nat {α : Type} {ds : List α} {i : Int} (h0 : 0 ≤ i) : L2.atI ds i = ds[i.toNat]? := by
  unfold L2.atI
  by_cases h1 : i < ds.length
  · rw [ixN_nat h0 h1]; rfl
  · unfold L2.ixN; rw [if_pos h0, if_neg h1, List.getElem?_eq_none (by omega)]; rfl
theorem at_map {cs : List Int} {i : Int} (h0 : 0 ≤ i) (h1 : i < cs.length) : L2.atI (cs.map D.int) i = some (.int (cs.getD i.toNat 0)) := by
  rw [at_nat h0, List.getElem?_map, List.getD_eq_getElem?_getD, List.getElem?_eq_getElem (by omega)]; rfl
theorem take_eq {b : Bag} {m : Int} (h : b.Ok) (hm : 0 < m) (hm2 : m < 1073741824) : d__law_take [some (.own b.o), some (.frz (.int m))] = some (.val (.frz (.int (b.take m).1)) [some (.own (b.take m).2.o), some (.frz (.int m))]) := by
  unfold d__law_take runF
  rw [if_pos ⟨rfl, rfl⟩]
  obtain ⟨cs, a, r, t⟩ := b
  obtain ⟨hp, h1, h2, h3, h4⟩ := h
  dsimp only at hp h1 h2 h3 h4
  have c2 : ∀ p q s u : D, L2.atI [p, q, s, u] 2 = some s := fun _ _ _ _ => rfl
  have c1 : ∀ p q s u : D, L2.atI [p, q, s, u] 1 = some q := fun _ _ _ _ => rfl
  have c0 : ∀ p q s u : D, L2.atI [p, q, s, u] 0 = some p := fun _ _ _ _ => rfl
  have c3 : ∀ p q s u : D, L2.atI [p, q, s, u] 3 = some u := fun _ _ _ _ => rfl
  have x1 : L2.ixN 4 1 = some 1 := rfl
  have x2 : L2.ixN 4 2 = some 2 := rfl
  have x3 : L2.ixN 4 3 = some 3 := rfl
  by_cases hr : r = 0
  · by_cases hc : cs = []
    · subst hr hc
      simp [b__law_take, Bag.take, Bag.o, seqS, ifS, Rs.s, Rs.b, tst, asB, Zed.bin, var, cst, peek2, peek, ixD, c0, c1, c2, c3, out, eqD, eqDD, notT, tru, truD, O.fz, O.d, retS, endF, mask, giveR, flg]
    · subst hr
      have hl : 0 < cs.length := List.length_pos_iff.mpr hc
      by_cases ha : a = cs.length
      · subst ha
        have e0 : L2.atI (cs.map D.int) 0 = some (.int (cs.getD 0 0)) := at_map (by omega) (by omega)
        simp [b__law_take, Bag.take, Bag.fill, Bag.cut, Bag.o, hc, seqS, ifS, Rs.s, Rs.b, tst, asB, Zed.bin, var, cst, peek2, peek, ixD, c0, c1, c2, c3, x1, x2, x3, e0, out, eqD, eqDD, notT, tru, truD, O.fz, O.d, retS, endF, mask, giveR, flg, bltE, peekN, peekL, lenN, intN, aCons, aNil, subS, fzE, freeze, ownL, addD, mulD, mulOk, modD, fdivD, asgS, bindR, skip, hm, hm2]
      · have e0 : L2.atI (cs.map D.int) a = some (.int (cs.getD a.toNat 0)) := at_map h1 (by omega)
        simp [b__law_take, Bag.take, Bag.fill, Bag.cut, Bag.o, hc, ha, seqS, ifS, Rs.s, Rs.b, tst, asB, Zed.bin, var, cst, peek2, peek, ixD, c0, c1, c2, c3, x1, x2, x3, e0, out, eqD, eqDD, notT, tru, truD, O.fz, O.d, retS, endF, mask, giveR, flg, bltE, peekN, peekL, lenN, intN, aCons, aNil, subS, fzE, freeze, ownL, addD, mulD, mulOk, modD, fdivD, asgS, bindR, skip, hm, hm2]
  · simp [b__law_take, Bag.take, Bag.fill, Bag.cut, Bag.o, hr, seqS, ifS, Rs.s, Rs.b, tst, asB, Zed.bin, var, cst, peek2, peek, ixD, c0, c1, c2, c3, x1, x2, x3, out, eqD, eqDD, notT, tru, truD, O.fz, O.d, retS, endF, mask, giveR, flg, bltE, peekN, peekL, lenN, intN, aCons, aNil, subS, fzE, freeze, ownL, addD, mulD, mulOk, modD, fdivD, asgS, bindR, skip, hm, hm2]
end K50
set_option Elab.async false
set_option linter.all false
set_option maxRecDepth 100000
set_option maxHeartbeats 4000000
namespace Zed
open PySem
/-- a loop by its invariant -/
theorem iter_ind {b : Bnd} {body : Stm} {ds : List D} (P : Nat → Env → Prop) (step : ∀ i d env, ds[i]? = some d → P i env → ∃ e1 e2, b d env = some e1 ∧ (body e1 = some (.nx e2) ∨ body e1 = some (.cont e2)) ∧ P (i + 1) e2) :
    ∀ (k : Nat) (rest : List D) (env : Env), ds.drop k = rest → P k env → ∃ env', iter b body rest env = some (.nx env') ∧ P (k + rest.length) env'
  | k, [], env, _, h => ⟨env, rfl, h⟩
  | k, d :: rest, env, hd, h => by
    have h1 : ds[k]? = some d := by rw [← List.head?_drop, hd]; rfl
    have h2 : ds.drop (k + 1) = rest := by rw [← List.tail_drop, hd]; rfl
    obtain ⟨e1, e2, a1, a2, a3⟩ := step k d env h1 h
    obtain ⟨env', z1, z2⟩ := iter_ind P step (k + 1) rest e2 h2 a3
    refine ⟨env', ?_, by rw [List.length_cons, show k + (rest.length + 1) = k + 1 + rest.length by omega]; exact z2⟩
    unfold iter
    rw [a1]
    dsimp only
    rcases a2 with a2 | a2 <;> rw [a2] <;> exact z1
theorem iter_all {b : Bnd} {body : Stm} {ds : List D} {env : Env} (P : Nat → Env → Prop) (h0 : P 0 env) (step : ∀ i d env, ds[i]? = some d → P i env → ∃ e1 e2, b d env = some e1 ∧ (body e1 = some (.nx e2) ∨ body e1 = some (.cont e2)) ∧ P (i + 1) e2) :
    ∃ env', iter b body ds env = some (.nx env') ∧ P ds.length env' := by
  have := iter_ind P step 0 ds env rfl h0
  rw [Nat.zero_add] at this
  exact this
theorem itE_eq {α : Type} {f : Zed.Env → Option (Rs α)} {k : α → Option (List D)} {env e1 : Zed.Env} {a : α} {ds : List D} (h1 : f env = some (.val a e1)) (h2 : k a = some ds) : itE f k env = some (.val ds e1) := by
  unfold itE Rs.b
  rw [h1]
  dsimp only
  rw [h2]
theorem for_eq {b : Bnd} {it : Seq} {body : Stm} {env e1 : Zed.Env} {ds : List D} (h : it env = some (.val ds e1)) : forI b it body env = iter b body ds e1 := by
  unfold forI Rs.s
  rw [h]
theorem seq_nx {f g : Stm} {env e1 : Zed.Env} (h : f env = some (.nx e1)) : seqS f g env = g e1 := by
  unfold seqS
  rw [h]
theorem seq_ret {f g : Stm} {env e1 : Zed.Env} {r : RV} (h : f env = some (.ret r e1)) : seqS f g env = some (.ret r e1) := by
  unfold seqS
  rw [h]
theorem if_t {t : Tst} {f g : Stm} {env e1 : Zed.Env} (h : t env = some (.val true e1)) : ifS t f g env = f e1 := by
  unfold ifS Rs.s
  rw [h]; rfl
theorem if_f {t : Tst} {f g : Stm} {env e1 : Zed.Env} (h : t env = some (.val false e1)) : ifS t f g env = g e1 := by
  unfold ifS Rs.s
  rw [h]; rfl
theorem ret_eq {f : Exp} {env e1 : Zed.Env} {r : RV} (h : f env = some (.val r e1)) : retS f env = some (.ret r e1) := by
  unfold retS Rs.s
  rw [h]
theorem run_eq {np nl : Nat} {F : Nat → Bool} {body : Stm} {as : Zed.Env} {fl : Option Fl} (h0 : as.length = np ∧ okIn F 0 as = true) (h : body (as ++ List.replicate (nl - np) none) = fl) : runF np nl F body as = endF np F as fl := by
  unfold runF
  rw [if_pos h0, h]
theorem rng_len {lo : Int} {n : Nat} : (rngD lo n).length = n := by unfold rngD; simp
end Zed
namespace K50
open PySem Zed
theorem call_take {env : Zed.Env} {i : Nat} {b : Bag} {m : Int} {g : Zed.Args} (h : b.Ok) (hm : 0 < m) (hm2 : m < 1073741824) (he : env[i]? = some (some (.own b.o))) (hg : g env = some (.val [.slot i, .frz (.int m)] env)) :
    callE d__law_take [] g env = some (.val (.frz (.int (b.take m).1)) (env.set i (some (.own (b.take m).2.o)))) := by
  unfold callE
  rw [hg]
  have e1 : normL [.slot i, .frz (.int m)] env = some ([.slot i, .frz (.int m)], [some (.own b.o), some (.frz (.int m))]) := by
    simp [normL, normR, he]
  show callK _ _ _ _ = _
  unfold callK
  rw [e1]
  dsimp only
  rw [if_pos (by simp [slotsOf])]
  show (match d__law_take [some (.own b.o), some (.frz (.int m))] with | some (.val r as') => _ | some (.exc x as') => _ | none => _) = _
  rw [take_eq h hm hm2]
  rfl
theorem rng_nat {n : Nat} (hn : n ≤ 1000) : rng1 [.frz (.int (n : Int))] = some (rngD 0 n) := by
  have h : -(2 ^ 62) ≤ (n : Int) ∧ (n : Int) < 2 ^ 62 := ⟨by omega, by omega⟩
  simp only [rng1, h, and_self, if_true, Int.toNat_natCast]
theorem low_at {j : Nat} (hj : j < 26) : ixD (.str "abcdefghijklmnopqrstuvwxyz") (.int (j : Int)) = some (.frz (.str ⟨#[97 + j]⟩)) := by
  have key : ∀ j : Fin 26, L2.atI ("abcdefghijklmnopqrstuvwxyz" : Str).cps.toList ((j.val : Nat) : Int) = some (97 + j.val) := by decide +kernel
  have sz : ("abcdefghijklmnopqrstuvwxyz" : Str).length ≤ sizeLine := by decide +kernel
  unfold ixD
  dsimp only
  rw [if_pos sz, key ⟨j, hj⟩]
  rfl
theorem add_letter {w : List Nat} {c : Nat} (h : w.length ≤ 1000) : addD (.str ⟨w.toArray⟩) (.str ⟨#[c]⟩) = some (.frz (.str ⟨(w ++ [c]).toArray⟩)) := by
  have sz : 1001 ≤ sizeLine := by decide +kernel
  show (if w.toArray.size + 1 ≤ sizeLine then some (OV.frz (.str ((⟨w.toArray⟩ : Str) ++ (⟨#[c]⟩ : Str)))) else none) = _
  rw [if_pos (by simp only [List.size_toArray]; omega)]
  show some (OV.frz (.str ⟨w.toArray ++ #[c]⟩)) = _
  simp
end K50
set_option Elab.async false
set_option linter.all false
set_option maxRecDepth 100000
set_option maxHeartbeats 4000000
namespace K50
open PySem Zed
abbrev smallB : Stm := asgS 2 (Zed.bin addD (var 2) (Zed.bin ixD (cst (.str "abcdefghijklmnopqrstuvwxyz")) (callE d__law_take [] (aCons (var 0) (aCons (cst (.int 26)) aNil)))))
def smE (b : Bag) (n : Int) (w : List Nat) (l : Option LV) : Zed.Env := [some (.own b.o), some (.frz (.int n)), some (.frz (.str ⟨w.toArray⟩)), l]
theorem small_step {b : Bag} {n : Int} {w : List Nat} {l : Option LV} (h : b.Ok) (hw : w.length ≤ 1000) : ∃ c b', smallB (smE b n w l) = some (.nx (smE b' n (w ++ [c]) l)) ∧ b'.Ok ∧ 97 ≤ c ∧ c ≤ 122 := by
  obtain ⟨k1, k2, k3⟩ := Bag.take_ok (m := 26) h (by omega)
  have e := call_take (env := smE b n w l) (i := 0) (g := aCons (var 0) (aCons (cst (.int 26)) aNil)) h (m := 26) (by omega) (by omega) rfl rfl
  generalize (b.take 26).1 = x at k2 k3 e
  obtain ⟨j, rfl⟩ : ∃ j : Nat, x = j := ⟨x.toNat, by omega⟩
  have hj : j < 26 := by omega
  refine ⟨97 + j, (b.take 26).2, ?_, k1, by omega, by omega⟩
  have e2 := low_at hj
  have e3 := add_letter (c := 97 + j) hw
  have v2 : var 2 (smE b n w l) = some (.val (.frz (.str ⟨w.toArray⟩)) (smE b n w l)) := rfl
  show asgS 2 (Zed.bin addD (var 2) (Zed.bin ixD (cst (.str "abcdefghijklmnopqrstuvwxyz")) (callE d__law_take [] (aCons (var 0) (aCons (cst (.int 26)) aNil))))) (smE b n w l) = _
  simp only [asgS, Rs.s, Rs.b, Zed.bin, v2, cst, e, peek2, peek, e2, e3, out, bindR]
  rfl
end K50
set_option Elab.async false
set_option linter.all false
set_option maxRecDepth 100000
set_option maxHeartbeats 4000000
namespace K50
open PySem Zed
theorem small_loop {b : Bag} (h : b.Ok) {n : Nat} (hn : n ≤ 1000) : ∃ e w b' l, iter (bName 3) smallB (rngD 0 n) (smE b n [] none) = some (.nx e) ∧ e = smE b' n w l ∧ b'.Ok ∧ w.length = n ∧ ∀ c ∈ w, 97 ≤ c ∧ c ≤ 122 := by
  obtain ⟨e, h1, w, b', l, h2, h3, h4, h5⟩ := iter_all (b := bName 3) (body := smallB) (ds := rngD 0 n) (env := smE b n [] none)
    (fun i e => ∃ w b' l, e = smE b' n w l ∧ b'.Ok ∧ w.length = i ∧ ∀ c ∈ w, 97 ≤ c ∧ c ≤ 122) ⟨[], b, none, rfl, h, rfl, fun c hc => by cases hc⟩ (by
      rintro i d env hd ⟨w, b1, l, rfl, ok, hl, hc⟩
      have hi : i < n := by have := (List.getElem?_eq_some_iff.mp hd).1; rw [rng_len] at this; exact this
      obtain ⟨c, b2, q1, q2, q3⟩ := small_step (n := n) (w := w) (l := some (.frz d)) ok (by omega)
      refine ⟨smE b1 n w (some (.frz d)), _, rfl, .inl q1, _, _, _, rfl, q2, by simp [hl], fun k hk => ?_⟩
      rcases List.mem_append.mp hk with hk | hk
      · exact hc k hk
      · rw [List.mem_singleton.mp hk]; exact q3)
  rw [rng_len] at h4
  exact ⟨e, w, b', l, h1, h2, h3, h4, h5⟩
/-- a word of small letters -/
theorem small_ok {b : Bag} (h : b.Ok) {n : Nat} (hn : n ≤ 1000) : ∃ (w : List Nat) (b' : Bag), d__law_small [some (.own b.o), some (.frz (.int (n : Int)))] = some (.val (.frz (.str ⟨w.toArray⟩)) [some (.own b'.o), some (.frz (.int (n : Int)))]) ∧ b'.Ok ∧ w.length = n ∧ ∀ c ∈ w, 97 ≤ c ∧ c ≤ 122 := by
  obtain ⟨e, w, b', l, e1, rfl, ok, hl, hc⟩ := small_loop h hn
  refine ⟨w, b', ?_, ok, hl, hc⟩
  have a1 : asgS 2 (cst (.str "")) ([some (.own b.o), some (.frz (.int (n : Int)))] ++ List.replicate (4 - 2) none) = some (.nx (smE b n [] none)) := rfl
  have a2 : itE (aCons (var 1) aNil) rng1 (smE b n [] none) = some (.val (rngD 0 n) (smE b n [] none)) := by
    have e0 := rng_nat (n := n) hn
    have e1 : aCons (var 1) aNil (smE b n [] none) = some (.val [.frz (.int (n : Int))] (smE b n [] none)) := rfl
    generalize hk : rng1 = k at e0 ⊢
    exact itE_eq e1 e0
  have a3 : forI (bName 3) (itE (aCons (var 1) aNil) rng1) smallB (smE b n [] none) = some (.nx (smE b' n w l)) := (for_eq a2).trans e1
  have a4 : retS (var 2) (smE b' n w l) = some (.ret (.frz (.str ⟨w.toArray⟩)) (smE b' n w l)) := rfl
  have a5 : b__law_small ([some (.own b.o), some (.frz (.int (n : Int)))] ++ List.replicate (4 - 2) none) = some (.ret (.frz (.str ⟨w.toArray⟩)) (smE b' n w l)) := (seq_nx a1).trans ((seq_nx a3).trans a4)
  exact run_eq ⟨rfl, rfl⟩ a5
end K50
set_option Elab.async false
set_option linter.all false
set_option maxRecDepth 100000
set_option maxHeartbeats 4000000
namespace K50
open PySem Zed
theorem up_at {j : Nat} (hj : j < 26) : ixD (.str "ABCDEFGHIJKLMNOPQRSTUVWXYZ") (.int (j : Int)) = some (.frz (.str ⟨#[65 + j]⟩)) := by
  have key : ∀ j : Fin 26, L2.atI ("ABCDEFGHIJKLMNOPQRSTUVWXYZ" : Str).cps.toList ((j.val : Nat) : Int) = some (65 + j.val) := by decide +kernel
  have sz : ("ABCDEFGHIJKLMNOPQRSTUVWXYZ" : Str).length ≤ sizeLine := by decide +kernel
  unfold ixD
  dsimp only
  rw [if_pos sz, key ⟨j, hj⟩]
  rfl
abbrev greatB : Stm := asgS 2 (Zed.bin addD (var 2) (Zed.bin ixD (cst (.str "ABCDEFGHIJKLMNOPQRSTUVWXYZ")) (callE d__law_take [] (aCons (var 0) (aCons (cst (.int 26)) aNil)))))
theorem great_step {b : Bag} {n : Int} {w : List Nat} {l : Option LV} (h : b.Ok) (hw : w.length ≤ 1000) : ∃ c b', greatB (smE b n w l) = some (.nx (smE b' n (w ++ [c]) l)) ∧ b'.Ok ∧ 65 ≤ c ∧ c ≤ 90 := by
  obtain ⟨k1, k2, k3⟩ := Bag.take_ok (m := 26) h (by omega)
  have e := call_take (env := smE b n w l) (i := 0) (g := aCons (var 0) (aCons (cst (.int 26)) aNil)) h (m := 26) (by omega) (by omega) rfl rfl
  generalize (b.take 26).1 = x at k2 k3 e
  obtain ⟨j, rfl⟩ : ∃ j : Nat, x = j := ⟨x.toNat, by omega⟩
  have hj : j < 26 := by omega
  refine ⟨65 + j, (b.take 26).2, ?_, k1, by omega, by omega⟩
  have e2 := up_at hj
  have e3 := add_letter (c := 65 + j) hw
  have v2 : var 2 (smE b n w l) = some (.val (.frz (.str ⟨w.toArray⟩)) (smE b n w l)) := rfl
  show asgS 2 (Zed.bin addD (var 2) (Zed.bin ixD (cst (.str "ABCDEFGHIJKLMNOPQRSTUVWXYZ")) (callE d__law_take [] (aCons (var 0) (aCons (cst (.int 26)) aNil))))) (smE b n w l) = _
  simp only [asgS, Rs.s, Rs.b, Zed.bin, v2, cst, e, peek2, peek, e2, e3, out, bindR]
  rfl
theorem great_loop {b : Bag} (h : b.Ok) {n : Nat} (hn : n ≤ 1000) : ∃ e w b' l, iter (bName 3) greatB (rngD 0 n) (smE b n [] none) = some (.nx e) ∧ e = smE b' n w l ∧ b'.Ok ∧ w.length = n ∧ ∀ c ∈ w, 65 ≤ c ∧ c ≤ 90 := by
  obtain ⟨e, h1, w, b', l, h2, h3, h4, h5⟩ := iter_all (b := bName 3) (body := greatB) (ds := rngD 0 n) (env := smE b n [] none)
    (fun i e => ∃ w b' l, e = smE b' n w l ∧ b'.Ok ∧ w.length = i ∧ ∀ c ∈ w, 65 ≤ c ∧ c ≤ 90) ⟨[], b, none, rfl, h, rfl, fun c hc => by cases hc⟩ (by
      rintro i d env hd ⟨w, b1, l, rfl, ok, hl, hc⟩
      have hi : i < n := by have := (List.getElem?_eq_some_iff.mp hd).1; rw [rng_len] at this; exact this
      obtain ⟨c, b2, q1, q2, q3⟩ := great_step (n := n) (w := w) (l := some (.frz d)) ok (by omega)
      refine ⟨smE b1 n w (some (.frz d)), _, rfl, .inl q1, _, _, _, rfl, q2, by simp [hl], fun k hk => ?_⟩
      rcases List.mem_append.mp hk with hk | hk
      · exact hc k hk
      · rw [List.mem_singleton.mp hk]; exact q3)
  rw [rng_len] at h4
  exact ⟨e, w, b', l, h1, h2, h3, h4, h5⟩
/-- a word of great letters -/
theorem great_ok {b : Bag} (h : b.Ok) {n : Nat} (hn : n ≤ 1000) : ∃ (w : List Nat) (b' : Bag), d__law_great [some (.own b.o), some (.frz (.int (n : Int)))] = some (.val (.frz (.str ⟨w.toArray⟩)) [some (.own b'.o), some (.frz (.int (n : Int)))]) ∧ b'.Ok ∧ w.length = n ∧ ∀ c ∈ w, 65 ≤ c ∧ c ≤ 90 := by
  obtain ⟨e, w, b', l, e1, rfl, ok, hl, hc⟩ := great_loop h hn
  refine ⟨w, b', ?_, ok, hl, hc⟩
  have a1 : asgS 2 (cst (.str "")) ([some (.own b.o), some (.frz (.int (n : Int)))] ++ List.replicate (4 - 2) none) = some (.nx (smE b n [] none)) := rfl
  have a2 : itE (aCons (var 1) aNil) rng1 (smE b n [] none) = some (.val (rngD 0 n) (smE b n [] none)) := by
    have e0 := rng_nat (n := n) hn
    have e1 : aCons (var 1) aNil (smE b n [] none) = some (.val [.frz (.int (n : Int))] (smE b n [] none)) := rfl
    generalize hk : rng1 = k at e0 ⊢
    exact itE_eq e1 e0
  have a3 : forI (bName 3) (itE (aCons (var 1) aNil) rng1) greatB (smE b n [] none) = some (.nx (smE b' n w l)) := (for_eq a2).trans e1
  have a4 : retS (var 2) (smE b' n w l) = some (.ret (.frz (.str ⟨w.toArray⟩)) (smE b' n w l)) := rfl
  have a5 : b__law_great ([some (.own b.o), some (.frz (.int (n : Int)))] ++ List.replicate (4 - 2) none) = some (.ret (.frz (.str ⟨w.toArray⟩)) (smE b' n w l)) := (seq_nx a1).trans ((seq_nx a3).trans a4)
  exact run_eq ⟨rfl, rfl⟩ a5
end K50
set_option Elab.async false
set_option linter.all false
set_option maxRecDepth 100000
set_option maxHeartbeats 4000000
namespace Zed
open PySem
/-- a call with an own thing first and one settled thing -/
theorem call_own {f : FDen} {env e1 : Zed.Env} {i : Nat} {o o' : O} {d d' : D} {x : Option LV} {g : Zed.Args} (hg : g env = some (.val [.slot i, .frz d] e1)) (he : e1[i]? = some (some (.own o))) (hf : f [some (.own o), some (.frz d)] = some (.val (.frz d') [some (.own o'), x])) :
    callE f [] g env = some (.val (.frz d') (e1.set i (some (.own o')))) := by
  unfold callE
  rw [hg]
  have h1 : normL [.slot i, .frz d] e1 = some ([.slot i, .frz d], [some (.own o), some (.frz d)]) := by simp [normL, normR, he]
  show callK _ _ _ _ = _
  unfold callK
  rw [h1]
  dsimp only
  rw [if_pos (by simp [slotsOf])]
  show (match f [some (.own o), some (.frz d)] with | some (.val r as') => _ | some (.exc x as') => _ | none => _) = _
  rw [hf]
  rfl
theorem asg_frz {f : Exp} {env e1 : Zed.Env} {d : D} {i : Nat} (h : f env = some (.val (.frz d) e1)) : asgS i f env = some (.nx (e1.set i (some (.frz d)))) := by
  unfold asgS Rs.s
  rw [h]; rfl
theorem bin_frz {o : D → D → Option OV} {fa fb : Exp} {env e1 e2 : Zed.Env} {a b z : D} (h1 : fa env = some (.val (.frz a) e1)) (h2 : fb e1 = some (.val (.frz b) e2)) (h3 : o a b = some (.frz z)) : Zed.bin o fa fb env = some (.val (.frz z) e2) := by
  unfold Zed.bin Rs.b
  rw [h1]; dsimp only; rw [h2]; dsimp only [peek2, peek]; rw [h3]; rfl
end Zed
namespace K50
open PySem Zed
def edge (b : Bag) (lo hi : Int) : Int × Bag := if (b.take 4).1 = 0 then (lo, (b.take 4).2) else if (b.take 4).1 = 1 then (hi, (b.take 4).2) else (lo + ((b.take 4).2.take (hi - lo + 1)).1, ((b.take 4).2.take (hi - lo + 1)).2)
theorem edge_ok {b : Bag} (h : b.Ok) {lo hi : Int} (hl : lo ≤ hi) : (edge b lo hi).2.Ok ∧ lo ≤ (edge b lo hi).1 ∧ (edge b lo hi).1 ≤ hi := by
  obtain ⟨k1, k2, k3⟩ := Bag.take_ok (m := 4) h (by omega)
  obtain ⟨q1, q2, q3⟩ := Bag.take_ok (m := hi - lo + 1) k1 (by omega)
  unfold edge
  split
  · exact ⟨k1, by dsimp only; omega, by dsimp only; omega⟩
  · split
    · exact ⟨k1, by dsimp only; omega, by dsimp only; omega⟩
    · exact ⟨q1, by dsimp only; omega, by dsimp only; omega⟩
theorem edge_eq {b : Bag} (h : b.Ok) {lo hi : Int} (hl : lo ≤ hi) (hh : hi - lo + 1 < 1073741824) :
    d__law_edge [some (.own b.o), some (.frz (.int lo)), some (.frz (.int hi))] = some (.val (.frz (.int (edge b lo hi).1)) [some (.own (edge b lo hi).2.o), some (.frz (.int lo)), some (.frz (.int hi))]) := by
  obtain ⟨k1, k2, k3⟩ := Bag.take_ok (m := 4) h (by omega)
  have e1 : callE d__law_take [] (aCons (var 0) (aCons (cst (.int 4)) aNil)) [some (.own b.o), some (.frz (.int lo)), some (.frz (.int hi)), none] = some (.val (.frz (.int (b.take 4).1)) [some (.own (b.take 4).2.o), some (.frz (.int lo)), some (.frz (.int hi)), none]) :=
    call_take h (by omega) (by omega) (i := 0) rfl rfl
  have e2 := call_take (env := [some (.own (b.take 4).2.o), some (.frz (.int lo)), some (.frz (.int hi)), some (.frz (.int (b.take 4).1))]) (i := 0) (g := aCons (var 0) (aCons (Zed.bin addD (Zed.bin (intD fun i j => i - j) (var 2) (var 1)) (cst (.int 1))) aNil)) k1 (m := hi - lo + 1) (by omega) hh rfl rfl
  have e0 : ([some (.own b.o), some (.frz (.int lo)), some (.frz (.int hi))] : Zed.Env) ++ List.replicate (4 - 3) none = [some (.own b.o), some (.frz (.int lo)), some (.frz (.int hi)), none] := rfl
  unfold d__law_edge runF
  rw [if_pos ⟨rfl, rfl⟩, e0]
  by_cases h0 : (b.take 4).1 = 0
  · simp [b__law_edge, edge, seqS, asgS, Rs.s, e1, h0, bindR, ifS, tst, Rs.b, asB, Zed.bin, var, cst, peek2, peek, eqD, eqDD, out, retS, endF, giveR, mask, flg]
  · by_cases h1 : (b.take 4).1 = 1
    · simp [b__law_edge, edge, seqS, asgS, Rs.s, e1, h1, bindR, ifS, tst, Rs.b, asB, Zed.bin, var, cst, peek2, peek, eqD, eqDD, out, retS, endF, giveR, mask, flg, skip]
    · simp [b__law_edge, edge, seqS, asgS, Rs.s, e1, e2, h0, h1, bindR, ifS, tst, Rs.b, asB, Zed.bin, var, cst, peek2, peek, eqD, eqDD, out, retS, endF, giveR, mask, flg, skip, addD]
end K50
set_option Elab.async false
set_option linter.all false
set_option maxRecDepth 100000
set_option maxHeartbeats 4000000
namespace K50
open PySem Zed
abbrev S (w : List Nat) : Str := ⟨w.toArray⟩
theorem add_str {w v : List Nat} (h : w.length + v.length ≤ 1000) : addD (.str (S w)) (.str (S v)) = some (.frz (.str (S (w ++ v)))) := by
  have sz : 1000 ≤ sizeLine := by decide +kernel
  show (if w.toArray.size + v.toArray.size ≤ sizeLine then some (OV.frz (.str (S w ++ S v))) else none) = _
  rw [if_pos (by simp only [List.size_toArray]; omega)]
  show some (OV.frz (.str ⟨w.toArray ++ v.toArray⟩)) = _
  simp
/-- a capital and one to seven small letters -/
theorem choice_ok {b : Bag} (h : b.Ok) : ∃ (c : Nat) (w : List Nat) (b' : Bag), d__law_choice [some (.own b.o)] = some (.val (.frz (.str (S (c :: w)))) [some (.own b'.o)]) ∧ b'.Ok ∧ 65 ≤ c ∧ c ≤ 90 ∧ 1 ≤ w.length ∧ w.length ≤ 7 ∧ ∀ c ∈ w, 97 ≤ c ∧ c ≤ 122 := by
  obtain ⟨w1, b1, e1, ok1, hl1, hc1⟩ := great_ok h (n := 1) (by omega)
  obtain ⟨k1, k2, k3⟩ := Bag.take_ok (m := 7) ok1 (by omega)
  obtain ⟨j, hj⟩ : ∃ j : Nat, (b1.take 7).1 = j := ⟨(b1.take 7).1.toNat, by omega⟩
  obtain ⟨w2, b2, e2, ok2, hl2, hc2⟩ := small_ok k1 (n := 1 + j) (by omega)
  obtain ⟨c, rfl⟩ : ∃ c, w1 = [c] := by
    match w1, hl1 with | [c], _ => exact ⟨c, rfl⟩
  have hc := hc1 c (List.mem_singleton.mpr rfl)
  refine ⟨c, w2, b2, ?_, ok2, hc.1, hc.2, by omega, by omega, hc2⟩
  have f1 : callE d__law_great [] (aCons (var 0) (aCons (cst (.int 1)) aNil)) [some (.own b.o), none] = some (.val (.frz (.str (S [c]))) [some (.own b1.o), none]) := call_own (e1 := [some (.own b.o), none]) (i := 0) rfl rfl e1
  have f2 : callE d__law_take [] (aCons (var 0) (aCons (cst (.int 7)) aNil)) [some (.own b1.o), some (.frz (.str (S [c])))] = some (.val (.frz (.int (b1.take 7).1)) [some (.own (b1.take 7).2.o), some (.frz (.str (S [c])))]) := call_take ok1 (by omega) (by omega) (i := 0) rfl rfl
  have f3 : Zed.bin addD (cst (.int 1)) (callE d__law_take [] (aCons (var 0) (aCons (cst (.int 7)) aNil))) [some (.own b1.o), some (.frz (.str (S [c])))] = some (.val (.frz (.int ((1 + j : Nat) : Int))) [some (.own (b1.take 7).2.o), some (.frz (.str (S [c])))]) := by
    refine bin_frz (a := .int 1) (b := .int (b1.take 7).1) rfl f2 ?_
    rw [hj]; simp [addD]
  have f4 : aCons (var 0) (aCons (Zed.bin addD (cst (.int 1)) (callE d__law_take [] (aCons (var 0) (aCons (cst (.int 7)) aNil)))) aNil) [some (.own b1.o), some (.frz (.str (S [c])))] = some (.val [.slot 0, .frz (.int ((1 + j : Nat) : Int))] [some (.own (b1.take 7).2.o), some (.frz (.str (S [c])))]) := by
    simp only [aCons, Rs.b, var, List.getElem?_cons_zero, f3, aNil]
  have f5 : callE d__law_small [] (aCons (var 0) (aCons (Zed.bin addD (cst (.int 1)) (callE d__law_take [] (aCons (var 0) (aCons (cst (.int 7)) aNil)))) aNil)) [some (.own b1.o), some (.frz (.str (S [c])))] = some (.val (.frz (.str (S w2))) [some (.own b2.o), some (.frz (.str (S [c])))]) := call_own (e1 := [some (.own (b1.take 7).2.o), some (.frz (.str (S [c])))]) (i := 0) f4 rfl e2
  have f6 := add_str (w := [c]) (v := w2) (by simp; omega)
  have e0 : ([some (.own b.o)] : Zed.Env) ++ List.replicate (2 - 1) none = [some (.own b.o), none] := rfl
  unfold d__law_choice runF
  rw [if_pos ⟨rfl, rfl⟩, e0]
  have g1 := asg_frz (i := 1) f1
  have g2 : retS (Zed.bin addD (var 1) (callE d__law_small [] (aCons (var 0) (aCons (Zed.bin addD (cst (.int 1)) (callE d__law_take [] (aCons (var 0) (aCons (cst (.int 7)) aNil)))) aNil)))) [some (.own b1.o), some (.frz (.str (S [c])))] = _ := ret_eq (bin_frz rfl f5 f6)
  have g3 : b__law_choice [some (.own b.o), none] = _ := (seq_nx g1).trans g2
  rw [g3]
  rfl
end K50
set_option Elab.async false
set_option linter.all false
set_option maxRecDepth 100000
set_option maxHeartbeats 4000000
namespace K50
open PySem Zed
abbrev RES : List D := [.str "not", .str "and", .str "or", .str "some", .str "every", .str "by"]
def resv (w : List Nat) : Bool := inF (.str (S w)) RES
theorem in_res {s : Str} : inDD (.str s) (.lst RES) = some (inF (.str s) RES) := by
  unfold inDD
  rfl
theorem str_eq {a : Str} {w : List Nat} (h : (a == S w) = true) : w = a.cps.toList := by
  have h := congrArg (fun s : Str => s.cps.toList) (eq_of_beq h)
  exact h.symm
theorem resv_cases {w : List Nat} (h : resv w = true) : w ∈ [[110, 111, 116], [97, 110, 100], [111, 114], [115, 111, 109, 101], [101, 118, 101, 114, 121], [98, 121]] := by
  have h : (("not" : Str) == S w || (("and" : Str) == S w || (("or" : Str) == S w || (("some" : Str) == S w || (("every" : Str) == S w || (("by" : Str) == S w || false)))))) = true := h
  simp only [Bool.or_eq_true, Bool.or_false] at h
  rcases h with h | h | h | h | h | h <;> (rw [str_eq h]; decide +kernel)
/-- a name: one to eight small letters, not reserved -/
structure NameOk (w : List Nat) : Prop where
  l1 : 1 ≤ w.length
  l8 : w.length ≤ 8
  low : ∀ c ∈ w, 97 ≤ c ∧ c ≤ 122
  nr : resv w = false
theorem name_ok {b : Bag} (h : b.Ok) : ∃ (w : List Nat) (b' : Bag), d__law_name [some (.own b.o)] = some (.val (.frz (.str (S w))) [some (.own b'.o)]) ∧ b'.Ok ∧ NameOk w := by
  obtain ⟨k1, k2, k3⟩ := Bag.take_ok (m := 8) h (by omega)
  obtain ⟨j, hj⟩ : ∃ j : Nat, (b.take 8).1 = j := ⟨(b.take 8).1.toNat, by omega⟩
  obtain ⟨w, b2, e2, ok2, hl2, hc2⟩ := small_ok k1 (n := 1 + j) (by omega)
  have f2 : callE d__law_take [] (aCons (var 0) (aCons (cst (.int 8)) aNil)) [some (.own b.o), none] = some (.val (.frz (.int (b.take 8).1)) [some (.own (b.take 8).2.o), none]) := call_take h (by omega) (by omega) (i := 0) rfl rfl
  have f3 : Zed.bin addD (cst (.int 1)) (callE d__law_take [] (aCons (var 0) (aCons (cst (.int 8)) aNil))) [some (.own b.o), none] = some (.val (.frz (.int ((1 + j : Nat) : Int))) [some (.own (b.take 8).2.o), none]) := by
    refine bin_frz (a := .int 1) (b := .int (b.take 8).1) rfl f2 ?_
    rw [hj]; simp [addD]
  have f4 : aCons (var 0) (aCons (Zed.bin addD (cst (.int 1)) (callE d__law_take [] (aCons (var 0) (aCons (cst (.int 8)) aNil)))) aNil) [some (.own b.o), none] = some (.val [.slot 0, .frz (.int ((1 + j : Nat) : Int))] [some (.own (b.take 8).2.o), none]) := by
    simp only [aCons, Rs.b, var, List.getElem?_cons_zero, f3, aNil]
  have f5 := call_own (e1 := [some (.own (b.take 8).2.o), none]) (i := 0) f4 rfl e2
  have e0 : ([some (.own b.o)] : Zed.Env) ++ List.replicate (2 - 1) none = [some (.own b.o), none] := rfl
  have g1 := asg_frz (i := 1) f5
  have t1 : Zed.bin inD (var 1) (lstE (dCons (cst (.str "not")) (dCons (cst (.str "and")) (dCons (cst (.str "or")) (dCons (cst (.str "some")) (dCons (cst (.str "every")) (dCons (cst (.str "by")) dNil))))))) [some (.own b2.o), some (.frz (.str (S w)))] = some (.val (.frz (.bl (resv w))) [some (.own b2.o), some (.frz (.str (S w)))]) := by
    have q : inD (.str (S w)) (.lst RES) = some (.frz (.bl (resv w))) := by unfold inD; rw [in_res]; rfl
    have l : lstE (dCons (cst (.str "not")) (dCons (cst (.str "and")) (dCons (cst (.str "or")) (dCons (cst (.str "some")) (dCons (cst (.str "every")) (dCons (cst (.str "by")) dNil)))))) [some (.own b2.o), some (.frz (.str (S w)))] = some (.val (.new (.lst RES)) [some (.own b2.o), some (.frz (.str (S w)))]) := by
      have sz : 6 ≤ sizeLine := by decide +kernel
      simp [lstE, dCons, dNil, cst, fzE, freeze, Rs.b, sz]
    simp only [Zed.bin, Rs.b, var, List.getElem?_cons_succ, List.getElem?_cons_zero, l, peek2, peek, O.fz, O.d, if_true, q, out]
  cases hr : resv w with
  | false =>
    refine ⟨w, b2, ?_, ok2, ⟨by omega, by omega, hc2, hr⟩⟩
    rw [hr] at t1
    unfold d__law_name runF
    rw [if_pos ⟨rfl, rfl⟩, e0]
    have g3 : b__law_name [some (.own b.o), none] = some (.ret (.frz (.str (S w))) [some (.own b2.o), some (.frz (.str (S w)))]) := by
      refine (seq_nx g1).trans ((seq_nx (e1 := [some (.own b2.o), some (.frz (.str (S w)))]) ?_).trans rfl)
      refine (if_f (e1 := [some (.own b2.o), some (.frz (.str (S w)))]) ?_).trans rfl
      unfold tst
      show Rs.b (Zed.bin inD _ _ [some (.own b2.o), some (.frz (.str (S w)))]) asB = _
      rw [t1]; rfl
    rw [g3]; rfl
  | true =>
    have hw := resv_cases hr
    have hw2 : NameOk (w ++ [115]) := by
      simp only [List.mem_cons, List.not_mem_nil, or_false] at hw
      rcases hw with rfl | rfl | rfl | rfl | rfl | rfl <;> exact ⟨by decide, by decide, by decide, by decide +kernel⟩
    refine ⟨w ++ [115], b2, ?_, ok2, hw2⟩
    rw [hr] at t1
    unfold d__law_name runF
    rw [if_pos ⟨rfl, rfl⟩, e0]
    have g3 : b__law_name [some (.own b.o), none] = some (.ret (.frz (.str (S (w ++ [115])))) [some (.own b2.o), some (.frz (.str (S w)))]) := by
      refine (seq_nx g1).trans ((seq_ret (e1 := [some (.own b2.o), some (.frz (.str (S w)))]) (r := .frz (.str (S (w ++ [115])))) ?_))
      refine (if_t (e1 := [some (.own b2.o), some (.frz (.str (S w)))]) ?_).trans ?_
      · unfold tst
        show Rs.b (Zed.bin inD _ _ [some (.own b2.o), some (.frz (.str (S w)))]) asB = _
        rw [t1]; rfl
      · exact ret_eq (bin_frz (a := .str (S w)) (b := .str (S [115])) rfl rfl (add_str (by simp; omega)))
    rw [g3]; rfl
end K50
set_option Elab.async false
set_option linter.all false
set_option maxRecDepth 100000
set_option maxHeartbeats 4000000
namespace Zed
open PySem
/-- a call with an own thing alone -/
theorem call_own1 {f : FDen} {env e1 : Zed.Env} {i : Nat} {o o' : O} {d' : D} {g : Zed.Args} (hg : g env = some (.val [.slot i] e1)) (he : e1[i]? = some (some (.own o))) (hf : f [some (.own o)] = some (.val (.frz d') [some (.own o')])) :
    callE f [] g env = some (.val (.frz d') (e1.set i (some (.own o')))) := by
  unfold callE
  rw [hg]
  have h1 : normL [.slot i] e1 = some ([.slot i], [some (.own o)]) := by simp [normL, normR, he]
  show callK _ _ _ _ = _
  unfold callK
  rw [h1]
  dsimp only
  rw [if_pos (by simp [slotsOf])]
  show (match f [some (.own o)] with | some (.val r as') => _ | some (.exc x as') => _ | none => _) = _
  rw [hf]
  rfl
/-- .. and two settled ones -/
theorem call_own3 {f : FDen} {env e1 : Zed.Env} {i : Nat} {o o' : O} {d1 d2 d' : D} {x y : Option LV} {g : Zed.Args} (hg : g env = some (.val [.slot i, .frz d1, .frz d2] e1)) (he : e1[i]? = some (some (.own o))) (hf : f [some (.own o), some (.frz d1), some (.frz d2)] = some (.val (.frz d') [some (.own o'), x, y])) :
    callE f [] g env = some (.val (.frz d') (e1.set i (some (.own o')))) := by
  unfold callE
  rw [hg]
  have h1 : normL [.slot i, .frz d1, .frz d2] e1 = some ([.slot i, .frz d1, .frz d2], [some (.own o), some (.frz d1), some (.frz d2)]) := by simp [normL, normR, he]
  show callK _ _ _ _ = _
  unfold callK
  rw [h1]
  dsimp only
  rw [if_pos (by simp [slotsOf])]
  show (match f [some (.own o), some (.frz d1), some (.frz d2)] with | some (.val r as') => _ | some (.exc x as') => _ | none => _) = _
  rw [hf]
  rfl
end Zed
namespace K50
open PySem Zed
/-- an item of the form -/
inductive FormOk : D → D → Prop
  | num {lo hi i : Int} (h1 : lo ≤ i) (h2 : i ≤ hi) : FormOk (.tup [.int lo, .int hi]) (.int i)
  | name {w : List Nat} (h : NameOk w) : FormOk (.str "name") (.str (S w))
  | letter {c d : Nat} (h1 : 97 ≤ c ∧ c ≤ 122) (h2 : 48 ≤ d ∧ d ≤ 57) : FormOk (.str "letter") (.str (S [c, d]))
  | relation {w : List Nat} (h1 : 1 ≤ w.length) (h2 : w.length ≤ 8) (h3 : ∀ c ∈ w, 65 ≤ c ∧ c ≤ 90) : FormOk (.str "relation") (.str (S w))
  | choice {c : Nat} {w : List Nat} (h0 : 65 ≤ c ∧ c ≤ 90) (h1 : 1 ≤ w.length) (h2 : w.length ≤ 7) (h3 : ∀ c ∈ w, 97 ≤ c ∧ c ≤ 122) : FormOk (.str "choice") (.str (S (c :: w)))
/-- .. and one behind another -/
inductive FormsOk : List D → List D → Prop
  | nil : FormsOk [] []
  | cons {f d : D} {fs ds : List D} (h : FormOk f d) (r : FormsOk fs ds) : FormsOk (f :: fs) (d :: ds)
/-- a drawn row -/
def RowOk (ds : List D) : Prop := ∃ (word : Str) (fs items : List D), ds = .str word :: items ∧ tab_FORMS.lookup word = some (.tup fs) ∧ FormsOk fs items
def edE (b : Bag) (lo hi : Int) : D := .int (edge b lo hi).1
theorem call_edge {b : Bag} (h : b.Ok) {lo hi : Int} (hl : lo ≤ hi) (hh : hi - lo + 1 < 1073741824) {env e1 : Zed.Env} {i : Nat} {g : Zed.Args} (hg : g env = some (.val [.slot i, .frz (.int lo), .frz (.int hi)] e1)) (he : e1[i]? = some (some (.own b.o))) :
    ∃ (x : Int) (b' : Bag), callE d__law_edge [] g env = some (.val (.frz (.int x)) (e1.set i (some (.own b'.o)))) ∧ b'.Ok ∧ lo ≤ x ∧ x ≤ hi := by
  obtain ⟨k1, k2, k3⟩ := edge_ok h hl
  exact ⟨_, _, call_own3 hg he (edge_eq h hl hh), k1, k2, k3⟩
theorem call_name {b : Bag} (h : b.Ok) {env e1 : Zed.Env} {i : Nat} {g : Zed.Args} (hg : g env = some (.val [.slot i] e1)) (he : e1[i]? = some (some (.own b.o))) :
    ∃ (w : List Nat) (b' : Bag), callE d__law_name [] g env = some (.val (.frz (.str (S w))) (e1.set i (some (.own b'.o)))) ∧ b'.Ok ∧ NameOk w := by
  obtain ⟨w, b', e, k1, k2⟩ := name_ok h
  exact ⟨w, b', call_own1 hg he e, k1, k2⟩
theorem call_choice {b : Bag} (h : b.Ok) {env e1 : Zed.Env} {i : Nat} {g : Zed.Args} (hg : g env = some (.val [.slot i] e1)) (he : e1[i]? = some (some (.own b.o))) :
    ∃ (c : Nat) (w : List Nat) (b' : Bag), callE d__law_choice [] g env = some (.val (.frz (.str (S (c :: w)))) (e1.set i (some (.own b'.o)))) ∧ b'.Ok ∧ FormOk (.str "choice") (.str (S (c :: w))) := by
  obtain ⟨c, w, b', e, k1, k2, k3, k4, k5, k6⟩ := choice_ok h
  exact ⟨c, w, b', call_own1 hg he e, k1, .choice ⟨k2, k3⟩ k4 k5 k6⟩
end K50
set_option Elab.async false
set_option linter.all false
set_option maxRecDepth 100000
set_option maxHeartbeats 4000000
namespace K50
open PySem Zed
def WORDS : List Str := ["number", "name", "add", "call", "guess", "letter", "holds", "body", "demand", "pass", "correct", "same", "most", "not", "and", "or", "if", "end", "stop"]
abbrev WD : List D := WORDS.map D.str
def rowE (b : Bag) (k : Nat) (x y z : Option LV) : Zed.Env := [some (.own b.o), some (.frz (.int (k : Int))), some (.frz (.str (WORDS.getD k ""))), x, y, z]
/-- the first three statements of _law_row -/
theorem row_word {b : Bag} {k : Nat} (hk : k < 19) {rest : Stm} : (seqS (asgS 2 (lstE (dCons (cst (.str "number")) (dCons (cst (.str "name")) (dCons (cst (.str "add")) (dCons (cst (.str "call")) (dCons (cst (.str "guess")) (dCons (cst (.str "letter")) (dCons (cst (.str "holds")) (dCons (cst (.str "body")) (dCons (cst (.str "demand")) (dCons (cst (.str "pass")) dNil))))))))))))
  (seqS (asgS 2 (Zed.bin addD (var 2) (lstE (dCons (cst (.str "correct")) (dCons (cst (.str "same")) (dCons (cst (.str "most")) (dCons (cst (.str "not")) (dCons (cst (.str "and")) (dCons (cst (.str "or")) (dCons (cst (.str "if")) (dCons (cst (.str "end")) (dCons (cst (.str "stop")) dNil))))))))))))
  (seqS (asgS 2 (Zed.bin ixD (var 2) (var 1))) rest))) [some (.own b.o), some (.frz (.int (k : Int))), none, none, none, none] = rest (rowE b k none none none) := by
  have sz : 19 ≤ sizeLine := by decide +kernel
  have s1 : 10 ≤ sizeLine := by omega
  have s2 : 9 ≤ sizeLine := by omega
  have hl : (WORDS.map D.str).length = 19 := rfl
  have hw : L2.atI WD (k : Int) = some (.str (WORDS.getD k "")) := by
    rw [at_nat (by omega), Int.toNat_natCast, List.getElem?_map, List.getD_eq_getElem?_getD]
    rw [List.getElem?_eq_getElem (show k < WORDS.length from hk)]; rfl
  simp only [seqS, asgS, Rs.s, Rs.b, lstE, dCons, dNil, cst, fzE, freeze, List.length_cons, List.length_nil, s1, s2, if_true, bindR, List.set, Zed.bin, var, List.getElem?_cons_succ, List.getElem?_cons_zero, peek2, peek, O.fz, O.d, addD, Nat.zero_add, Nat.reduceAdd, sz, List.cons_append, List.nil_append, out, ixD]
  rw [show ([D.str "number", D.str "name", D.str "add", D.str "call", D.str "guess", D.str "letter", D.str "holds", D.str "body", D.str "demand", D.str "pass", D.str "correct", D.str "same", D.str "most", D.str "not", D.str "and", D.str "or", D.str "if", D.str "end", D.str "stop"] : List D) = WD from rfl, hw]
  rfl
end K50
set_option Elab.async false
set_option linter.all false
set_option maxRecDepth 100000
set_option maxHeartbeats 4000000
namespace K50
open PySem Zed
theorem kind_t {b : Bag} {k : Nat} {x y z : Option LV} {j : Int} : tst (Zed.bin eqD (var 1) (cst (.int j))) (rowE b k x y z) = some (.val (decide ((k : Int) = j)) (rowE b k x y z)) := rfl
theorem kind_n {b : Bag} {k : Nat} {x y z : Option LV} {j : Int} {f r : Stm} (h : ¬ (k : Int) = j) : seqS (ifS (tst (Zed.bin eqD (var 1) (cst (.int j)))) f skip) r (rowE b k x y z) = r (rowE b k x y z) := by
  refine seq_nx ((if_f (e1 := rowE b k x y z) ?_).trans rfl)
  rw [kind_t, decide_eq_false h]
theorem kind_y {b : Bag} {k : Nat} {x y z : Option LV} {j : Int} {f r : Stm} {q : RV} {e1 : Zed.Env} (h : (k : Int) = j) (hf : f (rowE b k x y z) = some (.ret q e1)) : seqS (ifS (tst (Zed.bin eqD (var 1) (cst (.int j)))) f skip) r (rowE b k x y z) = some (.ret q e1) := by
  refine seq_ret ((if_t (e1 := rowE b k x y z) ?_).trans hf)
  rw [kind_t, decide_eq_true h]
theorem row_run {b b' : Bag} {k : Nat} {x y z : Option LV} {ds : List D} {rest : Stm} (hk : k < 19) (hb : b__law_row = seqS (asgS 2 (lstE (dCons (cst (.str "number")) (dCons (cst (.str "name")) (dCons (cst (.str "add")) (dCons (cst (.str "call")) (dCons (cst (.str "guess")) (dCons (cst (.str "letter")) (dCons (cst (.str "holds")) (dCons (cst (.str "body")) (dCons (cst (.str "demand")) (dCons (cst (.str "pass")) dNil))))))))))))
  (seqS (asgS 2 (Zed.bin addD (var 2) (lstE (dCons (cst (.str "correct")) (dCons (cst (.str "same")) (dCons (cst (.str "most")) (dCons (cst (.str "not")) (dCons (cst (.str "and")) (dCons (cst (.str "or")) (dCons (cst (.str "if")) (dCons (cst (.str "end")) (dCons (cst (.str "stop")) dNil))))))))))))
  (seqS (asgS 2 (Zed.bin ixD (var 2) (var 1))) rest))) (h : rest (rowE b k none none none) = some (.ret (.frz (.tup ds)) (rowE b' k x y z))) :
    d__law_row [some (.own b.o), some (.frz (.int (k : Int)))] = some (.val (.frz (.tup ds)) [some (.own b'.o), some (.frz (.int (k : Int)))]) := by
  unfold d__law_row runF
  rw [if_pos ⟨rfl, rfl⟩, hb, show ([some (.own b.o), some (.frz (.int (k : Int)))] : Zed.Env) ++ List.replicate (6 - 2) none = [some (.own b.o), some (.frz (.int (k : Int))), none, none, none, none] from rfl, row_word hk, h]
  rfl
theorem tup1 {f : Exp} {env e1 : Zed.Env} {a d : D} (h0 : env[2]? = some (some (.frz a))) (h : f env = some (.val (.frz d) e1)) : retS (tupE (dCons (var 2) (dCons f dNil))) env = some (.ret (.frz (.tup [a, d])) e1) := by
  have sz : 2 ≤ sizeLine := by decide +kernel
  simp [retS, Rs.s, tupE, dCons, dNil, Rs.b, fzE, freeze, var, h0, h, sz]
def RowAt (b : Bag) (k : Nat) : Prop := ∃ (ds : List D) (b' : Bag), d__law_row [some (.own b.o), some (.frz (.int (k : Int)))] = some (.val (.frz (.tup ds)) [some (.own b'.o), some (.frz (.int (k : Int)))]) ∧ b'.Ok ∧ RowOk ds
theorem row0 {b : Bag} (h : b.Ok) : RowAt b 0 := by
  obtain ⟨x, b', e, ok, h1, h2⟩ := call_edge h (lo := 0) (hi := 99) (by omega) (by omega) (env := rowE b 0 none none none) (e1 := rowE b 0 none none none) (i := 0) (g := aCons (var 0) (aCons (cst (.int 0)) (aCons (cst (.int 99)) aNil))) rfl rfl
  refine ⟨[.str "number", .int x], b', row_run (by omega) rfl (kind_y rfl (tup1 rfl e)), ok, "number", [.tup [.int 0, .int 99]], [.int x], rfl, rfl, .cons (.num h1 h2) .nil⟩
end K50
set_option Elab.async false
set_option linter.all false
set_option maxRecDepth 100000
set_option maxHeartbeats 4000000
namespace K50
open PySem Zed
theorem row2 {b : Bag} (h : b.Ok) : RowAt b 2 := by
  obtain ⟨x, b', e, ok, h1, h2⟩ := call_edge h (lo := 1) (hi := 9) (by omega) (by omega) (env := rowE b 2 none none none) (e1 := rowE b 2 none none none) (i := 0) (g := aCons (var 0) (aCons (cst (.int 1)) (aCons (cst (.int 9)) aNil))) rfl rfl
  refine ⟨[.str "add", .int x], b', row_run (by omega) rfl ((kind_n (by decide)).trans ((kind_n (by decide)).trans (kind_y rfl (tup1 rfl e)))), ok, "add", [.tup [.int 1, .int 9]], [.int x], rfl, rfl, .cons (.num h1 h2) .nil⟩
theorem row8 {b : Bag} (h : b.Ok) : RowAt b 8 := by
  obtain ⟨x, b', e, ok, h1, h2⟩ := call_edge h (lo := 1) (hi := 60) (by omega) (by omega) (env := rowE b 8 none none none) (e1 := rowE b 8 none none none) (i := 0) (g := aCons (var 0) (aCons (cst (.int 1)) (aCons (cst (.int 60)) aNil))) rfl rfl
  refine ⟨[.str "demand", .int x], b', row_run (by omega) rfl ((kind_n (by decide)).trans ((kind_n (by decide)).trans ((kind_n (by decide)).trans ((kind_n (by decide)).trans ((kind_n (by decide)).trans ((kind_n (by decide)).trans ((kind_n (by decide)).trans ((kind_n (by decide)).trans (kind_y rfl (tup1 rfl e)))))))))), ok, "demand", [.tup [.int 1, .int 60]], [.int x], rfl, rfl, .cons (.num h1 h2) .nil⟩
theorem row9 {b : Bag} (h : b.Ok) : RowAt b 9 := by
  obtain ⟨x, b', e, ok, h1, h2⟩ := call_edge h (lo := 1) (hi := 99999) (by omega) (by omega) (env := rowE b 9 none none none) (e1 := rowE b 9 none none none) (i := 0) (g := aCons (var 0) (aCons (cst (.int 1)) (aCons (cst (.int 99999)) aNil))) rfl rfl
  refine ⟨[.str "pass", .int x], b', row_run (by omega) rfl ((kind_n (by decide)).trans ((kind_n (by decide)).trans ((kind_n (by decide)).trans ((kind_n (by decide)).trans ((kind_n (by decide)).trans ((kind_n (by decide)).trans ((kind_n (by decide)).trans ((kind_n (by decide)).trans ((kind_n (by decide)).trans (kind_y rfl (tup1 rfl e))))))))))), ok, "pass", [.tup [.int 1, .int 99999]], [.int x], rfl, rfl, .cons (.num h1 h2) .nil⟩
theorem row1 {b : Bag} (h : b.Ok) : RowAt b 1 := by
  obtain ⟨x, b', e, ok, h1⟩ := call_name h (env := rowE b 1 none none none) (e1 := rowE b 1 none none none) (i := 0) (g := aCons (var 0) aNil) rfl rfl
  refine ⟨[.str "name", .str (S x)], b', row_run (by omega) rfl ((kind_n (by decide)).trans (kind_y rfl (tup1 rfl e))), ok, "name", [.str "name"], [.str (S x)], rfl, rfl, .cons (.name h1) .nil⟩
theorem row7 {b : Bag} (h : b.Ok) : RowAt b 7 := by
  obtain ⟨c, x, b', e, ok, h1⟩ := call_choice h (env := rowE b 7 none none none) (e1 := rowE b 7 none none none) (i := 0) (g := aCons (var 0) aNil) rfl rfl
  refine ⟨[.str "body", .str (S (c :: x))], b', row_run (by omega) rfl ((kind_n (by decide)).trans ((kind_n (by decide)).trans ((kind_n (by decide)).trans ((kind_n (by decide)).trans ((kind_n (by decide)).trans ((kind_n (by decide)).trans ((kind_n (by decide)).trans (kind_y rfl (tup1 rfl e))))))))), ok, "body", [.str "choice"], [.str (S (c :: x))], rfl, rfl, .cons h1 .nil⟩
theorem row11 {b : Bag} (h : b.Ok) : RowAt b 11 := by
  have sz : 1 ≤ sizeLine := by decide +kernel
  have e : retS (tupE (dCons (var 2) dNil)) (rowE b 11 none none none) = some (.ret (.frz (.tup [.str "same"])) (rowE b 11 none none none)) := by
    simp [retS, Rs.s, tupE, dCons, dNil, Rs.b, fzE, freeze, var, rowE, sz, WORDS]
  refine ⟨[.str "same"], b, row_run (by omega) rfl ((kind_n (by decide)).trans ((kind_n (by decide)).trans ((kind_n (by decide)).trans ((kind_n (by decide)).trans ((kind_n (by decide)).trans ((kind_n (by decide)).trans ((kind_n (by decide)).trans ((kind_n (by decide)).trans ((kind_n (by decide)).trans ((kind_n (by decide)).trans ((kind_n (by decide)).trans (e)))))))))))), h, "same", [], [], rfl, rfl, .nil⟩
theorem row12 {b : Bag} (h : b.Ok) : RowAt b 12 := by
  have sz : 1 ≤ sizeLine := by decide +kernel
  have e : retS (tupE (dCons (var 2) dNil)) (rowE b 12 none none none) = some (.ret (.frz (.tup [.str "most"])) (rowE b 12 none none none)) := by
    simp [retS, Rs.s, tupE, dCons, dNil, Rs.b, fzE, freeze, var, rowE, sz, WORDS]
  refine ⟨[.str "most"], b, row_run (by omega) rfl ((kind_n (by decide)).trans ((kind_n (by decide)).trans ((kind_n (by decide)).trans ((kind_n (by decide)).trans ((kind_n (by decide)).trans ((kind_n (by decide)).trans ((kind_n (by decide)).trans ((kind_n (by decide)).trans ((kind_n (by decide)).trans ((kind_n (by decide)).trans ((kind_n (by decide)).trans (e)))))))))))), h, "most", [], [], rfl, rfl, .nil⟩
theorem row13 {b : Bag} (h : b.Ok) : RowAt b 13 := by
  have sz : 1 ≤ sizeLine := by decide +kernel
  have e : retS (tupE (dCons (var 2) dNil)) (rowE b 13 none none none) = some (.ret (.frz (.tup [.str "not"])) (rowE b 13 none none none)) := by
    simp [retS, Rs.s, tupE, dCons, dNil, Rs.b, fzE, freeze, var, rowE, sz, WORDS]
  refine ⟨[.str "not"], b, row_run (by omega) rfl ((kind_n (by decide)).trans ((kind_n (by decide)).trans ((kind_n (by decide)).trans ((kind_n (by decide)).trans ((kind_n (by decide)).trans ((kind_n (by decide)).trans ((kind_n (by decide)).trans ((kind_n (by decide)).trans ((kind_n (by decide)).trans ((kind_n (by decide)).trans ((kind_n (by decide)).trans (e)))))))))))), h, "not", [], [], rfl, rfl, .nil⟩
theorem row14 {b : Bag} (h : b.Ok) : RowAt b 14 := by
  have sz : 1 ≤ sizeLine := by decide +kernel
  have e : retS (tupE (dCons (var 2) dNil)) (rowE b 14 none none none) = some (.ret (.frz (.tup [.str "and"])) (rowE b 14 none none none)) := by
    simp [retS, Rs.s, tupE, dCons, dNil, Rs.b, fzE, freeze, var, rowE, sz, WORDS]
  refine ⟨[.str "and"], b, row_run (by omega) rfl ((kind_n (by decide)).trans ((kind_n (by decide)).trans ((kind_n (by decide)).trans ((kind_n (by decide)).trans ((kind_n (by decide)).trans ((kind_n (by decide)).trans ((kind_n (by decide)).trans ((kind_n (by decide)).trans ((kind_n (by decide)).trans ((kind_n (by decide)).trans ((kind_n (by decide)).trans (e)))))))))))), h, "and", [], [], rfl, rfl, .nil⟩
theorem row15 {b : Bag} (h : b.Ok) : RowAt b 15 := by
  have sz : 1 ≤ sizeLine := by decide +kernel
  have e : retS (tupE (dCons (var 2) dNil)) (rowE b 15 none none none) = some (.ret (.frz (.tup [.str "or"])) (rowE b 15 none none none)) := by
    simp [retS, Rs.s, tupE, dCons, dNil, Rs.b, fzE, freeze, var, rowE, sz, WORDS]
  refine ⟨[.str "or"], b, row_run (by omega) rfl ((kind_n (by decide)).trans ((kind_n (by decide)).trans ((kind_n (by decide)).trans ((kind_n (by decide)).trans ((kind_n (by decide)).trans ((kind_n (by decide)).trans ((kind_n (by decide)).trans ((kind_n (by decide)).trans ((kind_n (by decide)).trans ((kind_n (by decide)).trans ((kind_n (by decide)).trans (e)))))))))))), h, "or", [], [], rfl, rfl, .nil⟩
theorem row16 {b : Bag} (h : b.Ok) : RowAt b 16 := by
  have sz : 1 ≤ sizeLine := by decide +kernel
  have e : retS (tupE (dCons (var 2) dNil)) (rowE b 16 none none none) = some (.ret (.frz (.tup [.str "if"])) (rowE b 16 none none none)) := by
    simp [retS, Rs.s, tupE, dCons, dNil, Rs.b, fzE, freeze, var, rowE, sz, WORDS]
  refine ⟨[.str "if"], b, row_run (by omega) rfl ((kind_n (by decide)).trans ((kind_n (by decide)).trans ((kind_n (by decide)).trans ((kind_n (by decide)).trans ((kind_n (by decide)).trans ((kind_n (by decide)).trans ((kind_n (by decide)).trans ((kind_n (by decide)).trans ((kind_n (by decide)).trans ((kind_n (by decide)).trans ((kind_n (by decide)).trans (e)))))))))))), h, "if", [], [], rfl, rfl, .nil⟩
theorem row17 {b : Bag} (h : b.Ok) : RowAt b 17 := by
  have sz : 1 ≤ sizeLine := by decide +kernel
  have e : retS (tupE (dCons (var 2) dNil)) (rowE b 17 none none none) = some (.ret (.frz (.tup [.str "end"])) (rowE b 17 none none none)) := by
    simp [retS, Rs.s, tupE, dCons, dNil, Rs.b, fzE, freeze, var, rowE, sz, WORDS]
  refine ⟨[.str "end"], b, row_run (by omega) rfl ((kind_n (by decide)).trans ((kind_n (by decide)).trans ((kind_n (by decide)).trans ((kind_n (by decide)).trans ((kind_n (by decide)).trans ((kind_n (by decide)).trans ((kind_n (by decide)).trans ((kind_n (by decide)).trans ((kind_n (by decide)).trans ((kind_n (by decide)).trans ((kind_n (by decide)).trans (e)))))))))))), h, "end", [], [], rfl, rfl, .nil⟩
theorem row18 {b : Bag} (h : b.Ok) : RowAt b 18 := by
  have sz : 1 ≤ sizeLine := by decide +kernel
  have e : retS (tupE (dCons (var 2) dNil)) (rowE b 18 none none none) = some (.ret (.frz (.tup [.str "stop"])) (rowE b 18 none none none)) := by
    simp [retS, Rs.s, tupE, dCons, dNil, Rs.b, fzE, freeze, var, rowE, sz, WORDS]
  refine ⟨[.str "stop"], b, row_run (by omega) rfl ((kind_n (by decide)).trans ((kind_n (by decide)).trans ((kind_n (by decide)).trans ((kind_n (by decide)).trans ((kind_n (by decide)).trans ((kind_n (by decide)).trans ((kind_n (by decide)).trans ((kind_n (by decide)).trans ((kind_n (by decide)).trans ((kind_n (by decide)).trans ((kind_n (by decide)).trans (e)))))))))))), h, "stop", [], [], rfl, rfl, .nil⟩
end K50
set_option Elab.async false
set_option linter.all false
set_option maxRecDepth 100000
set_option maxHeartbeats 4000000
namespace K50
open PySem Zed
theorem tup2 {f : Exp} {env e1 : Zed.Env} {a c d : D} (h0 : env[2]? = some (some (.frz a))) (h1 : env[3]? = some (some (.frz c))) (h : f env = some (.val (.frz d) e1)) : retS (tupE (dCons (var 2) (dCons (var 3) (dCons f dNil)))) env = some (.ret (.frz (.tup [a, c, d])) e1) := by
  have sz : 3 ≤ sizeLine := by decide +kernel
  simp [retS, Rs.s, tupE, dCons, dNil, Rs.b, fzE, freeze, var, h0, h1, h, sz]
theorem tup3 {f : Exp} {env e1 : Zed.Env} {a c c2 d : D} (h0 : env[2]? = some (some (.frz a))) (h1 : env[3]? = some (some (.frz c))) (h2 : env[5]? = some (some (.frz c2))) (h : f env = some (.val (.frz d) e1)) : retS (tupE (dCons (var 2) (dCons (var 3) (dCons (var 5) (dCons f dNil))))) env = some (.ret (.frz (.tup [a, c, c2, d])) e1) := by
  have sz : 4 ≤ sizeLine := by decide +kernel
  simp [retS, Rs.s, tupE, dCons, dNil, Rs.b, fzE, freeze, var, h0, h1, h2, h, sz]
theorem row3 {b : Bag} (h : b.Ok) : RowAt b 3 := by
  obtain ⟨w, b1, e1, ok1, hw⟩ := call_name h (env := rowE b 3 none none none) (e1 := rowE b 3 none none none) (i := 0) (g := aCons (var 0) aNil) rfl rfl
  obtain ⟨x, b', e, ok, h1, h2⟩ := call_edge ok1 (lo := 1) (hi := 2) (by omega) (by omega) (env := rowE b1 3 (some (.frz (.str (S w)))) none none) (e1 := rowE b1 3 (some (.frz (.str (S w)))) none none) (i := 0) (g := aCons (var 0) (aCons (cst (.int 1)) (aCons (cst (.int 2)) aNil))) rfl rfl
  refine ⟨[.str "call", .str (S w), .int x], b', row_run (x := some (.frz (.str (S w)))) (y := none) (z := none) (by omega) rfl ((kind_n (by decide)).trans ((kind_n (by decide)).trans ((kind_n (by decide)).trans (kind_y rfl ((seq_nx (asg_frz (i := 3) e1)).trans (tup2 rfl rfl e)))))), ok, "call", [.str "name", .tup [.int 1, .int 2]], [.str (S w), .int x], rfl, rfl, .cons (.name hw) (.cons (.num h1 h2) .nil)⟩
theorem row4 {b : Bag} (h : b.Ok) : RowAt b 4 := by
  obtain ⟨c, w, b1, e1, ok1, hw⟩ := call_choice h (env := rowE b 4 none none none) (e1 := rowE b 4 none none none) (i := 0) (g := aCons (var 0) aNil) rfl rfl
  obtain ⟨x, b', e, ok, h1, h2⟩ := call_edge ok1 (lo := 0) (hi := 6) (by omega) (by omega) (env := rowE b1 4 (some (.frz (.str (S (c :: w))))) none none) (e1 := rowE b1 4 (some (.frz (.str (S (c :: w))))) none none) (i := 0) (g := aCons (var 0) (aCons (cst (.int 0)) (aCons (cst (.int 6)) aNil))) rfl rfl
  refine ⟨[.str "guess", .str (S (c :: w)), .int x], b', row_run (x := some (.frz (.str (S (c :: w))))) (y := none) (z := none) (by omega) rfl ((kind_n (by decide)).trans ((kind_n (by decide)).trans ((kind_n (by decide)).trans ((kind_n (by decide)).trans (kind_y rfl ((seq_nx (asg_frz (i := 3) e1)).trans (tup2 rfl rfl e))))))), ok, "guess", [.str "choice", .tup [.int 0, .int 6]], [.str (S (c :: w)), .int x], rfl, rfl, .cons hw (.cons (.num h1 h2) .nil)⟩
theorem row10 {b : Bag} (h : b.Ok) : RowAt b 10 := by
  obtain ⟨c, w, b1, e1, ok1, hw⟩ := call_choice h (env := rowE b 10 none none none) (e1 := rowE b 10 none none none) (i := 0) (g := aCons (var 0) aNil) rfl rfl
  obtain ⟨x, b2, e2, ok2, h1, h2⟩ := call_edge ok1 (lo := 0) (hi := 6) (by omega) (by omega) (env := rowE b1 10 (some (.frz (.str (S (c :: w))))) none none) (e1 := rowE b1 10 (some (.frz (.str (S (c :: w))))) none none) (i := 0) (g := aCons (var 0) (aCons (cst (.int 0)) (aCons (cst (.int 6)) aNil))) rfl rfl
  obtain ⟨y, b', e, ok, h3, h4⟩ := call_edge ok2 (lo := 1) (hi := 60) (by omega) (by omega) (env := rowE b2 10 (some (.frz (.str (S (c :: w))))) none (some (.frz (.int x)))) (e1 := rowE b2 10 (some (.frz (.str (S (c :: w))))) none (some (.frz (.int x)))) (i := 0) (g := aCons (var 0) (aCons (cst (.int 1)) (aCons (cst (.int 60)) aNil))) rfl rfl
  refine ⟨[.str "correct", .str (S (c :: w)), .int x, .int y], b', row_run (x := some (.frz (.str (S (c :: w))))) (y := none) (z := some (.frz (.int x))) (by omega) rfl ((kind_n (by decide)).trans ((kind_n (by decide)).trans ((kind_n (by decide)).trans ((kind_n (by decide)).trans ((kind_n (by decide)).trans ((kind_n (by decide)).trans ((kind_n (by decide)).trans ((kind_n (by decide)).trans ((kind_n (by decide)).trans ((kind_n (by decide)).trans (kind_y rfl ((seq_nx (asg_frz (i := 3) e1)).trans ((seq_nx (asg_frz (i := 5) e2)).trans (tup3 rfl rfl rfl e)))))))))))))), ok, "correct", [.str "choice", .tup [.int 0, .int 6], .tup [.int 1, .int 60]], [.str (S (c :: w)), .int x, .int y], rfl, rfl, .cons hw (.cons (.num h1 h2) (.cons (.num h3 h4) .nil))⟩
end K50
set_option Elab.async false
set_option linter.all false
set_option maxRecDepth 100000
set_option maxHeartbeats 4000000
namespace K50
open PySem Zed
theorem row6 {b : Bag} (h : b.Ok) : RowAt b 6 := by
  obtain ⟨k1, k2, k3⟩ := Bag.take_ok (m := 8) h (by omega)
  obtain ⟨j, hj⟩ : ∃ j : Nat, (b.take 8).1 = j := ⟨(b.take 8).1.toNat, by omega⟩
  obtain ⟨w, b1, e1, ok1, hl, hc⟩ := great_ok k1 (n := 1 + j) (by omega)
  have f2 : callE d__law_take [] (aCons (var 0) (aCons (cst (.int 8)) aNil)) (rowE b 6 none none none) = some (.val (.frz (.int (b.take 8).1)) (rowE (b.take 8).2 6 none none none)) := call_take h (by omega) (by omega) (i := 0) rfl rfl
  have f3 : Zed.bin addD (cst (.int 1)) (callE d__law_take [] (aCons (var 0) (aCons (cst (.int 8)) aNil))) (rowE b 6 none none none) = some (.val (.frz (.int ((1 + j : Nat) : Int))) (rowE (b.take 8).2 6 none none none)) := by
    refine bin_frz (a := .int 1) (b := .int (b.take 8).1) rfl f2 ?_
    rw [hj]; simp [addD]
  have v0 : var 0 (rowE b 6 none none none) = some (.val (.slot 0) (rowE b 6 none none none)) := rfl
  have f4 : aCons (var 0) (aCons (Zed.bin addD (cst (.int 1)) (callE d__law_take [] (aCons (var 0) (aCons (cst (.int 8)) aNil)))) aNil) (rowE b 6 none none none) = some (.val [.slot 0, .frz (.int ((1 + j : Nat) : Int))] (rowE (b.take 8).2 6 none none none)) := by
    simp only [aCons, Rs.b, v0, f3, aNil]
  have f5 := call_own (e1 := rowE (b.take 8).2 6 none none none) (i := 0) f4 rfl e1
  obtain ⟨x, b', e, ok, h1, h2⟩ := call_edge ok1 (lo := 1) (hi := 2) (by omega) (by omega) (env := rowE b1 6 (some (.frz (.str (S w)))) none none) (e1 := rowE b1 6 (some (.frz (.str (S w)))) none none) (i := 0) (g := aCons (var 0) (aCons (cst (.int 1)) (aCons (cst (.int 2)) aNil))) rfl rfl
  refine ⟨[.str "holds", .str (S w), .int x], b', row_run (x := some (.frz (.str (S w)))) (y := none) (z := none) (by omega) rfl ((kind_n (by decide)).trans ((kind_n (by decide)).trans ((kind_n (by decide)).trans ((kind_n (by decide)).trans ((kind_n (by decide)).trans ((kind_n (by decide)).trans (kind_y rfl ((seq_nx (asg_frz (i := 3) f5)).trans (tup2 rfl rfl e))))))))), ok, "holds", [.str "relation", .tup [.int 1, .int 2]], [.str (S w), .int x], rfl, rfl, .cons (.relation (by omega) (by omega) hc) (.cons (.num h1 h2) .nil)⟩
end K50
set_option Elab.async false
set_option linter.all false
set_option maxRecDepth 100000
set_option maxHeartbeats 4000000
namespace K50
open PySem Zed
theorem str_dig {j : Nat} (hj : j < 10) : strN [.int (j : Int)] = some (.frz (.str (S [48 + j]))) := by
  have : j = 0 ∨ j = 1 ∨ j = 2 ∨ j = 3 ∨ j = 4 ∨ j = 5 ∨ j = 6 ∨ j = 7 ∨ j = 8 ∨ j = 9 := by omega
  rcases this with rfl | rfl | rfl | rfl | rfl | rfl | rfl | rfl | rfl | rfl <;> rfl
theorem row5 {b : Bag} (h : b.Ok) : RowAt b 5 := by
  obtain ⟨w, b1, e1, ok1, hl, hc⟩ := small_ok h (n := 1) (by omega)
  obtain ⟨c, rfl⟩ : ∃ c, w = [c] := by
    match w, hl with | [c], _ => exact ⟨c, rfl⟩
  obtain ⟨k1, k2, k3⟩ := Bag.take_ok (m := 10) ok1 (by omega)
  obtain ⟨j, hj⟩ : ∃ j : Nat, (b1.take 10).1 = j := ⟨(b1.take 10).1.toNat, by omega⟩
  have f1 : callE d__law_small [] (aCons (var 0) (aCons (cst (.int 1)) aNil)) (rowE b 5 none none none) = some (.val (.frz (.str (S [c]))) (rowE b1 5 none none none)) := call_own (e1 := rowE b 5 none none none) (i := 0) rfl rfl e1
  have f2 : callE d__law_take [] (aCons (var 0) (aCons (cst (.int 10)) aNil)) (rowE b1 5 none (some (.frz (.str (S [c])))) none) = some (.val (.frz (.int (b1.take 10).1)) (rowE (b1.take 10).2 5 none (some (.frz (.str (S [c])))) none)) := call_take ok1 (by omega) (by omega) (i := 0) rfl rfl
  have f3 : bltE strN (aCons (callE d__law_take [] (aCons (var 0) (aCons (cst (.int 10)) aNil))) aNil) (rowE b1 5 none (some (.frz (.str (S [c])))) none) = some (.val (.frz (.str (S [48 + j]))) (rowE (b1.take 10).2 5 none (some (.frz (.str (S [c])))) none)) := by
    have q := str_dig (j := j) (by omega)
    simp only [bltE, aCons, Rs.b, f2, aNil, peekN, peekL, peek, hj, q, out]
  have f4 : Zed.bin addD (var 4) (bltE strN (aCons (callE d__law_take [] (aCons (var 0) (aCons (cst (.int 10)) aNil))) aNil)) (rowE b1 5 none (some (.frz (.str (S [c])))) none) = some (.val (.frz (.str (S [c, 48 + j]))) (rowE (b1.take 10).2 5 none (some (.frz (.str (S [c])))) none)) :=
    bin_frz (a := .str (S [c])) (b := .str (S [48 + j])) rfl f3 (add_str (w := [c]) (v := [48 + j]) (by simp))
  have hc1 := hc c (List.mem_singleton.mpr rfl)
  refine ⟨[.str "letter", .str (S [c, 48 + j])], _, row_run (x := none) (y := some (.frz (.str (S [c])))) (z := none) (by omega) rfl ((kind_n (by decide)).trans ((kind_n (by decide)).trans ((kind_n (by decide)).trans ((kind_n (by decide)).trans ((kind_n (by decide)).trans (kind_y rfl ((seq_nx (asg_frz (i := 4) f1)).trans (tup1 rfl f4)))))))), k1, "letter", [.str "letter"], [.str (S [c, 48 + j])], rfl, rfl, .cons (.letter hc1 ⟨by omega, by omega⟩) .nil⟩
/-- every drawn row is right -/
theorem row_ok {b : Bag} (h : b.Ok) {k : Nat} (hk : k < 19) : RowAt b k := by
  have : k = 0 ∨ k = 1 ∨ k = 2 ∨ k = 3 ∨ k = 4 ∨ k = 5 ∨ k = 6 ∨ k = 7 ∨ k = 8 ∨ k = 9 ∨ k = 10 ∨ k = 11 ∨ k = 12 ∨ k = 13 ∨ k = 14 ∨ k = 15 ∨ k = 16 ∨ k = 17 ∨ k = 18 := by omega
  rcases this with rfl | rfl | rfl | rfl | rfl | rfl | rfl | rfl | rfl | rfl | rfl | rfl | rfl | rfl | rfl | rfl | rfl | rfl | rfl
  · exact row0 h
  · exact row1 h
  · exact row2 h
  · exact row3 h
  · exact row4 h
  · exact row5 h
  · exact row6 h
  · exact row7 h
  · exact row8 h
  · exact row9 h
  · exact row10 h
  · exact row11 h
  · exact row12 h
  · exact row13 h
  · exact row14 h
  · exact row15 h
  · exact row16 h
  · exact row17 h
  · exact row18 h
end K50
set_option Elab.async false
set_option linter.all false
set_option maxRecDepth 100000
set_option maxHeartbeats 4000000
namespace Zed
open PySem
theorem back_at {v : Nat} : ∀ {k : Nat} {e : Zed.Env}, (∀ lv, k ≤ v → e[v - k]? = some lv → keepF lv = lv) → backE [v] k e (if k ≤ v then e.set (v - k) none else e) = e
  | k, [], h => by cases h : decide (k ≤ v) <;> simp [backE]
  | k, a :: e, h => by
    by_cases hk : k ≤ v
    · rw [if_pos hk]
      by_cases q : v = k
      · subst q
        have h0 : keepF a = a := h a (Nat.le_refl _) (by simp)
        have r := back_at (v := v) (k := v + 1) (e := e) (fun lv hl _ => by omega)
        rw [if_neg (by omega)] at r
        simp [backE, h0, r]
      · have r := back_at (v := v) (k := k + 1) (e := e) (fun lv hl e1 => h lv hk (by rw [show v - k = v - (k + 1) + 1 by omega]; simpa using e1))
        rw [if_pos (by omega)] at r
        rw [show v - k = v - (k + 1) + 1 by omega, List.set_cons_succ]
        have hne : ([v].contains k) = false := by simp; omega
        simp only [backE, hne, Bool.false_eq_true, if_false, r]
    · rw [if_neg hk]
      have r := back_at (v := v) (k := k + 1) (e := e) (fun lv hl _ => by omega)
      rw [if_neg (by omega)] at r
      have hne : ([v].contains k) = false := by simp; omega
      simp only [backE, hne, Bool.false_eq_true, if_false, r]
theorem back_one {v : Nat} {e : Zed.Env} (h : ∀ lv, e[v]? = some lv → keepF lv = lv) : backE [v] 0 e (e.set v none) = e := by
  have := back_at (v := v) (k := 0) (e := e) (fun lv _ h1 => h lv (by simpa using h1))
  simpa using this
theorem comp_go {v : Nat} {f : Exp} {e : Zed.Env} {h : D → D} : ∀ (ds acc : List D), acc.length + ds.length ≤ 16777216 → (∀ d ∈ ds, f ((e.set v none).set v (some (.frz d))) = some (.val (.frz (h d)) ((e.set v none).set v (some (.frz d))))) →
    compN [v] (bName v) yesT f ds acc (e.set v none) = some (.val (acc ++ ds.map h) (e.set v none))
  | [], acc, _, _ => by simp [compN]
  | d :: ds, acc, hl, hf => by
    have h1 := hf d List.mem_cons_self
    rw [List.length_cons] at hl
    have r := comp_go (h := h) ds (acc ++ [h d]) (by simp; omega) fun d' hd => hf d' (List.mem_cons_of_mem _ hd)
    unfold compN
    show (match bName v d (e.set v none) with | none => none | some e1 => Rs.b (yesT e1) fun ok e2 => if ok = true then if acc.length < 16777216 then Rs.b (fzE f e2) fun x e3 => compN [v] (bName v) yesT f ds (acc ++ [x]) (wipeE e3 [v]) else none else compN [v] (bName v) yesT f ds acc (wipeE e2 [v])) = _
    simp only [bName, yesT, Rs.b, if_true, fzE, h1, freeze]
    rw [if_pos (by omega)]
    have w : wipeE ((e.set v none).set v (some (.frz d))) [v] = e.set v none := by simp [wipeE, List.set_set]
    rw [w, r]
    simp
end Zed
namespace Zed
open PySem
/-- [f for v in it] -/
theorem comp_map {v : Nat} {it : Seq} {f : Exp} {env e : Zed.Env} {ds : List D} {h : D → D} (hi : it env = some (.val ds e)) (hl : ds.length ≤ 16777216) (hv : ∀ lv, e[v]? = some lv → keepF lv = lv) (hf : ∀ d ∈ ds, f ((e.set v none).set v (some (.frz d))) = some (.val (.frz (h d)) ((e.set v none).set v (some (.frz d))))) :
    compI [v] (bName v) it yesT f env = some (.val (.new (.lst (ds.map h))) e) := by
  have g := comp_go (h := h) ds [] (by simpa using hl) hf
  have w : wipeE e [v] = e.set v none := rfl
  unfold compI Rs.b
  rw [hi]
  dsimp only
  rw [w, g]
  dsimp only
  rw [back_one hv]
  simp
end Zed
set_option Elab.async false
set_option linter.all false
set_option maxRecDepth 100000
set_option maxHeartbeats 4000000
namespace K50
open PySem Zed
/-- str(d) -/
def strD : D → Str
  | .str s => s
  | .int i => toString i
  | _ => ""
theorem strs_map {α : Type} {h : α → Str} : ∀ {ds : List α}, strsOf (ds.map fun d => D.str (h d)) = some (ds.map h)
  | [] => rfl
  | d :: ds => by
    have r := strs_map (h := h) (ds := ds)
    simp [strsOf, r]
theorem line_eq {ds : List D} (hs : ∀ d ∈ ds, strN [d] = some (.frz (.str (strD d)))) (hl : ds.length ≤ 1000) (hz : ((ds.map strD).map (·.length)).sum + ds.length * 1 ≤ 16777216) :
    d__law_line [some (.frz (.tup ds))] = some (.val (.frz (.str (Txt.join " " (ds.map strD)))) [some (.frz (.tup ds))]) := by
  have c : compI [1] (bName 1) (itE (fzE (var 0)) tupOf) yesT (bltE strN (aCons (var 1) aNil)) [some (.frz (.tup ds)), none] = some (.val (.new (.lst (ds.map fun d => D.str (strD d)))) [some (.frz (.tup ds)), none]) := by
    refine comp_map (e := [some (.frz (.tup ds)), none]) (h := fun d => D.str (strD d)) rfl (by omega) (fun lv h => by simp at h; subst h; rfl) fun d hd => ?_
    have q := hs d hd
    simp only [List.set, bltE, aCons, aNil, Rs.b, var, List.getElem?_cons_succ, List.getElem?_cons_zero, peekN, peekL, peek, q, out]
  unfold d__law_line runF
  rw [if_pos ⟨rfl, rfl⟩, show ([some (.frz (.tup ds))] : Zed.Env) ++ List.replicate (2 - 1) none = [some (.frz (.tup ds)), none] from rfl]
  have j : joinM (.str " ") [.lst (ds.map fun d => D.str (strD d))] = some (.frz (.str (Txt.join " " (ds.map strD)))) := by
    unfold joinM
    dsimp only
    rw [strs_map]
    dsimp only
    rw [if_pos (by rw [List.length_map]; exact hz)]
  have m : b__law_line [some (.frz (.tup ds)), none] = some (.ret (.frz (.str (Txt.join " " (ds.map strD)))) [some (.frz (.tup ds)), none]) := by
    refine ret_eq ?_
    simp only [metE, Rs.b, cst, aCons, aNil, c, peek]
    rw [if_pos (by rfl)]
    simp only [peek1, peek, peekN, peekL, O.fz, O.d, if_true, j, out]
  rw [m]
  rfl
end K50
set_option Elab.async false
set_option linter.all false
set_option maxRecDepth 100000
set_option maxHeartbeats 4000000
namespace K50
open PySem Zed
def dig (c : Nat) : Bool := decide (48 ≤ c) && decide (c ≤ 57)
theorem uni_dig {c : Nat} (h : c < 128) : Unicode.isDigit c = dig c := by
  have key : ∀ c : Fin 128, Unicode.isDigit c.val = dig c.val := by decide +kernel
  exact key ⟨c, h⟩
theorem all_on {p q : Nat → Bool} : ∀ {w : List Nat}, (∀ c ∈ w, p c = q c) → w.all p = w.all q
  | [], _ => rfl
  | c :: w, h => by rw [List.all_cons, List.all_cons, h c List.mem_cons_self, all_on fun d hd => h d (List.mem_cons_of_mem _ hd)]
theorem isdigit_S {w : List Nat} (h : ∀ c ∈ w, c < 128) : Txt.isdigit (S w) = (!w.isEmpty && w.all dig) := by
  unfold Txt.isdigit
  have e : (S w).cps.all Unicode.isDigit = w.all dig := by
    show w.toArray.all Unicode.isDigit = _
    rw [List.all_toArray]
    exact all_on fun c hc => uni_dig (h c hc)
  rw [e]
  cases w <;> simp [S, Str.length]
end K50
set_option Elab.async false
set_option linter.all false
set_option maxRecDepth 100000
set_option maxHeartbeats 4000000
namespace K50
open PySem Zed
/-- the number that a word says, if it is written as it should be and not above most -/
def wnP (w : List Nat) (most : Nat) : Option Nat := if (!w.isEmpty && w.all dig) = true ∧ w.length ≤ (TL.numL most).length ∧ ¬ (w.head? = some 48 ∧ 1 < w.length) ∧ NumText.digitsVal w ≤ most then some (NumText.digitsVal w) else none
end K50
set_option Elab.async false
set_option linter.all false
set_option maxRecDepth 100000
set_option maxHeartbeats 4000000
namespace Zed
open PySem
variable {α γ : Type} {env e1 e : Zed.Env} {f g h : Exp} {t t1 : Tst} {s s1 : Stm} {as : Zed.Args} {ds : Dargs} {d d1 : D}
@[simp] theorem v_b0 (a : α) (k : α → Zed.Env → Option (Rs γ)) : Rs.b (some (.val a env)) k = k a env := id rfl
@[simp] theorem v_b1 (x : Exc) (k : α → Zed.Env → Option (Rs γ)) : Rs.b (some (.exc x env)) k = some (.exc x env) := id rfl
@[simp] theorem v_s0 (a : α) (k : α → Zed.Env → Option Fl) : Rs.s (some (.val a env)) k = k a env := id rfl
@[simp] theorem v_s1 (x : Exc) (k : α → Zed.Env → Option Fl) : Rs.s (some (.exc x env)) k = some (.exc x env) := id rfl
@[simp] theorem v_seq : seqS s s1 env = match s env with | some (.nx e) => s1 e | r => r := id rfl
@[simp] theorem v_if : ifS t s s1 env = Rs.s (t env) fun b e1 => if b = true then s e1 else s1 e1 := id rfl
@[simp] theorem v_ret : retS f env = Rs.s (f env) fun r e1 => some (.ret r e1) := id rfl
@[simp] theorem v_retN : retN env = some (.ret (.frz .non) env) := id rfl
@[simp] theorem v_skip : skip env = some (.nx env) := id rfl
@[simp] theorem v_brk : brkS env = some (.brk env) := id rfl
@[simp] theorem v_cont : contS env = some (.cont env) := id rfl
@[simp] theorem v_drop : dropS f env = Rs.s (f env) fun _ e1 => some (.nx e1) := id rfl
@[simp] theorem v_asg (i : Nat) : asgS i f env = Rs.s (f env) fun r e1 => match bindR i r e1 with | some e => some (.nx e) | none => none := by
  unfold asgS Rs.s
  cases f env with
  | none => rfl
  | some r => cases r <;> rfl
@[simp] theorem v_bindF (i : Nat) (d : D) : bindR i (.frz d) env = some (env.set i (some (.frz d))) := id rfl
@[simp] theorem v_bindN (i : Nat) (o : O) : bindR i (.new o) env = some (env.set i (some (.own o))) := id rfl
@[simp] theorem v_tst : tst f env = Rs.b (f env) asB := id rfl
@[simp] theorem v_asB (b : Bool) : asB (.frz (.bl b)) env = some (.val b env) := id rfl
@[simp] theorem v_tru : tru f env = Rs.b (f env) fun r e1 => match peek r e1 with | some d => (match truD d with | some b => some (.val b e1) | none => none) | none => none := id rfl
@[simp] theorem v_truN : truD .non = some false := id rfl
@[simp] theorem v_truB (b : Bool) : truD (.bl b) = some b := id rfl
@[simp] theorem v_truI (i : Int) : truD (.int i) = some (i != 0) := id rfl
@[simp] theorem v_truL (l : List D) : truD (.lst l) = some (!l.isEmpty) := id rfl
@[simp] theorem v_truC (l : List D) : truD (.scr l) = some (!l.isEmpty) := id rfl
@[simp] theorem v_truT (l : List D) : truD (.tup l) = some (!l.isEmpty) := id rfl
@[simp] theorem v_and : andT t t1 env = Rs.b (t env) fun b e1 => if b = true then t1 e1 else some (.val false e1) := id rfl
@[simp] theorem v_or : orT t t1 env = Rs.b (t env) fun b e1 => if b = true then some (.val true e1) else t1 e1 := id rfl
@[simp] theorem v_not : notT t env = Rs.b (t env) fun b e1 => some (.val (!b) e1) := id rfl
@[simp] theorem v_andE : andE f g env = Rs.b (tst f env) fun b e1 => if b = true then g e1 else some (.val (.frz (.bl false)) e1) := id rfl
@[simp] theorem v_orE : orE f g env = Rs.b (tst f env) fun b e1 => if b = true then some (.val (.frz (.bl true)) e1) else g e1 := id rfl
@[simp] theorem v_notE : notE f env = Rs.b (tst f env) fun b e1 => some (.val (.frz (.bl (!b))) e1) := id rfl
@[simp] theorem v_ifE : ifE t f g env = Rs.b (t env) fun b e1 => if b = true then f e1 else g e1 := id rfl
@[simp] theorem v_bin (o : D → D → Option OV) : Zed.bin o f g env = Rs.b (f env) fun ra e1 => Rs.b (g e1) fun rb e2 => out (peek2 o ra rb e2) e2 := id rfl
@[simp] theorem v_un (o : D → Option OV) : un o f env = Rs.b (f env) fun ra e1 => out (peek1 o ra e1) e1 := id rfl
@[simp] theorem v_var (i : Nat) : var i env = match env[i]? with | some (some (.frz d)) => some (.val (.frz d) env) | some (some (.own _)) => some (.val (.slot i) env) | _ => none := by
  unfold var
  split <;> simp_all
@[simp] theorem v_cst : cst d env = some (.val (.frz d) env) := id rfl
@[simp] theorem v_peekF : peek (.frz d) env = some d := id rfl
@[simp] theorem v_peekN (o : O) : peek (.new o) env = if o.fz = true then some o.d else none := id rfl
@[simp] theorem v_peekS (i : Nat) : peek (.slot i) env = match env[i]? with | some (some (.frz d)) => some d | some (some (.own o)) => if o.fz = true then some o.d else none | _ => none := id rfl
@[simp] theorem v_fz0 (l : List D) : (O.lst l).fz = true := id rfl
@[simp] theorem v_fz1 (c : Str) (ns : List Str) (l : List D) : (O.obj c ns l).fz = true := id rfl
@[simp] theorem v_d0 (l : List D) : (O.lst l).d = .lst l := id rfl
@[simp] theorem v_d1 (c : Str) (ns : List Str) (l : List D) : (O.obj c ns l).d = .obj c ns l := id rfl
@[simp] theorem v_peek2 (o : D → D → Option OV) (ra rb : RV) : peek2 o ra rb env = match peek ra env, peek rb env with | some a, some b => o a b | _, _ => none := id rfl
@[simp] theorem v_peek1 (o : D → Option OV) (ra : RV) : peek1 o ra env = match peek ra env with | some a => o a | _ => none := id rfl
@[simp] theorem v_peekL0 : peekL [] env = some [] := id rfl
@[simp] theorem v_peekL1 (r : RV) (rs : List RV) : peekL (r :: rs) env = match peek r env, peekL rs env with | some d, some ds => some (d :: ds) | _, _ => none := id rfl
@[simp] theorem v_peekNN (o : List D → Option OV) (rs : List RV) : peekN o rs env = match peekL rs env with | some ds => o ds | none => none := id rfl
@[simp] theorem v_outF : out (some (.frz d)) env = some (.val (.frz d) env) := id rfl
@[simp] theorem v_outN (o : O) : out (some (.new o)) env = some (.val (.new o) env) := id rfl
@[simp] theorem v_fzE : fzE f env = Rs.b (f env) fun r env' => match freeze r env' with | some (d, env2) => some (.val d env2) | none => none := id rfl
@[simp] theorem v_frF : freeze (.frz d) env = some (d, env) := id rfl
@[simp] theorem v_frN (o : O) : freeze (.new o) env = if o.fz = true then some (o.d, env) else none := id rfl
@[simp] theorem v_frS (i : Nat) : freeze (.slot i) env = match env[i]? with | some (some (.frz d)) => some (d, env) | some (some (.own o)) => if o.fz = true then some (o.d, env.set i (some (.frz o.d))) else none | _ => none := id rfl
@[simp] theorem v_aNil : aNil env = some (.val [] env) := id rfl
@[simp] theorem v_aCons : aCons f as env = Rs.b (f env) fun r e1 => Rs.b (as e1) fun rs e2 => some (.val (r :: rs) e2) := id rfl
@[simp] theorem v_dNil : dNil env = some (.val [] env) := id rfl
@[simp] theorem v_dCons : dCons f ds env = Rs.b (fzE f env) fun d e1 => Rs.b (ds e1) fun ds e2 => some (.val (d :: ds) e2) := id rfl
theorem sizeN : sizeLine = 16777216 := by decide +kernel
@[simp] theorem v_lst : lstE ds env = Rs.b (ds env) fun l e1 => if l.length ≤ 16777216 then some (.val (.new (.lst l)) e1) else none := by
  unfold lstE
  rw [sizeN]
@[simp] theorem v_tup : tupE ds env = Rs.b (ds env) fun l e1 => if l.length ≤ 16777216 then some (.val (.frz (.tup l)) e1) else none := by
  unfold tupE
  rw [sizeN]
@[simp] theorem v_pN : pNone env = some (.val none env) := id rfl
@[simp] theorem v_pS : pSome f env = Rs.b (f env) fun r e1 => match r with | .frz (.int i) => some (.val (some i) e1) | _ => none := id rfl
@[simp] theorem v_sl (l h : Part) : slE f l h env = Rs.b (f env) fun r e1 => Rs.b (l e1) fun lo e2 => Rs.b (h e2) fun hi e3 => out (peek1 (fun d => slD d lo hi) r e3) e3 := id rfl
@[simp] theorem v_slL (l : List D) (lo hi : Option Int) : slD (.lst l) lo hi = some (.new (.lst (cutD l lo hi))) := id rfl
@[simp] theorem v_slT (l : List D) (lo hi : Option Int) : slD (.tup l) lo hi = some (.frz (.tup (cutD l lo hi))) := id rfl
@[simp] theorem v_slC (l : List D) (lo hi : Option Int) : slD (.scr l) lo hi = some (.new (.lst (cutD l lo hi))) := id rfl
@[simp] theorem v_fldE (n : Str) (cs : List Str) : fldE n cs f env = un (fldD n cs) f env := id rfl
@[simp] theorem v_fldD (n : Str) (cs : List Str) (x : Str) (ns : List Str) (l : List D) : fldD n cs (.obj x ns l) = if x ∈ cs then (look n ns l).map OV.frz else none := id rfl
@[simp] theorem v_look1 (n x : Str) (ns : List Str) (l : List D) : look n (x :: ns) (d :: l) = if n = x then some d else look n ns l := id rfl
@[simp] theorem v_blt (o : List D → Option OV) : bltE o as env = Rs.b (as env) fun rs e1 => out (peekN o rs e1) e1 := id rfl
@[simp] theorem v_met (T : String) (o : D → List D → Option OV) : metE T o f as env = Rs.b (f env) fun r e1 => match peek r e1 with
  | some d => if isT T d = true then Rs.b (as e1) fun rs e2 => out (peek1 (fun d => peekN (o d) rs e2) r e2) e2 else none
  | none => none := id rfl
@[simp] theorem v_met0 (T : String) (o : D → List D → Option OV) : met0 T o f env = Rs.b (f env) fun r e1 => out (peek1 (fun d => if isT T d = true then o d [] else none) r e1) e1 := id rfl
@[simp] theorem v_isTs (a : Str) : isT "str" (.str a) = true := id rfl
@[simp] theorem v_isTl (l : List D) : isT "list" (.lst l) = true := id rfl
@[simp] theorem v_isTc (l : List D) : isT "list" (.scr l) = true := id rfl
@[simp] theorem v_bName (i : Nat) : bName i d env = some (env.set i (some (.frz d))) := id rfl
@[simp] theorem v_bTup (is : List Nat) (l : List D) : bTup is (.tup l) env = bNames is l env := id rfl
@[simp] theorem v_bN0 : bNames [] [] env = some env := id rfl
@[simp] theorem v_bN1 (i : Nat) (is : List Nat) (l : List D) : bNames (i :: is) (d :: l) env = bNames is l (env.set i (some (.frz d))) := id rfl
@[simp] theorem v_itE (k : α → Option (List D)) (p : Zed.Env → Option (Rs α)) : itE p k env = Rs.b (p env) fun d e1 => match k d with | some ds => some (.val ds e1) | none => none := id rfl
@[simp] theorem v_seqL (l : List D) : seqOf (.lst l) = some l := id rfl
@[simp] theorem v_seqC (l : List D) : seqOf (.scr l) = some l := id rfl
@[simp] theorem v_tupT (l : List D) : tupOf (.tup l) = some l := id rfl
@[simp] theorem v_for (b : Bnd) (it : Seq) : forI b it s env = Rs.s (it env) fun ds e1 => iter b s ds e1 := id rfl
@[simp] theorem v_it0 (b : Bnd) : iter b s [] env = some (.nx env) := id rfl
theorem iter_nx (b : Bnd) (x : Zed.Env) (l : List D) (h1 : b d env = some e1) (h2 : s e1 = some (.nx x)) : iter b s (d :: l) env = iter b s l x := by
  show (match b d env with | none => none | some e1 => loopK (s e1) (iter b s l)) = _
  rw [h1]
  show loopK (s e1) (iter b s l) = _
  rw [h2]; rfl
theorem iter_ret (b : Bnd) (x : Zed.Env) (r : RV) (l : List D) (h1 : b d env = some e1) (h2 : s e1 = some (.ret r x)) : iter b s (d :: l) env = some (.ret r x) := by
  show (match b d env with | none => none | some e1 => loopK (s e1) (iter b s l)) = _
  rw [h1]
  show loopK (s e1) (iter b s l) = _
  rw [h2]; rfl
theorem iter_exc (b : Bnd) (x : Zed.Env) (r : Exc) (l : List D) (h1 : b d env = some e1) (h2 : s e1 = some (.exc r x)) : iter b s (d :: l) env = some (.exc r x) := by
  show (match b d env with | none => none | some e1 => loopK (s e1) (iter b s l)) = _
  rw [h1]
  show loopK (s e1) (iter b s l) = _
  rw [h2]; rfl
@[simp] theorem v_call (F : FDen) (dd : List D) : callE F dd as env = Rs.b (as env) fun rs e1 => callK F dd rs e1 := id rfl
@[simp] theorem v_cm (cn : Str) (F : FDen) (dd : List D) : cmE cn F dd as env = Rs.b (as env) fun rs e1 => callK F dd (.frz (.gl cn) :: rs) e1 := id rfl
@[simp] theorem v_callK (F : FDen) (dd : List D) (rs : List RV) : callK F dd rs env = match normL rs env with
  | some (rs', as) => if decide (slotsOf rs').Nodup = true then match F (as ++ dfl dd) with
      | some (.val r as') => (match mapR (rs' ++ dd.map RV.frz) as' r with
        | some r' => some (.val r' (putOuts rs' as' env))
        | none => none)
      | some (.exc x as') => some (.exc x (putOuts rs' as' env))
      | none => none
    else none
  | none => none := id rfl
@[simp] theorem v_normF : normR (.frz d) env = some (.frz d, some (.frz d)) := id rfl
@[simp] theorem v_normN (o : O) : normR (.new o) env = some (.new o, some (.own o)) := id rfl
@[simp] theorem v_normS (i : Nat) : normR (.slot i) env = match env[i]? with | some (some (.frz d)) => some (.frz d, some (.frz d)) | some (some (.own o)) => some (.slot i, some (.own o)) | _ => none := id rfl
@[simp] theorem v_normL0 : normL [] env = some ([], []) := id rfl
@[simp] theorem v_normL1 (r : RV) (rs : List RV) : normL (r :: rs) env = match normR r env, normL rs env with | some (r', a), some (rs', as) => some (r' :: rs', a :: as) | _, _ => none := id rfl
@[simp] theorem v_slots0 : slotsOf [] = [] := id rfl
@[simp] theorem v_slotsF (rs : List RV) : slotsOf (.frz d :: rs) = slotsOf rs := id rfl
@[simp] theorem v_slotsN (o : O) (rs : List RV) : slotsOf (.new o :: rs) = slotsOf rs := id rfl
@[simp] theorem v_slotsS (i : Nat) (rs : List RV) : slotsOf (.slot i :: rs) = i :: slotsOf rs := id rfl
@[simp] theorem v_putF (rs : List RV) (a : Option LV) (l : Zed.Env) : putOuts (.frz d :: rs) (a :: l) env = putOuts rs l env := id rfl
@[simp] theorem v_putN (o : O) (rs : List RV) (a : Option LV) (l : Zed.Env) : putOuts (.new o :: rs) (a :: l) env = putOuts rs l env := id rfl
@[simp] theorem v_putS (i : Nat) (rs : List RV) (a : Option LV) (l : Zed.Env) : putOuts (.slot i :: rs) (a :: l) env = putOuts rs l (env.set i a) := id rfl
@[simp] theorem v_put0 (l : Zed.Env) : putOuts [] l env = env := by cases l <;> rfl
@[simp] theorem v_mapF (rs : List RV) (l : Zed.Env) : mapR rs l (.frz d) = some (.frz d) := id rfl
@[simp] theorem v_mapN (o : O) (rs : List RV) (l : Zed.Env) : mapR rs l (.new o) = some (.new o) := id rfl
@[simp] theorem v_dfl0 : dfl [] = [] := id rfl
@[simp] theorem v_dfl1 (l : List D) : dfl (d :: l) = some (.frz d) :: dfl l := id rfl
@[simp] theorem v_lenL (l : List D) : lenN [.lst l] = some (.frz (.int l.length)) := id rfl
@[simp] theorem v_lenC (l : List D) : lenN [.scr l] = some (.frz (.int l.length)) := id rfl
@[simp] theorem v_lenT (l : List D) : lenN [.tup l] = some (.frz (.int l.length)) := id rfl
@[simp] theorem v_strS (a : Str) : strN [.str a] = some (.frz (.str a)) := id rfl
@[simp] theorem v_intI (i : Int) : intN [.int i] = some (.frz (.int i)) := id rfl
@[simp] theorem v_absI (i : Int) : absN [.int i] = some (.frz (.int (if i < 0 then -i else i))) := id rfl
@[simp] theorem v_minI (i j : Int) : minN [.int i, .int j] = some (.frz (.int (if j < i then j else i))) := id rfl
@[simp] theorem v_maxI (i j : Int) : maxN [.int i, .int j] = some (.frz (.int (if j > i then j else i))) := id rfl
@[simp] theorem v_tupL (l : List D) : tupN [.lst l] = some (.frz (.tup l)) := id rfl
@[simp] theorem v_tupTT (l : List D) : tupN [.tup l] = some (.frz (.tup l)) := id rfl
@[simp] theorem v_listL (l : List D) : listN [.lst l] = some (.new (.lst l)) := id rfl
@[simp] theorem v_listT (l : List D) : listN [.tup l] = some (.new (.lst l)) := id rfl
@[simp] theorem v_addI (i j : Int) : addD (.int i) (.int j) = some (.frz (.int (i + j))) := id rfl
@[simp] theorem v_addL (l m : List D) : addD (.lst l) (.lst m) = if l.length + m.length ≤ 16777216 then some (.new (.lst (l ++ m))) else none := by
  have := sizeN
  show (if l.length + m.length ≤ sizeLine then _ else _) = _
  rw [this]
@[simp] theorem v_addT (l m : List D) : addD (.tup l) (.tup m) = if l.length + m.length ≤ 16777216 then some (.frz (.tup (l ++ m))) else none := by
  have := sizeN
  show (if l.length + m.length ≤ sizeLine then _ else _) = _
  rw [this]
@[simp] theorem v_intD (k : Int → Int → Int) (i j : Int) : intD k (.int i) (.int j) = some (.frz (.int (k i j))) := id rfl
@[simp] theorem v_cmpD (k : Int → Int → Bool) (i j : Int) : cmpD k (.int i) (.int j) = some (.frz (.bl (k i j))) := id rfl
@[simp] theorem v_modD (i j : Int) : modD (.int i) (.int j) = if 0 < j then some (.frz (.int (i % j))) else none := id rfl
@[simp] theorem v_fdivD (i j : Int) : fdivD (.int i) (.int j) = if 0 < j ∧ j < 1073741824 then some (.frz (.int (i / j))) else none := id rfl
theorem v_mulI (i j : Int) : mulD (.int i) (.int j) = if mulOk i j = true then some (.frz (.int (i * j))) else none := rfl
@[simp] theorem v_eqI (i j : Int) : eqD (.int i) (.int j) = some (.frz (.bl (decide (i = j)))) := id rfl
@[simp] theorem v_eqS (i j : Str) : eqD (.str i) (.str j) = some (.frz (.bl (decide (i = j)))) := id rfl
@[simp] theorem v_eqB (i j : Bool) : eqD (.bl i) (.bl j) = some (.frz (.bl (decide (i = j)))) := id rfl
@[simp] theorem v_neI (i j : Int) : neD (.int i) (.int j) = some (.frz (.bl (!decide (i = j)))) := id rfl
@[simp] theorem v_neS (i j : Str) : neD (.str i) (.str j) = some (.frz (.bl (!decide (i = j)))) := id rfl
@[simp] theorem v_isNN : isN .non .non = some (.frz (.bl true)) := id rfl
@[simp] theorem v_isNS (a : Str) : isN (.str a) .non = some (.frz (.bl false)) := id rfl
@[simp] theorem v_isNI (a : Int) : isN (.int a) .non = some (.frz (.bl false)) := id rfl
@[simp] theorem v_isNT (l : List D) : isN (.tup l) .non = some (.frz (.bl false)) := id rfl
@[simp] theorem v_isNO (c : Str) (ns : List Str) (l : List D) : isN (.obj c ns l) .non = some (.frz (.bl false)) := id rfl
@[simp] theorem v_negD (i : Int) : negD (.int i) = some (.frz (.int (-i))) := id rfl
@[simp] theorem v_ixL (l : List D) (i : Int) : ixD (.lst l) (.int i) = (L2.atI l i).map OV.frz := id rfl
@[simp] theorem v_ixT (l : List D) (i : Int) : ixD (.tup l) (.int i) = (L2.atI l i).map OV.frz := id rfl
@[simp] theorem v_ixC (l : List D) (i : Int) : ixD (.scr l) (.int i) = (L2.atI l i).map OV.frz := id rfl
@[simp] theorem v_make (cn : Str) (F : FDen) (dd : List D) : makeE cn F dd as env = Rs.b (as env) fun rs e1 => makeK cn F dd rs e1 := id rfl
@[simp] theorem v_makeK (cn : Str) (F : FDen) (dd : List D) (rs : List RV) : makeK cn F dd rs env = match normL rs env with
  | some (rs', as) => if decide (slotsOf rs').Nodup = true then match F (some (.own (.obj cn [] [])) :: (as ++ dfl dd)) with
      | some (.val (.frz .non) (some (.own o) :: as')) => some (.val (.new o) (putOuts rs' as' env))
      | _ => none
    else none
  | none => none := id rfl
@[simp] theorem v_makeV (i : Nat) (cn : Str) (F : FDen) (dd : List D) : makeV i cn F dd as env = match env[i]? with
  | some (some (.frz (.gl y))) => if y = cn then makeE cn F dd as env else none
  | _ => none := by unfold makeV; split <;> simp_all
@[simp] theorem v_sub (fo fi fe : Exp) : subS fo fi fe env = Rs.s (fzE fe env) fun d e1 => Rs.s (fo e1) fun r e2 => Rs.s (fzE fi e2) fun k e3 => match k with
  | .int z => (match ownL r e3 with
    | some (j, xs) => (match L2.ixN xs.length z with
      | some n => some (.nx (e3.set j (some (.own (.lst (xs.set n d))))))
      | none => none)
    | none => none)
  | _ => none := id rfl
@[simp] theorem v_ownL (i : Nat) : ownL (.slot i) env = match env[i]? with | some (some (.own (.lst ds))) => some (i, ds) | _ => none := id rfl
@[simp] theorem v_fldS (n : Str) (cs : List Str) (fo fe : Exp) : fldS n cs fo fe env = Rs.s (fzE fe env) fun d e1 => Rs.s (fo e1) fun r e2 => match r with
  | .slot i => (match e2[i]? with
    | some (some (.own (.obj x ns ds))) => if x ∈ cs ∧ ns.length < 1000 then some (.nx (e2.set i (some (.own (.obj x (putNs n ns) (putDs n d ns ds)))))) else none
    | _ => none)
  | _ => none := id rfl
@[simp] theorem v_unp (b : Bnd) (fe : Exp) : unpS b fe env = Rs.s (fzE fe env) fun d e1 => match b d e1 with | some e2 => some (.nx e2) | none => none := id rfl
@[simp] theorem v_mut (o : List D → List D → Option (List D)) : mutE o f ds env = Rs.b (f env) fun r e1 => match ownL r e1 with
  | some _ => Rs.b (ds e1) fun l e2 => (match ownL r e2 with
    | some (i, xs) => (match o xs l with
      | some ys => some (.val (.frz .non) (e2.set i (some (.own (.lst ys)))))
      | none => none)
    | none => none)
  | none => none := id rfl
@[simp] theorem v_app (l : List D) : appendU l [d] = if l.length < 16777216 then some (l ++ [d]) else none := by
  have := sizeN
  show (if l.length < sizeLine then _ else _) = _
  rw [this]
@[simp] theorem v_chain (o1 o2 : D → D → Option OV) : chainE o1 o2 f g h env = Rs.b (f env) fun ra e1 => Rs.b (g e1) fun rb e2 => match peek2 o1 ra rb e2 with
  | some (.frz (.bl true)) => Rs.b (h e2) fun rc e3 => out (peek2 o2 rb rc e3) e3
  | some (.frz (.bl false)) => some (.val (.frz (.bl false)) e2)
  | _ => none := id rfl
theorem v_isi (tb : Tab) (c : D) : isiN tb [d, c] = match tyD d, clD c with | some a, some b => (tabGet tb a b).map fun r => .frz (.bl r) | _, _ => none := rfl
@[simp] theorem v_tyN : tyD .non = some (.inl "NoneType") := id rfl
@[simp] theorem v_tyB (b : Bool) : tyD (.bl b) = some (.inl "bool") := id rfl
@[simp] theorem v_tyI (b : Int) : tyD (.int b) = some (.inl "int") := id rfl
@[simp] theorem v_tyS (b : Str) : tyD (.str b) = some (.inl "str") := id rfl
@[simp] theorem v_tyL (l : List D) : tyD (.lst l) = some (.inl "list") := id rfl
@[simp] theorem v_tyC (l : List D) : tyD (.scr l) = some (.inl "list") := id rfl
@[simp] theorem v_tyT (l : List D) : tyD (.tup l) = some (.inl "tuple") := id rfl
@[simp] theorem v_tyO (c : Str) (ns : List Str) (l : List D) : tyD (.obj c ns l) = some (.inr c) := id rfl
@[simp] theorem v_clT (n : String) : clD (.ty n) = some (.inl n) := id rfl
@[simp] theorem v_clG (n : Str) : clD (.gl n) = some (.inr n) := id rfl
@[simp] theorem v_dun (tb : OTab) (ok : D → Bool) (o : List D → Option OV) : dunE tb ok o ds env = Rs.b (ds env) fun l e1 => out (dunO tb ok o l) e1 := id rfl
@[simp] theorem v_eqO (tb : OTab) (t : Tab) : eqOE tb t f g env = Rs.b (fzE f env) fun d e1 => Rs.b (fzE g e1) fun e e2 => out ((eqO tb t d e).map OV.frz) e2 := id rfl
@[simp] theorem v_try (hs : List Hd) : tryS s hs env = match s env with | some (.exc x e1) => catch_ x e1 hs | r => r := id rfl
@[simp] theorem v_catch0 (x : Exc) : catch_ x env [] = some (.exc x env) := id rfl
@[simp] theorem v_catch1 (x : Exc) (q : Hd) (hs : List Hd) : catch_ x env (q :: hs) = match q.tab x.c with
    | some true => endX q.slot (q.suite (inX q.slot x env))
    | some false => catch_ x env hs
    | none => none := id rfl
@[simp] theorem v_inX (i : Nat) (x : Exc) : inX (some i) x env = env.set i (some (.frz (.exc x.c x.ns x.ds))) := id rfl
@[simp] theorem v_inX0 (x : Exc) : inX none x env = env := id rfl
@[simp] theorem v_endXr (sl : Option Nat) (r : RV) : endX sl (some (.ret r env)) = match retX r env with | some r' => some (.ret r' (goneE sl env)) | none => none := id rfl
@[simp] theorem v_endXn (sl : Option Nat) : endX sl (some (.nx env)) = some (.nx (goneE sl env)) := id rfl
@[simp] theorem v_retX (d : D) : retX (.frz d) env = if d.nox = true then some (.frz d) else none := id rfl
@[simp] theorem v_isEE (t : Tab) (fo fc : Exp) : isEE t fo fc env = Rs.b (fzE fo env) fun d e1 => Rs.b (fzE fc e1) fun c e2 => match d, clD c with
  | .exc x _ _, some b => (match tabGet t (.inr x) b with
    | some r => some (.val (.frz (.bl r)) e2)
    | none => none)
  | _, _ => none := id rfl
@[simp] theorem v_excF (n : Str) (cs : List Str) (fo : Exp) : excF n cs fo env = Rs.b (fzE fo env) fun d e1 => match d with
  | .exc x ns ds => if x ∈ cs then (match look n ns ds with
    | some z => some (.val (.frz z) e1)
    | none => none) else none
  | _ => none := id rfl
@[simp] theorem v_gone1 (i : Nat) : goneE (some i) env = cleanE (env.set i none) := id rfl
@[simp] theorem v_gone0 : goneE none env = cleanE env := id rfl
@[simp] theorem v_cl0 : cleanE [] = [] := id rfl
@[simp] theorem v_clN : cleanE (none :: env) = none :: cleanE env := id rfl
@[simp] theorem v_clF : cleanE (some (.frz d) :: env) = (if d.nox = true then some (.frz d) else none) :: cleanE env := id rfl
@[simp] theorem v_clO (o : O) : cleanE (some (.own o) :: env) = (if o.nox = true then some (.own o) else none) :: cleanE env := id rfl
@[simp] theorem v_noxS (a : Str) : (D.str a).nox = true := id rfl
@[simp] theorem v_noxI (a : Int) : (D.int a).nox = true := id rfl
@[simp] theorem v_noxB (a : Bool) : (D.bl a).nox = true := id rfl
@[simp] theorem v_noxN : D.non.nox = true := id rfl
theorem run_by {np nl : Nat} {F : Nat → Bool} {l : Zed.Env} {r : Option (Rs RV)} (h : l.length = np ∧ okIn F 0 l = true) (q : endF np F l (s (l ++ List.replicate (nl - np) none)) = r) : runF np nl F s l = r := by
  unfold runF
  rw [if_pos h, q]
@[simp] theorem v_endN (np : Nat) (F : Nat → Bool) (l : Zed.Env) : endF np F l (some (.nx env)) = some (.val (.frz .non) (mask F np 0 env)) := id rfl
@[simp] theorem v_endR (np : Nat) (F : Nat → Bool) (l : Zed.Env) (r : RV) : endF np F l (some (.ret r env)) = match giveR np F r env with | some r' => some (.val r' (mask F np 0 env)) | none => none := id rfl
@[simp] theorem v_endX (np : Nat) (F : Nat → Bool) (l : Zed.Env) (x : Exc) : endF np F l (some (.exc x env)) = some (.exc x (l.map fun _ => none)) := id rfl
@[simp] theorem v_giveF (np : Nat) (F : Nat → Bool) : giveR np F (.frz d) env = some (.frz d) := id rfl
@[simp] theorem v_giveN (np : Nat) (F : Nat → Bool) (o : O) : giveR np F (.new o) env = some (.new o) := id rfl
@[simp] theorem v_mask0 (F : Nat → Bool) (k : Nat) : mask F 0 k env = [] := id rfl
@[simp] theorem v_mask1 (F : Nat → Bool) (n k : Nat) (x : Option LV) : mask F (n + 1) k (x :: env) = (if F k = true then x else none) :: mask F n (k + 1) env := id rfl
@[simp] theorem v_ok0 (F : Nat → Bool) (k : Nat) : okIn F k [] = true := id rfl
@[simp] theorem v_okO (F : Nat → Bool) (k : Nat) (o : O) : okIn F k (some (.own o) :: env) = (F k && okIn F (k + 1) env) := id rfl
@[simp] theorem v_okF (F : Nat → Bool) (k : Nat) : okIn F k (some (.frz d) :: env) = okIn F (k + 1) env := id rfl
theorem at_nat' {α : Type} {ds : List α} (i : Nat) : L2.atI ds (i : Int) = ds[i]? := by
  unfold L2.atI L2.ixN
  rw [if_pos (by omega)]
  by_cases h1 : i < ds.length
  · rw [if_pos (by omega)]; rfl
  · rw [if_neg (by omega), List.getElem?_eq_none (by omega)]; rfl
@[simp] theorem v_at0 (l : List D) : L2.atI l 0 = l[0]? := at_nat' 0
@[simp] theorem v_at1 (l : List D) : L2.atI l 1 = l[1]? := at_nat' 1
@[simp] theorem v_at2 (l : List D) : L2.atI l 2 = l[2]? := at_nat' 2
@[simp] theorem v_at3 (l : List D) : L2.atI l 3 = l[3]? := at_nat' 3
@[simp] theorem v_at4 (l : List D) : L2.atI l 4 = l[4]? := at_nat' 4
@[simp] theorem v_ofStr (a b : String) : (Str.ofString a = Str.ofString b) ↔ a = b := by
  refine ⟨fun h => ?_, fun h => by rw [h]⟩
  have h : TL.tl (Str.ofString a) = TL.tl (Str.ofString b) := congrArg TL.tl h
  rw [TL.tl_ofString, TL.tl_ofString] at h
  have inj : ∀ (l m : List Char), l.map Char.toNat = m.map Char.toNat → l = m := fun l => by
    induction l with
    | nil => intro m q; cases m with
      | nil => rfl
      | cons _ _ => simp at q
    | cons c l ih => intro m q; cases m with
      | nil => simp at q
      | cons d m =>
        simp only [List.map_cons, List.cons.injEq] at q
        rw [ih m q.2, Char.toNat_inj.mp q.1]
  exact String.toList_inj.mp (inj _ _ h)
end Zed
set_option Elab.async false
set_option linter.all false
set_option maxRecDepth 100000
set_option maxHeartbeats 4000000
namespace K50
open PySem Zed
abbrev conB : Stm := ifS (tst (Zed.bin niD (var 2) (var 1))) (retS (cst (.bl false))) skip
theorem con_iter (x c : Str) : ∀ (w : List Nat) (l : Option LV), ∃ l', iter (bName 2) conB (w.map fun ch => D.str ⟨#[ch]⟩) [some (.frz (.str x)), some (.frz (.str c)), l] = some (if w.all (fun k => decide (k ∈ c.cps.toList)) = true then .nx [some (.frz (.str x)), some (.frz (.str c)), l'] else .ret (.frz (.bl false)) [some (.frz (.str x)), some (.frz (.str c)), l'])
  | [], l => ⟨l, rfl⟩
  | k :: w, l => by
    have q : niD (.str ⟨#[k]⟩) (.str c) = some (.frz (.bl (!decide (k ∈ c.cps.toList)))) := rfl
    obtain ⟨l', r⟩ := con_iter x c w (some (.frz (.str ⟨#[k]⟩)))
    by_cases hk : k ∈ c.cps.toList
    · refine ⟨l', ?_⟩
      rw [List.map_cons, List.all_cons]
      unfold iter
      simp only [bName, List.set, loopK]
      have e : conB [some (.frz (.str x)), some (.frz (.str c)), some (.frz (.str ⟨#[k]⟩))] = some (.nx [some (.frz (.str x)), some (.frz (.str c)), some (.frz (.str ⟨#[k]⟩))]) := by
        simp [conB, q, hk]
      rw [e]
      dsimp only
      rw [r]
      simp [hk]
    · refine ⟨some (.frz (.str ⟨#[k]⟩)), ?_⟩
      rw [List.map_cons, List.all_cons]
      unfold iter
      simp only [bName, List.set, loopK]
      have e : conB [some (.frz (.str x)), some (.frz (.str c)), some (.frz (.str ⟨#[k]⟩))] = some (.ret (.frz (.bl false)) [some (.frz (.str x)), some (.frz (.str c)), some (.frz (.str ⟨#[k]⟩))]) := by
        simp [conB, q, hk]
      rw [e]
      simp [hk]
theorem consists_eq (x c : Str) : d_consists_of [some (.frz (.str x)), some (.frz (.str c))] = some (.val (.frz (.bl (x.cps.toList.all fun k => decide (k ∈ c.cps.toList)))) [some (.frz (.str x)), some (.frz (.str c))]) := by
  obtain ⟨l', h⟩ := con_iter x c x.cps.toList none
  unfold d_consists_of
  refine run_by ⟨rfl, rfl⟩ ?_
  have e : b_consists_of = seqS (forI (bName 2) (itE (fzE (var 0)) strOf) conB) (retS (cst (.bl true))) := rfl
  have s : strOf (.str x) = some (x.cps.toList.map fun ch => D.str ⟨#[ch]⟩) := rfl
  rw [e]
  generalize (x.cps.toList.all fun k => decide (k ∈ c.cps.toList)) = b at h ⊢
  generalize (x.cps.toList.map fun ch => D.str ⟨#[ch]⟩) = l at h s
  cases b with
  | true => simp at h; simp [s, h, flg]
  | false => simp at h; simp [s, h, flg]
end K50
set_option Elab.async false
set_option linter.all false
set_option maxRecDepth 100000
set_option maxHeartbeats 4000000
namespace K50
open PySem Zed
theorem lenS {w : List Nat} (h : w.length ≤ 100000) : lenN [.str (S w)] = some (.frz (.int (w.length : Int))) := by
  have sz := sizeN
  show (if w.toArray.size ≤ sizeLine then some (OV.frz (.int (w.toArray.size : Nat))) else none) = _
  rw [if_pos (by simp only [List.size_toArray]; omega)]; simp
theorem ixS {w : List Nat} (h : w.length ≤ 100000) (j : Nat) : ixD (.str (S w)) (.int (j : Int)) = (w[j]?).map fun k => OV.frz (.str (S [k])) := by
  have sz := sizeN
  show (if w.toArray.size ≤ sizeLine then (L2.atI (S w).cps.toList (j : Int)).map fun k => OV.frz (.str ⟨#[k]⟩) else none) = _
  rw [if_pos (by simp only [List.size_toArray]; omega), at_nat']
theorem inS (k : Nat) (t : Str) : inD (.str (S [k])) (.str t) = some (.frz (.bl (decide (k ∈ t.cps.toList)))) := rfl
theorem all_small {w : List Nat} (h : ∀ c ∈ w, 97 ≤ c ∧ c ≤ 122) : ∀ c ∈ w, c ∈ ("abcdefghijklmnopqrstuvwxyz" : Str).cps.toList := fun c hc => by
  have key : ∀ c : Fin 128, 97 ≤ c.val ∧ c.val ≤ 122 → c.val ∈ ("abcdefghijklmnopqrstuvwxyz" : Str).cps.toList := by decide +kernel
  exact key ⟨c, by have := h c hc; omega⟩ (h c hc)
theorem all_great {w : List Nat} (h : ∀ c ∈ w, 65 ≤ c ∧ c ≤ 90) : ∀ c ∈ w, c ∈ ("ABCDEFGHIJKLMNOPQRSTUVWXYZ" : Str).cps.toList := fun c hc => by
  have key : ∀ c : Fin 128, 65 ≤ c.val ∧ c.val ≤ 90 → c.val ∈ ("ABCDEFGHIJKLMNOPQRSTUVWXYZ" : Str).cps.toList := by decide +kernel
  exact key ⟨c, by have := h c hc; omega⟩ (h c hc)
theorem all_figs {w : List Nat} (h : ∀ c ∈ w, 48 ≤ c ∧ c ≤ 57) : ∀ c ∈ w, c ∈ ("0123456789" : Str).cps.toList := fun c hc => by
  have key : ∀ c : Fin 128, 48 ≤ c.val ∧ c.val ≤ 57 → c.val ∈ ("0123456789" : Str).cps.toList := by decide +kernel
  exact key ⟨c, by have := h c hc; omega⟩ (h c hc)
theorem cons_t {w : List Nat} {t : Str} (h : ∀ c ∈ w, c ∈ t.cps.toList) : d_consists_of [some (.frz (.str (S w))), some (.frz (.str t))] = some (.val (.frz (.bl true)) [some (.frz (.str (S w))), some (.frz (.str t))]) := by
  rw [consists_eq]
  have : (S w).cps.toList.all (fun k => decide (k ∈ t.cps.toList)) = true := by
    rw [List.all_eq_true]; intro c hc; exact decide_eq_true (h c hc)
  rw [this]
theorem isname_ok {w : List Nat} (h : NameOk w) : d_is_name [some (.frz (.str (S w)))] = some (.val (.frz (.bl true)) [some (.frz (.str (S w)))]) := by
  obtain ⟨h1, h8, hl, hr⟩ := h
  have r : inD (.str (S w)) c_RESERVED = some (.frz (.bl false)) := by rw [← hr]; rfl
  have l := lenS (w := w) (by omega)
  have c := cons_t (all_small hl)
  unfold d_is_name
  refine run_by ⟨rfl, rfl⟩ ?_
  simp [b_is_name, r, l, c, flg, h8, Int.ofNat_le, show (1 : Int) ≤ w.length by omega, show (w.length : Int) ≤ 8 by omega]
theorem isletter_ok {c d : Nat} (h1 : 97 ≤ c ∧ c ≤ 122) (h2 : 48 ≤ d ∧ d ≤ 57) : d_is_letter [some (.frz (.str (S [c, d])))] = some (.val (.frz (.bl true)) [some (.frz (.str (S [c, d])))]) := by
  have l := lenS (w := [c, d]) (by simp)
  have i0 : ixD (.str (S [c, d])) (.int 0) = some (.frz (.str (S [c]))) := ixS (w := [c, d]) (by simp) 0
  have i1 : ixD (.str (S [c, d])) (.int 1) = some (.frz (.str (S [d]))) := ixS (w := [c, d]) (by simp) 1
  have m1 := all_small (w := [c]) (by simpa using h1) c (by simp)
  have m2 := all_figs (w := [d]) (by simpa using h2) d (by simp)
  have n1 : inD (.str (S [c])) c_SMALL = some (.frz (.bl true)) := by rw [inS, decide_eq_true m1]
  have n2 : inD (.str (S [d])) c_DIGITS = some (.frz (.bl true)) := by rw [inS, decide_eq_true m2]
  unfold d_is_letter
  refine run_by ⟨rfl, rfl⟩ ?_
  simp only [S] at l i0 i1 n1 n2 ⊢
  simp [b_is_letter, l, i0, i1, n1, n2, flg]
theorem isrel_ok {w : List Nat} (h1 : 1 ≤ w.length) (h2 : w.length ≤ 8) (h3 : ∀ c ∈ w, 65 ≤ c ∧ c ≤ 90) : d_is_relation [some (.frz (.str (S w)))] = some (.val (.frz (.bl true)) [some (.frz (.str (S w)))]) := by
  have l := lenS (w := w) (by omega)
  have c := cons_t (all_great h3)
  unfold d_is_relation
  refine run_by ⟨rfl, rfl⟩ ?_
  simp [b_is_relation, l, c, flg, show (1 : Int) ≤ w.length by omega, show (w.length : Int) ≤ 8 by omega]
theorem cutS_from (a : List Nat) (k : Nat) : L2.cutS (S a) (some (k : Int)) none = S (a.drop k) := by
  unfold L2.cutS
  rw [HT.sIx_nat]
  have e : (S a).length = a.length := by simp [Str.length]
  rw [e]
  show (⟨((a.drop (min k a.length)).take (a.length - min k a.length)).toArray⟩ : Str) = _
  rw [List.take_of_length_le (by simp)]
  by_cases h : k ≤ a.length
  · rw [Nat.min_eq_left h]
  · rw [Nat.min_eq_right (by omega), List.drop_of_length_le (by omega), List.drop_of_length_le (by omega)]
theorem cutS_to (a : List Nat) (k : Nat) : L2.cutS (S a) none (some (k : Int)) = S (a.take k) := by
  unfold L2.cutS
  rw [HT.sIx_nat]
  have e : (S a).length = a.length := by simp [Str.length]
  rw [e]
  show (⟨((a.drop 0).take (min k a.length - 0)).toArray⟩ : Str) = _
  rw [List.drop_zero, Nat.sub_zero]
  by_cases h : k ≤ a.length
  · rw [Nat.min_eq_left h]
  · rw [Nat.min_eq_right (by omega), List.take_of_length_le (by omega), List.take_of_length_le (by omega)]
theorem cut1 {c : Nat} {w : List Nat} (h : w.length ≤ 1000) : slD (.str (S (c :: w))) (some 1) none = some (.frz (.str (S w))) := by
  have sz := sizeN
  show (if (c :: w).toArray.size ≤ sizeLine then some (OV.frz (.str (L2.cutS (S (c :: w)) (some 1) none))) else none) = _
  rw [if_pos (by simp only [List.size_toArray, List.length_cons]; omega)]
  have : L2.cutS (S (c :: w)) (some 1) none = S w := by
    exact cutS_from (c :: w) 1
  rw [this]
theorem ischoice_ok {c : Nat} {w : List Nat} (h0 : 65 ≤ c ∧ c ≤ 90) (h1 : 1 ≤ w.length) (h2 : w.length ≤ 7) (h3 : ∀ c ∈ w, 97 ≤ c ∧ c ≤ 122) : d_is_choice [some (.frz (.str (S (c :: w))))] = some (.val (.frz (.bl true)) [some (.frz (.str (S (c :: w))))]) := by
  have l := lenS (w := c :: w) (by simp; omega)
  have k := cons_t (all_small h3)
  have i0 : ixD (.str (S (c :: w))) (.int 0) = some (.frz (.str (S [c]))) := ixS (w := c :: w) (by simp; omega) 0
  have m1 := all_great (w := [c]) (by simpa using h0) c (by simp)
  have n1 : inD (.str (S [c])) c_CAPITALS = some (.frz (.bl true)) := by rw [inS, decide_eq_true m1]
  have s := cut1 (c := c) (w := w) (by omega)
  unfold d_is_choice
  refine run_by ⟨rfl, rfl⟩ ?_
  generalize hx : S (c :: w) = x at l i0 s ⊢
  simp [b_is_choice, l, k, i0, n1, s, flg, show (2 : Int) ≤ (w.length : Int) + 1 by omega, show (w.length : Int) + 1 ≤ 8 by omega]
end K50
set_option Elab.async false
set_option linter.all false
set_option maxRecDepth 100000
set_option maxHeartbeats 4000000
namespace K50
open PySem Zed
theorem str_num (m : Nat) (hm : m < 10 ^ 9) : strN [.int (m : Int)] = some (.frz (.str (S (TL.numL m)))) := by
  have h : (m : Int).natAbs.log2 < 1920 := by
    rw [Int.natAbs_natCast]
    by_cases h0 : m = 0
    · subst h0; decide
    · exact Nat.lt_of_lt_of_le ((Nat.log2_lt h0).mpr (show m < 2 ^ 30 by omega)) (by decide)
  show (if (m : Int).natAbs.log2 < 1920 then some (OV.frz (.str (toString (m : Int)))) else none) = _
  rw [if_pos h, show (toString (m : Int) : Str) = S (TL.numL m) from SX.num_S m]
theorem numL_mono : ∀ (m : Nat) {n : Nat}, n ≤ m → (TL.numL n).length ≤ (TL.numL m).length := fun m => by
  induction m using Nat.strongRecOn with
  | _ m ih =>
    intro n h
    by_cases hm : m < 10
    · rw [TL.numL_lt hm, TL.numL_lt (show n < 10 by omega)]; simp
    · by_cases hn : n < 10
      · rw [TL.numL_lt hn, TL.numL_step (by omega)]; simp
      · rw [TL.numL_step (show 10 ≤ n by omega), TL.numL_step (show 10 ≤ m by omega)]
        have := ih (m / 10) (by omega) (n := n / 10) (by omega)
        simp; exact this
theorem numL_len9 {m : Nat} (hm : m < 10 ^ 9) : (TL.numL m).length ≤ 9 := TL.numL_len (by decide) hm
theorem isdig_eq {w : List Nat} (ha : ∀ c ∈ w, c < 128) (hl : w.length ≤ 640) : isdigitM (.str (S w)) [] = some (.frz (.bl (!w.isEmpty && w.all dig))) := by
  have := isdigit_S ha
  have sz := sizeN
  first
  | (show some (OV.frz (.bl (Txt.isdigit (S w)))) = _; rw [this])
  | (show (if w.toArray.size ≤ sizeLine then some (OV.frz (.bl (Txt.isdigit (S w)))) else none) = _; rw [this, if_pos (by simp only [List.size_toArray]; omega)])
theorem whole_eq {w : List Nat} {m : Nat} (ha : ∀ c ∈ w, c < 128) (hl : w.length ≤ 640) (hm : m < 10 ^ 9) : d_whole_number [some (.frz (.str (S w))), some (.frz (.int (m : Int)))] = some (.val (.frz (match wnP w m with | some n => .int (n : Int) | none => .non)) [some (.frz (.str (S w))), some (.frz (.int (m : Int)))]) := by
  have dg := isdig_eq ha hl
  have l1 := lenS (w := w) (by omega)
  have l2 := str_num m hm
  have l3 := lenS (w := TL.numL m) (by have := numL_len9 hm; omega)
  unfold d_whole_number
  refine run_by ⟨rfl, rfl⟩ ?_
  cases A : (!w.isEmpty && w.all dig) with
  | false =>
    rw [A] at dg
    simp [b_whole_number, dg, wnP, A, flg]
  | true =>
    rw [A] at dg
    by_cases B : w.length ≤ (TL.numL m).length
    · have B' : ¬ ((TL.numL m).length : Int) < w.length := by omega
      match w, A with
      | c :: w, A =>
      have i0 : ixD (.str (S (c :: w))) (.int 0) = some (.frz (.str (S [c]))) := ixS (w := c :: w) (by omega) 0
      have z : decide (S [c] = ("0" : Str)) = decide (c = 48) := by
        rw [show ("0" : Str) = S [48] by decide +kernel]
        exact decide_eq_decide.mpr ⟨fun h => by have := SX.S_inj h; simpa using this, fun h => by rw [h]⟩
      have A2 : (c :: w).all dig = true := by simpa using A
      have v : intN [.str (S (c :: w))] = some (.frz (.int ((NumText.digitsVal (c :: w) : Nat) : Int))) := by
        have q : intText? (S (c :: w)) = _ := SX.int_S (a := c :: w) A2 (by simp) (by omega)
        have hl' : (S (c :: w)).length ≤ 640 := by show (c :: w).toArray.size ≤ 640; simpa using hl
        show (match intText? (S (c :: w)) with | some n => if (S (c :: w)).length ≤ 640 then some (OV.frz (.int n)) else none | none => none) = _
        rw [q]
        dsimp only
        rw [if_pos hl']
      generalize hx : S (c :: w) = x at dg l1 i0 v ⊢
      by_cases C : c = 48 ∧ 1 < (c :: w).length
      · obtain ⟨rfl, C⟩ := C
        have C' : (1 : Int) < ((48 :: w).length : Int) := by omega
        have e : wnP (48 :: w) m = none := by unfold wnP; rw [if_neg fun h => h.2.2.1 ⟨rfl, C⟩]
        rw [e]
        generalize ((48 :: w).length : Int) = k at l1 B' C'
        simp [b_whole_number, dg, l1, l2, l3, i0, z, flg, B', C']
      · have C2 : (decide (c = 48) && decide ((1 : Int) < ((c :: w).length : Int))) = false := by
          simp only [Bool.and_eq_false_iff, decide_eq_false_iff_not]
          by_cases c48 : c = 48
          · right; intro h; exact C ⟨c48, by omega⟩
          · left; exact c48
        have C3 : ¬ ((c :: w).head? = some 48 ∧ 1 < (c :: w).length) := fun h => C ⟨by simpa using h.1, h.2⟩
        by_cases V : NumText.digitsVal (c :: w) ≤ m
        · have V' : ((NumText.digitsVal (c :: w) : Nat) : Int) ≤ m := by omega
          have e : wnP (c :: w) m = some (NumText.digitsVal (c :: w)) := by unfold wnP; rw [if_pos ⟨A, B, C3, V⟩]
          rw [e]
          generalize (NumText.digitsVal (c :: w) : Nat) = n at v V' ⊢
          generalize ((c :: w).length : Int) = k at l1 B' C2
          by_cases c48 : c = 48
          · have C4 : ¬ (1 : Int) < k := by simpa [c48] using C2
            simp [b_whole_number, dg, l1, l2, l3, i0, z, flg, B', c48, C4, v, V']
          · simp [b_whole_number, dg, l1, l2, l3, i0, z, flg, B', c48, v, V']
        · have V' : ¬ ((NumText.digitsVal (c :: w) : Nat) : Int) ≤ m := by omega
          have e : wnP (c :: w) m = none := by unfold wnP; rw [if_neg fun h => V h.2.2.2]
          rw [e]
          generalize (NumText.digitsVal (c :: w) : Nat) = n at v V' ⊢
          generalize ((c :: w).length : Int) = k at l1 B' C2
          by_cases c48 : c = 48
          · have C4 : ¬ (1 : Int) < k := by simpa [c48] using C2
            simp [b_whole_number, dg, l1, l2, l3, i0, z, flg, B', c48, C4, v, V']
          · simp [b_whole_number, dg, l1, l2, l3, i0, z, flg, B', c48, v, V']
    · have B' : ((TL.numL m).length : Int) < w.length := by omega
      have e : wnP w m = none := by unfold wnP; rw [if_neg fun h => B h.2.1]
      rw [e]
      simp [b_whole_number, dg, l1, l2, l3, flg, B']
/-- number_in(w, lo, m) -/
def numR (w : List Nat) (lo : Int) (m : Nat) : D := match wnP w m with
  | some n => if (n : Int) < lo then .non else .int (n : Int)
  | none => .non
theorem number_eq {w : List Nat} {lo : Int} {m : Nat} (ha : ∀ c ∈ w, c < 128) (hl : w.length ≤ 640) (hm : m < 10 ^ 9) : d_number_in [some (.frz (.str (S w))), some (.frz (.int lo)), some (.frz (.int (m : Int)))] = some (.val (.frz (numR w lo m)) [some (.frz (.str (S w))), some (.frz (.int lo)), some (.frz (.int (m : Int)))]) := by
  have e := whole_eq ha hl hm
  unfold d_number_in numR
  refine run_by ⟨rfl, rfl⟩ ?_
  cases h : wnP w m with
  | none => rw [h] at e; simp [b_number_in, e, flg]
  | some n =>
    rw [h] at e
    by_cases q : (n : Int) < lo
    · simp [b_number_in, e, flg, q]
    · simp [b_number_in, e, flg, q]
end K50
set_option Elab.async false
set_option linter.all false
set_option maxRecDepth 100000
set_option maxHeartbeats 4000000
namespace Zed
open PySem
theorem comp_gen {vs : List Nat} {b : Bnd} {f : Exp} {e0 : Zed.Env} : ∀ (ds rs acc : List D), acc.length + ds.length ≤ 16777216 → ds.length = rs.length → (∀ (i : Nat) d r, ds[i]? = some d → rs[i]? = some r → ∃ e1 e2, b d e0 = some e1 ∧ fzE f e1 = some (.val r e2) ∧ wipeE e2 vs = e0) →
    compN vs b yesT f ds acc e0 = some (.val (acc ++ rs) e0)
  | [], [], acc, _, _, _ => by simp [compN]
  | [], _ :: _, _, _, h, _ => by simp at h
  | _ :: _, [], _, _, h, _ => by simp at h
  | d :: ds, r :: rs, acc, hl, hn, hf => by
    obtain ⟨e1, e2, h1, h2, h3⟩ := hf 0 d r rfl rfl
    rw [List.length_cons] at hl
    have q := comp_gen ds rs (acc ++ [r]) (by simp; omega) (by simpa using hn) fun i d' r' hd hr => hf (i + 1) d' r' (by simpa using hd) (by simpa using hr)
    unfold compN
    simp only [h1, yesT, Rs.b, if_true, h2]
    rw [if_pos (by omega), h3, q]
    simp
theorem comp_all {vs : List Nat} {b : Bnd} {it : Seq} {f : Exp} {env e : Zed.Env} {ds rs : List D} (hi : it env = some (.val ds e)) (hl : ds.length ≤ 16777216) (hn : ds.length = rs.length) (hb : backE vs 0 e (wipeE e vs) = e)
    (hf : ∀ (i : Nat) d r, ds[i]? = some d → rs[i]? = some r → ∃ e1 e2, b d (wipeE e vs) = some e1 ∧ fzE f e1 = some (.val r e2) ∧ wipeE e2 vs = wipeE e vs) : compI vs b it yesT f env = some (.val (.new (.lst rs)) e) := by
  have g := comp_gen ds rs [] (by simpa using hl) hn hf
  unfold compI Rs.b
  rw [hi]
  dsimp only
  rw [g]
  dsimp only
  rw [hb]
  simp
end Zed
namespace K50
open PySem Zed
/-- item_in(s, f) is d -/
def ItemIs (s : Str) (f d : D) : Prop := d_item_in [some (.frz (.str s)), some (.frz f)] = some (.val (.frz d) [some (.frz (.str s)), some (.frz f)])
theorem isi_tt (l : List D) : isiN ty_tab [.tup l, .ty "tuple"] = some (.frz (.bl true)) := rfl
theorem isi_st (l : Str) : isiN ty_tab [.str l, .ty "tuple"] = some (.frz (.bl false)) := rfl
theorem item_num {w : List Nat} {lo : Int} {m : Nat} (ha : ∀ c ∈ w, c < 128) (hl : w.length ≤ 640) (hm : m < 10 ^ 9) : ItemIs (S w) (.tup [.int lo, .int (m : Int)]) (numR w lo m) := by
  have e := number_eq (lo := lo) ha hl hm
  unfold ItemIs d_item_in
  refine run_by ⟨rfl, rfl⟩ ?_
  generalize numR w lo m = r at e ⊢
  simp [b_item_in, isi_tt, e, flg]
@[simp] theorem _root_.Zed.v_callV (i : Nat) (tab : DTab) (g : Zed.Args) (env : Zed.Env) : callV i tab g env = match env[i]? with
  | some (some (.frz (.gl y))) => (match tab.lookup y with
    | some (f, dd) => callE f dd g env
    | none => none)
  | _ => none := rfl
theorem ix_name : ixTab "LOOKS" tab_LOOKS (.gl "LOOKS") (.str "name") = some (.frz (.gl "is_name")) := rfl
theorem ix_letter : ixTab "LOOKS" tab_LOOKS (.gl "LOOKS") (.str "letter") = some (.frz (.gl "is_letter")) := rfl
theorem ix_relation : ixTab "LOOKS" tab_LOOKS (.gl "LOOKS") (.str "relation") = some (.frz (.gl "is_relation")) := rfl
theorem ix_choice : ixTab "LOOKS" tab_LOOKS (.gl "LOOKS") (.str "choice") = some (.frz (.gl "is_choice")) := rfl
theorem lk_name : tab_look.lookup (α := Str) "is_name" = some (d_is_name, []) := rfl
theorem lk_letter : tab_look.lookup (α := Str) "is_letter" = some (d_is_letter, []) := rfl
theorem lk_relation : tab_look.lookup (α := Str) "is_relation" = some (d_is_relation, []) := rfl
theorem lk_choice : tab_look.lookup (α := Str) "is_choice" = some (d_is_choice, []) := rfl
theorem item_name {w : List Nat} (h : NameOk w) : ItemIs (S w) (.str "name") (.str (S w)) := by
  have e := isname_ok h
  unfold ItemIs d_item_in
  refine run_by ⟨rfl, rfl⟩ ?_
  simp [b_item_in, isi_st, ix_name, lk_name, e, flg, -List.lookup_cons]
theorem item_letter {c d : Nat} (h1 : 97 ≤ c ∧ c ≤ 122) (h2 : 48 ≤ d ∧ d ≤ 57) : ItemIs (S [c, d]) (.str "letter") (.str (S [c, d])) := by
  have e := isletter_ok h1 h2
  unfold ItemIs d_item_in
  refine run_by ⟨rfl, rfl⟩ ?_
  generalize S [c, d] = x at e ⊢
  simp [b_item_in, isi_st, ix_letter, lk_letter, e, flg, -List.lookup_cons]
theorem item_relation {w : List Nat} (h1 : 1 ≤ w.length) (h2 : w.length ≤ 8) (h3 : ∀ c ∈ w, 65 ≤ c ∧ c ≤ 90) : ItemIs (S w) (.str "relation") (.str (S w)) := by
  have e := isrel_ok h1 h2 h3
  unfold ItemIs d_item_in
  refine run_by ⟨rfl, rfl⟩ ?_
  simp [b_item_in, isi_st, ix_relation, lk_relation, e, flg, -List.lookup_cons]
theorem item_choice {c : Nat} {w : List Nat} (h0 : 65 ≤ c ∧ c ≤ 90) (h1 : 1 ≤ w.length) (h2 : w.length ≤ 7) (h3 : ∀ c ∈ w, 97 ≤ c ∧ c ≤ 122) : ItemIs (S (c :: w)) (.str "choice") (.str (S (c :: w))) := by
  have e := ischoice_ok h0 h1 h2 h3
  unfold ItemIs d_item_in
  refine run_by ⟨rfl, rfl⟩ ?_
  generalize S (c :: w) = x at e ⊢
  simp [b_item_in, isi_st, ix_choice, lk_choice, e, flg, -List.lookup_cons]
end K50
set_option Elab.async false
set_option linter.all false
set_option maxRecDepth 100000
set_option maxHeartbeats 4000000
namespace Zed
open PySem
theorem cutD_from {α : Type} (a : List α) (k : Nat) : cutD a (some (k : Int)) none = a.drop k := by
  unfold cutD
  rw [HT.sIx_nat]
  show (a.drop (min k a.length)).take (a.length - min k a.length) = _
  rw [List.take_of_length_le (by simp)]
  by_cases h : k ≤ a.length
  · rw [Nat.min_eq_left h]
  · rw [Nat.min_eq_right (by omega), List.drop_of_length_le (by omega), List.drop_of_length_le (by omega)]
theorem cutD_to {α : Type} (a : List α) (k : Nat) : cutD a none (some (k : Int)) = a.take k := by
  unfold cutD
  rw [HT.sIx_nat]
  show (a.drop 0).take (min k a.length - 0) = _
  rw [List.drop_zero, Nat.sub_zero]
  by_cases h : k ≤ a.length
  · rw [Nat.min_eq_left h]
  · rw [Nat.min_eq_right (by omega), List.take_of_length_le (by omega), List.take_of_length_le (by omega)]
end Zed
namespace K50
open PySem Zed
def sml : D → Bool
  | .non => true
  | .int _ => true
  | .str _ => true
  | _ => false
def isNon : D → Bool
  | .non => true
  | _ => false
inductive Its : List Str → List D → List D → Prop
  | nil : Its [] [] []
  | cons {w : Str} {f r : D} {ws : List Str} {fs rs : List D} (h : ItemIs w f r) (hs : sml r = true) (t : Its ws fs rs) : Its (w :: ws) (f :: fs) (r :: rs)
theorem Its.len {ws : List Str} {fs rs : List D} (h : Its ws fs rs) : ws.length = fs.length ∧ rs.length = fs.length := by
  induction h with
  | nil => exact ⟨rfl, rfl⟩
  | cons _ _ _ ih => simp [ih]
theorem Its.sml {ws : List Str} {fs rs : List D} (h : Its ws fs rs) : rs.all K50.sml = true := by
  induction h with
  | nil => rfl
  | cons _ hs _ ih => simp only [List.all_cons, hs, ih, Bool.and_self]
theorem Its.get {ws : List Str} {fs rs : List D} (h : Its ws fs rs) : ∀ (i : Nat) d r, (zipD (ws.map D.str) fs)[i]? = some d → rs[i]? = some r → ∃ w f, d = .tup [.str w, f] ∧ ItemIs w f r := by
  induction h with
  | nil => intro i d r hd; simp [zipD] at hd
  | @cons w f r ws fs rs h hs t ih =>
    intro i d r' hd hr
    cases i with
    | zero => simp [zipD] at hd hr; subst hd hr; exact ⟨w, f, rfl, h⟩
    | succ i => exact ih i d r' (by simpa [zipD] using hd) (by simpa using hr)
theorem zip_len : ∀ {ds es : List D}, ds.length = es.length → (zipD ds es).length = es.length
  | [], [], _ => rfl
  | [], _ :: _, h => by simp at h
  | _ :: _, [], h => by simp at h
  | d :: ds, e :: es, h => by simp [zipD, zip_len (ds := ds) (es := es) (by simpa using h)]
theorem non_in {rs : List D} (h : rs.all sml = true) : inD .non (.lst rs) = some (.frz (.bl (rs.any isNon))) := by
  have f : ∀ {rs : List D}, rs.all sml = true → rs.all D.flat = true ∧ inF .non rs = rs.any isNon := fun {rs} h => by
    induction rs with
    | nil => exact ⟨rfl, rfl⟩
    | cons r rs ih =>
      rw [List.all_cons, Bool.and_eq_true] at h
      obtain ⟨h1, h2⟩ := ih h.2
      cases r <;> first | (cases h.1; done) | exact ⟨by rw [List.all_cons, h1]; rfl, by unfold inF at h2 ⊢; rw [List.any_cons, List.any_cons, h2]; rfl⟩
  obtain ⟨h1, h2⟩ := f h
  have e : inDs .non rs = some (rs.any isNon) := by
    unfold inDs
    rw [h1, h2]; rfl
  unfold inD
  have : inDD .non (.lst rs) = (match inDs .non rs with
    | some b => some b
    | none => if D.non.pl && (D.lst rs).pl then some ((D.pys rs).any fun z => PyData.eqv z D.non.py) else none) := rfl
  rw [this, e]; rfl
theorem row_none_key {s w0 : Str} {ws : List Str} (hs : splitM (.str s) [.str " "] = some (.new (.lst ((w0 :: ws).map D.str)))) (hk : tab_FORMS.lookup w0 = none) : d_row_in [some (.frz (.str s))] = some (.val (.frz .non) [some (.frz (.str s))]) := by
  have t : inTab "FORMS" tab_FORMS true (.str w0) (.gl "FORMS") = some (.frz (.bl true)) := by
    show some (OV.frz (.bl (!(tab_FORMS.lookup w0).isSome))) = _
    rw [hk]; rfl
  unfold d_row_in
  refine run_by ⟨rfl, rfl⟩ ?_
  simp [b_row_in, hs, t, flg]
theorem row_none_len {s w0 : Str} {ws : List Str} {fs : List D} (hs : splitM (.str s) [.str " "] = some (.new (.lst ((w0 :: ws).map D.str)))) (hk : tab_FORMS.lookup w0 = some (.tup fs)) (hl : ws.length ≠ fs.length) : d_row_in [some (.frz (.str s))] = some (.val (.frz .non) [some (.frz (.str s))]) := by
  have t : inTab "FORMS" tab_FORMS true (.str w0) (.gl "FORMS") = some (.frz (.bl false)) := by
    show some (OV.frz (.bl (!(tab_FORMS.lookup w0).isSome))) = _
    rw [hk]; rfl
  have x : ixTab "FORMS" tab_FORMS (.gl "FORMS") (.str w0) = some (.frz (.tup fs)) := by
    show (tab_FORMS.lookup w0).map OV.frz = _
    rw [hk]; rfl
  unfold d_row_in
  refine run_by ⟨rfl, rfl⟩ ?_
  simp [b_row_in, hs, t, x, flg, show ¬ (ws.length : Int) + 1 = (fs.length : Int) + 1 by omega]
theorem row_items {s w0 : Str} {ws : List Str} {fs rs : List D} (hs : splitM (.str s) [.str " "] = some (.new (.lst ((w0 :: ws).map D.str)))) (hk : tab_FORMS.lookup w0 = some (.tup fs)) (hl : fs.length ≤ 1000) (hi : Its ws fs rs) :
    d_row_in [some (.frz (.str s))] = some (.val (.frz (if rs.any isNon = true then .non else .tup (.str w0 :: rs))) [some (.frz (.str s))]) := by
  obtain ⟨l1, l2⟩ := hi.len
  have t : inTab "FORMS" tab_FORMS true (.str w0) (.gl "FORMS") = some (.frz (.bl false)) := by
    show some (OV.frz (.bl (!(tab_FORMS.lookup w0).isSome))) = _
    rw [hk]; rfl
  have x : ixTab "FORMS" tab_FORMS (.gl "FORMS") (.str w0) = some (.frz (.tup fs)) := by
    show (tab_FORMS.lookup w0).map OV.frz = _
    rw [hk]; rfl
  have c : compI [4, 5] (bTup [4, 5]) (itE (dCons (slE (var 1) (pSome (cst (.int 1))) pNone) (dCons (var 2) dNil)) (zipB false true)) yesT (callE d_item_in [] (aCons (var 4) (aCons (var 5) aNil))) [some (.frz (.str s)), some (.own (.lst ((w0 :: ws).map D.str))), some (.frz (.tup fs)), none, none, none]
      = some (.val (.new (.lst rs)) [some (.frz (.str s)), some (.own (.lst ((w0 :: ws).map D.str))), some (.frz (.tup fs)), none, none, none]) := by
    refine comp_all (ds := zipD (ws.map D.str) fs) ?_ (by rw [zip_len (by simp [l1])]; omega) (by rw [zip_len (by simp [l1])]; omega) rfl fun i d r hd hr => ?_
    · have z : zipB false true [.lst (ws.map D.str), .tup fs] = some (zipD (ws.map D.str) fs) := rfl
      have k := cutD_from ((w0 :: ws).map D.str) 1
      simp at k
      simp [k, z]
    · obtain ⟨w, f, rfl, q⟩ := hi.get i d r hd hr
      unfold ItemIs at q
      refine ⟨[some (.frz (.str s)), some (.own (.lst ((w0 :: ws).map D.str))), some (.frz (.tup fs)), none, some (.frz (.str w)), some (.frz f)], [some (.frz (.str s)), some (.own (.lst ((w0 :: ws).map D.str))), some (.frz (.tup fs)), none, some (.frz (.str w)), some (.frz f)], rfl, ?_, rfl⟩
      simp [q]
  have n := non_in hi.sml
  unfold d_row_in
  refine run_by ⟨rfl, rfl⟩ ?_
  generalize rs.any isNon = b at n ⊢
  simp at c
  cases b with
  | true => simp [b_row_in, hs, t, x, flg, c, n, l1]
  | false => simp [b_row_in, hs, t, x, flg, c, n, l1, l2, show 1 + fs.length ≤ 16777216 by omega]
end K50
set_option Elab.async false
set_option linter.all false
set_option maxRecDepth 100000
set_option maxHeartbeats 4000000
namespace K50
open PySem Zed
theorem numL_head : ∀ (n : Nat), 1 ≤ n → (TL.numL n).head? ≠ some 48 := fun n => by
  induction n using Nat.strongRecOn with
  | _ n ih =>
    intro h
    by_cases hn : n < 10
    · rw [TL.numL_lt hn]; simp; omega
    · rw [TL.numL_step (by omega)]
      have := ih (n / 10) (by omega) (by omega)
      cases q : TL.numL (n / 10) with
      | nil => exact absurd q (TL.numL_ne _)
      | cons a l => rw [q] at this; simpa using this
theorem numL_dig (n : Nat) : (!(TL.numL n).isEmpty && (TL.numL n).all dig) = true := by
  rw [Bool.and_eq_true]
  refine ⟨?_, ?_⟩
  · cases q : TL.numL n with
    | nil => exact absurd q (TL.numL_ne _)
    | cons a l => rfl
  · rw [List.all_eq_true]
    intro c hc
    have := TL.numL_digits n c hc
    unfold dig
    simp [this.1, this.2]
theorem wnP_num {n m : Nat} (h : n ≤ m) : wnP (TL.numL n) m = some n := by
  unfold wnP
  rw [TL.numL_val, if_pos]
  refine ⟨numL_dig n, numL_mono m h, fun q => ?_, h⟩
  by_cases h0 : n = 0
  · subst h0; rw [TL.numL_lt (by omega)] at q; simp at q
  · exact numL_head n (by omega) q.1
theorem wnP_big {n m : Nat} (h : m < n) : wnP (TL.numL n) m = none := by
  unfold wnP
  rw [TL.numL_val, if_neg fun q => by have := q.2.2.2; omega]
theorem joinL_len {c : Nat} : ∀ {parts : List (List Nat)}, (TL.joinL [c] parts).length ≤ (parts.map (·.length)).sum + parts.length
  | [] => by simp [TL.joinL]
  | [p] => by simp [TL.joinL]
  | p :: q :: r => by
    have := joinL_len (c := c) (parts := q :: r)
    have e : TL.joinL [c] (p :: q :: r) = p ++ ([c] ++ TL.joinL [c] (q :: r)) := by
      first | rfl | simp [TL.joinL]
    rw [e]
    simp only [List.length_append, List.length_cons, List.length_nil, List.map_cons, List.sum_cons] at this ⊢
    omega
theorem split_one {c : Nat} (hc : c < 128) {a : List Nat} {parts : List (List Nat)} (h : TL.spl [c] 0 [] a = parts) (hl : a.length ≤ 16000000) : splitM (.str (S a)) [.str (S [c])] = some (.new (.lst ((parts.map S).map D.str))) := by
  have e := SX.split_S (a := a) (b := [c]) (by simp) (by simp; omega)
  rw [h] at e
  have sz := sizeN
  show (if ((S [c]).length == 0) = false ∧ a.toArray.size + 2 ≤ sizeLine then some (OV.new (.lst ((Txt.split (S a) (S [c])).map D.str))) else none) = _
  rw [if_pos ⟨rfl, by simp only [List.size_toArray]; omega⟩, show Txt.split (S a) (S [c]) = parts.map S from e]
theorem split_join {c : Nat} (hc : c < 128) {parts : List (List Nat)} (hne : parts ≠ []) (h : ∀ p ∈ parts, c ∉ p) (hl : (TL.joinL [c] parts).length ≤ 16000000) : splitM (.str (S (TL.joinL [c] parts))) [.str (S [c])] = some (.new (.lst ((parts.map S).map D.str))) :=
  split_one hc (SX.spl_join hne h) hl
theorem space_S : (" " : Str) = S [32] := by decide +kernel
theorem nl_S : ("\n" : Str) = S [10] := by decide +kernel
/-- the signs of an item -/
def itxt : D → List Nat
  | .str s => s.cps.toList
  | .int i => TL.numL i.toNat
  | _ => []
structure ItOk (d : D) : Prop where
  str : strD d = S (itxt d)
  strn : strN [d] = some (.frz (.str (S (itxt d))))
  low : ∀ c ∈ itxt d, 48 ≤ c ∧ c ≤ 122
  l1 : 1 ≤ (itxt d).length
  l9 : (itxt d).length ≤ 9
  sml : sml d = true
  non : isNon d = false
def numB : D → Bool
  | .tup [.int lo, .int hi] => decide (0 ≤ lo) && decide (hi ≤ 99999)
  | _ => true
theorem num_it {i : Int} (h0 : 0 ≤ i) (h1 : i ≤ 999999) : ItOk (.int i) := by
  obtain ⟨n, rfl⟩ : ∃ n : Nat, i = n := ⟨i.toNat, by omega⟩
  have e : strD (.int (n : Int)) = S (TL.numL n) := SX.num_S n
  refine ⟨e, str_num n (by omega), fun c hc => ?_, ?_, ?_, rfl, rfl⟩
  · have := TL.numL_digits n c hc; omega
  · exact List.length_pos_iff.mpr (TL.numL_ne n)
  · exact numL_len9 (by omega)
theorem str_it {w : List Nat} (h : ∀ c ∈ w, 48 ≤ c ∧ c ≤ 122) (h1 : 1 ≤ w.length) (h9 : w.length ≤ 9) : ItOk (.str (S w)) := ⟨rfl, rfl, h, h1, h9, rfl, rfl⟩
theorem form_it {f d : D} (h : FormOk f d) (hb : numB f = true) : ItOk d ∧ ItemIs (S (itxt d)) f d := by
  cases h with
  | @num lo hi i h1 h2 =>
    simp only [numB, Bool.and_eq_true, decide_eq_true_eq] at hb
    obtain ⟨n, rfl⟩ : ∃ n : Nat, i = n := ⟨i.toNat, by omega⟩
    obtain ⟨m, rfl⟩ : ∃ m : Nat, hi = m := ⟨hi.toNat, by omega⟩
    refine ⟨num_it (by omega) (by omega), ?_⟩
    have := item_num (w := TL.numL n) (lo := lo) (m := m) (fun c hc => by have := TL.numL_digits n c hc; omega) (by have := numL_len9 (m := n) (by omega); omega) (by omega)
    unfold numR at this
    rw [wnP_num (by omega)] at this
    simp only [if_neg (show ¬ (n : Int) < lo by omega)] at this
    exact this
  | name h => exact ⟨str_it (fun c hc => by have := h.low c hc; omega) h.l1 (by have := h.l8; omega), item_name h⟩
  | letter h1 h2 => exact ⟨str_it (fun c hc => by simp at hc; omega) (by simp) (by simp), item_letter h1 h2⟩
  | relation h1 h2 h3 => exact ⟨str_it (fun c hc => by have := h3 c hc; omega) h1 (by omega), item_relation h1 h2 h3⟩
  | choice h0 h1 h2 h3 => exact ⟨str_it (fun c hc => by
      rcases List.mem_cons.mp hc with rfl | hc
      · omega
      · have := h3 c hc; omega) (by simp) (by simp; omega), item_choice h0 h1 h2 h3⟩
theorem look_mem {α : Type} {a : Str} {b : α} : ∀ {l : List (Str × α)}, l.lookup a = some b → (a, b) ∈ l
  | [], h => by simp at h
  | (k, v) :: l, h => by
    rw [List.lookup_cons] at h
    split at h
    · rename_i q; cases h; rw [eq_of_beq q]; exact List.mem_cons_self
    · exact List.mem_cons_of_mem _ (look_mem h)
def chk (p : Str × D) : Bool := p.1.cps.toList.all (fun c => decide (97 ≤ c) && decide (c ≤ 122)) && decide (1 ≤ p.1.length) && decide (p.1.length ≤ 8) && (match p.2 with | .tup fs => decide (fs.length ≤ 3) && fs.all numB | _ => false)
theorem chk_all : tab_FORMS.all chk = true := by decide +kernel
theorem form_b {word : Str} {fs : List D} (h : tab_FORMS.lookup word = some (.tup fs)) : ItOk (.str word) ∧ (∀ c ∈ word.cps.toList, 97 ≤ c ∧ c ≤ 122) ∧ fs.length ≤ 3 ∧ fs.all numB = true := by
  have := List.all_eq_true.mp chk_all _ (look_mem h)
  simp only [chk, Bool.and_eq_true, decide_eq_true_eq, List.all_eq_true] at this
  obtain ⟨⟨⟨h1, h2⟩, h3⟩, h4, h5⟩ := this
  have e : word = S word.cps.toList := (SX.S_tl word).symm
  have hl : word.cps.toList.length = word.length := by simp [Str.length]
  refine ⟨?_, h1, h4, by rw [List.all_eq_true]; exact h5⟩
  have := str_it (w := word.cps.toList) (fun c hc => by have := h1 c hc; omega) (by omega) (by omega)
  rw [← e] at this
  exact this
end K50
set_option Elab.async false
set_option linter.all false
set_option maxRecDepth 100000
set_option maxHeartbeats 4000000
namespace K50
open PySem Zed
def lineL (ds : List D) : List Nat := TL.joinL [32] (ds.map itxt)
theorem forms_it : ∀ {fs ds : List D}, FormsOk fs ds → fs.all numB = true → (∀ d ∈ ds, ItOk d) ∧ Its (ds.map fun d => S (itxt d)) fs ds ∧ ds.length = fs.length
  | _, _, .nil, _ => ⟨fun d hd => by simp at hd, .nil, rfl⟩
  | _, _, .cons h r, hb => by
    rw [List.all_cons, Bool.and_eq_true] at hb
    obtain ⟨a1, a2, a3⟩ := forms_it r hb.2
    obtain ⟨b1, b2⟩ := form_it h hb.1
    refine ⟨fun d hd => ?_, .cons b2 b1.sml a2, by simp [a3]⟩
    rcases List.mem_cons.mp hd with rfl | hd
    · exact b1
    · exact a1 d hd
/-- what a right row has -/
structure RowG (ds : List D) (word : Str) (fs items : List D) : Prop where
  eq : ds = .str word :: items
  look : tab_FORMS.lookup word = some (.tup fs)
  forms : FormsOk fs items
  nb : fs.all numB = true
  low : ∀ c ∈ word.cps.toList, 97 ≤ c ∧ c ≤ 122
  f3 : fs.length ≤ 3
  it : ∀ d ∈ ds, ItOk d
  its : Its (items.map fun d => S (itxt d)) fs items
  len : items.length = fs.length
theorem row_g {ds : List D} (h : RowOk ds) : ∃ word fs items, RowG ds word fs items := by
  obtain ⟨word, fs, items, rfl, hk, hf⟩ := h
  obtain ⟨w1, w2, w3, w4⟩ := form_b hk
  obtain ⟨a1, a2, a3⟩ := forms_it hf w4
  refine ⟨word, fs, items, rfl, hk, hf, w4, w2, w3, fun d hd => ?_, a2, a3⟩
  rcases List.mem_cons.mp hd with rfl | hd
  · exact w1
  · exact a1 d hd
theorem RowG.n4 {ds : List D} {word : Str} {fs items : List D} (g : RowG ds word fs items) : ds.length ≤ 4 := by
  rw [g.eq, List.length_cons, g.len]; have := g.f3; omega
theorem sum9 : ∀ {ds : List D}, (∀ d ∈ ds, ItOk d) → ((ds.map itxt).map (·.length)).sum ≤ 9 * ds.length
  | [], _ => by simp
  | d :: ds, h => by
    have := sum9 (ds := ds) fun d hd => h d (List.mem_cons_of_mem _ hd)
    have := (h d List.mem_cons_self).l9
    simp only [List.map_cons, List.sum_cons, List.length_cons]
    omega
theorem RowG.l40 {ds : List D} {word : Str} {fs items : List D} (g : RowG ds word fs items) : (lineL ds).length ≤ 40 := by
  have h1 := joinL_len (c := 32) (parts := ds.map itxt)
  have h2 := sum9 g.it
  have h3 := g.n4
  unfold lineL
  rw [List.length_map] at h1
  omega
theorem strs_eq {ds : List D} (h : ∀ d ∈ ds, ItOk d) : ds.map strD = (ds.map itxt).map S := by
  rw [List.map_map]
  exact List.map_congr_left fun d hd => (h d hd).str
theorem RowG.line {ds : List D} {word : Str} {fs items : List D} (g : RowG ds word fs items) : d__law_line [some (.frz (.tup ds))] = some (.val (.frz (.str (S (lineL ds)))) [some (.frz (.tup ds))]) := by
  have n := g.n4
  have e := strs_eq g.it
  have l := line_eq (ds := ds) (fun d hd => by rw [(g.it d hd).strn, (g.it d hd).str]) (by omega) (by
    rw [e, List.map_map]
    have h2 := sum9 g.it
    have : ((ds.map itxt).map ((fun x => x.length) ∘ S)) = ((ds.map itxt).map (·.length)) := List.map_congr_left fun a _ => by simp [Str.length]
    rw [this]; omega)
  rw [l, e, space_S, SX.join_S]
  rfl
theorem itxt_free {d : D} (h : ItOk d) {c : Nat} (hc : c < 48) : c ∉ itxt d := fun hm => by have := h.low c hm; omega
theorem mem_joinL {c s : Nat} : ∀ {parts : List (List Nat)}, s ∈ TL.joinL [c] parts → s = c ∨ ∃ p ∈ parts, s ∈ p
  | [], h => by simp [TL.joinL] at h
  | [p], h => Or.inr ⟨p, by simp, by simpa [TL.joinL] using h⟩
  | p :: q :: r, h => by
    have e : TL.joinL [c] (p :: q :: r) = p ++ ([c] ++ TL.joinL [c] (q :: r)) := rfl
    rw [e, List.mem_append, List.mem_append] at h
    rcases h with h | h | h
    · exact Or.inr ⟨p, by simp, h⟩
    · exact Or.inl (by simpa using h)
    · rcases mem_joinL h with h | ⟨p', h1, h2⟩
      · exact Or.inl h
      · exact Or.inr ⟨p', List.mem_cons_of_mem _ h1, h2⟩
theorem RowG.nl {ds : List D} {word : Str} {fs items : List D} (g : RowG ds word fs items) : 10 ∉ lineL ds := fun h => by
  rcases mem_joinL h with h | ⟨p, h1, h2⟩
  · omega
  · obtain ⟨d, hd, rfl⟩ := List.mem_map.mp h1
    exact itxt_free (g.it d hd) (by omega) h2
theorem RowG.split {ds : List D} {word : Str} {fs items : List D} (g : RowG ds word fs items) : splitM (.str (S (lineL ds))) [.str " "] = some (.new (.lst ((word :: items.map fun d => S (itxt d)).map D.str))) := by
  have h := split_join (c := 32) (by omega) (parts := ds.map itxt) (by rw [g.eq]; simp) (fun p hp => by
    obtain ⟨d, hd, rfl⟩ := List.mem_map.mp hp
    exact itxt_free (g.it d hd) (by omega)) (by have := g.l40; unfold lineL at this; omega)
  rw [space_S]
  refine h.trans ?_
  rw [g.eq]
  have : S (itxt (.str word)) = word := SX.S_tl word
  rw [List.map_cons, List.map_cons, this, List.map_map]
  rfl
theorem non_none {ds : List D} (h : ∀ d ∈ ds, ItOk d) : ds.any isNon = false := by
  rw [List.any_eq_false]
  intro d hd
  rw [(h d hd).non]; simp
theorem RowG.back {ds : List D} {word : Str} {fs items : List D} (g : RowG ds word fs items) : d_row_in [some (.frz (.str (S (lineL ds))))] = some (.val (.frz (.tup ds)) [some (.frz (.str (S (lineL ds))))]) := by
  rw [row_items g.split g.look (by have := g.f3; omega) g.its]
  have : items.any isNon = false := non_none fun d hd => g.it d (by rw [g.eq]; exact List.mem_cons_of_mem _ hd)
  rw [this, g.eq]
  simp
end K50
set_option Elab.async false
set_option linter.all false
set_option maxRecDepth 100000
set_option maxHeartbeats 4000000
namespace K50
open PySem Zed
def textL (rs : List (List D)) : List Nat := TL.joinL [10] (rs.map lineL)
def codeO (rs : List (List D)) : O := .obj "Code" ["rows", "text"] [.tup (rs.map D.tup), .str (S (textL rs))]
/-- rows whose items are all right -/
def RowsOk (rs : List (List D)) : Prop := ∀ ds ∈ rs, (∀ d ∈ ds, ItOk d) ∧ ds.length ≤ 4
theorem line40 {ds : List D} (h : ∀ d ∈ ds, ItOk d) (h4 : ds.length ≤ 4) : (lineL ds).length ≤ 40 := by
  have h1 := joinL_len (c := 32) (parts := ds.map itxt)
  have h2 := sum9 h
  unfold lineL
  rw [List.length_map] at h1
  omega
theorem join_m {c : Nat} {ys : List (List Nat)} (hz : (ys.map (·.length)).sum + ys.length ≤ 16777216) : joinM (.str (S [c])) [.lst ((ys.map S).map D.str)] = some (.frz (.str (S (TL.joinL [c] ys)))) := by
  have e : strsOf ((ys.map S).map D.str) = some (ys.map S) := by
    have := strs_map (h := S) (ds := ys)
    rw [List.map_map]; exact this
  unfold joinM
  dsimp only
  rw [e]
  dsimp only
  have e2 : ((ys.map S).map (·.length)) = ys.map (·.length) := by rw [List.map_map]; exact List.map_congr_left fun a _ => by simp [Str.length]
  rw [e2, if_pos, SX.join_S]
  rw [List.length_map]
  show _ + ys.length * ([c].toArray.size) ≤ _
  simpa using hz
theorem sum40 : ∀ {rs : List (List D)}, RowsOk rs → ((rs.map lineL).map (·.length)).sum ≤ 40 * rs.length
  | [], _ => by simp
  | ds :: rs, h => by
    have := sum40 (rs := rs) fun d hd => h d (List.mem_cons_of_mem _ hd)
    obtain ⟨a, b⟩ := h ds List.mem_cons_self
    have := line40 a b
    simp only [List.map_cons, List.sum_cons, List.length_cons]
    omega
theorem put_rows (d : D) : putNs "rows" [] = (["rows"] : List Str) ∧ putDs "rows" d [] [] = [d] := ⟨rfl, rfl⟩
theorem put_text (a d : D) : putNs "text" (["rows"] : List Str) = (["rows", "text"] : List Str) ∧ putDs "text" d (["rows"] : List Str) [a] = [a, d] := ⟨rfl, rfl⟩
abbrev comp1 : Exp := compI [2] (bName 2) (itE (fzE (var 1)) seqOf) yesT (bltE tupN (aCons (var 2) aNil))
abbrev comp3 : Exp := compI [3] (bName 3) (itE (fzE (var 2)) tupOf) yesT (bltE strN (aCons (var 3) aNil))
abbrev comp2 : Exp := compI [2] (bName 2) (itE (fzE (fldE "rows" cf_rows (var 0))) tupOf) yesT (metE "str" joinM (cst (.str " ")) (aCons comp3 aNil))
theorem comp3_eq {ds : List D} {x y : Option LV} (h : ∀ d ∈ ds, ItOk d) (h4 : ds.length ≤ 4) : comp3 [x, y, some (.frz (.tup ds)), none] = some (.val (.new (.lst (((ds.map itxt).map S).map D.str))) [x, y, some (.frz (.tup ds)), none]) := by
  refine comp_all (ds := ds) (e := [x, y, some (.frz (.tup ds)), none]) (by simp) (by omega) (by simp) rfl fun i d r hd hr => ?_
  have hm : d ∈ ds := List.mem_of_getElem? hd
  have r' : r = .str (S (itxt d)) := by simp [hd] at hr; exact hr.symm
  subst r'
  refine ⟨[x, y, some (.frz (.tup ds)), some (.frz d)], [x, y, some (.frz (.tup ds)), some (.frz d)], rfl, ?_, rfl⟩
  simp [(h d hm).strn]
theorem comp2_eq {rs : List (List D)} {y : Option LV} {o : O} (ho : o = .obj "Code" ["rows"] [.tup (rs.map D.tup)]) (h : RowsOk rs) (hl : rs.length ≤ 50000) : comp2 [some (.own o), y, none, none] = some (.val (.new (.lst (((rs.map lineL).map S).map D.str))) [some (.own o), y, none, none]) := by
  refine comp_all (ds := rs.map D.tup) (e := [some (.own o), y, none, none]) (by subst ho; simp) (by simp; omega) (by simp) rfl fun i d r hd hr => ?_
  rw [List.getElem?_map] at hd
  cases q : rs[i]? with
  | none => rw [q] at hd; simp at hd
  | some ds =>
    rw [q] at hd
    simp at hd
    subst hd
    obtain ⟨h1, h2⟩ := h ds (List.mem_of_getElem? q)
    have r' : r = .str (S (lineL ds)) := by simp [q] at hr; exact hr.symm
    subst r'
    have c := comp3_eq (x := some (.own o)) (y := y) h1 h2
    have j := join_m (c := 32) (ys := ds.map itxt) (by rw [List.length_map]; have := sum9 h1; omega)
    rw [← space_S] at j
    refine ⟨[some (.own o), y, some (.frz (.tup ds)), none], [some (.own o), y, some (.frz (.tup ds)), none], rfl, ?_, rfl⟩
    generalize (((ds.map itxt).map S).map D.str) = l at c j
    simp [c, j, lineL]
theorem init_eq {rs : List (List D)} (h : RowsOk rs) (hl : rs.length ≤ 50000) : d_Code_init [some (.own (.obj "Code" [] [])), some (.own (.lst (rs.map D.tup)))] = some (.val (.frz .non) [some (.own (codeO rs)), some (.frz (.lst (rs.map D.tup)))]) := by
  have c1 : comp1 [some (.own (.obj "Code" [] [])), some (.own (.lst (rs.map D.tup))), none, none] = some (.val (.new (.lst (rs.map D.tup))) [some (.own (.obj "Code" [] [])), some (.frz (.lst (rs.map D.tup))), none, none]) := by
    refine comp_all (ds := rs.map D.tup) (e := [some (.own (.obj "Code" [] [])), some (.frz (.lst (rs.map D.tup))), none, none]) (by simp) (by simp; omega) rfl rfl fun i d r hd hr => ?_
    rw [hd] at hr
    cases hr
    rw [List.getElem?_map] at hd
    cases q : rs[i]? with
    | none => rw [q] at hd; simp at hd
    | some ds =>
      rw [q] at hd
      simp at hd
      subst hd
      exact ⟨[some (.own (.obj "Code" [] [])), some (.frz (.lst (rs.map D.tup))), some (.frz (.tup ds)), none], [some (.own (.obj "Code" [] [])), some (.frz (.lst (rs.map D.tup))), some (.frz (.tup ds)), none], rfl, by simp, rfl⟩
  have c2 := comp2_eq (y := some (.frz (.lst (rs.map D.tup)))) (o := .obj "Code" ["rows"] [.tup (rs.map D.tup)]) rfl h hl
  have j := join_m (c := 10) (ys := rs.map lineL) (by rw [List.length_map]; have := sum40 h; omega)
  rw [← nl_S] at j
  unfold d_Code_init
  refine run_by ⟨rfl, rfl⟩ ?_
  generalize (((rs.map lineL).map S).map D.str) = l at c2 j
  generalize hm : rs.map D.tup = m at c1 c2
  obtain ⟨p1, p2⟩ := put_rows (.tup m)
  obtain ⟨p3, p4⟩ := put_text (.tup m) (.str (S (TL.joinL [10] (rs.map lineL))))
  simp [b_Code_init, c1, c2, j, p1, p2, p3, p4, flg, codeO, textL, hm]
end K50
set_option Elab.async false
set_option linter.all false
set_option maxRecDepth 100000
set_option maxHeartbeats 4000000
namespace K50
open PySem Zed
abbrev rdB : Stm := seqS (asgS 6 (callE d_row_in [] (aCons (var 5) aNil)))
  (seqS (ifS (tst (Zed.bin isN (var 6) (cst .non))) (raiseS "BadRow" e_BadRow [] (dCons (Zed.bin addD (var 4) (cst (.int 1))) dNil)) skip)
  (dropS (mutE appendU (var 3) (dCons (var 6) dNil))))
def rdE (t : D) (ls : D) (rows : List D) (x y z : Option LV) : Zed.Env := [some (.frz (.gl "Code")), some (.frz t), some (.frz ls), some (.own (.lst rows)), x, y, z]
/-- row_in of s is d -/
def RI (s : Str) (d : D) : Prop := d_row_in [some (.frz (.str s))] = some (.val (.frz d) [some (.frz (.str s))])
theorem err_bad {n : Nat} (hn : n ≤ 100000) : e_BadRow [.int (n : Int)] = some (([("row" : Str)] : List Str), ([.int (n : Int)] : List D)) := by
  have s := str_num n (by omega)
  have l := numL_len9 (m := n) (by omega)
  have a1 : addD (.str "row ") (.str (S (TL.numL n))) = some (.frz (.str (S ([114, 111, 119, 32] ++ TL.numL n)))) := by
    rw [show ("row " : Str) = S [114, 111, 119, 32] by decide +kernel]
    exact add_str (by simp; omega)
  have a2 : addD (.str (S ([114, 111, 119, 32] ++ TL.numL n))) (.str " ") = some (.frz (.str (S (([114, 111, 119, 32] ++ TL.numL n) ++ [32])))) := by
    rw [space_S]
    exact add_str (by simp; omega)
  have a3 : addD (.str (S (([114, 111, 119, 32] ++ TL.numL n) ++ [32]))) (.str "has none of the allowed forms") = some (.frz (.str (S ((([114, 111, 119, 32] ++ TL.numL n) ++ [32]) ++ ("has none of the allowed forms" : Str).cps.toList)))) := by
    have := add_str (w := ([114, 111, 119, 32] ++ TL.numL n) ++ [32]) (v := ("has none of the allowed forms" : Str).cps.toList) (by
      have : ("has none of the allowed forms" : Str).cps.toList.length = 29 := by decide +kernel
      simp only [List.length_append, List.length_cons, List.length_nil, this]; omega)
    have e : S ("has none of the allowed forms" : Str).cps.toList = ("has none of the allowed forms" : Str) := SX.S_tl _
    rw [e] at this
    exact this
  generalize S ([114, 111, 119, 32] ++ TL.numL n) = u1 at a1 a2
  generalize S (([114, 111, 119, 32] ++ TL.numL n) ++ [32]) = u2 at a2 a3
  generalize S ((([114, 111, 119, 32] ++ TL.numL n) ++ [32]) ++ ("has none of the allowed forms" : Str).cps.toList) = u3 at a3
  simp [e_BadRow, errO, errEnv, e_RowError, errV, s, a1, a2, a3, storesD]
theorem rd_good {s : Str} {ds : List D} (h : RI s (.tup ds)) {t ls : D} {rows : List D} {x y z : Option LV} {k : Nat} (hl : rows.length < 16777216) : rdB (rdE t ls rows (some (.frz (.int (k : Int)))) (some (.frz (.str s))) z) = some (.nx (rdE t ls (rows ++ [.tup ds]) (some (.frz (.int (k : Int)))) (some (.frz (.str s))) (some (.frz (.tup ds))))) := by
  unfold RI at h
  simp [rdB, rdE, h, hl]
theorem rd_bad {s : Str} (h : RI s .non) {t ls : D} {rows : List D} {x y z : Option LV} {k : Nat} (hk : k < 100000) : ∃ e, rdB (rdE t ls rows (some (.frz (.int (k : Int)))) (some (.frz (.str s))) z) = some (.exc ⟨"BadRow", ["row"], [.int ((k + 1 : Nat) : Int)]⟩ e) := by
  unfold RI at h
  have b := err_bad (n := k + 1) (by omega)
  refine ⟨[some (.frz (.gl "Code")), some (.frz t), some (.frz ls), some (.own (.lst rows)), some (.frz (.int (k : Int))), some (.frz (.str s)), some (.frz .non)], ?_⟩
  simp at b
  simp [rdB, rdE, h, raiseS, b]
theorem it_good : ∀ (ls : List Str) (rs : List (List D)), ls.length = rs.length → (∀ (i : Nat) s ds, ls[i]? = some s → rs[i]? = some ds → RI s (.tup ds)) → ∀ (rest : List D) (k : Nat) (t l : D) (rows : List D) (x y z : Option LV), rows.length + ls.length < 16777216 →
    ∃ x' y' z', iter (bTup [4, 5]) rdB (enumD k (ls.map D.str) ++ rest) (rdE t l rows x y z) = iter (bTup [4, 5]) rdB rest (rdE t l (rows ++ rs.map D.tup) x' y' z')
  | [], [], _, _, rest, k, t, l, rows, x, y, z, _ => ⟨x, y, z, by simp [enumD]⟩
  | [], _ :: _, h, _, _, _, _, _, _, _, _, _, _ => by simp at h
  | _ :: _, [], h, _, _, _, _, _, _, _, _, _, _ => by simp at h
  | s :: ls, ds :: rs, hl, hr, rest, k, t, l, rows, x, y, z, hz => by
    have h0 := hr 0 s ds rfl rfl
    rw [List.length_cons] at hz
    obtain ⟨x', y', z', r⟩ := it_good ls rs (by simpa using hl) (fun i s ds h1 h2 => hr (i + 1) s ds (by simpa using h1) (by simpa using h2)) rest (k + 1) t l (rows ++ [.tup ds]) (some (.frz (.int (k : Int)))) (some (.frz (.str s))) (some (.frz (.tup ds))) (by simp; omega)
    refine ⟨x', y', z', ?_⟩
    have g := rd_good h0 (t := t) (ls := l) (rows := rows) (x := x) (y := y) (z := z) (k := k) (by omega)
    show iter (bTup [4, 5]) rdB (.tup [.int (k : Nat), .str s] :: (enumD (k + 1) (ls.map D.str) ++ rest)) _ = _
    have b : bTup [4, 5] (.tup [.int (k : Nat), .str s]) (rdE t l rows x y z) = some (rdE t l rows (some (.frz (.int (k : Int)))) (some (.frz (.str s))) z) := rfl
    rw [iter_nx _ _ _ b g, r]
    simp
theorem it_bad (ls post : List Str) (s : Str) (rs : List (List D)) (hl : ls.length = rs.length) (hr : ∀ (i : Nat) s ds, ls[i]? = some s → rs[i]? = some ds → RI s (.tup ds)) (hb : RI s .non) {t l : D} (hz : ls.length < 100000) :
    ∃ e, iter (bTup [4, 5]) rdB (enumD 0 ((ls ++ s :: post).map D.str)) (rdE t l [] none none none) = some (.exc ⟨"BadRow", ["row"], [.int ((ls.length + 1 : Nat) : Int)]⟩ e) := by
  have en : ∀ (a b : List D) (k : Nat), enumD k (a ++ b) = enumD k a ++ enumD (k + a.length) b := fun a => by
    induction a with
    | nil => intro b k; simp [enumD]
    | cons d a ih => intro b k; simp [enumD, ih]; congr 1; omega
  obtain ⟨x', y', z', r⟩ := it_good ls rs hl hr (enumD ls.length ((s :: post).map D.str)) 0 t l [] none none none (by simp; omega)
  obtain ⟨e, q⟩ := rd_bad hb (t := t) (ls := l) (rows := rs.map D.tup) (x := x') (y := y') (z := z') (k := ls.length) hz
  refine ⟨e, ?_⟩
  rw [List.map_append, en, List.length_map, Nat.zero_add, r]
  show iter (bTup [4, 5]) rdB (.tup [.int (ls.length : Nat), .str s] :: enumD (ls.length + 1) (post.map D.str)) _ = _
  have b : bTup [4, 5] (.tup [.int (ls.length : Nat), .str s]) (rdE t l ([] ++ rs.map D.tup) x' y' z') = some (rdE t l (rs.map D.tup) (some (.frz (.int (ls.length : Int)))) (some (.frz (.str s))) z') := rfl
  exact iter_exc _ _ _ _ b q
end K50
set_option Elab.async false
set_option linter.all false
set_option maxRecDepth 100000
set_option maxHeartbeats 4000000
namespace K50
open PySem Zed
def LinesOf (t : Str) (ls : List Str) : Prop := (t ≠ "" ∧ splitM (.str t) [.str "\n"] = some (.new (.lst (ls.map D.str)))) ∨ (t = "" ∧ ls = [])
theorem read_lines {t : Str} {ls : List Str} (h : LinesOf t ls) {x y z u : Option LV} : asgS 2 (ifE (tst (Zed.bin neD (var 1) (cst (.str "")))) (metE "str" splitM (var 1) (aCons (cst (.str "\n")) aNil)) (lstE dNil)) [some (.frz (.gl "Code")), some (.frz (.str t)), none, x, y, z, u] = some (.nx [some (.frz (.gl "Code")), some (.frz (.str t)), some (.own (.lst (ls.map D.str))), x, y, z, u]) := by
  rcases h with ⟨h1, h2⟩ | ⟨rfl, rfl⟩
  · generalize ls.map D.str = l at h2 ⊢
    simp [h1, h2]
  · simp
theorem err_large : e_TooLarge [.str "a number, size, depth, text or list is above its limit"] = some (([] : List Str), ([] : List D)) := rfl
theorem read_many {t : Str} {ls : List Str} (h : LinesOf t ls) (hl : 40000 < ls.length) : d_Code_read [some (.frz (.gl "Code")), some (.frz (.str t))] = some (.exc ⟨"TooLarge", [], []⟩ [none, none]) := by
  have r := read_lines h (x := none) (y := none) (z := none) (u := none)
  unfold d_Code_read
  refine run_by ⟨rfl, rfl⟩ ?_
  simp only [v_asg] at r
  simp at r
  have e := err_large
  simp [b_Code_read, r, raiseS, e, flg, show (40000 : Int) < ls.length by omega]
theorem read_bad {t : Str} {pre post : List Str} {s : Str} (h : LinesOf t (pre ++ s :: post)) (hl : (pre ++ s :: post).length ≤ 40000) {rs : List (List D)} (hn : pre.length = rs.length) (hr : ∀ (i : Nat) s ds, pre[i]? = some s → rs[i]? = some ds → RI s (.tup ds)) (hb : RI s .non) :
    d_Code_read [some (.frz (.gl "Code")), some (.frz (.str t))] = some (.exc ⟨"BadRow", ["row"], [.int ((pre.length + 1 : Nat) : Int)]⟩ [none, none]) := by
  have r := read_lines h (x := none) (y := none) (z := none) (u := none)
  obtain ⟨e, q⟩ := it_bad pre post s rs hn hr hb (t := .str t) (l := .lst ((pre ++ s :: post).map D.str)) (by rw [List.length_append] at hl; omega)
  have m : ∀ l, enum1 [.lst l] = some (enumD 0 l) := fun _ => rfl
  unfold d_Code_read
  refine run_by ⟨rfl, rfl⟩ ?_
  have e1 : b_Code_read = seqS (asgS 2 (ifE (tst (Zed.bin neD (var 1) (cst (.str "")))) (metE "str" splitM (var 1) (aCons (cst (.str "\n")) aNil)) (lstE dNil)))
    (seqS (ifS (tst (Zed.bin (cmpD fun i j => decide (i > j)) (bltE lenN (aCons (var 2) aNil)) (cst c_MOST_ROWS))) (raiseS "TooLarge" e_TooLarge [.str "a number, size, depth, text or list is above its limit"] dNil) skip)
    (seqS (asgS 3 (lstE dNil)) (seqS (forI (bTup [4, 5]) (itE (dCons (var 2) dNil) enum1) rdB) (retS (makeV 0 "Code" d_Code_init [] (aCons (var 3) aNil)))))) := rfl
  rw [e1]
  generalize pre ++ s :: post = ls at *
  generalize hB : rdB = B at q ⊢
  unfold rdE at q
  simp only [v_asg] at r
  simp at r
  have hl' : ¬ (40000 : Int) < ((ls.map D.str).length : Int) := by rw [List.length_map]; omega
  simp at q
  generalize ls.map D.str = l at *
  simp [r, flg, hl', m, q]
theorem read_good {t : Str} {ls : List Str} (h : LinesOf t ls) (hl : ls.length ≤ 40000) {rs : List (List D)} (hn : ls.length = rs.length) (hr : ∀ (i : Nat) s ds, ls[i]? = some s → rs[i]? = some ds → RI s (.tup ds)) (ok : RowsOk rs) :
    d_Code_read [some (.frz (.gl "Code")), some (.frz (.str t))] = some (.val (.new (codeO rs)) [some (.frz (.gl "Code")), some (.frz (.str t))]) := by
  have r := read_lines h (x := none) (y := none) (z := none) (u := none)
  obtain ⟨x', y', z', q⟩ := it_good ls rs hn hr [] 0 (.str t) (.lst (ls.map D.str)) [] none none none (by simp; omega)
  rw [List.append_nil, List.nil_append] at q
  have i := init_eq ok (by omega)
  have m : ∀ l, enum1 [.lst l] = some (enumD 0 l) := fun _ => rfl
  unfold d_Code_read
  refine run_by ⟨rfl, rfl⟩ ?_
  have e1 : b_Code_read = seqS (asgS 2 (ifE (tst (Zed.bin neD (var 1) (cst (.str "")))) (metE "str" splitM (var 1) (aCons (cst (.str "\n")) aNil)) (lstE dNil)))
    (seqS (ifS (tst (Zed.bin (cmpD fun i j => decide (i > j)) (bltE lenN (aCons (var 2) aNil)) (cst c_MOST_ROWS))) (raiseS "TooLarge" e_TooLarge [.str "a number, size, depth, text or list is above its limit"] dNil) skip)
    (seqS (asgS 3 (lstE dNil)) (seqS (forI (bTup [4, 5]) (itE (dCons (var 2) dNil) enum1) rdB) (retS (makeV 0 "Code" d_Code_init [] (aCons (var 3) aNil)))))) := rfl
  rw [e1]
  generalize hB : rdB = B at q ⊢
  unfold rdE at q
  simp only [v_asg] at r
  simp at r
  have hl' : ¬ (40000 : Int) < ((ls.map D.str).length : Int) := by rw [List.length_map]; omega
  generalize codeO rs = o at *
  generalize rs.map D.tup = rr at *
  generalize ls.map D.str = l at *
  simp at q
  simp [r, flg, hl', m, q, i]
end K50
set_option Elab.async false
set_option linter.all false
set_option maxRecDepth 100000
set_option maxHeartbeats 4000000
namespace K50
open PySem Zed
theorem tB_B : x_tab_BadRow "BadRow" = some true := rfl
theorem tB_T : x_tab_BadRow "TooLarge" = some false := rfl
theorem tT_T : x_tab_TooLarge "TooLarge" = some true := rfl
theorem tR_B : x_tab_RightatlastError "BadRow" = some true := rfl
theorem tR_T : x_tab_RightatlastError "TooLarge" = some true := rfl
theorem xc1 : tabGet xc_tab (.inr "BadRow") (.inr "RowError") = some true := rfl
theorem xc2 : tabGet xc_tab (.inr "BadRow") (.inl "ValueError") = some true := rfl
theorem xc3 : tabGet xc_tab (.inr "TooLarge") (.inl "ValueError") = some true := rfl
theorem xcR : ("BadRow" : Str) ∈ cx_row := List.mem_cons_self
theorem lk_row (d : D) : look "row" (["row"] : List Str) [d] = some d := rfl
theorem nox3 (a b : Str) (i : Int) : (D.tup [.str a, .str b, .int i]).nox = true := rfl
theorem nox1 (b : Bool) : (D.bl b).nox = true := rfl
theorem try_bad {t : Str} {k : Int} (h : d_Code_read [some (.frz (.gl "Code")), some (.frz (.str t))] = some (.exc ⟨"BadRow", ["row"], [.int k]⟩ [none, none])) :
    d__law_try [some (.frz (.str t))] = some (.val (.frz (.tup [.str "refused", .str "BadRow", .int k])) [some (.frz (.str t))]) := by
  unfold d__law_try
  refine run_by ⟨rfl, rfl⟩ ?_
  simp [b__law_try, h, tB_B, xc1, nox3, lk_row, flg]
theorem try_large {t : Str} (h : d_Code_read [some (.frz (.gl "Code")), some (.frz (.str t))] = some (.exc ⟨"TooLarge", [], []⟩ [none, none])) :
    d__law_try [some (.frz (.str t))] = some (.val (.frz (.tup [.str "refused", .str "TooLarge", .int 0])) [some (.frz (.str t))]) := by
  unfold d__law_try
  refine run_by ⟨rfl, rfl⟩ ?_
  simp [b__law_try, h, tB_T, tT_T, nox3, flg]
theorem try_good {t : Str} {rs : List (List D)} (h : d_Code_read [some (.frz (.gl "Code")), some (.frz (.str t))] = some (.val (.new (codeO rs)) [some (.frz (.gl "Code")), some (.frz (.str t))])) :
    d__law_try [some (.frz (.str t))] = some (.val (.frz (.tup [.str "let", (codeO rs).d, .int 0])) [some (.frz (.str t))]) := by
  unfold d__law_try
  refine run_by ⟨rfl, rfl⟩ ?_
  have z : (codeO rs).fz = true := rfl
  generalize codeO rs = o at *
  simp [b__law_try, h, z, flg]
theorem base_bad {t : Str} {k : Int} (h : d_Code_read [some (.frz (.gl "Code")), some (.frz (.str t))] = some (.exc ⟨"BadRow", ["row"], [.int k]⟩ [none, none])) :
    d__law_base [some (.frz (.str t))] = some (.val (.frz (.bl true)) [some (.frz (.str t))]) := by
  unfold d__law_base
  refine run_by ⟨rfl, rfl⟩ ?_
  simp [b__law_base, h, tR_B, xc2, nox1, flg]
theorem base_large {t : Str} (h : d_Code_read [some (.frz (.gl "Code")), some (.frz (.str t))] = some (.exc ⟨"TooLarge", [], []⟩ [none, none])) :
    d__law_base [some (.frz (.str t))] = some (.val (.frz (.bl true)) [some (.frz (.str t))]) := by
  unfold d__law_base
  refine run_by ⟨rfl, rfl⟩ ?_
  simp [b__law_base, h, tR_T, xc3, nox1, flg]
theorem isi_int (i : Int) : isiN ty_tab [.int i, .ty "int"] = some (.frz (.bl true)) := rfl
theorem isi_bool (i : Int) : isiN ty_tab [.int i, .ty "bool"] = some (.frz (.bl false)) := rfl
theorem refused_bad {t : Str} {k : Int} (h : d_Code_read [some (.frz (.gl "Code")), some (.frz (.str t))] = some (.exc ⟨"BadRow", ["row"], [.int k]⟩ [none, none])) :
    d__law_refused [some (.frz (.str t)), some (.frz (.str "BadRow")), some (.frz (.int k))] = some (.val (.frz (.bl true)) [some (.frz (.str t)), some (.frz (.str "BadRow")), some (.frz (.int k))]) := by
  have h1 := try_bad h
  have h2 := base_bad h
  unfold d__law_refused
  refine run_by ⟨rfl, rfl⟩ ?_
  simp [b__law_refused, h1, h2, isi_int, isi_bool, flg]
theorem refused_large {t : Str} (h : d_Code_read [some (.frz (.gl "Code")), some (.frz (.str t))] = some (.exc ⟨"TooLarge", [], []⟩ [none, none])) :
    d__law_refused [some (.frz (.str t)), some (.frz (.str "TooLarge")), some (.frz (.int 0))] = some (.val (.frz (.bl true)) [some (.frz (.str t)), some (.frz (.str "TooLarge")), some (.frz (.int 0))]) := by
  have h1 := try_large h
  have h2 := base_large h
  unfold d__law_refused
  refine run_by ⟨rfl, rfl⟩ ?_
  simp [b__law_refused, h1, h2, isi_int, isi_bool, flg]
end K50
set_option Elab.async false
set_option linter.all false
set_option maxRecDepth 100000
set_option maxHeartbeats 4000000
namespace Zed
open PySem
/-- plain data of at most so many layers -/
def shp (n : Nat) (d : D) : Prop := d.py.canLay0 = true ∧ d.py.depth ≤ n
theorem shp_int {i : Int} (n : Nat) : shp n (.int i) := ⟨rfl, Nat.zero_le n⟩
theorem shp_bl {i : Bool} (n : Nat) : shp n (.bl i) := ⟨rfl, Nat.zero_le n⟩
theorem shp_non (n : Nat) : shp n .non := ⟨rfl, Nat.zero_le n⟩
theorem shp_all {n : Nat} : ∀ {ds : List D}, (∀ d ∈ ds, shp n d) → PyData.canLayAll0 (D.pys ds) = true ∧ PyData.depthAll (D.pys ds) ≤ n
  | [], _ => ⟨rfl, Nat.zero_le n⟩
  | d :: ds, h => by
    obtain ⟨a1, a2⟩ := shp_all (ds := ds) fun d hd => h d (List.mem_cons_of_mem _ hd)
    obtain ⟨b1, b2⟩ := h d List.mem_cons_self
    refine ⟨?_, ?_⟩
    · show (d.py.canLay0 && PyData.canLayAll0 (D.pys ds)) = true
      rw [b1, a1]; rfl
    · show max d.py.depth (PyData.depthAll (D.pys ds)) ≤ n
      omega
theorem shp_tup {n : Nat} {ds : List D} (h : ∀ d ∈ ds, shp n d) : shp (n + 1) (.tup ds) := by
  obtain ⟨a1, a2⟩ := shp_all h
  exact ⟨a1, Nat.succ_le_succ a2⟩
theorem shp_lst {n : Nat} {ds : List D} (h : ∀ d ∈ ds, shp n d) : shp (n + 1) (.lst ds) := by
  obtain ⟨a1, a2⟩ := shp_all h
  exact ⟨a1, Nat.succ_le_succ a2⟩
theorem shp_pl {n : Nat} {d : D} (h : shp n d) (hn : n ≤ 64) : d.pl = true := by
  unfold D.pl SeqAt.shaped
  rw [h.1, Bool.true_and]
  exact decide_eq_true (Nat.le_trans h.2 hn)
theorem eq_self_lst {n : Nat} {ds : List D} (h : shp n (.lst ds)) (hn : n ≤ 64) : neD (.lst ds) (.lst ds) = some (.frz (.bl false)) ∧ eqD (.lst ds) (.lst ds) = some (.frz (.bl true)) := by
  have p := shp_pl h hn
  have e : eqDD (.lst ds) (.lst ds) = some true := by
    have r : PyData.eqv (D.lst ds).py (D.lst ds).py = true := by
      exact SeqAt.eqv_refl _ h.1
    show (if (D.lst ds).pl && (D.lst ds).pl then some (PyData.eqv (D.lst ds).py (D.lst ds).py) else none) = _
    rw [p, r]; rfl
  unfold neD eqD
  rw [e]
  exact ⟨rfl, rfl⟩
end Zed
namespace K50
open PySem Zed
theorem shp_str {w : List Nat} (h : ∀ c ∈ w, c < 128) (n : Nat) : shp n (.str (S w)) := by
  refine ⟨?_, Nat.zero_le n⟩
  show w.toArray.all (· < 0x110000) = true
  rw [List.all_toArray, List.all_eq_true]
  intro c hc
  exact decide_eq_true (by have := h c hc; omega)
theorem it_shp {d : D} (h : ItOk d) (n : Nat) : shp n d := by
  obtain ⟨h1, h2, h3, h4, h5, h6, h7⟩ := h
  cases d with
  | str s =>
    have e : s = S s.cps.toList := (SX.S_tl s).symm
    rw [e]
    exact shp_str (fun c hc => by have := h3 c hc; omega) n
  | int i => exact shp_int n
  | non => cases h7
  | _ => cases h6
theorem rows_shp {rs : List (List D)} (h : RowsOk rs) : shp 2 (.lst (rs.map D.tup)) := shp_lst fun d hd => by
  obtain ⟨ds, h1, rfl⟩ := List.mem_map.mp hd
  exact shp_tup fun d hd => it_shp ((h ds h1).1 d hd) 0
theorem isi_Tt (l : List D) : isiN ty_tab [.tup l, .ty "tuple"] = some (.frz (.bl true)) := rfl
theorem isi_Sb (s : Str) : isiN ty_tab [.str s, .ty "bool"] = some (.frz (.bl false)) := rfl
theorem isi_SO (s : Str) : isiOne ty_tab (.str s) [.ty "int", .ty "str"] = some true := rfl
theorem isi_IO (s : Int) : isiOne ty_tab (.int s) [.ty "int", .ty "str"] = some true := rfl
abbrev plI : Stm := ifS (orT (tru (bltE (isiN ty_tab) (aCons (var 2) (aCons (cst (.ty "bool")) aNil)))) (notT (tru (isiTE ty_tab (var 2) (dCons (cst (.ty "int")) (dCons (cst (.ty "str")) dNil)))))) (retS (cst (.bl false))) skip
abbrev plB : Stm := seqS (ifS (notT (tru (bltE (isiN ty_tab) (aCons (var 1) (aCons (cst (.ty "tuple")) aNil))))) (retS (cst (.bl false))) skip) (forI (bName 2) (itE (fzE (var 1)) tupOf) plI)
theorem plain_form : b__law_plain = seqS (forI (bName 1) (itE (fzE (var 0)) tupOf) plB) (retS (bltE (isiN ty_tab) (aCons (var 0) (aCons (cst (.ty "tuple")) aNil)))) := rfl
@[simp] theorem _root_.Zed.v_isiT (t : Tab) (f : Exp) (g : Dargs) (env : Zed.Env) : isiTE t f g env = Rs.b (f env) fun r e1 => Rs.b (g e1) fun cs e2 => match peek r e2 with
  | some d => (match isiOne t d cs with
    | some b => some (.val (.frz (.bl b)) e2)
    | none => none)
  | none => none := rfl
theorem plI_ok {x y : Option LV} {d : D} (h : ItOk d) : plI [x, y, some (.frz d)] = some (.nx [x, y, some (.frz d)]) := by
  have h6 := h.sml
  have h7 := h.non
  cases d with
  | str s => simp [plI, isi_Sb, isi_SO]
  | int i => simp [plI, isi_bool, isi_IO]
  | non => cases h7
  | _ => cases h6
theorem plI_iter {x y : Option LV} : ∀ (ds : List D) (z : Option LV), (∀ d ∈ ds, ItOk d) → ∃ z', iter (bName 2) plI ds [x, y, z] = some (.nx [x, y, z'])
  | [], z, _ => ⟨z, rfl⟩
  | d :: ds, z, h => by
    obtain ⟨z', r⟩ := plI_iter (x := x) (y := y) ds (some (.frz d)) fun d hd => h d (List.mem_cons_of_mem _ hd)
    exact ⟨z', by rw [iter_nx (e1 := [x, y, some (.frz d)]) _ _ _ rfl (plI_ok (h d List.mem_cons_self)), r]⟩
theorem plB_iter {x : Option LV} : ∀ (rs : List (List D)) (y z : Option LV), RowsOk rs → ∃ y' z', iter (bName 1) plB (rs.map D.tup) [x, y, z] = some (.nx [x, y', z'])
  | [], y, z, _ => ⟨y, z, rfl⟩
  | ds :: rs, y, z, h => by
    obtain ⟨z1, q⟩ := plI_iter (x := x) (y := some (.frz (.tup ds))) ds z (h ds List.mem_cons_self).1
    obtain ⟨y', z', r⟩ := plB_iter (x := x) rs (some (.frz (.tup ds))) z1 fun d hd => h d (List.mem_cons_of_mem _ hd)
    refine ⟨y', z', ?_⟩
    have e : plB [x, some (.frz (.tup ds)), z] = some (.nx [x, some (.frz (.tup ds)), z1]) := by
      generalize hB : plI = B at q
      show seqS _ (forI (bName 2) (itE (fzE (var 1)) tupOf) plI) _ = _
      rw [hB]
      simp [isi_Tt, q]
    rw [List.map_cons, iter_nx (e1 := [x, some (.frz (.tup ds)), z]) _ _ _ rfl e, r]
theorem plain_eq {rs : List (List D)} (h : RowsOk rs) : d__law_plain [some (.frz (.tup (rs.map D.tup)))] = some (.val (.frz (.bl true)) [some (.frz (.tup (rs.map D.tup)))]) := by
  obtain ⟨y', z', q⟩ := plB_iter (x := some (.frz (.tup (rs.map D.tup)))) rs none none h
  unfold d__law_plain
  refine run_by ⟨rfl, rfl⟩ ?_
  rw [plain_form]
  generalize rs.map D.tup = l at *
  generalize plB = B at *
  simp [q, isi_Tt, flg]
end K50
set_option Elab.async false
set_option linter.all false
set_option maxRecDepth 100000
set_option maxHeartbeats 4000000
namespace K50
open PySem Zed
def AllOk (rs : List (List D)) : Prop := ∀ ds ∈ rs, RowOk ds
theorem AllOk.rows {rs : List (List D)} (h : AllOk rs) : RowsOk rs := fun ds hd => by
  obtain ⟨word, fs, items, g⟩ := row_g (h ds hd)
  exact ⟨g.it, g.n4⟩
theorem AllOk.nl {rs : List (List D)} (h : AllOk rs) : ∀ p ∈ rs.map lineL, 10 ∉ p := fun p hp => by
  obtain ⟨ds, hd, rfl⟩ := List.mem_map.mp hp
  obtain ⟨word, fs, items, g⟩ := row_g (h ds hd)
  exact g.nl
theorem AllOk.ri {rs : List (List D)} (h : AllOk rs) : ∀ (i : Nat) s ds, (rs.map fun ds => S (lineL ds))[i]? = some s → rs[i]? = some ds → RI s (.tup ds) := fun i s ds h1 h2 => by
  rw [List.getElem?_map, h2] at h1
  cases h1
  obtain ⟨word, fs, items, g⟩ := row_g (h ds (List.mem_of_getElem? h2))
  exact g.back
theorem line_pos {ds : List D} (h : RowOk ds) : lineL ds ≠ [] := by
  obtain ⟨word, fs, items, g⟩ := row_g h
  have l1 := (g.it (.str word) (by rw [g.eq]; exact List.mem_cons_self)).l1
  unfold lineL
  rw [g.eq, List.map_cons]
  cases q : itxt (.str word) with
  | nil => rw [q] at l1; simp at l1
  | cons a l => cases items <;> simp [TL.joinL]
theorem joinL_ne {c : Nat} {p : List Nat} {ps : List (List Nat)} (h : p ≠ [] ∨ ps ≠ []) : TL.joinL [c] (p :: ps) ≠ [] := by
  cases ps with
  | nil =>
    rcases h with h | h
    · exact h
    · exact absurd rfl h
  | cons q r => simp [TL.joinL]
theorem S_ne {a : List Nat} (h : a ≠ []) : S a ≠ "" := fun q => by
  have : S a = S [] := q
  exact h (SX.S_inj this)
/-- the lines of a text put together -/
theorem lines_of {ps : List (List Nat)} (h : ∀ p ∈ ps, 10 ∉ p) (hl : (TL.joinL [10] ps).length ≤ 16000000) (hn : ps ≠ [] → TL.joinL [10] ps ≠ []) : LinesOf (S (TL.joinL [10] ps)) (ps.map S) := by
  by_cases q : ps = []
  · subst q; exact Or.inr ⟨rfl, rfl⟩
  · refine Or.inl ⟨S_ne (hn q), ?_⟩
    rw [nl_S]
    exact split_join (by omega) q h hl
theorem AllOk.lines {rs : List (List D)} (h : AllOk rs) (hl : rs.length ≤ 50000) : LinesOf (S (textL rs)) (rs.map fun ds => S (lineL ds)) := by
  have := lines_of h.nl (by
    have h1 := joinL_len (c := 10) (parts := rs.map lineL)
    have h2 := sum40 h.rows
    rw [List.length_map] at h1
    omega) (fun hn => by
      cases rs with
      | nil => exact absurd rfl hn
      | cons ds rs => exact joinL_ne (Or.inl (line_pos (h ds List.mem_cons_self))))
  rw [List.map_map] at this
  exact this
theorem AllOk.read {rs : List (List D)} (h : AllOk rs) (hl : rs.length ≤ 40000) : d_Code_read [some (.frz (.gl "Code")), some (.frz (.str (S (textL rs))))] = some (.val (.new (codeO rs)) [some (.frz (.gl "Code")), some (.frz (.str (S (textL rs))))]) :=
  read_good (h.lines (by omega)) (by simp; omega) (by simp) h.ri h.rows
theorem fld_rows (rs : List (List D)) : fldD "rows" cf_rows (codeO rs).d = some (.frz (.tup (rs.map D.tup))) := rfl
theorem fld_text (rs : List (List D)) : fldD "text" cf_text (codeO rs).d = some (.frz (.str (S (textL rs)))) := rfl
theorem code_len (rs : List (List D)) : d_Code_len [some (.frz (codeO rs).d)] = some (.val (.frz (.int (rs.length : Int))) [some (.frz (codeO rs).d)]) := by
  have f := fld_rows rs
  unfold d_Code_len
  refine run_by ⟨rfl, rfl⟩ ?_
  generalize (codeO rs).d = o at *
  simp [b_Code_len, f, flg, -v_fldD]
theorem code_str (rs : List (List D)) : d_Code_str [some (.frz (codeO rs).d)] = some (.val (.frz (.str (S (textL rs)))) [some (.frz (codeO rs).d)]) := by
  have f := fld_text rs
  unfold d_Code_str
  refine run_by ⟨rfl, rfl⟩ ?_
  generalize (codeO rs).d = o at *
  simp [b_Code_str, f, flg, -v_fldD]
theorem isi_CC (rs : List (List D)) : isiN ty_tab [(codeO rs).d, .gl "Code"] = some (.frz (.bl true)) := rfl
theorem isi_SC (s : Str) : isiN ty_tab [.str s, .gl "Code"] = some (.frz (.bl false)) := rfl
theorem code_eq (rs ts : List (List D)) : d_Code_eq [some (.frz (codeO rs).d), some (.frz (codeO ts).d)] = some (.val (.frz (.bl (decide (S (textL rs) = S (textL ts))))) [some (.frz (codeO rs).d), some (.frz (codeO ts).d)]) := by
  have f := fld_text rs
  have g := fld_text ts
  have i := isi_CC ts
  unfold d_Code_eq
  refine run_by ⟨rfl, rfl⟩ ?_
  generalize (codeO rs).d = o at *
  generalize (codeO ts).d = p at *
  simp [b_Code_eq, f, g, i, flg, -v_fldD]
theorem code_neS (rs : List (List D)) (s : Str) : d_Code_eq [some (.frz (codeO rs).d), some (.frz (.str s))] = some (.val (.frz (.bl false)) [some (.frz (codeO rs).d), some (.frz (.str s))]) := by
  have i := isi_SC s
  unfold d_Code_eq
  refine run_by ⟨rfl, rfl⟩ ?_
  generalize (codeO rs).d = o at *
  simp [b_Code_eq, i, flg, -v_fldD]
theorem eqO_code (rs ts : List (List D)) : eqO o_eqt ty_tab (codeO rs).d (codeO ts).d = some (.bl (decide (S (textL rs) = S (textL ts)))) := by
  show dunK d_Code_eq (fun _ => true) [(codeO rs).d, (codeO ts).d] = _
  unfold dunK
  rw [show fz [(codeO rs).d, (codeO ts).d] = [some (.frz (codeO rs).d), some (.frz (codeO ts).d)] from rfl, code_eq]
  rfl
theorem eqO_str (rs : List (List D)) (s : Str) : eqO o_eqt ty_tab (codeO rs).d (.str s) = some (.bl false) := by
  show dunK d_Code_eq (fun _ => true) [(codeO rs).d, .str s] = _
  unfold dunK
  rw [show fz [(codeO rs).d, .str s] = [some (.frz (codeO rs).d), some (.frz (.str s))] from rfl, code_neS]
  rfl
theorem dunO_len (rs : List (List D)) : dunO o_lent lenOk lenN [(codeO rs).d] = some (.frz (.int (rs.length : Int))) ∨ ¬ rs.length ≤ 50000 := by
  by_cases h : rs.length ≤ 50000
  · left
    show (dunK d_Code_len lenOk [(codeO rs).d]).map OV.frz = _
    unfold dunK
    rw [show fz [(codeO rs).d] = [some (.frz (codeO rs).d)] from rfl, code_len]
    have : lenOk (.int (rs.length : Int)) = true := by simp [lenOk]; omega
    dsimp only
    rw [if_pos this]; rfl
  · exact Or.inr h
theorem dunO_str (rs : List (List D)) : dunO o_strt strOk strN [(codeO rs).d] = some (.frz (.str (S (textL rs)))) := by
  show (dunK d_Code_str strOk [(codeO rs).d]).map OV.frz = _
  unfold dunK
  rw [show fz [(codeO rs).d] = [some (.frz (codeO rs).d)] from rfl, code_str]
  rfl
end K50
set_option Elab.async false
set_option linter.all false
set_option maxRecDepth 100000
set_option maxHeartbeats 4000000
namespace K50
open PySem Zed
abbrev stopR : List D := [.str "stop"]
theorem stop_ok : RowOk stopR := ⟨"stop", [], [], rfl, rfl, .nil⟩
theorem snoc_len {c : Nat} {p : List Nat} : ∀ {ps : List (List Nat)}, (TL.joinL [c] ps).length + p.length ≤ (TL.joinL [c] (ps ++ [p])).length
  | [] => by simp [TL.joinL]
  | [q] => by simp [TL.joinL]
  | q :: r :: s => by
    have := snoc_len (c := c) (p := p) (ps := r :: s)
    have e1 : TL.joinL [c] (q :: r :: s) = q ++ ([c] ++ TL.joinL [c] (r :: s)) := rfl
    have e2 : TL.joinL [c] (q :: r :: s ++ [p]) = q ++ ([c] ++ TL.joinL [c] (r :: s ++ [p])) := rfl
    rw [e1, e2]
    simp only [List.length_append, List.length_cons, List.length_nil] at this ⊢
    omega
theorem text_ne (rs : List (List D)) : decide (S (textL (rs ++ [stopR])) = S (textL rs)) = false := by
  refine decide_eq_false fun h => ?_
  have h := congrArg List.length (SX.S_inj h)
  unfold textL at h
  rw [List.map_append] at h
  have := snoc_len (c := 10) (p := lineL stopR) (ps := rs.map lineL)
  have l4 : (lineL stopR).length = 4 := by decide +kernel
  simp only [List.map_cons, List.map_nil] at h
  omega
theorem lines_comp {i : Nat} {rs : List (List D)} (h : AllOk rs) (hl : rs.length ≤ 50000) {v : Nat} {env e : Zed.Env} (hi : itE (fzE (var i)) seqOf env = some (.val (rs.map D.tup) e)) (hv : v < e.length) (hb : ∀ lv, e[v]? = some lv → keepF lv = lv) :
    compI [v] (bName v) (itE (fzE (var i)) seqOf) yesT (callE d__law_line [] (aCons (var v) aNil)) env = some (.val (.new (.lst (((rs.map lineL).map S).map D.str))) e) := by
  refine comp_all (ds := rs.map D.tup) (e := e) hi (by simp; omega) (by simp) (back_one hb) fun j d r hd hr => ?_
  rw [List.getElem?_map] at hd
  cases q : rs[j]? with
  | none => rw [q] at hd; simp at hd
  | some ds =>
    rw [q] at hd
    simp at hd
    subst hd
    obtain ⟨word, fs, items, g⟩ := row_g (h ds (List.mem_of_getElem? q))
    have r' : r = .str (S (lineL ds)) := by simp [q] at hr; exact hr.symm
    subst r'
    have c := g.line
    refine ⟨(e.set v none).set v (some (.frz (.tup ds))), (e.set v none).set v (some (.frz (.tup ds))), rfl, ?_, by simp [wipeE, List.set_set]⟩
    have gv : ((e.set v none).set v (some (.frz (.tup ds))))[v]? = some (some (.frz (.tup ds))) := by
      rw [List.getElem?_set_self (by simpa using hv)]
    generalize (e.set v none).set v (some (.frz (.tup ds))) = ee at gv ⊢
    simp [gv, c]
theorem stop_S : S (lineL stopR) = "stop" := by decide +kernel
theorem map_stop (rs : List (List D)) : (((rs ++ [stopR]).map lineL).map S).map D.str = ((rs.map lineL).map S).map D.str ++ [.str "stop"] := by
  rw [List.map_append, List.map_append, List.map_append, List.map_cons, List.map_cons, List.map_cons, stop_S]
  rfl
theorem join_stop {rs : List (List D)} (h2 : RowsOk (rs ++ [stopR])) (hl : rs.length ≤ 100) : joinM (.str "\n") [.lst (((rs.map lineL).map S).map D.str ++ [.str "stop"])] = some (.frz (.str (S (textL (rs ++ [stopR]))))) := by
  have j := join_m (c := 10) (ys := (rs ++ [stopR]).map lineL) (by
    have a := sum40 h2
    rw [List.length_append] at a
    rw [List.length_map, List.length_append]
    simp only [List.length_cons, List.length_nil] at a ⊢
    omega)
  rw [← nl_S, map_stop] at j
  exact j
theorem right_form : b__law_right = seqS (asgS 2 (callE d__law_try [] (aCons (var 0) aNil)))
  (seqS (ifS (orT (tst (Zed.bin neD (Zed.bin ixD (var 2) (cst (.int 0))) (cst (.str "let")))) (notT (tru (bltE (isiN ty_tab) (aCons (Zed.bin ixD (var 2) (cst (.int 1))) (aCons (cst (.gl "Code")) aNil)))))) (retS (cst (.bl false))) skip)
  (seqS (asgS 3 (Zed.bin ixD (var 2) (cst (.int 1))))
  (seqS (ifS (orT (notT (tru (callE d__law_plain [] (aCons (fldE "rows" cf_rows (var 3)) aNil)))) (tst (Zed.bin neD (bltE listN (aCons (fldE "rows" cf_rows (var 3)) aNil)) (var 1)))) (retS (cst (.bl false))) skip)
  (seqS (ifS (orT (tst (Zed.bin neD (fldE "text" cf_text (var 3)) (var 0))) (orT (tst (Zed.bin neD (dunE o_strt strOk strN (dCons (var 3) dNil)) (var 0))) (tst (Zed.bin neD (dunE o_lent lenOk lenN (dCons (var 3) dNil)) (bltE lenN (aCons (var 1) aNil)))))) (retS (cst (.bl false))) skip)
  (seqS (asgS 4 (cmE "Code" d_Code_read [] (aCons (fldE "text" cf_text (var 3)) aNil)))
  (seqS (ifS (orT (notT (tst (eqOE o_eqt ty_tab (var 4) (var 3)))) (tst (eqOE o_eqt ty_tab (var 4) (var 0)))) (retS (cst (.bl false))) skip)
  (seqS (asgS 5 (cmE "Code" d_Code_read [] (aCons (metE "str" joinM (cst (.str "\n")) (aCons (Zed.bin addD (compI [6] (bName 6) (itE (fzE (var 1)) seqOf) yesT (callE d__law_line [] (aCons (var 6) aNil))) (lstE (dCons (cst (.str "stop")) dNil))) aNil)) aNil)))
  (retS (andE (notE (eqOE o_eqt ty_tab (var 5) (var 3))) (Zed.bin eqD (dunE o_lent lenOk lenN (dCons (var 5) dNil)) (Zed.bin addD (bltE lenN (aCons (var 1) aNil)) (cst (.int 1))))))))))))) := rfl
abbrev C6 : Exp := compI [6] (bName 6) (itE (fzE (var 1)) seqOf) yesT (callE d__law_line [] (aCons (var 6) aNil))
theorem right_chain {tx tx2 : Str} {o1 o2 : D} {O1 O2 : O} {ml ll : List D} {n : Nat} (hn : n ≤ 100) (r1 : d_Code_read [some (.frz (.gl "Code")), some (.frz (.str tx))] = some (.val (.new O1) [some (.frz (.gl "Code")), some (.frz (.str tx))]))
    (r2 : d_Code_read [some (.frz (.gl "Code")), some (.frz (.str tx2))] = some (.val (.new O2) [some (.frz (.gl "Code")), some (.frz (.str tx2))]))
    (t1 : d__law_try [some (.frz (.str tx))] = some (.val (.frz (.tup [.str "let", o1, .int 0])) [some (.frz (.str tx))]))
    (p1 : d__law_plain [some (.frz (.tup ml))] = some (.val (.frz (.bl true)) [some (.frz (.tup ml))])) (n1 : neD (.lst ml) (.lst ml) = some (.frz (.bl false)))
    (f1 : fldD "rows" cf_rows o1 = some (.frz (.tup ml))) (f2 : fldD "text" cf_text o1 = some (.frz (.str tx))) (s1 : dunO o_strt strOk strN [o1] = some (.frz (.str tx)))
    (l1 : dunO o_lent lenOk lenN [o1] = some (.frz (.int (n : Int)))) (l2 : dunO o_lent lenOk lenN [o2] = some (.frz (.int ((n : Int) + 1))))
    (q1 : eqO o_eqt ty_tab o1 o1 = some (.bl true)) (q2 : eqO o_eqt ty_tab o1 (.str tx) = some (.bl false)) (q3 : eqO o_eqt ty_tab o2 o1 = some (.bl false))
    (i1 : isiN ty_tab [o1, .gl "Code"] = some (.frz (.bl true))) (j : joinM (.str "\n") [.lst (ll ++ [.str "stop"])] = some (.frz (.str tx2)))
    (c6 : C6 [some (.frz (.str tx)), some (.frz (.lst ml)), some (.frz (.tup [.str "let", o1, .int 0])), some (.frz o1), some (.frz o1), none, none] = some (.val (.new (.lst ll)) [some (.frz (.str tx)), some (.frz (.lst ml)), some (.frz (.tup [.str "let", o1, .int 0])), some (.frz o1), some (.frz o1), none, none]))
    (z1 : O1.fz = true) (z2 : O2.fz = true) (hd1 : O1.d = o1) (hd2 : O2.d = o2) (hml : ml.length = n) (hll : ll.length = n) : d__law_right [some (.frz (.str tx)), some (.frz (.lst ml))] = some (.val (.frz (.bl true)) [some (.frz (.str tx)), some (.frz (.lst ml))]) := by
  unfold d__law_right
  refine run_by ⟨rfl, rfl⟩ ?_
  rw [right_form]
  unfold C6 at c6
  generalize compI [6] (bName 6) (itE (fzE (var 1)) seqOf) yesT (callE d__law_line [] (aCons (var 6) aNil)) = C at c6 ⊢
  show endF 2 _ _ (seqS _ _ [some (.frz (.str tx)), some (.frz (.lst ml)), none, none, none, none, none]) = _
  rw [seq_nx (e1 := [some (.frz (.str tx)), some (.frz (.lst ml)), some (.frz (.tup [.str "let", o1, .int 0])), none, none, none, none]) (by simp [t1])]
  rw [seq_nx (e1 := [some (.frz (.str tx)), some (.frz (.lst ml)), some (.frz (.tup [.str "let", o1, .int 0])), none, none, none, none]) (by simp [i1])]
  rw [seq_nx (e1 := [some (.frz (.str tx)), some (.frz (.lst ml)), some (.frz (.tup [.str "let", o1, .int 0])), some (.frz o1), none, none, none]) (by simp)]
  rw [seq_nx (e1 := [some (.frz (.str tx)), some (.frz (.lst ml)), some (.frz (.tup [.str "let", o1, .int 0])), some (.frz o1), none, none, none]) (by simp [p1, n1, f1, -v_fldD])]
  rw [seq_nx (e1 := [some (.frz (.str tx)), some (.frz (.lst ml)), some (.frz (.tup [.str "let", o1, .int 0])), some (.frz o1), none, none, none]) (by simp [f2, s1, l1, hml, -v_fldD])]
  rw [seq_nx (e1 := [some (.frz (.str tx)), some (.frz (.lst ml)), some (.frz (.tup [.str "let", o1, .int 0])), some (.frz o1), some (.own O1), none, none]) (by simp [f2, r1, -v_fldD])]
  rw [seq_nx (e1 := [some (.frz (.str tx)), some (.frz (.lst ml)), some (.frz (.tup [.str "let", o1, .int 0])), some (.frz o1), some (.frz o1), none, none]) (by simp [q1, q2, z1, hd1])]
  rw [seq_nx (e1 := [some (.frz (.str tx)), some (.frz (.lst ml)), some (.frz (.tup [.str "let", o1, .int 0])), some (.frz o1), some (.frz o1), some (.own O2), none]) (by simp [c6, j, hll, r2, show n ≤ 16777215 by omega])]
  rw [ret_eq (r := .frz (.bl true)) (e1 := [some (.frz (.str tx)), some (.frz (.lst ml)), some (.frz (.tup [.str "let", o1, .int 0])), some (.frz o1), some (.frz o1), some (.frz o2), none]) (by simp [q3, l2, hml, z2, hd2])]
  rfl
theorem right_eq {rs : List (List D)} (h : AllOk rs) (hl : rs.length ≤ 100) : d__law_right [some (.frz (.str (S (textL rs)))), some (.frz (.lst (rs.map D.tup)))] = some (.val (.frz (.bl true)) [some (.frz (.str (S (textL rs)))), some (.frz (.lst (rs.map D.tup)))]) := by
  have h2 : AllOk (rs ++ [stopR]) := fun ds hd => by
    rcases List.mem_append.mp hd with hd | hd
    · exact h ds hd
    · rw [List.mem_singleton.mp hd]; exact stop_ok
  have r1 := h.read (by omega)
  have r2 := h2.read (by simp; omega)
  have t1 := try_good r1
  have p1 := plain_eq h.rows
  have n1 := (eq_self_lst (rows_shp h.rows) (by omega)).1
  have f1 := fld_rows rs
  have f2 := fld_text rs
  have s1 := dunO_str rs
  have l1 : dunO o_lent lenOk lenN [(codeO rs).d] = some (.frz (.int (rs.length : Int))) := (dunO_len rs).resolve_right (by omega)
  have l2 : dunO o_lent lenOk lenN [(codeO (rs ++ [stopR])).d] = some (.frz (.int ((rs.length : Int) + 1))) := by
    have q := (dunO_len (rs ++ [stopR])).resolve_right (by rw [List.length_append, List.length_cons, List.length_nil]; omega)
    rw [q, List.length_append, List.length_cons, List.length_nil]
    congr 3
  have q1 := eqO_code rs rs
  have q2 := eqO_str rs (S (textL rs))
  have q3 := eqO_code (rs ++ [stopR]) rs
  rw [text_ne] at q3
  have i1 := isi_CC rs
  have j := join_stop h2.rows hl
  have c6 := lines_comp (i := 1) (v := 6) h (by omega) (env := [some (.frz (.str (S (textL rs)))), some (.frz (.lst (rs.map D.tup))), some (.frz (.tup [.str "let", (codeO rs).d, .int 0])), some (.frz (codeO rs).d), some (.frz (codeO rs).d), none, none]) (e := [some (.frz (.str (S (textL rs)))), some (.frz (.lst (rs.map D.tup))), some (.frz (.tup [.str "let", (codeO rs).d, .int 0])), some (.frz (codeO rs).d), some (.frz (codeO rs).d), none, none]) (by simp) (by simp) (fun lv h => by simp at h; subst h; rfl)
  have z1 : (codeO rs).fz = true := rfl
  have z2 : (codeO (rs ++ [stopR])).fz = true := rfl
  have q1' : eqO o_eqt ty_tab (codeO rs).d (codeO rs).d = some (.bl true) := by rw [q1, decide_eq_true rfl]
  exact right_chain hl r1 r2 t1 p1 n1 f1 f2 s1 l1 l2 q1' q2 q3 i1 j c6 rfl rfl rfl rfl (by simp) (by simp)
end K50
set_option Elab.async false
set_option linter.all false
set_option maxRecDepth 100000
set_option maxHeartbeats 4000000
namespace K50
open PySem Zed
/-- a line that is no row -/
structure BadL (l : List Nat) : Prop where
  ri : RI (S l) .non
  nl : 10 ∉ l
  len : l.length ≤ 1000
  ne : l ≠ []
/-- a piece of a line -/
structure Pc (p : List Nat) : Prop where
  sp : 32 ∉ p
  nl : 10 ∉ p
  len : p.length ≤ 50
theorem it_pc {d : D} (h : ItOk d) : Pc (itxt d) := ⟨itxt_free h (by omega), itxt_free h (by omega), by have := h.l9; omega⟩
theorem sum50 : ∀ {ps : List (List Nat)}, (∀ p ∈ ps, Pc p) → (ps.map (·.length)).sum ≤ 50 * ps.length
  | [], _ => by simp
  | p :: ps, h => by
    have := sum50 (ps := ps) fun d hd => h d (List.mem_cons_of_mem _ hd)
    have := (h p List.mem_cons_self).len
    simp only [List.map_cons, List.sum_cons, List.length_cons]
    omega
theorem join1000 {ps : List (List Nat)} (h : ∀ p ∈ ps, Pc p) (hl : ps.length ≤ 15) : (TL.joinL [32] ps).length ≤ 1000 := by
  have h1 := joinL_len (c := 32) (parts := ps)
  have h2 := sum50 h
  omega
theorem join_nl {ps : List (List Nat)} (h : ∀ p ∈ ps, Pc p) : 10 ∉ TL.joinL [32] ps := fun q => by
  rcases mem_joinL q with q | ⟨p, h1, h2⟩
  · omega
  · exact (h p h1).nl h2
theorem join_split {p0 : List Nat} {ps : List (List Nat)} (h : ∀ p ∈ p0 :: ps, Pc p) (hl : ps.length ≤ 14) : splitM (.str (S (TL.joinL [32] (p0 :: ps)))) [.str " "] = some (.new (.lst ((S p0 :: ps.map S).map D.str))) := by
  rw [space_S]
  exact split_join (by omega) (by simp) (fun p hp => (h p hp).sp) (by have := join1000 h (by simp; omega); omega)
theorem look_nil : tab_FORMS.lookup (S []) = none := by
  cases q : tab_FORMS.lookup (S []) with
  | none => rfl
  | some d =>
    have := List.all_eq_true.mp chk_all _ (look_mem q)
    simp only [chk, Bool.and_eq_true, decide_eq_true_eq] at this
    have := this.1.1.2
    simp [Str.length] at this
theorem look_ne {p : List Nat} {d : D} (h : tab_FORMS.lookup (S p) = some d) : p ≠ [] := fun q => by
  subst q; rw [look_nil] at h; cases h
theorem bad_key {p0 : List Nat} {ps : List (List Nat)} (h : ∀ p ∈ p0 :: ps, Pc p) (hl : ps.length ≤ 14) (hk : tab_FORMS.lookup (S p0) = none) (hne : p0 ≠ [] ∨ ps ≠ []) : BadL (TL.joinL [32] (p0 :: ps)) :=
  ⟨row_none_key (join_split h hl) hk, join_nl h, join1000 h (by simp; omega), joinL_ne hne⟩
theorem bad_len {p0 : List Nat} {ps : List (List Nat)} {fs : List D} (h : ∀ p ∈ p0 :: ps, Pc p) (hl : ps.length ≤ 14) (hk : tab_FORMS.lookup (S p0) = some (.tup fs)) (hn : ps.length ≠ fs.length) : BadL (TL.joinL [32] (p0 :: ps)) :=
  ⟨row_none_len (join_split h hl) hk (by rw [List.length_map]; exact hn), join_nl h, join1000 h (by simp; omega), joinL_ne (Or.inl (look_ne hk))⟩
theorem bad_items {p0 : List Nat} {ps : List (List Nat)} {fs rs : List D} (h : ∀ p ∈ p0 :: ps, Pc p) (hl : ps.length ≤ 14) (hk : tab_FORMS.lookup (S p0) = some (.tup fs)) (hf : fs.length ≤ 1000) (hi : Its (ps.map S) fs rs) (hb : rs.any isNon = true) : BadL (TL.joinL [32] (p0 :: ps)) := by
  refine ⟨?_, join_nl h, join1000 h (by simp; omega), joinL_ne (Or.inl (look_ne hk))⟩
  have := row_items (join_split h hl) hk hf hi
  rw [if_pos hb] at this
  exact this
theorem its_set {ws : List Str} {fs rs : List D} (h : Its ws fs rs) : ∀ (i : Nat) (w : Str) (f : D), fs[i]? = some f → ItemIs w f .non → Its (ws.set i w) fs (rs.set i .non) ∧ (rs.set i .non).any isNon = true := by
  induction h with
  | nil => intro i w f hf; simp at hf
  | @cons w0 f0 r0 ws fs rs h hs t ih =>
    intro i w f hf hw
    cases i with
    | zero => simp at hf; subst hf; exact ⟨.cons hw rfl t, rfl⟩
    | succ i =>
      obtain ⟨a, b⟩ := ih i w f (by simpa using hf) hw
      refine ⟨.cons h hs a, ?_⟩
      rw [List.set_cons_succ, List.any_cons, b, Bool.or_true]
theorem mem_set' {α : Type} {l : List α} {i : Nat} {a x : α} (h : x ∈ l.set i a) : x ∈ l ∨ x = a := List.mem_or_eq_of_mem_set h
/-- a row with one item no longer right -/
theorem RowG.spoil {ds : List D} {word : Str} {fs items : List D} (g : RowG ds word fs items) {i : Nat} {w : List Nat} {f : D} (hf : fs[i]? = some f) (hw : ItemIs (S w) f .non) (hp : Pc w) : BadL (TL.joinL [32] ((ds.map itxt).set (i + 1) w)) := by
  rw [g.eq, List.map_cons, List.set_cons_succ]
  have e : ((items.map itxt).set i w).map S = (items.map fun d => S (itxt d)).set i (S w) := by
    rw [List.map_set, List.map_map]; rfl
  obtain ⟨a, b⟩ := its_set g.its i (S w) f hf hw
  refine bad_items (fun p hp' => ?_) (by rw [List.length_set, List.length_map, g.len]; have := g.f3; omega) (fs := fs) (rs := items.set i .non) ?_ (by have := g.f3; omega) (by rw [e]; exact a) b
  · rcases List.mem_cons.mp hp' with rfl | q
    · exact it_pc (g.it _ (by rw [g.eq]; exact List.mem_cons_self))
    · rcases mem_set' q with q | rfl
      · obtain ⟨d, hd, rfl⟩ := List.mem_map.mp q
        exact it_pc (g.it d (by rw [g.eq]; exact List.mem_cons_of_mem _ hd))
      · exact hp
  · show tab_FORMS.lookup (S word.cps.toList) = _
    have e : S word.cps.toList = word := SX.S_tl word
    rw [e]; exact g.look
def bnd (word : Str) (k : Nat) : Int × Int := if word = "number" then (0, 99) else if word = "add" then (1, 9) else if word = "call" ∨ word = "holds" then (1, 2) else if word = "pass" then (1, 99999) else if word = "demand" ∨ k = 3 then (1, 60) else (0, 6)
theorem in_two (w : Str) : inD (.str w) (.lst [.str "call", .str "holds"]) = some (.frz (.bl (decide (w = "call" ∨ w = "holds")))) := by
  have e : inDD (.str w) (.lst [.str "call", .str "holds"]) = some (inF (.str w) [.str "call", .str "holds"]) := rfl
  have i : inF (.str w) [.str "call", .str "holds"] = ((("call" : Str) == w) || ((("holds" : Str) == w) || false)) := rfl
  unfold inD
  rw [e, i]
  by_cases h1 : w = "call"
  · subst h1; simp
  · by_cases h2 : w = "holds"
    · subst h2; simp
    · have a : (("call" : Str) == w) = false := beq_false_of_ne fun h => h1 h.symm
      have b : (("holds" : Str) == w) = false := beq_false_of_ne fun h => h2 h.symm
      simp [h1, h2, a, b]
theorem bounds_eq {word : Str} {items : List D} {k : Nat} : d__law_bounds [some (.frz (.tup (.str word :: items))), some (.frz (.int (k : Int)))] = some (.val (.new (.lst [.int (bnd word k).1, .int (bnd word k).2])) [some (.frz (.tup (.str word :: items))), some (.frz (.int (k : Int)))]) := by
  have c := in_two word
  unfold d__law_bounds bnd
  refine run_by ⟨rfl, rfl⟩ ?_
  generalize hcc : D.lst [.str "call", .str "holds"] = cc at c
  by_cases h1 : word = "number"
  · simp [b__law_bounds, h1, flg]
  · by_cases h2 : word = "add"
    · simp [b__law_bounds, h2, flg]
    · by_cases h3 : word = "call" ∨ word = "holds"
      · rw [if_neg h1, if_neg h2, if_pos h3]
        rw [decide_eq_true h3] at c
        simp [b__law_bounds, h1, h2, c, hcc, flg]
      · rw [if_neg h1, if_neg h2, if_neg h3]
        rw [decide_eq_false h3] at c
        by_cases h4 : word = "pass"
        · rw [if_pos h4]
          subst h4
          simp [b__law_bounds, c, hcc, flg]
        · rw [if_neg h4]
          by_cases h5 : word = "demand"
          · rw [if_pos (Or.inl h5)]
            subst h5
            simp [b__law_bounds, c, hcc, flg]
          · by_cases h6 : k = 3
            · rw [if_pos (Or.inr h6)]
              subst h6
              simp [b__law_bounds, h1, h2, c, hcc, h4, h5, flg]
            · rw [if_neg fun h => h.elim h5 h6]
              simp [b__law_bounds, h1, h2, c, hcc, h4, h5, flg, show ¬ (k : Int) = 3 by omega]
end K50
set_option Elab.async false
set_option linter.all false
set_option maxRecDepth 100000
set_option maxHeartbeats 4000000
namespace Zed
open PySem
theorem comp_filter {vs : List Nat} {b : Bnd} {t : Tst} {f : Exp} {e0 : Zed.Env} (P : D → Prop) : ∀ (ds acc : List D), acc.length + ds.length ≤ 1000000 → (∀ x ∈ acc, P x) →
    (∀ d ∈ ds, ∃ e1 ok e2, b d e0 = some e1 ∧ t e1 = some (.val ok e2) ∧ wipeE e2 vs = e0 ∧ (ok = true → ∃ r e3, fzE f e2 = some (.val r e3) ∧ P r ∧ wipeE e3 vs = e0)) → ∃ rs, compN vs b t f ds acc e0 = some (.val rs e0) ∧ (∀ x ∈ rs, P x) ∧ rs.length ≤ acc.length + ds.length
  | [], acc, _, ha, _ => ⟨acc, rfl, ha, by simp⟩
  | d :: ds, acc, hl, ha, hf => by
    obtain ⟨e1, ok, e2, h1, h2, h3, h4⟩ := hf d List.mem_cons_self
    rw [List.length_cons] at hl
    cases ok with
    | true =>
      obtain ⟨r, e3, q1, q2, q3⟩ := h4 rfl
      obtain ⟨rs, z1, z2, z3⟩ := comp_filter (vs := vs) (b := b) (t := t) (f := f) P ds (acc ++ [r]) (by simp; omega) (fun x hx => by
        rcases List.mem_append.mp hx with hx | hx
        · exact ha x hx
        · rw [List.mem_singleton.mp hx]; exact q2) fun d' hd => hf d' (List.mem_cons_of_mem _ hd)
      refine ⟨rs, ?_, z2, by simp at z3 ⊢; omega⟩
      unfold compN
      simp only [h1, h2, Rs.b, if_true, q1]
      rw [if_pos (by omega), q3, z1]
    | false =>
      obtain ⟨rs, z1, z2, z3⟩ := comp_filter (vs := vs) (b := b) (t := t) (f := f) P ds acc (by omega) ha fun d' hd => hf d' (List.mem_cons_of_mem _ hd)
      refine ⟨rs, ?_, z2, by simp at z3 ⊢; omega⟩
      unfold compN
      simp only [h1, h2, Rs.b, Bool.false_eq_true, if_false]
      rw [h3, z1]
theorem comp_filter_all {vs : List Nat} {b : Bnd} {it : Seq} {t : Tst} {f : Exp} {env e : Zed.Env} {ds : List D} (P : D → Prop) (hi : it env = some (.val ds e)) (hl : ds.length ≤ 1000000) (hb : backE vs 0 e (wipeE e vs) = e)
    (hf : ∀ d ∈ ds, ∃ e1 ok e2, b d (wipeE e vs) = some e1 ∧ t e1 = some (.val ok e2) ∧ wipeE e2 vs = wipeE e vs ∧ (ok = true → ∃ r e3, fzE f e2 = some (.val r e3) ∧ P r ∧ wipeE e3 vs = wipeE e vs)) : ∃ rs, compI vs b it t f env = some (.val (.new (.lst rs)) e) ∧ (∀ x ∈ rs, P x) ∧ rs.length ≤ ds.length := by
  obtain ⟨rs, z1, z2, z3⟩ := comp_filter P ds [] (by simpa using hl) (fun x hx => by simp at hx) hf
  refine ⟨rs, ?_, z2, by simpa using z3⟩
  unfold compI Rs.b
  rw [hi]
  dsimp only
  rw [z1]
  dsimp only
  rw [hb]
theorem ixN_nat' {k n : Nat} (h : k < n) : L2.ixN n (k : Int) = some k := by
  unfold L2.ixN; rw [if_pos (by omega), if_pos (by omega)]; rfl
end Zed
namespace K50
open PySem Zed
theorem join_snoc {c : Nat} {p : List Nat} : ∀ {ps : List (List Nat)}, ps ≠ [] → TL.joinL [c] (ps ++ [p]) = TL.joinL [c] ps ++ (c :: p)
  | [], h => absurd rfl h
  | [q], _ => by simp [TL.joinL]
  | q :: r :: s, _ => by
    have := join_snoc (c := c) (p := p) (ps := r :: s) (by simp)
    have e1 : TL.joinL [c] (q :: r :: s) = q ++ ([c] ++ TL.joinL [c] (r :: s)) := rfl
    have e2 : TL.joinL [c] (q :: r :: s ++ [p]) = q ++ ([c] ++ TL.joinL [c] (r :: s ++ [p])) := rfl
    rw [e1, e2, this]
    simp
theorem forms_get : ∀ {fs items : List D}, FormsOk fs items → ∀ {i : Nat} {d : D}, items[i]? = some d → ∃ f, fs[i]? = some f ∧ FormOk f d
  | _, _, .nil, i, d, h => by simp at h
  | _, _, .cons h r, i, d, hd => by
    cases i with
    | zero => simp at hd; subst hd; exact ⟨_, rfl, h⟩
    | succ i => exact forms_get r (by simpa using hd)
def chk2 (p : Str × D) : Bool := match p.2 with
  | .tup fs => fs.zipIdx.all fun q => match q.1 with
    | .tup [.int lo, .int hi] => decide (bnd p.1 (q.2 + 1) = (lo, hi)) && decide (0 ≤ lo) && decide (1 ≤ hi) && decide (hi ≤ 99999)
    | _ => true
  | _ => true
theorem chk2_all : tab_FORMS.all chk2 = true := by decide +kernel
/-- a number among the items: its bounds -/
theorem RowG.num {ds : List D} {word : Str} {fs items : List D} (g : RowG ds word fs items) {i : Nat} {n : Int} (h : items[i]? = some (.int n)) : ∃ lo m k : Nat, n = (k : Int) ∧ lo ≤ k ∧ k ≤ m ∧ 1 ≤ m ∧ m ≤ 99999 ∧ fs[i]? = some (.tup [.int (lo : Int), .int (m : Int)]) ∧ bnd word (i + 1) = ((lo : Int), (m : Int)) := by
  obtain ⟨f, hf, ok⟩ := forms_get g.forms h
  cases ok with
  | @num lo hi _ h1 h2 =>
    have c := List.all_eq_true.mp chk2_all _ (look_mem g.look)
    simp only [chk2, List.all_eq_true] at c
    have c := c (.tup [.int lo, .int hi], i) (by
      rw [List.mem_zipIdx_iff_getElem?]; exact hf)
    simp only [Bool.and_eq_true, decide_eq_true_eq] at c
    obtain ⟨⟨⟨c1, c2⟩, c3⟩, c4⟩ := c
    refine ⟨lo.toNat, hi.toNat, n.toNat, by omega, by omega, by omega, by omega, by omega, ?_, ?_⟩
    · rw [hf, show ((lo.toNat : Nat) : Int) = lo by omega, show ((hi.toNat : Nat) : Int) = hi by omega]
    · rw [c1, show ((lo.toNat : Nat) : Int) = lo by omega, show ((hi.toNat : Nat) : Int) = hi by omega]
def lowS (lo : Nat) : List Nat := if lo = 0 then [45, 49] else TL.numL (lo - 1)
theorem str_low {lo : Nat} (h : lo ≤ 99999) : strN [.int ((lo : Int) - 1)] = some (.frz (.str (S (lowS lo)))) := by
  unfold lowS
  by_cases q : lo = 0
  · subst q; rw [if_pos rfl]; rfl
  · rw [if_neg q, show (lo : Int) - 1 = ((lo - 1 : Nat) : Int) by omega]
    exact str_num _ (by omega)
def badWs (lo m k j : Nat) : List (List Nat) := [48 :: TL.numL k, 43 :: TL.numL k, [], (TL.numL k).take 1 ++ [95] ++ (TL.numL k).drop 1, TL.numL (m + 1), lowS lo, TL.numL (m * 10 + j)]
theorem numR_none {w : List Nat} {lo : Int} {m : Nat} (h : wnP w m = none) : numR w lo m = .non := by unfold numR; rw [h]
theorem nodig {w : List Nat} {c : Nat} (hc : c ∈ w) (h : dig c = false) {m : Nat} : wnP w m = none := by
  unfold wnP
  rw [if_neg]
  intro q
  have := List.all_eq_true.mp (Bool.and_eq_true_iff.mp q.1).2 c hc
  rw [h] at this; cases this
theorem badWs_ok {lo m k j : Nat} (h1 : lo ≤ k) (h2 : k ≤ m) (h3 : 1 ≤ m) (h4 : m ≤ 99999) (hj : j < 3) : ∀ w ∈ badWs lo m k j, Pc w ∧ ItemIs (S w) (.tup [.int (lo : Int), .int (m : Int)]) .non := by
  have dl : ∀ n c, c ∈ TL.numL n → 48 ≤ c ∧ c ≤ 57 := fun n c hc => TL.numL_digits n c hc
  have ll : ∀ n, n < 10 ^ 9 → (TL.numL n).length ≤ 9 := fun n hn => numL_len9 hn
  have key : ∀ w : List Nat, (∀ c ∈ w, 33 ≤ c ∧ c < 128) → w.length ≤ 20 → numR w lo m = .non → Pc w ∧ ItemIs (S w) (.tup [.int (lo : Int), .int (m : Int)]) .non := fun w a1 a2 a3 => by
    have := item_num (w := w) (lo := (lo : Int)) (m := m) (fun c hc => (a1 c hc).2) (by omega) (by omega)
    rw [a3] at this
    exact ⟨⟨fun q => by have := a1 _ q; omega, fun q => by have := a1 _ q; omega, by omega⟩, this⟩
  have kn : ∀ n, n < 10 ^ 9 → numR (TL.numL n) lo m = .non → Pc (TL.numL n) ∧ ItemIs (S (TL.numL n)) (.tup [.int (lo : Int), .int (m : Int)]) .non := fun n hn q =>
    key _ (fun c hc => by have := dl n c hc; omega) (by have := ll n hn; omega) q
  intro w hw
  simp only [badWs, List.mem_cons, List.not_mem_nil, or_false] at hw
  rcases hw with rfl | rfl | rfl | rfl | rfl | rfl | rfl
  · refine key _ (fun c hc => ?_) (by have := ll k (by omega); simp; omega) (numR_none ?_)
    · rcases List.mem_cons.mp hc with rfl | hc
      · omega
      · have := dl k c hc; omega
    · unfold wnP
      rw [if_neg]
      intro q
      refine q.2.2.1 ⟨rfl, ?_⟩
      have := List.length_pos_iff.mpr (TL.numL_ne k)
      simp; omega
  · refine key _ (fun c hc => ?_) (by have := ll k (by omega); simp; omega) (numR_none (nodig (c := 43) List.mem_cons_self rfl))
    rcases List.mem_cons.mp hc with rfl | hc
    · omega
    · have := dl k c hc; omega
  · exact key _ (fun c hc => by simp at hc) (by simp) (numR_none rfl)
  · refine key _ (fun c hc => ?_) (by have := ll k (by omega); simp; omega) (numR_none (nodig (c := 95) (by simp) rfl))
    rcases List.mem_append.mp hc with hc | hc
    · rcases List.mem_append.mp hc with hc | hc
      · have := dl k c (List.mem_of_mem_take hc); omega
      · simp at hc; omega
    · have := dl k c (List.mem_of_mem_drop hc); omega
  · exact kn _ (by omega) (numR_none (wnP_big (by omega)))
  · unfold lowS
    by_cases q : lo = 0
    · rw [if_pos q]
      exact key _ (fun c hc => by simp at hc; omega) (by simp) (numR_none (nodig (c := 45) (by simp) rfl))
    · rw [if_neg q]
      refine kn _ (by omega) ?_
      unfold numR
      rw [wnP_num (by omega)]
      simp only []
      rw [if_pos (by omega)]
  · exact kn _ (by omega) (numR_none (wnP_big (by omega)))
end K50
set_option Elab.async false
set_option linter.all false
set_option maxRecDepth 100000
set_option maxHeartbeats 4000000
namespace K50
open PySem Zed
abbrev placesK (kk : List RV → Option (List D)) : Exp := compI [9] (bName 9) (itE (aCons (bltE lenN (aCons (var 1) aNil)) aNil) kk) (notT (tru (bltE (isiN ty_tab) (aCons (Zed.bin ixD (var 1) (var 9)) (aCons (cst (.ty "str")) aNil))))) (var 9)
abbrev placesC : Exp := placesK rng1
theorem isi_Ss (s : Str) : isiN ty_tab [.str s, .ty "str"] = some (.frz (.bl true)) := rfl
theorem isi_Is (s : Int) : isiN ty_tab [.int s, .ty "str"] = some (.frz (.bl false)) := rfl
/-- the places of the numbers of a row -/
theorem places_k {kk : List RV → Option (List D)} {ds : List D} (r : kk [.frz (.int (ds.length : Int))] = some (rngD 0 ds.length)) (h : ∀ d ∈ ds, ItOk d) (hl : ds.length ≤ 4) {o : O} : ∃ rs : List D, placesK kk [some (.own o), some (.frz (.tup ds)), none, none, none, none, none, none, none, none, none] = some (.val (.new (.lst rs)) [some (.own o), some (.frz (.tup ds)), none, none, none, none, none, none, none, none, none]) ∧ (∀ x ∈ rs, ∃ k : Nat, ∃ n : Int, x = .int (k : Int) ∧ ds[k]? = some (.int n)) ∧ rs.length ≤ 4 := by
  obtain ⟨rs, z1, z2, z3⟩ := comp_filter_all (vs := [9]) (b := bName 9) (t := notT (tru (bltE (isiN ty_tab) (aCons (Zed.bin ixD (var 1) (var 9)) (aCons (cst (.ty "str")) aNil))))) (f := var 9) (it := itE (aCons (bltE lenN (aCons (var 1) aNil)) aNil) kk)
    (env := [some (.own o), some (.frz (.tup ds)), none, none, none, none, none, none, none, none, none]) (e := [some (.own o), some (.frz (.tup ds)), none, none, none, none, none, none, none, none, none]) (ds := rngD 0 ds.length)
    (fun x => ∃ k : Nat, ∃ n : Int, x = .int (k : Int) ∧ ds[k]? = some (.int n)) (by simp [r]) (by rw [rng_len]; omega) rfl (fun d hd => by
      obtain ⟨k, hk, rfl⟩ : ∃ k : Nat, k < ds.length ∧ d = .int (k : Int) := by
        unfold rngD at hd
        obtain ⟨k, hk, rfl⟩ := List.mem_map.mp hd
        exact ⟨k, List.mem_range.mp hk, by simp⟩
      have at1 : L2.atI ds (k : Int) = some ds[k] := by rw [at_nat', List.getElem?_eq_getElem hk]
      have ok := h ds[k] (List.getElem_mem hk)
      have o6 := ok.sml
      have o7 := ok.non
      have gk : ds[k]? = some ds[k] := List.getElem?_eq_getElem hk
      generalize ds[k] = d at *
      refine ⟨[some (.own o), some (.frz (.tup ds)), none, none, none, none, none, none, none, some (.frz (.int (k : Int))), none], (match d with | .int _ => true | _ => false), [some (.own o), some (.frz (.tup ds)), none, none, none, none, none, none, none, some (.frz (.int (k : Int))), none], rfl, ?_, rfl, fun hq => ?_⟩
      · cases d with
        | str s => simp [at1, isi_Ss]
        | int s => simp [at1, isi_Is]
        | non => cases o7
        | _ => cases o6
      · cases d with
        | int n => exact ⟨.int (k : Int), [some (.own o), some (.frz (.tup ds)), none, none, none, none, none, none, none, some (.frz (.int (k : Int))), none], by simp, ⟨k, n, rfl, gk⟩, rfl⟩
        | _ => cases hq)
  rw [rng_len] at z3
  exact ⟨rs, z1, z2, by omega⟩
theorem places_ok {ds : List D} (h : ∀ d ∈ ds, ItOk d) (hl : ds.length ≤ 4) {o : O} : ∃ rs : List D, placesC [some (.own o), some (.frz (.tup ds)), none, none, none, none, none, none, none, none, none] = some (.val (.new (.lst rs)) [some (.own o), some (.frz (.tup ds)), none, none, none, none, none, none, none, none, none]) ∧ (∀ x ∈ rs, ∃ k : Nat, ∃ n : Int, x = .int (k : Int) ∧ ds[k]? = some (.int n)) ∧ rs.length ≤ 4 :=
  places_k (rng_nat (by omega)) h hl
abbrev itemsC (i : Nat) : Exp := compI [i] (bName i) (itE (fzE (var 1)) tupOf) yesT (bltE strN (aCons (var i) aNil))
theorem items_ok {ds : List D} (h : ∀ d ∈ ds, ItOk d) (hl : ds.length ≤ 4) {i : Nat} {e : Zed.Env} (h1 : e[1]? = some (some (.frz (.tup ds)))) (hi : i < e.length) (hb : ∀ lv, e[i]? = some lv → keepF lv = lv) : itemsC i e = some (.val (.new (.lst (((ds.map itxt).map S).map D.str))) e) := by
  refine comp_all (ds := ds) (e := e) (by simp [h1]) (by omega) (by simp) (back_one hb) fun j d r hd hr => ?_
  have hm : d ∈ ds := List.mem_of_getElem? hd
  have r' : r = .str (S (itxt d)) := by simp [hd] at hr; exact hr.symm
  subst r'
  refine ⟨(e.set i none).set i (some (.frz d)), (e.set i none).set i (some (.frz d)), rfl, ?_, by simp [wipeE, List.set_set]⟩
  have gv : ((e.set i none).set i (some (.frz d)))[i]? = some (some (.frz d)) := by
    rw [List.getElem?_set_self (by simpa using hi)]
  generalize (e.set i none).set i (some (.frz d)) = ee at gv ⊢
  simp [gv, (h d hm).strn]
theorem num_form : b__law_bad_number = seqS (asgS 2 placesC)
  (seqS (ifS (notT (tru (var 2))) (retS (Zed.bin addD (callE d__law_line [] (aCons (var 1) aNil)) (cst (.str " 0")))) skip)
  (seqS (asgS 3 (Zed.bin ixD (var 2) (callE d__law_take [] (aCons (var 0) (aCons (bltE lenN (aCons (var 2) aNil)) aNil)))))
  (seqS (asgS 4 (callE d__law_bounds [] (aCons (var 1) (aCons (var 3) aNil))))
  (seqS (asgS 5 (callE d__law_take [] (aCons (var 0) (aCons (cst (.int 3)) aNil))))
  (seqS (asgS 6 (bltE strN (aCons (Zed.bin ixD (var 1) (var 3)) aNil)))
  (seqS (asgS 7 (lstE (dCons (Zed.bin addD (cst (.str "0")) (var 6)) (dCons (Zed.bin addD (cst (.str "+")) (var 6)) (dCons (cst (.str "")) (dCons (Zed.bin addD (Zed.bin addD (slE (var 6) pNone (pSome (cst (.int 1)))) (cst (.str "_"))) (slE (var 6) (pSome (cst (.int 1))) pNone)) dNil))))))
  (seqS (asgS 7 (Zed.bin addD (var 7) (lstE (dCons (bltE strN (aCons (Zed.bin addD (Zed.bin ixD (var 4) (cst (.int 1))) (cst (.int 1))) aNil)) (dCons (bltE strN (aCons (Zed.bin (intD fun i j => i - j) (Zed.bin ixD (var 4) (cst (.int 0))) (cst (.int 1))) aNil)) dNil)))))
  (seqS (dropS (mutE appendU (var 7) (dCons (bltE strN (aCons (Zed.bin addD (Zed.bin mulD (Zed.bin ixD (var 4) (cst (.int 1))) (cst (.int 10))) (var 5)) aNil)) dNil)))
  (seqS (asgS 8 (itemsC 10))
  (seqS (subS (var 8) (var 3) (Zed.bin ixD (var 7) (callE d__law_take [] (aCons (var 0) (aCons (cst (.int 7)) aNil)))))
  (retS (metE "str" joinM (cst (.str " ")) (aCons (var 8) aNil)))))))))))))  := rfl
end K50
set_option Elab.async false
set_option linter.all false
set_option maxRecDepth 100000
set_option maxHeartbeats 4000000
namespace K50
open PySem Zed
def bnE (o : O) (ds : List D) (p a bd m f w it : Option LV) : Zed.Env := [some (.own o), some (.frz (.tup ds)), p, a, bd, m, f, w, it, none, none]
theorem lit0 : ("0" : Str) = S [48] := by decide +kernel
theorem litP : ("+" : Str) = S [43] := by decide +kernel
theorem litE : ("" : Str) = S [] := rfl
theorem litU : ("_" : Str) = S [95] := by decide +kernel
theorem lit_0 : (" 0" : Str) = S [32, 48] := by decide +kernel
/-- a row's line with a word more -/
theorem RowG.more {ds : List D} {word : Str} {fs items : List D} (g : RowG ds word fs items) {p : List Nat} (hp : Pc p) : BadL (lineL ds ++ (32 :: p)) := by
  have e : lineL ds ++ (32 :: p) = TL.joinL [32] (itxt (.str word) :: (items.map itxt ++ [p])) := by
    unfold lineL
    rw [← join_snoc (by rw [g.eq]; simp), g.eq]; rfl
  rw [e]
  refine bad_len (fs := fs) (fun q hq => ?_) (by rw [List.length_append, List.length_map, g.len]; have := g.f3; simp; omega) ?_ (by rw [List.length_append, List.length_map, g.len]; simp)
  · rcases List.mem_cons.mp hq with rfl | hq
    · exact it_pc (g.it _ (by rw [g.eq]; exact List.mem_cons_self))
    · rcases List.mem_append.mp hq with hq | hq
      · obtain ⟨d, hd, rfl⟩ := List.mem_map.mp hq
        exact it_pc (g.it d (by rw [g.eq]; exact List.mem_cons_of_mem _ hd))
      · rw [List.mem_singleton.mp hq]; exact hp
  · have e : S (itxt (.str word)) = word := SX.S_tl word
    rw [e]; exact g.look
theorem take_nat {b : Bag} (h : b.Ok) {m : Nat} (hm : 0 < m) (hm2 : m < 1073741824) : ∃ (j : Nat) (b' : Bag), j < m ∧ b'.Ok ∧ d__law_take [some (.own b.o), some (.frz (.int (m : Int)))] = some (.val (.frz (.int (j : Int))) [some (.own b'.o), some (.frz (.int (m : Int)))]) := by
  obtain ⟨k1, k2, k3⟩ := Bag.take_ok (m := (m : Int)) h (by omega)
  refine ⟨(b.take m).1.toNat, (b.take m).2, by omega, k1, ?_⟩
  rw [show (((b.take m).1.toNat : Nat) : Int) = (b.take m).1 by omega]
  exact take_eq h (by omega) (by omega)
theorem badnum_chain {PC IC : Exp} {o1 o2 o3 o4 : O} {ds : List D} {rs : List D} {j k n j3 jj lo m : Nat} {line w fig g1 g2 g3 g4 g5 g6 f1 f2 f3 : Str} {L WL : List D}
    (hp : PC (bnE o1 ds none none none none none none none) = some (.val (.new (.lst rs)) (bnE o1 ds none none none none none none none)))
    (hr : rs.isEmpty = false) (t1 : d__law_take [some (.own o1), some (.frz (.int (rs.length : Int)))] = some (.val (.frz (.int (j : Int))) [some (.own o2), some (.frz (.int (rs.length : Int)))]))
    (ha : L2.atI rs (j : Int) = some (.int (k : Int))) (hb : d__law_bounds [some (.frz (.tup ds)), some (.frz (.int (k : Int)))] = some (.val (.new (.lst [.int (lo : Int), .int (m : Int)])) [some (.frz (.tup ds)), some (.frz (.int (k : Int)))]))
    (t2 : d__law_take [some (.own o2), some (.frz (.int 3))] = some (.val (.frz (.int (j3 : Int))) [some (.own o3), some (.frz (.int 3))]))
    (hd : L2.atI ds (k : Int) = some (.int (n : Int)))
    (s1 : strN [.int (n : Int)] = some (.frz (.str fig))) (s2 : strN [.int ((m : Int) + 1)] = some (.frz (.str f1))) (s3 : strN [.int ((lo : Int) - 1)] = some (.frz (.str f3))) (s4 : strN [.int ((m : Int) * 10 + j3)] = some (.frz (.str f2)))
    (a0 : addD (.str "0") (.str fig) = some (.frz (.str g5))) (a1 : addD (.str "+") (.str fig) = some (.frz (.str g6))) (c1 : slD (.str fig) none (some 1) = some (.frz (.str g1))) (c2 : slD (.str fig) (some 1) none = some (.frz (.str g4)))
    (a2 : addD (.str g1) (.str "_") = some (.frz (.str g2))) (a3 : addD (.str g2) (.str g4) = some (.frz (.str g3))) (mo : mulD (.int (m : Int)) (.int 10) = some (.frz (.int ((m : Int) * 10)))) (hWL : [.str g5, .str g6, .str "", .str g3, .str f1, .str f3, .str f2] = WL)
    (hi : IC (bnE o3 ds (some (.own (.lst rs))) (some (.frz (.int (k : Int)))) (some (.own (.lst [.int (lo : Int), .int (m : Int)]))) (some (.frz (.int (j3 : Int)))) (some (.frz (.str fig))) (some (.own (.lst WL))) none) = some (.val (.new (.lst L)) (bnE o3 ds (some (.own (.lst rs))) (some (.frz (.int (k : Int)))) (some (.own (.lst [.int (lo : Int), .int (m : Int)]))) (some (.frz (.int (j3 : Int)))) (some (.frz (.str fig))) (some (.own (.lst WL))) none)))
    (t3 : d__law_take [some (.own o3), some (.frz (.int 7))] = some (.val (.frz (.int (jj : Int))) [some (.own o4), some (.frz (.int 7))])) (hw : L2.atI WL (jj : Int) = some (.str w))
    (hk : L2.ixN L.length (k : Int) = some k) (hj : joinM (.str " ") [.lst (L.set k (.str w))] = some (.frz (.str line))) :
    seqS (asgS 2 PC) (seqS (ifS (notT (tru (var 2))) (retS (Zed.bin addD (callE d__law_line [] (aCons (var 1) aNil)) (cst (.str " 0")))) skip)
  (seqS (asgS 3 (Zed.bin ixD (var 2) (callE d__law_take [] (aCons (var 0) (aCons (bltE lenN (aCons (var 2) aNil)) aNil)))))
  (seqS (asgS 4 (callE d__law_bounds [] (aCons (var 1) (aCons (var 3) aNil))))
  (seqS (asgS 5 (callE d__law_take [] (aCons (var 0) (aCons (cst (.int 3)) aNil))))
  (seqS (asgS 6 (bltE strN (aCons (Zed.bin ixD (var 1) (var 3)) aNil)))
  (seqS (asgS 7 (lstE (dCons (Zed.bin addD (cst (.str "0")) (var 6)) (dCons (Zed.bin addD (cst (.str "+")) (var 6)) (dCons (cst (.str "")) (dCons (Zed.bin addD (Zed.bin addD (slE (var 6) pNone (pSome (cst (.int 1)))) (cst (.str "_"))) (slE (var 6) (pSome (cst (.int 1))) pNone)) dNil))))))
  (seqS (asgS 7 (Zed.bin addD (var 7) (lstE (dCons (bltE strN (aCons (Zed.bin addD (Zed.bin ixD (var 4) (cst (.int 1))) (cst (.int 1))) aNil)) (dCons (bltE strN (aCons (Zed.bin (intD fun i j => i - j) (Zed.bin ixD (var 4) (cst (.int 0))) (cst (.int 1))) aNil)) dNil)))))
  (seqS (dropS (mutE appendU (var 7) (dCons (bltE strN (aCons (Zed.bin addD (Zed.bin mulD (Zed.bin ixD (var 4) (cst (.int 1))) (cst (.int 10))) (var 5)) aNil)) dNil)))
  (seqS (asgS 8 IC)
  (seqS (subS (var 8) (var 3) (Zed.bin ixD (var 7) (callE d__law_take [] (aCons (var 0) (aCons (cst (.int 7)) aNil)))))
  (retS (metE "str" joinM (cst (.str " ")) (aCons (var 8) aNil))))))))))))) (bnE o1 ds none none none none none none none)
   = some (.ret (.frz (.str line)) (bnE o4 ds (some (.own (.lst rs))) (some (.frz (.int (k : Int)))) (some (.own (.lst [.int (lo : Int), .int (m : Int)]))) (some (.frz (.int (j3 : Int)))) (some (.frz (.str fig))) (some (.own (.lst WL))) (some (.own (.lst (L.set k (.str w))))))) := by
  unfold bnE at hp hi ⊢
  rw [seq_nx (e1 := bnE o1 ds (some (.own (.lst rs))) none none none none none none) (by simp [hp, bnE])]
  unfold bnE
  rw [seq_nx (e1 := bnE o1 ds (some (.own (.lst rs))) none none none none none none) (by simp [hr, bnE])]
  unfold bnE
  rw [seq_nx (e1 := bnE o2 ds (some (.own (.lst rs))) (some (.frz (.int (k : Int)))) none none none none none) (by simp [t1, ha, bnE])]
  unfold bnE
  rw [seq_nx (e1 := bnE o2 ds (some (.own (.lst rs))) (some (.frz (.int (k : Int)))) (some (.own (.lst [.int (lo : Int), .int (m : Int)]))) none none none none) (by simp [hb, bnE])]
  unfold bnE
  rw [seq_nx (e1 := bnE o3 ds (some (.own (.lst rs))) (some (.frz (.int (k : Int)))) (some (.own (.lst [.int (lo : Int), .int (m : Int)]))) (some (.frz (.int (j3 : Int)))) none none none) (by simp [t2, bnE])]
  unfold bnE
  rw [seq_nx (e1 := bnE o3 ds (some (.own (.lst rs))) (some (.frz (.int (k : Int)))) (some (.own (.lst [.int (lo : Int), .int (m : Int)]))) (some (.frz (.int (j3 : Int)))) (some (.frz (.str fig))) none none) (by simp [hd, s1, bnE])]
  unfold bnE
  rw [seq_nx (e1 := bnE o3 ds (some (.own (.lst rs))) (some (.frz (.int (k : Int)))) (some (.own (.lst [.int (lo : Int), .int (m : Int)]))) (some (.frz (.int (j3 : Int)))) (some (.frz (.str fig))) (some (.own (.lst [.str g5, .str g6, .str "", .str g3]))) none) (by simp [a0, a1, c1, c2, a2, a3, bnE])]
  unfold bnE
  rw [seq_nx (e1 := bnE o3 ds (some (.own (.lst rs))) (some (.frz (.int (k : Int)))) (some (.own (.lst [.int (lo : Int), .int (m : Int)]))) (some (.frz (.int (j3 : Int)))) (some (.frz (.str fig))) (some (.own (.lst [.str g5, .str g6, .str "", .str g3, .str f1, .str f3]))) none) (by simp [s2, s3, bnE])]
  unfold bnE
  rw [seq_nx (e1 := bnE o3 ds (some (.own (.lst rs))) (some (.frz (.int (k : Int)))) (some (.own (.lst [.int (lo : Int), .int (m : Int)]))) (some (.frz (.int (j3 : Int)))) (some (.frz (.str fig))) (some (.own (.lst [.str g5, .str g6, .str "", .str g3, .str f1, .str f3, .str f2]))) none) (by simp [s4, mo, bnE])]
  unfold bnE
  rw [hWL]
  rw [seq_nx (e1 := bnE o3 ds (some (.own (.lst rs))) (some (.frz (.int (k : Int)))) (some (.own (.lst [.int (lo : Int), .int (m : Int)]))) (some (.frz (.int (j3 : Int)))) (some (.frz (.str fig))) (some (.own (.lst WL))) (some (.own (.lst L)))) (by simp [hi, bnE])]
  unfold bnE
  clear hWL
  rw [seq_nx (e1 := bnE o4 ds (some (.own (.lst rs))) (some (.frz (.int (k : Int)))) (some (.own (.lst [.int (lo : Int), .int (m : Int)]))) (some (.frz (.int (j3 : Int)))) (some (.frz (.str fig))) (some (.own (.lst WL))) (some (.own (.lst (L.set k (.str w)))))) (by simp [t3, hw, hk, bnE])]
  unfold bnE
  exact ret_eq (by simp [hj])
end K50
set_option Elab.async false
set_option linter.all false
set_option maxRecDepth 100000
set_option maxHeartbeats 4000000
namespace K50
open PySem Zed
theorem slTo {w : List Nat} (h : w.length ≤ 1000) : slD (.str (S w)) none (some 1) = some (.frz (.str (S (w.take 1)))) := by
  show (if w.toArray.size ≤ sizeLine then some (OV.frz (.str (L2.cutS (S w) none (some 1)))) else none) = _
  have sz := sizeN
  rw [if_pos (by simp only [List.size_toArray]; omega)]
  have := cutS_to w 1
  rw [show ((1 : Nat) : Int) = 1 from rfl] at this
  rw [this]
theorem slFrom {w : List Nat} (h : w.length ≤ 1000) : slD (.str (S w)) (some 1) none = some (.frz (.str (S (w.drop 1)))) := by
  show (if w.toArray.size ≤ sizeLine then some (OV.frz (.str (L2.cutS (S w) (some 1) none))) else none) = _
  have sz := sizeN
  rw [if_pos (by simp only [List.size_toArray]; omega)]
  have := cutS_from w 1
  rw [show ((1 : Nat) : Int) = 1 from rfl] at this
  rw [this]
theorem mul_ten (m : Nat) : mulD (.int (m : Int)) (.int 10) = some (.frz (.int ((m : Int) * 10))) := by
  have : mulOk (m : Int) 10 = true := by
    unfold mulOk
    rw [Bool.or_eq_true, Bool.and_eq_true, decide_eq_true_eq, decide_eq_true_eq, Bool.and_eq_true, decide_eq_true_eq, decide_eq_true_eq]
    exact Or.inr ⟨by decide, by decide⟩
  generalize (m : Int) = i at *
  unfold mulD
  dsimp only
  rw [this]; rfl
theorem set_map {ps : List (List Nat)} {k : Nat} {w : List Nat} : (((ps.map S).map D.str).set k (.str (S w))) = ((ps.set k w).map S).map D.str := by
  rw [List.map_set, List.map_set]
theorem badnum_ok {b : Bag} (h : b.Ok) {ds : List D} {word : Str} {fs items : List D} (g : RowG ds word fs items) : ∃ (l : List Nat) (b' : Bag), d__law_bad_number [some (.own b.o), some (.frz (.tup ds))] = some (.val (.frz (.str (S l))) [some (.own b'.o), some (.frz (.tup ds))]) ∧ b'.Ok ∧ BadL l := by
  obtain ⟨rs, hp, hx, hl⟩ := places_ok g.it g.n4 (o := b.o)
  cases hr : rs.isEmpty with
  | true =>
    refine ⟨lineL ds ++ [32, 48], b, ?_, h, g.more (p := [48]) ⟨by simp, by simp, by simp⟩⟩
    have l := g.line
    have a := add_str (w := lineL ds) (v := [32, 48]) (by have := g.l40; simp; omega)
    rw [← lit_0] at a
    unfold d__law_bad_number
    refine run_by ⟨rfl, rfl⟩ ?_
    rw [num_form]
    generalize placesC = PC at hp ⊢
    generalize itemsC 10 = IC
    generalize S (lineL ds ++ [32, 48]) = x at a ⊢
    generalize S (lineL ds) = y at a l
    generalize b.o = o at *
    simp [hp, hr, l, a, flg]
  | false =>
    have hpos : 0 < rs.length := by cases rs with
      | nil => cases hr
      | cons _ _ => simp
    obtain ⟨j, b2, hj, ok2, t1⟩ := take_nat h hpos (by omega)
    obtain ⟨k, n, e1, e2⟩ := hx rs[j] (List.getElem_mem hj)
    have ha : L2.atI rs (j : Int) = some (.int (k : Int)) := by rw [at_nat', List.getElem?_eq_getElem hj, e1]
    obtain ⟨i, rfl⟩ : ∃ i, k = i + 1 := by
      cases k with
      | zero => rw [g.eq] at e2; simp at e2
      | succ i => exact ⟨i, rfl⟩
    have e3 : items[i]? = some (.int n) := by rw [g.eq] at e2; simpa using e2
    obtain ⟨lo, m, q, rfl, h1, h2, h3, h4, hf, hbd⟩ := g.num e3
    have hb := bounds_eq (word := word) (items := items) (k := i + 1)
    rw [hbd, ← g.eq] at hb
    obtain ⟨j3, b3, hj3, ok3, t2⟩ := take_nat ok2 (m := 3) (by omega) (by omega)
    obtain ⟨jj, b4, hjj, ok4, t3⟩ := take_nat ok3 (m := 7) (by omega) (by omega)
    have hd : L2.atI ds ((i + 1 : Nat) : Int) = some (.int (q : Int)) := by rw [at_nat', e2]
    have hjl : jj < (badWs lo m q j3).length := hjj
    have W := badWs_ok h1 h2 h3 h4 hj3 (badWs lo m q j3)[jj] (List.getElem_mem hjl)
    have hw : L2.atI (((badWs lo m q j3).map S).map D.str) (jj : Int) = some (.str (S (badWs lo m q j3)[jj])) := by
      rw [at_nat', List.getElem?_map, List.getElem?_map, List.getElem?_eq_getElem hjl]; rfl
    have hWL : [.str (S (48 :: TL.numL q)), .str (S (43 :: TL.numL q)), .str "", .str (S ((TL.numL q).take 1 ++ [95] ++ (TL.numL q).drop 1)), .str (S (TL.numL (m + 1))), .str (S (lowS lo)), .str (S (TL.numL (m * 10 + j3)))] = ((badWs lo m q j3).map S).map D.str := rfl
    generalize (badWs lo m q j3)[jj] = w at W hw
    have ln := numL_len9 (m := q) (by omega)
    have s2 := str_num (m + 1) (by omega)
    have s4 := str_num (m * 10 + j3) (by omega)
    rw [show ((m + 1 : Nat) : Int) = (m : Int) + 1 by omega] at s2
    rw [show ((m * 10 + j3 : Nat) : Int) = (m : Int) * 10 + j3 by omega] at s4
    have hk : L2.ixN (((ds.map itxt).map S).map D.str).length ((i + 1 : Nat) : Int) = some (i + 1) := ixN_nat' (by
      have := (List.getElem?_eq_some_iff.mp e2).1
      simpa using this)
    have bad := g.spoil hf W.2 W.1
    have hjn := join_m (c := 32) (ys := (ds.map itxt).set (i + 1) w) (by
      have h5 := sum50 (ps := (ds.map itxt).set (i + 1) w) fun p hp => by
        rcases mem_set' hp with hp | rfl
        · obtain ⟨d, hd, rfl⟩ := List.mem_map.mp hp
          exact it_pc (g.it d hd)
        · exact W.1
      rw [List.length_set, List.length_map] at *
      have := g.n4
      omega)
    rw [← set_map, ← space_S] at hjn
    have hi := items_ok g.it g.n4 (i := 10) (e := bnE b3.o ds (some (.own (.lst rs))) (some (.frz (.int ((i + 1 : Nat) : Int)))) (some (.own (.lst [.int (lo : Int), .int (m : Int)]))) (some (.frz (.int (j3 : Int)))) (some (.frz (.str (S (TL.numL q))))) (some (.own (.lst (((badWs lo m q j3).map S).map D.str)))) none) rfl (by simp [bnE]) (fun lv hlv => by simp [bnE] at hlv; subst hlv; rfl)
    have c := badnum_chain (o4 := b4.o) (PC := placesC) (IC := itemsC 10) hp hr t1 ha hb t2 hd (str_num q (by omega)) s2 (str_low (by omega)) s4 (by rw [lit0]; exact add_str (w := [48]) (by simp; omega)) (by rw [litP]; exact add_str (w := [43]) (by simp; omega))
      (slTo (by omega)) (slFrom (by omega)) (by rw [litU]; exact add_str (by simp; omega)) (add_str (by simp; omega)) (mul_ten m) hWL hi t3 hw hk hjn
    refine ⟨_, b4, ?_, ok4, bad⟩
    unfold d__law_bad_number
    refine run_by ⟨rfl, rfl⟩ ?_
    rw [num_form]
    have e0 : ([some (.own b.o), some (.frz (.tup ds))] : Zed.Env) ++ List.replicate (11 - 2) none = bnE b.o ds none none none none none none none := rfl
    rw [e0, c]
    rfl
end K50
set_option Elab.async false
set_option linter.all false
set_option maxRecDepth 100000
set_option maxHeartbeats 4000000
namespace K50
open PySem Zed
def oddS (word : Str) : List Str := if word = "letter" then ["p", "p10", "P1", "1p", "pp"] else if word = "holds" then ["r", "Rx", "R1", "ABCDEFGHI", ""] else if word = "name" ∨ word = "call" then ["X", "and", "x1", "abcdefghi", "by"] else ["low", "L", "Low1", "Abcdefghi", "LOW"]
theorem odd_letter : ∀ w ∈ (["p", "p10", "P1", "1p", "pp"] : List Str), ItemIs w (.str "letter") .non := by
  intro w hw
  simp only [List.mem_cons, List.not_mem_nil, or_false] at hw
  rcases hw with rfl | rfl | rfl | rfl | rfl <;> (unfold ItemIs; kernel_rfl)
theorem odd_relation : ∀ w ∈ (["r", "Rx", "R1", "ABCDEFGHI", ""] : List Str), ItemIs w (.str "relation") .non := by
  intro w hw
  simp only [List.mem_cons, List.not_mem_nil, or_false] at hw
  rcases hw with rfl | rfl | rfl | rfl | rfl <;> (unfold ItemIs; kernel_rfl)
theorem odd_name : ∀ w ∈ (["X", "and", "x1", "abcdefghi", "by"] : List Str), ItemIs w (.str "name") .non := by
  intro w hw
  simp only [List.mem_cons, List.not_mem_nil, or_false] at hw
  rcases hw with rfl | rfl | rfl | rfl | rfl <;> (unfold ItemIs; kernel_rfl)
theorem odd_choice : ∀ w ∈ (["low", "L", "Low1", "Abcdefghi", "LOW"] : List Str), ItemIs w (.str "choice") .non := by
  intro w hw
  simp only [List.mem_cons, List.not_mem_nil, or_false] at hw
  rcases hw with rfl | rfl | rfl | rfl | rfl <;> (unfold ItemIs; kernel_rfl)
def chk3 (p : Str × D) : Bool := match p.2 with
  | .tup (.str s :: _) => if p.1 = "letter" then decide (s = "letter") else if p.1 = "holds" then decide (s = "relation") else if p.1 = "name" ∨ p.1 = "call" then decide (s = "name") else decide (s = "choice")
  | _ => true
theorem chk3_all : tab_FORMS.all chk3 = true := by decide +kernel
theorem RowG.odd {ds : List D} {word : Str} {fs items : List D} (g : RowG ds word fs items) {s : Str} (h : fs[0]? = some (.str s)) : ∀ w ∈ oddS word, ItemIs w (.str s) .non := by
  have c := List.all_eq_true.mp chk3_all _ (look_mem g.look)
  cases fs with
  | nil => simp at h
  | cons f fs =>
    simp at h
    subst h
    simp only [chk3] at c
    unfold oddS
    by_cases h1 : word = "letter"
    · rw [if_pos h1] at c ⊢; rw [of_decide_eq_true c]; exact odd_letter
    · rw [if_neg h1] at c ⊢
      by_cases h2 : word = "holds"
      · rw [if_pos h2] at c ⊢; rw [of_decide_eq_true c]; exact odd_relation
      · rw [if_neg h2] at c ⊢
        by_cases h3 : word = "name" ∨ word = "call"
        · rw [if_pos h3] at c ⊢; rw [of_decide_eq_true c]; exact odd_name
        · rw [if_neg h3] at c ⊢; rw [of_decide_eq_true c]; exact odd_choice
theorem odd_pc (word : Str) : ∀ w ∈ oddS word, Pc w.cps.toList := by
  have key : ∀ l ∈ ([["p", "p10", "P1", "1p", "pp"], ["r", "Rx", "R1", "ABCDEFGHI", ""], ["X", "and", "x1", "abcdefghi", "by"], ["low", "L", "Low1", "Abcdefghi", "LOW"]] : List (List Str)), ∀ w ∈ l, 32 ∉ w.cps.toList ∧ 10 ∉ w.cps.toList ∧ w.cps.toList.length ≤ 50 := by decide +kernel
  have mk : ∀ l ∈ ([["p", "p10", "P1", "1p", "pp"], ["r", "Rx", "R1", "ABCDEFGHI", ""], ["X", "and", "x1", "abcdefghi", "by"], ["low", "L", "Low1", "Abcdefghi", "LOW"]] : List (List Str)), ∀ w ∈ l, Pc w.cps.toList := fun l hl w hw => ⟨(key l hl w hw).1, (key l hl w hw).2.1, (key l hl w hw).2.2⟩
  unfold oddS
  split
  · exact mk _ (by simp)
  · split
    · exact mk _ (by simp)
    · split
      · exact mk _ (by simp)
      · exact mk _ (by simp)
theorem odd5 (word : Str) : (oddS word).length = 5 := by
  unfold oddS
  split
  · rfl
  · split
    · rfl
    · split <;> rfl
theorem in_pair (w a b : Str) : inD (.str w) (.lst [.str a, .str b]) = some (.frz (.bl (decide (w = a ∨ w = b)))) := by
  have e : inDD (.str w) (.lst [.str a, .str b]) = some (inF (.str w) [.str a, .str b]) := rfl
  have i : inF (.str w) [.str a, .str b] = ((a == w) || ((b == w) || false)) := rfl
  unfold inD
  rw [e, i]
  by_cases h1 : w = a
  · subst h1; simp
  · by_cases h2 : w = b
    · subst h2; simp
    · have a' : (a == w) = false := beq_false_of_ne fun h => h1 h.symm
      have b' : (b == w) = false := beq_false_of_ne fun h => h2 h.symm
      simp [h1, h2, a', b']
abbrev bwC : Exp := itemsC 4
abbrev bw3 (k : Stm) : Stm := seqS (asgS 2 (lstE (dCons (cst (.str "low")) (dCons (cst (.str "L")) (dCons (cst (.str "Low1")) (dCons (cst (.str "Abcdefghi")) (dCons (cst (.str "LOW")) dNil)))))))
  (seqS (ifS (tst (Zed.bin inD (Zed.bin ixD (var 1) (cst (.int 0))) (lstE (dCons (cst (.str "name")) (dCons (cst (.str "call")) dNil))))) (asgS 2 (lstE (dCons (cst (.str "X")) (dCons (cst (.str "and")) (dCons (cst (.str "x1")) (dCons (cst (.str "abcdefghi")) (dCons (cst (.str "by")) dNil))))))) skip)
  (seqS (ifS (tst (Zed.bin eqD (Zed.bin ixD (var 1) (cst (.int 0))) (cst (.str "holds")))) (asgS 2 (lstE (dCons (cst (.str "r")) (dCons (cst (.str "Rx")) (dCons (cst (.str "R1")) (dCons (cst (.str "ABCDEFGHI")) (dCons (cst (.str "")) dNil))))))) skip)
  (seqS (ifS (tst (Zed.bin eqD (Zed.bin ixD (var 1) (cst (.int 0))) (cst (.str "letter")))) (asgS 2 (lstE (dCons (cst (.str "p")) (dCons (cst (.str "p10")) (dCons (cst (.str "P1")) (dCons (cst (.str "1p")) (dCons (cst (.str "pp")) dNil))))))) skip) k)))
theorem word_form : b__law_bad_word = seqS (ifS (orT (tst (Zed.bin eqD (bltE lenN (aCons (var 1) aNil)) (cst (.int 1)))) (notT (tru (bltE (isiN ty_tab) (aCons (Zed.bin ixD (var 1) (cst (.int 1))) (aCons (cst (.ty "str")) aNil)))))) (retS (Zed.bin addD (callE d__law_line [] (aCons (var 1) aNil)) (cst (.str " x")))) skip)
  (bw3 (seqS (asgS 3 bwC) (seqS (subS (var 3) (cst (.int 1)) (Zed.bin ixD (var 2) (callE d__law_take [] (aCons (var 0) (aCons (cst (.int 5)) aNil))))) (retS (metE "str" joinM (cst (.str " ")) (aCons (var 3) aNil)))))) := rfl
theorem bw3_eq {o : O} {word : Str} {items : List D} {k : Stm} : bw3 k [some (.own o), some (.frz (.tup (.str word :: items))), none, none, none] = k [some (.own o), some (.frz (.tup (.str word :: items))), some (.own (.lst ((oddS word).map D.str))), none, none] := by
  have c := in_pair word "name" "call"
  unfold oddS
  by_cases h1 : word = "letter"
  · subst h1
    simp at c
    simp [bw3, c]
  · by_cases h2 : word = "holds"
    · subst h2
      simp at c
      simp [bw3, c]
    · by_cases h3 : word = "name" ∨ word = "call"
      · rw [decide_eq_true h3] at c
        simp [bw3, c, h1, h2, h3]
      · rw [decide_eq_false h3] at c
        simp [bw3, c, h1, h2, h3]
end K50
set_option Elab.async false
set_option linter.all false
set_option maxRecDepth 100000
set_option maxHeartbeats 4000000
namespace K50
open PySem Zed
theorem lit_x : (" x" : Str) = S [32, 120] := by decide +kernel
theorem badword_ok {b : Bag} (h : b.Ok) {ds : List D} {word : Str} {fs items : List D} (g : RowG ds word fs items) : ∃ (l : List Nat) (b' : Bag), d__law_bad_word [some (.own b.o), some (.frz (.tup ds))] = some (.val (.frz (.str (S l))) [some (.own b'.o), some (.frz (.tup ds))]) ∧ b'.Ok ∧ BadL l := by
  have e0 : ([some (.own b.o), some (.frz (.tup ds))] : Zed.Env) ++ List.replicate (5 - 2) none = [some (.own b.o), some (.frz (.tup ds)), none, none, none] := rfl
  by_cases hs : ∃ s, items[0]? = some (.str s)
  · obtain ⟨s, hs⟩ := hs
    obtain ⟨f, hf, ok⟩ := forms_get g.forms hs
    have hfs : ∃ z, f = .str z := by cases ok <;> exact ⟨_, rfl⟩
    obtain ⟨z, rfl⟩ := hfs
    obtain ⟨j, b2, hj, ok2, t1⟩ := take_nat h (m := 5) (by omega) (by omega)
    have t1 : d__law_take [some (.own b.o), some (.frz (.int 5))] = some (.val (.frz (.int (j : Int))) [some (.own b2.o), some (.frz (.int 5))]) := t1
    have hjl : j < (oddS word).length := by rw [odd5]; exact hj
    have O := g.odd hf _ (List.getElem_mem hjl)
    have P := odd_pc word _ (List.getElem_mem hjl)
    have hw : L2.atI ((oddS word).map D.str) (j : Int) = some (.str (oddS word)[j]) := by
      rw [at_nat', List.getElem?_map, List.getElem?_eq_getElem hjl]; rfl
    generalize (oddS word)[j] = w at O P hw
    have ew : S w.cps.toList = w := SX.S_tl w
    rw [← ew] at O hw
    generalize w.cps.toList = v at O P hw
    have bad := g.spoil hf O P
    have hjn := join_m (c := 32) (ys := (ds.map itxt).set (0 + 1) v) (by
      have h5 := sum50 (ps := (ds.map itxt).set (0 + 1) v) fun p hp => by
        rcases mem_set' hp with hp | rfl
        · obtain ⟨d, hd, rfl⟩ := List.mem_map.mp hp
          exact it_pc (g.it d hd)
        · exact P
      rw [List.length_set, List.length_map] at *
      have := g.n4
      omega)
    rw [← set_map, ← space_S] at hjn
    have e2 : ds[1]? = some (.str s) := by rw [g.eq]; simpa using hs
    have hlen : 1 < ds.length := (List.getElem?_eq_some_iff.mp e2).1
    have hk : L2.ixN (((ds.map itxt).map S).map D.str).length 1 = some 1 := ixN_nat' (k := 1) (by simpa using hlen)
    have hi := items_ok g.it g.n4 (i := 4) (e := [some (.own b.o), some (.frz (.tup ds)), some (.own (.lst ((oddS word).map D.str))), none, none]) rfl (by simp) (fun lv hlv => by simp at hlv; subst hlv; rfl)
    have b3 := fun k => bw3_eq (o := b.o) (word := word) (items := items) (k := k)
    rw [← g.eq] at b3
    refine ⟨_, b2, ?_, ok2, bad⟩
    unfold d__law_bad_word
    refine run_by ⟨rfl, rfl⟩ ?_
    rw [word_form, e0]
    rw [seq_nx (e1 := [some (.own b.o), some (.frz (.tup ds)), none, none, none]) (by simp [e2, isi_Ss, show ¬ (ds.length : Int) = 1 by omega])]
    rw [b3]
    generalize (oddS word).map D.str = odd at hw hi ⊢
    generalize ((ds.map itxt).map S).map D.str = L at hi hk hjn ⊢
    generalize S (TL.joinL [32] ((ds.map itxt).set (0 + 1) v)) = line at hjn ⊢
    generalize S v = sv at hw hjn ⊢
    unfold bwC
    generalize itemsC 4 = IC at hi ⊢
    generalize b.o = o1 at *
    generalize b2.o = o2 at *
    simp at hjn
    simp [hi, t1, hw, hk, hjn, flg]
  · have l := g.line
    have a := add_str (w := lineL ds) (v := [32, 120]) (by have := g.l40; simp; omega)
    rw [← lit_x] at a
    refine ⟨lineL ds ++ [32, 120], b, ?_, h, g.more (p := [120]) ⟨by simp, by simp, by simp⟩⟩
    have key : (ds.length : Int) = 1 ∨ ∃ i : Int, ds[1]? = some (.int i) := by
      rw [g.eq]
      cases items with
      | nil => exact Or.inl rfl
      | cons d items =>
        right
        have ok := g.it d (by rw [g.eq]; simp)
        have o6 := ok.sml
        have o7 := ok.non
        cases d with
        | int i => exact ⟨i, rfl⟩
        | str s => exact (hs ⟨s, rfl⟩).elim
        | non => cases o7
        | _ => cases o6
    unfold d__law_bad_word
    refine run_by ⟨rfl, rfl⟩ ?_
    rw [word_form, e0]
    generalize bw3 _ = BB
    generalize S (lineL ds ++ [32, 120]) = x at a ⊢
    generalize S (lineL ds) = y at a l
    generalize b.o = o at *
    rcases key with key | ⟨i, key⟩
    · simp [key, l, a, flg]
    · by_cases q : (ds.length : Int) = 1
      · simp [q, l, a, flg]
      · simp [key, q, isi_Is, l, a, flg]
end K50
set_option Elab.async false
set_option linter.all false
set_option maxRecDepth 100000
set_option maxHeartbeats 4000000
namespace K50
open PySem Zed
/-- a word with a sign that is no small letter is none of the words of rows -/
theorem look_odd {w : List Nat} {c : Nat} (hc : c ∈ w) (h : c < 97 ∨ 122 < c) : tab_FORMS.lookup (S w) = none := by
  cases q : tab_FORMS.lookup (S w) with
  | none => rfl
  | some d =>
    have := List.all_eq_true.mp chk_all _ (look_mem q)
    simp only [chk, Bool.and_eq_true, decide_eq_true_eq, List.all_eq_true] at this
    have := this.1.1.1 c hc
    omega
def chk5 (p : Str × D) : Bool := decide (2 ≤ p.1.cps.toList.length) && ((match p.2 with
  | .tup [] => (tab_FORMS.lookup (S (p.1.cps.toList ++ [115]))).isNone && (tab_FORMS.lookup (S (p.1.cps.toList ++ p.1.cps.toList))).isNone
  | _ => true) && (tab_FORMS.lookup (S (p.1.cps.toList.drop 1))).isNone && (tab_FORMS.lookup (S ((p.1.cps.toList.take 1).map PyProof.Rows.up1 ++ p.1.cps.toList.drop 1))).isNone && (tab_FORMS.lookup (α := Str) "push").isNone)
theorem chk5_all : tab_FORMS.all chk5 = true := by decide +kernel
def chk4 (p : Str × D) : Bool := match p.2 with
  | .tup fs => match fs.getLast? with
    | some (.str s) => if s = "name" then decide (p.1 = "name") else true
    | _ => true
  | _ => true
theorem chk4_all : tab_FORMS.all chk4 = true := by decide +kernel
variable {ds : List D} {word : Str} {fs items : List D}
theorem RowG.pcs (g : RowG ds word fs items) : ∀ p ∈ ds.map itxt, Pc p := fun p hp => by
  obtain ⟨d, hd, rfl⟩ := List.mem_map.mp hp
  exact it_pc (g.it d hd)
theorem RowG.wpc (g : RowG ds word fs items) : word.cps.toList.length ≤ 9 := (g.it (.str word) (by rw [g.eq]; exact List.mem_cons_self)).l9
theorem pc_low {w : List Nat} (h : ∀ c ∈ w, 33 ≤ c) (hl : w.length ≤ 50) : Pc w := ⟨fun q => by have := h _ q; omega, fun q => by have := h _ q; omega, hl⟩
theorem RowG.pieces (g : RowG ds word fs items) {p : List Nat} (hp : Pc p) : ∀ q ∈ p :: items.map itxt, Pc q := fun q hq => by
  rcases List.mem_cons.mp hq with rfl | hq
  · exact hp
  · obtain ⟨d, hd, rfl⟩ := List.mem_map.mp hq
    exact it_pc (g.it d (by rw [g.eq]; exact List.mem_cons_of_mem _ hd))
theorem RowG.i3 (g : RowG ds word fs items) : items.length ≤ 3 := by rw [g.len]; exact g.f3
/-- another first word -/
theorem RowG.first (g : RowG ds word fs items) {p : List Nat} (hp : Pc p) (hk : tab_FORMS.lookup (S p) = none) (hne : p ≠ []) : BadL (TL.joinL [32] (p :: items.map itxt)) :=
  bad_key (g.pieces hp) (by rw [List.length_map]; have := g.i3; omega) hk (Or.inl hne)
/-- kind 5 -/
theorem RowG.alone (g : RowG ds word fs items) (h : ds.length = 1) : BadL (lineL ds ++ [115]) ∧ BadL (lineL ds ++ lineL ds) := by
  have hi : items = [] := by rw [g.eq] at h; simpa using h
  have c := List.all_eq_true.mp chk5_all _ (look_mem g.look)
  have hf : fs = [] := by have := g.len; rw [hi] at this; exact List.length_eq_zero_iff.mp this.symm
  subst hi hf
  simp only [chk5, Bool.and_eq_true, Option.isNone_iff_eq_none, decide_eq_true_eq] at c
  obtain ⟨w2, c⟩ := c
  have wne : word.cps.toList ≠ [] := fun q => by rw [q] at w2; simp at w2
  have e : lineL ds = word.cps.toList := by rw [g.eq]; rfl
  have h9 := g.wpc
  have lo := g.low
  rw [e]
  refine ⟨bad_key (ps := []) (fun p hp => ?_) (by simp) c.1.1.1.1 (Or.inl (by simp)), bad_key (ps := []) (fun p hp => ?_) (by simp) c.1.1.1.2 (Or.inl fun q => wne (List.append_eq_nil_iff.mp q).1)⟩
  · rw [List.mem_singleton.mp hp]
    exact pc_low (fun c hc => by
      rcases List.mem_append.mp hc with hc | hc
      · have := lo c hc; omega
      · simp at hc; omega) (by simp only [List.length_append, List.length_cons, List.length_nil, List.length_drop, List.length_map, List.length_take]; omega)
  · rw [List.mem_singleton.mp hp]
    exact pc_low (fun c hc => by rcases List.mem_append.mp hc with hc | hc <;> (have := lo c hc; omega)) (by simp only [List.length_append, List.length_cons, List.length_nil, List.length_drop, List.length_map, List.length_take]; omega)
theorem RowG.short (g : RowG ds word fs items) (h : ds.length ≠ 1) : BadL (TL.joinL [32] ((ds.map itxt).dropLast)) := by
  obtain ⟨it0, its, rfl⟩ : ∃ a l, items = a :: l := by
    cases items with
    | nil => rw [g.eq] at h; exact absurd rfl h
    | cons a l => exact ⟨a, l, rfl⟩
  have e : (ds.map itxt).dropLast = itxt (.str word) :: ((it0 :: its).map itxt).dropLast := by rw [g.eq]; rfl
  have hk : tab_FORMS.lookup (S (itxt (.str word))) = some (.tup fs) := by
    have e : S (itxt (.str word)) = word := SX.S_tl word
    rw [e]; exact g.look
  rw [e]
  refine bad_len (fs := fs) (fun p hp => ?_) (by have := g.i3; simp at this ⊢; omega) hk (by have := g.len; simp at this ⊢; omega)
  rcases List.mem_cons.mp hp with rfl | hp
  · exact it_pc (g.it _ (by rw [g.eq]; exact List.mem_cons_self))
  · exact g.pcs p (by rw [g.eq]; exact List.mem_cons_of_mem _ ((List.dropLast_sublist _).subset hp))
/-- kind 6 -/
theorem RowG.ahead (g : RowG ds word fs items) : BadL (32 :: lineL ds) := by
  have e : 32 :: lineL ds = TL.joinL [32] ([] :: ds.map itxt) := by
    unfold lineL
    rw [g.eq]; rfl
  rw [e]
  refine bad_key (fun p hp => ?_) (by rw [List.length_map]; have := g.n4; omega) look_nil (Or.inr (by rw [g.eq]; simp))
  rcases List.mem_cons.mp hp with rfl | hp
  · exact ⟨by simp, by simp, by simp⟩
  · exact g.pcs p hp
theorem wide_eq : ∀ (ps : List (List Nat)), ps ≠ [] → TL.joinL [32, 32] ps ++ [32, 32] = TL.joinL [32] (ps.flatMap (fun p => [p, []]) ++ [[]])
  | [], h => absurd rfl h
  | [p], _ => by simp [TL.joinL]
  | p :: q :: r, _ => by
    have ih := wide_eq (q :: r) (by simp)
    have e1 : TL.joinL [32, 32] (p :: q :: r) = p ++ ([32, 32] ++ TL.joinL [32, 32] (q :: r)) := rfl
    have e2 : TL.joinL [32] ((p :: q :: r).flatMap (fun p => [p, []]) ++ [[]]) = p ++ ([32] ++ ([] ++ ([32] ++ TL.joinL [32] ((q :: r).flatMap (fun p => [p, []]) ++ [[]])))) := rfl
    rw [e1, e2, ← ih]
    simp
theorem flat2 (ps : List (List Nat)) : (ps.flatMap (fun p => [p, []])).length = 2 * ps.length := by
  induction ps with
  | nil => rfl
  | cons p ps ih => simp only [List.flatMap_cons, List.length_append, ih, List.length_cons, List.length_nil]; omega
theorem RowG.wide (g : RowG ds word fs items) : BadL (TL.joinL [32, 32] (ds.map itxt) ++ [32, 32]) := by
  rw [wide_eq _ (by rw [g.eq]; simp), g.eq]
  have hk : tab_FORMS.lookup (S (itxt (.str word))) = some (.tup fs) := by
    have e : S (itxt (.str word)) = word := SX.S_tl word
    rw [e]; exact g.look
  have e : ((.str word :: items).map itxt).flatMap (fun p => [p, []]) ++ [[]] = itxt (.str word) :: ([] :: ((items.map itxt).flatMap (fun p => [p, []]) ++ [[]])) := rfl
  rw [e]
  have hl := flat2 (items.map itxt)
  rw [List.length_map] at hl
  refine bad_len (fs := fs) (fun p hp => ?_) (by simp only [List.length_cons, List.length_append, List.length_nil, hl]; have := g.i3; omega) hk (by simp only [List.length_cons, List.length_append, List.length_nil, hl, ← g.len]; omega)
  have pn : Pc [] := ⟨by simp, by simp, by simp⟩
  rcases List.mem_cons.mp hp with rfl | hp
  · exact it_pc (g.it _ (by rw [g.eq]; exact List.mem_cons_self))
  · rcases List.mem_cons.mp hp with rfl | hp
    · exact pn
    · rcases List.mem_append.mp hp with hp | hp
      · obtain ⟨q, hq, hp⟩ := List.mem_flatMap.mp hp
        rcases List.mem_cons.mp hp with rfl | hp
        · exact g.pcs p (by rw [g.eq]; exact List.mem_cons_of_mem _ hq)
        · rw [List.mem_singleton.mp hp]; exact pn
      · rw [List.mem_singleton.mp hp]; exact pn
/-- kind 7 -/
theorem RowG.firsts (g : RowG ds word fs items) : BadL (TL.joinL [32] (word.cps.toList.drop 1 :: items.map itxt)) ∧ BadL (TL.joinL [32] (("push" : Str).cps.toList :: items.map itxt)) ∧ BadL (TL.joinL [32] (((word.cps.toList.take 1).map PyProof.Rows.up1 ++ word.cps.toList.drop 1) :: items.map itxt)) := by
  have c := List.all_eq_true.mp chk5_all _ (look_mem g.look)
  simp only [chk5, Bool.and_eq_true, Option.isNone_iff_eq_none, decide_eq_true_eq] at c
  obtain ⟨w2, c⟩ := c
  have wne : word.cps.toList ≠ [] := fun q => by rw [q] at w2; simp at w2
  have h9 := g.wpc
  have lo := g.low
  have ep : S ("push" : Str).cps.toList = "push" := SX.S_tl _
  have dne : word.cps.toList.drop 1 ≠ [] := fun q => by have := congrArg List.length q; rw [List.length_drop] at this; simp only [List.length_nil] at this; omega
  refine ⟨g.first (pc_low (fun c hc => by have := lo c (List.mem_of_mem_drop hc); omega) (by simp only [List.length_append, List.length_cons, List.length_nil, List.length_drop, List.length_map, List.length_take]; omega)) c.1.1.2 dne, g.first ?_ (by rw [ep]; exact c.2) (by decide +kernel), g.first (pc_low (fun c hc => ?_) (by simp only [List.length_append, List.length_cons, List.length_nil, List.length_drop, List.length_map, List.length_take]; omega)) c.1.2 (fun q => dne (List.append_eq_nil_iff.mp q).2)⟩
  · have : 32 ∉ ("push" : Str).cps.toList ∧ 10 ∉ ("push" : Str).cps.toList ∧ ("push" : Str).cps.toList.length ≤ 50 := by decide +kernel
    exact ⟨this.1, this.2.1, this.2.2⟩
  · rcases List.mem_append.mp hc with hc | hc
    · obtain ⟨d, hd, rfl⟩ := List.mem_map.mp hc
      have := lo d (List.mem_of_mem_take hd)
      unfold PyProof.Rows.up1
      split <;> omega
    · have := lo c (List.mem_of_mem_drop hc); omega
/-- kind 8 -/
theorem RowG.commas (g : RowG ds word fs items) (h : ds.length ≠ 1) : BadL (TL.joinL [44] (ds.map itxt)) := by
  have hm : 44 ∈ TL.joinL [44] (ds.map itxt) := by
    rw [g.eq]
    cases items with
    | nil => rw [g.eq] at h; exact absurd rfl h
    | cons a l => simp [TL.joinL]
  have h1 := joinL_len (c := 44) (parts := ds.map itxt)
  have h2 := sum9 g.it
  have h3 := g.n4
  rw [List.length_map] at h1
  have p : Pc (TL.joinL [44] (ds.map itxt)) := by
    refine ⟨fun q => ?_, fun q => ?_, by omega⟩
    · rcases mem_joinL q with q | ⟨p, a, b⟩
      · omega
      · exact (g.pcs p a).sp b
    · rcases mem_joinL q with q | ⟨p, a, b⟩
      · omega
      · exact (g.pcs p a).nl b
  have := bad_key (p0 := TL.joinL [44] (ds.map itxt)) (ps := []) (fun q hq => by rw [List.mem_singleton.mp hq]; exact p) (by simp) (look_odd hm (by omega)) (Or.inl fun q => by rw [q] at hm; simp at hm)
  simpa [TL.joinL] using this
theorem RowG.turned (g : RowG ds word fs items) (h : ds.length ≠ 1) (hn : word ≠ "name") : BadL (TL.joinL [32] (ds.map itxt).reverse) := by
  obtain ⟨d, hd⟩ : ∃ d, items.getLast? = some d := by
    cases q : items.getLast? with
    | none => rw [List.getLast?_eq_none_iff] at q; rw [g.eq, q] at h; exact absurd rfl h
    | some d => exact ⟨d, rfl⟩
  have hgl := hd
  rw [List.getLast?_eq_getElem?] at hd
  obtain ⟨f, hf, ok⟩ := forms_get g.forms hd
  have hfl : fs.getLast? = some f := by rw [List.getLast?_eq_getElem?, ← g.len]; exact hf
  have c := List.all_eq_true.mp chk4_all _ (look_mem g.look)
  simp only [chk4, hfl] at c
  have odd : ∃ x ∈ itxt d, x < 97 ∨ 122 < x := by
    cases ok with
    | @num lo hi i h1 h2 =>
      cases q : itxt (.int i) with
      | nil => exact absurd q (TL.numL_ne _)
      | cons a l => exact ⟨a, by simp, Or.inl (by have := TL.numL_digits i.toNat a (by have : itxt (.int i) = TL.numL i.toNat := rfl; rw [← this, q]; simp); omega)⟩
    | name h => simp only [if_true, decide_eq_true_eq] at c; exact absurd c hn
    | @letter a b h1 h2 => exact ⟨b, by simp [itxt], Or.inl (by omega)⟩
    | @relation w h1 h2 h3 =>
      cases w with
      | nil => simp at h1
      | cons a l => exact ⟨a, by simp [itxt], Or.inl (by have := h3 a (by simp); omega)⟩
    | @choice a w h0 h1 h2 h3 => exact ⟨a, by simp [itxt], Or.inl (by omega)⟩
  obtain ⟨x, hx, hx2⟩ := odd
  have hl : ∃ r, (ds.map itxt).reverse = itxt d :: r ∧ r.length ≤ 3 := by
    have e : ds.getLast? = some d := by
      rw [g.eq]
      cases items with
      | nil => simp at hgl
      | cons a l => simpa using hgl
    obtain ⟨ys, rfl⟩ := List.getLast?_eq_some_iff.mp e
    refine ⟨(ys.map itxt).reverse, by simp, ?_⟩
    have := g.n4
    simp at this ⊢
    omega
  obtain ⟨r, e, hr⟩ := hl
  have pc : ∀ q ∈ (ds.map itxt).reverse, Pc q := fun q hq => g.pcs q (List.mem_reverse.mp hq)
  rw [e] at pc ⊢
  exact bad_key pc (by omega) (look_odd hx hx2) (Or.inl fun q => by rw [q] at hx; simp at hx)
end K50
set_option Elab.async false
set_option linter.all false
set_option maxRecDepth 100000
set_option maxHeartbeats 4000000
namespace K50
open PySem Zed
abbrev revK (kk : List RV → Option (List D)) : Exp := compI [8] (bName 8) (itE (aCons (bltE lenN (aCons (var 4) aNil)) aNil) kk) yesT (Zed.bin ixD (var 4) (Zed.bin (intD fun i j => i - j) (Zed.bin (intD fun i j => i - j) (bltE lenN (aCons (var 4) aNil)) (cst (.int 1))) (var 8)))
abbrev revC : Exp := revK rng1
abbrev spR (RC : Exp) : Stm := (seqS (ifS (tst (Zed.bin (cmpD fun i j => decide (i < j)) (var 2) (cst (.int 2)))) (retS (callE d__law_bad_number [] (aCons (var 0) (aCons (var 1) aNil)))) skip)
  (seqS (ifS (tst (Zed.bin (cmpD fun i j => decide (i < j)) (var 2) (cst (.int 4)))) (retS (callE d__law_bad_word [] (aCons (var 0) (aCons (var 1) aNil)))) skip)
  (seqS (ifS (tst (Zed.bin eqD (var 2) (cst (.int 4)))) (retS (Zed.bin addD (Zed.bin addD (var 3) (cst (.str " "))) (Zed.bin ixD (lstE (dCons (cst (.str "1")) (dCons (cst (.str "x")) (dCons (cst (.str "stop")) (dCons (cst (.str "Low")) dNil))))) (callE d__law_take [] (aCons (var 0) (aCons (cst (.int 4)) aNil)))))) skip)
  (seqS (ifS (tst (Zed.bin eqD (var 2) (cst (.int 5)))) (seqS (ifS (tst (Zed.bin eqD (bltE lenN (aCons (var 1) aNil)) (cst (.int 1)))) (retS (Zed.bin addD (var 3) (cst (.str "s")))) skip)
  (retS (metE "str" joinM (cst (.str " ")) (aCons (slE (var 4) pNone (pSome (un negD (cst (.int 1))))) aNil)))) skip)
  (seqS (ifS (tst (Zed.bin eqD (var 2) (cst (.int 6)))) (seqS (asgS 5 (Zed.bin addD (un (replN " " "  ") (var 3)) (cst (.str "  "))))
  (retS (Zed.bin ixD (lstE (dCons (Zed.bin addD (cst (.str " ")) (var 3)) (dCons (Zed.bin addD (var 3) (cst (.str " "))) (dCons (var 5) dNil)))) (callE d__law_take [] (aCons (var 0) (aCons (cst (.int 3)) aNil)))))) skip)
  (seqS (ifS (tst (Zed.bin eqD (var 2) (cst (.int 7)))) (seqS (asgS 6 (Zed.bin addD (met0 "str" upperM (slE (Zed.bin ixD (var 4) (cst (.int 0))) pNone (pSome (cst (.int 1))))) (slE (Zed.bin ixD (var 4) (cst (.int 0))) (pSome (cst (.int 1))) pNone)))
  (seqS (asgS 6 (Zed.bin ixD (lstE (dCons (slE (Zed.bin ixD (var 4) (cst (.int 0))) (pSome (cst (.int 1))) pNone) (dCons (cst (.str "push")) (dCons (var 6) dNil)))) (callE d__law_take [] (aCons (var 0) (aCons (cst (.int 3)) aNil)))))
  (retS (metE "str" joinM (cst (.str " ")) (aCons (Zed.bin addD (lstE (dCons (var 6) dNil)) (slE (var 4) (pSome (cst (.int 1))) pNone)) aNil))))) skip)
  (seqS (ifS (tst (Zed.bin eqD (bltE lenN (aCons (var 1) aNil)) (cst (.int 1)))) (retS (Zed.bin addD (var 3) (var 3))) skip)
  (seqS (ifS (orT (tst (Zed.bin eqD (callE d__law_take [] (aCons (var 0) (aCons (cst (.int 2)) aNil))) (cst (.int 0)))) (tst (Zed.bin eqD (Zed.bin ixD (var 1) (cst (.int 0))) (cst (.str "name"))))) (retS (un (replN " " ",") (var 3))) skip)
  (retS (metE "str" joinM (cst (.str " ")) (aCons RC aNil)))))))))))
theorem spoil_form : b__law_spoil = seqS (asgS 2 (callE d__law_take [] (aCons (var 0) (aCons (cst (.int 9)) aNil)))) (seqS (asgS 3 (callE d__law_line [] (aCons (var 1) aNil))) (seqS (asgS 4 (itemsC 7)) (spR revC))) := rfl
def spE (o : O) (ds : List D) (k : Int) (line : Str) (L : List D) (x y : Option LV) : Zed.Env := [some (.own o), some (.frz (.tup ds)), some (.frz (.int k)), some (.frz (.str line)), some (.own (.lst L)), x, y, none, none]
variable {RC : Exp} {o o2 : O} {ds : List D} {line x : Str} {L : List D}
theorem sp01 {k : Nat} (hk : k < 2) (h : d__law_bad_number [some (.own o), some (.frz (.tup ds))] = some (.val (.frz (.str x)) [some (.own o2), some (.frz (.tup ds))])) : spR RC (spE o ds k line L none none) = some (.ret (.frz (.str x)) (spE o2 ds k line L none none)) := by
  simp [spE, h, show (k : Int) < 2 by omega]
theorem sp23 {k : Nat} (hk : k < 4) (hk2 : ¬ k < 2) (h : d__law_bad_word [some (.own o), some (.frz (.tup ds))] = some (.val (.frz (.str x)) [some (.own o2), some (.frz (.tup ds))])) : spR RC (spE o ds k line L none none) = some (.ret (.frz (.str x)) (spE o2 ds k line L none none)) := by
  simp [spE, h, show (k : Int) < 4 by omega, show ¬ (k : Int) < 2 by omega]
theorem sp4 {j : Nat} {l1 w : Str} (t : d__law_take [some (.own o), some (.frz (.int 4))] = some (.val (.frz (.int (j : Int))) [some (.own o2), some (.frz (.int 4))])) (hw : L2.atI ([.str "1", .str "x", .str "stop", .str "Low"] : List D) (j : Int) = some (.str w)) (a1 : addD (.str line) (.str " ") = some (.frz (.str l1))) (a2 : addD (.str l1) (.str w) = some (.frz (.str x))) : spR RC (spE o ds 4 line L none none) = some (.ret (.frz (.str x)) (spE o2 ds 4 line L none none)) := by
  simp [spE, t, hw, a1, a2]
theorem sp5a (hl : (ds.length : Int) = 1) (a1 : addD (.str line) (.str "s") = some (.frz (.str x))) : spR RC (spE o ds 5 line L none none) = some (.ret (.frz (.str x)) (spE o ds 5 line L none none)) := by
  simp [spE, hl, a1]
theorem sp5b (hl : ¬ (ds.length : Int) = 1) (a1 : joinM (.str " ") [.lst (cutD L none (some (-1)))] = some (.frz (.str x))) : spR RC (spE o ds 5 line L none none) = some (.ret (.frz (.str x)) (spE o ds 5 line L none none)) := by
  simp [spE, hl, a1]
theorem sp6 {j : Nat} {l1 l2 l3 r : Str} (t : d__law_take [some (.own o), some (.frz (.int 3))] = some (.val (.frz (.int (j : Int))) [some (.own o2), some (.frz (.int 3))])) (h0 : replN " " "  " (.str line) = some (.frz (.str r))) (h1 : addD (.str r) (.str "  ") = some (.frz (.str l3))) (h2 : addD (.str " ") (.str line) = some (.frz (.str l1))) (h3 : addD (.str line) (.str " ") = some (.frz (.str l2))) (hw : L2.atI ([.str l1, .str l2, .str l3] : List D) (j : Int) = some (.str x)) : spR RC (spE o ds 6 line L none none) = some (.ret (.frz (.str x)) (spE o2 ds 6 line L (some (.frz (.str l3))) none)) := by
  simp [spE, t, h0, h1, h2, h3, hw]
theorem sp7 {j : Nat} {w p1 p2 u w3 w4 : Str} {Lt : List D} (h0 : L2.atI L 0 = some (.str w)) (h1 : slD (.str w) none (some 1) = some (.frz (.str p1))) (h2 : upperM (.str p1) [] = some (.frz (.str u))) (h3 : slD (.str w) (some 1) none = some (.frz (.str p2))) (h4 : addD (.str u) (.str p2) = some (.frz (.str w3)))
    (t : d__law_take [some (.own o), some (.frz (.int 3))] = some (.val (.frz (.int (j : Int))) [some (.own o2), some (.frz (.int 3))])) (hw : L2.atI ([.str p2, .str "push", .str w3] : List D) (j : Int) = some (.str w4)) (h5 : cutD L (some 1) none = Lt) (hl : Lt.length ≤ 10) (h6 : joinM (.str " ") [.lst (.str w4 :: Lt)] = some (.frz (.str x))) : spR RC (spE o ds 7 line L none none) = some (.ret (.frz (.str x)) (spE o2 ds 7 line L none (some (.frz (.str w4))))) := by
  simp [spE, h0, h1, h2, h3, h4, t, hw, h5, h6, show 1 + Lt.length ≤ 16777216 by omega, -v_at0]
theorem sp8a (hl : (ds.length : Int) = 1) (a1 : addD (.str line) (.str line) = some (.frz (.str x))) : spR RC (spE o ds 8 line L none none) = some (.ret (.frz (.str x)) (spE o ds 8 line L none none)) := by
  simp [spE, hl, a1]
theorem sp8b {j : Nat} {word : Str} (hl : ¬ (ds.length : Int) = 1) (t : d__law_take [some (.own o), some (.frz (.int 2))] = some (.val (.frz (.int (j : Int))) [some (.own o2), some (.frz (.int 2))])) (h0 : L2.atI ds 0 = some (.str word)) (hj : j = 0 ∨ word = "name") (a1 : replN " " "," (.str line) = some (.frz (.str x))) : spR RC (spE o ds 8 line L none none) = some (.ret (.frz (.str x)) (spE o2 ds 8 line L none none)) := by
  by_cases q : j = 0
  · subst q
    simp at t
    simp [spE, hl, t, a1, -v_at0]
  · have hn := hj.resolve_left q
    subst hn
    simp [spE, hl, t, h0, show ¬ (j : Int) = 0 by omega, a1, q, -v_at0]
theorem sp8c {j : Nat} {word : Str} {Lr : List D} (hl : ¬ (ds.length : Int) = 1) (t : d__law_take [some (.own o), some (.frz (.int 2))] = some (.val (.frz (.int (j : Int))) [some (.own o2), some (.frz (.int 2))])) (h0 : L2.atI ds 0 = some (.str word)) (hj : j ≠ 0) (hn : word ≠ "name") (hr : RC (spE o2 ds 8 line L none none) = some (.val (.new (.lst Lr)) (spE o2 ds 8 line L none none))) (a1 : joinM (.str " ") [.lst Lr] = some (.frz (.str x))) : spR RC (spE o ds 8 line L none none) = some (.ret (.frz (.str x)) (spE o2 ds 8 line L none none)) := by
  unfold spE at hr ⊢
  simp [hl, t, h0, show ¬ (j : Int) = 0 by omega, hj, hn, hr, a1, -v_at0]
end K50
set_option Elab.async false
set_option linter.all false
set_option maxRecDepth 100000
set_option maxHeartbeats 4000000
namespace K50
open PySem Zed
theorem cutD_last {α : Type} (a : List α) : cutD a none (some (-1)) = a.dropLast := by
  unfold cutD
  show (a.drop 0).take ((if (-1 : Int) < 0 then ((-1 : Int) + (a.length : Int)).toNat else min (-1 : Int).toNat a.length) - 0) = _
  rw [if_pos (by omega), List.drop_zero, Nat.sub_zero, List.dropLast_eq_take]
  congr 1
  omega
theorem repl_eq {ps : List (List Nat)} {z : List Nat} (hne : ps ≠ []) (h : ∀ p ∈ ps, Pc p) (hl : ps.length ≤ 15) (hz : z.length ≤ 5) : replN " " (S z) (.str (S (TL.joinL [32] ps))) = some (.frz (.str (S (TL.joinL z ps)))) := by
  have a := join1000 h hl
  have e : Txt.split (S (TL.joinL [32] ps)) (S [32]) = ps.map S := by
    have := SX.split_S (a := TL.joinL [32] ps) (b := [32]) (by simp) (by simp)
    rw [SX.spl_join hne fun p hp => (h p hp).sp] at this
    exact this
  have r : Txt.replace (S (TL.joinL [32] ps)) (S [32]) (S z) = S (TL.joinL z ps) := by
    have := StrLaws.replace_one (S (TL.joinL [32] ps)) (S z) 32
    rw [show (⟨#[32]⟩ : Str) = S [32] from rfl, e, ← TL.join_eq, SX.join_S] at this
    exact this
  rw [space_S]
  have hx : (S (TL.joinL [32] ps)).length ≤ 1000 := by simp only [Str.length, List.size_toArray]; exact a
  have hy : (S z).length ≤ 5 := by simp only [Str.length, List.size_toArray]; exact hz
  unfold replN
  dsimp only
  rw [r, if_pos]
  have : ((S (TL.joinL [32] ps)).length + 1) * (S z).length ≤ 1001 * 5 := Nat.mul_le_mul (by omega) hy
  omega
theorem upper_eq {p : List Nat} (h : ∀ c ∈ p, c < 128) (hl : p.length ≤ 100) : upperM (.str (S p)) [] = some (.frz (.str (S (p.map PyProof.Rows.up1)))) := by
  have u := SX.upper_S (a := p) (by rw [List.all_eq_true]; intro c hc; exact decide_eq_true (h c hc))
  have hx : (S p).length ≤ 100 := by simp only [Str.length, List.size_toArray]; exact hl
  show (if (S p).length ≤ 5592405 then some (OV.frz (.str (Txt.upper (S p)))) else none) = _
  rw [if_pos (by omega)]
  rw [show Txt.upper (S p) = S (p.map PyProof.Rows.up1) from u]
theorem rev_k {kk : List RV → Option (List D)} {o : O} {ds L : List D} {k : Int} {line : Str} (r : kk [.frz (.int (L.length : Int))] = some (rngD 0 L.length)) (hl : L.length ≤ 100) : revK kk (spE o ds k line L none none) = some (.val (.new (.lst L.reverse)) (spE o ds k line L none none)) := by
  refine comp_all (ds := rngD 0 L.length) (e := spE o ds k line L none none) ?_ (by rw [rng_len]; omega) (by rw [rng_len]; simp) rfl fun i d x hd hx => ?_
  · simp [spE, r]
  · have hi : i < L.length := by have := (List.getElem?_eq_some_iff.mp hd).1; rw [rng_len] at this; exact this
    have hd' : d = .int (i : Int) := by
      unfold rngD at hd
      rw [List.getElem?_map, List.getElem?_range hi] at hd
      simp at hd; exact hd.symm
    subst hd'
    rw [List.getElem?_reverse hi] at hx
    have a : L2.atI L ((L.length : Int) - 1 - (i : Int)) = some x := by
      rw [show (L.length : Int) - 1 - (i : Int) = ((L.length - 1 - i : Nat) : Int) by omega, at_nat']; exact hx
    refine ⟨[some (.own o), some (.frz (.tup ds)), some (.frz (.int k)), some (.frz (.str line)), some (.own (.lst L)), none, none, none, some (.frz (.int (i : Int)))], [some (.own o), some (.frz (.tup ds)), some (.frz (.int k)), some (.frz (.str line)), some (.own (.lst L)), none, none, none, some (.frz (.int (i : Int)))], rfl, ?_, rfl⟩
    simp [a]
theorem lit_s : ("s" : Str) = S [115] := by decide +kernel
theorem lit_2 : ("  " : Str) = S [32, 32] := by decide +kernel
theorem lit_c : ("," : Str) = S [44] := by decide +kernel
theorem join_m' {ys : List (List Nat)} (h : ∀ p ∈ ys, Pc p) (hl : ys.length ≤ 15) : joinM (.str " ") [.lst ((ys.map S).map D.str)] = some (.frz (.str (S (TL.joinL [32] ys)))) := by
  have := join_m (c := 32) (ys := ys) (by have := sum50 h; omega)
  rw [← space_S] at this
  exact this
variable {ds : List D} {word : Str} {fs items : List D}
def SpOk (b : Bag) (ds : List D) (k : Nat) : Prop := ∃ (l : List Nat) (b' : Bag) (x y : Option LV), spR revC (spE b.o ds k (S (lineL ds)) (((ds.map itxt).map S).map D.str) none none) = some (.ret (.frz (.str (S l))) (spE b'.o ds k (S (lineL ds)) (((ds.map itxt).map S).map D.str) x y)) ∧ b'.Ok ∧ BadL l
theorem spok4 {b : Bag} (h : b.Ok) (g : RowG ds word fs items) : SpOk b ds 4 := by
  obtain ⟨j, b2, hj, ok2, t⟩ := take_nat h (m := 4) (by omega) (by omega)
  have l40 := g.l40
  have a1 := add_str (w := lineL ds) (v := [32]) (by simp; omega)
  rw [← space_S] at a1
  have key : ∀ w : Str, Pc w.cps.toList → L2.atI ([.str "1", .str "x", .str "stop", .str "Low"] : List D) (j : Int) = some (.str w) → SpOk b ds 4 := fun w hp hw => by
    have ew : S w.cps.toList = w := SX.S_tl w
    have a2 := add_str (w := lineL ds ++ [32]) (v := w.cps.toList) (by have := hp.len; simp only [List.length_append, List.length_cons, List.length_nil]; omega)
    rw [ew] at a2
    refine ⟨lineL ds ++ [32] ++ w.cps.toList, b2, none, none, sp4 t hw a1 a2, ok2, ?_⟩
    have := g.more hp
    rw [List.append_assoc]; exact this
  have hc : ∀ w ∈ (["1", "x", "stop", "Low"] : List Str), 32 ∉ w.cps.toList ∧ 10 ∉ w.cps.toList ∧ w.cps.toList.length ≤ 50 := by decide +kernel
  have pc : ∀ w ∈ (["1", "x", "stop", "Low"] : List Str), Pc w.cps.toList := fun w hw => ⟨(hc w hw).1, (hc w hw).2.1, (hc w hw).2.2⟩
  have : j = 0 ∨ j = 1 ∨ j = 2 ∨ j = 3 := by omega
  rcases this with rfl | rfl | rfl | rfl
  · exact key "1" (pc _ (by simp)) rfl
  · exact key "x" (pc _ (by simp)) rfl
  · exact key "stop" (pc _ (by simp)) rfl
  · exact key "Low" (pc _ (by simp)) rfl
theorem spok5 {b : Bag} (h : b.Ok) (g : RowG ds word fs items) : SpOk b ds 5 := by
  have l40 := g.l40
  by_cases q : ds.length = 1
  · have a1 := add_str (w := lineL ds) (v := [115]) (by simp; omega)
    rw [← lit_s] at a1
    exact ⟨lineL ds ++ [115], b, none, none, sp5a (by omega) a1, h, (g.alone q).1⟩
  · have j := join_m' (ys := (ds.map itxt).dropLast) (fun p hp => g.pcs p ((List.dropLast_sublist _).subset hp)) (by have := g.n4; simp; omega)
    have e : cutD (((ds.map itxt).map S).map D.str) none (some (-1)) = (((ds.map itxt).dropLast).map S).map D.str := by rw [cutD_last, List.map_dropLast, List.map_dropLast]
    rw [← e] at j
    exact ⟨_, b, none, none, sp5b (by omega) j, h, g.short q⟩
theorem spok6 {b : Bag} (h : b.Ok) (g : RowG ds word fs items) : SpOk b ds 6 := by
  have l40 := g.l40
  obtain ⟨j, b2, hj, ok2, t⟩ := take_nat h (m := 3) (by omega) (by omega)
  have ne : ds.map itxt ≠ [] := by rw [g.eq]; simp
  have r := repl_eq (z := [32, 32]) ne g.pcs (by rw [List.length_map]; have := g.n4; omega) (by simp)
  rw [← lit_2] at r
  have lw : (TL.joinL [32, 32] (ds.map itxt)).length ≤ 998 := by
    have := g.wide.len
    simp only [List.length_append, List.length_cons, List.length_nil] at this
    omega
  have h1 := add_str (w := TL.joinL [32, 32] (ds.map itxt)) (v := [32, 32]) (by simp; omega)
  have h2 := add_str (w := [32]) (v := lineL ds) (by simp; omega)
  have h3 := add_str (w := lineL ds) (v := [32]) (by simp; omega)
  rw [← lit_2] at h1
  rw [← space_S] at h2 h3
  have : j = 0 ∨ j = 1 ∨ j = 2 := by omega
  rcases this with rfl | rfl | rfl
  · exact ⟨_, b2, _, none, sp6 t r h1 h2 h3 rfl, ok2, g.ahead⟩
  · exact ⟨_, b2, _, none, sp6 t r h1 h2 h3 rfl, ok2, g.more (p := []) ⟨by simp, by simp, by simp⟩⟩
  · exact ⟨_, b2, _, none, sp6 t r h1 h2 h3 rfl, ok2, g.wide⟩
theorem spok7 {b : Bag} (h : b.Ok) (g : RowG ds word fs items) : SpOk b ds 7 := by
  have l40 := g.l40
  have w9 := g.wpc
  have lo := g.low
  obtain ⟨j, b2, hj, ok2, t⟩ := take_nat h (m := 3) (by omega) (by omega)
  have eL : ((ds.map itxt).map S).map D.str = .str (S word.cps.toList) :: ((items.map itxt).map S).map D.str := by rw [g.eq]; rfl
  have h1 := slTo (w := word.cps.toList) (by omega)
  have h3 := slFrom (w := word.cps.toList) (by omega)
  have h2 := upper_eq (p := word.cps.toList.take 1) (fun c hc => by have := lo c (List.mem_of_mem_take hc); omega) (by rw [List.length_take]; omega)
  have h4 := add_str (w := (word.cps.toList.take 1).map PyProof.Rows.up1) (v := word.cps.toList.drop 1) (by simp only [List.length_map, List.length_take, List.length_drop]; omega)
  have h5 : cutD (((ds.map itxt).map S).map D.str) (some 1) none = ((items.map itxt).map S).map D.str := by
    have := cutD_from (((ds.map itxt).map S).map D.str) 1
    rw [show ((1 : Nat) : Int) = 1 from rfl] at this
    rw [this, eL]; rfl
  have h0 : L2.atI (((ds.map itxt).map S).map D.str) 0 = some (.str (S word.cps.toList)) := by rw [eL]; exact at_nat' 0
  have hl : (((items.map itxt).map S).map D.str).length ≤ 10 := by simp only [List.length_map]; have := g.i3; omega
  obtain ⟨f1, f2, f3⟩ := g.firsts
  have j6 : ∀ p, Pc p → joinM (.str " ") [.lst (.str (S p) :: ((items.map itxt).map S).map D.str)] = some (.frz (.str (S (TL.joinL [32] (p :: items.map itxt))))) := fun p hp =>
    join_m' (ys := p :: items.map itxt) (g.pieces hp) (by simp; have := g.i3; omega)
  have ep : S ("push" : Str).cps.toList = "push" := SX.S_tl _
  have pp : Pc ("push" : Str).cps.toList := by
    have : 32 ∉ ("push" : Str).cps.toList ∧ 10 ∉ ("push" : Str).cps.toList ∧ ("push" : Str).cps.toList.length ≤ 50 := by decide +kernel
    exact ⟨this.1, this.2.1, this.2.2⟩
  have p1 : Pc (word.cps.toList.drop 1) := pc_low (fun c hc => by have := lo c (List.mem_of_mem_drop hc); omega) (by rw [List.length_drop]; omega)
  have p3 : Pc ((word.cps.toList.take 1).map PyProof.Rows.up1 ++ word.cps.toList.drop 1) := pc_low (fun c hc => by
    rcases List.mem_append.mp hc with hc | hc
    · obtain ⟨d, hd, rfl⟩ := List.mem_map.mp hc
      have := lo d (List.mem_of_mem_take hd)
      unfold PyProof.Rows.up1
      split <;> omega
    · have := lo c (List.mem_of_mem_drop hc); omega) (by simp only [List.length_append, List.length_map, List.length_take, List.length_drop]; omega)
  have : j = 0 ∨ j = 1 ∨ j = 2 := by omega
  rcases this with rfl | rfl | rfl
  · exact ⟨_, b2, none, _, sp7 h0 h1 h2 h3 h4 t rfl h5 hl (j6 _ p1), ok2, f1⟩
  · have j7 := j6 _ pp
    rw [ep] at j7
    exact ⟨_, b2, none, _, sp7 h0 h1 h2 h3 h4 t rfl h5 hl j7, ok2, f2⟩
  · exact ⟨_, b2, none, _, sp7 h0 h1 h2 h3 h4 t rfl h5 hl (j6 _ p3), ok2, f3⟩
theorem spok8 {b : Bag} (h : b.Ok) (g : RowG ds word fs items) : SpOk b ds 8 := by
  have l40 := g.l40
  by_cases q : ds.length = 1
  · have a1 := add_str (w := lineL ds) (v := lineL ds) (by omega)
    exact ⟨_, b, none, none, sp8a (by omega) a1, h, (g.alone q).2⟩
  · obtain ⟨j, b2, hj, ok2, t⟩ := take_nat h (m := 2) (by omega) (by omega)
    have h0 : L2.atI ds 0 = some (.str word) := by rw [g.eq]; exact at_nat' 0
    have ne : ds.map itxt ≠ [] := by rw [g.eq]; simp
    by_cases qj : j = 0 ∨ word = "name"
    · have r := repl_eq (z := [44]) ne g.pcs (by rw [List.length_map]; have := g.n4; omega) (by simp)
      rw [← lit_c] at r
      exact ⟨_, b2, none, none, sp8b (by omega) t h0 qj r, ok2, g.commas q⟩
    · have hn : word ≠ "name" := fun e => qj (Or.inr e)
      have rv := rev_k (kk := rng1) (o := b2.o) (ds := ds) (k := 8) (line := S (lineL ds)) (rng_nat (n := (((ds.map itxt).map S).map D.str).length) (by simp only [List.length_map]; have := g.n4; omega)) (by simp only [List.length_map]; have := g.n4; omega)
      have jm := join_m' (ys := (ds.map itxt).reverse) (fun p hp => g.pcs p (List.mem_reverse.mp hp)) (by simp; have := g.n4; omega)
      rw [List.map_reverse, List.map_reverse] at jm
      exact ⟨_, b2, none, none, sp8c (by omega) t h0 (fun e => qj (Or.inl e)) hn rv jm, ok2, g.turned q hn⟩
theorem spoil_ok {b : Bag} (h : b.Ok) (g : RowG ds word fs items) : ∃ (l : List Nat) (b' : Bag), d__law_spoil [some (.own b.o), some (.frz (.tup ds))] = some (.val (.frz (.str (S l))) [some (.own b'.o), some (.frz (.tup ds))]) ∧ b'.Ok ∧ BadL l := by
  obtain ⟨k, b1, hk, ok1, t0⟩ := take_nat h (m := 9) (by omega) (by omega)
  have sp : SpOk b1 ds k := by
    by_cases q1 : k < 2
    · obtain ⟨l, b', e, ok, bad⟩ := badnum_ok ok1 g
      exact ⟨l, b', none, none, sp01 q1 e, ok, bad⟩
    · by_cases q2 : k < 4
      · obtain ⟨l, b', e, ok, bad⟩ := badword_ok ok1 g
        exact ⟨l, b', none, none, sp23 q2 q1 e, ok, bad⟩
      · have : k = 4 ∨ k = 5 ∨ k = 6 ∨ k = 7 ∨ k = 8 := by omega
        rcases this with rfl | rfl | rfl | rfl | rfl
        · exact spok4 ok1 g
        · exact spok5 ok1 g
        · exact spok6 ok1 g
        · exact spok7 ok1 g
        · exact spok8 ok1 g
  obtain ⟨l, b', x, y, e, ok, bad⟩ := sp
  refine ⟨l, b', ?_, ok, bad⟩
  have t0 : d__law_take [some (.own b.o), some (.frz (.int 9))] = some (.val (.frz (.int (k : Int))) [some (.own b1.o), some (.frz (.int 9))]) := t0
  have ln := g.line
  have hi := items_ok g.it g.n4 (i := 7) (e := [some (.own b1.o), some (.frz (.tup ds)), some (.frz (.int (k : Int))), some (.frz (.str (S (lineL ds)))), none, none, none, none, none]) rfl (by simp) (fun lv hlv => by simp at hlv; subst hlv; rfl)
  unfold d__law_spoil
  refine run_by ⟨rfl, rfl⟩ ?_
  rw [spoil_form]
  have e0 : ([some (.own b.o), some (.frz (.tup ds))] : Zed.Env) ++ List.replicate (9 - 2) none = [some (.own b.o), some (.frz (.tup ds)), none, none, none, none, none, none, none] := rfl
  rw [e0]
  generalize spR revC = R at e ⊢
  generalize ((ds.map itxt).map S).map D.str = L at e hi
  rw [seq_nx (e1 := [some (.own b1.o), some (.frz (.tup ds)), some (.frz (.int (k : Int))), none, none, none, none, none, none]) (by simp [t0])]
  rw [seq_nx (e1 := [some (.own b1.o), some (.frz (.tup ds)), some (.frz (.int (k : Int))), some (.frz (.str (S (lineL ds)))), none, none, none, none, none]) (by simp [ln])]
  rw [seq_nx (e1 := spE b1.o ds k (S (lineL ds)) L none none) (by generalize itemsC 7 = IC at hi ⊢; simp [hi, spE])]
  rw [e]
  rfl
end K50
set_option Elab.async false
set_option linter.all false
set_option maxRecDepth 100000
set_option maxHeartbeats 4000000
namespace K50
open PySem Zed
theorem ri_nil : RI (S []) .non := by
  have := row_none_key (s := S []) (w0 := S []) (ws := []) (by
    have := split_join (c := 32) (by omega) (parts := [[]]) (by simp) (by simp) (by simp [TL.joinL])
    rw [← space_S] at this
    exact this) look_nil
  exact this
/-- the lines of a text whose k-th is the first that is no row -/
structure BadTx (ls : List (List Nat)) (k : Nat) : Prop where
  nl : ∀ p ∈ ls, 10 ∉ p ∧ p.length ≤ 1000
  n20 : ls.length ≤ 20
  ne : TL.joinL [10] ls ≠ []
  bad : ∃ (pre post : List (List Nat)) (s : List Nat) (rs : List (List D)), ls = pre ++ s :: post ∧ k = pre.length + 1 ∧ pre.length = rs.length ∧ (∀ (i : Nat) p ds, pre[i]? = some p → rs[i]? = some ds → RI (S p) (.tup ds)) ∧ RI (S s) .non
theorem sum1000 : ∀ {ps : List (List Nat)}, (∀ p ∈ ps, 10 ∉ p ∧ p.length ≤ 1000) → (ps.map (·.length)).sum ≤ 1000 * ps.length
  | [], _ => by simp
  | p :: ps, h => by
    have := sum1000 (ps := ps) fun d hd => h d (List.mem_cons_of_mem _ hd)
    have := (h p List.mem_cons_self).2
    simp only [List.map_cons, List.sum_cons, List.length_cons]
    omega
theorem BadTx.join {ls : List (List Nat)} {k : Nat} (h : BadTx ls k) : joinM (.str "\n") [.lst ((ls.map S).map D.str)] = some (.frz (.str (S (TL.joinL [10] ls)))) := by
  have := join_m (c := 10) (ys := ls) (by have := sum1000 h.nl; have := h.n20; omega)
  rw [← nl_S] at this
  exact this
theorem BadTx.refused {ls : List (List Nat)} {k : Nat} (h : BadTx ls k) : d__law_refused [some (.frz (.str (S (TL.joinL [10] ls)))), some (.frz (.str "BadRow")), some (.frz (.int (k : Int)))] = some (.val (.frz (.bl true)) [some (.frz (.str (S (TL.joinL [10] ls)))), some (.frz (.str "BadRow")), some (.frz (.int (k : Int)))]) := by
  have L : LinesOf (S (TL.joinL [10] ls)) (ls.map S) := lines_of (fun p hp => (h.nl p hp).1) (by
    have h1 := joinL_len (c := 10) (parts := ls)
    have h2 := sum1000 h.nl
    have := h.n20
    omega) fun _ => h.ne
  obtain ⟨pre, post, s, rs, e1, e2, e3, e4, e5⟩ := h.bad
  have n20 := h.n20
  subst e1 e2
  rw [List.map_append, List.map_cons] at L
  have r := read_bad L (by simp at n20 ⊢; omega) (rs := rs) (by rw [List.length_map]; exact e3) (fun i s ds h1 h2 => by
    rw [List.getElem?_map] at h1
    cases q : pre[i]? with
    | none => rw [q] at h1; cases h1
    | some p => rw [q] at h1; cases h1; exact e4 i p ds q h2) e5
  rw [List.length_map] at r
  exact refused_bad r
theorem all_line {rs : List (List D)} (h : AllOk rs) : ∀ p ∈ rs.map lineL, 10 ∉ p ∧ p.length ≤ 1000 := fun p hp => by
  refine ⟨h.nl p hp, ?_⟩
  obtain ⟨ds, hd, rfl⟩ := List.mem_map.mp hp
  obtain ⟨word, fs, items, g⟩ := row_g (h ds hd)
  have := g.l40; omega
theorem all_ri {rs : List (List D)} (h : AllOk rs) : ∀ (i : Nat) p ds, (rs.map lineL)[i]? = some p → rs[i]? = some ds → RI (S p) (.tup ds) := fun i p ds h1 h2 => by
  rw [List.getElem?_map, h2] at h1
  cases h1
  obtain ⟨word, fs, items, g⟩ := row_g (h ds (List.mem_of_getElem? h2))
  exact g.back
theorem tx_none : BadTx [[], []] 1 := ⟨fun p hp => by simp at hp; subst hp; simp, by simp, by simp [TL.joinL], [], [[]], [], [], rfl, rfl, rfl, fun i p ds h => by simp at h, ri_nil⟩
theorem tx_ins {rs : List (List D)} (h : AllOk rs) (hl : rs.length ≤ 13) (hn : rs ≠ []) {m : Nat} (hm : m ≤ rs.length) : BadTx ((rs.map lineL).take m ++ [[]] ++ (rs.map lineL).drop m) (m + 1) := by
  have al := all_line h
  refine ⟨fun p hp => ?_, by simp; omega, ?_, (rs.map lineL).take m, (rs.map lineL).drop m, [], rs.take m, by simp, by simp; omega, by simp, fun i p ds h1 h2 => ?_, ri_nil⟩
  · rcases List.mem_append.mp hp with hp | hp
    · rcases List.mem_append.mp hp with hp | hp
      · exact al p (List.mem_of_mem_take hp)
      · rw [List.mem_singleton.mp hp]; simp
    · exact al p (List.mem_of_mem_drop hp)
  · cases m with
    | zero =>
      cases rs with
      | nil => exact absurd rfl hn
      | cons a l => exact joinL_ne (c := 10) (p := []) (ps := lineL a :: l.map lineL) (Or.inr (by simp))
    | succ m =>
      cases rs with
      | nil => exact absurd rfl hn
      | cons a l => exact joinL_ne (c := 10) (p := lineL a) (ps := (l.map lineL).take m ++ [[]] ++ (l.map lineL).drop m) (Or.inr (by simp))
  · have h3 : (rs.map lineL)[i]? = some p := by
      rw [List.getElem?_take] at h1
      split at h1
      · exact h1
      · cases h1
    have h4 : rs[i]? = some ds := by
      rw [List.getElem?_take] at h2
      split at h2
      · exact h2
      · cases h2
    exact all_ri h i p ds h3 h4
theorem tx_set {rs : List (List D)} (h : AllOk rs) (hl : rs.length ≤ 13) {ls : List (List Nat)} (hls : ls.length = rs.length) {k : Nat} (hk : k < rs.length) (hp : ∀ i, i < k → ls[i]? = (rs.map lineL)[i]?) (ha : ∀ p ∈ ls, 10 ∉ p ∧ p.length ≤ 1000 ∧ p ≠ []) {s : List Nat} (hs : ls[k]? = some s) (hr : RI (S s) .non) : BadTx ls (k + 1) := by
  have hkl : k < ls.length := by omega
  have e : ls = ls.take k ++ s :: ls.drop (k + 1) := by
    have hs' : ls[k] = s := by rw [List.getElem?_eq_getElem hkl] at hs; simpa using hs
    rw [← hs']
    exact (List.take_append_drop k ls).symm.trans (by rw [List.drop_eq_getElem_cons hkl])
  refine ⟨fun p hp => ⟨(ha p hp).1, (ha p hp).2.1⟩, by omega, ?_, ls.take k, ls.drop (k + 1), s, rs.take k, e, by rw [List.length_take]; omega, by simp; omega, fun i p ds h1 h2 => ?_, hr⟩
  · cases ls with
    | nil => simp at hkl
    | cons a l => exact joinL_ne (Or.inl (ha a List.mem_cons_self).2.2)
  · rw [List.getElem?_take] at h1 h2
    split at h1
    · rename_i hi
      rw [if_pos hi] at h2
      rw [hp i hi] at h1
      exact all_ri h i p ds h1 h2
    · cases h1
theorem ins_eq {xs : List D} {d : D} {m : Nat} (hx : xs.length ≤ 1000) (hm : m ≤ 1000) : insertU xs [.int (m : Int), d] = some (xs.take m ++ [d] ++ xs.drop m) := by
  have sz := sizeN
  have h : xs.length < sizeLine ∧ 0 ≤ (m : Int) ∧ (m : Int) < 2 ^ 63 := ⟨by omega, by omega, by omega⟩
  unfold insertU
  dsimp only
  rw [if_pos h, Int.toNat_natCast]
theorem find_at {α : Type} {p : α → Bool} {x : α} {B : List α} (hx : p x = true) : ∀ {A : List α}, (∀ a ∈ A, p a = false) → (A ++ x :: B).findIdx? p = some A.length
  | [], _ => by simp [List.findIdx?_cons, hx]
  | a :: A, h => by
    have := find_at hx (B := B) (A := A) fun a ha => h a (List.mem_cons_of_mem _ ha)
    rw [List.cons_append, List.findIdx?_cons, h a List.mem_cons_self, this]
    rfl
theorem idx_eq {A B : List (List Nat)} (h : ∀ a ∈ A, a ≠ []) : indexM (.lst (((A ++ [[]] ++ B).map S).map D.str)) [.str ""] = some (.frz (.int (A.length : Int))) := by
  have e : strsOf (((A ++ [[]] ++ B).map S).map D.str) = some ((A ++ [[]] ++ B).map S) := by
    have := strs_map (h := S) (ds := A ++ [[]] ++ B)
    rw [List.map_map]; exact this
  have f : ((A ++ [[]] ++ B).map S).findIdx? (fun y : Str => decide (y = "")) = some A.length := by
    have := find_at (p := fun y : Str => decide (y = "")) (x := S []) (B := B.map S) (by decide +kernel) (A := A.map S) (fun a ha => by
      obtain ⟨w, hw, rfl⟩ := List.mem_map.mp ha
      exact decide_eq_false (S_ne (h w hw)))
    rw [List.length_map] at this
    rw [← this, List.map_append, List.map_append, List.append_assoc]
    rfl
  unfold indexM
  dsimp only
  rw [e]
  dsimp only
  rw [f]
end K50
set_option Elab.async false
set_option linter.all false
set_option maxRecDepth 100000
set_option maxHeartbeats 4000000
namespace K50
open PySem Zed
abbrev ltC : Exp := compI [7] (bName 7) (itE (fzE (var 1)) seqOf) yesT (callE d__law_line [] (aCons (var 7) aNil))
abbrev stR : Stm := (seqS (asgS 5 (callE d__law_take [] (aCons (var 0) (aCons (bltE lenN (aCons (var 1) aNil)) aNil))))
  (seqS (asgS 6 (callE d__law_take [] (aCons (var 0) (aCons (bltE lenN (aCons (var 1) aNil)) aNil))))
  (seqS (ifS (tst (Zed.bin eqD (var 4) (cst (.int 2)))) (seqS (dropS (mutE insertU (var 3) (dCons (Zed.bin addD (var 5) (callE d__law_take [] (aCons (var 0) (aCons (cst (.int 2)) aNil)))) (dCons (cst (.str "")) dNil))))
  (retS (lstE (dCons (var 3) (dCons (Zed.bin addD (metE "list" indexM (var 3) (aCons (cst (.str "")) aNil)) (cst (.int 1))) dNil))))) skip)
  (seqS (ifS (tst (Zed.bin eqD (var 4) (cst (.int 3)))) (retS (lstE (dCons (Zed.bin addD (var 3) (lstE (dCons (cst (.str "")) dNil))) (dCons (Zed.bin addD (bltE lenN (aCons (var 3) aNil)) (cst (.int 1))) dNil)))) skip)
  (seqS (subS (var 3) (var 5) (callE d__law_spoil [] (aCons (var 0) (aCons (Zed.bin ixD (var 1) (var 5)) aNil))))
  (seqS (ifS (orT (tst (Zed.bin eqD (var 4) (cst (.int 0)))) (tst (Zed.bin eqD (var 6) (var 5)))) (retS (lstE (dCons (var 3) (dCons (Zed.bin addD (var 5) (cst (.int 1))) dNil)))) skip)
  (seqS (subS (var 3) (var 6) (callE d__law_spoil [] (aCons (var 0) (aCons (Zed.bin ixD (var 1) (var 6)) aNil))))
  (retS (lstE (dCons (var 3) (dCons (Zed.bin addD (bltE minN (aCons (var 5) (aCons (var 6) aNil))) (cst (.int 1))) dNil)))))))))))
theorem spoilt_form : b__law_spoilt = seqS (asgS 3 ltC) (seqS (asgS 4 (Zed.bin modD (bltE intN (aCons (Zed.bin addD (callE d__law_take [] (aCons (var 0) (aCons (cst (.int 4)) aNil))) (var 2)) aNil)) (cst (.int 4))))
  (seqS (ifS (notT (tru (var 1))) (retS (lstE (dCons (lstE (dCons (cst (.str "")) (dCons (cst (.str "")) dNil))) (dCons (cst (.int 1)) dNil)))) skip) stR)) := rfl
def stE (o : O) (R : List D) (turn k : Int) (L : LV) (x y : Option LV) : Zed.Env := [some (.own o), some (.frz (.lst R)), some (.frz (.int turn)), some L, some (.frz (.int k)), x, y, none]
variable {o1 o2 o3 o4 o5 : O} {R L La : List D} {turn : Int} {n a b : Nat} {r1 r2 : D}
theorem st2 {t m : Nat} (hn : (R.length : Int) = (n : Int)) (t1 : d__law_take [some (.own o1), some (.frz (.int (n : Int)))] = some (.val (.frz (.int (a : Int))) [some (.own o2), some (.frz (.int (n : Int)))])) (t2 : d__law_take [some (.own o2), some (.frz (.int (n : Int)))] = some (.val (.frz (.int (b : Int))) [some (.own o3), some (.frz (.int (n : Int)))]))
    (t3 : d__law_take [some (.own o3), some (.frz (.int 2))] = some (.val (.frz (.int (t : Int))) [some (.own o4), some (.frz (.int 2))])) (hi : insertU L [.int ((a : Int) + t), .str ""] = some La) (hx : indexM (.lst La) [.str ""] = some (.frz (.int (m : Int)))) :
    stR (stE o1 R turn 2 (.own (.lst L)) none none) = some (.ret (.new (.lst [.lst La, .int ((m : Int) + 1)])) (stE o4 R turn 2 (.frz (.lst La)) (some (.frz (.int (a : Int)))) (some (.frz (.int (b : Int)))))) := by
  simp [stE, hn, t1, t2, t3, hi, hx]
theorem st3 (hn : (R.length : Int) = (n : Int)) (hl : L.length ≤ 1000) (t1 : d__law_take [some (.own o1), some (.frz (.int (n : Int)))] = some (.val (.frz (.int (a : Int))) [some (.own o2), some (.frz (.int (n : Int)))])) (t2 : d__law_take [some (.own o2), some (.frz (.int (n : Int)))] = some (.val (.frz (.int (b : Int))) [some (.own o3), some (.frz (.int (n : Int)))])) :
    stR (stE o1 R turn 3 (.own (.lst L)) none none) = some (.ret (.new (.lst [.lst (L ++ [.str ""]), .int ((L.length : Int) + 1)])) (stE o3 R turn 3 (.own (.lst L)) (some (.frz (.int (a : Int)))) (some (.frz (.int (b : Int)))))) := by
  simp [stE, hn, t1, t2, show L.length ≤ 16777215 by omega]
theorem st0 {k : Nat} {w : Str} (hk : k = 0 ∨ (k = 1 ∧ b = a)) (hn : (R.length : Int) = (n : Int)) (t1 : d__law_take [some (.own o1), some (.frz (.int (n : Int)))] = some (.val (.frz (.int (a : Int))) [some (.own o2), some (.frz (.int (n : Int)))])) (t2 : d__law_take [some (.own o2), some (.frz (.int (n : Int)))] = some (.val (.frz (.int (b : Int))) [some (.own o3), some (.frz (.int (n : Int)))]))
    (hr : L2.atI R (a : Int) = some r1) (hs : d__law_spoil [some (.own o3), some (.frz r1)] = some (.val (.frz (.str w)) [some (.own o4), some (.frz r1)])) (hx : L2.ixN L.length (a : Int) = some a) :
    stR (stE o1 R turn k (.own (.lst L)) none none) = some (.ret (.new (.lst [.lst (L.set a (.str w)), .int ((a : Int) + 1)])) (stE o4 R turn k (.frz (.lst (L.set a (.str w)))) (some (.frz (.int (a : Int)))) (some (.frz (.int (b : Int)))))) := by
  rcases hk with rfl | ⟨rfl, rfl⟩
  · simp [stE, hn, t1, t2, hr, hs, hx]
  · simp [stE, hn, t1, t2, hr, hs, hx]
theorem st1 {w v : Str} (hk : b ≠ a) (hn : (R.length : Int) = (n : Int)) (t1 : d__law_take [some (.own o1), some (.frz (.int (n : Int)))] = some (.val (.frz (.int (a : Int))) [some (.own o2), some (.frz (.int (n : Int)))])) (t2 : d__law_take [some (.own o2), some (.frz (.int (n : Int)))] = some (.val (.frz (.int (b : Int))) [some (.own o3), some (.frz (.int (n : Int)))]))
    (hr : L2.atI R (a : Int) = some r1) (hs : d__law_spoil [some (.own o3), some (.frz r1)] = some (.val (.frz (.str w)) [some (.own o4), some (.frz r1)])) (hx : L2.ixN L.length (a : Int) = some a)
    (hr2 : L2.atI R (b : Int) = some r2) (hs2 : d__law_spoil [some (.own o4), some (.frz r2)] = some (.val (.frz (.str v)) [some (.own o5), some (.frz r2)])) (hx2 : L2.ixN L.length (b : Int) = some b) :
    stR (stE o1 R turn 1 (.own (.lst L)) none none) = some (.ret (.new (.lst [.lst ((L.set a (.str w)).set b (.str v)), .int ((min a b : Nat) + 1)])) (stE o5 R turn 1 (.frz (.lst ((L.set a (.str w)).set b (.str v)))) (some (.frz (.int (a : Int)))) (some (.frz (.int (b : Int)))))) := by
  have hm : (if b < a then (b : Int) else a) = ((min a b : Nat) : Int) := by split <;> omega
  simp [stE, hn, t1, t2, hr, hs, hx, hr2, hs2, hx2, hk, hm, show ¬ (b : Int) = a by omega]
end K50
set_option Elab.async false
set_option linter.all false
set_option maxRecDepth 100000
set_option maxHeartbeats 4000000
namespace K50
open PySem Zed
theorem RowG.plainL {ds : List D} {word : Str} {fs items : List D} (g : RowG ds word fs items) : 10 ∉ lineL ds ∧ (lineL ds).length ≤ 1000 := ⟨g.nl, by have := g.l40; omega⟩
theorem spoilt_ok {b : Bag} (h : b.Ok) {rs : List (List D)} (hr : AllOk rs) (hl : rs.length ≤ 13) {turn : Nat} (ht : turn < 3) : ∃ (ls : List (List Nat)) (k : Nat) (b' : Bag), d__law_spoilt [some (.own b.o), some (.frz (.lst (rs.map D.tup))), some (.frz (.int (turn : Int)))] = some (.val (.new (.lst [.lst ((ls.map S).map D.str), .int (k : Int)])) [some (.own b'.o), some (.frz (.lst (rs.map D.tup))), some (.frz (.int (turn : Int)))]) ∧ b'.Ok ∧ BadTx ls k := by
  obtain ⟨q, b1, hq, ok1, t0⟩ := take_nat h (m := 4) (by omega) (by omega)
  have t0 : d__law_take [some (.own b.o), some (.frz (.int 4))] = some (.val (.frz (.int (q : Int))) [some (.own b1.o), some (.frz (.int 4))]) := t0
  have c := lines_comp (i := 1) (v := 7) hr (by omega) (env := [some (.own b.o), some (.frz (.lst (rs.map D.tup))), some (.frz (.int (turn : Int))), none, none, none, none, none]) (e := [some (.own b.o), some (.frz (.lst (rs.map D.tup))), some (.frz (.int (turn : Int))), none, none, none, none, none]) (by simp) (by simp) (fun lv hlv => by simp at hlv; subst hlv; rfl)
  obtain ⟨kd, hkd, ekd⟩ : ∃ kd : Nat, kd < 4 ∧ (q + turn) % 4 = kd := ⟨_, Nat.mod_lt _ (by omega), rfl⟩
  have ekd' : ((q : Int) + (turn : Int)) % 4 = (kd : Int) := by omega
  have e0 : ([some (.own b.o), some (.frz (.lst (rs.map D.tup))), some (.frz (.int (turn : Int)))] : Zed.Env) ++ List.replicate (8 - 3) none = [some (.own b.o), some (.frz (.lst (rs.map D.tup))), some (.frz (.int (turn : Int))), none, none, none, none, none] := rfl
  have hR : ((rs.map D.tup).length : Int) = (rs.length : Int) := by simp
  have hL : (((rs.map lineL).map S).map D.str).length = rs.length := by simp
  -- the first statements
  have pre : ∀ (P : Stm) (r : Option Fl), seqS (ifS (notT (tru (var 1))) (retS (lstE (dCons (lstE (dCons (cst (.str "")) (dCons (cst (.str "")) dNil))) (dCons (cst (.int 1)) dNil)))) skip) P (stE b1.o (rs.map D.tup) turn kd (.own (.lst (((rs.map lineL).map S).map D.str))) none none) = r →
      seqS (asgS 3 ltC) (seqS (asgS 4 (Zed.bin modD (bltE intN (aCons (Zed.bin addD (callE d__law_take [] (aCons (var 0) (aCons (cst (.int 4)) aNil))) (var 2)) aNil)) (cst (.int 4)))) (seqS (ifS (notT (tru (var 1))) (retS (lstE (dCons (lstE (dCons (cst (.str "")) (dCons (cst (.str "")) dNil))) (dCons (cst (.int 1)) dNil)))) skip) P)) [some (.own b.o), some (.frz (.lst (rs.map D.tup))), some (.frz (.int (turn : Int))), none, none, none, none, none] = r := fun P r hP => by
    generalize hL' : ((rs.map lineL).map S).map D.str = L at c hP
    generalize rs.map D.tup = R at c hP ⊢
    rw [seq_nx (e1 := [some (.own b.o), some (.frz (.lst R)), some (.frz (.int (turn : Int))), some (.own (.lst L)), none, none, none, none]) (by
      unfold ltC
      generalize compI [7] (bName 7) (itE (fzE (var 1)) seqOf) yesT (callE d__law_line [] (aCons (var 7) aNil)) = LC at c ⊢
      simp [c])]
    rw [seq_nx (e1 := stE b1.o R turn kd (.own (.lst L)) none none) (by simp [t0, stE, ekd'])]
    exact hP
  by_cases hn : rs = []
  · subst hn
    refine ⟨[[], []], 1, b1, ?_, ok1, tx_none⟩
    unfold d__law_spoilt
    refine run_by ⟨rfl, rfl⟩ ?_
    rw [spoilt_form, e0, pre stR (some (.ret (.new (.lst [.lst [.str "", .str ""], .int 1])) (stE b1.o [] turn kd (.own (.lst [])) none none))) (by
      generalize stR = SR
      simp [stE])]
    rfl
  · have hpos : 0 < rs.length := List.length_pos_iff.mpr hn
    have hem : (rs.map D.tup).isEmpty = false := by cases rs with
      | nil => exact absurd rfl hn
      | cons _ _ => rfl
    obtain ⟨x, b2, hx, ok2, t1⟩ := take_nat ok1 hpos (by omega)
    obtain ⟨y, b3, hy, ok3, t2⟩ := take_nat ok2 hpos (by omega)
    suffices hs : ∃ (ls : List (List Nat)) (k : Nat) (b' : Bag) (L : LV) (u v : Option LV), stR (stE b1.o (rs.map D.tup) turn kd (.own (.lst (((rs.map lineL).map S).map D.str))) none none) = some (.ret (.new (.lst [.lst ((ls.map S).map D.str), .int (k : Int)])) (stE b'.o (rs.map D.tup) turn kd L u v)) ∧ b'.Ok ∧ BadTx ls k by
      obtain ⟨ls, k, b', L, u, v, e, ok, tx⟩ := hs
      refine ⟨ls, k, b', ?_, ok, tx⟩
      unfold d__law_spoilt
      refine run_by ⟨rfl, rfl⟩ ?_
      rw [spoilt_form, e0, pre stR (some (.ret (.new (.lst [.lst ((ls.map S).map D.str), .int (k : Int)])) (stE b'.o (rs.map D.tup) turn kd L u v))) (by
        generalize stR = SR at e ⊢
        generalize ((rs.map lineL).map S).map D.str = LL at e ⊢
        generalize rs.map D.tup = R at e hem ⊢
        rw [seq_nx (e1 := stE b1.o R turn kd (.own (.lst LL)) none none) (by simp [stE, hem])]
        exact e)]
      rfl
    have rowAt : ∀ a : Nat, a < rs.length → ∃ ds word fs items, L2.atI (rs.map D.tup) (a : Int) = some (.tup ds) ∧ RowG ds word fs items := fun a ha => by
      obtain ⟨word, fs, items, g⟩ := row_g (hr rs[a] (List.getElem_mem ha))
      refine ⟨rs[a], word, fs, items, ?_, g⟩
      rw [at_nat', List.getElem?_map, List.getElem?_eq_getElem ha]; rfl
    have lnAll : ∀ p ∈ rs.map lineL, 10 ∉ p ∧ p.length ≤ 1000 ∧ p ≠ [] := fun p hp => by
      obtain ⟨ds, hd, rfl⟩ := List.mem_map.mp hp
      exact ⟨(all_line hr _ (List.mem_map_of_mem hd)).1, (all_line hr _ (List.mem_map_of_mem hd)).2, line_pos (hr ds hd)⟩
    have setS : ∀ (ls : List (List Nat)) (a : Nat) (w : List Nat), (((ls.map S).map D.str).set a (.str (S w))) = ((ls.set a w).map S).map D.str := fun ls a w => set_map
    have ix : ∀ a : Nat, a < rs.length → L2.ixN (((rs.map lineL).map S).map D.str).length (a : Int) = some a := fun a ha => ixN_nat' (by rw [hL]; exact ha)
    by_cases k2 : kd = 2
    · subst k2
      obtain ⟨t, b4, htt, ok4, t3⟩ := take_nat ok3 (m := 2) (by omega) (by omega)
      have hm : x + t ≤ rs.length := by omega
      have hi := ins_eq (xs := ((rs.map lineL).map S).map D.str) (d := .str "") (m := x + t) (by rw [hL]; omega) (by omega)
      have e2 : (((rs.map lineL).map S).map D.str).take (x + t) ++ [.str ""] ++ (((rs.map lineL).map S).map D.str).drop (x + t) = (((rs.map lineL).take (x + t) ++ [[]] ++ (rs.map lineL).drop (x + t)).map S).map D.str := by
        simp only [List.map_append, List.map_take, List.map_drop]; rfl
      rw [e2, show ((x + t : Nat) : Int) = (x : Int) + t by omega] at hi
      have hx2 := idx_eq (A := (rs.map lineL).take (x + t)) (B := (rs.map lineL).drop (x + t)) (fun a ha => (lnAll a (List.mem_of_mem_take ha)).2.2)
      rw [show ((rs.map lineL).take (x + t)).length = x + t by simp; omega] at hx2
      exact ⟨_, x + t + 1, b4, _, _, _, st2 hR t1 t2 t3 hi hx2, ok4, tx_ins hr hl hn hm⟩
    · by_cases k3 : kd = 3
      · subst k3
        have s := st3 (L := ((rs.map lineL).map S).map D.str) (turn := (turn : Int)) hR (by rw [hL]; omega) t1 t2
        have tx := tx_ins hr hl hn (m := rs.length) (Nat.le_refl _)
        rw [List.take_of_length_le (by simp), List.drop_of_length_le (by simp), List.append_nil] at tx
        have e2 : ((rs.map lineL).map S).map D.str ++ [.str ""] = ((rs.map lineL ++ [[]]).map S).map D.str := by
          simp only [List.map_append]; rfl
        rw [e2, hL] at s
        exact ⟨_, rs.length + 1, b3, _, _, _, s, ok3, tx⟩
      · obtain ⟨ds, word, fs, items, ra, g⟩ := rowAt x hx
        obtain ⟨w, b4, es, ok4, bad⟩ := spoil_ok ok3 g
        have hset : ∀ p ∈ (rs.map lineL).set x w, 10 ∉ p ∧ p.length ≤ 1000 ∧ p ≠ [] := fun p hp => by
          rcases mem_set' hp with hp | rfl
          · exact lnAll p hp
          · exact ⟨bad.nl, bad.len, bad.ne⟩
        by_cases k0 : kd = 0 ∨ (kd = 1 ∧ y = x)
        · have s := st0 (L := ((rs.map lineL).map S).map D.str) (turn := (turn : Int)) k0 hR t1 t2 ra es (ix x hx)
          rw [setS] at s
          refine ⟨_, x + 1, b4, _, _, _, s, ok4, tx_set hr hl (by simp) hx (fun i hi => ?_) hset (List.getElem?_set_self (by simpa using hx)) bad.ri⟩
          rw [List.getElem?_set_ne (by omega)]
        · have k1 : kd = 1 := by omega
          have hyx : y ≠ x := fun e => k0 (Or.inr ⟨k1, e⟩)
          subst k1
          obtain ⟨ds2, word2, fs2, items2, ra2, g2⟩ := rowAt y hy
          obtain ⟨v, b5, es2, ok5, bad2⟩ := spoil_ok ok4 g2
          have s := st1 (L := ((rs.map lineL).map S).map D.str) (turn := (turn : Int)) hyx hR t1 t2 ra es (ix x hx) ra2 es2 (ix y hy)
          rw [setS, setS] at s
          refine ⟨_, min x y + 1, b5, _, _, _, s, ok5, tx_set hr hl (by simp) (show min x y < rs.length by omega) (fun i hi => ?_) (fun p hp => ?_) (s := if x < y then w else v) ?_ ?_⟩
          · rw [List.getElem?_set_ne (by omega), List.getElem?_set_ne (by omega)]
          · rcases mem_set' hp with hp | rfl
            · exact hset p hp
            · exact ⟨bad2.nl, bad2.len, bad2.ne⟩
          · by_cases hxy : x < y
            · rw [if_pos hxy, show min x y = x by omega, List.getElem?_set_ne (by omega), List.getElem?_set_self (by simpa using hx)]
            · rw [if_neg hxy, show min x y = y by omega, List.getElem?_set_self (by simpa using hy)]
          · split
            · exact bad.ri
            · exact bad2.ri
end K50
set_option Elab.async false
set_option linter.all false
set_option maxRecDepth 100000
set_option maxHeartbeats 4000000
namespace K50
open PySem Zed
abbrev lgK (kk : List RV → Option (List D)) (m : Int) : Exp := compI [4] (bName 4) (itE (aCons (cst (.int m)) aNil) kk) yesT (cst (.str "stop"))
abbrev lgR : Stm := (seqS (ifS (tst (Zed.bin eqD (var 1) (cst (.int 61)))) (seqS (asgS 3 (cmE "Code" d_Code_read [] (aCons (metE "str" joinM (cst (.str "\n")) (aCons (var 2) aNil)) aNil)))
  (retS (andE (Zed.bin eqD (dunE o_lent lenOk lenN (dCons (var 3) dNil)) (cst (.int 40000))) (Zed.bin eqD (Zed.bin ixD (fldE "rows" cf_rows (var 3)) (cst (.int 39999))) (tupE (dCons (cst (.str "stop")) dNil)))))) skip)
  (seqS (dropS (mutE appendU (var 2) (dCons (cst (.str "end")) dNil)))
  (seqS (ifS (tst (Zed.bin eqD (var 1) (cst (.int 62)))) (subS (var 2) (cst (.int 0)) (cst (.str "push"))) skip)
  (retS (callE d__law_refused [] (aCons (metE "str" joinM (cst (.str "\n")) (aCons (var 2) aNil)) (aCons (cst (.str "TooLarge")) (aCons (cst (.int 0)) aNil))))))))
theorem large_form : b__law_large = seqS (asgS 1 (callE d__law_take [] (aCons (var 0) (aCons (cst (.int 64)) aNil))))
  (seqS (ifS (tst (Zed.bin (cmpD fun i j => decide (i < j)) (var 1) (cst (.int 61)))) (retS (cst (.bl true))) skip) (seqS (asgS 2 (lgK rng1 40000)) lgR)) := rfl
theorem lg_comp {kk : List RV → Option (List D)} {n : Nat} {o : O} {k : Int} (r : kk [.frz (.int (n : Int))] = some (rngD 0 n)) (hl : n ≤ 50000) : lgK kk (n : Int) [some (.own o), some (.frz (.int k)), none, none, none] = some (.val (.new (.lst (List.replicate n (.str "stop")))) [some (.own o), some (.frz (.int k)), none, none, none]) := by
  refine comp_all (ds := rngD 0 n) (e := [some (.own o), some (.frz (.int k)), none, none, none]) (by simp [r]) (by rw [rng_len]; omega) (by rw [rng_len]; simp) rfl fun i d x hd hx => ?_
  have hx' : x = .str "stop" := List.eq_of_mem_replicate (List.mem_of_getElem? hx)
  subst hx'
  exact ⟨[some (.own o), some (.frz (.int k)), none, none, some (.frz d)], [some (.own o), some (.frz (.int k)), none, none, some (.frz d)], rfl, by simp, rfl⟩
theorem rng_big {n : Nat} (hn : n ≤ 100000) : rng1 [.frz (.int (n : Int))] = some (rngD 0 n) := by
  have h : -(2 ^ 62) ≤ (n : Int) ∧ (n : Int) < 2 ^ 62 := ⟨by omega, by omega⟩
  simp only [rng1, h, and_self, if_true, Int.toNat_natCast]
theorem rep_ok (n : Nat) : AllOk (List.replicate n stopR) := fun ds hd => by rw [List.eq_of_mem_replicate hd]; exact stop_ok
theorem rep_map (n : Nat) : (((List.replicate n stopR).map lineL).map S).map D.str = List.replicate n (.str "stop") := by
  rw [List.map_replicate, List.map_replicate, List.map_replicate, stop_S]
theorem rep_join {n : Nat} (hn : n ≤ 50000) : joinM (.str "\n") [.lst (List.replicate n (.str "stop"))] = some (.frz (.str (S (textL (List.replicate n stopR))))) := by
  have j := join_m (c := 10) (ys := (List.replicate n stopR).map lineL) (by
    have a := sum40 (rep_ok n).rows
    rw [List.length_replicate] at a
    rw [List.length_map, List.length_replicate]
    omega)
  rw [← nl_S, rep_map] at j
  exact j
theorem eq_stop : eqD (.tup [.str "stop"]) (.tup [.str "stop"]) = some (.frz (.bl true)) := by
  have i : ItOk (.str "stop") := ((rep_ok 1).rows stopR (by simp)).1 _ (by simp)
  have h : shp 1 (.tup [.str "stop"]) := shp_tup fun d hd => by rw [List.mem_singleton.mp hd]; exact it_shp i 0
  have p := shp_pl h (by omega)
  have e : eqDD (.tup [.str "stop"]) (.tup [.str "stop"]) = some true := by
    have r : PyData.eqv (D.tup [.str "stop"]).py (D.tup [.str "stop"]).py = true := SeqAt.eqv_refl _ h.1
    show (if (D.tup [.str "stop"]).pl && (D.tup [.str "stop"]).pl then some (PyData.eqv (D.tup [.str "stop"]).py (D.tup [.str "stop"]).py) else none) = _
    rw [p, r]; rfl
  unfold eqD
  rw [e]; rfl
theorem large61 {n : Nat} (hn : n = 40000) {o : O} : ∃ x y z u, lgR [some (.own o), some (.frz (.int 61)), some (.own (.lst (List.replicate n (.str "stop")))), none, none] = some (.ret (.frz (.bl true)) [some (.own o), x, y, z, u]) := by
  have j := rep_join (n := n) (by omega)
  have r := (rep_ok n).read (by rw [List.length_replicate]; omega)
  have l := (dunO_len (List.replicate n stopR)).resolve_right (by rw [List.length_replicate]; omega)
  have f := fld_rows (List.replicate n stopR)
  rw [List.length_replicate, show (n : Int) = 40000 by omega] at l
  have a : L2.atI ((List.replicate n stopR).map D.tup) 39999 = some (.tup stopR) := by
    have h := at_nat' (ds := (List.replicate n stopR).map D.tup) 39999
    rw [show ((39999 : Nat) : Int) = 39999 from rfl] at h
    rw [h, List.map_replicate, List.getElem?_replicate, if_pos (by omega)]
  have z : (codeO (List.replicate n stopR)).fz = true := rfl
  have e := eq_stop
  have hd : (codeO (List.replicate n stopR)).d = (codeO (List.replicate n stopR)).d := rfl
  revert j r l f a z hd
  generalize (List.replicate n stopR).map D.tup = ml
  generalize S (textL (List.replicate n stopR)) = tx
  generalize codeO (List.replicate n stopR) = O1
  generalize (List.replicate n (.str "stop") : List D) = rl
  intro j r l f a z hd
  refine ⟨some (.frz (.int 61)), some (.own (.lst rl)), some (.frz O1.d), none, ?_⟩
  simp [j, r, l, f, a, z, e, -v_fldD]
theorem read_lots {ls : List (List Nat)} (h : ∀ p ∈ ls, 10 ∉ p ∧ p.length ≤ 100) (hl : 40000 < ls.length) (hl2 : ls.length ≤ 50000) (hne : TL.joinL [10] ls ≠ []) : d__law_refused [some (.frz (.str (S (TL.joinL [10] ls)))), some (.frz (.str "TooLarge")), some (.frz (.int 0))] = some (.val (.frz (.bl true)) [some (.frz (.str (S (TL.joinL [10] ls)))), some (.frz (.str "TooLarge")), some (.frz (.int 0))]) := by
  have s : (ls.map (·.length)).sum ≤ 100 * ls.length := by
    clear hl hl2 hne
    induction ls with
    | nil => simp
    | cons p ls ih =>
      have := ih fun d hd => h d (List.mem_cons_of_mem _ hd)
      have := (h p List.mem_cons_self).2
      simp only [List.map_cons, List.sum_cons, List.length_cons]
      omega
  have L : LinesOf (S (TL.joinL [10] ls)) (ls.map S) := lines_of (fun p hp => (h p hp).1) (by have := joinL_len (c := 10) (parts := ls); omega) fun _ => hne
  exact refused_large (read_many L (by rw [List.length_map]; exact hl))
theorem join_lots {ls : List (List Nat)} (h : ∀ p ∈ ls, 10 ∉ p ∧ p.length ≤ 100) (hl2 : ls.length ≤ 50000) : joinM (.str "\n") [.lst ((ls.map S).map D.str)] = some (.frz (.str (S (TL.joinL [10] ls)))) := by
  have s : (ls.map (·.length)).sum ≤ 100 * ls.length := by
    clear hl2
    induction ls with
    | nil => simp
    | cons p ls ih =>
      have := ih fun d hd => h d (List.mem_cons_of_mem _ hd)
      have := (h p List.mem_cons_self).2
      simp only [List.map_cons, List.sum_cons, List.length_cons]
      omega
  have := join_m (c := 10) (ys := ls) (by omega)
  rw [← nl_S] at this
  exact this
theorem large62 {n k : Nat} (hn : n = 40000) (hk : k ≠ 61) {o : O} : ∃ x y z u, lgR [some (.own o), some (.frz (.int (k : Int))), some (.own (.lst (List.replicate n (.str "stop")))), none, none] = some (.ret (.frz (.bl true)) [some (.own o), x, y, z, u]) := by
  obtain ⟨ls, e1, h1, h2, h3⟩ : ∃ ls : List (List Nat), (if k = 62 then (List.replicate n (D.str "stop") ++ [D.str "end"]).set 0 (D.str "push") else List.replicate n (D.str "stop") ++ [D.str "end"]) = (ls.map S).map D.str ∧ (∀ p ∈ ls, 10 ∉ p ∧ p.length ≤ 100) ∧ ls.length = n + 1 ∧ TL.joinL [10] ls ≠ [] := by
    have w : ∀ s ∈ (["stop", "end", "push"] : List Str), S s.cps.toList = s ∧ 10 ∉ s.cps.toList ∧ s.cps.toList.length ≤ 100 ∧ s.cps.toList ≠ [] := by
      intro s hs
      refine ⟨SX.S_tl s, ?_⟩
      revert s
      decide +kernel
    have w1 := w "stop" (by simp)
    have w2 := w "end" (by simp)
    have w3 := w "push" (by simp)
    have base : (List.replicate n (D.str "stop") ++ [D.str "end"]) = ((List.replicate n ("stop" : Str).cps.toList ++ [("end" : Str).cps.toList]).map S).map D.str := by
      rw [List.map_append, List.map_append, List.map_replicate, List.map_replicate, w1.1, List.map_cons, List.map_cons, w2.1]; rfl
    have al : ∀ p ∈ List.replicate n ("stop" : Str).cps.toList ++ [("end" : Str).cps.toList], 10 ∉ p ∧ p.length ≤ 100 ∧ p ≠ [] := fun p hp => by
      rcases List.mem_append.mp hp with hp | hp
      · rw [List.eq_of_mem_replicate hp]; exact w1.2
      · rw [List.mem_singleton.mp hp]; exact w2.2
    have jn : ∀ ls : List (List Nat), ls.length = n + 1 → (∀ p ∈ ls, 10 ∉ p ∧ p.length ≤ 100 ∧ p ≠ []) → TL.joinL [10] ls ≠ [] := fun ls hl h => by
      cases ls with
      | nil => simp at hl
      | cons a l => exact joinL_ne (Or.inl (h a List.mem_cons_self).2.2)
    by_cases q : k = 62
    · have al2 : ∀ p ∈ (List.replicate n ("stop" : Str).cps.toList ++ [("end" : Str).cps.toList]).set 0 ("push" : Str).cps.toList, 10 ∉ p ∧ p.length ≤ 100 ∧ p ≠ [] := fun p hp => by
        rcases mem_set' hp with hp | rfl
        · exact al p hp
        · exact w3.2
      have hl : ((List.replicate n ("stop" : Str).cps.toList ++ [("end" : Str).cps.toList]).set 0 ("push" : Str).cps.toList).length = n + 1 := by simp
      refine ⟨_, ?_, fun p hp => ⟨(al2 p hp).1, (al2 p hp).2.1⟩, hl, jn _ hl al2⟩
      rw [if_pos q, base, ← set_map, w3.1]
    · have hl : (List.replicate n ("stop" : Str).cps.toList ++ [("end" : Str).cps.toList]).length = n + 1 := by simp
      exact ⟨_, by rw [if_neg q, base], fun p hp => ⟨(al p hp).1, (al p hp).2.1⟩, hl, jn _ hl al⟩
  have r := read_lots h1 (by omega) (by omega) h3
  have j := join_lots h1 (by omega)
  have hrl : (List.replicate n (D.str "stop")).length = n := List.length_replicate
  generalize S (TL.joinL [10] ls) = tx at r j
  generalize (ls.map S).map D.str = L at e1 j
  clear h1 h2 h3
  generalize List.replicate n (D.str "stop") = rl at hrl e1 ⊢
  have hx : L2.ixN (rl ++ [D.str "end"]).length 0 = some 0 := ixN_nat' (k := 0) (by simp)
  have hx' : L2.ixN (rl.length + 1) 0 = some 0 := by simpa using hx
  refine ⟨some (.frz (.int (k : Int))), some (.own (.lst L)), none, none, ?_⟩
  have hk' : ¬ (k : Int) = 61 := by omega
  unfold lgR
  rw [seq_nx (e1 := [some (.own o), some (.frz (.int (k : Int))), some (.own (.lst rl)), none, none]) (by simp [hk'])]
  rw [seq_nx (e1 := [some (.own o), some (.frz (.int (k : Int))), some (.own (.lst (rl ++ [D.str "end"]))), none, none]) (by simp [hrl, hn])]
  rw [seq_nx (e1 := [some (.own o), some (.frz (.int (k : Int))), some (.own (.lst L)), none, none]) (by
    by_cases q : k = 62
    · rw [if_pos q] at e1
      subst q
      rw [← e1]
      simp [hx']
    · rw [if_neg q] at e1
      have q' : ¬ (k : Int) = 62 := by omega
      rw [← e1]
      simp [q'])]
  exact ret_eq (by simp [j, r])
theorem large_ok {b : Bag} (h : b.Ok) : ∃ b' : Bag, d__law_large [some (.own b.o)] = some (.val (.frz (.bl true)) [some (.own b'.o)]) := by
  obtain ⟨k, b1, hk, ok1, t0⟩ := take_nat h (m := 64) (by omega) (by omega)
  have t0 : d__law_take [some (.own b.o), some (.frz (.int 64))] = some (.val (.frz (.int (k : Int))) [some (.own b1.o), some (.frz (.int 64))]) := t0
  refine ⟨b1, ?_⟩
  obtain ⟨n, hn⟩ : ∃ n : Nat, n = 40000 := ⟨_, rfl⟩
  have c := lg_comp (kk := rng1) (n := n) (o := b1.o) (k := (k : Int)) (rng_big (by omega)) (by omega)
  rw [show (n : Int) = 40000 by omega] at c
  have e0 : ([some (.own b.o)] : Zed.Env) ++ List.replicate (5 - 1) none = [some (.own b.o), none, none, none, none] := rfl
  have g : ∃ x y z u, b__law_large [some (.own b.o), none, none, none, none] = some (.ret (.frz (.bl true)) [some (.own b1.o), x, y, z, u]) := by
    rw [large_form]
    rw [seq_nx (e1 := [some (.own b1.o), some (.frz (.int (k : Int))), none, none, none]) (by simp [t0])]
    by_cases q : k < 61
    · exact ⟨some (.frz (.int (k : Int))), none, none, none, seq_ret (by simp [show (k : Int) < 61 by omega])⟩
    · rw [seq_nx (e1 := [some (.own b1.o), some (.frz (.int (k : Int))), none, none, none]) (by simp [show ¬ (k : Int) < 61 by omega])]
      generalize lgK rng1 40000 = LC at c ⊢
      have hrl : ∃ rl, List.replicate n (D.str "stop") = rl := ⟨_, rfl⟩
      rw [seq_nx (e1 := [some (.own b1.o), some (.frz (.int (k : Int))), some (.own (.lst (List.replicate n (.str "stop")))), none, none]) (by
        generalize List.replicate n (D.str "stop") = rl at c ⊢
        simp [c])]
      by_cases q1 : k = 61
      · subst q1; exact large61 hn
      · exact large62 hn q1
  obtain ⟨x, y, z, u, g⟩ := g
  unfold d__law_large
  refine run_by ⟨rfl, rfl⟩ ?_
  rw [e0, g]
  rfl
end K50
set_option Elab.async false
set_option linter.all false
set_option maxRecDepth 100000
set_option maxHeartbeats 4000000
namespace K50
open PySem Zed
def bag0 (ns : List Int) : Bag := ⟨ns.map fun i => if i < 0 then -i else i, 0, 0, 0⟩
theorem bag0_ok (ns : List Int) : (bag0 ns).Ok := by
  refine ⟨fun c hc => ?_, Int.le_refl 0, by show (0 : Int) ≤ ((ns.map fun i => if i < 0 then -i else i).length : Int); omega, Int.le_refl 0, Int.le_refl 0⟩
  obtain ⟨i, _, rfl⟩ := List.mem_map.mp hc
  show 0 ≤ if i < 0 then -i else i
  split <;> omega
abbrev puC : Exp := compI [1] (bName 1) (itE (fzE (slE (var 0) pNone (pSome (cst (.int 63))))) seqOf) yesT (bltE absN (aCons (var 1) aNil))
theorem purse_eq {ns : List Int} (h : ns.length ≤ 63) : d__law_purse [some (.frz (.scr (ns.map D.int)))] = some (.val (.new (bag0 ns).o) [some (.frz (.scr (ns.map D.int)))]) := by
  have c : puC [some (.frz (.scr (ns.map D.int))), none] = some (.val (.new (.lst ((bag0 ns).cs.map D.int))) [some (.frz (.scr (ns.map D.int))), none]) := by
    have k := cutD_to (ns.map D.int) 63
    rw [show ((63 : Nat) : Int) = 63 from rfl, List.take_of_length_le (by simpa using h)] at k
    refine comp_all (ds := ns.map D.int) (e := [some (.frz (.scr (ns.map D.int))), none]) (by simp [k]) (by simp; omega) (by simp [bag0]) rfl fun i d r hd hr => ?_
    rw [List.getElem?_map] at hd hr
    unfold bag0 at hr
    dsimp only at hr
    rw [List.getElem?_map] at hr
    cases q : ns[i]? with
    | none => rw [q] at hd; cases hd
    | some n =>
      rw [q] at hd hr
      cases hd
      cases hr
      exact ⟨[some (.frz (.scr (ns.map D.int))), some (.frz (.int n))], [some (.frz (.scr (ns.map D.int))), some (.frz (.int n))], rfl, by simp, rfl⟩
  unfold d__law_purse
  refine run_by ⟨rfl, rfl⟩ ?_
  have e : b__law_purse = retS (lstE (dCons puC (dCons (cst (.int 0)) (dCons (cst (.int 0)) (dCons (cst (.int 0)) dNil))))) := rfl
  rw [e]
  have eo : (bag0 ns).o = .lst [.lst ((bag0 ns).cs.map D.int), .int 0, .int 0, .int 0] := rfl
  rw [eo]
  generalize (bag0 ns).cs.map D.int = l at c ⊢
  generalize ns.map D.int = m at c ⊢
  generalize puC = PC at c ⊢
  simp [c, flg]
theorem mul_five (k : Nat) : mulD (.int 5) (.int (k : Int)) = some (.frz (.int (5 * (k : Int)))) := by
  have : mulOk 5 (k : Int) = true := by
    unfold mulOk
    rw [Bool.or_eq_true, Bool.and_eq_true, decide_eq_true_eq, decide_eq_true_eq, Bool.and_eq_true, decide_eq_true_eq, decide_eq_true_eq]
    exact Or.inl ⟨by decide, by decide⟩
  generalize (k : Int) = i at *
  unfold mulD
  dsimp only
  rw [this]; rfl
abbrev rowB : Stm := dropS (mutE appendU (var 2) (dCons (callE d__law_row [] (aCons (var 1) (aCons (Zed.bin modD (bltE intN (aCons (Zed.bin addD (callE d__law_take [] (aCons (var 1) (aCons (cst (.int 19)) aNil))) (Zed.bin mulD (cst (.int 5)) (var 3))) aNil)) (cst (.int 19))) aNil))) dNil))
def laE (s : D) (b : Bag) (rs : List (List D)) (x : Option LV) : Zed.Env := [some (.frz s), some (.own b.o), some (.own (.lst (rs.map D.tup))), x, none, none, none, none]
theorem row_step {s : D} {b : Bag} (h : b.Ok) {rs : List (List D)} (hl : rs.length ≤ 1000) (k : Nat) : ∃ b' ds, rowB (laE s b rs (some (.frz (.int (k : Int))))) = some (.nx (laE s b' (rs ++ [ds]) (some (.frz (.int (k : Int)))))) ∧ b'.Ok ∧ RowOk ds := by
  obtain ⟨j, b1, hj, ok1, t⟩ := take_nat h (m := 19) (by omega) (by omega)
  have t : d__law_take [some (.own b.o), some (.frz (.int 19))] = some (.val (.frz (.int (j : Int))) [some (.own b1.o), some (.frz (.int 19))]) := t
  obtain ⟨q, hq, eq⟩ : ∃ q : Nat, q < 19 ∧ (j + 5 * k) % 19 = q := ⟨_, Nat.mod_lt _ (by omega), rfl⟩
  have eq' : ((j : Int) + 5 * (k : Int)) % 19 = (q : Int) := by omega
  obtain ⟨ds, b2, e, ok2, r⟩ := row_ok ok1 hq
  have m := mul_five k
  refine ⟨b2, ds, ?_, ok2, r⟩
  have hl' : (rs.map D.tup).length < 16777216 := by rw [List.length_map]; omega
  unfold laE
  rw [List.map_append, List.map_cons, List.map_nil]
  generalize rs.map D.tup = R at hl' ⊢
  generalize b.o = o0 at t ⊢
  generalize b1.o = o1 at t e
  generalize b2.o = o2 at e ⊢
  simp [t, m, eq', e, hl']
theorem rows_loop {s : D} {b : Bag} (h : b.Ok) {n : Nat} (hn : n ≤ 13) : ∃ b' rs x, iter (bName 3) rowB (rngD 0 n) (laE s b [] none) = some (.nx (laE s b' rs x)) ∧ b'.Ok ∧ AllOk rs ∧ rs.length = n := by
  obtain ⟨e, h1, b', rs, x, h2, h3, h4, h5⟩ := iter_all (b := bName 3) (body := rowB) (ds := rngD 0 n) (env := laE s b [] none)
    (fun i e => ∃ b' rs x, e = laE s b' rs x ∧ b'.Ok ∧ AllOk rs ∧ rs.length = i) ⟨b, [], none, rfl, h, fun ds hd => by simp at hd, rfl⟩ (by
      rintro i d env hd ⟨b1, rs, x, rfl, ok, al, hl⟩
      have hi : i < n := by have := (List.getElem?_eq_some_iff.mp hd).1; rw [rng_len] at this; exact this
      have hd' : d = .int (i : Int) := by
        unfold rngD at hd
        rw [List.getElem?_map, List.getElem?_range hi] at hd
        simp at hd; exact hd.symm
      subst hd'
      obtain ⟨b2, ds, q1, q2, q3⟩ := row_step (s := s) ok (rs := rs) (by omega) i
      refine ⟨laE s b1 rs (some (.frz (.int (i : Int)))), _, rfl, .inl q1, b2, rs ++ [ds], _, rfl, q2, fun d hd => ?_, by simp [hl]⟩
      rcases List.mem_append.mp hd with hd | hd
      · exact al d hd
      · rw [List.mem_singleton.mp hd]; exact q3)
  rw [rng_len] at h5
  exact ⟨b', rs, x, by rw [h1, h2], h3, h4, h5⟩
abbrev turnB : Stm := seqS (asgS 6 (callE d__law_spoilt [] (aCons (var 1) (aCons (var 2) (aCons (var 5) aNil)))))
  (seqS (ifS (notT (tru (callE d__law_refused [] (aCons (metE "str" joinM (cst (.str "\n")) (aCons (Zed.bin ixD (var 6) (cst (.int 0))) aNil)) (aCons (cst (.str "BadRow")) (aCons (Zed.bin ixD (var 6) (cst (.int 1))) aNil)))))) (retS (cst (.bl false))) skip)
  (ifS (tst (Zed.bin neD (fldE "text" cf_text (cmE "Code" d_Code_read [] (aCons (var 4) aNil))) (var 4))) (retS (cst (.bl false))) skip))
def tuE (s : D) (b : Bag) (rs : List (List D)) (x y z : Option LV) : Zed.Env := [some (.frz s), some (.own b.o), some (.frz (.lst (rs.map D.tup))), x, some (.frz (.str (S (textL rs)))), y, z, none]
theorem turn_step {s : D} {b : Bag} (h : b.Ok) {rs : List (List D)} (hr : AllOk rs) (hl : rs.length ≤ 13) {turn : Nat} (ht : turn < 3) (x z : Option LV) : ∃ b' z', turnB (tuE s b rs x (some (.frz (.int (turn : Int)))) z) = some (.nx (tuE s b' rs x (some (.frz (.int (turn : Int)))) z')) ∧ b'.Ok := by
  obtain ⟨ls, k, b1, e, ok1, tx⟩ := spoilt_ok h hr hl ht
  have j := tx.join
  have r := tx.refused
  have rd := hr.read (by omega)
  have f := fld_text rs
  have zf : (codeO rs).fz = true := rfl
  refine ⟨b1, some (.own (.lst [.lst ((ls.map S).map D.str), .int (k : Int)])), ?_, ok1⟩
  unfold tuE
  generalize S (TL.joinL [10] ls) = tx1 at j r
  generalize (ls.map S).map D.str = L at e j ⊢
  generalize S (textL rs) = tx0 at rd f ⊢
  generalize rs.map D.tup = R at e ⊢
  generalize codeO rs = O1 at rd f zf
  generalize b.o = o0 at e ⊢
  generalize b1.o = o1 at e ⊢
  simp [e, j, r, rd, f, zf, -v_fldD]
theorem turn_loop {s : D} {b : Bag} (h : b.Ok) {rs : List (List D)} (hr : AllOk rs) (hl : rs.length ≤ 13) (x : Option LV) : ∃ b' y z, iter (bName 5) turnB (rngD 0 3) (tuE s b rs x none none) = some (.nx (tuE s b' rs x y z)) ∧ b'.Ok := by
  obtain ⟨e, h1, b', y, z, h2, h3⟩ := iter_all (b := bName 5) (body := turnB) (ds := rngD 0 3) (env := tuE s b rs x none none)
    (fun i e => ∃ b' y z, e = tuE s b' rs x y z ∧ b'.Ok) ⟨b, none, none, rfl, h⟩ (by
      rintro i d env hd ⟨b1, y, z, rfl, ok⟩
      have hi : i < 3 := by have := (List.getElem?_eq_some_iff.mp hd).1; rw [rng_len] at this; exact this
      have hd' : d = .int (i : Int) := by
        unfold rngD at hd
        rw [List.getElem?_map, List.getElem?_range hi] at hd
        simp at hd; exact hd.symm
      subst hd'
      obtain ⟨b2, z', q1, q2⟩ := turn_step (s := s) ok hr hl hi x z
      exact ⟨tuE s b1 rs x (some (.frz (.int (i : Int)))) z, _, rfl, .inl q1, b2, _, _, rfl, q2⟩)
  exact ⟨b', y, z, by rw [h1, h2], h3⟩
abbrev txC : Exp := compI [7] (bName 7) (itE (fzE (var 2)) seqOf) yesT (callE d__law_line [] (aCons (var 7) aNil))
abbrev it1 (kk : List RV → Option (List D)) : Seq := itE (aCons (Zed.bin modD (bltE intN (aCons (Zed.bin addD (callE d__law_take [] (aCons (var 1) (aCons (cst (.int 14)) aNil))) (cst (.int 3))) aNil)) (cst (.int 14))) aNil) kk
abbrev it2 (kk : List RV → Option (List D)) : Seq := itE (aCons (cst (.int 3)) aNil) kk
theorem law_form : b_law = seqS (asgS 1 (callE d__law_purse [] (aCons (var 0) aNil))) (seqS (asgS 2 (lstE dNil)) (seqS (forI (bName 3) (it1 rng1) rowB)
  (seqS (asgS 4 (metE "str" joinM (cst (.str "\n")) (aCons txC aNil))) (seqS (ifS (notT (tru (callE d__law_right [] (aCons (var 4) (aCons (var 2) aNil))))) (retS (cst (.bl false))) skip)
  (seqS (forI (bName 5) (it2 rng1) turnB) (retS (callE d__law_large [] (aCons (var 1) aNil)))))))) := rfl
theorem it1_eq {kk : List RV → Option (List D)} (r : ∀ n : Nat, n ≤ 1000 → kk [.frz (.int (n : Int))] = some (rngD 0 n)) {s : D} {b : Bag} (h : b.Ok) : ∃ n b', n ≤ 13 ∧ b'.Ok ∧ it1 kk (laE s b [] none) = some (.val (rngD 0 n) (laE s b' [] none)) := by
  obtain ⟨j, b1, hj, ok1, t⟩ := take_nat h (m := 14) (by omega) (by omega)
  have t : d__law_take [some (.own b.o), some (.frz (.int 14))] = some (.val (.frz (.int (j : Int))) [some (.own b1.o), some (.frz (.int 14))]) := t
  obtain ⟨q, hq, eq⟩ : ∃ q : Nat, q < 14 ∧ (j + 3) % 14 = q := ⟨_, Nat.mod_lt _ (by omega), rfl⟩
  have eq' : ((j : Int) + 3) % 14 = (q : Int) := by omega
  have r := r q (by omega)
  refine ⟨q, b1, by omega, ok1, ?_⟩
  generalize rngD 0 q = l at r ⊢
  unfold laE
  simp [t, eq', r]
theorem it2_eq {kk : List RV → Option (List D)} (r : kk [.frz (.int 3)] = some (rngD 0 3)) (e : Zed.Env) : it2 kk e = some (.val (rngD 0 3) e) := by
  generalize rngD 0 3 = l at r ⊢
  simp [r]
theorem plain : Zed.Plain d_law := by
  intro ns hns
  have p := purse_eq hns
  generalize hs : D.scr (ns.map D.int) = s at p
  obtain ⟨n, b1, hn, ok1, i1⟩ := it1_eq (kk := rng1) (fun n hn => rng_nat hn) (s := s) (bag0_ok ns)
  obtain ⟨b2, rs, x, l1, ok2, al, hl⟩ := rows_loop (s := s) ok1 hn
  have c := lines_comp (i := 2) (v := 7) al (by omega) (env := laE s b2 rs x) (e := [some (.frz s), some (.own b2.o), some (.frz (.lst (rs.map D.tup))), x, none, none, none, none]) (by simp [laE]) (by simp) (fun lv hlv => by simp at hlv; subst hlv; rfl)
  have j := join_m (c := 10) (ys := rs.map lineL) (by rw [List.length_map]; have := sum40 al.rows; omega)
  rw [← nl_S] at j
  have j : joinM (.str "\n") [.lst (((rs.map lineL).map S).map D.str)] = some (.frz (.str (S (textL rs)))) := j
  have rg := right_eq al (by omega)
  obtain ⟨b3, y, z, l2, ok3⟩ := turn_loop (s := s) ok2 al (by omega) x
  have i2 := it2_eq (kk := rng1) (rng_nat (n := 3) (by omega)) (tuE s b2 rs x none none)
  obtain ⟨b4, lg⟩ := large_ok ok3
  refine ⟨[some (.frz s)], ?_⟩
  unfold d_law
  refine run_by ⟨rfl, rfl⟩ ?_
  rw [law_form]
  have e0 : ([some (.frz s)] : Zed.Env) ++ List.replicate (8 - 1) none = [some (.frz s), none, none, none, none, none, none, none] := rfl
  rw [e0]
  have f1 : forI (bName 3) (it1 rng1) rowB (laE s (bag0 ns) [] none) = some (.nx (laE s b2 rs x)) := (for_eq i1).trans l1
  have f2 : forI (bName 5) (it2 rng1) turnB (tuE s b2 rs x none none) = some (.nx (tuE s b3 rs x y z)) := (for_eq i2).trans l2
  rw [seq_nx (e1 := [some (.frz s), some (.own (bag0 ns).o), none, none, none, none, none, none]) (by
    generalize (bag0 ns).o = o0 at p ⊢
    simp [p])]
  rw [seq_nx (e1 := laE s (bag0 ns) [] none) (by simp [laE])]
  rw [seq_nx f1]
  have g1 : asgS 4 (metE "str" joinM (cst (.str "\n")) (aCons txC aNil)) (laE s b2 rs x) = some (.nx (tuE s b2 rs x none none)) := by
    unfold tuE
    unfold laE at c ⊢
    generalize ((rs.map lineL).map S).map D.str = L at c j
    generalize S (textL rs) = tx at j ⊢
    generalize rs.map D.tup = R at c ⊢
    generalize b2.o = o2 at c ⊢
    unfold txC
    generalize compI [7] (bName 7) (itE (fzE (var 2)) seqOf) yesT (callE d__law_line [] (aCons (var 7) aNil)) = TC at c ⊢
    simp [c, j]
  rw [seq_nx g1]
  have g2 : ifS (notT (tru (callE d__law_right [] (aCons (var 4) (aCons (var 2) aNil))))) (retS (cst (.bl false))) skip (tuE s b2 rs x none none) = some (.nx (tuE s b2 rs x none none)) := by
    unfold tuE
    generalize S (textL rs) = tx at rg ⊢
    generalize rs.map D.tup = R at rg ⊢
    generalize b2.o = o2
    simp [rg]
  rw [seq_nx g2, seq_nx f2]
  have g3 : retS (callE d__law_large [] (aCons (var 1) aNil)) (tuE s b3 rs x y z) = some (.ret (.frz (.bl true)) (tuE s b4 rs x y z)) := by
    unfold tuE
    generalize b3.o = o3 at lg ⊢
    generalize b4.o = o4 at lg ⊢
    generalize S (textL rs) = tx
    generalize rs.map D.tup = R
    simp [lg]
  rw [g3]
  rfl
end K50
open PySem PySem.W PyProof.Rows
set_option Elab.async false
set_option maxRecDepth 100000
set_option maxHeartbeats 0
theorem PySem.Challenge.cw_rightatlast_k50_code_texts_holds : PySem.Challenge.rw_rightatlast_k50_code_texts.Holds := by
  w_on; o_law; k_head; (case hw => w_witness2)
  k_fill
  refine Zed.walk (l := PySem.Challenge.rw_rightatlast_k50_code_texts) (f := K50.d_law) (k := 9) K50.plain ⟨rfl, by decide, by decide⟩ rfl rfl (fun w h Y => PySem.W.kIn_of Y) ?F
  case F =>
    intro w mg fa h KX G hmg
    refine K50.at_law hmg h ?T
    refine' K50.all_mk KX G ?h_consists_of ?h_is_name ?h_is_letter ?h_is_relation ?h_is_choice ?h_whole_number ?h_number_in ?h_item_in ?h_row_in ?h__law_purse ?h__law_take ?h__law_small ?h__law_name ?h__law_great ?h__law_choice ?h__law_edge ?h__law_row ?h__law_line ?h__law_bounds ?h__law_bad_number ?h__law_bad_word ?h__law_spoil ?h__law_plain ?h__law_try ?h__law_base ?h__law_refused ?h__law_right ?h__law_large ?h__law_spoilt ?h_law ?h_Code ?h_RowError ?h_TooLarge ?h_BadRow ?h_FORMS ?h_LOOKS ?h_Code_init ?h_Code_len ?h_Code_eq ?h_Code_str ?rd_Code ?at_read ?rc_read ?l_consists_of ?l_is_name ?l_is_letter ?l_is_relation ?l_is_choice ?l_whole_number ?l_number_in ?l_item_in ?l_row_in ?l_Code_init ?l_Code_read ?l_Code_len ?l_Code_eq ?l_Code_str ?l__law_purse ?l__law_take ?l__law_small ?l__law_name ?l__law_great ?l__law_choice ?l__law_edge ?l__law_row ?l__law_line ?l__law_bounds ?l__law_bad_number ?l__law_bad_word ?l__law_spoil ?l__law_plain ?l__law_try ?l__law_base ?l__law_refused ?l__law_right ?l__law_large ?l__law_spoilt ?l_law ?i_TL ?l_TL ?x_TL ?y_TL ?v_TL ?w_TL ?i_RE ?l_RE ?x_RE ?y_RE ?v_RE ?w_RE ?i_BR ?l_BR ?x_BR ?y_BR ?v_BR ?w_BR ?t_TL ?t_RE ?o_TL ?r_TL ?o_BR ?r_BR ?l_FORMS ?k_FORMS ?z_FORMS ?l_LOOKS ?k_LOOKS ?z_LOOKS ?su ?hB
    (case h_consists_of => k_is)
    (case h_is_name => k_is)
    (case h_is_letter => k_is)
    (case h_is_relation => k_is)
    (case h_is_choice => k_is)
    (case h_whole_number => k_is)
    (case h_number_in => k_is)
    (case h_item_in => k_is)
    (case h_row_in => k_is)
    (case h__law_purse => k_is)
    (case h__law_take => k_is)
    (case h__law_small => k_is)
    (case h__law_name => k_is)
    (case h__law_great => k_is)
    (case h__law_choice => k_is)
    (case h__law_edge => k_is)
    (case h__law_row => k_is)
    (case h__law_line => k_is)
    (case h__law_bounds => k_is)
    (case h__law_bad_number => k_is)
    (case h__law_bad_word => k_is)
    (case h__law_spoil => k_is)
    (case h__law_plain => k_is)
    (case h__law_try => k_is)
    (case h__law_base => k_is)
    (case h__law_refused => k_is)
    (case h__law_right => k_is)
    (case h__law_large => k_is)
    (case h__law_spoilt => k_is)
    (case h_law => k_is)
    (case h_Code => k_is)
    (case h_RowError => k_is)
    (case h_TooLarge => k_is)
    (case h_BadRow => k_is)
    (case h_FORMS => k_is)
    (case h_LOOKS => k_is)
    (case h_Code_init => k_is)
    (case h_Code_len => k_is)
    (case h_Code_eq => k_is)
    (case h_Code_str => k_is)
    (case rd_Code => k_is)
    (case at_read => k_is)
    (case rc_read => k_is)
    (case l_consists_of => k_is)
    (case l_is_name => k_is)
    (case l_is_letter => k_is)
    (case l_is_relation => k_is)
    (case l_is_choice => k_is)
    (case l_whole_number => k_is)
    (case l_number_in => k_is)
    (case l_item_in => k_is)
    (case l_row_in => k_is)
    (case l_Code_init => k_is)
    (case l_Code_read => k_is)
    (case l_Code_len => k_is)
    (case l_Code_eq => k_is)
    (case l_Code_str => k_is)
    (case l__law_purse => k_is)
    (case l__law_take => k_is)
    (case l__law_small => k_is)
    (case l__law_name => k_is)
    (case l__law_great => k_is)
    (case l__law_choice => k_is)
    (case l__law_edge => k_is)
    (case l__law_row => k_is)
    (case l__law_line => k_is)
    (case l__law_bounds => k_is)
    (case l__law_bad_number => k_is)
    (case l__law_bad_word => k_is)
    (case l__law_spoil => k_is)
    (case l__law_plain => k_is)
    (case l__law_try => k_is)
    (case l__law_base => k_is)
    (case l__law_refused => k_is)
    (case l__law_right => k_is)
    (case l__law_large => k_is)
    (case l__law_spoilt => k_is)
    (case l_law => k_is)
    (case i_TL => k_is)
    (case l_TL => k_is)
    (case x_TL => k_is)
    (case y_TL => k_is)
    (case v_TL => exact rfl)
    (case w_TL => kernel_rfl)
    (case i_RE => k_is)
    (case l_RE => k_is)
    (case x_RE => k_is)
    (case y_RE => k_is)
    (case v_RE => exact rfl)
    (case w_RE => kernel_rfl)
    (case i_BR => k_is)
    (case l_BR => k_is)
    (case x_BR => k_is)
    (case y_BR => k_is)
    (case v_BR => exact rfl)
    (case w_BR => kernel_rfl)
    (case t_TL => k_is)
    (case t_RE => k_is)
    (case o_TL => k_is)
    (case r_TL => kernel_rfl)
    (case o_BR => k_is)
    (case r_BR => kernel_rfl)
    (case l_FORMS => k_is)
    (case k_FORMS => (repeat' first | exact trivial | refine ⟨⟨_, _, rfl, rfl⟩, ?_⟩))
    (case z_FORMS => kernel_rfl)
    (case l_LOOKS => k_is)
    (case k_LOOKS => (repeat' first | exact trivial | refine ⟨⟨_, _, rfl, rfl⟩, ?_⟩))
    (case z_LOOKS => kernel_rfl)
    (case su => kernel_rfl)
    (case hB => kernel_rfl)
