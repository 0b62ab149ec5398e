import PyProof.Rows.All
import Wide.All
import OpenK.AllK
import Wide.FinOn
import HandS.ForMost
import HandS.ForExc
import HandS.Wide
import HandS.TupAny
import HandS.TupMul
import HandS.TupLe
import HandS.IsInst
import HandS.Flow
import HandS.Conv
import HandS.CallSlots
import HandS.Deep
import KE.DataEq
import HandS.Replace
import HandS.ReplaceList
import HandS.Style
import HandS.ReplaceLit
import HandS.ReplaceDef
import KE.KOpsOwn
import HandS.Flt
import HandS.Set
import KE.SortData
import HandS.SetBool
import HandS.Defaults
import HandS.Codes
import KE.RegKIsAll
import PySem.Challenge.RW_silentslips_k11_made_of_and_symbols
set_option Elab.async false
set_option linter.all false
set_option maxRecDepth 100000
/-! FD: Python's data as plain Lean data, the locals as slots; denotations and their walks. -/
namespace FD
open PySem L2

/-! ### data -/
inductive D where
  | non | bl (b : Bool) | int (i : Int) | str (x : Str)
  | tup (xs : List D) | lst (xs : List D)
  | obj (c : Nat) (fs : List (Str × D))
  | scr (ns : List Int)
  | opq (v : V)
  | cls (c : Nat)

mutual
inductive R (K : PySem.W.Frag) (ct : List Addr) (G : Hp) : V → D → Prop
  | non : R K ct G .non .non
  | bl (b : Bool) : R K ct G (.bl b) (.bl b)
  | int (i : Int) : R K ct G (.int i) (.int i)
  | str (x : Str) : R K ct G (.str x) (.str x)
  | tup {a : Addr} {xs : List V} {ds : List D} : SqT K G a xs → Rs K ct G xs ds → R K ct G (.ref a) (.tup ds)
  | lst {a : Addr} {xs : List V} {ds : List D} : G a = some (.lst xs) → Rs K ct G xs ds → R K ct G (.ref a) (.lst ds)
  | obj {a C dx : Addr} {fs : List (Str × V)} {c : Nat} {ds : List (Str × D)} : ct[c]? = some C → G a = some (.ins C dx fs) → Rf K ct G fs ds → R K ct G (.ref a) (.obj c ds)
  | scr {a : Addr} {ns : List Int} : SqL K G a (ns.map V.int) → R K ct G (.ref a) (.scr ns)
  | opq (v : V) : R K ct G v (.opq v)
  | cls {C : Addr} {c : Nat} : ct[c]? = some C → R K ct G (.ref C) (.cls c)
inductive Rs (K : PySem.W.Frag) (ct : List Addr) (G : Hp) : List V → List D → Prop
  | nil : Rs K ct G [] []
  | cons {v : V} {d : D} {vs : List V} {ds : List D} : R K ct G v d → Rs K ct G vs ds → Rs K ct G (v :: vs) (d :: ds)
inductive Rf (K : PySem.W.Frag) (ct : List Addr) (G : Hp) : List (Str × V) → List (Str × D) → Prop
  | nil : Rf K ct G [] []
  | cons {f : Str} {v : V} {d : D} {vs : List (Str × V)} {ds : List (Str × D)} : R K ct G v d → Rf K ct G vs ds → Rf K ct G ((f, v) :: vs) ((f, d) :: ds)
end

theorem Same.seqT {K : PySem.W.Frag} {H H' : Hp} {a : Addr} {xs : List V} (e : Same H H') (h : SqT K H a xs) : SqT K H' a xs := by
  rcases h with (h | ⟨o, h⟩) | h
  · exact .inl (.inl (e _ _ h))
  · exact .inl (.inr ⟨o, e _ _ h⟩)
  · exact .inr h

section
variable {K : PySem.W.Frag} {ct : List Addr} {G G' : Hp}
mutual
theorem R.mono (s : Same G G') : ∀ {v : V} {d : D}, R K ct G v d → R K ct G' v d
  | _, _, .non => .non
  | _, _, .bl b => .bl b
  | _, _, .int i => .int i
  | _, _, .str x => .str x
  | _, _, .tup h r => .tup (Same.seqT s h) (Rs.mono s r)
  | _, _, .lst h r => .lst (s _ _ h) (Rs.mono s r)
  | _, _, .scr h => .scr (L2.Same.seq s h)
  | _, _, .obj hc h r => .obj hc (s _ _ h) (Rf.mono s r)
  | _, _, .opq v => .opq v
  | _, _, .cls h => .cls h
theorem Rs.mono (s : Same G G') : ∀ {vs : List V} {ds : List D}, Rs K ct G vs ds → Rs K ct G' vs ds
  | _, _, .nil => .nil
  | _, _, .cons r t => .cons (R.mono s r) (Rs.mono s t)
theorem Rf.mono (s : Same G G') : ∀ {vs : List (Str × V)} {ds : List (Str × D)}, Rf K ct G vs ds → Rf K ct G' vs ds
  | _, _, .nil => .nil
  | _, _, .cons r t => .cons (R.mono s r) (Rf.mono s t)
end

theorem Rs.length : ∀ {vs : List V} {ds : List D}, Rs K ct G vs ds → vs.length = ds.length
  | _, _, .nil => rfl
  | _, _, .cons _ t => congrArg (· + 1) (Rs.length t)
theorem Rs.get : ∀ {vs : List V} {ds : List D} {i : Nat} {d : D}, Rs K ct G vs ds → ds[i]? = some d → ∃ v, vs[i]? = some v ∧ R K ct G v d
  | _, _, _, _, .nil, e => by simp at e
  | _, _, 0, _, .cons r _, e => by simp at e; subst e; exact ⟨_, rfl, r⟩
  | _, _, i + 1, _, .cons _ t, e => by
    obtain ⟨u, h1, h2⟩ := Rs.get (i := i) t (by simpa using e)
    exact ⟨u, by simpa using h1, h2⟩
theorem Rs.get' {vs : List V} {ds : List D} {i : Nat} {v : V} (r : Rs K ct G vs ds) (e : vs[i]? = some v) : ∃ d, ds[i]? = some d ∧ R K ct G v d := by
  have h1 : i < vs.length := (List.getElem?_eq_some_iff.mp e).1
  have h2 : i < ds.length := by rw [← r.length]; exact h1
  obtain ⟨u, e2, q⟩ := r.get (List.getElem?_eq_getElem h2)
  rw [e] at e2; cases e2
  exact ⟨_, List.getElem?_eq_getElem h2, q⟩
theorem Rs.append : ∀ {vs us : List V} {ds es : List D}, Rs K ct G vs ds → Rs K ct G us es → Rs K ct G (vs ++ us) (ds ++ es)
  | _, _, _, _, .nil, s => s
  | _, _, _, _, .cons r t, s => .cons r (Rs.append t s)
theorem Rs.take : ∀ {vs : List V} {ds : List D} (n : Nat), Rs K ct G vs ds → Rs K ct G (vs.take n) (ds.take n)
  | _, _, 0, _ => .nil
  | _, _, _ + 1, .nil => .nil
  | _, _, n + 1, .cons r t => .cons r (Rs.take n t)
theorem Rs.drop : ∀ {vs : List V} {ds : List D} (n : Nat), Rs K ct G vs ds → Rs K ct G (vs.drop n) (ds.drop n)
  | _, _, 0, r => r
  | _, _, _ + 1, .nil => .nil
  | _, _, n + 1, .cons _ t => Rs.drop n t
theorem Rs.set : ∀ {vs : List V} {ds : List D} (i : Nat) {v : V} {d : D}, Rs K ct G vs ds → R K ct G v d → Rs K ct G (vs.set i v) (ds.set i d)
  | _, _, _, _, _, .nil, _ => .nil
  | _, _, 0, _, _, .cons _ t, r => .cons r t
  | _, _, i + 1, _, _, .cons q t, r => .cons q (Rs.set i t r)
theorem Rf.lookup : ∀ {vs : List (Str × V)} {ds : List (Str × D)} {f : Str} {d : D}, Rf K ct G vs ds → ds.lookup f = some d → ∃ v, vs.lookup f = some v ∧ R K ct G v d
  | _, _, f, d, .nil, e => by simp at e
  | _, _, f, d, .cons (f := g) r t, e => by
    rw [List.lookup_cons] at e
    rw [List.lookup_cons]
    cases h : (f == g) with
    | true => rw [h] at e; cases e; exact ⟨_, rfl, r⟩
    | false => rw [h] at e; exact Rf.lookup t e
theorem Rf.lookup_none : ∀ {vs : List (Str × V)} {ds : List (Str × D)} {f : Str}, Rf K ct G vs ds → ds.lookup f = none → vs.lookup f = none
  | _, _, f, .nil, e => rfl
  | _, _, f, .cons (f := g) r t, e => by
    rw [List.lookup_cons] at e ⊢
    cases h : (f == g) with
    | true => rw [h] at e; cases e
    | false => rw [h] at e; exact Rf.lookup_none t e
theorem Rf.length : ∀ {vs : List (Str × V)} {ds : List (Str × D)}, Rf K ct G vs ds → vs.length = ds.length
  | _, _, .nil => rfl
  | _, _, .cons _ t => congrArg (· + 1) (Rf.length t)
end

/-! ### slots -/
/-- un: not assigned or given up; sh: data that nothing changes; ow: a list or an object that this def has made and may change; pn: one that the caller has lent -/
inductive Sl where
  | un | sh (d : D) | ow (d : D) | pn (d : D)
/-- what stands at an owned address -/
def HoR (K : PySem.W.Frag) (ct : List Addr) (G H : Hp) (p : Addr) : D → Prop
  | .lst ds => ∃ vs, H p = some (.lst vs) ∧ Rs K ct G vs ds
  | .obj c ds => ∃ C dx fs, ct[c]? = some C ∧ H p = some (.ins C dx fs) ∧ Rf K ct G fs ds
  | _ => False
section
variable {K : PySem.W.Frag} {ct : List Addr} {G G' H H' : Hp} {p : Addr} {d : D}
theorem HoR.mono (h : HoR K ct G H p d) (s : Same G G') (e : H' p = H p) : HoR K ct G' H' p d := by
  cases d with
  | lst ds => obtain ⟨vs, h1, h2⟩ := h; exact ⟨vs, e.trans h1, h2.mono s⟩
  | obj c ds => obtain ⟨C, dx, fs, h0, h1, h2⟩ := h; exact ⟨C, dx, fs, h0, e.trans h1, h2.mono s⟩
  | _ => exact h.elim
theorem HoR.there (h : HoR K ct G H p d) : ∃ o, H p = some o := by
  cases d with
  | lst ds => obtain ⟨vs, h1, h2⟩ := h; exact ⟨_, h1⟩
  | obj c ds => obtain ⟨C, dx, fs, h0, h1, h2⟩ := h; exact ⟨_, h1⟩
  | _ => exact h.elim
/-- given up: it stands in the view from now on -/
theorem HoR.frz (h : HoR K ct G H p d) (n : G p = none) : ∃ o, H p = some o ∧ Same G (upd G p o) ∧ R K ct (upd G p o) (.ref p) d := by
  cases d with
  | lst ds =>
    obtain ⟨vs, h1, h2⟩ := h
    have s : Same G (upd G p (.lst vs)) := fun b x e => by rw [upd_ne (ne_of_none e n)]; exact e
    exact ⟨_, h1, s, .lst upd_same (h2.mono s)⟩
  | obj c ds =>
    obtain ⟨C, dx, fs, h0, h1, h2⟩ := h
    have s : Same G (upd G p (.ins C dx fs)) := fun b x e => by rw [upd_ne (ne_of_none e n)]; exact e
    exact ⟨_, h1, s, .obj h0 upd_same (h2.mono s)⟩
  | _ => exact h.elim
end

/-- the frame's entry: the heap, the view, the lent things -/
structure Fm where
  H : Hp
  G : Hp
  pins : List (Nat × Addr)

def isOwn : Option Sl → Option D
  | some (.ow d) => some d
  | some (.pn d) => some d
  | _ => none

structure EnvS (K : PySem.W.Frag) (ct : List Addr) (Φ : Fm) (G H : Hp) (σ : St) (ρ : List Sl) : Prop where
  len : ρ.length = σ.length
  gh : Same G H
  g0 : Same Φ.G G
  fr : ∀ b o, Φ.H b = some o → (∀ i, (i, b) ∉ Φ.pins) → H b = some o
  dom : ∀ b o, Φ.H b = some o → ∃ o', H b = some o'
  gn : ∀ b o, Φ.H b = some o → Φ.G b = none → G b = none
  pin : ∀ (i : Nat) (p : Addr), (i, p) ∈ Φ.pins → σ[i]? = some (some (.ref p)) ∧ ∃ d, ρ[i]? = some (.pn d)
  sh : ∀ (i : Nat) (d : D), ρ[i]? = some (.sh d) → ∃ v, σ[i]? = some (some v) ∧ R K ct G v d
  own : ∀ (i : Nat) (d : D), isOwn ρ[i]? = some d → ∃ p, σ[i]? = some (some (.ref p)) ∧ G p = none ∧ HoR K ct G H p d ∧ (ρ[i]? = some (.pn d) → (i, p) ∈ Φ.pins) ∧ (ρ[i]? = some (.ow d) → Φ.H p = none)
  ne : ∀ (i j : Nat) (di dj : D) (p : Addr), i ≠ j → isOwn ρ[i]? = some di → isOwn ρ[j]? = some dj → σ[i]? = some (some (.ref p)) → σ[j]? ≠ some (some (.ref p))

/-- an error: its class, its fields -/
structure Exn where
  c : Nat
  fs : List (Str × D)
def ExR (K : PySem.W.Frag) (ct : List Addr) (G : Hp) (cls : Value) (dx : Option Addr) (x : Exn) : Prop :=
  ∃ C, ct[x.c]? = some C ∧ cls = .ref C ∧ ((x.fs = [] ∧ dx = none) ∨ ∃ d fvs, dx = some d ∧ G d = some (.xd fvs) ∧ Rf K ct G fvs x.fs)

inductive Out (α : Type) where
  | ok (a : α) (ρ : List Sl)
  | ex (x : Exn) (ρ : List Sl)
abbrev DM (α : Type) := List Sl → Option (Out α)
def ret {α : Type} (a : α) : DM α := fun ρ => some (.ok a ρ)
def bnd {α β : Type} (t : DM α) (f : α → DM β) : DM β := fun ρ => match t ρ with
  | some (.ok a ρ') => f a ρ'
  | some (.ex x ρ') => some (.ex x ρ')
  | none => none
def lft {α : Type} (o : Option α) : DM α := fun ρ => match o with
  | some a => some (.ok a ρ)
  | none => none

section
variable (K : PySem.W.Frag) (ct : List Addr)
/-- what is wanted behind an outcome -/
def Post (Φ : Fm) (W : WX) (σ : St) (G : Hp) {α : Type} (o : Option (Out α)) (k : α → List Sl → Hp → Hp → Prop) : Prop :=
  match o with
  | none => False
  | some (.ok a ρ') => ∀ G' H', Same G G' → EnvS K ct Φ G' H' σ ρ' → k a ρ' G' H'
  | some (.ex x ρ') => ∀ G' H' cls dx, Same G G' → EnvS K ct Φ G' H' σ ρ' → ExR K ct G' cls dx x → W cls dx σ H'
end
section
variable {K : PySem.W.Frag} {ct : List Addr} {Φ : Fm} {W : WX} {σ : St} {G G' : Hp} {α β : Type}
theorem Post.mono {o : Option (Out α)} {k : α → List Sl → Hp → Hp → Prop} (h : Post K ct Φ W σ G o k) (s : Same G G') : Post K ct Φ W σ G' o k := by
  cases o with
  | none => exact h
  | some o =>
    cases o with
    | ok a ρ' => exact fun G2 H2 s2 E => h G2 H2 (s.trans s2) E
    | ex x ρ' => exact fun G2 H2 c dx s2 E => h G2 H2 c dx (s.trans s2) E
theorem Post.bnd {t : DM α} {f : α → DM β} {ρ : List Sl} {k : β → List Sl → Hp → Hp → Prop} (h : Post K ct Φ W σ G (bnd t f ρ) k) :
    Post K ct Φ W σ G (t ρ) (fun a ρ' G' H' => EnvS K ct Φ G' H' σ ρ' ∧ Post K ct Φ W σ G' (f a ρ') k) := by
  unfold FD.bnd at h
  cases e : t ρ with
  | none => rw [e] at h; exact h
  | some o =>
    rw [e] at h
    cases o with
    | ok a ρ' => exact fun G2 H2 s2 E => ⟨E, Post.mono h s2⟩
    | ex x ρ' => exact h
theorem Post.imp {o : Option (Out α)} {k k' : α → List Sl → Hp → Hp → Prop} (h : Post K ct Φ W σ G o k) (hk : ∀ a ρ' G' H', Same G G' → EnvS K ct Φ G' H' σ ρ' → k a ρ' G' H' → k' a ρ' G' H') : Post K ct Φ W σ G o k' := by
  cases o with
  | none => exact h
  | some o =>
    cases o with
    | ok a ρ' => exact fun G2 H2 s2 E => hk _ _ _ _ s2 E (h G2 H2 s2 E)
    | ex x ρ' => exact h
end

/-! ### readings -/
/-- fresh or shared -/
def RF (K : PySem.W.Frag) (ct : List Addr) (Φ : Fm) (G H : Hp) (σ : St) (ρ : List Sl) (v : V) : Sl → Prop
  | .sh d => R K ct G v d
  | .ow d => ∃ p, v = .ref p ∧ G p = none ∧ HoR K ct G H p d ∧ Φ.H p = none ∧ ∀ (i : Nat) (d' : D), isOwn ρ[i]? = some d' → σ[i]? ≠ some (some (.ref p))
  | _ => False
def tF (K : PySem.W.Frag) (ct : List Addr) (W : WX) (t : DM Sl) : TE := fun σ H Q => ∃ Φ G ρ, EnvS K ct Φ G H σ ρ ∧ Post K ct Φ W σ G (t ρ) (fun sl ρ' G' H' => ∀ v, RF K ct Φ G' H' σ ρ' v sl → Q v H')
def tD (K : PySem.W.Frag) (ct : List Addr) (W : WX) (t : DM D) : TE := fun σ H Q => ∃ Φ G ρ, EnvS K ct Φ G H σ ρ ∧ Post K ct Φ W σ G (t ρ) (fun d _ G' H' => ∀ v, R K ct G' v d → Q v H')
def tTD (K : PySem.W.Frag) (ct : List Addr) (W : WX) (t : DM Bool) : TT := fun σ H Q => ∃ Φ G ρ, EnvS K ct Φ G H σ ρ ∧ Post K ct Φ W σ G (t ρ) (fun b _ _ H' => Q b H')
/-- an argument: data, or a thing lent -/
inductive Ar where
  | val (d : D) | lend (i : Nat)
def ArR (K : PySem.W.Frag) (ct : List Addr) (G : Hp) (σ : St) (v : V) : Ar → Prop
  | .val d => R K ct G v d
  | .lend i => σ[i]? = some (some v)
inductive ArRs (K : PySem.W.Frag) (ct : List Addr) (G : Hp) (σ : St) : List V → List Ar → Prop
  | nil : ArRs K ct G σ [] []
  | cons {v vs a as} : ArR K ct G σ v a → ArRs K ct G σ vs as → ArRs K ct G σ (v :: vs) (a :: as)
theorem ArR.mono {K : PySem.W.Frag} {ct : List Addr} {G G' : Hp} {σ : St} {v : V} {a : Ar} (h : ArR K ct G σ v a) (s : Same G G') : ArR K ct G' σ v a := by
  cases a with
  | val d => exact R.mono s h
  | lend i => exact h
def tAs (K : PySem.W.Frag) (ct : List Addr) (W : WX) (t : DM (List Ar)) : TA := fun σ H Q => ∃ Φ G ρ, EnvS K ct Φ G H σ ρ ∧ Post K ct Φ W σ G (t ρ) (fun as _ G' H' => ∀ vs, ArRs K ct G' σ vs as → Q vs H')

/-! ### judgements -/
section
variable (X : Cx) (ct : List Addr) (W : WX)
abbrev PEF (e : Expr) (t : DM Sl) : Prop := PE X e (tF X.K ct W t)
abbrev PED (e : Expr) (t : DM D) : Prop := PE X e (tD X.K ct W t)
abbrev PTD (e : Expr) (t : DM Bool) : Prop := PT X e (tTD X.K ct W t)
abbrev PAD (es : List Expr) (t : DM (List Ar)) : Prop := PA X es (tAs X.K ct W t)
end
theorem weakE {X : Cx} {e : Expr} {t t' : TE} (h : PE X e t) (hw : ∀ σ H Q, t' σ H Q → t σ H Q) : PE X e t' := ⟨fun pins s σ H Q I q => h.run pins s σ H Q I (hw σ H Q q)⟩
theorem weakT {X : Cx} {e : Expr} {t t' : TT} (h : PT X e t) (hw : ∀ σ H Q, t' σ H Q → t σ H Q) : PT X e t' := ⟨fun pins s σ H Q I q => h.run pins s σ H Q I (hw σ H Q q)⟩
theorem weakA {X : Cx} {e : List Expr} {t t' : TA} (h : PA X e t) (hw : ∀ σ H Q, t' σ H Q → t σ H Q) : PA X e t' := ⟨fun pos pins s σ H Q I q => h.run pos pins s σ H Q I (hw σ H Q q)⟩
theorem weakS {X : Cx} {e : Stmt} {t t' : TS} (h : PS X e t) (hw : ∀ D σ H, t' D σ H → t D σ H) : PS X e t' := ⟨fun pins s σ H D I q => h.run pins s σ H D I (hw D σ H q)⟩
theorem weakSs {X : Cx} {e : List Stmt} {t t' : TS} (h : PSs X e t) (hw : ∀ D σ H, t' D σ H → t D σ H) : PSs X e t' := ⟨fun pins s σ H D I q => h.run pins s σ H D I (hw D σ H q)⟩
end FD

set_option Elab.async false
set_option linter.all false
set_option maxRecDepth 100000
namespace FD
open PySem L2

/-- the heap and the view have grown by new things alone -/
structure Ext (G H G' H' : Hp) : Prop where
  hh : Same H H'
  gg : Same G G'
  gh : Same G' H'
  old : ∀ b o, H b = some o → G' b = G b
theorem Ext.refl {G H : Hp} (s : Same G H) : Ext G H G H := ⟨Same.refl _, Same.refl _, s, fun _ _ _ => rfl⟩
theorem Ext.trans {G H G1 H1 G2 H2 : Hp} (a : Ext G H G1 H1) (b : Ext G1 H1 G2 H2) : Ext G H G2 H2 :=
  ⟨a.hh.trans b.hh, a.gg.trans b.gg, b.gh, fun c o e => (b.old c o (a.hh c o e)).trans (a.old c o e)⟩
theorem same_upd {H : Hp} {p : Addr} {o : HO} (h : H p = none) : Same H (upd H p o) := fun b x e => by rw [upd_ne (ne_of_none e h)]; exact e
theorem free_of {G H : Hp} {p : Addr} (s : Same G H) (h : H p = none) : G p = none := s.free h
/-- a new thing that nobody will change -/
theorem Ext.new {G H : Hp} {p : Addr} {o : HO} (s : Same G H) (h : H p = none) : Ext G H (upd G p o) (upd H p o) :=
  ⟨same_upd h, same_upd (s.free h), fun b x e => by
    by_cases hb : b = p
    · subst hb; rw [upd_same] at e ⊢; exact e
    · rw [upd_ne hb] at e ⊢; exact s b x e, fun b x e => upd_ne (ne_of_none e h)⟩
/-- a new thing of one's own -/
theorem Ext.own {G H : Hp} {p : Addr} {o : HO} (s : Same G H) (h : H p = none) : Ext G H G (upd H p o) :=
  ⟨same_upd h, Same.refl _, s.trans (same_upd h), fun _ _ _ => rfl⟩

section
variable {K : PySem.W.Frag} {ct : List Addr} {Φ : Fm} {G G' H H' : Hp} {σ : St} {ρ : List Sl} {i : Nat} {d : D} {v : V} {p : Addr} {o : HO}
theorem EnvS.ownH (E : EnvS K ct Φ G H σ ρ) {j : Nat} {d : D} (h : isOwn ρ[j]? = some d) {p : Addr} (e : σ[j]? = some (some (.ref p))) : ∃ o, H p = some o := by
  obtain ⟨q, e2, _, h2, _⟩ := E.own j d h
  rw [e] at e2; cases e2
  exact h2.there
theorem EnvS.ext (E : EnvS K ct Φ G H σ ρ) (x : Ext G H G' H') : EnvS K ct Φ G' H' σ ρ where
  len := E.len
  gh := x.gh
  g0 := E.g0.trans x.gg
  fr := fun b o h n => x.hh b o (E.fr b o h n)
  dom := fun b o h => let ⟨o', e⟩ := E.dom b o h; ⟨o', x.hh b o' e⟩
  gn := fun b o h n => by
    obtain ⟨o', e⟩ := E.dom b o h
    rw [x.old b o' e]; exact E.gn b o h n
  pin := E.pin
  sh := fun j d h => let ⟨v, e, r⟩ := E.sh j d h; ⟨v, e, r.mono x.gg⟩
  own := fun j d h => by
    obtain ⟨p, e, g, hr, h1, h2⟩ := E.own j d h
    obtain ⟨o, ho⟩ := hr.there
    exact ⟨p, e, by rw [x.old p o ho]; exact g, hr.mono x.gg ((x.hh p o ho).trans ho.symm), h1, h2⟩
  ne := E.ne
/-- what is new and one's own is given to the view -/
theorem EnvS.give (E : EnvS K ct Φ G H σ ρ) (h : H p = some o) (g : G p = none) (f : Φ.H p = none) (n : ∀ (j : Nat) (d' : D), isOwn ρ[j]? = some d' → σ[j]? ≠ some (some (.ref p))) : EnvS K ct Φ (upd G p o) H σ ρ where
  len := E.len
  gh := fun b x e => by
    by_cases hb : b = p
    · subst hb; rw [upd_same] at e; rw [h]; exact e
    · rw [upd_ne hb] at e; exact E.gh b x e
  g0 := E.g0.trans (same_upd g)
  fr := E.fr
  dom := E.dom
  gn := fun b x h1 h2 => by
    have hb : b ≠ p := fun z => by rw [z, f] at h1; cases h1
    rw [upd_ne hb]; exact E.gn b x h1 h2
  pin := E.pin
  sh := fun j d h => let ⟨v, e, r⟩ := E.sh j d h; ⟨v, e, r.mono (same_upd g)⟩
  own := fun j d hj => by
    obtain ⟨q, e, g', hr, h1, h2⟩ := E.own j d hj
    have hq : q ≠ p := fun z => n j d hj (by rw [e, z])
    exact ⟨q, e, by rw [upd_ne hq]; exact g', hr.mono (same_upd g) rfl, h1, h2⟩
  ne := E.ne
theorem RF.give (E : EnvS K ct Φ G H σ ρ) {sl : Sl} (r : RF K ct Φ G H σ ρ v sl) : ∃ G' d, Same G G' ∧ EnvS K ct Φ G' H σ ρ ∧ R K ct G' v d ∧ (sl = .sh d ∨ sl = .ow d) := by
  cases sl with
  | un => exact r.elim
  | pn d => exact r.elim
  | sh d => exact ⟨G, d, Same.refl _, E, r, .inl rfl⟩
  | ow d =>
    obtain ⟨p, rfl, g, hr, f, n⟩ := r
    obtain ⟨o, ho, s, rr⟩ := hr.frz g
    exact ⟨_, d, s, E.give ho g f n, rr, .inr rfl⟩
/-- the data of a slot's value -/
def Sl.dat : Sl → D
  | .sh d => d
  | .ow d => d
  | .pn d => d
  | .un => .non
end

/-! ### freezing -/
def fz (t : DM Sl) : DM D := bnd t fun sl => ret sl.dat
section
variable {X : Cx} {ct : List Addr} {W : WX} {e : Expr}
theorem dF {t : DM Sl} (h : PEF X ct W e t) : PED X ct W e (fz t) := by
  refine weakE h fun σ H Q q => ?_
  obtain ⟨Φ, G, ρ, E, q⟩ := q
  refine ⟨Φ, G, ρ, E, (Post.bnd q).imp fun sl ρ' G' H' s E' q v r => ?_⟩
  obtain ⟨G2, d, s2, E2, r2, hd⟩ := RF.give E' r
  have hd' : sl.dat = d := by rcases hd with h | h <;> rw [h] <;> rfl
  exact q.2 G2 H' s2 E2 v (by rw [hd']; exact r2)
/-- data as a value -/
def shD (t : DM D) : DM Sl := bnd t fun d => ret (.sh d)
theorem fD {t : DM D} (h : PED X ct W e t) : PEF X ct W e (shD t) := by
  refine weakE h fun σ H Q q => ?_
  obtain ⟨Φ, G, ρ, E, q⟩ := q
  exact ⟨Φ, G, ρ, E, (Post.bnd q).imp fun d ρ' G' H' s E' q v r => q.2 G' H' (Same.refl _) E' v r⟩

/-! ### constants and names -/
theorem dInt {i j pos} : PED X ct W (.Constant (.int i) j pos) (ret (.int i)) := weakE pe_int fun _ H Q ⟨_, G, _, E, q⟩ => q G H (Same.refl _) E _ (.int i)
theorem dBl {i j pos} : PED X ct W (.Constant (.bool i) j pos) (ret (.bl i)) := weakE pe_bl fun _ H Q ⟨_, G, _, E, q⟩ => q G H (Same.refl _) E _ (.bl i)
theorem dNon {j pos} : PED X ct W (.Constant .none j pos) (ret .non) := weakE pe_non fun _ H Q ⟨_, G, _, E, q⟩ => q G H (Same.refl _) E _ .non
theorem dStr {i j pos} : PED X ct W (.Constant (.str i) j pos) (ret (.str i)) := weakE pe_str fun _ H Q ⟨_, G, _, E, q⟩ => q G H (Same.refl _) E _ (.str i)
/-- a name that holds data -/
def get (i : Nat) : DM D := fun ρ => match ρ[i]? with
  | some (.sh d) => some (.ok d ρ)
  | _ => none
theorem dV (i : Nat) {x : Str} {pos : Pos} (hN : X.N[i]? = some x := by rfl) (hv : Vis X.env.scope x := by first | exact Or.inl rfl | exact Or.inr (Or.inl rfl) | exact Or.inr (Or.inr rfl)) (hd : (x == ("__debug__" : Str)) = false := by decide)
    (hcd : (x == ("__classdict__" : Str)) = false := by decide) : PED X ct W (.Name x pos) (get i) := by
  refine weakE (pe_var hN hv hd hcd) fun σ H Q q => ?_
  obtain ⟨Φ, G, ρ, E, q⟩ := q
  unfold get at q
  cases h : ρ[i]? with
  | none => rw [h] at q; exact q.elim
  | some sl =>
    rw [h] at q
    cases sl with
    | un => exact q.elim
    | ow d => exact q.elim
    | pn d => exact q.elim
    | sh d =>
      obtain ⟨v, ev, r⟩ := E.sh i d h
      exact ⟨v, ev, q G H (Same.refl _) E v r⟩
end

/-! ### operators on data -/
/-- the value of an operator: data, or a new thing -/
def RN (K : PySem.W.Frag) (ct : List Addr) (G' H H' : Hp) (v : V) : Sl → Prop
  | .sh d => R K ct G' v d
  | .ow d => ∃ p, v = .ref p ∧ H p = none ∧ G' p = none ∧ HoR K ct G' H' p d
  | _ => False
theorem RN.rf {K : PySem.W.Frag} {ct : List Addr} {Φ : Fm} {G G' H H' : Hp} {σ : St} {ρ : List Sl} {v : V} {sl : Sl} (r : RN K ct G' H H' v sl) (E : EnvS K ct Φ G H σ ρ) : RF K ct Φ G' H' σ ρ v sl := by
  cases sl with
  | un => exact r.elim
  | pn d => exact r.elim
  | sh d => exact r
  | ow d =>
    obtain ⟨p, rfl, hp, g, h⟩ := r
    refine ⟨p, rfl, g, h, ?_, fun j d' hj ej => ?_⟩
    · cases e : Φ.H p with
      | none => rfl
      | some o => obtain ⟨o', e'⟩ := E.dom p o e; rw [hp] at e'; cases e'
    · obtain ⟨o, ho⟩ := E.ownH hj ej
      rw [hp] at ho; cases ho
def rF (K : PySem.W.Frag) (ct : List Addr) (g : D → D → Option Sl) : R2 := fun x y H Q => ∃ G dx dy sl, Same G H ∧ R K ct G x dx ∧ R K ct G y dy ∧ g dx dy = some sl ∧ ∀ v G' H', Ext G H G' H' → RN K ct G' H H' v sl → Q v H'
def lftS (o : Option Sl) : DM Sl := lft o
def opS (g : D → D → Option Sl) (ta tb : DM D) : DM Sl := bnd ta fun a => bnd tb fun b => lft (g a b)
theorem lft_post {K : PySem.W.Frag} {ct : List Addr} {Φ : Fm} {W : WX} {σ : St} {G : Hp} {α : Type} {o : Option α} {ρ : List Sl} {k : α → List Sl → Hp → Hp → Prop} (h : Post K ct Φ W σ G (lft o ρ) k) :
    ∃ a, o = some a ∧ ∀ G' H', Same G G' → EnvS K ct Φ G' H' σ ρ → k a ρ G' H' := by
  unfold lft at h
  cases o with
  | none => exact h.elim
  | some a => exact ⟨a, rfl, h⟩
section
variable {X : Cx} {ct : List Addr} {W : WX} {a b : Expr} {ta tb : DM D} {pos : Pos}
theorem tOpF {g : D → D → Option Sl} {σ : St} {H : Hp} {Q : VK} (q : tF X.K ct W (opS g ta tb) σ H Q) : tOp (rF X.K ct g) (tD X.K ct W ta) (tD X.K ct W tb) σ H Q := by
  obtain ⟨Φ, G, ρ, E, q⟩ := q
  refine ⟨Φ, G, ρ, E, (Post.bnd q).imp fun d1 ρ1 G1 H1 s1 E1 q1 v1 r1 => ?_⟩
  refine ⟨Φ, G1, ρ1, E1, (Post.bnd q1.2).imp fun d2 ρ2 G2 H2 s2 E2 q2 v2 r2 => ?_⟩
  obtain ⟨sl, e, k⟩ := lft_post q2.2
  exact ⟨G2, d1, d2, sl, E2.gh, r1.mono s2, r2, e, fun v G' H' x r => k G' H' x.gg (E2.ext x) v (r.rf E2)⟩
theorem fOp {op : Operator} {g : D → D → Option Sl} (ho : OpR X (binaryOp op) (rF X.K ct g)) (ha : PED X ct W a ta) (hb : PED X ct W b tb) : PEF X ct W (.BinOp a op b pos) (opS g ta tb) :=
  weakE (pe_op ho ha hb) fun _ _ _ q => tOpF q
theorem fCmp {op : CmpOp} {g : D → D → Option Sl} (ho : OpR X (compareOp op) (rF X.K ct g)) (ha : PED X ct W a ta) (hb : PED X ct W b tb) (hm : behindInMarks op b = false) : PEF X ct W (.Compare a [op] [b] pos) (opS g ta tb) :=
  weakE (pe_cmpR ho ha hb hm) fun _ _ _ q => tOpF q
end
theorem OpR.weak {X : Cx} {f : Value → Value → Sem Value} {r r' : R2} (h : OpR X f r) (hw : ∀ x y H Q, r' x y H Q → r x y H Q) : OpR X f r' := fun pins s σ H x y v u Q I rx ry q => h pins s σ H x y v u Q I rx ry (hw x y H Q q)
end FD

set_option Elab.async false
set_option linter.all false
set_option maxRecDepth 100000
namespace FD
open PySem L2

/-! ### operators on data -/
def addS : D → D → Option Sl
  | .int i, .int j => some (.sh (.int (i + j)))
  | .str a, .str b => if a.length + b.length ≤ sizeLine then some (.sh (.str (a ++ b))) else none
  | .lst a, .lst b => if a.length + b.length ≤ sizeLine then some (.ow (.lst (a ++ b))) else none
  | .tup a, .tup b => if a.length + b.length ≤ sizeLine then some (.sh (.tup (a ++ b))) else none
  | _, _ => none
def subS : D → D → Option Sl
  | .int i, .int j => some (.sh (.int (i - j)))
  | _, _ => none
def mulS : D → D → Option Sl
  | .int i, .int j => if i.natAbs.log2 + j.natAbs.log2 < 1000000 then some (.sh (.int (i * j))) else none
  | .lst a, .int k => if -(2 ^ 63) ≤ k ∧ k < 2 ^ 63 ∧ a.length * k.toNat ≤ sizeLine then some (.ow (.lst (List.replicate k.toNat a).flatten)) else none
  | _, _ => none
def fdivS : D → D → Option Sl
  | .int i, .int j => if 0 < j ∧ j.natAbs.log2 < 9000 then some (.sh (.int (i / j))) else none
  | _, _ => none
def modS : D → D → Option Sl
  | .int i, .int j => if 0 < j then some (.sh (.int (i % j))) else none
  | _, _ => none
def powS : D → D → Option Sl
  | .int i, .int j => if 0 ≤ j ∧ j ≤ 1000000 ∧ i.natAbs < 2 ^ 64 then some (.sh (.int (i ^ j.toNat))) else none
  | _, _ => none
def ltS : D → D → Option Sl
  | .int i, .int j => some (.sh (.bl (decide (i < j))))
  | _, _ => none
def leS : D → D → Option Sl
  | .int i, .int j => some (.sh (.bl (decide (i ≤ j))))
  | _, _ => none
def gtS : D → D → Option Sl
  | .int i, .int j => some (.sh (.bl (decide (j < i))))
  | _, _ => none
def geS : D → D → Option Sl
  | .int i, .int j => some (.sh (.bl (decide (j ≤ i))))
  | _, _ => none
mutual
def toPy : D → PyData
  | .non => .none
  | .bl b => .bool b
  | .int i => .int i
  | .str x => .str x
  | .tup xs => .tuple (toPys xs)
  | .lst xs => .list (toPys xs)
  | .obj _ _ => .none
  | .scr _ => .none
  | .opq _ => .none
  | .cls _ => .none
def toPys : List D → List PyData
  | [] => []
  | x :: r => toPy x :: toPys r
end
mutual
def plainN : Nat → D → Bool
  | _, .non => true
  | _, .bl _ => true
  | _, .int _ => true
  | _, .str _ => true
  | 0, .tup _ => false
  | 0, .lst _ => false
  | n + 1, .tup xs => plainNs n xs
  | n + 1, .lst xs => plainNs n xs
  | _, _ => false
def plainNs : Nat → List D → Bool
  | _, [] => true
  | n, x :: r => plainN n x && plainNs n r
end
/-- None, truth values, numbers, texts, tuples and lists of these, not too deep -/
abbrev plain : D → Bool := plainN 60
mutual
def deq : D → D → Bool
  | .non, .non => true
  | .bl a, .bl b => a == b
  | .bl a, .int j => (if a then 1 else 0) == j
  | .int i, .bl b => i == (if b then 1 else 0)
  | .int i, .int j => i == j
  | .str x, .str y => x == y
  | .tup xs, .tup ys => deqs xs ys
  | .lst xs, .lst ys => deqs xs ys
  | _, _ => false
def deqs : List D → List D → Bool
  | [], [] => true
  | x :: xs, y :: ys => deq x y && deqs xs ys
  | _, _ => false
end
def eqS : D → D → Option Sl := fun a b => if plain a && plain b then some (.sh (.bl (deq a b))) else none
def neS : D → D → Option Sl := fun a b => if plain a && plain b then some (.sh (.bl (!deq a b))) else none
def inS : D → D → Option Sl
  | .str a, .str b => some (.sh (.bl (!(Builtin.Str.occurrences b a 0 b.length 1).isEmpty)))
  | a, .lst b => if plain a && plain (.lst b) then some (.sh (.bl (b.any fun y => deq y a))) else none
  | a, .tup b => if plain a && plain (.tup b) then some (.sh (.bl (b.any fun y => deq y a))) else none
  | _, _ => none
def ninS : D → D → Option Sl
  | .str a, .str b => some (.sh (.bl (!!(Builtin.Str.occurrences b a 0 b.length 1).isEmpty)))
  | a, .lst b => if plain a && plain (.lst b) then some (.sh (.bl (!b.any fun y => deq y a))) else none
  | a, .tup b => if plain a && plain (.tup b) then some (.sh (.bl (!b.any fun y => deq y a))) else none
  | _, _ => none

section
variable {X : Cx} {ct : List Addr}
theorem RN.of_ext {K : PySem.W.Frag} {ct : List Addr} {G H : Hp} {Q : VK} {sl : Sl} (s : Same G H) (k : ∀ v G' H', Ext G H G' H' → RN K ct G' H H' v sl → Q v H') {d : D} (e : sl = .sh d) {v : V} (r : R K ct G v d) : Q v H :=
  k v G H (.refl s) (by rw [e]; exact r)
theorem dAdd : OpR X (binaryOp .Add) (rF X.K ct addS) := by
  intro pins s σ H x y v u Q I rx ry h
  obtain ⟨G, dx, dy, sl, sg, r1, r2, e, k⟩ := h
  cases r1 with
  | int i =>
    cases r2 with
    | int j => cases e; exact op_add pins s σ H _ _ v u Q I rx ry ⟨i, j, rfl, rfl, RN.of_ext sg k rfl (.int _)⟩
    | _ => simp [addS] at e
  | str a =>
    cases r2 with
    | str b =>
      simp only [addS] at e
      split at e
      · cases e; exact op_add_str pins s σ H _ _ v u Q I rx ry ⟨a, b, rfl, rfl, by assumption, RN.of_ext sg k rfl (.str _)⟩
      · cases e
    | _ => simp [addS] at e
  | lst ha ra =>
    cases r2 with
    | lst hb rb =>
      simp only [addS] at e
      split at e
      · rename_i hz
        cases e
        refine op_cat pins s σ H _ _ v u Q I rx ry ⟨_, _, _, _, rfl, rfl, sg _ _ ha, sg _ _ hb, by rw [ra.length, rb.length]; exact hz, fun p hp => ?_⟩
        exact k _ G _ (.own sg hp) ⟨p, rfl, hp, sg.free hp, _, upd_same, ra.append rb⟩
      · cases e
    | _ => simp [addS] at e
  | tup ha ra =>
    cases r2 with
    | tup hb rb =>
      simp only [addS] at e
      split at e
      · rename_i hz
        cases e
        refine op_catA pins s σ H _ _ v u Q I rx ry ⟨_, _, _, _, rfl, rfl, Same.seqT sg ha, Same.seqT sg hb, by rw [ra.length, rb.length]; exact hz, fun z => ?_, fun _ z => ?_, fun _ _ p hp => ?_⟩
        · subst z
          cases ra
          exact RN.of_ext sg k rfl (.tup hb rb)
        · subst z
          cases rb
          exact RN.of_ext sg k (by rw [List.append_nil]) (.tup ha ra)
        · refine k _ _ _ (.new sg hp) (R.tup (.inl (.inl upd_same)) ((ra.append rb).mono (same_upd (sg.free hp))))
      · cases e
    | _ => simp [addS] at e
  | _ => simp [addS] at e
theorem dSub : OpR X (binaryOp .Sub) (rF X.K ct subS) := by
  intro pins s σ H x y v u Q I rx ry h
  obtain ⟨G, dx, dy, sl, sg, r1, r2, e, k⟩ := h
  cases r1 with
  | int i =>
    cases r2 with
    | int j => cases e; exact op_sub pins s σ H _ _ v u Q I rx ry ⟨i, j, rfl, rfl, RN.of_ext sg k rfl (.int _)⟩
    | _ => simp [subS] at e
  | _ => simp [subS] at e
theorem Rs.replicate {K : PySem.W.Frag} {ct : List Addr} {G : Hp} {xs : List V} {ds : List D} (r : Rs K ct G xs ds) : ∀ n : Nat, Rs K ct G (List.replicate n xs).flatten (List.replicate n ds).flatten
  | 0 => .nil
  | n + 1 => by rw [List.replicate_succ, List.replicate_succ, List.flatten_cons, List.flatten_cons]; exact r.append (Rs.replicate r n)
theorem dMul : OpR X (binaryOp .Mult) (rF X.K ct mulS) := by
  intro pins s σ H x y v u Q I rx ry h
  obtain ⟨G, dx, dy, sl, sg, r1, r2, e, k⟩ := h
  cases r1 with
  | int i =>
    cases r2 with
    | int j =>
      simp only [mulS] at e
      split at e
      · cases e; exact op_mulW pins s σ H _ _ v u Q I rx ry ⟨i, j, rfl, rfl, by assumption, RN.of_ext sg k rfl (.int _)⟩
      · cases e
    | _ => simp [mulS] at e
  | lst ha ra =>
    cases r2 with
    | int j =>
      simp only [mulS] at e
      split at e
      · rename_i hz
        cases e
        refine op_rep pins s σ H _ _ v u Q I rx ry ⟨_, _, _, rfl, rfl, sg _ _ ha, hz.1, hz.2.1, by rw [ra.length]; exact hz.2.2, fun p hp => ?_⟩
        exact k _ G _ (.own sg hp) ⟨p, rfl, hp, sg.free hp, _, upd_same, ra.replicate _⟩
      · cases e
    | _ => simp [mulS] at e
  | _ => simp [mulS] at e
theorem dFdiv : OpR X (binaryOp .FloorDiv) (rF X.K ct fdivS) := by
  intro pins s σ H x y v u Q I rx ry h
  obtain ⟨G, dx, dy, sl, sg, r1, r2, e, k⟩ := h
  cases r1 with
  | int i =>
    cases r2 with
    | int j =>
      simp only [fdivS] at e
      split at e
      · cases e; exact op_fdivW pins s σ H _ _ v u Q I rx ry ⟨i, j, rfl, rfl, by assumption, RN.of_ext sg k rfl (.int _)⟩
      · cases e
    | _ => simp [fdivS] at e
  | _ => simp [fdivS] at e
theorem dMod : OpR X (binaryOp .Mod) (rF X.K ct modS) := by
  intro pins s σ H x y v u Q I rx ry h
  obtain ⟨G, dx, dy, sl, sg, r1, r2, e, k⟩ := h
  cases r1 with
  | int i =>
    cases r2 with
    | int j =>
      simp only [modS] at e
      split at e
      · cases e; exact op_mod pins s σ H _ _ v u Q I rx ry ⟨i, j, rfl, rfl, by assumption, RN.of_ext sg k rfl (.int _)⟩
      · cases e
    | _ => simp [modS] at e
  | _ => simp [modS] at e
theorem dPow : OpR X (binaryOp .Pow) (rF X.K ct powS) := by
  intro pins s σ H x y v u Q I rx ry h
  obtain ⟨G, dx, dy, sl, sg, r1, r2, e, k⟩ := h
  cases r1 with
  | int i =>
    cases r2 with
    | int j =>
      simp only [powS] at e
      split at e
      · cases e; exact op_pow pins s σ H _ _ v u Q I rx ry ⟨i, j, rfl, rfl, by assumption, RN.of_ext sg k rfl (.int _)⟩
      · cases e
    | _ => simp [powS] at e
  | _ => simp [powS] at e
theorem dLt : OpR X (compareOp .Lt) (rF X.K ct ltS) := by
  intro pins s σ H x y v u Q I rx ry h
  obtain ⟨G, dx, dy, sl, sg, r1, r2, e, k⟩ := h
  cases r1 with
  | int i =>
    cases r2 with
    | int j => cases e; exact op_lt pins s σ H _ _ v u Q I rx ry ⟨i, j, rfl, rfl, RN.of_ext sg k rfl (.bl _)⟩
    | _ => simp [ltS] at e
  | _ => simp [ltS] at e
theorem dLe : OpR X (compareOp .LtE) (rF X.K ct leS) := by
  intro pins s σ H x y v u Q I rx ry h
  obtain ⟨G, dx, dy, sl, sg, r1, r2, e, k⟩ := h
  cases r1 with
  | int i =>
    cases r2 with
    | int j => cases e; exact op_le pins s σ H _ _ v u Q I rx ry ⟨i, j, rfl, rfl, RN.of_ext sg k rfl (.bl _)⟩
    | _ => simp [leS] at e
  | _ => simp [leS] at e
theorem dGt : OpR X (compareOp .Gt) (rF X.K ct gtS) := by
  intro pins s σ H x y v u Q I rx ry h
  obtain ⟨G, dx, dy, sl, sg, r1, r2, e, k⟩ := h
  cases r1 with
  | int i =>
    cases r2 with
    | int j => cases e; exact op_gt pins s σ H _ _ v u Q I rx ry ⟨i, j, rfl, rfl, RN.of_ext sg k rfl (.bl _)⟩
    | _ => simp [gtS] at e
  | _ => simp [gtS] at e
theorem dGe : OpR X (compareOp .GtE) (rF X.K ct geS) := by
  intro pins s σ H x y v u Q I rx ry h
  obtain ⟨G, dx, dy, sl, sg, r1, r2, e, k⟩ := h
  cases r1 with
  | int i =>
    cases r2 with
    | int j => cases e; exact op_ge pins s σ H _ _ v u Q I rx ry ⟨i, j, rfl, rfl, RN.of_ext sg k rfl (.bl _)⟩
    | _ => simp [geS] at e
  | _ => simp [geS] at e

mutual
theorem toPy_plain : ∀ (n : Nat) (d : D), plainN n d = true → (toPy d).plain = true ∧ (toPy d).depth ≤ n + 1
  | n, .non, _ => by simp [toPy, PyData.plain, PyData.depth]
  | n, .bl _, _ => by simp [toPy, PyData.plain, PyData.depth]
  | n, .int _, _ => by simp [toPy, PyData.plain, PyData.depth]
  | n, .str _, _ => by simp [toPy, PyData.plain, PyData.depth]
  | n + 1, .tup xs, h => by
    have := toPys_plain n xs (by simpa [plainN] using h)
    simp only [toPy, PyData.plain, PyData.depth]
    exact ⟨this.1, by omega⟩
  | n + 1, .lst xs, h => by
    have := toPys_plain n xs (by simpa [plainN] using h)
    simp only [toPy, PyData.plain, PyData.depth]
    exact ⟨this.1, by omega⟩
  | 0, .tup xs, h => by simp [plainN] at h
  | 0, .lst xs, h => by simp [plainN] at h
  | n, .obj _ _, h => by simp [plainN] at h
  | n, .scr _, h => by simp [plainN] at h
  | n, .opq _, h => by simp [plainN] at h
  | n, .cls _, h => by simp [plainN] at h
theorem toPys_plain : ∀ (n : Nat) (ds : List D), plainNs n ds = true → PyData.plainAll (toPys ds) = true ∧ PyData.depthAll (toPys ds) ≤ n + 1
  | n, [], _ => by simp [toPys, PyData.plainAll, PyData.depthAll]
  | n, x :: r, h => by
    simp only [plainNs, Bool.and_eq_true] at h
    have h1 := toPy_plain n x h.1
    have h2 := toPys_plain n r h.2
    simp only [toPys, PyData.plainAll, PyData.depthAll, Bool.and_eq_true]
    exact ⟨⟨h1.1, h2.1⟩, by omega⟩
end
mutual
theorem R.dp {K : PySem.W.Frag} {ct : List Addr} {G H : Hp} (s : Same G H) : ∀ (n : Nat) (d : D) (v : V), plainN n d = true → R K ct G v d → Dp K H v (toPy d)
  | n, .non, _, _, .non => .non
  | n, .bl b, _, _, .bl _ => .bl b
  | n, .int b, _, _, .int _ => .int b
  | n, .str b, _, _, .str _ => .str b
  | n + 1, .tup xs, _, h, .tup h1 h2 => .tup (Same.seqT s h1) (Rs.dp s n xs _ (by simpa [plainN] using h) h2)
  | n + 1, .lst xs, _, h, .lst h1 h2 => .lst (.inl (.inl (s _ _ h1))) (Rs.dp s n xs _ (by simpa [plainN] using h) h2)
  | 0, .tup xs, _, h, _ => by simp [plainN] at h
  | 0, .lst xs, _, h, _ => by simp [plainN] at h
  | n, .obj _ _, _, h, _ => by simp [plainN] at h
  | n, .scr _, _, h, _ => by simp [plainN] at h
  | n, .opq _, _, h, _ => by simp [plainN] at h
  | n, .cls _, _, h, _ => by simp [plainN] at h
theorem Rs.dp {K : PySem.W.Frag} {ct : List Addr} {G H : Hp} (s : Same G H) : ∀ (n : Nat) (ds : List D) (vs : List V), plainNs n ds = true → Rs K ct G vs ds → DpAll K H vs (toPys ds)
  | n, [], _, _, .nil => .nil
  | n, x :: r, _, h, .cons h1 h2 => by
    simp only [plainNs, Bool.and_eq_true] at h
    exact .cons (R.dp s n x _ h.1 h1) (Rs.dp s n r _ h.2 h2)
end
mutual
theorem deq_py : ∀ (a b : D) (n m : Nat), plainN n a = true → plainN m b = true → PyData.eqv (toPy a) (toPy b) = deq a b := by
  intro a b n m ha hb
  cases a with
  | tup xs =>
    cases n with
    | zero => simp [plainN] at ha
    | succ n =>
      cases b with
      | tup ys =>
        cases m with
        | zero => simp [plainN] at hb
        | succ m => simp only [toPy, PyData.eqv, deq]; exact deqs_py xs ys n m (by simpa [plainN] using ha) (by simpa [plainN] using hb)
      | obj _ _ => simp [plainN] at hb
      | scr _ => simp [plainN] at hb
      | opq _ => simp [plainN] at hb
      | cls _ => simp [plainN] at hb
      | _ => simp [toPy, PyData.eqv, deq]
  | lst xs =>
    cases n with
    | zero => simp [plainN] at ha
    | succ n =>
      cases b with
      | lst ys =>
        cases m with
        | zero => simp [plainN] at hb
        | succ m => simp only [toPy, PyData.eqv, deq]; exact deqs_py xs ys n m (by simpa [plainN] using ha) (by simpa [plainN] using hb)
      | obj _ _ => simp [plainN] at hb
      | scr _ => simp [plainN] at hb
      | opq _ => simp [plainN] at hb
      | cls _ => simp [plainN] at hb
      | _ => simp [toPy, PyData.eqv, deq]
  | obj _ _ => simp [plainN] at ha
  | scr _ => simp [plainN] at ha
  | opq _ => simp [plainN] at ha
  | cls _ => simp [plainN] at ha
  | _ =>
    cases b with
    | obj _ _ => simp [plainN] at hb
    | scr _ => simp [plainN] at hb
    | opq _ => simp [plainN] at hb
    | cls _ => simp [plainN] at hb
    | _ => simp [toPy, PyData.eqv, deq]
theorem deqs_py : ∀ (a b : List D) (n m : Nat), plainNs n a = true → plainNs m b = true → PyData.eqvAll (toPys a) (toPys b) = deqs a b
  | [], [], _, _, _, _ => by simp [toPys, PyData.eqvAll, deqs]
  | [], _ :: _, _, _, _, _ => by simp [toPys, PyData.eqvAll, deqs]
  | _ :: _, [], _, _, _, _ => by simp [toPys, PyData.eqvAll, deqs]
  | x :: xs, y :: ys, n, m, ha, hb => by
    simp only [plainNs, Bool.and_eq_true] at ha hb
    simp only [toPys, PyData.eqvAll, deqs]
    rw [deq_py x y n m ha.1 hb.1, deqs_py xs ys n m ha.2 hb.2]
end
theorem dEq (hu : X.A.units + 64 < cLine) : OpR X (compareOp .Eq) (rF X.K ct eqS) := by
  intro pins s σ H x y v u Q I rx ry h
  obtain ⟨G, dx, dy, sl, sg, r1, r2, e, k⟩ := h
  unfold eqS at e
  split at e
  · rename_i hp
    cases e
    rw [Bool.and_eq_true] at hp
    obtain ⟨as, q1⟩ := Dp.reads I _ x v (R.dp sg 60 dx x hp.1 r1) rx
    obtain ⟨bs, q2⟩ := Dp.reads I _ y u (R.dp sg 60 dy y hp.2 r2) ry
    have a1 := toPy_plain 60 dx hp.1
    have a2 := toPy_plain 60 dy hp.2
    refine SeqAt.eq_plain q1 q2 a1.1 a2.1 (by omega) ?_
    rw [deq_py dx dy 60 60 hp.1 hp.2]
    exact ⟨.bl _, H, I, rfl, RN.of_ext sg k rfl (.bl _)⟩
  · cases e
theorem dNe (hu : X.A.units + 64 < cLine) : OpR X (compareOp .NotEq) (rF X.K ct neS) := by
  intro pins s σ H x y v u Q I rx ry h
  obtain ⟨G, dx, dy, sl, sg, r1, r2, e, k⟩ := h
  unfold neS at e
  split at e
  · rename_i hp
    cases e
    rw [Bool.and_eq_true] at hp
    obtain ⟨as, q1⟩ := Dp.reads I _ x v (R.dp sg 60 dx x hp.1 r1) rx
    obtain ⟨bs, q2⟩ := Dp.reads I _ y u (R.dp sg 60 dy y hp.2 r2) ry
    have a1 := toPy_plain 60 dx hp.1
    have a2 := toPy_plain 60 dy hp.2
    refine SeqAt.ne_plain q1 q2 a1.1 a2.1 (by omega) ?_
    rw [deq_py dx dy 60 60 hp.1 hp.2]
    exact ⟨.bl _, H, I, rfl, RN.of_ext sg k rfl (.bl _)⟩
  · cases e
end
end FD

set_option Elab.async false
set_option linter.all false
set_option maxRecDepth 100000
namespace FD
open PySem L2

section
variable {X : Cx} {ct : List Addr}
/-! ### in, not in -/
theorem occ_cases {P : Prop} {a b : Str} : True := trivial
theorem dIn (hu : X.A.units + 64 < cLine) : OpR X (compareOp .In) (rF X.K ct inS) := by
  intro pins s σ H x y v u Q I rx ry h
  obtain ⟨G, dx, dy, sl, sg, r1, r2, e, k⟩ := h
  have seq : ∀ (n : Nat) (b : List D) (pb : PyData), (pb = .list (toPys b) ∨ pb = .tuple (toPys b)) → plainN 60 dx = true → plainNs 59 b = true → Dp X.K H y pb → sl = .sh (.bl (b.any fun z => deq z dx)) →
      wpAny (model X.prog X.w) X.A (compareOp .In v u) (EP X pins σ Q) X.xe s := by
    intro n b pb hpb p1 p2 hy es
    obtain ⟨as, q1⟩ := Dp.reads I _ x v (R.dp sg 60 dx x p1 r1) rx
    obtain ⟨bs, q2⟩ := Dp.reads I _ y u hy ry
    have a1 := toPy_plain 60 dx p1
    have a2 := toPys_plain 59 b p2
    have eb : (toPys b).any (fun z => PyData.eqv z (toPy dx)) = b.any fun z => deq z dx := by
      clear hy q2 es a2 hpb
      induction b with
      | nil => rfl
      | cons z r ih =>
        simp only [plainNs, Bool.and_eq_true] at p2
        simp only [toPys, List.any_cons]
        rw [deq_py z dx 59 60 p2.1 p1, ih p2.2]
    have fin : EP X pins σ Q (.bool ((toPys b).any fun z => PyData.eqv z (toPy dx))) s := ⟨.bl _, H, I, rfl, by rw [eb]; exact RN.of_ext sg k es (.bl _)⟩
    rcases hpb with z | z
    · subst z
      exact SeqAt.in_list_data q2 q1 a2.1 a1.1 (by omega) fin
    · subst z
      exact SeqAt.in_tuple_data q2 q1 a2.1 a1.1 (by omega) fin
  cases r2 with
  | str b =>
    cases r1 with
    | str a => cases e; exact op_in_str pins s σ H _ _ v u Q I rx ry ⟨a, b, rfl, rfl, RN.of_ext sg k rfl (.bl _)⟩
    | _ => simp [inS] at e
  | lst hb rb =>
    rename_i b
    have e' : (if plain dx && plain (.lst b) then some (Sl.sh (.bl (b.any fun y => deq y dx))) else none) = some sl := by
      cases dx <;> exact e
    split at e'
    · rename_i hp
      rw [Bool.and_eq_true] at hp
      have p2 : plainNs 59 b = true := by simpa [plainN] using hp.2
      exact seq 0 b _ (.inl rfl) hp.1 p2 (.lst (.inl (.inl (sg _ _ hb))) (Rs.dp sg 59 b _ p2 rb)) (Option.some.inj e').symm
    · cases e'
  | tup hb rb =>
    rename_i b
    have e' : (if plain dx && plain (.tup b) then some (Sl.sh (.bl (b.any fun y => deq y dx))) else none) = some sl := by
      cases dx <;> exact e
    split at e'
    · rename_i hp
      rw [Bool.and_eq_true] at hp
      have p2 : plainNs 59 b = true := by simpa [plainN] using hp.2
      exact seq 0 b _ (.inr rfl) hp.1 p2 (.tup (Same.seqT sg hb) (Rs.dp sg 59 b _ p2 rb)) (Option.some.inj e').symm
    · cases e'
  | _ => exfalso; revert e; cases dx <;> simp [inS]
theorem dNotIn (hu : X.A.units + 64 < cLine) : OpR X (compareOp .NotIn) (rF X.K ct ninS) := by
  intro pins s σ H x y v u Q I rx ry h
  obtain ⟨G, dx, dy, sl, sg, r1, r2, e, k⟩ := h
  have seq : ∀ (n : Nat) (b : List D) (pb : PyData), (pb = .list (toPys b) ∨ pb = .tuple (toPys b)) → plainN 60 dx = true → plainNs 59 b = true → Dp X.K H y pb → sl = .sh (.bl (!b.any fun z => deq z dx)) →
      wpAny (model X.prog X.w) X.A (compareOp .NotIn v u) (EP X pins σ Q) X.xe s := by
    intro n b pb hpb p1 p2 hy es
    obtain ⟨as, q1⟩ := Dp.reads I _ x v (R.dp sg 60 dx x p1 r1) rx
    obtain ⟨bs, q2⟩ := Dp.reads I _ y u hy ry
    have a1 := toPy_plain 60 dx p1
    have a2 := toPys_plain 59 b p2
    have eb : (toPys b).any (fun z => PyData.eqv z (toPy dx)) = b.any fun z => deq z dx := by
      clear hy q2 es a2 hpb
      induction b with
      | nil => rfl
      | cons z r ih =>
        simp only [plainNs, Bool.and_eq_true] at p2
        simp only [toPys, List.any_cons]
        rw [deq_py z dx 59 60 p2.1 p1, ih p2.2]
    have fin : EP X pins σ Q (.bool (!(toPys b).any fun z => PyData.eqv z (toPy dx))) s := ⟨.bl _, H, I, rfl, by rw [eb]; exact RN.of_ext sg k es (.bl _)⟩
    rcases hpb with z | z
    · subst z
      exact SeqAt.notIn_list_data q2 q1 a2.1 a1.1 (by omega) fin
    · subst z
      exact SeqAt.notIn_tuple_data q2 q1 a2.1 a1.1 (by omega) fin
  cases r2 with
  | str b =>
    cases r1 with
    | str a => cases e; exact op_notin_str pins s σ H _ _ v u Q I rx ry ⟨a, b, rfl, rfl, RN.of_ext sg k rfl (.bl _)⟩
    | _ => simp [ninS] at e
  | lst hb rb =>
    rename_i b
    have e' : (if plain dx && plain (.lst b) then some (Sl.sh (.bl (!b.any fun y => deq y dx))) else none) = some sl := by
      cases dx <;> exact e
    split at e'
    · rename_i hp
      rw [Bool.and_eq_true] at hp
      have p2 : plainNs 59 b = true := by simpa [plainN] using hp.2
      exact seq 0 b _ (.inl rfl) hp.1 p2 (.lst (.inl (.inl (sg _ _ hb))) (Rs.dp sg 59 b _ p2 rb)) (Option.some.inj e').symm
    · cases e'
  | tup hb rb =>
    rename_i b
    have e' : (if plain dx && plain (.tup b) then some (Sl.sh (.bl (!b.any fun y => deq y dx))) else none) = some sl := by
      cases dx <;> exact e
    split at e'
    · rename_i hp
      rw [Bool.and_eq_true] at hp
      have p2 : plainNs 59 b = true := by simpa [plainN] using hp.2
      exact seq 0 b _ (.inr rfl) hp.1 p2 (.tup (Same.seqT sg hb) (Rs.dp sg 59 b _ p2 rb)) (Option.some.inj e').symm
    · cases e'
  | _ => exfalso; revert e; cases dx <;> simp [ninS]
/-! ### is, is not -/
def isS : D → D → Option Sl
  | .non, .non => some (.sh (.bl true))
  | .bl _, .non => some (.sh (.bl false))
  | .int _, .non => some (.sh (.bl false))
  | .str _, .non => some (.sh (.bl false))
  | .tup _, .non => some (.sh (.bl false))
  | .lst _, .non => some (.sh (.bl false))
  | .obj _ _, .non => some (.sh (.bl false))
  | .bl a, .bl b => some (.sh (.bl (decide (a = b))))
  | _, _ => none
def nisS : D → D → Option Sl
  | .non, .non => some (.sh (.bl false))
  | .bl _, .non => some (.sh (.bl true))
  | .int _, .non => some (.sh (.bl true))
  | .str _, .non => some (.sh (.bl true))
  | .tup _, .non => some (.sh (.bl true))
  | .lst _, .non => some (.sh (.bl true))
  | .obj _ _, .non => some (.sh (.bl true))
  | .bl a, .bl b => some (.sh (.bl (!decide (a = b))))
  | _, _ => none
theorem dIs : OpR X (compareOp .Is) (rF X.K ct isS) := by
  intro pins s σ H x y v u Q I rx ry h
  obtain ⟨G, dx, dy, sl, sg, r1, r2, e, k⟩ := h
  cases r2 with
  | non =>
    refine op_isN pins s σ H _ _ v u Q I rx ry ⟨rfl, ?_⟩
    cases r1 with
    | scr => simp [isS] at e
    | opq => simp [isS] at e
    | cls => simp [isS] at e
    | _ => (cases e; exact RN.of_ext sg k rfl (.bl _))
  | bl b =>
    cases r1 with
    | bl a => cases e; exact op_is_bl pins s σ H _ _ v u Q I rx ry ⟨a, b, rfl, rfl, RN.of_ext sg k rfl (.bl _)⟩
    | _ => simp [isS] at e
  | _ => exfalso; revert e; cases dx <;> simp [isS]
theorem dIsNot : OpR X (compareOp .IsNot) (rF X.K ct nisS) := by
  intro pins s σ H x y v u Q I rx ry h
  obtain ⟨G, dx, dy, sl, sg, r1, r2, e, k⟩ := h
  cases r2 with
  | non =>
    refine op_notN pins s σ H _ _ v u Q I rx ry ⟨rfl, ?_⟩
    cases r1 with
    | scr => simp [nisS] at e
    | opq => simp [nisS] at e
    | cls => simp [nisS] at e
    | _ => (cases e; exact RN.of_ext sg k rfl (.bl _))
  | bl b =>
    cases r1 with
    | bl a => cases e; exact op_isnot_bl pins s σ H _ _ v u Q I rx ry ⟨a, b, rfl, rfl, RN.of_ext sg k rfl (.bl _)⟩
    | _ => simp [nisS] at e
  | _ => exfalso; revert e; cases dx <;> simp [nisS]

/-! ### items -/
def ixS : D → D → Option Sl
  | .lst xs, .int i => (atI xs i).map .sh
  | .tup xs, .int i => (atI xs i).map .sh
  | .scr ns, .int i => (atI ns i).map fun n => .sh (.int n)
  | .str z, .int i => if z.length ≤ sizeLine then (atI z.cps.toList i).map fun c => .sh (.str ⟨#[c]⟩) else none
  | _, _ => none
theorem atI_rs {K : PySem.W.Frag} {ct : List Addr} {G : Hp} {vs : List V} {ds : List D} {i : Int} {d : D} (r : Rs K ct G vs ds) (h : atI ds i = some d) : ∃ v, atI vs i = some v ∧ R K ct G v d := by
  unfold atI at h ⊢
  rw [r.length]
  cases e : ixN ds.length i with
  | none => rw [e] at h; simp at h
  | some j =>
    rw [e] at h
    exact r.get h
theorem dIx : IxR X (rF X.K ct ixS) := by
  intro value slice pins s σ H x y v u Q I rx ry h hs
  obtain ⟨G, dx, dy, sl, sg, r1, r2, e, k⟩ := h
  cases r2 with
  | int i =>
    cases r1 with
    | lst ha ra =>
      simp only [ixS, Option.map_eq_some_iff] at e
      obtain ⟨d, ed, rfl⟩ := e
      obtain ⟨z, ez, rz⟩ := atI_rs ra ed
      exact ix_list value slice pins s σ H _ _ v u Q I rx ry ⟨_, _, i, z, rfl, rfl, .inl (.inl (sg _ _ ha)), ez, RN.of_ext sg k rfl rz⟩ hs
    | tup ha ra =>
      simp only [ixS, Option.map_eq_some_iff] at e
      obtain ⟨d, ed, rfl⟩ := e
      obtain ⟨z, ez, rz⟩ := atI_rs ra ed
      exact ix_tup value slice pins s σ H _ _ v u Q I rx ry ⟨_, _, i, z, rfl, rfl, Same.seqT sg ha, ez, RN.of_ext sg k rfl rz⟩ hs
    | scr ha =>
      simp only [ixS, Option.map_eq_some_iff] at e
      obtain ⟨n, ed, rfl⟩ := e
      refine ix_list value slice pins s σ H _ _ v u Q I rx ry ⟨_, _, i, .int n, rfl, rfl, sg.seq ha, ?_, RN.of_ext sg k rfl (.int n)⟩ hs
      unfold atI at ed ⊢
      rw [List.length_map]
      cases e : ixN (List.length _) i with
      | none => rw [e] at ed; simp at ed
      | some j =>
        rw [e] at ed
        simp only [Option.bind_some] at ed ⊢
        rw [List.getElem?_map, ed]; rfl
    | str z =>
      simp only [ixS] at e
      split at e
      · rename_i hz
        simp only [Option.map_eq_some_iff] at e
        obtain ⟨c, ec, rfl⟩ := e
        exact ix_str value slice pins s σ H _ _ v u Q I rx ry ⟨z, i, c, rfl, rfl, hz, ec, RN.of_ext sg k rfl (.str _)⟩ hs
      · cases e
    | _ => simp [ixS] at e
  | _ => exfalso; revert e; cases dx <;> simp [ixS]
end
section
variable {X : Cx} {ct : List Addr} {W : WX} {a b : Expr} {ta tb : DM D} {pos : Pos}
theorem fIx (ha : PED X ct W a ta) (hb : PED X ct W b tb) (hs : PlainIx b) : PEF X ct W (.Subscript a b pos) (opS ixS ta tb) :=
  weakE (pe_ix dIx ha hb hs) fun _ _ _ q => tOpF q
end

/-! ### slices -/
def cutD {α : Type} (xs : List α) (lo hi : Option Int) : List α := (xs.drop (HT.sIx xs.length 0 lo)).take (HT.sIx xs.length xs.length hi - HT.sIx xs.length 0 lo)
def slS : D → Option Int → Option Int → Option Sl
  | .lst xs, lo, hi => some (.ow (.lst (cutD xs lo hi)))
  | .tup xs, lo, hi => some (.sh (.tup (cutD xs lo hi)))
  | .str z, lo, hi => if z.length ≤ sizeLine then some (.sh (.str (cutS z lo hi))) else none
  | _, _, _ => none
def rSl (K : PySem.W.Frag) (ct : List Addr) : V → Option Int → Option Int → Hp → VK → Prop := fun x lo hi H Q => ∃ G dx sl, Same G H ∧ R K ct G x dx ∧ slS dx lo hi = some sl ∧ ∀ v G' H', Ext G H G' H' → RN K ct G' H H' v sl → Q v H'
theorem Rs.cut {K : PySem.W.Frag} {ct : List Addr} {G : Hp} {vs : List V} {ds : List D} (r : Rs K ct G vs ds) (lo hi : Option Int) : Rs K ct G (cutV vs lo hi) (cutD ds lo hi) := by
  unfold cutV cutD
  rw [r.length]
  exact (r.drop _).take _
section
variable {X : Cx} {ct : List Addr} {W : WX} {e : Expr} {te : DM D} {pos p2 : Pos}
theorem dSl : SlR X (rSl X.K ct) := by
  intro pins s σ H x v vl vu lo hi sl Q I rx hs pl pu h
  obtain ⟨G, dx, w, sg, r1, ew, k⟩ := h
  cases r1 with
  | lst ha ra =>
    cases ew
    refine sl_list pins s σ H _ v vl vu lo hi sl Q I rx hs pl pu ⟨_, _, rfl, .inl (.inl (sg _ _ ha)), fun p hp => ?_⟩
    exact k _ G _ (.own sg hp) ⟨p, rfl, hp, sg.free hp, _, upd_same, ra.cut lo hi⟩
  | tup ha ra =>
    rename_i ds
    cases ew
    refine sl_tupA pins s σ H _ v vl vu lo hi sl Q I rx hs pl pu ⟨_, _, rfl, Same.seqT sg ha, fun z => ?_, fun _ p hp => ?_⟩
    · have e2 : cutD ds lo hi = ds := by
        unfold cutD
        rw [← ra.length, z.1, z.2, List.drop_zero, Nat.sub_zero, ra.length, List.take_length]
      exact RN.of_ext sg k rfl (by rw [e2]; exact .tup ha ra)
    · exact k _ _ _ (.new sg hp) (R.tup (.inl (.inl upd_same)) ((ra.cut lo hi).mono (same_upd (sg.free hp))))
  | str z =>
    simp only [slS] at ew
    split at ew
    · rename_i hz
      cases ew
      exact sl_str pins s σ H _ v vl vu lo hi sl Q I rx hs pl pu ⟨z, rfl, hz, RN.of_ext sg k rfl (.str _)⟩
    · cases ew
  | _ => simp [slS] at ew
def tOi (K : PySem.W.Frag) (ct : List Addr) (W : WX) (t : DM (Option Int)) : TO := fun σ H Q => ∃ Φ G ρ, EnvS K ct Φ G H σ ρ ∧ Post K ct Φ W σ G (t ρ) (fun o _ _ H' => Q o H')
def asI : D → Option (Option Int)
  | .int i => some (some i)
  | _ => none
def part (t : DM D) : DM (Option Int) := bnd t fun d => lft (asI d)
theorem oNone : PO X none (tOi X.K ct W (ret none)) := by
  refine ⟨fun pins s σ H Q I q => po_none.run pins s σ H Q I ?_⟩
  obtain ⟨Φ, G, ρ, E, q⟩ := q
  exact q G H (Same.refl _) E
theorem oSome (h : PED X ct W e te) : PO X (some e) (tOi X.K ct W (part te)) := by
  refine ⟨fun pins s σ H Q I q => (po_some h).run pins s σ H Q I ?_⟩
  obtain ⟨Φ, G, ρ, E, q⟩ := q
  refine ⟨Φ, G, ρ, E, (Post.bnd q).imp fun d ρ1 G1 H1 s1 E1 q1 v r => ?_⟩
  obtain ⟨o, eo, k⟩ := lft_post q1.2
  cases r with
  | int i => cases eo; exact ⟨i, rfl, k G1 H1 (Same.refl _) E1⟩
  | _ => cases eo
def slM (te : DM D) (tl th : DM (Option Int)) : DM Sl := bnd te fun x => bnd tl fun l => bnd th fun u => lft (slS x l u)
theorem fSl {lo hi : Option Expr} {tl th : DM (Option Int)} (he : PED X ct W e te) (hl : PO X lo (tOi X.K ct W tl)) (hu : PO X hi (tOi X.K ct W th)) : PEF X ct W (.Subscript e (.Slice lo hi none p2) pos) (slM te tl th) := by
  refine weakE (pe_slice (r := rSl X.K ct) dSl he hl hu) fun σ H Q q => ?_
  obtain ⟨Φ, G, ρ, E, q⟩ := q
  refine ⟨Φ, G, ρ, E, (Post.bnd q).imp fun d ρ1 G1 H1 s1 E1 q1 v1 r1 => ?_⟩
  refine ⟨Φ, G1, ρ1, E1, (Post.bnd q1.2).imp fun l ρ2 G2 H2 s2 E2 q2 => ?_⟩
  refine ⟨Φ, G2, ρ2, E2, (Post.bnd q2.2).imp fun u ρ3 G3 H3 s3 E3 q3 => ?_⟩
  obtain ⟨sl, es, k⟩ := lft_post q3.2
  exact ⟨G3, d, sl, E3.gh, r1.mono (s2.trans s3), es, fun v G' H' x r => k G' H' x.gg (E3.ext x) v (r.rf E3)⟩
end

/-! ### lists of data, displays -/
def tDs (K : PySem.W.Frag) (ct : List Addr) (W : WX) (t : DM (List D)) : TA := fun σ H Q => ∃ Φ G ρ, EnvS K ct Φ G H σ ρ ∧ Post K ct Φ W σ G (t ρ) (fun ds _ G' H' => ∀ vs, Rs K ct G' vs ds → Q vs H')
abbrev PDs (X : Cx) (ct : List Addr) (W : WX) (es : List Expr) (t : DM (List D)) : Prop := PA X es (tDs X.K ct W t)
def consM (t : DM D) (r : DM (List D)) : DM (List D) := bnd t fun d => bnd r fun ds => ret (d :: ds)
section
variable {X : Cx} {ct : List Addr} {W : WX} {e : Expr} {es : List Expr} {t : DM D} {r : DM (List D)} {pos : Pos}
theorem aNil : PDs X ct W [] (ret []) := by
  refine weakA pa_nil fun σ H Q q => ?_
  obtain ⟨Φ, G, ρ, E, q⟩ := q
  exact q G H (Same.refl _) E [] .nil
theorem aCons (h : PED X ct W e t) (hr : PDs X ct W es r) (hs : starEach (e :: es) X.env = (false, eval e X.env) :: starEach es X.env := by rfl) : PDs X ct W (e :: es) (consM t r) := by
  refine weakA (pa_cons h hr hs) fun σ H Q q => ?_
  obtain ⟨Φ, G, ρ, E, q⟩ := q
  refine ⟨Φ, G, ρ, E, (Post.bnd q).imp fun d ρ1 G1 H1 s1 E1 q1 v1 r1 => ?_⟩
  refine ⟨Φ, G1, ρ1, E1, (Post.bnd q1.2).imp fun ds ρ2 G2 H2 s2 E2 q2 vs r2 => ?_⟩
  exact q2.2 G2 H2 (Same.refl _) E2 _ (.cons (r1.mono s2) r2)
def tupM (t : DM (List D)) : DM Sl := bnd t fun ds => lft (if ds.length ≤ sizeLine then some (.sh (.tup ds)) else none)
def lstM (t : DM (List D)) : DM Sl := bnd t fun ds => lft (if ds.length ≤ sizeLine then some (.ow (.lst ds)) else none)
theorem fTup {x1} (h : PDs X ct W es r) : PEF X ct W (.Tuple es x1 pos) (tupM r) := by
  refine weakE (pe_tup h) fun σ H Q q => ?_
  obtain ⟨Φ, G, ρ, E, q⟩ := q
  refine ⟨Φ, G, ρ, E, (Post.bnd q).imp fun ds ρ1 G1 H1 s1 E1 q1 vs r1 => ?_⟩
  obtain ⟨sl, e, k⟩ := lft_post q1.2
  split at e
  · rename_i hz
    cases e
    refine ⟨by rw [r1.length]; exact hz, fun p hp => ?_⟩
    have x : Ext G1 H1 (upd G1 p (.tup vs)) (upd H1 p (.tup vs)) := .new E1.gh hp
    exact k _ _ x.gg (E1.ext x) _ (R.tup (.inl (.inl upd_same)) (r1.mono x.gg))
  · cases e
theorem fLst (h : PDs X ct W es r) : PEF X ct W (.List es pos) (lstM r) := by
  refine weakE (pe_lst h) fun σ H Q q => ?_
  obtain ⟨Φ, G, ρ, E, q⟩ := q
  refine ⟨Φ, G, ρ, E, (Post.bnd q).imp fun ds ρ1 G1 H1 s1 E1 q1 vs r1 => ?_⟩
  obtain ⟨sl, e, k⟩ := lft_post q1.2
  split at e
  · rename_i hz
    cases e
    refine ⟨by rw [r1.length]; exact hz, fun p hp => ?_⟩
    have x : Ext G1 H1 G1 (upd H1 p (.lst vs)) := .own E1.gh hp
    refine k _ _ x.gg (E1.ext x) _ (RN.rf (H := H1) ?_ E1)
    exact ⟨p, rfl, hp, E1.gh.free hp, vs, upd_same, r1⟩
  · cases e

/-! ### calls of built-ins -/
def rC (K : PySem.W.Frag) (ct : List Addr) (g : List D → Option Sl) : List V → Hp → VK → Prop := fun vs H Q => ∃ G ds sl, Same G H ∧ Rs K ct G vs ds ∧ g ds = some sl ∧ ∀ v G' H', Ext G H G' H' → RN K ct G' H H' v sl → Q v H'
def callM (g : List D → Option Sl) (t : DM (List D)) : DM Sl := bnd t fun ds => lft (g ds)
theorem tCBF {g : List D → Option Sl} {σ : St} {H : Hp} {Q : VK} (q : tF X.K ct W (callM g r) σ H Q) : tCB (rC X.K ct g) (tDs X.K ct W r) σ H Q := by
  obtain ⟨Φ, G, ρ, E, q⟩ := q
  refine ⟨Φ, G, ρ, E, (Post.bnd q).imp fun ds ρ1 G1 H1 s1 E1 q1 vs r1 => ?_⟩
  obtain ⟨sl, e, k⟩ := lft_post q1.2
  exact ⟨G1, ds, sl, E1.gh, r1, e, fun v G' H' x rr => k G' H' x.gg (E1.ext x) v (rr.rf E1)⟩
theorem fB {x : Str} {id : String} {p : Pos} {g : List D → Option Sl} (hc : CallR X (.builtin id) (rC X.K ct g)) (hg : Gl X x) (hm : X.mg x = none) (hv : bootBuiltins x = some (.builtin id)) (ha : PDs X ct W (e :: es) r) (hn : x ≠ "__name__" := by decide) (hdb : (x == ("__debug__" : Str)) = false := by decide)
    (he : starEach (e :: es) X.env = (false, eval e X.env) :: starEach es X.env := by rfl) (hpl : (backTo pos (starEach es X.env)).any (·.1) = false := by rfl) : PEF X ct W (.Call (.Name x p) (e :: es) [] pos) (callM g r) :=
  weakE (pe_callB hc hg hm hv ha hn hdb he hpl) fun _ _ _ q => tCBF q
theorem fTy {x : Str} {T : String} {p : Pos} {g : List D → Option Sl} (hc : CallR X (.type T) (rC X.K ct g)) (hg : Gl X x) (hm : X.mg x = none) (hv : bootBuiltins x = some (.type T)) (ha : PDs X ct W (e :: es) r) (hn : x ≠ "__name__" := by decide) (hdb : (x == ("__debug__" : Str)) = false := by decide)
    (he : starEach (e :: es) X.env = (false, eval e X.env) :: starEach es X.env := by rfl) (hpl : (backTo pos (starEach es X.env)).any (·.1) = false := by rfl) : PEF X ct W (.Call (.Name x p) (e :: es) [] pos) (callM g r) :=
  weakE (pe_callTy hc hg hm hv ha hn hdb he hpl) fun _ _ _ q => tCBF q
end
def lenS : List D → Option Sl
  | [.lst xs] => some (.sh (.int xs.length))
  | [.tup xs] => some (.sh (.int xs.length))
  | [.scr xs] => some (.sh (.int xs.length))
  | [.str z] => if z.length ≤ sizeLine then some (.sh (.int z.length)) else none
  | _ => none
def absS : List D → Option Sl
  | [.int i] => some (.sh (.int (if i < 0 then -i else i)))
  | _ => none
def intS : List D → Option Sl
  | [.int i] => some (.sh (.int i))
  | [.bl k] => some (.sh (.int (if k then 1 else 0)))
  | _ => none
def maxS : List D → Option Sl
  | [.int i, .int j] => some (.sh (.int (if j > i then j else i)))
  | _ => none
def minS : List D → Option Sl
  | [.int i, .int j] => some (.sh (.int (if j < i then j else i)))
  | _ => none
def listS : List D → Option Sl
  | [.lst xs] => some (.ow (.lst xs))
  | [.tup xs] => some (.ow (.lst xs))
  | _ => none
def tupleS : List D → Option Sl
  | [.lst xs] => some (.sh (.tup xs))
  | [.tup xs] => some (.sh (.tup xs))
  | _ => none
section
variable {X : Cx} {ct : List Addr}
theorem cLen : CallR X (.builtin "len") (rC X.K ct lenS) := by
  intro pins s σ H vs us Q I r h
  obtain ⟨G, ds, sl, sg, rs, e, k⟩ := h
  cases rs with
  | nil => cases e
  | cons r1 r2 =>
    cases r2 with
    | cons _ _ => revert e; (rename_i d _ _ _ _ _ _; cases d <;> simp [lenS])
    | nil =>
      cases r1 with
      | lst ha ra => cases e; exact call_len_seq pins s σ H _ us Q I r ⟨_, _, rfl, .inl (.inl (.inl (sg _ _ ha))), RN.of_ext sg k rfl (by rw [ra.length]; exact .int _)⟩
      | tup ha ra => cases e; exact call_len_seq pins s σ H _ us Q I r ⟨_, _, rfl, .inr (Same.seqT sg ha), RN.of_ext sg k rfl (by rw [ra.length]; exact .int _)⟩
      | scr ha => cases e; exact call_len_seq pins s σ H _ us Q I r ⟨_, _, rfl, .inl (sg.seq ha), RN.of_ext sg k rfl (by rw [List.length_map]; exact .int _)⟩
      | str z =>
        simp only [lenS] at e
        split at e
        · rename_i hz
          cases e
          exact call_len pins s σ H _ us Q I r ⟨_, z.length, rfl, ⟨hz, rfl⟩, RN.of_ext sg k rfl (.int _)⟩
        · cases e
      | _ => simp [lenS] at e
theorem cAbs : CallR X (.builtin "abs") (rC X.K ct absS) := by
  intro pins s σ H vs us Q I r h
  obtain ⟨G, ds, sl, sg, rs, e, k⟩ := h
  unfold absS at e
  split at e
  · cases e
    cases rs with
    | cons r1 r2 =>
      cases r2; cases r1
      exact call_abs pins s σ H _ us Q I r ⟨_, rfl, RN.of_ext sg k rfl (.int _)⟩
  · cases e
theorem cInt : CallR X (.type "int") (rC X.K ct intS) := by
  intro pins s σ H vs us Q I r h
  obtain ⟨G, ds, sl, sg, rs, e, k⟩ := h
  unfold intS at e
  split at e
  · cases e
    cases rs with
    | cons r1 r2 =>
      cases r2; cases r1
      exact call_int1 pins s σ H _ us Q I r (.inl ⟨_, rfl, RN.of_ext sg k rfl (.int _)⟩)
  · cases e
    cases rs with
    | cons r1 r2 =>
      cases r2; cases r1
      exact call_int1 pins s σ H _ us Q I r (.inr ⟨_, rfl, RN.of_ext sg k rfl (.int _)⟩)
  · cases e
theorem cMax (hc : X.calm = true) : CallR X (.builtin "max") (rC X.K ct maxS) := by
  intro pins s σ H vs us Q I r h
  obtain ⟨G, ds, sl, sg, rs, e, k⟩ := h
  unfold maxS at e
  split at e
  · cases e
    cases rs with
    | cons r1 r2 =>
      cases r2 with
      | cons r3 r4 =>
        cases r4; cases r1; cases r3
        exact call_max2 hc pins s σ H _ us Q I r ⟨_, _, rfl, RN.of_ext sg k rfl (.int _)⟩
  · cases e
theorem cMin (hc : X.calm = true) : CallR X (.builtin "min") (rC X.K ct minS) := by
  intro pins s σ H vs us Q I r h
  obtain ⟨G, ds, sl, sg, rs, e, k⟩ := h
  unfold minS at e
  split at e
  · cases e
    cases rs with
    | cons r1 r2 =>
      cases r2 with
      | cons r3 r4 =>
        cases r4; cases r1; cases r3
        exact call_min2 hc pins s σ H _ us Q I r ⟨_, _, rfl, RN.of_ext sg k rfl (.int _)⟩
  · cases e
theorem cList : CallR X (.type "list") (rC X.K ct listS) := by
  intro pins s σ H vs us Q I r h
  obtain ⟨G, ds, sl, sg, rs, e, k⟩ := h
  unfold listS at e
  split at e
  · cases e
    cases rs with
    | cons r1 r2 =>
      cases r2
      cases r1 with
      | lst ha ra => exact call_list_of pins s σ H _ us Q I r ⟨_, _, rfl, .inl (.inl (.inl (sg _ _ ha))), fun p hp => k _ G _ (.own sg hp) ⟨p, rfl, hp, sg.free hp, _, upd_same, ra⟩⟩
  · cases e
    cases rs with
    | cons r1 r2 =>
      cases r2
      cases r1 with
      | tup ha ra => exact call_list_of pins s σ H _ us Q I r ⟨_, _, rfl, .inr (Same.seqT sg ha), fun p hp => k _ G _ (.own sg hp) ⟨p, rfl, hp, sg.free hp, _, upd_same, ra⟩⟩
  · cases e
theorem cTuple : CallR X (.type "tuple") (rC X.K ct tupleS) := by
  intro pins s σ H vs us Q I r h
  obtain ⟨G, ds, sl, sg, rs, e, k⟩ := h
  unfold tupleS at e
  split at e
  · cases e
    cases rs with
    | cons r1 r2 =>
      cases r2
      cases r1 with
      | lst ha ra => exact call_tuple_of pins s σ H _ us Q I r ⟨_, _, rfl, .inl ⟨.inl (.inl (sg _ _ ha)), fun p hp => k _ _ _ (.new sg hp) (R.tup (.inl (.inl upd_same)) (ra.mono (same_upd (sg.free hp))))⟩⟩
  · cases e
    cases rs with
    | cons r1 r2 =>
      cases r2
      cases r1 with
      | tup ha ra => exact call_tuple_of pins s σ H _ us Q I r ⟨_, _, rfl, .inr ⟨Same.seqT sg ha, RN.of_ext sg k rfl (.tup ha ra)⟩⟩
  · cases e
end
end FD

set_option Elab.async false
set_option linter.all false
set_option maxRecDepth 100000
namespace FD
open PySem L2

/-! ### truth, tests -/
def truD : D → Option Bool
  | .non => some false
  | .bl b => some b
  | .int i => some (i != 0)
  | .str y => if y.length ≤ sizeLine then some ((y.length : Int) != 0) else none
  | .lst xs => some (!xs.isEmpty)
  | .tup xs => some (!xs.isEmpty)
  | _ => none
theorem Rs.isEmpty {K : PySem.W.Frag} {ct : List Addr} {G : Hp} {vs : List V} {ds : List D} (r : Rs K ct G vs ds) : vs.isEmpty = ds.isEmpty := by cases r <;> rfl
theorem R.tru {K : PySem.W.Frag} {ct : List Addr} {G H : Hp} {v : V} {d : D} {b : Bool} (s : Same G H) (r : R K ct G v d) (e : truD d = some b) : TruV K v H b := by
  cases r with
  | non => cases e; rfl
  | bl k => cases e; rfl
  | int i => cases e; rfl
  | str y =>
    simp only [truD] at e
    split at e
    · cases e; exact ⟨by assumption, rfl⟩
    · cases e
  | lst h rs => cases e; exact .inl ⟨_, .inl (.inl (s _ _ h)), by rw [rs.isEmpty]⟩
  | tup h rs => cases e; exact .inr (.inl ⟨_, Same.seqT s h, by rw [rs.isEmpty]⟩)
  | _ => cases e
def asB : Sl → Option Bool
  | .sh (.bl b) => some b
  | _ => none
def truM (t : DM D) : DM Bool := bnd t fun d => lft (truD d)
def testM (t : DM Sl) : DM Bool := bnd t fun sl => lft (asB sl)
def notM (t : DM Bool) : DM Bool := bnd t fun b => ret (!b)
def andM (t u : DM Bool) : DM Bool := bnd t fun b => if b then u else ret false
def orM (t u : DM Bool) : DM Bool := bnd t fun b => if b then ret true else u
def ifM {α : Type} (c : DM Bool) (t u : DM α) : DM α := bnd c fun b => if b then t else u
section
variable {X : Cx} {ct : List Addr} {W : WX} {a b c e : Expr} {ta tb : DM D} {pos : Pos} {rest : List Expr}
theorem cTru (h : PED X ct W e ta) (he : ∀ whole, isTrue e X.env whole = (do let v ← whole; standAt e.pos; holding [v] (truthy v)) := by intro _; rfl) : PTD X ct W e (truM ta) := by
  refine weakT (pt_truth h he) fun σ H Q q => ?_
  obtain ⟨Φ, G, ρ, E, q⟩ := q
  refine ⟨Φ, G, ρ, E, (Post.bnd q).imp fun d ρ1 G1 H1 s1 E1 q1 v r => ?_⟩
  obtain ⟨b, eb, k⟩ := lft_post q1.2
  exact ⟨b, r.tru E1.gh eb, k G1 H1 (Same.refl _) E1⟩
theorem cCmp {op : CmpOp} {g : D → D → Option Sl} (ho : OpR X (compareOp op) (rF X.K ct g)) (ha : PED X ct W a ta) (hb : PED X ct W b tb) (hm : behindInMarks op b = false) : PTD X ct W (.Compare a [op] [b] pos) (testM (opS g ta tb)) := by
  refine weakT (pt_cmpR ho ha hb hm) fun σ H Q q => ?_
  obtain ⟨Φ, G, ρ, E, q⟩ := q
  refine tOpF ⟨Φ, G, ρ, E, (Post.bnd q).imp fun sl ρ1 G1 H1 s1 E1 q1 v r => ?_⟩
  obtain ⟨b, eb, k⟩ := lft_post q1.2
  unfold asB at eb
  split at eb
  · cases eb
    cases r
    exact ⟨_, rfl, k G1 H1 (Same.refl _) E1⟩
  · cases eb
theorem cNot {t : DM Bool} (h : PTD X ct W e t) : PTD X ct W (.UnaryOp .Not e pos) (notM t) := by
  refine weakT (pt_not h) fun σ H Q q => ?_
  obtain ⟨Φ, G, ρ, E, q⟩ := q
  exact ⟨Φ, G, ρ, E, (Post.bnd q).imp fun b ρ1 G1 H1 s1 E1 q1 => q1.2 G1 H1 (Same.refl _) E1⟩
abbrev PWD (X : Cx) (ct : List Addr) (W : WX) (e : Expr) (t : DM Bool) : Prop := PW X e (tTD X.K ct W t)
theorem weakW {X : Cx} {e : Expr} {t t' : TT} (h : PW X e t) (hw : ∀ σ H Q, t' σ H Q → t σ H Q) : PW X e t' := ⟨fun wh pins s σ H Q I q => h.run wh pins s σ H Q I (hw σ H Q q)⟩
theorem wAnd1 {t : DM Bool} (h : PTD X ct W a t) : PWD X ct W (.BoolOp .And [a] pos) t := pw_and1 h
theorem wOr1 {t : DM Bool} (h : PTD X ct W a t) : PWD X ct W (.BoolOp .Or [a] pos) t := pw_or1 h
theorem wAnd {t u : DM Bool} (h : PTD X ct W a t) (hb : PWD X ct W (.BoolOp .And (b :: rest) pos) u) : PWD X ct W (.BoolOp .And (a :: b :: rest) pos) (andM t u) := by
  refine weakW (pw_and h hb) fun σ H Q q => ?_
  obtain ⟨Φ, G, ρ, E, q⟩ := q
  refine ⟨Φ, G, ρ, E, (Post.bnd q).imp fun b ρ1 G1 H1 s1 E1 q1 => ?_⟩
  cases b with
  | true => exact iteT ⟨Φ, G1, ρ1, q1.1, q1.2⟩
  | false => exact iteF (q1.2 G1 H1 (Same.refl _) E1)
theorem wOr {t u : DM Bool} (h : PTD X ct W a t) (hb : PWD X ct W (.BoolOp .Or (b :: rest) pos) u) : PWD X ct W (.BoolOp .Or (a :: b :: rest) pos) (orM t u) := by
  refine weakW (pw_or h hb) fun σ H Q q => ?_
  obtain ⟨Φ, G, ρ, E, q⟩ := q
  refine ⟨Φ, G, ρ, E, (Post.bnd q).imp fun b ρ1 G1 H1 s1 E1 q1 => ?_⟩
  cases b with
  | true => exact iteT (q1.2 G1 H1 (Same.refl _) E1)
  | false => exact iteF ⟨Φ, G1, ρ1, q1.1, q1.2⟩
theorem cW {t : DM Bool} (h : PWD X ct W e t) : PTD X ct W e t := h.pt
/-- a if c else b -/
theorem fIf {c : Expr} {tc : DM Bool} {t u : DM Sl} (hc : PTD X ct W c tc) (ha : PEF X ct W a t) (hb : PEF X ct W b u) : PEF X ct W (.IfExp c a b pos) (ifM tc t u) := by
  refine weakE (pe_ifExp hc ha hb) fun σ H Q q => ?_
  obtain ⟨Φ, G, ρ, E, q⟩ := q
  refine ⟨Φ, G, ρ, E, (Post.bnd q).imp fun b ρ1 G1 H1 s1 E1 q1 => ?_⟩
  cases b with
  | true => exact iteT ⟨Φ, G1, ρ1, q1.1, q1.2⟩
  | false => exact iteF ⟨Φ, G1, ρ1, q1.1, q1.2⟩
/-- a and b, a or b, not a, as values -/
def andV (ta tb : DM D) : DM D := bnd ta fun a => bnd (lft (truD a)) fun k => if k then tb else ret a
def orV (ta tb : DM D) : DM D := bnd ta fun a => bnd (lft (truD a)) fun k => if k then ret a else tb
def notV (ta : DM D) : DM D := bnd ta fun a => bnd (lft (truD a)) fun k => ret (.bl (!k))
theorem vOne {op} (h : PED X ct W a ta) : PED X ct W (.BoolOp op [a] pos) ta := pe_one h
theorem vAnd (h : PED X ct W a ta) (hb : PED X ct W (.BoolOp .And (b :: rest) pos) tb) : PED X ct W (.BoolOp .And (a :: b :: rest) pos) (andV ta tb) := by
  refine weakE (pe_andT h hb) fun σ H Q q => ?_
  obtain ⟨Φ, G, ρ, E, q⟩ := q
  refine ⟨Φ, G, ρ, E, (Post.bnd q).imp fun d ρ1 G1 H1 s1 E1 q1 v r => ?_⟩
  obtain ⟨k, ek, kk⟩ := lft_post (Post.bnd q1.2)
  refine ⟨k, r.tru E1.gh ek, ?_⟩
  have z := kk G1 H1 (Same.refl _) E1
  cases k with
  | true => exact iteT ⟨Φ, G1, ρ1, z.1, z.2⟩
  | false => exact iteF (z.2 G1 H1 (Same.refl _) E1 v r)
theorem vOr (h : PED X ct W a ta) (hb : PED X ct W (.BoolOp .Or (b :: rest) pos) tb) : PED X ct W (.BoolOp .Or (a :: b :: rest) pos) (orV ta tb) := by
  refine weakE (pe_orT h hb) fun σ H Q q => ?_
  obtain ⟨Φ, G, ρ, E, q⟩ := q
  refine ⟨Φ, G, ρ, E, (Post.bnd q).imp fun d ρ1 G1 H1 s1 E1 q1 v r => ?_⟩
  obtain ⟨k, ek, kk⟩ := lft_post (Post.bnd q1.2)
  refine ⟨k, r.tru E1.gh ek, ?_⟩
  have z := kk G1 H1 (Same.refl _) E1
  cases k with
  | true => exact iteT (z.2 G1 H1 (Same.refl _) E1 v r)
  | false => exact iteF ⟨Φ, G1, ρ1, z.1, z.2⟩
theorem vNot (h : PED X ct W a ta) : PED X ct W (.UnaryOp .Not a pos) (notV ta) := by
  refine weakE (pe_notT h) fun σ H Q q => ?_
  obtain ⟨Φ, G, ρ, E, q⟩ := q
  refine ⟨Φ, G, ρ, E, (Post.bnd q).imp fun d ρ1 G1 H1 s1 E1 q1 v r => ?_⟩
  obtain ⟨k, ek, kk⟩ := lft_post (Post.bnd q1.2)
  have z := kk G1 H1 (Same.refl _) E1
  exact ⟨k, r.tru E1.gh ek, z.2 G1 H1 (Same.refl _) E1 _ (.bl _)⟩
/-- a op1 b op2 c -/
def chainM (g h : D → D → Option Sl) (ta tb tc : DM D) : DM Sl := bnd ta fun x => bnd tb fun y => bnd (lft ((g x y).bind asB)) fun k => if k then bnd tc fun z => lft (h y z) else ret (.sh (.bl false))
theorem RN.bl {K : PySem.W.Frag} {ct : List Addr} {G H H' : Hp} {v : V} {sl : Sl} {b : Bool} (r : RN K ct G H H' v sl) (e : asB sl = some b) : v = .bl b := by
  unfold asB at e
  split at e
  · cases e; cases r; rfl
  · cases e
theorem tChainF {g h : D → D → Option Sl} {tc : DM D} {σ : St} {H : Hp} {Q : VK} (q : tF X.K ct W (chainM g h ta tb tc) σ H Q) : tChain (rF X.K ct g) (rF X.K ct h) (tD X.K ct W ta) (tD X.K ct W tb) (tD X.K ct W tc) σ H Q := by
  obtain ⟨Φ, G, ρ, E, q⟩ := q
  refine ⟨Φ, G, ρ, E, (Post.bnd q).imp fun d1 ρ1 G1 H1 s1 E1 q1 v1 r1 => ?_⟩
  refine ⟨Φ, G1, ρ1, E1, (Post.bnd q1.2).imp fun d2 ρ2 G2 H2 s2 E2 q2 v2 r2 => ?_⟩
  obtain ⟨k, ek, kk⟩ := lft_post (Post.bnd q2.2)
  rw [Option.bind_eq_some_iff] at ek
  obtain ⟨sl, e1, e2⟩ := ek
  refine ⟨G2, d1, d2, sl, E2.gh, r1.mono s2, r2, e1, fun v G' H' x r => ?_⟩
  have ev := r.bl e2
  refine ⟨k, ev, ?_⟩
  have z := kk G' H' x.gg (E2.ext x)
  cases k with
  | false => exact iteF (z.2 G' H' (Same.refl _) (E2.ext x) _ (R.bl false))
  | true =>
    refine iteT ⟨Φ, G', ρ2, z.1, (Post.bnd z.2).imp fun d3 ρ3 G3 H3 s3 E3 q3 v3 r3 => ?_⟩
    obtain ⟨sl2, e3, k3⟩ := lft_post q3.2
    exact ⟨G3, d2, d3, sl2, E3.gh, (r2.mono x.gg).mono s3, r3, e3, fun v G4 H4 x4 r4 => k3 G4 H4 x4.gg (E3.ext x4) v (r4.rf E3)⟩
theorem fChain {op op' : CmpOp} {g h : D → D → Option Sl} {tc : DM D} (ho : OpR X (compareOp op) (rF X.K ct g)) (ho' : OpR X (compareOp op') (rF X.K ct h)) (ha : PED X ct W a ta) (hb : PED X ct W b tb) (hc : PED X ct W c tc)
    (hm : lastMarks [op, op'] [b, c] = false := by with_unfolding_all rfl) : PEF X ct W (.Compare a [op, op'] [b, c] pos) (chainM g h ta tb tc) :=
  weakE (pe_chain ho ho' ha hb hc hm) fun _ _ _ q => tChainF q
theorem cChain {op op' : CmpOp} {g h : D → D → Option Sl} {tc : DM D} (ho : OpR X (compareOp op) (rF X.K ct g)) (ho' : OpR X (compareOp op') (rF X.K ct h)) (ha : PED X ct W a ta) (hb : PED X ct W b tb) (hc : PED X ct W c tc)
    (hm : lastMarks [op, op'] [b, c] = false := by with_unfolding_all rfl) : PTD X ct W (.Compare a [op, op'] [b, c] pos) (testM (chainM g h ta tb tc)) := by
  refine weakT (pt_chain ho ho' ha hb hc hm) fun σ H Q q => ?_
  obtain ⟨Φ, G, ρ, E, q⟩ := q
  refine tChainF ⟨Φ, G, ρ, E, (Post.bnd q).imp fun sl ρ1 G1 H1 s1 E1 q1 v r => ?_⟩
  obtain ⟨b, eb, k⟩ := lft_post q1.2
  unfold asB at eb
  split at eb
  · cases eb
    cases r
    exact ⟨_, rfl, k G1 H1 (Same.refl _) E1⟩
  · cases eb
end

/-! ### methods of texts -/
def rM (K : PySem.W.Frag) (ct : List Addr) (g : D → List D → Option Sl) : V → List V → Hp → VK → Prop := fun x vs H Q => ∃ G d ds sl, Same G H ∧ R K ct G x d ∧ Rs K ct G vs ds ∧ g d ds = some sl ∧ ∀ v G' H', Ext G H G' H' → RN K ct G' H H' v sl → Q v H'
def methM (g : D → List D → Option Sl) (to : DM D) (t : DM (List D)) : DM Sl := bnd to fun x => match x with
  | .str s => bnd t fun ds => lft (g (.str s) ds)
  | _ => fun _ => none
section
variable {X : Cx} {ct : List Addr} {W : WX} {o e : Expr} {es : List Expr} {to : DM D} {t : DM (List D)} {id : String} {name : Str} {apos cpos : Pos} {g : D → List D → Option Sl}
theorem fM (slot : Slot "str" name id) (hty : typeOf (.builtin id) = pure (.type "method_descriptor")) (hm : MtR X id (rM X.K ct g)) (ho : PED X ct W o to) (ha : PDs X ct W (e :: es) t)
    (hbase : attributeBase o name X.env (eval o X.env) = eval o X.env := by rfl)
    (hfew : ((backTo cpos (starEach (e :: es) X.env)).all (fun x => !x.1) && (backToKw cpos (keywordEach [] X.env)).all (fun x => x.1.isSome)
      && decide ((e :: es).length + ([] : List Keyword).length + (if ([] : List Keyword).isEmpty then 0 else 1) < 30)) = true := by rfl)
    (hline : (apos.endLine == cpos.line) = true := by rfl) (hs : starEach (e :: es) X.env = (false, eval e X.env) :: starEach es X.env := by rfl) (hplain : (backTo cpos (starEach es X.env)).any (·.1) = false := by rfl) :
    PEF X ct W (.Call (.Attribute o name apos) (e :: es) [] cpos) (methM g to t) := by
  refine weakE (pe_bm (r := rM X.K ct g) F.plainAttrs_str slot hty hm ho ha hbase hfew hline hs hplain) fun σ H Q q => ?_
  obtain ⟨Φ, G, ρ, E, q⟩ := q
  refine ⟨Φ, G, ρ, E, (Post.bnd q).imp fun d ρ1 G1 H1 s1 E1 q1 v1 r1 => ?_⟩
  cases r1 with
  | str x =>
    refine ⟨rfl, Φ, G1, ρ1, E1, (Post.bnd q1.2).imp fun ds ρ2 G2 H2 s2 E2 q2 vs rs => ?_⟩
    obtain ⟨sl, es', k⟩ := lft_post q2.2
    exact ⟨G2, .str x, ds, sl, E2.gh, .str x, rs, es', fun v G' H' x r => k G' H' x.gg (E2.ext x) v (r.rf E2)⟩
  | _ => exact q1.2.elim
theorem fM0 (slot : Slot "str" name id) (hty : typeOf (.builtin id) = pure (.type "method_descriptor")) (hm : MtR X id (rM X.K ct g)) (ho : PED X ct W o to)
    (hbase : attributeBase o name X.env (eval o X.env) = eval o X.env := by rfl) (hline : (apos.endLine == cpos.line) = true := by rfl) : PEF X ct W (.Call (.Attribute o name apos) [] [] cpos) (methM g to (ret [])) := by
  refine weakE (pe_bm0 (r := rM X.K ct g) F.plainAttrs_str slot hty hm ho hbase hline) fun σ H Q q => ?_
  obtain ⟨Φ, G, ρ, E, q⟩ := q
  refine ⟨Φ, G, ρ, E, (Post.bnd q).imp fun d ρ1 G1 H1 s1 E1 q1 v1 r1 => ?_⟩
  cases r1 with
  | str x =>
    obtain ⟨sl, es', k⟩ := lft_post (o := g (.str x) []) q1.2
    exact ⟨rfl, G1, .str x, [], sl, E1.gh, .str x, .nil, es', fun v G' H' x r => k G' H' x.gg (E1.ext x) v (r.rf E1)⟩
  | _ => exact q1.2.elim
end
/-- the texts of a list -/
def strsOf : List D → Option (List Str)
  | [] => some []
  | .str x :: r => (strsOf r).map (x :: ·)
  | _ => none
theorem strsOf_rs {K : PySem.W.Frag} {ct : List Addr} {G : Hp} : ∀ {vs : List V} {ds : List D} {ss : List Str}, Rs K ct G vs ds → strsOf ds = some ss → vs = ss.map V.str
  | _, _, _, .nil, e => by cases e; rfl
  | _, d :: ds, ss, .cons r t, e => by
    cases r with
    | str x =>
      simp only [strsOf, Option.map_eq_some_iff] at e
      obtain ⟨l, e1, e2⟩ := e
      subst e2
      rw [strsOf_rs t e1]; rfl
    | _ => simp [strsOf] at e
def splitS : D → List D → Option Sl
  | .str a, [.str b] => if (b.length == 0) = false ∧ a.length + 2 ≤ sizeLine then some (.ow (.lst ((Txt.split a b).map .str))) else none
  | _, _ => none
def joinS : D → List D → Option Sl
  | .str a, [.lst xs] => (strsOf xs).bind fun ys => if (ys.map (·.length)).sum + ys.length * a.length ≤ 16777216 then some (.sh (.str (Txt.join a ys))) else none
  | .str a, [.tup xs] => (strsOf xs).bind fun ys => if (ys.map (·.length)).sum + ys.length * a.length ≤ 16777216 then some (.sh (.str (Txt.join a ys))) else none
  | _, _ => none
def countS : D → List D → Option Sl
  | .str a, [.str b] => some (.sh (.int (Txt.count a b)))
  | _, _ => none
def upperS : D → List D → Option Sl
  | .str a, [] => if a.length ≤ 5592405 then some (.sh (.str (Txt.upper a))) else none
  | _, _ => none
theorem Rs.strs {K : PySem.W.Frag} {ct : List Addr} {G : Hp} : ∀ (ys : List Str), Rs K ct G (ys.map V.str) (ys.map .str)
  | [] => .nil
  | y :: r => .cons (.str y) (Rs.strs r)
section
variable {X : Cx} {ct : List Addr}
theorem mSplit : MtR X "str.split" (rM X.K ct splitS) := by
  intro pins s σ H x xs v us Q I rx rs h
  obtain ⟨G, d, ds, sl, sg, r1, r2, e, k⟩ := h
  unfold splitS at e
  split at e
  · split at e
    · rename_i hz
      cases e
      cases r1
      cases r2 with
      | cons r3 r4 =>
        cases r4; cases r3
        refine mt_split pins s σ H _ _ v us Q I rx rs ⟨_, _, rfl, rfl, hz.1, hz.2, fun p hp => ?_⟩
        exact k _ G _ (.own sg hp) ⟨p, rfl, hp, sg.free hp, _, upd_same, Rs.strs _⟩
    · cases e
  · cases e
theorem mJoin : MtR X "str.join" (rM X.K ct joinS) := by
  intro pins s σ H x xs v us Q I rx rs h
  obtain ⟨G, d, ds, sl, sg, r1, r2, e, k⟩ := h
  unfold joinS at e
  split at e
  · rw [Option.bind_eq_some_iff] at e
    obtain ⟨ys, e1, e2⟩ := e
    split at e2
    · rename_i hz
      cases e2
      cases r1
      cases r2 with
      | cons r3 r4 =>
        cases r4
        cases r3 with
        | lst ha ra =>
          have ev := strsOf_rs ra e1
          subst ev
          exact mt_join pins s σ H _ _ v us Q I rx rs ⟨_, _, ys, rfl, rfl, .inl (.inl (.inl (sg _ _ ha))), hz, RN.of_ext sg k rfl (.str _)⟩
    · cases e2
  · rw [Option.bind_eq_some_iff] at e
    obtain ⟨ys, e1, e2⟩ := e
    split at e2
    · rename_i hz
      cases e2
      cases r1
      cases r2 with
      | cons r3 r4 =>
        cases r4
        cases r3 with
        | tup ha ra =>
          have ev := strsOf_rs ra e1
          subst ev
          exact mt_join pins s σ H _ _ v us Q I rx rs ⟨_, _, ys, rfl, rfl, .inr (Same.seqT sg ha), hz, RN.of_ext sg k rfl (.str _)⟩
    · cases e2
  · cases e
theorem mCount : MtR X "str.count" (rM X.K ct countS) := by
  intro pins s σ H x xs v us Q I rx rs h
  obtain ⟨G, d, ds, sl, sg, r1, r2, e, k⟩ := h
  unfold countS at e
  split at e
  · cases e
    cases r1
    cases r2 with
    | cons r3 r4 =>
      cases r4; cases r3
      exact mt_count pins s σ H _ _ v us Q I rx rs ⟨_, _, rfl, rfl, RN.of_ext sg k rfl (.int _)⟩
  · cases e
theorem mUpper : MtR X "str.upper" (rM X.K ct upperS) := by
  intro pins s σ H x xs v us Q I rx rs h
  obtain ⟨G, d, ds, sl, sg, r1, r2, e, k⟩ := h
  unfold upperS at e
  split at e
  · split at e
    · rename_i hz
      cases e
      cases r1
      cases r2
      exact mt_upper pins s σ H _ _ v us Q I rx rs ⟨_, rfl, rfl, hz, RN.of_ext sg k rfl (.str _)⟩
    · cases e
  · cases e
end
end FD

set_option Elab.async false
set_option linter.all false
set_option maxRecDepth 100000
namespace FD
open PySem L2

/-! ### statements -/
inductive Fl where
  | nx | rt (sl : Sl) | bk | ct
section
variable (K : PySem.W.Frag) (ct : List Addr)
def FlK (Φ : Fm) (D : Ends) (fl : Fl) (σ : St) (ρ : List Sl) (G H : Hp) : Prop := match fl with
  | .nx => D.nx σ H
  | .bk => D.bk σ H
  | .ct => D.ct σ H
  | .rt sl => ∀ v, RF K ct Φ G H σ ρ v sl → D.rt v H
def PostS (Φ : Fm) (W : WX) (G : Hp) (o : Option (Out Fl)) (D : Ends) : Prop := match o with
  | none => False
  | some (.ok fl ρ') => ∀ σ' G' H', Same G G' → EnvS K ct Φ G' H' σ' ρ' → FlK K ct Φ D fl σ' ρ' G' H'
  | some (.ex x ρ') => ∀ σ' G' H' cls dx, Same G G' → EnvS K ct Φ G' H' σ' ρ' → ExR K ct G' cls dx x → W cls dx σ' H'
def tS (W : WX) (t : DM Fl) : TS := fun D σ H => ∃ Φ G ρ, EnvS K ct Φ G H σ ρ ∧ PostS K ct Φ W G (t ρ) D
end
section
variable {K : PySem.W.Frag} {ct : List Addr} {Φ : Fm} {W : WX} {σ : St} {G G' H : Hp} {D : Ends} {ρ : List Sl}
theorem PostS.mono {o : Option (Out Fl)} (h : PostS K ct Φ W G o D) (s : Same G G') : PostS K ct Φ W G' o D := by
  cases o with
  | none => exact h
  | some o =>
    cases o with
    | ok a ρ' => exact fun σ2 G2 H2 s2 E => h σ2 G2 H2 (s.trans s2) E
    | ex x ρ' => exact fun σ2 G2 H2 c dx s2 E => h σ2 G2 H2 c dx (s.trans s2) E
/-- an expression, then what a statement makes of it -/
theorem PostS.bnd {α : Type} {t : DM α} {f : α → DM Fl} (h : PostS K ct Φ W G (bnd t f ρ) D) :
    Post K ct Φ W σ G (t ρ) (fun a ρ' G' H' => EnvS K ct Φ G' H' σ ρ' ∧ PostS K ct Φ W G' (f a ρ') D) := by
  unfold FD.bnd at h
  cases e : t ρ with
  | none => rw [e] at h; exact h
  | some o =>
    rw [e] at h
    cases o with
    | ok a ρ' => exact fun G2 H2 s2 E => ⟨E, PostS.mono h s2⟩
    | ex x ρ' => exact fun G2 H2 c dx s2 E r => h σ G2 H2 c dx s2 E r
end
section
variable (X : Cx) (ct : List Addr) (W : WX)
abbrev PSD (st : Stmt) (t : DM Fl) : Prop := PS X st (tS X.K ct W t)
abbrev PSsD (st : List Stmt) (t : DM Fl) : Prop := PSs X st (tS X.K ct W t)
end
def seqM (t u : DM Fl) : DM Fl := bnd t fun fl => match fl with
  | .nx => u
  | fl => ret fl
section
variable {X : Cx} {ct : List Addr} {W : WX} {st : Stmt} {rest : List Stmt} {t u : DM Fl} {pos : Pos}
theorem sNil : PSsD X ct W [] (ret .nx) := by
  refine weakSs pss_nil fun D σ H q => ?_
  obtain ⟨Φ, G, ρ, E, q⟩ := q
  exact q σ G H (Same.refl _) E
theorem sCons (h1 : PSD X ct W st t) (h2 : PSsD X ct W rest u) : PSsD X ct W (st :: rest) (seqM t u) := by
  refine weakSs (pss_cons h1 h2) fun D σ H q => ?_
  obtain ⟨Φ, G, ρ, E, q⟩ := q
  refine ⟨Φ, G, ρ, E, ?_⟩
  unfold seqM FD.bnd at q
  cases e : t ρ with
  | none => rw [e] at q; exact q
  | some o =>
    rw [e] at q
    cases o with
    | ex x ρ' => exact q
    | ok fl ρ' =>
      cases fl with
      | nx => exact fun σ2 G2 H2 s2 E2 => ⟨Φ, G2, ρ', E2, PostS.mono q s2⟩
      | rt sl => exact q
      | bk => exact q
      | ct => exact q
theorem sOne (h1 : PSD X ct W st t) : PSsD X ct W [st] t := pss_one h1
theorem sPass : PSD X ct W (.Pass pos) (ret .nx) := by
  refine weakS ps_pass fun D σ H q => ?_
  obtain ⟨Φ, G, ρ, E, q⟩ := q
  exact q σ G H (Same.refl _) E
theorem sBreak : PSD X ct W (.Break pos) (ret .bk) := by
  refine weakS ps_break fun D σ H q => ?_
  obtain ⟨Φ, G, ρ, E, q⟩ := q
  exact q σ G H (Same.refl _) E
theorem sCont : PSD X ct W (.Continue pos) (ret .ct) := by
  refine weakS ps_continue fun D σ H q => ?_
  obtain ⟨Φ, G, ρ, E, q⟩ := q
  exact q σ G H (Same.refl _) E
def dropM (t : DM Sl) : DM Fl := bnd t fun _ => ret .nx
theorem sExpr {e : Expr} {t : DM Sl} (h : PEF X ct W e t) (hs : swapsWith e none pos.line X.env = pure false := by rfl) : PSD X ct W (.Expr e pos) (dropM t) := by
  refine weakS (ps_expr h hs) fun D σ H q => ?_
  obtain ⟨Φ, G, ρ, E, q⟩ := q
  exact ⟨Φ, G, ρ, E, (PostS.bnd q).imp fun sl ρ1 G1 H1 s1 E1 q1 v r => q1.2 σ G1 H1 (Same.refl _) E1⟩
def retM (t : DM Sl) : DM Fl := bnd t fun sl => ret (.rt sl)
theorem sRet {e : Expr} {t : DM Sl} (h : PEF X ct W e t) : PSD X ct W (.Return (some e) pos) (retM t) := by
  refine weakS (ps_ret h) fun D σ H q => ?_
  obtain ⟨Φ, G, ρ, E, q⟩ := q
  exact ⟨Φ, G, ρ, E, (PostS.bnd q).imp fun sl ρ1 G1 H1 s1 E1 q1 v r => q1.2 σ G1 H1 (Same.refl _) E1 v r⟩
theorem sRetN : PSD X ct W (.Return none pos) (ret (.rt (.sh .non))) := by
  refine weakS ps_retN fun D σ H q => ?_
  obtain ⟨Φ, G, ρ, E, q⟩ := q
  exact q σ G H (Same.refl _) E .non R.non
theorem sIf {c : Expr} {a b : List Stmt} {tc : DM Bool} (hc : PTD X ct W c tc) (ha : PSsD X ct W a t) (hb : PSsD X ct W b u) : PSD X ct W (.If c a b pos) (ifM tc t u) := by
  refine weakS (ps_if hc ha hb) fun D σ H q => ?_
  obtain ⟨Φ, G, ρ, E, q⟩ := q
  refine ⟨Φ, G, ρ, E, (PostS.bnd q).imp fun b ρ1 G1 H1 s1 E1 q1 => ?_⟩
  cases b with
  | true => exact iteT ⟨Φ, G1, ρ1, q1.1, q1.2⟩
  | false => exact iteF ⟨Φ, G1, ρ1, q1.1, q1.2⟩
end

/-! ### slots are set -/
def setSl (i : Nat) (sl : Sl) (ρ : List Sl) : Option (List Sl) := match ρ[i]?, sl with
  | some (.pn _), _ => none
  | some _, .sh d => some (ρ.set i (.sh d))
  | some _, .ow d => some (ρ.set i (.ow d))
  | _, _ => none
theorem isOwn_set_ne {ρ : List Sl} {i j : Nat} {sl : Sl} (h : i ≠ j) : (ρ.set i sl)[j]? = ρ[j]? := List.getElem?_set_ne h
section
variable {K : PySem.W.Frag} {ct : List Addr} {Φ : Fm} {G G' H : Hp} {σ : St} {ρ ρ' : List Sl} {i : Nat} {sl : Sl} {v : V}
theorem EnvS.set (E : EnvS K ct Φ G H σ ρ) (r : RF K ct Φ G H σ ρ v sl) (e : setSl i sl ρ = some ρ') : EnvS K ct Φ G H (σ.set i (some v)) ρ' := by
  have hi : ∃ s0, ρ[i]? = some s0 ∧ (∀ d, s0 ≠ .pn d) ∧ ρ' = ρ.set i sl ∧ (∀ d, sl ≠ .pn d) ∧ sl ≠ .un := by
    unfold setSl at e
    cases h : ρ[i]? with
    | none => rw [h] at e; cases e
    | some s0 =>
      rw [h] at e
      cases s0 <;> cases sl <;> first | (cases e; done) | (cases e; exact ⟨_, rfl, by simp, rfl, by simp, by simp⟩)
  obtain ⟨s0, h0, hp, rfl, hs1, hs2⟩ := hi
  have hl : i < ρ.length := (List.getElem?_eq_some_iff.mp h0).1
  have hl2 : i < σ.length := by rw [← E.len]; exact hl
  have hown : ∀ (j : Nat) (d : D), isOwn (ρ.set i sl)[j]? = some d → (j ≠ i ∧ isOwn ρ[j]? = some d) ∨ (j = i ∧ sl = .ow d) := fun j d h => by
    by_cases hj : i = j
    · subst hj
      rw [List.getElem?_set_self hl] at h
      cases sl with
      | ow d' => cases h; exact .inr ⟨rfl, rfl⟩
      | pn d' => exact absurd rfl (hs1 d')
      | _ => cases h
    · rw [List.getElem?_set_ne hj] at h
      exact .inl ⟨fun z => hj z.symm, h⟩
  refine ⟨by simpa using E.len, E.gh, E.g0, E.fr, E.dom, E.gn, fun j p hj => ?_, fun j d hj => ?_, fun j d hj => ?_, fun j k dj dk p hjk hj hk ej ek => ?_⟩
  · obtain ⟨h1, d, h2⟩ := E.pin j p hj
    have hne : i ≠ j := fun z => by
      subst z
      rw [h0] at h2
      cases h2
      exact hp d rfl
    rw [List.getElem?_set_ne hne, List.getElem?_set_ne hne]
    exact ⟨h1, d, h2⟩
  · by_cases hij : i = j
    · subst hij
      rw [List.getElem?_set_self hl] at hj
      cases sl with
      | sh d' => cases hj; exact ⟨v, List.getElem?_set_self hl2, r⟩
      | _ => cases hj
    · rw [List.getElem?_set_ne hij] at hj ⊢
      exact E.sh j d hj
  · rcases hown j d hj with ⟨hne, h⟩ | ⟨rfl, rfl⟩
    · obtain ⟨p, h1, h2, h3, h4, h5⟩ := E.own j d h
      rw [List.getElem?_set_ne (Ne.symm hne), List.getElem?_set_ne (Ne.symm hne)]
      exact ⟨p, h1, h2, h3, h4, h5⟩
    · obtain ⟨p, rfl, h1, h2, h3, h4⟩ := r
      refine ⟨p, List.getElem?_set_self hl2, h1, h2, fun z => ?_, fun _ => h3⟩
      rw [List.getElem?_set_self hl] at z
      cases z
  · rcases hown j dj hj with ⟨hne, h⟩ | ⟨rfl, rfl⟩
    · rw [List.getElem?_set_ne (Ne.symm hne)] at ej
      rcases hown k dk hk with ⟨hne2, h2⟩ | ⟨rfl, rfl⟩
      · rw [List.getElem?_set_ne (Ne.symm hne2)] at ek
        exact E.ne j k dj dk p hjk h h2 ej ek
      · obtain ⟨q, rfl, _, _, _, h4⟩ := r
        rw [List.getElem?_set_self hl2] at ek
        cases ek
        exact h4 j dj h ej
    · obtain ⟨q, rfl, _, _, _, h4⟩ := r
      rw [List.getElem?_set_self hl2] at ej
      cases ej
      rcases hown k dk hk with ⟨hne2, h2⟩ | ⟨rfl, _⟩
      · rw [List.getElem?_set_ne (Ne.symm hne2)] at ek
        exact h4 k dk h2 ek
      · exact hjk rfl
end
def setF (i : Nat) (sl : Sl) : DM Fl := fun ρ => match setSl i sl ρ with
  | some ρ' => some (.ok .nx ρ')
  | none => none
def setM (i : Nat) (t : DM Sl) : DM Fl := bnd t (setF i)
theorem setF_post {K : PySem.W.Frag} {ct : List Addr} {Φ : Fm} {W : WX} {σ : St} {G H : Hp} {D : Ends} {ρ : List Sl} {i : Nat} {sl : Sl} {v : V} (h : PostS K ct Φ W G (setF i sl ρ) D) (E : EnvS K ct Φ G H σ ρ) (r : RF K ct Φ G H σ ρ v sl) : D.nx (σ.set i (some v)) H := by
  unfold setF at h
  cases e : setSl i sl ρ with
  | none => rw [e] at h; exact h.elim
  | some ρ' => rw [e] at h; exact h _ G H (Same.refl _) (E.set r e)
section
variable {X : Cx} {ct : List Addr} {W : WX} {pos : Pos}
theorem sSet (i : Nat) {x : Str} {e : Expr} {t : DM Sl} {pos' : Pos} (hN : X.N.Nodup) (h : PEF X ct W e t) (hi : X.N[i]? = some x := by rfl) (hx : Loc X.env.scope x := by first | exact Or.inl rfl | exact Or.inr rfl) (hs : swapsWith e (some (.Name x pos')) pos.line X.env = pure false := by rfl)
    (hf : X.fn x = true ∨ X.env.scope.names.lookup x = some .local := by first | exact .inl rfl | exact .inr rfl | assumption) : PSD X ct W (.Assign [.Name x pos'] e pos) (setM i t) := by
  refine weakS (ps_set (i := i) hN hi hx h hs hf) fun D σ H q => ?_
  obtain ⟨Φ, G, ρ, E, q⟩ := q
  exact ⟨Φ, G, ρ, E, (PostS.bnd q).imp fun sl ρ1 G1 H1 s1 E1 q1 v r => setF_post q1.2 E1 r⟩

/-! ### targets, data unpacked -/
abbrev Tg := D → List Sl → Option (List Sl)
def tGd (K : PySem.W.Frag) (ct : List Addr) (m : Tg) : TG := fun v σ H Q => ∃ Φ G ρ d ρ', EnvS K ct Φ G H σ ρ ∧ R K ct G v d ∧ m d ρ = some ρ' ∧ ∀ σ' G' H', Same G G' → EnvS K ct Φ G' H' σ' ρ' → Q σ' H'
def tGds (K : PySem.W.Frag) (ct : List Addr) (m : List D → List Sl → Option (List Sl)) : TGs := fun vs σ H Q => ∃ Φ G ρ ds ρ', EnvS K ct Φ G H σ ρ ∧ Rs K ct G vs ds ∧ m ds ρ = some ρ' ∧ ∀ σ' G' H', Same G G' → EnvS K ct Φ G' H' σ' ρ' → Q σ' H'
theorem weakG {X : Cx} {e : Expr} {t t' : TG} (h : PG X e t) (hw : ∀ v σ H Q, t' v σ H Q → t v σ H Q) : PG X e t' := ⟨fun pins s σ H v u Q I r q => h.run pins s σ H v u Q I r (hw v σ H Q q)⟩
theorem weakGs {X : Cx} {e : List Expr} {t t' : TGs} (h : PGs X e t) (hw : ∀ v σ H Q, t' v σ H Q → t v σ H Q) : PGs X e t' := ⟨fun pins s σ H v u Q I r q => h.run pins s σ H v u Q I r (hw v σ H Q q)⟩
abbrev PGD (X : Cx) (ct : List Addr) (e : Expr) (m : Tg) : Prop := PG X e (tGd X.K ct m)
abbrev PGsD (X : Cx) (ct : List Addr) (e : List Expr) (m : List D → List Sl → Option (List Sl)) : Prop := PGs X e (tGds X.K ct m)
def gN (i : Nat) : Tg := fun d ρ => setSl i (.sh d) ρ
theorem gName (i : Nat) {x : Str} (hN : X.N.Nodup) (hi : X.N[i]? = some x := by rfl) (hx : Loc X.env.scope x := by first | exact Or.inl rfl | exact Or.inr rfl) (hf : X.fn x = true ∨ X.env.scope.names.lookup x = some .local := by first | exact .inl rfl | exact .inr rfl | assumption) : PGD X ct (.Name x pos) (gN i) := by
  refine weakG (pg_name (i := i) hN hi hx hf) fun v σ H Q q => ?_
  obtain ⟨Φ, G, ρ, d, ρ', E, r, e, k⟩ := q
  exact k _ G H (Same.refl _) (E.set (sl := .sh d) r e)
def gs0 : List D → List Sl → Option (List Sl) := fun ds ρ => match ds with
  | [] => some ρ
  | _ => none
def gs1 (m : Tg) (r : List D → List Sl → Option (List Sl)) : List D → List Sl → Option (List Sl) := fun ds ρ => match ds with
  | d :: ds => (m d ρ).bind (r ds)
  | _ => none
theorem gsNil : PGsD X ct [] gs0 := by
  refine weakGs pgs_nil fun vs σ H Q q => ?_
  obtain ⟨Φ, G, ρ, ds, ρ', E, r, e, k⟩ := q
  cases r with
  | nil => cases e; exact ⟨rfl, k σ G H (Same.refl _) E⟩
  | cons _ _ => cases e
theorem gsCons {e : Expr} {es : List Expr} {m : Tg} {r : List D → List Sl → Option (List Sl)} (h1 : PGD X ct e m) (h2 : PGsD X ct es r)
    (hs : (assignEach (e :: es) X.env).map (·.2) = assign e X.env :: (assignEach es X.env).map (·.2) := by rfl) : PGsD X ct (e :: es) (gs1 m r) := by
  refine weakGs (pgs_cons h1 h2 hs) fun vs σ H Q q => ?_
  obtain ⟨Φ, G, ρ, ds, ρ', E, rr, e, k⟩ := q
  cases rr with
  | nil => cases e
  | cons r1 r2 =>
    simp only [gs1, Option.bind_eq_some_iff] at e
    obtain ⟨ρ1, e1, e2⟩ := e
    exact ⟨_, _, rfl, Φ, G, ρ, _, ρ1, E, r1, e1, fun σ1 G1 H1 s1 E1 => ⟨Φ, G1, ρ1, _, ρ', E1, r2.mono s1, e2, fun σ2 G2 H2 s2 E2 => k σ2 G2 H2 (s1.trans s2) E2⟩⟩
def gT (n : Nat) (r : List D → List Sl → Option (List Sl)) : Tg := fun d ρ => match d with
  | .tup ds => if ds.length = n then r ds ρ else none
  | _ => none
theorem gTup {es : List Expr} {k n : Nat} {r : List D → List Sl → Option (List Sl)} (hc : X.calm = true) (h : PGsD X ct es r)
    (hn : (assignEach es X.env).length = n := by rfl) (hst : (assignEach es X.env).findIdx? (·.1) = none := by rfl) : PGD X ct (.Tuple es k pos) (gT n r) := by
  refine weakG (pg_tup (n := n) hc h hn hst) fun v σ H Q q => ?_
  obtain ⟨Φ, G, ρ, d, ρ', E, rr, e, k⟩ := q
  cases rr with
  | tup h1 h2 =>
    simp only [gT] at e
    split at e
    · rename_i hl
      exact ⟨_, _, rfl, Same.seqT E.gh h1, by rw [h2.length]; exact hl, Φ, G, ρ, _, ρ', E, h2, e, k⟩
    · cases e
  | _ => cases e
/-- target = data -/
def asgM (m : Tg) (t : DM D) : DM Fl := bnd t fun d ρ => match m d ρ with
  | some ρ' => some (.ok .nx ρ')
  | none => none
theorem sAsg {tg e : Expr} {t : DM D} {m : Tg} (h : PED X ct W e t) (hg : PGD X ct tg m) (hs : swapsWithSole [tg] e pos.line X.env = pure false := by rfl) (hw : swappedStores [tg] e X.env = pure none := by rfl)
    (h1 : (assignEach [tg] X.env).map (·.2) = [assign tg X.env] := by rfl) : PSD X ct W (.Assign [tg] e pos) (asgM m t) := by
  refine weakS (ps_asg h hg hs hw h1) fun D σ H q => ?_
  obtain ⟨Φ, G, ρ, E, q⟩ := q
  refine ⟨Φ, G, ρ, E, (PostS.bnd q).imp fun d ρ1 G1 H1 s1 E1 q1 v r => ?_⟩
  have z := q1.2
  cases e : m d ρ1 with
  | none => rw [e] at z; exact z.elim
  | some ρ' =>
    rw [e] at z
    exact ⟨Φ, G1, ρ1, d, ρ', E1, r, e, fun σ' G' H' s' E' => z σ' G' H' s' E'⟩
end
end FD

set_option Elab.async false
set_option linter.all false
set_option maxRecDepth 100000
namespace FD
open PySem L2

/-! ### what a loop walks -/
/-- J hands out the data ds, one after another -/
def ItD (K : PySem.W.Frag) (ct : List Addr) (G : Hp) (J : It) (ds : List D) : Prop := ∀ (i : Nat) (G1 H1 : Hp), Same G G1 → Same G1 H1 →
  (∀ d, ds[i]? = some d → J.go i H1 ∧ ∀ x H2, J.yld i H1 x H2 → ∃ G2, Ext G1 H1 G2 H2 ∧ R K ct G2 x d) ∧ (ds.length ≤ i → J.stop i H1)
def tI (K : PySem.W.Frag) (ct : List Addr) (W : WX) (t : DM (List D)) : TI := fun σ H Rr => ∃ Φ G ρ, EnvS K ct Φ G H σ ρ ∧ Post K ct Φ W σ G (t ρ) (fun ds _ G' H' => ∀ J, ItD K ct G' J ds → Rr J H')
abbrev PID (X : Cx) (ct : List Addr) (W : WX) (tg e : Expr) (t : DM (List D)) : Prop := PI X tg e (tI X.K ct W t)
theorem weakI {X : Cx} {tg e : Expr} {t t' : TI} (h : PI X tg e t) (hw : ∀ σ H Q, t' σ H Q → t σ H Q) : PI X tg e t' := ⟨fun pins s σ H Q I q => h.run pins s σ H Q I (hw σ H Q q)⟩
def itemsD : D → Option (List D)
  | .lst ds => some ds
  | _ => none
def itemsT : D → Option (List D)
  | .tup ds => some ds
  | _ => none
def itemsS : D → Option (List D)
  | .str z => some (z.cps.toList.map fun c => .str ⟨#[c]⟩)
  | _ => none
def rangeL (lo : Int) (n : Nat) : List D := (List.range n).map fun (k : Nat) => .int (lo + (k : Nat))
def rng1 : List D → Option (List D)
  | [.int j] => if -(2 ^ 62) ≤ j ∧ j < 2 ^ 62 then some (rangeL 0 j.toNat) else none
  | _ => none
def rng2 : List D → Option (List D)
  | [.int i, .int j] => if -(2 ^ 62) ≤ i ∧ i < 2 ^ 62 ∧ -(2 ^ 62) ≤ j ∧ j < 2 ^ 62 then some (rangeL i (j - i).toNat) else none
  | _ => none
def enumL : Nat → List D → List D
  | _, [] => []
  | n, d :: ds => .tup [.int n, d] :: enumL (n + 1) ds
def enumD : List D → Option (List D)
  | [.lst ds] => some (enumL 0 ds)
  | _ => none
theorem enumL_get : ∀ (ds : List D) (n i : Nat), (enumL n ds)[i]? = ds[i]?.map fun d => .tup [.int ((n + i : Nat) : Int), d]
  | [], _, _ => by simp [enumL]
  | d :: ds, n, 0 => by simp [enumL]
  | d :: ds, n, i + 1 => by
    simp only [enumL, List.getElem?_cons_succ]
    rw [enumL_get ds (n + 1) i, show n + 1 + i = n + (i + 1) by omega]
theorem enumL_length : ∀ (ds : List D) (n : Nat), (enumL n ds).length = ds.length
  | [], _ => rfl
  | d :: ds, n => by simp [enumL, enumL_length ds]
section
variable {X : Cx} {ct : List Addr} {W : WX} {tg e : Expr} {t : DM D} {r : DM (List D)} {pos p : Pos}
theorem iLst (h : PED X ct W e t) : PID X ct W tg e (bnd t fun d => lft (itemsD d)) := by
  refine weakI (pi_list h) fun σ H Q q => ?_
  obtain ⟨Φ, G, ρ, E, q⟩ := q
  refine ⟨Φ, G, ρ, E, (Post.bnd q).imp fun d ρ1 G1 H1 s1 E1 q1 v r => ?_⟩
  obtain ⟨ds, ed, k⟩ := lft_post q1.2
  cases r with
  | lst ha ra =>
    cases ed
    refine ⟨_, rfl, ⟨_, .inl (.inl (E1.gh _ _ ha))⟩, k G1 H1 (Same.refl _) E1 _ fun i G2 H2 s2 s3 => ⟨fun d hd => ?_, fun hi => ?_⟩⟩
    · obtain ⟨x, hx, rx⟩ := ra.get hd
      have sq : SqL X.K H2 _ _ := .inl (.inl (s3 _ _ (s2 _ _ ha)))
      exact ⟨⟨_, x, sq, hx⟩, fun y H3 hy => ⟨G2, by rw [hy.1]; exact .refl s3, by
        have := hy.2 _ sq
        rw [hx] at this; cases this
        exact rx.mono s2⟩⟩
    · exact ⟨_, .inl (.inl (s3 _ _ (s2 _ _ ha))), by rw [ra.length]; exact hi⟩
  | _ => cases ed
theorem iTup (h : PED X ct W e t) : PID X ct W tg e (bnd t fun d => lft (itemsT d)) := by
  refine weakI (pi_tup h) fun σ H Q q => ?_
  obtain ⟨Φ, G, ρ, E, q⟩ := q
  refine ⟨Φ, G, ρ, E, (Post.bnd q).imp fun d ρ1 G1 H1 s1 E1 q1 v r => ?_⟩
  obtain ⟨ds, ed, k⟩ := lft_post q1.2
  cases r with
  | tup ha ra =>
    cases ed
    refine ⟨_, rfl, ⟨_, Same.seqT E1.gh ha⟩, k G1 H1 (Same.refl _) E1 _ fun i G2 H2 s2 s3 => ⟨fun d hd => ?_, fun hi => ?_⟩⟩
    · obtain ⟨x, hx, rx⟩ := ra.get hd
      have sq : SqT X.K H2 _ _ := Same.seqT s3 (Same.seqT s2 ha)
      exact ⟨⟨_, x, sq, hx⟩, fun y H3 hy => ⟨G2, by rw [hy.1]; exact .refl s3, by
        have := hy.2 _ sq
        rw [hx] at this; cases this
        exact rx.mono s2⟩⟩
    · exact ⟨_, Same.seqT s3 (Same.seqT s2 ha), by rw [ra.length]; exact hi⟩
  | _ => cases ed
theorem iStrD (h : PED X ct W e t) : PID X ct W tg e (bnd t fun d => lft (itemsS d)) := by
  refine weakI (pi_str h) fun σ H Q q => ?_
  obtain ⟨Φ, G, ρ, E, q⟩ := q
  refine ⟨Φ, G, ρ, E, (Post.bnd q).imp fun d ρ1 G1 H1 s1 E1 q1 v r => ?_⟩
  obtain ⟨ds, ed, k⟩ := lft_post q1.2
  cases r with
  | str z =>
    cases ed
    refine ⟨z, rfl, k G1 H1 (Same.refl _) E1 _ fun i G2 H2 s2 s3 => ⟨fun d hd => ?_, fun hi => ?_⟩⟩
    · rw [List.getElem?_map, Option.map_eq_some_iff] at hd
      obtain ⟨c, hc, rfl⟩ := hd
      have hc' : z.cps[i]? = some c := by rw [← Array.getElem?_toList]; exact hc
      refine ⟨(Array.getElem?_eq_some_iff.mp hc').1, fun y H3 hy => ⟨G2, by rw [hy.1]; exact .refl s3, ?_⟩⟩
      obtain ⟨c', h1, rfl⟩ := hy.2
      rw [hc'] at h1; cases h1
      exact .str _
    · show z.cps.size ≤ i
      simpa using hi
  | _ => cases ed
theorem rangeL_get (lo : Int) (n i : Nat) : (rangeL lo n)[i]? = if i < n then some (.int (lo + i)) else none := by
  unfold rangeL
  rw [List.getElem?_map]
  by_cases h : i < n
  · rw [if_pos h, List.getElem?_range h]; rfl
  · rw [if_neg h, List.getElem?_eq_none (by simpa using h)]; rfl
theorem itR {K : PySem.W.Frag} {G : Hp} (lo : Int) (n : Nat) : ItD K ct G (Itr lo n) (rangeL lo n) := fun i G2 H2 s2 s3 => by
  refine ⟨fun d hd => ?_, fun hi => ?_⟩
  · rw [rangeL_get] at hd
    split at hd
    · rename_i h
      cases hd
      exact ⟨h, fun y H3 hy => ⟨G2, by rw [hy.1]; exact .refl s3, by rw [hy.2]; exact .int _⟩⟩
    · cases hd
  · have : (rangeL lo n).length = n := by simp [rangeL]
    show n ≤ i
    omega
theorem iRng1 {a : Expr} (hg : Gl X "range") (hm : X.mg "range" = none) (ha : PDs X ct W [a] r) (hs : starEach [a] X.env = [(false, eval a X.env)] := by rfl) : PID X ct W tg (.Call (.Name "range" p) [a] [] pos) (bnd r fun ds => lft (rng1 ds)) := by
  refine weakI (pi_range1 hg hm ha hs) fun σ H Q q => ?_
  obtain ⟨Φ, G, ρ, E, q⟩ := q
  refine ⟨Φ, G, ρ, E, (Post.bnd q).imp fun ds ρ1 G1 H1 s1 E1 q1 vs rs => ?_⟩
  obtain ⟨ds', ed, k⟩ := lft_post q1.2
  unfold rng1 at ed
  split at ed
  · split at ed
    · rename_i h
      cases ed
      cases rs with
      | cons r1 r2 =>
        cases r2; cases r1
        exact ⟨_, rfl, h.1, h.2, k G1 H1 (Same.refl _) E1 _ (itR _ _)⟩
    · cases ed
  · cases ed
theorem iRng2 {a b : Expr} (hg : Gl X "range") (hm : X.mg "range" = none) (ha : PDs X ct W [a, b] r) (hs : starEach [a, b] X.env = [(false, eval a X.env), (false, eval b X.env)] := by rfl) (hs2 : starEach [b] X.env = [(false, eval b X.env)] := by rfl) :
    PID X ct W tg (.Call (.Name "range" p) [a, b] [] pos) (bnd r fun ds => lft (rng2 ds)) := by
  refine weakI (pi_range2 hg hm ha hs hs2) fun σ H Q q => ?_
  obtain ⟨Φ, G, ρ, E, q⟩ := q
  refine ⟨Φ, G, ρ, E, (Post.bnd q).imp fun ds ρ1 G1 H1 s1 E1 q1 vs rs => ?_⟩
  obtain ⟨ds', ed, k⟩ := lft_post q1.2
  unfold rng2 at ed
  split at ed
  · split at ed
    · rename_i h
      cases ed
      cases rs with
      | cons r1 r2 =>
        cases r2 with
        | cons r3 r4 =>
          cases r4; cases r1; cases r3
          exact ⟨_, _, rfl, h, k G1 H1 (Same.refl _) E1 _ (itR _ _)⟩
    · cases ed
  · cases ed
theorem iEnumD {elts : List Expr} {kk : Nat} {tpos : Pos} (hg : Gl X "enumerate") (hm : X.mg "enumerate" = none) (ha : PDs X ct W [e] r) (hs : starEach [e] X.env = [(false, eval e X.env)] := by rfl) :
    PID X ct W (.Tuple elts kk tpos) (.Call (.Name "enumerate" p) [e] [] pos) (bnd r fun ds => lft (enumD ds)) := by
  refine weakI (pi_enum hg hm ha hs) fun σ H Q q => ?_
  obtain ⟨Φ, G, ρ, E, q⟩ := q
  refine ⟨Φ, G, ρ, E, (Post.bnd q).imp fun ds ρ1 G1 H1 s1 E1 q1 vs rs => ?_⟩
  obtain ⟨ds', ed, k⟩ := lft_post q1.2
  unfold enumD at ed
  split at ed
  · cases ed
    cases rs with
    | cons r1 r2 =>
      cases r2
      cases r1 with
      | lst ha ra =>
        refine ⟨_, _, rfl, .inl (.inl (E1.gh _ _ ha)), k G1 H1 (Same.refl _) E1 _ fun i G2 H2 s2 s3 => ⟨fun d hd => ?_, fun hi => ?_⟩⟩
        · rw [enumL_get, Option.map_eq_some_iff] at hd
          obtain ⟨d0, hd0, rfl⟩ := hd
          obtain ⟨x, hx, rx⟩ := ra.get hd0
          have sq : SqL X.K H2 _ _ := .inl (.inl (s3 _ _ (s2 _ _ ha)))
          refine ⟨⟨_, x, sq, hx⟩, fun y H3 hy => ?_⟩
          obtain ⟨T, z, rfl, hT, rfl, hz⟩ := hy
          have := hz _ sq
          rw [hx] at this; cases this
          have ex : Ext G2 H2 (upd G2 T (.tup [.int (i : Nat), x])) (upd H2 T (.tup [.int (i : Nat), x])) := .new s3 hT
          refine ⟨_, ex, .tup (.inl (.inl upd_same)) (.cons ?_ (.cons ((rx.mono s2).mono ex.gg) .nil))⟩
          rw [Nat.zero_add]
          exact .int _
        · exact ⟨_, .inl (.inl (s3 _ _ (s2 _ _ ha))), by rw [ra.length, ← enumL_length _ 0]; exact hi⟩
  · cases ed
end

/-! ### for, while -/
def forL (m : Tg) (b : DM Fl) : List D → DM Fl
  | [] => ret .nx
  | d :: ds => fun ρ => match m d ρ with
    | none => none
    | some ρ1 => match b ρ1 with
      | some (.ok .nx ρ2) => forL m b ds ρ2
      | some (.ok .ct ρ2) => forL m b ds ρ2
      | some (.ok .bk ρ2) => some (.ok .nx ρ2)
      | some (.ok (.rt sl) ρ2) => some (.ok (.rt sl) ρ2)
      | some (.ex x ρ2) => some (.ex x ρ2)
      | none => none
def forM (m : Tg) (b : DM Fl) (t : DM (List D)) : DM Fl := bnd t fun ds => forL m b ds
def whileN (c : DM Bool) (b : DM Fl) : Nat → DM Fl
  | 0 => fun _ => none
  | n + 1 => bnd c fun k => if k then (fun ρ => match b ρ with
      | some (.ok .nx ρ2) => whileN c b n ρ2
      | some (.ok .ct ρ2) => whileN c b n ρ2
      | some (.ok .bk ρ2) => some (.ok .nx ρ2)
      | some (.ok (.rt sl) ρ2) => some (.ok (.rt sl) ρ2)
      | some (.ex x ρ2) => some (.ex x ρ2)
      | none => none) else ret .nx
section
variable {X : Cx} {ct : List Addr} {W : WX} {tg iter : Expr} {body : List Stmt} {t : DM (List D)} {b : DM Fl} {m : Tg} {pos : Pos}
theorem sFor (hp : PassesOwn (model X.prog X.w) X.A X.env X.xe) (hc : X.calm = true) (hi : PID X ct W tg iter t) (hg : PGD X ct tg m) (hb : PSsD X ct W body b)
    (hs : ∀ x, foldedSetIterable iter X.env x = pure x := by intro _; rfl) : PSD X ct W (.For tg iter body [] pos) (forM m b t) := by
  refine weakS (ps_for hp hc hi hg hb hs) fun D σ H q => ?_
  obtain ⟨Φ, G, ρ, E, q⟩ := q
  refine ⟨Φ, G, ρ, E, (PostS.bnd q).imp fun ds ρ1 G1 H1 s1 E1 q1 J hJ => ?_⟩
  refine ⟨fun i n σ' H' => n = ds.length - i ∧ i ≤ ds.length ∧ ∃ G' ρ', Same G1 G' ∧ EnvS X.K ct Φ G' H' σ' ρ' ∧ PostS X.K ct Φ W G' (forL m b (ds.drop i) ρ') D, ⟨ds.length, by omega, Nat.zero_le _, G1, ρ1, Same.refl _, E1, q1.2⟩, ?_⟩
  rintro i n σ2 H2 ⟨rfl, hi, G2, ρ2, s2, E2, q2⟩
  by_cases hlt : i < ds.length
  · have hd : ds[i]? = some ds[i] := List.getElem?_eq_getElem hlt
    have e : ds.drop i = ds[i] :: ds.drop (i + 1) := List.drop_eq_getElem_cons hlt
    rw [e] at q2
    unfold forL at q2
    obtain ⟨go, yl⟩ := (hJ i G2 H2 s2 E2.gh).1 _ hd
    cases em : m ds[i] ρ2 with
    | none => rw [em] at q2; exact q2.elim
    | some ρ3 =>
      rw [em] at q2
      simp only at q2
      refine .inr ⟨go, fun σ' H' => ∃ G' ρ', Same G1 G' ∧ EnvS X.K ct Φ G' H' σ' ρ' ∧ PostS X.K ct Φ W G' (forL m b (ds.drop (i + 1)) ρ') D, fun σ' H' ⟨G', ρ', a1, a2, a3⟩ => ⟨_, ?_, rfl, hlt, G', ρ', a1, a2, a3⟩, fun x H3 hx => ?_⟩
      · omega
      · obtain ⟨G3, ex, rx⟩ := yl x H3 hx
        refine ⟨Φ, G3, ρ2, _, ρ3, E2.ext ex, rx, em, fun σ4 G4 H4 s4 E4 => ⟨Φ, G4, ρ3, E4, ?_⟩⟩
        have sm : Same G2 G4 := ex.gg.trans s4
        cases eb : b ρ3 with
        | none => rw [eb] at q2; exact q2.elim
        | some o =>
          rw [eb] at q2
          cases o with
          | ex x ρ5 => exact PostS.mono (o := some (.ex x ρ5)) q2 sm
          | ok fl ρ5 =>
            cases fl with
            | nx => exact fun σ5 G5 H5 s5 E5 => ⟨G5, ρ5, s2.trans (sm.trans s5), E5, PostS.mono q2 (sm.trans s5)⟩
            | ct => exact fun σ5 G5 H5 s5 E5 => ⟨G5, ρ5, s2.trans (sm.trans s5), E5, PostS.mono q2 (sm.trans s5)⟩
            | bk => exact fun σ5 G5 H5 s5 E5 => q2 σ5 G5 H5 (sm.trans s5) E5
            | rt sl => exact fun σ5 G5 H5 s5 E5 => q2 σ5 G5 H5 (sm.trans s5) E5
  · have e : ds.drop i = [] := List.drop_eq_nil_of_le (by omega)
    rw [e] at q2
    exact .inl ⟨(hJ i G2 H2 s2 E2.gh).2 (by omega), q2 σ2 G2 H2 (Same.refl _) E2⟩
theorem sWhile {c : Expr} {tc : DM Bool} (n : Nat) (hp : PassesOwn (model X.prog X.w) X.A X.env X.xe) (hc : PTD X ct W c tc) (hb : PSsD X ct W body b) : PSD X ct W (.While c body [] pos) (whileN tc b n) := by
  refine weakS (ps_while hp hc hb) fun D σ H q => ?_
  obtain ⟨Φ, G, ρ, E, q⟩ := q
  refine ⟨fun k σ' H' => ∃ G' ρ', EnvS X.K ct Φ G' H' σ' ρ' ∧ PostS X.K ct Φ W G' (whileN tc b k ρ') D, ⟨n, G, ρ, E, q⟩, ?_⟩
  rintro k σ2 H2 ⟨G2, ρ2, E2, q2⟩
  cases k with
  | zero => exact q2.elim
  | succ k =>
    unfold whileN at q2
    refine ⟨Φ, G2, ρ2, E2, (PostS.bnd q2).imp fun bb ρ3 G3 H3 s3 E3 q3 => ?_⟩
    cases bb with
    | false => exact iteF (q3.2 σ2 G3 H3 (Same.refl _) E3)
    | true =>
      have q4 := q3.2
      refine iteT ⟨fun σ' H' => ∃ G' ρ', EnvS X.K ct Φ G' H' σ' ρ' ∧ PostS X.K ct Φ W G' (whileN tc b k ρ') D, fun σ' H' z => ⟨k, Nat.lt_succ_self k, z⟩, Φ, G3, ρ3, E3, ?_⟩
      simp only [if_true] at q4
      cases eb : b ρ3 with
      | none => rw [eb] at q4; exact q4.elim
      | some o =>
        rw [eb] at q4
        cases o with
        | ex x ρ5 => exact q4
        | ok fl ρ5 =>
          cases fl with
          | nx => exact fun σ5 G5 H5 s5 E5 => ⟨G5, ρ5, E5, PostS.mono q4 s5⟩
          | ct => exact fun σ5 G5 H5 s5 E5 => ⟨G5, ρ5, E5, PostS.mono q4 s5⟩
          | bk => exact fun σ5 G5 H5 s5 E5 => q4 σ5 G5 H5 s5 E5
          | rt sl => exact fun σ5 G5 H5 s5 E5 => q4 σ5 G5 H5 s5 E5
end

/-! ### things of one's own are changed -/
def own? : Option Sl → Option (D × (D → Sl))
  | some (.ow d) => some (d, .ow)
  | some (.pn d) => some (d, .pn)
  | _ => none
section
variable {K : PySem.W.Frag} {ct : List Addr} {Φ : Fm} {G H : Hp} {σ : St} {ρ : List Sl} {i : Nat} {d d' : D} {f : D → Sl} {p : Addr} {o : HO}
theorem own_is (h : own? ρ[i]? = some (d, f)) : isOwn ρ[i]? = some d ∧ ((ρ[i]? = some (.ow d) ∧ f = Sl.ow) ∨ (ρ[i]? = some (.pn d) ∧ f = Sl.pn)) := by
  unfold own? at h
  split at h
  · rename_i e; cases h; rw [e]; exact ⟨rfl, .inl ⟨rfl, rfl⟩⟩
  · rename_i e; cases h; rw [e]; exact ⟨rfl, .inr ⟨rfl, rfl⟩⟩
  · cases h
theorem EnvS.write (E : EnvS K ct Φ G H σ ρ) (h : own? ρ[i]? = some (d, f)) (ep : σ[i]? = some (some (.ref p))) (hr : HoR K ct G (upd H p o) p d') : EnvS K ct Φ G (upd H p o) σ (ρ.set i (f d')) := by
  obtain ⟨ho, hk⟩ := own_is h
  obtain ⟨q, e1, e2, e3, e4, e5⟩ := E.own i d ho
  rw [ep] at e1; cases e1
  have hl : i < ρ.length := by
    cases z : ρ[i]? with
    | none => rw [z] at ho; cases ho
    | some s => exact (List.getElem?_eq_some_iff.mp z).1
  have hf : isOwn (some (f d')) = some d' := by rcases hk with ⟨_, e⟩ | ⟨_, e⟩ <;> rw [e] <;> rfl
  have hown : ∀ (j : Nat) (dj : D), isOwn (ρ.set i (f d'))[j]? = some dj → (j ≠ i ∧ isOwn ρ[j]? = some dj) ∨ (j = i ∧ dj = d') := fun j dj hj => by
    by_cases hij : i = j
    · subst hij
      rw [List.getElem?_set_self hl, hf] at hj
      cases hj
      exact .inr ⟨rfl, rfl⟩
    · rw [List.getElem?_set_ne hij] at hj
      exact .inl ⟨Ne.symm hij, hj⟩
  have hne : ∀ (j : Nat) (dj : D) (q : Addr), j ≠ i → isOwn ρ[j]? = some dj → σ[j]? = some (some (.ref q)) → q ≠ p := fun j dj q hj h1 h2 z => by
    subst z
    exact E.ne j i dj d q hj h1 ho h2 ep
  refine ⟨by simpa using E.len, fun b x e => ?_, E.g0, fun b x h1 h2 => ?_, fun b x h1 => ?_, E.gn, fun j q hj => ?_, fun j dj hj => ?_, fun j dj hj => ?_, fun j k dj dk q hjk hj hk' ej ek => ?_⟩
  · have hb : b ≠ p := fun z => by rw [z, e2] at e; cases e
    rw [upd_ne hb]; exact E.gh b x e
  · have hb : b ≠ p := fun z => by
      subst z
      rcases hk with ⟨k1, _⟩ | ⟨k1, _⟩
      · rw [e5 k1] at h1; cases h1
      · exact h2 i (e4 k1)
    rw [upd_ne hb]; exact E.fr b x h1 h2
  · by_cases hb : b = p
    · subst hb; exact ⟨o, upd_same⟩
    · rw [upd_ne hb]; exact E.dom b x h1
  · obtain ⟨a1, a2, a3⟩ := E.pin j q hj
    refine ⟨a1, ?_⟩
    by_cases hij : i = j
    · subst hij
      rcases hk with ⟨k1, _⟩ | ⟨k1, kf⟩
      · rw [k1] at a3; cases a3
      · rw [List.getElem?_set_self hl, kf]; exact ⟨d', rfl⟩
    · rw [List.getElem?_set_ne hij]; exact ⟨a2, a3⟩
  · by_cases hij : i = j
    · subst hij
      rw [List.getElem?_set_self hl] at hj
      rcases hk with ⟨_, e⟩ | ⟨_, e⟩ <;> (rw [e] at hj; cases hj)
    · rw [List.getElem?_set_ne hij] at hj
      exact E.sh j dj hj
  · rcases hown j dj hj with ⟨h1, h2⟩ | ⟨rfl, rfl⟩
    · obtain ⟨q, a1, a2, a3, a4, a5⟩ := E.own j dj h2
      rw [List.getElem?_set_ne (Ne.symm h1)]
      exact ⟨q, a1, a2, a3.mono (Same.refl _) (upd_ne (hne j dj q h1 h2 a1)), a4, a5⟩
    · refine ⟨p, ep, e2, hr, fun z => ?_, fun z => ?_⟩
      · rw [List.getElem?_set_self hl] at z
        rcases hk with ⟨k1, e⟩ | ⟨k1, e⟩
        · rw [e] at z; cases z
        · exact e4 k1
      · rw [List.getElem?_set_self hl] at z
        rcases hk with ⟨k1, e⟩ | ⟨k1, e⟩
        · exact e5 k1
        · rw [e] at z; cases z
  · rcases hown j dj hj with ⟨h1, h2⟩ | ⟨rfl, rfl⟩
    · rcases hown k dk hk' with ⟨h3, h4⟩ | ⟨rfl, rfl⟩
      · exact E.ne j k dj dk q hjk h2 h4 ej ek
      · exact E.ne j k dj d q hjk h2 ho ej ek
    · rcases hown k dk hk' with ⟨h3, h4⟩ | ⟨rfl, rfl⟩
      · exact E.ne j k d dk q hjk ho h4 ej ek
      · exact hjk rfl
end
/-- xs.append(e) -/
def appF (i : Nat) (d : D) : DM Fl := fun ρ => match own? ρ[i]? with
  | some (.lst xs, f) => if xs.length < sizeLine then some (.ok .nx (ρ.set i (f (.lst (xs ++ [d]))))) else none
  | _ => none
def appM (i : Nat) (t : DM (List D)) : DM Fl := fun ρ => match own? ρ[i]? with
  | some (.lst _, _) => bnd t (fun ds => match ds with | [d] => appF i d | _ => fun _ => none) ρ
  | _ => none
/-- xs[k] = e -/
def stF (i : Nat) (d k : D) : DM Fl := fun ρ => match own? ρ[i]?, k with
  | some (.lst xs, f), .int j => match ixN xs.length j with
    | some n => some (.ok .nx (ρ.set i (f (.lst (xs.set n d)))))
    | none => none
  | _, _ => none
def stM (i : Nat) (tk te : DM D) : DM Fl := bnd te fun d => fun ρ => match own? ρ[i]? with
  | some (.lst _, _) => bnd tk (fun k => stF i d k) ρ
  | _ => none
section
variable {X : Cx} {ct : List Addr} {W : WX} {pos p1 p2 p3 p4 : Pos} {x : Str} {e : Expr}
theorem sApp (i : Nat) {t : DM (List D)} {apos cpos : Pos} (h : PDs X ct W [e] t) (hN : X.N[i]? = some x := by rfl) (hv : Vis X.env.scope x := by first | exact Or.inl rfl | exact Or.inr (Or.inl rfl) | exact Or.inr (Or.inr rfl)) (hd : (x == ("__debug__" : Str)) = false := by decide) (hcd : (x == ("__classdict__" : Str)) = false := by decide)
    (hbase : attributeBase (.Name x p1) "append" X.env (eval (.Name x p1) X.env) = eval (.Name x p1) X.env := by rfl)
    (hfew : ((backTo cpos (starEach [e] X.env)).all (fun x => !x.1) && (backToKw cpos (keywordEach [] X.env)).all (fun x => x.1.isSome)
      && decide ([e].length + ([] : List Keyword).length + (if ([] : List Keyword).isEmpty then 0 else 1) < 30)) = true := by rfl)
    (hline : (apos.endLine == cpos.line) = true := by rfl) (hs : starEach [e] X.env = (false, eval e X.env) :: starEach [] X.env := by rfl) (hplain : (backTo cpos (starEach [] X.env)).any (·.1) = false := by rfl)
    (hsw : swapsWith (.Call (.Attribute (.Name x p1) "append" apos) [e] [] cpos) none pos.line X.env = pure false := by rfl) :
    PSD X ct W (.Expr (.Call (.Attribute (.Name x p1) "append" apos) [e] [] cpos) pos) (appM i t) := by
  refine weakS (ps_expr (pe_bm F.plainAttrs_list F.slot_list_append F.type_list_append mt_append (pe_var (i := i) hN hv hd hcd) h hbase hfew hline hs hplain) hsw) fun D σ H q => ?_
  obtain ⟨Φ, G, ρ, E, q⟩ := q
  unfold appM at q
  cases ho : own? ρ[i]? with
  | none => rw [ho] at q; exact q.elim
  | some dd =>
    rw [ho] at q
    obtain ⟨d0, f0⟩ := dd
    cases d0 with
    | lst xs0 =>
      obtain ⟨p, e1, e2, e3, _⟩ := E.own i _ (own_is ho).1
      obtain ⟨vs0, e4, e5⟩ := e3
      refine ⟨.ref p, e1, .inl ⟨rfl, vs0, .inl (.inl e4)⟩, Φ, G, ρ, E, (PostS.bnd q).imp fun ds ρ1 G1 H1 s1 E1 q1 vs rs => ?_⟩
      have q2 := q1.2
      cases rs with
      | nil => exact q2.elim
      | cons r1 r2 =>
        cases r2 with
        | cons _ _ => exact q2.elim
        | nil =>
          unfold appF at q2
          cases ho1 : own? ρ1[i]? with
          | none => simp only [ho1] at q2; exact q2.elim
          | some dd1 =>
            simp only [ho1] at q2
            obtain ⟨d1, f1⟩ := dd1
            cases d1 with
            | lst xs1 =>
              simp only at q2
              split at q2
              · rename_i hz
                obtain ⟨p', a1, a2, a3, _⟩ := E1.own i _ (own_is ho1).1
                rw [e1] at a1; cases a1
                obtain ⟨vs1, a4, a5⟩ := a3
                refine ⟨p, vs1, _, rfl, rfl, a4, by rw [a5.length]; exact hz, ?_⟩
                exact q2 σ G1 _ (Same.refl _) (E1.write (o := .lst (vs1 ++ [_])) ho1 e1 ⟨_, upd_same, a5.append (.cons r1 .nil)⟩)
              · exact q2.elim
            | _ => exact q2.elim
    | _ => exact q.elim
theorem sStore (i : Nat) {k : Expr} {tk te : DM D} (h : PED X ct W e te) (hk : PED X ct W k tk) (hN : X.N[i]? = some x := by rfl) (hv : Vis X.env.scope x := by first | exact Or.inl rfl | exact Or.inr (Or.inl rfl) | exact Or.inr (Or.inr rfl)) (hd : (x == ("__debug__" : Str)) = false := by decide) (hcd : (x == ("__classdict__" : Str)) = false := by decide)
    (ha : ∀ v, assign (.Subscript (.Name x p1) k p2) X.env v = (do
      let ov ← holding [v] (eval (.Name x p1) X.env)
      let iv ← holding [v, ov] (eval k X.env)
      standAt p2
      holding [v, ov, iv] (setItem ov iv v)
      release [v, ov, iv] []) := by intro _; rfl)
    (hs : swapsWithSole [.Subscript (.Name x p1) k p2] e pos.line X.env = pure false := by rfl) (hw : swappedStores [.Subscript (.Name x p1) k p2] e X.env = pure none := by rfl)
    (h1 : (assignEach [.Subscript (.Name x p1) k p2] X.env).map (·.2) = [assign (.Subscript (.Name x p1) k p2) X.env] := by rfl) : PSD X ct W (.Assign [.Subscript (.Name x p1) k p2] e pos) (stM i tk te) := by
  refine weakS (ps_asg h (pg_sub (pe_var (i := i) hN hv hd hcd) hk set_list ha) hs hw h1) fun D σ H q => ?_
  obtain ⟨Φ, G, ρ, E, q⟩ := q
  refine ⟨Φ, G, ρ, E, (PostS.bnd q).imp fun d ρ1 G1 H1 s1 E1 q1 v r => ?_⟩
  have q2 := q1.2
  cases ho : own? ρ1[i]? with
  | none => rw [ho] at q2; exact q2.elim
  | some dd =>
    rw [ho] at q2
    obtain ⟨d0, f0⟩ := dd
    cases d0 with
    | lst xs0 =>
      obtain ⟨p, e1, e2, e3, _⟩ := E1.own i _ (own_is ho).1
      refine ⟨.ref p, e1, Φ, G1, ρ1, E1, (PostS.bnd q2).imp fun kk ρ2 G2 H2 s2 E2 q3 kv rk => ?_⟩
      have q4 := q3.2
      unfold stF at q4
      cases ho1 : own? ρ2[i]? with
      | none => rw [ho1] at q4; exact q4.elim
      | some dd1 =>
        rw [ho1] at q4
        obtain ⟨d1, f1⟩ := dd1
        cases d1 with
        | lst xs1 =>
          cases rk with
          | int j =>
            simp only at q4
            cases en : ixN xs1.length j with
            | none => rw [en] at q4; exact q4.elim
            | some n =>
              rw [en] at q4
              obtain ⟨p', a1, a2, a3, _⟩ := E2.own i _ (own_is ho1).1
              rw [e1] at a1; cases a1
              obtain ⟨vs1, a4, a5⟩ := a3
              refine ⟨p, vs1, j, n, rfl, rfl, a4, by rw [a5.length]; exact en, ?_⟩
              exact q4 σ G2 _ (Same.refl _) (E2.write (o := .lst (vs1.set n v)) ho1 e1 ⟨_, upd_same, a5.set n (r.mono s2)⟩)
          | _ => exact q4.elim
        | _ => exact q4.elim
    | _ => exact q2.elim
/-- x op= e -/
def augM (i : Nat) (g : D → D → Option Sl) (t : DM D) : DM Fl := bnd (opS g (get i) t) (setF i)
theorem sAug (i : Nat) {op : Operator} {g : D → D → Option Sl} {t : DM D} (hN : X.N.Nodup) (ho : OpR X (inplaceOp op) (rF X.K ct g)) (h : PED X ct W e t) (hi : X.N[i]? = some x := by rfl) (hx : Loc X.env.scope x := by first | exact Or.inl rfl | exact Or.inr rfl)
    (hf : X.fn x = true ∨ X.env.scope.names.lookup x = some .local := by first | exact .inl rfl | exact .inr rfl | assumption) : PSD X ct W (.AugAssign (.Name x p1) op e pos) (augM i g t) := by
  refine weakS (ps_aug (i := i) hN hi hx h ho hf) fun D σ H q => ?_
  obtain ⟨Φ, G, ρ, E, q⟩ := q
  have q0 := Post.bnd (PostS.bnd (σ := σ) q)
  unfold get at q0
  cases hs : ρ[i]? with
  | none => rw [hs] at q0; exact q0.elim
  | some sl =>
    rw [hs] at q0
    cases sl with
    | un => exact q0.elim
    | ow d => exact q0.elim
    | pn d => exact q0.elim
    | sh d =>
      obtain ⟨v, ev, r⟩ := E.sh i d hs
      obtain ⟨_, q1⟩ := q0 G H (Same.refl _) E
      refine ⟨v, ev, Φ, G, ρ, E, (Post.bnd q1).imp fun d2 ρ2 G2 H2 s2 E2 q2 v2 r2 => ?_⟩
      obtain ⟨sl, es, k⟩ := lft_post q2.2
      exact ⟨G2, d, d2, sl, E2.gh, r.mono s2, r2, es, fun z G' H' xx rr => setF_post (k G' H' xx.gg (E2.ext xx)).2 (E2.ext xx) (rr.rf E2)⟩
def iaddS : D → D → Option Sl
  | .int i, .int j => some (.sh (.int (i + j)))
  | _, _ => none
theorem dIadd : OpR X (inplaceOp .Add) (rF X.K ct iaddS) := by
  intro pins s σ H x y v u Q I rx ry h
  obtain ⟨G, dx, dy, sl, sg, r1, r2, e, k⟩ := h
  cases r1 with
  | int i =>
    cases r2 with
    | int j => cases e; exact iop_add pins s σ H _ _ v u Q I rx ry ⟨i, j, rfl, rfl, RN.of_ext sg k rfl (.int _)⟩
    | _ => simp [iaddS] at e
  | _ => simp [iaddS] at e
end
end FD

set_option Elab.async false
set_option linter.all false
set_option maxRecDepth 100000
namespace FD
open PySem L2

/-! ### the promise of a def -/
/-- from the arguments' slots to the value and what became of the lent things -/
abbrev DF := List Sl → Option (Out Sl)
def SpF (K : PySem.W.Frag) (ct : List Addr) (F : DF) : Sp := fun vs H Q E => tF K ct (fun c d _ H' => E c d H') F (vs.map some) H Q

/-! ### a call: what is lent, what comes back -/
def argSl (ρ : List Sl) : Ar → Option Sl
  | .val d => some (.sh d)
  | .lend i => (own? ρ[i]?).map fun x => .pn x.1
def argSls (ρ : List Sl) : List Ar → Option (List Sl)
  | [] => some []
  | a :: r => (argSl ρ a).bind fun s => (argSls ρ r).map (s :: ·)
def lends : List Ar → List Nat
  | [] => []
  | .val _ :: r => lends r
  | .lend i :: r => i :: lends r
def nodupN : List Nat → Bool
  | [] => true
  | i :: r => !r.contains i && nodupN r
def back1 (ρ : List Sl) (i : Nat) (d : D) : List Sl := match own? ρ[i]? with
  | some (_, f) => ρ.set i (f d)
  | none => ρ
def back : List Sl → List Ar → List Sl → List Sl
  | ρ, .lend i :: ars, s :: as => back (back1 ρ i s.dat) ars as
  | ρ, .val _ :: ars, _ :: as => back ρ ars as
  | ρ, _, _ => ρ
def callF (F : DF) (ars : List Ar) : DM Sl := fun ρ => match argSls ρ ars with
  | none => none
  | some as => if nodupN (lends ars) then (match F as with
      | some (.ok sl as') => some (.ok sl (back ρ ars as'))
      | some (.ex x as') => some (.ex x (back ρ ars as'))
      | none => none) else none

section
variable {K : PySem.W.Frag} {ct : List Addr} {Φ : Fm} {G H : Hp} {σ : St} {ρ : List Sl}
theorem argSls_get : ∀ {ars : List Ar} {as : List Sl} {vs : List V}, argSls ρ ars = some as → ArRs K ct G σ vs ars → as.length = ars.length ∧ vs.length = ars.length ∧ ∀ (j : Nat) (a : Ar), ars[j]? = some a → ∃ s v, as[j]? = some s ∧ vs[j]? = some v ∧ argSl ρ a = some s ∧ ArR K ct G σ v a
  | [], as, _, h, .nil => by cases h; exact ⟨rfl, rfl, fun j a e => by simp at e⟩
  | a :: r, as, _, h, .cons r1 r2 => by
    simp only [argSls, Option.bind_eq_some_iff, Option.map_eq_some_iff] at h
    obtain ⟨s, e1, l, e2, rfl⟩ := h
    obtain ⟨h1, h2, h3⟩ := argSls_get e2 r2
    refine ⟨by simp [h1], by simp [h2], fun j b e => ?_⟩
    cases j with
    | zero => cases e; exact ⟨s, _, rfl, rfl, e1, r1⟩
    | succ j => exact h3 j b (by simpa using e)
theorem lends_mem : ∀ {ars : List Ar} {j i : Nat}, ars[j]? = some (.lend i) → i ∈ lends ars
  | a :: r, 0, i, h => by cases h; exact List.mem_cons_self
  | .val _ :: r, j + 1, i, h => lends_mem (ars := r) (j := j) (by simpa using h)
  | .lend k :: r, j + 1, i, h => List.mem_cons_of_mem _ (lends_mem (ars := r) (j := j) (by simpa using h))
theorem lends_inj : ∀ {ars : List Ar} {j k i : Nat}, nodupN (lends ars) = true → ars[j]? = some (.lend i) → ars[k]? = some (.lend i) → j = k
  | a :: r, 0, 0, i, _, _, _ => rfl
  | a :: r, 0, k + 1, i, h, e1, e2 => by
    cases e1
    simp only [lends, nodupN, Bool.and_eq_true, Bool.not_eq_true'] at h
    have := lends_mem (ars := r) (j := k) (by simpa using e2)
    have h1 := h.1
    simp [this] at h1
  | a :: r, j + 1, 0, i, h, e1, e2 => by
    cases e2
    simp only [lends, nodupN, Bool.and_eq_true, Bool.not_eq_true'] at h
    have := lends_mem (ars := r) (j := j) (by simpa using e1)
    have h1 := h.1
    simp [this] at h1
  | a :: r, j + 1, k + 1, i, h, e1, e2 => by
    have h' : nodupN (lends r) = true := by
      cases a with
      | val d => exact h
      | lend n =>
        simp only [lends, nodupN, Bool.and_eq_true] at h
        exact h.2
    exact congrArg (· + 1) (lends_inj h' (by simpa using e1) (by simpa using e2))
/-- the pins of a call -/
def pinsA (ars : List Ar) (vs : List V) : List (Nat × Addr) := (List.range ars.length).filterMap fun (j : Nat) => match (ars[j]? : Option Ar), (vs[j]? : Option V) with
  | some (.lend _), some (.ref p) => some (j, p)
  | _, _ => none
theorem mem_pinsA {ars : List Ar} {vs : List V} {j : Nat} {p : Addr} : (j, p) ∈ pinsA ars vs ↔ ∃ i, ars[j]? = some (.lend i) ∧ vs[j]? = some (.ref p) := by
  unfold pinsA
  rw [List.mem_filterMap]
  constructor
  · rintro ⟨k, hk, e⟩
    split at e
    · rename_i i p' h1 h2
      cases e
      exact ⟨i, h1, h2⟩
    · cases e
  · rintro ⟨i, h1, h2⟩
    refine ⟨j, ?_, by rw [h1, h2]⟩
    rw [List.mem_range]
    exact (List.getElem?_eq_some_iff.mp h1).1
theorem EnvS.entry (E : EnvS K ct Φ G H σ ρ) {ars : List Ar} {as : List Sl} {vs : List V} (h : argSls ρ ars = some as) (hn : nodupN (lends ars) = true) (r : ArRs K ct G σ vs ars) : EnvS K ct ⟨H, G, pinsA ars vs⟩ G H (vs.map some) as := by
  obtain ⟨l1, l2, hg⟩ := argSls_get h r
  have hv : ∀ j, (vs.map some)[j]? = vs[j]?.map some := fun j => List.getElem?_map
  have ha : ∀ (j : Nat) (s : Sl), as[j]? = some s → ∃ a v, ars[j]? = some a ∧ vs[j]? = some v ∧ argSl ρ a = some s ∧ ArR K ct G σ v a := fun j s e => by
    have hj : j < ars.length := by rw [← l1]; exact (List.getElem?_eq_some_iff.mp e).1
    obtain ⟨s', v, e1, e2, e3, e4⟩ := hg j _ (List.getElem?_eq_getElem hj)
    rw [e] at e1; cases e1
    exact ⟨_, v, List.getElem?_eq_getElem hj, e2, e3, e4⟩
  have hown : ∀ (j : Nat) (d : D), isOwn as[j]? = some d → ∃ i p f, ars[j]? = some (.lend i) ∧ vs[j]? = some (.ref p) ∧ own? ρ[i]? = some (d, f) ∧ σ[i]? = some (some (.ref p)) ∧ as[j]? = some (.pn d) ∧ G p = none ∧ HoR K ct G H p d := fun j d e => by
    cases q : as[j]? with
    | none => rw [q] at e; cases e
    | some s =>
      obtain ⟨a, v, e1, e2, e3, e4⟩ := ha j s q
      cases a with
      | val d' => cases e3; rw [q] at e; cases e
      | lend i =>
        simp only [argSl, Option.map_eq_some_iff] at e3
        obtain ⟨⟨d', f⟩, e5, rfl⟩ := e3
        rw [q] at e; cases e
        obtain ⟨p, b1, b2, b3, _⟩ := E.own i _ (own_is e5).1
        have : σ[i]? = some (some v) := e4
        rw [b1] at this; cases this
        exact ⟨i, p, f, e1, e2, e5, b1, rfl, b2, b3⟩
  refine ⟨by rw [List.length_map, l1, l2], E.gh, Same.refl _, fun b o h _ => h, fun b o h => ⟨o, h⟩, fun b o _ h => h, fun j p hj => ?_, fun j d hj => ?_, fun j d hj => ?_, fun j k dj dk p hjk hj hk ej ek => ?_⟩
  · obtain ⟨i, h1, h2⟩ := mem_pinsA.mp hj
    obtain ⟨s, v, e1, e2, e3, e4⟩ := hg j _ h1
    simp only [argSl, Option.map_eq_some_iff] at e3
    obtain ⟨⟨d', f⟩, e5, rfl⟩ := e3
    exact ⟨by rw [hv, h2]; rfl, d', e1⟩
  · obtain ⟨a, v, e1, e2, e3, e4⟩ := ha j _ hj
    cases a with
    | val d' => cases e3; exact ⟨v, by rw [hv, e2]; rfl, e4⟩
    | lend i =>
      simp only [argSl, Option.map_eq_some_iff] at e3
      obtain ⟨_, _, z⟩ := e3
      cases z
  · obtain ⟨i, p, f, h1, h2, h3, h4, h5, h6, h7⟩ := hown j d hj
    exact ⟨p, by rw [hv, h2]; rfl, h6, h7, fun _ => mem_pinsA.mpr ⟨i, h1, h2⟩, fun z => by rw [h5] at z; cases z⟩
  · obtain ⟨i, q, f, h1, h2, h3, h4, h5, h6, h7⟩ := hown j dj hj
    obtain ⟨i', q', f', g1, g2, g3, g4, g5, g6, g7⟩ := hown k dk hk
    rw [hv, h2] at ej
    rw [hv, g2] at ek
    cases ej
    cases ek
    by_cases hii : i = i'
    · subst hii
      exact hjk (lends_inj hn h1 g1)
    · exact E.ne i i' dj dk _ hii (own_is h3).1 (own_is g3).1 h4 g4
theorem back1_length (ρ : List Sl) (i : Nat) (d : D) : (back1 ρ i d).length = ρ.length := by
  unfold back1
  split
  · exact List.length_set
  · rfl
theorem back1_ne {i j : Nat} {d : D} (h : i ≠ j) : (back1 ρ i d)[j]? = ρ[j]? := by
  unfold back1
  split
  · exact List.getElem?_set_ne h
  · rfl
theorem back_length : ∀ (ars : List Ar) (as ρ : List Sl), (back ρ ars as).length = ρ.length
  | [], _, _ => by simp [back]
  | .val _ :: r, [], _ => by simp [back]
  | .lend _ :: r, [], _ => by simp [back]
  | .val _ :: r, s :: as, ρ => by simp only [back]; exact back_length r as ρ
  | .lend i :: r, s :: as, ρ => by simp only [back]; rw [back_length r as, back1_length]
theorem back_ne : ∀ (ars : List Ar) (as ρ : List Sl) (i : Nat), i ∉ lends ars → (back ρ ars as)[i]? = ρ[i]?
  | [], _, _, _, _ => by simp [back]
  | .val _ :: r, [], _, _, _ => by simp [back]
  | .lend _ :: r, [], _, _, _ => by simp [back]
  | .val _ :: r, s :: as, ρ, i, h => by simp only [back]; exact back_ne r as ρ i h
  | .lend k :: r, s :: as, ρ, i, h => by
    simp only [lends, List.mem_cons, not_or] at h
    simp only [back]
    rw [back_ne r as _ i h.2, back1_ne (Ne.symm h.1)]
theorem back_eq : ∀ (ars : List Ar) (as ρ : List Sl) (j i : Nat) (s : Sl) (d : D) (f : D → Sl), nodupN (lends ars) = true → ars[j]? = some (.lend i) → as[j]? = some s → own? ρ[i]? = some (d, f) → (back ρ ars as)[i]? = some (f s.dat)
  | [], _, _, _, _, _, _, _, _, h, _, _ => by simp at h
  | .val _ :: r, [], _, j, _, _, _, _, _, _, h, _ => by simp at h
  | .lend _ :: r, [], _, j, _, _, _, _, _, _, h, _ => by simp at h
  | .val _ :: r, s0 :: as, ρ, 0, i, s, d, f, hn, h1, h2, h3 => by simp at h1
  | .val _ :: r, s0 :: as, ρ, j + 1, i, s, d, f, hn, h1, h2, h3 => by
    simp only [back]
    exact back_eq r as ρ j i s d f hn (by simpa using h1) (by simpa using h2) h3
  | .lend k :: r, s0 :: as, ρ, 0, i, s, d, f, hn, h1, h2, h3 => by
    have hki : k = i := by simpa using h1
    subst hki
    cases h2
    simp only [lends, nodupN, Bool.and_eq_true, Bool.not_eq_true'] at hn
    have hi : k ∉ lends r := by
      intro z
      have := hn.1
      simp [z] at this
    simp only [back]
    rw [back_ne r as _ k hi]
    unfold back1
    rw [h3]
    have hl : k < ρ.length := by
      cases z : ρ[k]? with
      | none => rw [z] at h3; cases h3
      | some s => exact (List.getElem?_eq_some_iff.mp z).1
    exact List.getElem?_set_self hl
  | .lend k :: r, s0 :: as, ρ, j + 1, i, s, d, f, hn, h1, h2, h3 => by
    simp only [lends, nodupN, Bool.and_eq_true, Bool.not_eq_true'] at hn
    have hk : k ≠ i := by
      intro z
      subst z
      have hm := lends_mem (ars := r) (j := j) (i := k) (by simpa using h1)
      have := hn.1
      simp [hm] at this
    simp only [back]
    exact back_eq r as _ j i s d f hn.2 (by simpa using h1) (by simpa using h2) (by rw [back1_ne hk]; exact h3)
theorem mem_lends : ∀ {ars : List Ar} {i : Nat}, i ∈ lends ars → ∃ j : Nat, ars[j]? = some (.lend i)
  | .val _ :: r, i, h => by
    obtain ⟨j, e⟩ := mem_lends (ars := r) h
    exact ⟨j + 1, by simpa using e⟩
  | .lend k :: r, i, h => by
    simp only [lends, List.mem_cons] at h
    rcases h with rfl | h
    · exact ⟨0, rfl⟩
    · obtain ⟨j, e⟩ := mem_lends (ars := r) h
      exact ⟨j + 1, by simpa using e⟩
theorem EnvS.exit {G' H' : Hp} (E : EnvS K ct Φ G H σ ρ) {ars : List Ar} {as as' : List Sl} {vs : List V} (h : argSls ρ ars = some as) (hn : nodupN (lends ars) = true) (r : ArRs K ct G σ vs ars) (s : Same G G') (E' : EnvS K ct ⟨H, G, pinsA ars vs⟩ G' H' (vs.map some) as') :
    EnvS K ct Φ G' H' σ (back ρ ars as') := by
  obtain ⟨l1, l2, hg⟩ := argSls_get h r
  have hv : ∀ j, (vs.map some)[j]? = vs[j]?.map some := fun j => List.getElem?_map
  -- a lent slot
  have lent : ∀ i, i ∈ lends ars → ∃ d d' f p, own? ρ[i]? = some (d, f) ∧ σ[i]? = some (some (.ref p)) ∧ (back ρ ars as')[i]? = some (f d') ∧ G' p = none ∧ HoR K ct G' H' p d' := fun i hi => by
    obtain ⟨j, hj⟩ := mem_lends hi
    obtain ⟨s1, v, e1, e2, e3, e4⟩ := hg j _ hj
    simp only [argSl, Option.map_eq_some_iff] at e3
    obtain ⟨⟨d, f⟩, e5, rfl⟩ := e3
    obtain ⟨p, b1, b2, b3, _⟩ := E.own i _ (own_is e5).1
    have e4' : σ[i]? = some (some v) := e4
    rw [b1] at e4'; cases e4'
    obtain ⟨c1, d', c2⟩ := E'.pin j p (mem_pinsA.mpr ⟨i, hj, e2⟩)
    obtain ⟨p', a1, a2, a3, _⟩ := E'.own j d' (by rw [c2]; rfl)
    rw [c1] at a1; cases a1
    exact ⟨d, d', f, p, e5, b1, back_eq ars as' ρ j i _ d f hn hj c2 e5, a2, a3⟩
  have npin : ∀ i p, i ∉ lends ars → isOwn ρ[i]? ≠ none → σ[i]? = some (some (.ref p)) → ∀ j, (j, p) ∉ pinsA ars vs := fun i p hi ho hp j hj => by
    obtain ⟨i', h1, h2⟩ := mem_pinsA.mp hj
    obtain ⟨d, d', f, p', a1, a2, _⟩ := lent i' (lends_mem h1)
    obtain ⟨s1, v, e1, e2, e3, e4⟩ := hg j _ h1
    have e4' : σ[i']? = some (some v) := e4
    rw [h2] at e2; cases e2
    have hne : i ≠ i' := fun z => hi (z ▸ lends_mem h1)
    cases q : isOwn ρ[i]? with
    | none => exact ho q
    | some d0 => exact E.ne i i' d0 d p hne q (own_is a1).1 hp e4'
  have hown : ∀ (i : Nat) (d : D), isOwn (back ρ ars as')[i]? = some d → ∃ d0, isOwn ρ[i]? = some d0 := fun i d hi => by
    by_cases hl : i ∈ lends ars
    · obtain ⟨d1, _, f, _, a1, _⟩ := lent i hl
      exact ⟨d1, (own_is a1).1⟩
    · rw [back_ne ars as' ρ i hl] at hi
      exact ⟨d, hi⟩
  refine ⟨by rw [back_length]; exact E.len, E'.gh, E.g0.trans s, fun b o h1 h2 => ?_, fun b o h1 => ?_, fun b o h1 h2 => ?_, fun i p hi => ?_, fun i d hi => ?_, fun i d hi => ?_, fun i j di dj p hij hi hj ei ej => ?_⟩
  · refine E'.fr b o (E.fr b o h1 h2) fun j hj => ?_
    obtain ⟨i, g1, g2⟩ := mem_pinsA.mp hj
    obtain ⟨d, d', f, p, a1, a2, _⟩ := lent i (lends_mem g1)
    obtain ⟨s1, v, e1, e2, e3, e4⟩ := hg j _ g1
    rw [g2] at e2; cases e2
    have e4' : σ[i]? = some (some (.ref b)) := e4
    obtain ⟨q, b1, _, _, b4, b5⟩ := E.own i d (own_is a1).1
    rw [e4'] at b1; cases b1
    rcases (own_is a1).2 with ⟨z, _⟩ | ⟨z, _⟩
    · rw [b5 z] at h1; cases h1
    · exact h2 i (b4 z)
  · obtain ⟨o', e⟩ := E.dom b o h1
    exact E'.dom b o' e
  · obtain ⟨o', e⟩ := E.dom b o h1
    exact E'.gn b o' e (E.gn b o h1 h2)
  · obtain ⟨a1, d, a2⟩ := E.pin i p hi
    refine ⟨a1, ?_⟩
    by_cases hl : i ∈ lends ars
    · obtain ⟨d1, d2, f, _, b1, _, b3, _⟩ := lent i hl
      rcases (own_is b1).2 with ⟨z, _⟩ | ⟨_, z⟩
      · rw [a2] at z; cases z
      · rw [b3, z]; exact ⟨d2, rfl⟩
    · rw [back_ne ars as' ρ i hl]; exact ⟨d, a2⟩
  · by_cases hl : i ∈ lends ars
    · obtain ⟨d1, d2, f, _, b1, _, b3, _⟩ := lent i hl
      rw [b3] at hi
      rcases (own_is b1).2 with ⟨_, z⟩ | ⟨_, z⟩ <;> (rw [z] at hi; cases hi)
    · rw [back_ne ars as' ρ i hl] at hi
      obtain ⟨v, e1, e2⟩ := E.sh i d hi
      exact ⟨v, e1, e2.mono s⟩
  · by_cases hl : i ∈ lends ars
    · obtain ⟨d1, d2, f, p, b1, b2, b3, b4, b5⟩ := lent i hl
      obtain ⟨q, c1, _, _, c4, c5⟩ := E.own i d1 (own_is b1).1
      rw [b2] at c1; cases c1
      rw [b3] at hi ⊢
      rcases (own_is b1).2 with ⟨z1, z⟩ | ⟨z1, z⟩
      · rw [z] at hi ⊢; cases hi
        exact ⟨p, b2, b4, b5, (fun y => by cases y), fun _ => c5 z1⟩
      · rw [z] at hi ⊢; cases hi
        exact ⟨p, b2, b4, b5, (fun _ => c4 z1), (fun y => by cases y)⟩
    · rw [back_ne ars as' ρ i hl] at hi ⊢
      obtain ⟨p, c1, c2, c3, c4, c5⟩ := E.own i d hi
      obtain ⟨o, ho⟩ := c3.there
      exact ⟨p, c1, E'.gn p o ho c2, c3.mono s ((E'.fr p o ho (npin i p hl (by rw [hi]; simp) c1)).trans ho.symm), c4, c5⟩
  · obtain ⟨d1, z1⟩ := hown i di hi
    obtain ⟨d2, z2⟩ := hown j dj hj
    exact E.ne i j d1 d2 p hij z1 z2 ei ej
theorem RF.exit {G' H' : Hp} (E : EnvS K ct Φ G H σ ρ) {ars : List Ar} {as as' : List Sl} {vs : List V} (h : argSls ρ ars = some as) (hn : nodupN (lends ars) = true) (r : ArRs K ct G σ vs ars) {v : V} {sl : Sl}
    (q : RF K ct ⟨H, G, pinsA ars vs⟩ G' H' (vs.map some) as' v sl) : RF K ct Φ G' H' σ (back ρ ars as') v sl := by
  cases sl with
  | un => exact q.elim
  | pn d => exact q.elim
  | sh d => exact q
  | ow d =>
    obtain ⟨p, rfl, h1, h2, h3, h4⟩ := q
    have h3' : H p = none := h3
    refine ⟨p, rfl, h1, h2, ?_, fun i d' hi ei => ?_⟩
    · cases e : Φ.H p with
      | none => rfl
      | some o => obtain ⟨o', e'⟩ := E.dom p o e; rw [h3'] at e'; cases e'
    · obtain ⟨l1, l2, hg⟩ := argSls_get h r
      have : ∃ d0, isOwn ρ[i]? = some d0 := by
        by_cases hl : i ∈ lends ars
        · obtain ⟨j, hj⟩ := mem_lends hl
          obtain ⟨s1, v, e1, e2, e3, e4⟩ := hg j _ hj
          simp only [argSl, Option.map_eq_some_iff] at e3
          obtain ⟨⟨d, f⟩, e5, rfl⟩ := e3
          exact ⟨d, (own_is e5).1⟩
        · rw [back_ne ars as' ρ i hl] at hi
          exact ⟨d', hi⟩
      obtain ⟨d0, z⟩ := this
      obtain ⟨o, ho⟩ := E.ownH z ei
      rw [h3'] at ho; cases ho
/-- the call of a def by its promise -/
theorem call_post {W : WX} {F : DF} {ars : List Ar} {vs : List V} {k : Sl → List Sl → Hp → Hp → Prop} (E : EnvS K ct Φ G H σ ρ) (q : Post K ct Φ W σ G (callF F ars ρ) k) (r : ArRs K ct G σ vs ars) {Q : VK}
    (hk : ∀ sl ρ' G' H', Same G G' → EnvS K ct Φ G' H' σ ρ' → k sl ρ' G' H' → ∀ v, RF K ct Φ G' H' σ ρ' v sl → Q v H') : SpF K ct F vs H Q (fun c d H' => W c d σ H') := by
  unfold callF at q
  cases h : argSls ρ ars with
  | none => rw [h] at q; exact q.elim
  | some as =>
    rw [h] at q
    simp only at q
    split at q
    · rename_i hn
      refine ⟨⟨H, G, pinsA ars vs⟩, G, as, E.entry h hn r, ?_⟩
      cases hF : F as with
      | none => rw [hF] at q; exact q.elim
      | some o =>
        rw [hF] at q
        cases o with
        | ok sl as' => exact fun G' H' s E' v rv => hk sl _ G' H' s (E.exit h hn r s E') (q G' H' s (E.exit h hn r s E')) v (RF.exit E h hn r rv)
        | ex x as' => exact fun G' H' c dx s E' rx => q G' H' c dx s (E.exit h hn r s E') rx
    · exact q.elim
end
/-! ### arguments with things lent -/
def arNil : DM (List Ar) := ret []
def arVal (t : DM D) (r : DM (List Ar)) : DM (List Ar) := bnd t fun d => bnd r fun as => ret (.val d :: as)
def arLend (i : Nat) (r : DM (List Ar)) : DM (List Ar) := fun ρ => match own? ρ[i]? with
  | some _ => bnd r (fun as => ret (.lend i :: as)) ρ
  | none => none
section
variable {X : Cx} {ct : List Addr} {W : WX} {e : Expr} {es : List Expr} {pos p : Pos} {x : Str}
theorem rNil : PAD X ct W [] arNil := by
  refine weakA pa_nil fun σ H Q q => ?_
  obtain ⟨Φ, G, ρ, E, q⟩ := q
  exact q G H (Same.refl _) E [] .nil
theorem rVal {t : DM D} {r : DM (List Ar)} (h : PED X ct W e t) (hr : PAD X ct W es r) (hs : starEach (e :: es) X.env = (false, eval e X.env) :: starEach es X.env := by rfl) : PAD X ct W (e :: es) (arVal t r) := by
  refine weakA (pa_cons h hr hs) fun σ H Q q => ?_
  obtain ⟨Φ, G, ρ, E, q⟩ := q
  refine ⟨Φ, G, ρ, E, (Post.bnd q).imp fun d ρ1 G1 H1 s1 E1 q1 v1 r1 => ?_⟩
  refine ⟨Φ, G1, ρ1, E1, (Post.bnd q1.2).imp fun as ρ2 G2 H2 s2 E2 q2 vs r2 => ?_⟩
  exact q2.2 G2 H2 (Same.refl _) E2 _ (.cons (show ArR X.K ct G2 σ v1 (.val d) from r1.mono s2) r2)
theorem rLend (i : Nat) {r : DM (List Ar)} (hr : PAD X ct W es r) (hN : X.N[i]? = some x := by rfl) (hv : Vis X.env.scope x := by first | exact Or.inl rfl | exact Or.inr (Or.inl rfl) | exact Or.inr (Or.inr rfl)) (hd : (x == ("__debug__" : Str)) = false := by decide) (hcd : (x == ("__classdict__" : Str)) = false := by decide)
    (hs : starEach (.Name x p :: es) X.env = (false, eval (.Name x p) X.env) :: starEach es X.env := by rfl) : PAD X ct W (.Name x p :: es) (arLend i r) := by
  refine weakA (pa_cons (pe_var (i := i) hN hv hd hcd) hr hs) fun σ H Q q => ?_
  obtain ⟨Φ, G, ρ, E, q⟩ := q
  unfold arLend at q
  cases ho : own? ρ[i]? with
  | none => rw [ho] at q; exact q.elim
  | some dd =>
    rw [ho] at q
    obtain ⟨pa, e1, _⟩ := E.own i _ (own_is (d := dd.1) (f := dd.2) ho).1
    refine ⟨.ref pa, e1, Φ, G, ρ, E, (Post.bnd q).imp fun as ρ2 G2 H2 s2 E2 q2 vs r2 => ?_⟩
    exact q2.2 G2 H2 (Same.refl _) E2 _ (.cons (show ArR X.K ct G2 σ (.ref pa) (.lend i) from e1) r2)
def callA (F : DF) (t : DM (List Ar)) : DM Sl := bnd t fun ars => callF F ars
/-- f(e, ..) -/
theorem fCall {F : DF} {t : DM (List Ar)} {k : Nat} {f : Addr} {fd : FuncData} {ps : List Str} (tk : Takes X W) (hF : FnOk X.prog X.w X.K X.mg X.base (L2.CX X.prog X.w) k f fd ps (SpF X.K ct F)) (hr : Room k X.A) (hm : X.mg x = some (.ref f)) (hk : PySem.W.keepIn X.K (.ref f) = true) (hb : Binds X.K fd ps [])
    (ha : PAD X ct W (e :: es) t) (hg : Gl X x := by rfl) (hdb : (x == ("__debug__" : Str)) = false := by decide) (he : starEach (e :: es) X.env = (false, eval e X.env) :: starEach es X.env := by rfl) (hpl : (backTo pos (starEach es X.env)).any (·.1) = false := by rfl) :
    PEF X ct W (.Call (.Name x p) (e :: es) [] pos) (callA F t) := by
  refine weakE (pe_callS hF hr hg hm hk hb (fun σ => passAt tk σ) ha hdb he hpl) fun σ H Q q => ?_
  obtain ⟨Φ, G, ρ, E, q⟩ := q
  refine ⟨Φ, G, ρ, E, (Post.bnd q).imp fun ars ρ1 G1 H1 s1 E1 q1 vs rs => ?_⟩
  exact call_post E1 q1.2 rs fun sl ρ' G' H' s E' kk v rv => kk v rv
end
end FD

set_option Elab.async false
set_option linter.all false
set_option maxRecDepth 100000
namespace FD
open PySem L2

/-! ### a def's body and its promise -/
def outs : List Sl → List Sl → List Sl
  | .pn _ :: as, s :: ρ => s :: outs as ρ
  | a :: as, _ :: ρ => a :: outs as ρ
  | as, _ => as
def noOw : List Sl → Bool
  | [] => true
  | .sh _ :: r => noOw r
  | .pn _ :: r => noOw r
  | _ => false
def runF (n m : Nat) (T : DM Fl) : DF := fun as => if as.length = n ∧ noOw as = true then (match T (as ++ List.replicate (m - n) .un) with
  | some (.ok (.rt sl) ρ') => some (.ok sl (outs as ρ'))
  | some (.ok .nx ρ') => some (.ok (.sh .non) (outs as ρ'))
  | some (.ex x ρ') => some (.ex x (outs as ρ'))
  | _ => none) else none
theorem outs_length : ∀ (as ρ : List Sl), (outs as ρ).length = as.length
  | [], _ => by simp [outs]
  | a :: as, [] => by cases a <;> simp [outs]
  | a :: as, s :: ρ => by cases a <;> simp [outs, outs_length as ρ]
theorem outs_pn : ∀ (as ρ : List Sl) (i : Nat) (d : D) (s : Sl), as[i]? = some (.pn d) → ρ[i]? = some s → (outs as ρ)[i]? = some s
  | [], _, _, _, _, h, _ => by simp at h
  | _ :: _, [], _, _, _, _, h => by simp at h
  | a :: as, s0 :: ρ, 0, d, s, h1, h2 => by cases h1; cases h2; rfl
  | a :: as, s0 :: ρ, i + 1, d, s, h1, h2 => by
    have ih := outs_pn as ρ i d s (by simpa using h1) (by simpa using h2)
    cases a <;> simpa [outs] using ih
theorem outs_sh : ∀ (as ρ : List Sl) (i : Nat) (a : Sl), as[i]? = some a → (∀ d, a ≠ .pn d) → (outs as ρ)[i]? = some a
  | [], _, _, _, h, _ => by simp at h
  | a :: as, [], i, b, h, _ => by cases a <;> simpa [outs] using h
  | a :: as, s0 :: ρ, 0, b, h1, h2 => by
    cases h1
    cases a with
    | pn d => exact absurd rfl (h2 d)
    | _ => rfl
  | a :: as, s0 :: ρ, i + 1, b, h1, h2 => by
    have ih := outs_sh as ρ i b (by simpa using h1) h2
    cases a <;> simpa [outs] using ih
theorem noOw_get : ∀ (as : List Sl) (i : Nat) (s : Sl), noOw as = true → as[i]? = some s → (∃ d, s = .sh d) ∨ ∃ d, s = .pn d
  | [], _, _, _, h => by simp at h
  | a :: as, 0, s, h1, h2 => by
    cases h2
    cases a with
    | sh d => exact .inl ⟨d, rfl⟩
    | pn d => exact .inr ⟨d, rfl⟩
    | un => cases h1
    | ow d => cases h1
  | a :: as, i + 1, s, h1, h2 => by
    have h1' : noOw as = true := by
      cases a with
      | sh d => exact h1
      | pn d => exact h1
      | un => cases h1
      | ow d => cases h1
    exact noOw_get as i s h1' (by simpa using h2)
section
variable {K : PySem.W.Frag} {ct : List Addr} {Φ : Fm} {G G' H H' : Hp} {σ σ' : St} {as ρ ρ' : List Sl}
theorem EnvS.pad (E : EnvS K ct Φ G H σ as) (n : Nat) : EnvS K ct Φ G H (σ ++ List.replicate n none) (as ++ List.replicate n .un) := by
  have hs : ∀ (i : Nat) (s : Sl), (as ++ List.replicate n Sl.un)[i]? = some s → s ≠ .un → as[i]? = some s := fun i s h hn => by
    by_cases hi : i < as.length
    · rwa [List.getElem?_append_left hi] at h
    · rw [List.getElem?_append_right (by omega)] at h
      have := List.mem_of_getElem? h
      rw [List.mem_replicate] at this
      exact absurd this.2 hn
  have ho : ∀ (i : Nat) (d : D), isOwn (as ++ List.replicate n Sl.un)[i]? = some d → isOwn as[i]? = some d ∧ (as ++ List.replicate n Sl.un)[i]? = as[i]? := fun i d h => by
    cases e : (as ++ List.replicate n Sl.un)[i]? with
    | none => rw [e] at h; cases h
    | some s =>
      rw [e] at h
      have := hs i s e (by intro z; subst z; cases h)
      rw [this]
      exact ⟨h, rfl⟩
  have hv : ∀ (i : Nat) (x : Option V), σ[i]? = some x → (σ ++ List.replicate n none)[i]? = some x := fun i x h => by
    rw [List.getElem?_append_left (List.getElem?_eq_some_iff.mp h).1]; exact h
  refine ⟨by simp [E.len], E.gh, E.g0, E.fr, E.dom, E.gn, fun i p h => ?_, fun i d h => ?_, fun i d h => ?_, fun i j di dj p hij hi hj ei ej => ?_⟩
  · obtain ⟨a1, d, a2⟩ := E.pin i p h
    exact ⟨hv i _ a1, d, by rw [List.getElem?_append_left (List.getElem?_eq_some_iff.mp a2).1]; exact a2⟩
  · obtain ⟨v, e1, e2⟩ := E.sh i d (hs i _ h (by simp))
    exact ⟨v, hv i _ e1, e2⟩
  · obtain ⟨h1, h2⟩ := ho i d h
    obtain ⟨p, a1, a2, a3, a4, a5⟩ := E.own i d h1
    rw [h2]
    exact ⟨p, hv i _ a1, a2, a3, a4, a5⟩
  · obtain ⟨h1, _⟩ := ho i di hi
    obtain ⟨h2, _⟩ := ho j dj hj
    obtain ⟨p1, a1, _⟩ := E.own i di h1
    obtain ⟨p2, b1, _⟩ := E.own j dj h2
    rw [hv i _ a1] at ei; cases ei
    rw [hv j _ b1] at ej; cases ej
    exact E.ne i j di dj _ hij h1 h2 a1 b1
theorem EnvS.outs (E : EnvS K ct Φ G H σ as) (hn : noOw as = true) (s : Same G G') (E' : EnvS K ct Φ G' H' σ' ρ') : EnvS K ct Φ G' H' σ (outs as ρ') := by
  have hp : ∀ (i : Nat) (d : D), as[i]? = some (.pn d) → ∃ p d', (i, p) ∈ Φ.pins ∧ σ[i]? = some (some (.ref p)) ∧ σ'[i]? = some (some (.ref p)) ∧ ρ'[i]? = some (.pn d') ∧ (FD.outs as ρ')[i]? = some (.pn d') := fun i d h => by
    obtain ⟨p, a1, a2, a3, a4, a5⟩ := E.own i d (by rw [h]; rfl)
    obtain ⟨b1, d', b2⟩ := E'.pin i p (a4 h)
    exact ⟨p, d', a4 h, a1, b1, b2, outs_pn as ρ' i d _ h b2⟩
  have hc : ∀ (i : Nat) (s : Sl), (FD.outs as ρ')[i]? = some s → (∃ d, as[i]? = some (.sh d) ∧ s = .sh d) ∨ ∃ d, as[i]? = some (.pn d) := fun i s h => by
    have hi : i < as.length := by
      have := (List.getElem?_eq_some_iff.mp h).1
      rwa [outs_length] at this
    rcases noOw_get as i _ hn (List.getElem?_eq_getElem hi) with ⟨d, e⟩ | ⟨d, e⟩
    · have e2 : as[i]? = some (.sh d) := by rw [List.getElem?_eq_getElem hi, e]
      have := outs_sh as ρ' i _ e2 (by simp)
      rw [this] at h; cases h
      exact .inl ⟨d, e2, rfl⟩
    · exact .inr ⟨d, by rw [List.getElem?_eq_getElem hi, e]⟩
  have ho : ∀ (i : Nat) (d : D), isOwn (FD.outs as ρ')[i]? = some d → ∃ d0, as[i]? = some (.pn d0) := fun i d h => by
    cases e : (FD.outs as ρ')[i]? with
    | none => rw [e] at h; cases h
    | some s =>
      rcases hc i s e with ⟨d1, _, e2⟩ | z
      · rw [e, e2] at h; cases h
      · exact z
  refine ⟨by rw [outs_length]; exact E.len, E'.gh, E'.g0, E'.fr, E'.dom, E'.gn, fun i p h => ?_, fun i d h => ?_, fun i d h => ?_, fun i j di dj p hij hi hj ei ej => ?_⟩
  · obtain ⟨a1, d, a2⟩ := E.pin i p h
    obtain ⟨p', d', _, _, _, _, b5⟩ := hp i d a2
    exact ⟨a1, d', b5⟩
  · rcases hc i _ h with ⟨d1, e1, e2⟩ | ⟨d1, e1⟩
    · cases e2
      obtain ⟨v, c1, c2⟩ := E.sh i d e1
      exact ⟨v, c1, c2.mono s⟩
    · obtain ⟨_, _, _, _, _, _, b5⟩ := hp i d1 e1
      rw [b5] at h; cases h
  · obtain ⟨d0, e0⟩ := ho i d h
    obtain ⟨p, d', b1, b2, b3, b4, b5⟩ := hp i d0 e0
    rw [b5] at h ⊢
    cases h
    obtain ⟨p', c1, c2, c3, c4, c5⟩ := E'.own i d (by rw [b4]; rfl)
    rw [b3] at c1; cases c1
    exact ⟨p, b2, c2, c3, (fun _ => b1), (fun z => by cases z)⟩
  · obtain ⟨d0, e0⟩ := ho i di hi
    obtain ⟨d1, e1⟩ := ho j dj hj
    exact E.ne i j d0 d1 p hij (by rw [e0]; rfl) (by rw [e1]; rfl) ei ej
theorem RF.outs (E : EnvS K ct Φ G H σ as) (hn : noOw as = true) (E' : EnvS K ct Φ G' H' σ' ρ') {v : V} {sl : Sl} (r : RF K ct Φ G' H' σ' ρ' v sl) : RF K ct Φ G' H' σ (outs as ρ') v sl := by
  cases sl with
  | un => exact r.elim
  | pn d => exact r.elim
  | sh d => exact r
  | ow d =>
    obtain ⟨p, rfl, h1, h2, h3, h4⟩ := r
    refine ⟨p, rfl, h1, h2, h3, fun i d' hi ei => ?_⟩
    cases e : (FD.outs as ρ')[i]? with
    | none => rw [e] at hi; cases hi
    | some s =>
      have hl : i < as.length := by
        have := (List.getElem?_eq_some_iff.mp e).1
        rwa [outs_length] at this
      rcases noOw_get as i _ hn (List.getElem?_eq_getElem hl) with ⟨d1, e1⟩ | ⟨d1, e1⟩
      · have := outs_sh as ρ' i (.sh d1) (by rw [List.getElem?_eq_getElem hl, e1]) (by simp)
        rw [this] at hi; cases hi
      · have e2 : as[i]? = some (.pn d1) := by rw [List.getElem?_eq_getElem hl, e1]
        obtain ⟨q, a1, a2, a3, a4, a5⟩ := E.own i d1 (by rw [e2]; rfl)
        rw [ei] at a1; cases a1
        obtain ⟨b1, d2, b2⟩ := E'.pin i p (a4 e2)
        exact h4 i d2 (by rw [b2]; rfl) b1
end
theorem spf_len {K : PySem.W.Frag} {ct : List Addr} {N ps : List Str} {T : DM Fl} {vs : List V} {H : Hp} {Q : VK} {E : XK} (h : SpF K ct (runF ps.length N.length T) vs H Q E) : vs.length = ps.length := by
  obtain ⟨Φ, G, as, En, q⟩ := h
  unfold runF at q
  split at q
  · rename_i hl
    have := En.len
    rw [List.length_map] at this
    rw [← this]; exact hl.1
  · exact q.elim
theorem spf_start {K : PySem.W.Frag} {ct : List Addr} {N ps : List Str} {T : DM Fl} {vs : List V} {H : Hp} {Q : VK} {E : XK} (h : SpF K ct (runF ps.length N.length T) vs H Q E) :
    tS K ct (fun c d _ H' => E c d H') T { nx := fun _ H' => Q .non H', rt := Q } (L2.start N vs) H := by
  have hlen := spf_len h
  obtain ⟨Φ, G, as, En, q⟩ := h
  unfold runF at q
  split at q
  · rename_i hl
    refine ⟨Φ, G, as ++ List.replicate (N.length - ps.length) .un, ?_, ?_⟩
    · unfold L2.start
      rw [hlen]
      exact En.pad _
    · cases e : T (as ++ List.replicate (N.length - ps.length) .un) with
      | none => rw [e] at q; exact q.elim
      | some o =>
        rw [e] at q
        cases o with
        | ex z ρ' => exact fun σ' G' H' c dx s' E' rx => q G' H' c dx s' (En.outs hl.2 s' E') rx
        | ok fl ρ' =>
          cases fl with
          | nx => exact fun σ' G' H' s' E' => q G' H' s' (En.outs hl.2 s' E') .non R.non
          | rt sl => exact fun σ' G' H' s' E' v rv => q G' H' s' (En.outs hl.2 s' E') v (RF.outs En hl.2 E' rv)
          | bk => exact q.elim
          | ct => exact q.elim
  · exact q.elim
theorem fn_d {P : Program} {w : World} {K : PySem.W.Frag} {mg : Str → Option Value} {base : Heap} {ct : List Addr} {x qual : Str} {st : Stmt} {f : Addr} {fd : FuncData} {N ps : List Str} {k : Nat} {T : DM Fl} (F : Fun K x qual st f fd) (S : FnScope N ps (defScope st))
    (hbody : ∀ (cdv : Value) (A : Around) (outer : List Env) (s : Shared) (H : Hp) (E : XK), Room k (A.deeper (PyProof.Rows.envOfC qual (defScope st) s.heap.objs.size f cdv)) →
      PSsD (cxOf (L2.CX P w) P w K mg base N qual (defScope st) f cdv A outer s H E) ct (fun c d _ H' => E c d H') (defBody st) T) :
    FnOk P w K mg base (L2.CX P w) (k + 1) f fd ps (SpF K ct (runF ps.length N.length T)) :=
  F.okX S (fun _ _ _ _ h => spf_len h) fun cdv A outer s H _ _ E hr h => ⟨_, hbody cdv A outer s H E hr, spf_start h⟩
end FD

set_option Elab.async false
set_option linter.all false
set_option maxRecDepth 100000
namespace FD
open PySem L2

/-! ### another entry -/
def pin1 : Sl → Sl
  | .ow d => .pn d
  | s => s
def pinAll (ρ : List Sl) : List Sl := ρ.map pin1
def un1 : Sl → Sl → Sl
  | .ow _, .pn d => .ow d
  | _, s => s
def unpin : List Sl → List Sl → List Sl
  | s :: r, s' :: r' => un1 s s' :: unpin r r'
  | _, r' => r'
def pinsOf (σ : St) (ρ : List Sl) : List (Nat × Addr) := (List.range ρ.length).filterMap fun (i : Nat) => match isOwn (ρ[i]? : Option Sl), (σ[i]? : Option (Option V)) with
  | some _, some (some (.ref p)) => some (i, p)
  | _, _ => none
theorem mem_pinsOf {σ : St} {ρ : List Sl} {i : Nat} {p : Addr} : (i, p) ∈ pinsOf σ ρ ↔ (∃ d, isOwn ρ[i]? = some d) ∧ σ[i]? = some (some (.ref p)) := by
  unfold pinsOf
  rw [List.mem_filterMap]
  constructor
  · rintro ⟨k, hk, e⟩
    split at e
    · rename_i d p' h1 h2
      cases e
      exact ⟨⟨d, h1⟩, h2⟩
    · cases e
  · rintro ⟨⟨d, h1⟩, h2⟩
    refine ⟨i, ?_, by rw [h1, h2]⟩
    rw [List.mem_range]
    cases z : ρ[i]? with
    | none => rw [z] at h1; cases h1
    | some s => exact (List.getElem?_eq_some_iff.mp z).1
theorem pinAll_get (ρ : List Sl) (i : Nat) : (pinAll ρ)[i]? = ρ[i]?.map pin1 := List.getElem?_map
theorem pinAll_own (ρ : List Sl) (i : Nat) : isOwn (pinAll ρ)[i]? = isOwn ρ[i]? := by
  rw [pinAll_get]
  cases ρ[i]? with
  | none => rfl
  | some s => cases s <;> rfl
theorem unpin_get : ∀ (ρ ρ' : List Sl) (i : Nat), (unpin ρ ρ')[i]? = match (ρ[i]? : Option Sl), (ρ'[i]? : Option Sl) with
    | some s, some s' => some (un1 s s')
    | _, x => x
  | [], ρ', i => by simp [unpin]
  | s :: r, [], i => by simp [unpin]
  | s :: r, s' :: r', 0 => rfl
  | s :: r, s' :: r', i + 1 => by
    simp only [unpin, List.getElem?_cons_succ]
    exact unpin_get r r' i
theorem unpin_length : ∀ (ρ ρ' : List Sl), (unpin ρ ρ').length = ρ'.length
  | [], ρ' => by simp [unpin]
  | s :: r, [] => by simp [unpin]
  | s :: r, s' :: r' => by simp [unpin, unpin_length r r']
section
variable {K : PySem.W.Frag} {ct : List Addr} {Φ : Fm} {G G' H H' : Hp} {σ σ' : St} {ρ ρ' : List Sl} {p : Addr} {o : HO}
theorem EnvS.rebase (E : EnvS K ct Φ G H σ ρ) : EnvS K ct ⟨H, G, pinsOf σ ρ⟩ G H σ (pinAll ρ) := by
  have hpn : ∀ (i : Nat) (d : D), isOwn (pinAll ρ)[i]? = some d → (pinAll ρ)[i]? = some (.pn d) ∧ isOwn ρ[i]? = some d := fun i d h => by
    rw [pinAll_own] at h
    refine ⟨?_, h⟩
    rw [pinAll_get]
    cases e : ρ[i]? with
    | none => rw [e] at h; cases h
    | some s => rw [e] at h; cases s <;> cases h <;> rfl
  refine ⟨by rw [pinAll, List.length_map]; exact E.len, E.gh, Same.refl _, fun b o h _ => h, fun b o h => ⟨o, h⟩, fun b o _ h => h, fun i p h => ?_, fun i d h => ?_, fun i d h => ?_, fun i j di dj p hij hi hj ei ej => ?_⟩
  · obtain ⟨⟨d, h1⟩, h2⟩ := mem_pinsOf.mp h
    exact ⟨h2, d, (hpn i d (by rw [pinAll_own]; exact h1)).1⟩
  · rw [pinAll_get] at h
    refine E.sh i d ?_
    cases e : ρ[i]? with
    | none => rw [e] at h; cases h
    | some s => rw [e] at h; cases s <;> cases h <;> rfl
  · obtain ⟨h1, h2⟩ := hpn i d h
    obtain ⟨p, a1, a2, a3, _⟩ := E.own i d h2
    exact ⟨p, a1, a2, a3, (fun _ => mem_pinsOf.mpr ⟨⟨d, h2⟩, a1⟩), (fun z => by rw [h1] at z; cases z)⟩
  · exact E.ne i j di dj p hij (hpn i di hi).2 (hpn j dj hj).2 ei ej
theorem EnvS.unbase (E : EnvS K ct Φ G H σ ρ) (s : Same G G') (E' : EnvS K ct ⟨H, G, pinsOf σ ρ⟩ G' H' σ' ρ') : EnvS K ct Φ G' H' σ' (unpin ρ ρ') := by
  have ho : ∀ (i : Nat) (d : D), isOwn (unpin ρ ρ')[i]? = some d → isOwn ρ'[i]? = some d := fun i d h => by
    rw [unpin_get] at h
    cases e1 : ρ[i]? with
    | none => rw [e1] at h; exact h
    | some a =>
      cases e2 : ρ'[i]? with
      | none => rw [e1, e2] at h; cases h
      | some b => rw [e1, e2] at h; cases a <;> cases b <;> first | exact h | (cases h; done)
  -- an owned slot of ρ stands as it stood
  have st : ∀ (i : Nat) (d : D), isOwn ρ[i]? = some d → ∃ p d', σ[i]? = some (some (.ref p)) ∧ σ'[i]? = some (some (.ref p)) ∧ ρ'[i]? = some (.pn d') := fun i d h => by
    obtain ⟨p, a1, _⟩ := E.own i d h
    obtain ⟨b1, d', b2⟩ := E'.pin i p (mem_pinsOf.mpr ⟨⟨d, h⟩, a1⟩)
    exact ⟨p, d', a1, b1, b2⟩
  refine ⟨by rw [unpin_length]; exact E'.len, E'.gh, E.g0.trans s, fun b x h1 h2 => ?_, fun b x h1 => ?_, fun b x h1 h2 => ?_, fun i p h => ?_, fun i d h => ?_, fun i d h => ?_, fun i j di dj p hij hi hj ei ej => ?_⟩
  · refine E'.fr b x (E.fr b x h1 h2) fun i hi => ?_
    obtain ⟨⟨d, g1⟩, g2⟩ := mem_pinsOf.mp hi
    obtain ⟨q, a1, _, _, a4, a5⟩ := E.own i d g1
    rw [g2] at a1; cases a1
    cases e : ρ[i]? with
    | none => rw [e] at g1; cases g1
    | some sl =>
      rw [e] at g1 a4 a5
      cases sl <;> cases g1
      · have := a5 rfl; rw [this] at h1; cases h1
      · exact h2 i (a4 rfl)
  · obtain ⟨o', e⟩ := E.dom b x h1
    exact E'.dom b o' e
  · obtain ⟨o', e⟩ := E.dom b x h1
    exact E'.gn b o' e (E.gn b x h1 h2)
  · obtain ⟨a1, d, a2⟩ := E.pin i p h
    obtain ⟨q, d', b1, b2, b3⟩ := st i d (by rw [a2]; rfl)
    rw [a1] at b1; cases b1
    refine ⟨b2, d', ?_⟩
    rw [unpin_get, a2, b3]; rfl
  · rw [unpin_get] at h
    refine E'.sh i d ?_
    cases e1 : ρ[i]? with
    | none => rw [e1] at h; exact h
    | some a =>
      cases e2 : ρ'[i]? with
      | none => rw [e1, e2] at h; cases h
      | some b => rw [e1, e2] at h; cases a <;> cases b <;> first | exact h | (cases h; done)
  · have h' := ho i d h
    obtain ⟨q, c1, c2, c3, c4, c5⟩ := E'.own i d h'
    refine ⟨q, c1, c2, c3, fun z => ?_, fun z => ?_⟩
    · rw [unpin_get] at z
      cases e1 : ρ[i]? with
      | none =>
        rw [e1] at z
        obtain ⟨⟨d0, g1⟩, g2⟩ := mem_pinsOf.mp (c4 z)
        rw [e1] at g1; cases g1
      | some a =>
        cases e2 : ρ'[i]? with
        | none => rw [e1, e2] at z; cases z
        | some b =>
          rw [e1, e2] at z
          have hb : b = .pn d := by cases a <;> cases b <;> first | (cases z; rfl) | (cases z; done)
          subst hb
          obtain ⟨⟨d0, g1⟩, g2⟩ := mem_pinsOf.mp (c4 e2)
          obtain ⟨q', f1, _, _, f4, f5⟩ := E.own i d0 g1
          rw [g2] at f1; cases f1
          cases a with
          | ow d1 => cases z
          | pn d1 => rw [e1] at g1 f4; cases g1; exact f4 rfl
          | un => rw [e1] at g1; cases g1
          | sh d1 => rw [e1] at g1; cases g1
    · rw [unpin_get] at z
      cases e1 : ρ[i]? with
      | none =>
        rw [e1] at z
        have := c5 z
        cases e : Φ.H q with
        | none => rfl
        | some x => obtain ⟨o', y⟩ := E.dom q x e; rw [show H q = none from this] at y; cases y
      | some a =>
        cases e2 : ρ'[i]? with
        | none => rw [e1, e2] at z; cases z
        | some b =>
          rw [e1, e2] at z
          cases b with
          | ow d2 =>
            have : H q = none := c5 (by rw [e2] at h' ⊢; cases h'; rfl)
            cases e : Φ.H q with
            | none => rfl
            | some x => obtain ⟨o', y⟩ := E.dom q x e; rw [this] at y; cases y
          | pn d2 =>
            cases a with
            | ow d1 =>
              obtain ⟨p1, f1, _, _, _, f5⟩ := E.own i d1 (by rw [e1]; rfl)
              obtain ⟨p2, d', g1, g2, g3⟩ := st i d1 (by rw [e1]; rfl)
              rw [f1] at g1; cases g1
              rw [c1] at g2; cases g2
              exact f5 e1
            | un => cases z
            | sh d1 => cases z
            | pn d1 => cases z
          | un => cases a <;> cases z
          | sh d2 => cases a <;> cases z
  · exact E'.ne i j di dj p hij (ho i di hi) (ho j dj hj) ei ej
/-- a thing that nobody knows yet is changed -/
theorem EnvS.poke (E : EnvS K ct Φ G H σ ρ) (g : G p = none) (f : Φ.H p = none) (n : ∀ (j : Nat) (d' : D), isOwn ρ[j]? = some d' → σ[j]? ≠ some (some (.ref p))) : EnvS K ct Φ G (upd H p o) σ ρ := by
  refine ⟨E.len, fun b x e => ?_, E.g0, fun b x h1 h2 => ?_, fun b x h1 => ?_, E.gn, E.pin, E.sh, fun i d h => ?_, E.ne⟩
  · have hb : b ≠ p := fun z => by rw [z, g] at e; cases e
    rw [upd_ne hb]; exact E.gh b x e
  · have hb : b ≠ p := fun z => by rw [z, f] at h1; cases h1
    rw [upd_ne hb]; exact E.fr b x h1 h2
  · have hb : b ≠ p := fun z => by rw [z, f] at h1; cases h1
    rw [upd_ne hb]; exact E.dom b x h1
  · obtain ⟨q, a1, a2, a3, a4, a5⟩ := E.own i d h
    have hq : q ≠ p := fun z => n i d h (by rw [a1, z])
    exact ⟨q, a1, a2, a3.mono (Same.refl _) (upd_ne hq), a4, a5⟩
end
/-- run with all that is owned held fast -/
def prot {α : Type} (t : DM α) : DM α := fun ρ => match t (pinAll ρ) with
  | some (.ok a ρ') => some (.ok a (unpin ρ ρ'))
  | some (.ex x ρ') => some (.ex x (unpin ρ ρ'))
  | none => none

/-! ### several values, some of them new -/
def RFs (K : PySem.W.Frag) (ct : List Addr) (Φ : Fm) (G H : Hp) (σ : St) (ρ : List Sl) : List V → List Sl → Prop
  | [], [] => True
  | v :: vs, sl :: sls => RF K ct Φ G H σ ρ v sl ∧ RFs K ct Φ G H σ ρ vs sls ∧ ∀ d, sl = .ow d → ∀ (k : Nat) (d' : D), sls[k]? = some (.ow d') → vs[k]? ≠ some v
  | _, _ => False
def tFs (K : PySem.W.Frag) (ct : List Addr) (W : WX) (t : DM (List Sl)) : TA := fun σ H Q => ∃ Φ G ρ, EnvS K ct Φ G H σ ρ ∧ Post K ct Φ W σ G (t ρ) (fun sls ρ' G' H' => ∀ vs, RFs K ct Φ G' H' σ ρ' vs sls → Q vs H')
abbrev PFs (X : Cx) (ct : List Addr) (W : WX) (es : List Expr) (t : DM (List Sl)) : Prop := PA X es (tFs X.K ct W t)
section
variable {K : PySem.W.Frag} {ct : List Addr} {Φ : Fm} {W : WX} {G G' H H' : Hp} {σ σ' : St} {ρ ρ' : List Sl} {v : V} {sl : Sl} {α : Type}
/-- a new thing outlives what runs with everything held fast -/
theorem RF.over (E : EnvS K ct Φ G H σ ρ) (r : RF K ct Φ G H σ ρ v sl) (s : Same G G') (E' : EnvS K ct ⟨H, G, pinsOf σ ρ⟩ G' H' σ ρ') : RF K ct Φ G' H' σ (unpin ρ ρ') v sl := by
  cases sl with
  | un => exact r.elim
  | pn d => exact r.elim
  | sh d => exact R.mono s r
  | ow d =>
    obtain ⟨p, rfl, h1, h2, h3, h4⟩ := r
    obtain ⟨o, ho⟩ := h2.there
    have np : ∀ i, (i, p) ∉ pinsOf σ ρ := fun i hi => by
      obtain ⟨⟨d0, g1⟩, g2⟩ := mem_pinsOf.mp hi
      exact h4 i d0 g1 g2
    refine ⟨p, rfl, E'.gn p o ho h1, h2.mono s ((E'.fr p o ho np).trans ho.symm), h3, fun i d' hi ei => ?_⟩
    have hi' : isOwn ρ'[i]? = some d' := by
      rw [unpin_get] at hi
      cases e1 : ρ[i]? with
      | none => rw [e1] at hi; exact hi
      | some a =>
        cases e2 : ρ'[i]? with
        | none => rw [e1, e2] at hi; cases hi
        | some b => rw [e1, e2] at hi; cases a <;> cases b <;> first | exact hi | (cases hi; done)
    obtain ⟨q, c1, c2, c3, c4, c5⟩ := E'.own i d' hi'
    rw [ei] at c1; cases c1
    cases e2 : ρ'[i]? with
    | none => rw [e2] at hi'; cases hi'
    | some b =>
      rw [e2] at hi' c4 c5
      cases b with
      | ow d2 => cases hi'; have : H p = none := c5 rfl; rw [ho] at this; cases this
      | pn d2 => cases hi'; exact np i (c4 rfl)
      | un => cases hi'
      | sh d2 => cases hi'
theorem RF.base (E : EnvS K ct Φ G H σ ρ) (r : RF K ct ⟨H, G, pinsOf σ ρ⟩ G' H' σ ρ' v sl) : RF K ct Φ G' H' σ (unpin ρ ρ') v sl := by
  cases sl with
  | un => exact r.elim
  | pn d => exact r.elim
  | sh d => exact r
  | ow d =>
    obtain ⟨p, rfl, h1, h2, h3, h4⟩ := r
    have h3' : H p = none := h3
    refine ⟨p, rfl, h1, h2, ?_, fun i d' hi ei => ?_⟩
    · cases e : Φ.H p with
      | none => rfl
      | some x => obtain ⟨o', y⟩ := E.dom p x e; rw [h3'] at y; cases y
    · refine h4 i d' ?_ ei
      rw [unpin_get] at hi
      cases e1 : ρ[i]? with
      | none => rw [e1] at hi; exact hi
      | some a =>
        cases e2 : ρ'[i]? with
        | none => rw [e1, e2] at hi; cases hi
        | some b => rw [e1, e2] at hi; cases a <;> cases b <;> first | exact hi | (cases hi; done)
theorem prot_post {t : DM α} {k : α → List Sl → Hp → Hp → Prop} (E : EnvS K ct Φ G H σ ρ) (h : Post K ct Φ W σ G (prot t ρ) k) :
    Post K ct ⟨H, G, pinsOf σ ρ⟩ W σ G (t (pinAll ρ)) (fun a ρ' G' H' => Same G G' ∧ EnvS K ct ⟨H, G, pinsOf σ ρ⟩ G' H' σ ρ' ∧ EnvS K ct Φ G' H' σ (unpin ρ ρ') ∧ k a (unpin ρ ρ') G' H') := by
  unfold prot at h
  cases e : t (pinAll ρ) with
  | none => rw [e] at h; exact h
  | some o =>
    rw [e] at h
    cases o with
    | ok a ρ' => exact fun G2 H2 s2 E2 => ⟨s2, E2, E.unbase s2 E2, h G2 H2 s2 (E.unbase s2 E2)⟩
    | ex x ρ' => exact fun G2 H2 c dx s2 E2 rx => h G2 H2 c dx s2 (E.unbase s2 E2) rx
end
def fsCons (t : DM Sl) (r : DM (List Sl)) : DM (List Sl) := bnd t fun sl => bnd (prot r) fun sls => ret (sl :: sls)
section
variable {X : Cx} {ct : List Addr} {W : WX} {e : Expr} {es : List Expr} {pos : Pos}
theorem nNil : PFs X ct W [] (ret []) := by
  refine weakA pa_nil fun σ H Q q => ?_
  obtain ⟨Φ, G, ρ, E, q⟩ := q
  exact q G H (Same.refl _) E [] trivial
theorem RFs.base {K : PySem.W.Frag} {ct : List Addr} {Φ : Fm} {G G' H H' : Hp} {σ : St} {ρ ρ' : List Sl} (E : EnvS K ct Φ G H σ ρ) : ∀ {vs : List V} {sls : List Sl}, RFs K ct ⟨H, G, pinsOf σ ρ⟩ G' H' σ ρ' vs sls → RFs K ct Φ G' H' σ (unpin ρ ρ') vs sls
  | [], [], _ => trivial
  | v :: vs, sl :: sls, h => ⟨RF.base E h.1, RFs.base E h.2.1, h.2.2⟩
  | [], _ :: _, h => h.elim
  | _ :: _, [], h => h.elim
theorem RFs.fresh {K : PySem.W.Frag} {ct : List Addr} {Φ : Fm} {G H : Hp} {σ : St} {ρ : List Sl} : ∀ {vs : List V} {sls : List Sl}, RFs K ct Φ G H σ ρ vs sls → ∀ (k : Nat) (d : D) (v : V), sls[k]? = some (.ow d) → vs[k]? = some v → RF K ct Φ G H σ ρ v (.ow d)
  | [], [], _, k, d, v, e, _ => by simp at e
  | v0 :: vs, sl :: sls, h, 0, d, v, e1, e2 => by
    have e1' : sl = .ow d := by simpa using e1
    have e2' : v0 = v := by simpa using e2
    subst e1' e2'
    exact h.1
  | v0 :: vs, sl :: sls, h, k + 1, d, v, e1, e2 => RFs.fresh h.2.1 k d v (by simpa using e1) (by simpa using e2)
  | [], _ :: _, h, _, _, _, _, _ => h.elim
  | _ :: _, [], h, _, _, _, _, _ => h.elim
theorem nCons {t : DM Sl} {r : DM (List Sl)} (h : PEF X ct W e t) (hr : PFs X ct W es r) (hs : starEach (e :: es) X.env = (false, eval e X.env) :: starEach es X.env := by rfl) : PFs X ct W (e :: es) (fsCons t r) := by
  refine weakA (pa_cons h hr hs) fun σ H Q q => ?_
  obtain ⟨Φ, G, ρ, E, q⟩ := q
  refine ⟨Φ, G, ρ, E, (Post.bnd q).imp fun sl ρ1 G1 H1 s1 E1 q1 v1 r1 => ?_⟩
  refine ⟨_, G1, pinAll ρ1, E1.rebase, (prot_post E1 (Post.bnd q1.2)).imp fun sls ρ2 G2 H2 s2 E2 q2 vs r2 => ?_⟩
  obtain ⟨s3, E3, E4, _, q3⟩ := q2
  refine q3 G2 H2 (Same.refl _) E4 (v1 :: vs) ⟨RF.over E1 r1 s3 E3, RFs.base E1 r2, fun d ed k d' ek ev => ?_⟩
  subst ed
  obtain ⟨p, rfl, _, h2, _⟩ := r1
  obtain ⟨o, ho⟩ := h2.there
  obtain ⟨p', e', _, _, h3, _⟩ := RFs.fresh r2 k d' _ ek ev
  cases e'
  have : H1 p = none := h3
  rw [ho] at this; cases this
/-- a, b = x, y -/
def setSls : List Nat → List Sl → List Sl → Option (List Sl)
  | [], [], ρ => some ρ
  | i :: is, sl :: sls, ρ => (setSl i sl ρ).bind (setSls is sls)
  | _, _, _ => none
def parM (is : List Nat) (t : DM (List Sl)) : DM Fl := bnd t fun sls ρ => match setSls is sls ρ with
  | some ρ' => some (.ok .nx ρ')
  | none => none
end
section
variable {K : PySem.W.Frag} {ct : List Addr} {Φ : Fm} {G H : Hp} {σ : St} {ρ ρ' : List Sl}
theorem RF.set {v v' : V} {sl sl' : Sl} {i : Nat} (r : RF K ct Φ G H σ ρ v sl) (r' : RF K ct Φ G H σ ρ v' sl') (e : setSl i sl ρ = some ρ') (ne : ∀ d d', sl = .ow d → sl' = .ow d' → v' ≠ v) : RF K ct Φ G H (σ.set i (some v)) ρ' v' sl' := by
  have hi : i < ρ.length ∧ ρ' = ρ.set i sl ∧ (∀ d, sl ≠ .pn d) := by
    unfold setSl at e
    cases h : ρ[i]? with
    | none => rw [h] at e; cases e
    | some s0 =>
      rw [h] at e
      have := (List.getElem?_eq_some_iff.mp h).1
      cases s0 <;> cases sl <;> first | (cases e; done) | (cases e; exact ⟨this, rfl, by simp⟩)
  obtain ⟨hl, rfl, hp⟩ := hi
  cases sl' with
  | un => exact r'.elim
  | pn d => exact r'.elim
  | sh d => exact r'
  | ow d =>
    obtain ⟨p, rfl, h1, h2, h3, h4⟩ := r'
    refine ⟨p, rfl, h1, h2, h3, fun j d' hj ej => ?_⟩
    by_cases hij : i = j
    · subst hij
      rw [List.getElem?_set_self hl] at hj
      cases sl with
      | ow d1 =>
        have hv : v = .ref p := by
          have hl2 : i < σ.length := by
            rcases Nat.lt_or_ge i σ.length with z | z
            · exact z
            · rw [List.getElem?_eq_none (by simpa using z)] at ej; cases ej
          rw [List.getElem?_set_self hl2] at ej
          cases ej; rfl
        exact ne d1 d rfl rfl hv.symm
      | pn d1 => exact absurd rfl (hp d1)
      | un => cases hj
      | sh d1 => cases hj
    · rw [List.getElem?_set_ne hij] at hj ej
      exact h4 j d' hj ej
theorem RFs.set {v : V} {sl : Sl} {i : Nat} (r : RF K ct Φ G H σ ρ v sl) (e : setSl i sl ρ = some ρ') : ∀ {vs : List V} {sls : List Sl}, RFs K ct Φ G H σ ρ vs sls → (∀ d, sl = .ow d → ∀ (k : Nat) (d' : D), sls[k]? = some (.ow d') → vs[k]? ≠ some v) → RFs K ct Φ G H (σ.set i (some v)) ρ' vs sls
  | [], [], _, _ => trivial
  | w :: vs, s :: sls, h, hn => ⟨RF.set r h.1 e (fun d d' e1 e2 ev => hn d e1 0 d' (by rw [e2]; rfl) (by rw [ev]; rfl)), RFs.set r e h.2.1 (fun d ed k d' e1 => hn d ed (k + 1) d' (by simpa using e1)), h.2.2⟩
  | [], _ :: _, h, _ => h.elim
  | _ :: _, [], h, _ => h.elim
/-- the values stored, one after another -/
def setAll : List Nat → List V → St → St
  | i :: is, v :: vs, σ => setAll is vs (σ.set i (some v))
  | _, _, σ => σ
theorem EnvS.setAll : ∀ {is : List Nat} {vs : List V} {sls : List Sl} {σ : St} {ρ ρ' : List Sl}, EnvS K ct Φ G H σ ρ → RFs K ct Φ G H σ ρ vs sls → setSls is sls ρ = some ρ' → EnvS K ct Φ G H (setAll is vs σ) ρ' ∧ vs.length = is.length
  | [], [], [], σ, ρ, ρ', E, _, e => by cases e; exact ⟨E, rfl⟩
  | i :: is, v :: vs, sl :: sls, σ, ρ, ρ', E, r, e => by
    simp only [setSls, Option.bind_eq_some_iff] at e
    obtain ⟨ρ1, e1, e2⟩ := e
    obtain ⟨h1, h2⟩ := EnvS.setAll (E.set r.1 e1) (RFs.set r.1 e1 r.2.1 r.2.2) e2
    exact ⟨h1, by simp [h2]⟩
  | [], _ :: _, _ :: _, _, _, _, _, _, e => by cases e
  | i :: is, [], [], _, _, _, _, _, e => by cases e
  | _, [], _ :: _, _, _, _, _, r, _ => r.elim
  | _, _ :: _, [], _, _, _, _, r, _ => r.elim
end
section
variable {X : Cx} {ct : List Addr} {W : WX} {pos : Pos}
theorem sPar2 (i j : Nat) {x y : Str} {a b : Expr} {t : DM (List Sl)} {px py pt pt2 : Pos} {kt k2 : Nat} (hc : X.calm = true) (hN : X.N.Nodup) (ha : PFs X ct W [a, b] t) (hi : X.N[i]? = some x := by rfl) (hj : X.N[j]? = some y := by rfl) (hij : i ≠ j := by decide)
    (hx : X.env.scope.names.lookup x = some .local := by rfl) (hy : X.env.scope.names.lookup y = some .local := by rfl)
    (hw : swappedStores [.Tuple [.Name x px, .Name y py] kt pt] (.Tuple [a, b] k2 pt2) X.env = pure (some [x, y]) := by rfl)
    (hs : swapsWithSole [.Tuple [.Name x px, .Name y py] kt pt] (.Tuple [a, b] k2 pt2) pos.line X.env = pure false := by rfl) :
    PSD X ct W (.Assign [.Tuple [.Name x px, .Name y py] kt pt] (.Tuple [a, b] k2 pt2) pos) (parM [i, j] t) := by
  refine weakS (ps_par hc hN hi hj hij hx hy ha hw hs) fun D σ H q => ?_
  obtain ⟨Φ, G, ρ, E, q⟩ := q
  refine ⟨Φ, G, ρ, E, (PostS.bnd q).imp fun sls ρ1 G1 H1 s1 E1 q1 vs rs => ?_⟩
  have q2 := q1.2
  cases e : setSls [i, j] sls ρ1 with
  | none => rw [e] at q2; exact q2.elim
  | some ρ' =>
    rw [e] at q2
    obtain ⟨h1, h2⟩ := EnvS.setAll E1 rs e
    match vs, h2 with
    | [v, w], _ => exact ⟨v, w, rfl, q2 _ G1 H1 (Same.refl _) h1⟩
end
end FD

set_option Elab.async false
set_option linter.all false
set_option maxRecDepth 100000
namespace FD
open PySem L2

section
variable {X : Cx} {ct : List Addr} {W : WX} {pos : Pos}
theorem sPar3 (i j l : Nat) {x y z : Str} {a b c : Expr} {t : DM (List Sl)} {px py pz pt pt2 : Pos} {kt k2 : Nat} (hc : X.calm = true) (hN : X.N.Nodup) (ha : PFs X ct W [a, b, c] t) (hi : X.N[i]? = some x := by rfl) (hj : X.N[j]? = some y := by rfl) (hl : X.N[l]? = some z := by rfl) (hij : i ≠ j := by decide) (hil : i ≠ l := by decide) (hjl : j ≠ l := by decide)
    (hx : X.env.scope.names.lookup x = some .local := by rfl) (hy : X.env.scope.names.lookup y = some .local := by rfl) (hz : X.env.scope.names.lookup z = some .local := by rfl)
    (hw : swappedStores [.Tuple [.Name x px, .Name y py, .Name z pz] kt pt] (.Tuple [a, b, c] k2 pt2) X.env = pure (some [x, y, z]) := by rfl)
    (hs : swapsWithSole [.Tuple [.Name x px, .Name y py, .Name z pz] kt pt] (.Tuple [a, b, c] k2 pt2) pos.line X.env = pure false := by rfl) :
    PSD X ct W (.Assign [.Tuple [.Name x px, .Name y py, .Name z pz] kt pt] (.Tuple [a, b, c] k2 pt2) pos) (parM [i, j, l] t) := by
  refine weakS (ps_par3 hc hN hi hj hl hij hil hjl hx hy hz ha hw hs) fun D σ H q => ?_
  obtain ⟨Φ, G, ρ, E, q⟩ := q
  refine ⟨Φ, G, ρ, E, (PostS.bnd q).imp fun sls ρ1 G1 H1 s1 E1 q1 vs rs => ?_⟩
  have q2 := q1.2
  cases e : setSls [i, j, l] sls ρ1 with
  | none => rw [e] at q2; exact q2.elim
  | some ρ' =>
    rw [e] at q2
    obtain ⟨h1, h2⟩ := EnvS.setAll E1 rs e
    match vs, h2 with
    | [u, v, w], _ => exact ⟨u, v, w, rfl, q2 _ G1 H1 (Same.refl _) h1⟩
end

/-! ### comprehensions -/
def wipeS (ρ : List Sl) : List Nat → List Sl
  | [] => ρ
  | v :: vs => (wipeS ρ vs).set v .un
def plainAt (ρ : List Sl) (vs : List Nat) : Bool := vs.all fun (i : Nat) => match (ρ[i]? : Option Sl) with
  | some .un => true
  | some (.sh _) => true
  | _ => false
def restS (ρ0 : List Sl) (vs : List Nat) (ρ : List Sl) : List Sl := match vs with
  | [] => ρ
  | v :: vs => match ρ0[v]? with
    | some s => (restS ρ0 vs ρ).set v s
    | none => restS ρ0 vs ρ
theorem wipeS_length (ρ : List Sl) : ∀ vs : List Nat, (wipeS ρ vs).length = ρ.length
  | [] => rfl
  | v :: vs => by unfold wipeS; rw [List.length_set, wipeS_length ρ vs]
theorem wipeS_get (ρ : List Sl) : ∀ (vs : List Nat) (i : Nat), (wipeS ρ vs)[i]? = if i ∈ vs then (ρ[i]?.map fun _ => Sl.un) else ρ[i]?
  | [], i => by simp [wipeS]
  | v :: vs, i => by
    unfold wipeS
    by_cases h : v = i
    · subst h
      rw [if_pos List.mem_cons_self]
      by_cases hl : v < ρ.length
      · rw [List.getElem?_set_self (by rw [wipeS_length]; exact hl), List.getElem?_eq_getElem hl]; rfl
      · rw [List.getElem?_eq_none (by rw [List.length_set, wipeS_length]; omega), List.getElem?_eq_none (by omega)]; rfl
    · rw [List.getElem?_set_ne h, wipeS_get ρ vs i]
      by_cases h2 : i ∈ vs
      · rw [if_pos h2, if_pos (List.mem_cons_of_mem _ h2)]
      · rw [if_neg h2, if_neg (by simp only [List.mem_cons, not_or]; exact ⟨fun z => h z.symm, h2⟩)]
theorem wipe_get (σ : St) : ∀ (vs : List Nat) (i : Nat), (wipe σ vs)[i]? = if i ∈ vs then (σ[i]?.map fun _ => none) else σ[i]?
  | [], i => by simp [wipe]
  | v :: vs, i => by
    unfold wipe
    by_cases h : v = i
    · subst h
      rw [if_pos List.mem_cons_self]
      by_cases hl : v < σ.length
      · rw [List.getElem?_set_self (by rw [wipe_length]; exact hl), List.getElem?_eq_getElem hl]; rfl
      · rw [List.getElem?_eq_none (by rw [List.length_set, wipe_length]; omega), List.getElem?_eq_none (by omega)]; rfl
    · rw [List.getElem?_set_ne h, wipe_get σ vs i]
      by_cases h2 : i ∈ vs
      · rw [if_pos h2, if_pos (List.mem_cons_of_mem _ h2)]
      · rw [if_neg h2, if_neg (by simp only [List.mem_cons, not_or]; exact ⟨fun z => h z.symm, h2⟩)]
theorem restS_length (ρ0 : List Sl) : ∀ (vs : List Nat) (ρ : List Sl), (restS ρ0 vs ρ).length = ρ.length
  | [], ρ => rfl
  | v :: vs, ρ => by
    unfold restS
    split
    · rw [List.length_set, restS_length ρ0 vs ρ]
    · exact restS_length ρ0 vs ρ
theorem restS_get (ρ0 : List Sl) : ∀ (vs : List Nat) (ρ : List Sl) (i : Nat), ρ.length = ρ0.length → (restS ρ0 vs ρ)[i]? = if i ∈ vs then ρ0[i]? else ρ[i]?
  | [], ρ, i, _ => by simp [restS]
  | v :: vs, ρ, i, hl => by
    have ih := restS_get ρ0 vs ρ i hl
    unfold restS
    by_cases h : v = i
    · subst h
      rw [if_pos List.mem_cons_self]
      cases e : ρ0[v]? with
      | none =>
        simp only
        rw [List.getElem?_eq_none]
        rw [restS_length, hl]
        exact List.getElem?_eq_none_iff.mp e
      | some s =>
        simp only
        rw [List.getElem?_set_self]
        rw [restS_length, hl]
        exact (List.getElem?_eq_some_iff.mp e).1
    · have e2 : (match ρ0[v]? with | some s => (restS ρ0 vs ρ).set v s | none => restS ρ0 vs ρ)[i]? = (restS ρ0 vs ρ)[i]? := by
        split
        · exact List.getElem?_set_ne h
        · rfl
      rw [e2, ih]
      by_cases h2 : i ∈ vs
      · rw [if_pos h2, if_pos (List.mem_cons_of_mem _ h2)]
      · rw [if_neg h2, if_neg (by simp only [List.mem_cons, not_or]; exact ⟨fun z => h z.symm, h2⟩)]
theorem plainAt_get {ρ : List Sl} {vs : List Nat} {i : Nat} (h : plainAt ρ vs = true) (hi : i ∈ vs) : ρ[i]? = some .un ∨ ∃ d, ρ[i]? = some (.sh d) := by
  have := List.all_eq_true.mp h i hi
  split at this
  · rename_i e; exact .inl e
  · rename_i d e; exact .inr ⟨d, e⟩
  · cases this
section
variable {K : PySem.W.Frag} {ct : List Addr} {Φ : Fm} {G G' H H' : Hp} {σ σ' : St} {ρ ρ' : List Sl} {vs : List Nat}
theorem EnvS.wipe (E : EnvS K ct Φ G H σ ρ) (hp : plainAt ρ vs = true) : EnvS K ct Φ G H (L2.wipe σ vs) (wipeS ρ vs) := by
  have hn : ∀ (i : Nat) (s : Sl), (wipeS ρ vs)[i]? = some s → s ≠ .un → i ∉ vs ∧ ρ[i]? = some s := fun i s h hs => by
    rw [wipeS_get] at h
    by_cases hi : i ∈ vs
    · rw [if_pos hi] at h
      cases e : ρ[i]? with
      | none => rw [e] at h; cases h
      | some x => rw [e] at h; cases h; exact absurd rfl hs
    · rw [if_neg hi] at h; exact ⟨hi, h⟩
  have ho : ∀ (i : Nat) (d : D), isOwn (wipeS ρ vs)[i]? = some d → i ∉ vs ∧ isOwn ρ[i]? = some d ∧ (wipeS ρ vs)[i]? = ρ[i]? := fun i d h => by
    cases e : (wipeS ρ vs)[i]? with
    | none => rw [e] at h; cases h
    | some s =>
      rw [e] at h
      obtain ⟨h1, h2⟩ := hn i s e (by intro z; subst z; cases h)
      rw [h2]; exact ⟨h1, h, rfl⟩
  have hv : ∀ i, i ∉ vs → (L2.wipe σ vs)[i]? = σ[i]? := fun i hi => by rw [wipe_get, if_neg hi]
  refine ⟨by rw [wipeS_length, wipe_length]; exact E.len, E.gh, E.g0, E.fr, E.dom, E.gn, fun i p h => ?_, fun i d h => ?_, fun i d h => ?_, fun i j di dj p hij hi hj ei ej => ?_⟩
  · obtain ⟨a1, d, a2⟩ := E.pin i p h
    have hi : i ∉ vs := fun z => by
      rcases plainAt_get hp z with e | ⟨d', e⟩ <;> (rw [e] at a2; cases a2)
    rw [hv i hi, wipeS_get, if_neg hi]
    exact ⟨a1, d, a2⟩
  · obtain ⟨h1, h2⟩ := hn i _ h (by simp)
    rw [hv i h1]
    exact E.sh i d h2
  · obtain ⟨h1, h2, h3⟩ := ho i d h
    rw [hv i h1, h3]
    exact E.own i d h2
  · obtain ⟨h1, h2, _⟩ := ho i di hi
    obtain ⟨h3, h4, _⟩ := ho j dj hj
    rw [hv i h1] at ei
    rw [hv j h3] at ej
    exact E.ne i j di dj p hij h2 h4 ei ej
theorem EnvS.restore (E : EnvS K ct Φ G H σ ρ) (hp : plainAt ρ vs = true) (s : Same G G') (E' : EnvS K ct Φ G' H' (L2.wipe σ vs) ρ') : EnvS K ct Φ G' H' σ (restS ρ vs ρ') := by
  have hl : ρ'.length = ρ.length := by rw [E'.len, wipe_length, ← E.len]
  have hg : ∀ i, (restS ρ vs ρ')[i]? = if i ∈ vs then ρ[i]? else ρ'[i]? := fun i => restS_get ρ vs ρ' i hl
  have hv : ∀ i, i ∉ vs → (L2.wipe σ vs)[i]? = σ[i]? := fun i hi => by rw [wipe_get, if_neg hi]
  have ho : ∀ (i : Nat) (d : D), isOwn (restS ρ vs ρ')[i]? = some d → i ∉ vs ∧ isOwn ρ'[i]? = some d ∧ (restS ρ vs ρ')[i]? = ρ'[i]? := fun i d h => by
    by_cases hi : i ∈ vs
    · rw [hg, if_pos hi] at h
      rcases plainAt_get hp hi with e | ⟨d', e⟩ <;> (rw [e] at h; cases h)
    · rw [hg, if_neg hi] at h
      exact ⟨hi, h, by rw [hg, if_neg hi]⟩
  refine ⟨by rw [restS_length, hl]; exact E.len, E'.gh, E'.g0, E'.fr, E'.dom, E'.gn, fun i p h => ?_, fun i d h => ?_, fun i d h => ?_, fun i j di dj p hij hi hj ei ej => ?_⟩
  · obtain ⟨a1, d, a2⟩ := E.pin i p h
    have hi : i ∉ vs := fun z => by
      rcases plainAt_get hp z with e | ⟨d', e⟩ <;> (rw [e] at a2; cases a2)
    obtain ⟨b1, d', b2⟩ := E'.pin i p h
    exact ⟨a1, d', by rw [hg, if_neg hi]; exact b2⟩
  · by_cases hi : i ∈ vs
    · rw [hg, if_pos hi] at h
      obtain ⟨v, e1, e2⟩ := E.sh i d h
      exact ⟨v, e1, e2.mono s⟩
    · rw [hg, if_neg hi] at h
      obtain ⟨v, e1, e2⟩ := E'.sh i d h
      rw [hv i hi] at e1
      exact ⟨v, e1, e2⟩
  · obtain ⟨h1, h2, h3⟩ := ho i d h
    rw [h3]
    have := E'.own i d h2
    rw [hv i h1] at this
    exact this
  · obtain ⟨h1, h2, _⟩ := ho i di hi
    obtain ⟨h3, h4, _⟩ := ho j dj hj
    rw [← hv i h1] at ei
    rw [← hv j h3] at ej
    exact E'.ne i j di dj p hij h2 h4 ei ej
end
/-- targets of a comprehension: they touch the block's own slots alone -/
def tGw (K : PySem.W.Frag) (ct : List Addr) (vs : List Nat) (m : Tg) : TG := fun v σ H Q => ∃ Φ G ρ d ρ', EnvS K ct Φ G H σ ρ ∧ R K ct G v d ∧ m d ρ = some ρ' ∧ ∀ σ' G' H', Same G G' → EnvS K ct Φ G' H' σ' ρ' → σ'.length = σ.length → (∀ j, j ∉ vs → σ'[j]? = σ[j]?) → Q σ' H'
def tGws (K : PySem.W.Frag) (ct : List Addr) (vs : List Nat) (m : List D → List Sl → Option (List Sl)) : TGs := fun us σ H Q => ∃ Φ G ρ ds ρ', EnvS K ct Φ G H σ ρ ∧ Rs K ct G us ds ∧ m ds ρ = some ρ' ∧ ∀ σ' G' H', Same G G' → EnvS K ct Φ G' H' σ' ρ' → σ'.length = σ.length → (∀ j, j ∉ vs → σ'[j]? = σ[j]?) → Q σ' H'
abbrev PGw (X : Cx) (ct : List Addr) (vs : List Nat) (e : Expr) (m : Tg) : Prop := PG X e (tGw X.K ct vs m)
abbrev PGws (X : Cx) (ct : List Addr) (vs : List Nat) (e : List Expr) (m : List D → List Sl → Option (List Sl)) : Prop := PGs X e (tGws X.K ct vs m)
section
variable {X : Cx} {ct : List Addr} {W : WX} {pos : Pos} {vs : List Nat}
theorem wName (i : Nat) {x : Str} (hN : X.N.Nodup) (hv : i ∈ vs := by decide) (hi : X.N[i]? = some x := by rfl) (hx : Loc X.env.scope x := by first | exact Or.inl rfl | exact Or.inr rfl) (hf : X.fn x = true ∨ X.env.scope.names.lookup x = some .local := by first | exact .inl rfl | exact .inr rfl | assumption) : PGw X ct vs (.Name x pos) (gN i) := by
  refine weakG (pg_name (i := i) hN hi hx hf) fun v σ H Q q => ?_
  obtain ⟨Φ, G, ρ, d, ρ', E, r, e, k⟩ := q
  exact k _ G H (Same.refl _) (E.set (sl := .sh d) r e) List.length_set fun j hj => List.getElem?_set_ne (show i ≠ j from fun z => hj (z ▸ hv))
theorem wsNil : PGws X ct vs [] gs0 := by
  refine weakGs pgs_nil fun us σ H Q q => ?_
  obtain ⟨Φ, G, ρ, ds, ρ', E, r, e, k⟩ := q
  cases r with
  | nil => cases e; exact ⟨rfl, k σ G H (Same.refl _) E rfl fun _ _ => rfl⟩
  | cons _ _ => cases e
theorem wsCons {e : Expr} {es : List Expr} {m : Tg} {r : List D → List Sl → Option (List Sl)} (h1 : PGw X ct vs e m) (h2 : PGws X ct vs es r)
    (hs : (assignEach (e :: es) X.env).map (·.2) = assign e X.env :: (assignEach es X.env).map (·.2) := by rfl) : PGws X ct vs (e :: es) (gs1 m r) := by
  refine weakGs (pgs_cons h1 h2 hs) fun us σ H Q q => ?_
  obtain ⟨Φ, G, ρ, ds, ρ', E, rr, e, k⟩ := q
  cases rr with
  | nil => cases e
  | cons r1 r2 =>
    simp only [gs1, Option.bind_eq_some_iff] at e
    obtain ⟨ρ1, e1, e2⟩ := e
    exact ⟨_, _, rfl, Φ, G, ρ, _, ρ1, E, r1, e1, fun σ1 G1 H1 s1 E1 l1 w1 => ⟨Φ, G1, ρ1, _, ρ', E1, r2.mono s1, e2, fun σ2 G2 H2 s2 E2 l2 w2 => k σ2 G2 H2 (s1.trans s2) E2 (l2.trans l1) fun j hj => (w2 j hj).trans (w1 j hj)⟩⟩
theorem wTup {es : List Expr} {k n : Nat} {r : List D → List Sl → Option (List Sl)} (hc : X.calm = true) (h : PGws X ct vs es r)
    (hn : (assignEach es X.env).length = n := by rfl) (hst : (assignEach es X.env).findIdx? (·.1) = none := by rfl) : PGw X ct vs (.Tuple es k pos) (gT n r) := by
  refine weakG (pg_tup (n := n) hc h hn hst) fun v σ H Q q => ?_
  obtain ⟨Φ, G, ρ, d, ρ', E, rr, e, k⟩ := q
  cases rr with
  | tup h1 h2 =>
    simp only [gT] at e
    split at e
    · rename_i hl
      exact ⟨_, _, rfl, Same.seqT E.gh h1, by rw [h2.length]; exact hl, Φ, G, ρ, _, ρ', E, h2, e, k⟩
    · cases e
  | _ => cases e
end
def W0 : WX := fun _ _ _ _ => False
/-- one turn -/
def itM (m : Tg) (c : DM Bool) (e : DM D) (d : D) : DM (Option D) := fun ρ => match m d ρ with
  | none => none
  | some ρ1 => bnd c (fun b => if b then bnd e fun y => ret (some y) else ret none) ρ1
def lcL (vs : List Nat) (m : Tg) (c : DM Bool) (e : DM D) : List D → List D → DM (List D)
  | [], acc => ret acc
  | d :: ds, acc => fun ρ => match prot (itM m c e d) ρ with
    | some (.ok (some y) ρ') => if plainAt ρ' vs && decide (acc.length < sizeLine) then lcL vs m c e ds (acc ++ [y]) (wipeS ρ' vs) else none
    | some (.ok none ρ') => if plainAt ρ' vs then lcL vs m c e ds acc (wipeS ρ' vs) else none
    | _ => none
def lcE (ρ : List Sl) (vs : List Nat) : Option (Out (List D)) → Option (Out Sl)
  | some (.ok acc ρ') => some (.ok (.ow (.lst acc)) (restS ρ vs ρ'))
  | _ => none
def lcM (vs : List Nat) (t : DM (List D)) (m : Tg) (c : DM Bool) (e : DM D) : DM Sl := bnd t fun ds ρ => if plainAt ρ vs then lcE ρ vs (lcL vs m c e ds [] (wipeS ρ vs)) else none
abbrev PTsD (X : Cx) (ct : List Addr) (W : WX) (ifs : List Expr) (t : DM Bool) : Prop := PTs X ifs (tTD X.K ct W t)
section
variable {X : Cx} {ct : List Addr} {W : WX}
theorem ifs0 : PTsD X ct W [] (ret true) := ⟨fun pins s σ H Q I q => pts_nil.run pins s σ H Q I (by obtain ⟨Φ, G, ρ, E, q⟩ := q; exact q G H (Same.refl _) E)⟩
theorem ifs1 {c : Expr} {t : DM Bool} (h : PTD X ct W c t) : PTsD X ct W [c] t := pts_one h
theorem wipe_eq {σ σ' : St} {vs : List Nat} (hl : σ'.length = σ.length) (h : ∀ j, j ∉ vs → σ'[j]? = σ[j]?) : wipe σ' vs = wipe σ vs := by
  apply List.ext_getElem?
  intro i
  rw [wipe_get, wipe_get]
  by_cases hi : i ∈ vs
  · rw [if_pos hi, if_pos hi]
    by_cases hlt : i < σ.length
    · rw [List.getElem?_eq_getElem hlt, List.getElem?_eq_getElem (by rw [hl]; exact hlt)]; rfl
    · have a1 : σ[i]? = none := List.getElem?_eq_none (by omega)
      have a2 : σ'[i]? = none := List.getElem?_eq_none (by omega)
      rw [a1, a2]
  · rw [if_neg hi, if_neg hi, h i hi]
theorem wipe_wipe (σ : St) (vs : List Nat) : wipe (wipe σ vs) vs = wipe σ vs := wipe_eq (wipe_length σ vs) fun j hj => by rw [wipe_get, if_neg hj]
theorem tLcF {own : List (Str × Nat)} {t : DM (List D)} {m : Tg} {c : DM Bool} {e : DM D} {σ : St} {H : Hp} {Q : VK} (q : tF X.K ct W (lcM (own.map (·.2)) t m c e) σ H Q) : tLc (tI X.K ct W t) (tGw X.K ct (own.map (·.2)) m) (tTD X.K ct W0 c) (tD X.K ct W0 e) (own.map (·.2)) σ H Q := by
  generalize own.map (·.2) = vs at q ⊢
  obtain ⟨Φ, G, ρ, E, q⟩ := q
  refine ⟨Φ, G, ρ, E, (Post.bnd q).imp fun ds ρ1 G1 H1 s1 E1 q1 J hJ D hD => ?_⟩
  have q2 := q1.2
  by_cases hpl : plainAt ρ1 vs = true
  case neg => rw [if_neg hpl] at q2; exact q2.elim
  rw [if_pos hpl] at q2
  have fD : Φ.H D = none := by
    cases z : Φ.H D with
    | none => rfl
    | some o => obtain ⟨o', y⟩ := E1.dom D o z; rw [hD] at y; cases y
  -- the invariant: the new list at D, what is left
  refine ⟨fun i n H' => n = ds.length - i ∧ i ≤ ds.length ∧ ∃ G' ρ' acc avs, Same G1 G' ∧ EnvS X.K ct Φ G' H' (wipe σ vs) ρ' ∧ plainAt ρ' vs = true ∧ wipeS ρ' vs = ρ' ∧ G' D = none ∧ H' D = some (.lst avs) ∧ Rs X.K ct G' avs acc ∧
      (∀ (j : Nat) (d' : FD.D), isOwn ρ'[j]? = some d' → (wipe σ vs)[j]? ≠ some (some (.ref D))) ∧
      Post X.K ct Φ W σ G' (lcE ρ1 vs (lcL vs m c e (ds.drop i) acc ρ')) (fun sl ρ' G' H' => ∀ v, RF X.K ct Φ G' H' σ ρ' v sl → Q v H'),
    ⟨ds.length, by omega, Nat.zero_le _, G1, wipeS ρ1 vs, [], [], Same.refl _, ?_, ?_, ?_, E1.gh.free hD, upd_same, .nil, ?_, q2⟩, ?_⟩
  · refine (E1.wipe hpl).poke (E1.gh.free hD) fD fun j d' hj ej => ?_
    obtain ⟨o, ho⟩ := (E1.wipe hpl).ownH hj ej
    rw [hD] at ho; cases ho
  · refine List.all_eq_true.mpr fun i hi => ?_
    rcases plainAt_get hpl hi with z | ⟨d, z⟩ <;> (rw [wipeS_get, if_pos hi, z]; rfl)
  · apply List.ext_getElem?
    intro i
    rw [wipeS_get, wipeS_get]
    by_cases hi : i ∈ vs
    · rw [if_pos hi, if_pos hi]; cases ρ1[i]? <;> rfl
    · rw [if_neg hi, if_neg hi]
  · intro j d' hj ej
    obtain ⟨o, ho⟩ := (E1.wipe hpl).ownH hj ej
    rw [hD] at ho; cases ho
  · rintro i n H2 ⟨rfl, hi, G2, ρ2, acc, avs, s2, E2, pl2, w2, gD, hD2, rD, nD, q3⟩
    by_cases hlt : i < ds.length
    · have hd : ds[i]? = some ds[i] := List.getElem?_eq_getElem hlt
      have ed : ds.drop i = ds[i] :: ds.drop (i + 1) := List.drop_eq_getElem_cons hlt
      rw [ed] at q3
      obtain ⟨go, yl⟩ := (hJ i G2 H2 s2 E2.gh).1 _ hd
      refine .inr ⟨go, fun H' => ∃ G' ρ' acc avs, Same G1 G' ∧ EnvS X.K ct Φ G' H' (wipe σ vs) ρ' ∧ plainAt ρ' vs = true ∧ wipeS ρ' vs = ρ' ∧ G' D = none ∧ H' D = some (.lst avs) ∧ Rs X.K ct G' avs acc ∧
          (∀ (j : Nat) (d' : FD.D), isOwn ρ'[j]? = some d' → (wipe σ vs)[j]? ≠ some (some (.ref D))) ∧
          Post X.K ct Φ W σ G' (lcE ρ1 vs (lcL vs m c e (ds.drop (i + 1)) acc ρ')) (fun sl ρ' G' H' => ∀ v, RF X.K ct Φ G' H' σ ρ' v sl → Q v H'),
        fun H' ⟨G', ρ', a1, a2, z⟩ => ⟨ds.length - (i + 1), by omega, rfl, hlt, G', ρ', a1, a2, z⟩, fun x H3 hx => ?_⟩
      obtain ⟨G3, ex, rx⟩ := yl x H3 hx
      have E3 := E2.ext ex
      have hD3 : H3 D = some (.lst avs) := ex.hh D _ hD2
      have gD3 : G3 D = none := by rw [ex.old D _ hD2]; exact gD
      unfold lcL at q3
      have key : ∀ (o : Option FD.D) (ρ4 : List Sl), itM m c e ds[i] (pinAll ρ2) = some (.ok o ρ4) → ∀ (G5 H5 : Hp) (σ5 : St), Same G3 G5 → EnvS X.K ct ⟨H3, G3, pinsOf (wipe σ vs) ρ2⟩ G5 H5 σ5 ρ4 → wipe σ5 vs = wipe σ vs → plainAt (unpin ρ2 ρ4) vs = true →
          EnvS X.K ct Φ G5 H5 (wipe σ vs) (wipeS (unpin ρ2 ρ4) vs) ∧ H5 D = some (.lst avs) ∧ G5 D = none ∧ (∀ (j : Nat) (d' : FD.D), isOwn (wipeS (unpin ρ2 ρ4) vs)[j]? = some d' → (wipe σ vs)[j]? ≠ some (some (.ref D))) ∧ plainAt (wipeS (unpin ρ2 ρ4) vs) vs = true ∧ wipeS (wipeS (unpin ρ2 ρ4) vs) vs = wipeS (unpin ρ2 ρ4) vs := by
        intro o ρ4 ho G5 H5 σ5 s5 E5 w5 pl5
        have E6 := E3.unbase s5 E5
        have E7 := E6.wipe pl5
        rw [w5] at E7
        have np : ∀ j, (j, D) ∉ pinsOf (wipe σ vs) ρ2 := fun j hj => by
          obtain ⟨⟨d0, g1⟩, g2⟩ := mem_pinsOf.mp hj
          exact nD j d0 g1 g2
        have hD5 : H5 D = some (.lst avs) := E5.fr D _ hD3 np
        have gD5 : G5 D = none := E5.gn D _ hD3 gD3
        refine ⟨E7, hD5, gD5, fun j d' hj ej => ?_, ?_, ?_⟩
        · obtain ⟨p, a1, a2, a3, a4, a5⟩ := E7.own j d' hj
          rw [ej] at a1; cases a1
          have hj' : isOwn (unpin ρ2 ρ4)[j]? = some d' := by
            rw [wipeS_get] at hj
            by_cases hjv : j ∈ vs
            · rw [if_pos hjv] at hj
              cases z : (unpin ρ2 ρ4)[j]? with
              | none => rw [z] at hj; cases hj
              | some y => rw [z] at hj; cases hj
            · rw [if_neg hjv] at hj; exact hj
          have hj4 : isOwn ρ4[j]? = some d' := by
            rw [unpin_get] at hj'
            cases e1 : ρ2[j]? with
            | none => rw [e1] at hj'; exact hj'
            | some a =>
              cases e2 : ρ4[j]? with
              | none => rw [e1, e2] at hj'; cases hj'
              | some b => rw [e1, e2] at hj'; cases a <;> cases b <;> first | exact hj' | (cases hj'; done)
          have hjv : j ∉ vs := fun z => by
            rcases plainAt_get pl5 z with y | ⟨d2, y⟩ <;> (rw [y] at hj'; cases hj')
          have e5 : σ5[j]? = some (some (.ref D)) := by
            have : (wipe σ5 vs)[j]? = σ5[j]? := by rw [wipe_get, if_neg hjv]
            rw [← this, w5]; exact ej
          obtain ⟨p', b1, b2, b3, b4, b5⟩ := E5.own j d' hj4
          rw [e5] at b1; cases b1
          cases e2 : ρ4[j]? with
          | none => rw [e2] at hj4; cases hj4
          | some b =>
            rw [e2] at hj4 b4 b5
            cases b with
            | ow d2 => cases hj4; have : H3 D = none := b5 rfl; rw [hD3] at this; cases this
            | pn d2 => cases hj4; exact np j (b4 rfl)
            | un => cases hj4
            | sh d2 => cases hj4
        · refine List.all_eq_true.mpr fun k hk => ?_
          rcases plainAt_get pl5 hk with z | ⟨d, z⟩ <;> (rw [wipeS_get, if_pos hk, z]; rfl)
        · apply List.ext_getElem?
          intro k
          rw [wipeS_get, wipeS_get]
          by_cases hk : k ∈ vs
          · rw [if_pos hk, if_pos hk]; cases (unpin ρ2 ρ4)[k]? <;> rfl
          · rw [if_neg hk, if_neg hk]
      unfold prot at q3
      have hw2 : wipe (wipe σ vs) vs = wipe σ vs := wipe_wipe σ vs
      cases em : m ds[i] (pinAll ρ2) with
      | none => simp only [itM, em] at q3; exact q3.elim
      | some ρ3 =>
        refine ⟨_, G3, pinAll ρ2, _, ρ3, E3.rebase, rx, em, fun σ4 G4 H4 s4 E4 l4 k4 => ?_⟩
        have w4 : wipe σ4 vs = wipe σ vs := (wipe_eq l4 k4).trans hw2
        refine ⟨w4, _, G4, ρ3, E4, ?_⟩
        cases hc : c ρ3 with
        | none => simp only [itM, em, FD.bnd, hc] at q3; exact q3.elim
        | some oc =>
          cases oc with
          | ex z ρz => simp only [itM, em, FD.bnd, hc] at q3; exact q3.elim
          | ok b ρ5 =>
            intro G5 H5 s5 E5
            cases b with
            | false =>
              refine iteF ?_
              have hi : itM m c e ds[i] (pinAll ρ2) = some (.ok none ρ5) := by simp only [itM, em, FD.bnd, hc]; rfl
              rw [hi] at q3
              simp only at q3
              by_cases pl5 : plainAt (unpin ρ2 ρ5) vs = true
              · rw [if_pos pl5] at q3
                obtain ⟨k1, k2, k3, k4', k5, k6⟩ := key none ρ5 hi G5 H5 σ4 (s4.trans s5) E5 w4 pl5
                have sm : Same G2 G5 := ex.gg.trans (s4.trans s5)
                exact ⟨G5, _, acc, avs, s2.trans sm, k1, k5, k6, k3, k2, rD.mono sm, k4', Post.mono q3 sm⟩
              · rw [if_neg pl5] at q3; exact q3.elim
            | true =>
              refine iteT ⟨_, G5, ρ5, E5, ?_⟩
              cases he : e ρ5 with
              | none => simp only [itM, em, FD.bnd, hc, he, if_true] at q3; exact q3.elim
              | some oe =>
                cases oe with
                | ex z ρz => simp only [itM, em, FD.bnd, hc, he, if_true] at q3; exact q3.elim
                | ok y ρ6 =>
                  intro G6 H6 s6 E6 v rv
                  have hi : itM m c e ds[i] (pinAll ρ2) = some (.ok (some y) ρ6) := by simp only [itM, em, FD.bnd, hc, if_true, he]; rfl
                  rw [hi] at q3
                  simp only at q3
                  by_cases pl6 : (plainAt (unpin ρ2 ρ6) vs && decide (acc.length < sizeLine)) = true
                  · rw [if_pos pl6] at q3
                    rw [Bool.and_eq_true, decide_eq_true_eq] at pl6
                    obtain ⟨k1, k2, k3, k4', k5, k6⟩ := key (some y) ρ6 hi G6 H6 σ4 (s4.trans (s5.trans s6)) E6 w4 pl6.1
                    have sm : Same G2 G6 := ex.gg.trans (s4.trans (s5.trans s6))
                    refine ⟨avs, k2, by rw [rD.length]; exact pl6.2, G6, _, acc ++ [y], avs ++ [v], s2.trans sm, k1.poke k3 fD k4', k5, k6, k3, upd_same, (rD.mono sm).append (.cons rv .nil), k4', Post.mono q3 sm⟩
                  · rw [if_neg pl6] at q3; exact q3.elim
    · have ed : ds.drop i = [] := List.drop_eq_nil_of_le (by omega)
      rw [ed] at q3
      refine .inl ⟨(hJ i G2 H2 s2 E2.gh).2 (by omega), ?_⟩
      have q4 : Post X.K ct Φ W σ G2 (some (.ok (.ow (.lst acc)) (restS ρ1 vs ρ2))) (fun sl ρ' G' H' => ∀ v, RF X.K ct Φ G' H' σ ρ' v sl → Q v H') := q3
      have E5 := E1.restore hpl s2 E2
      refine q4 G2 H2 (Same.refl _) E5 (.ref D) ⟨D, rfl, gD, ⟨avs, hD2, rD⟩, fD, fun j d' hj ej => ?_⟩
      obtain ⟨p, a1, _⟩ := E5.own j d' hj
      have hl : ρ2.length = ρ1.length := by rw [E2.len, wipe_length, ← E1.len]
      rw [restS_get ρ1 vs ρ2 j hl] at hj
      by_cases hjv : j ∈ vs
      · rw [if_pos hjv] at hj
        rcases plainAt_get hpl hjv with y | ⟨d2, y⟩ <;> (rw [y] at hj; cases hj)
      · rw [if_neg hjv] at hj
        refine nD j d' hj ?_
        rw [wipe_get, if_neg hjv]; exact ej
end
end FD

set_option Elab.async false
set_option linter.all false
set_option maxRecDepth 100000
namespace FD
open PySem L2

section
variable {X : Cx} {ct : List Addr} {W : WX}
/-- [e for target in iter if c] -/
theorem fLc (own : List (Str × Nat)) {elt tg iter : Expr} {ifs : List Expr} {scope : Scope} {pos : Pos} {t : DM (List D)} {m : Tg} {c : DM Bool} {e : DM D} (hc : X.calm = true) (hN : X.N.Nodup) (hi : PID X ct W tg iter t) (ok : BlkOk X.N X.env.scope scope own)
    (hg : ∀ (s : Shared) (H : Hp) (C : Addr) (cl : List (Str × Addr)) (fp : List Addr), PGw (X.blk s H scope (compEnvC scope cl C X.env) fp) ct (own.map (·.2)) tg m)
    (ht : ∀ (s : Shared) (H : Hp) (C : Addr) (cl : List (Str × Addr)) (fp : List Addr), PTsD (X.blk s H scope (compEnvC scope cl C X.env) fp) ct W0 ifs c)
    (he : ∀ (s : Shared) (H : Hp) (C : Addr) (cl : List (Str × Addr)) (fp : List Addr), PED (X.blk s H scope (compEnvC scope cl C X.env) fp) ct W0 elt e) (hs : ∀ x, foldedSetIterable iter X.env x = pure x := by intro _; rfl) :
    PEF X ct W (.ListComp elt [⟨tg, iter, ifs, 0⟩] scope pos) (lcM (own.map (·.2)) t m c e) :=
  weakE (pe_lc (own := own) (g := tGw X.K ct (own.map (·.2)) m) (tt := tTD X.K ct W0 c) (te := tD X.K ct W0 e) hc hN hi ok hg ht he hs) fun _ _ _ q => tLcF q
theorem sSetLc (i : Nat) (own : List (Str × Nat)) {y : Str} {py : Pos} {elt tg iter : Expr} {ifs : List Expr} {scope : Scope} {pos spos : Pos} {t : DM (List D)} {m : Tg} {c : DM Bool} {e : DM D} (hc : X.calm = true) (hN : X.N.Nodup) (hi : PID X ct W tg iter t) (ok : BlkOk X.N X.env.scope scope own)
    (hg : ∀ (s : Shared) (H : Hp) (C : Addr) (cl : List (Str × Addr)) (fp : List Addr), PGw (X.blk s H scope (compEnvC scope cl C X.env) fp) ct (own.map (·.2)) tg m)
    (ht : ∀ (s : Shared) (H : Hp) (C : Addr) (cl : List (Str × Addr)) (fp : List Addr), PTsD (X.blk s H scope (compEnvC scope cl C X.env) fp) ct W0 ifs c)
    (he : ∀ (s : Shared) (H : Hp) (C : Addr) (cl : List (Str × Addr)) (fp : List Addr), PED (X.blk s H scope (compEnvC scope cl C X.env) fp) ct W0 elt e)
    (hy : X.N[i]? = some y := by rfl) (hyl : X.env.scope.names.lookup y = some .local := by rfl)
    (hsw : swapsWith (.ListComp elt [⟨tg, iter, ifs, 0⟩] scope pos) (some (.Name y py)) spos.line X.env = pure true := by exact sw_true rfl rfl rfl (by decide +kernel)) (hs : ∀ x, foldedSetIterable iter X.env x = pure x := by intro _; rfl) :
    PSD X ct W (.Assign [.Name y py] (.ListComp elt [⟨tg, iter, ifs, 0⟩] scope pos) spos) (setM i (lcM (own.map (·.2)) t m c e)) := by
  refine weakS (ps_setLc (own := own) (g := tGw X.K ct (own.map (·.2)) m) (tt := tTD X.K ct W0 c) (te := tD X.K ct W0 e) hc hN hy hyl hsw hi ok hg ht he hs) fun D σ H q => ?_
  obtain ⟨Φ, G, ρ, E, q⟩ := q
  exact tLcF (own := own) ⟨Φ, G, ρ, E, (PostS.bnd q).imp fun sl ρ1 G1 H1 s1 E1 q1 v r => setF_post q1.2 E1 r⟩

/-! ### what is owned is given away, frozen, read -/
/-- a local thing of one's own is given away -/
def mv (i : Nat) : DM Sl := fun ρ => match ρ[i]? with
  | some (.ow d) => some (.ok (.ow d) (ρ.set i .un))
  | _ => none
/-- .. is frozen: it will not be changed any more -/
def frzS (i : Nat) (ρ : List Sl) : Option (List Sl) := match ρ[i]? with
  | some (.ow d) => some (ρ.set i (.sh d))
  | some (.sh _) => some ρ
  | _ => none
def frzM (i : Nat) (t : DM Fl) : DM Fl := fun ρ => (frzS i ρ).bind t
end
section
variable {K : PySem.W.Frag} {ct : List Addr} {Φ : Fm} {G G' H H' : Hp} {σ σ' : St} {ρ ρ' : List Sl} {i : Nat} {d : D}
theorem EnvS.drop (E : EnvS K ct Φ G H σ ρ) (h : ρ[i]? = some (.ow d)) : EnvS K ct Φ G H σ (ρ.set i .un) := by
  have hl : i < ρ.length := (List.getElem?_eq_some_iff.mp h).1
  have ho : ∀ (j : Nat) (d' : D), isOwn (ρ.set i Sl.un)[j]? = some d' → i ≠ j ∧ isOwn ρ[j]? = some d' ∧ (ρ.set i Sl.un)[j]? = ρ[j]? := fun j d' hj => by
    by_cases hij : i = j
    · subst hij; rw [List.getElem?_set_self hl] at hj; cases hj
    · rw [List.getElem?_set_ne hij] at hj ⊢; exact ⟨hij, hj, rfl⟩
  refine ⟨by simpa using E.len, E.gh, E.g0, E.fr, E.dom, E.gn, fun j p hj => ?_, fun j d' hj => ?_, fun j d' hj => ?_, fun j k dj dk p hjk hj hk ej ek => ?_⟩
  · obtain ⟨a1, d2, a2⟩ := E.pin j p hj
    have hij : i ≠ j := fun z => by subst z; rw [h] at a2; cases a2
    rw [List.getElem?_set_ne hij]; exact ⟨a1, d2, a2⟩
  · by_cases hij : i = j
    · subst hij; rw [List.getElem?_set_self hl] at hj; cases hj
    · rw [List.getElem?_set_ne hij] at hj; exact E.sh j d' hj
  · obtain ⟨_, h2, h3⟩ := ho j d' hj
    rw [h3]; exact E.own j d' h2
  · exact E.ne j k dj dk p hjk (ho j dj hj).2.1 (ho k dk hk).2.1 ej ek
theorem EnvS.taken (E : EnvS K ct Φ G H σ ρ) (h : ρ[i]? = some (.ow d)) : ∃ v, σ[i]? = some (some v) ∧ RF K ct Φ G H σ (ρ.set i .un) v (.ow d) := by
  obtain ⟨p, a1, a2, a3, a4, a5⟩ := E.own i d (by rw [h]; rfl)
  have hl : i < ρ.length := (List.getElem?_eq_some_iff.mp h).1
  refine ⟨.ref p, a1, p, rfl, a2, a3, a5 h, fun j d' hj ej => ?_⟩
  by_cases hij : i = j
  · subst hij; rw [List.getElem?_set_self hl] at hj; cases hj
  · rw [List.getElem?_set_ne hij] at hj
    exact E.ne i j d d' p hij (by rw [h]; rfl) hj a1 ej
theorem EnvS.frz (E : EnvS K ct Φ G H σ ρ) (e : frzS i ρ = some ρ') : ∃ G', Same G G' ∧ EnvS K ct Φ G' H σ ρ' := by
  unfold frzS at e
  split at e
  · rename_i d h
    cases e
    obtain ⟨v, hv, r⟩ := E.taken h
    have E1 := E.drop h
    obtain ⟨G', d', s, E2, r2, hd⟩ := RF.give E1 r
    have hdd : d' = d := by rcases hd with z | z <;> cases z <;> rfl
    subst hdd
    refine ⟨G', s, ?_⟩
    have hl : i < ρ.length := (List.getElem?_eq_some_iff.mp h).1
    have := E2.set (i := i) (sl := .sh d') (v := v) r2 (ρ' := (ρ.set i .un).set i (.sh d')) (by unfold setSl; rw [List.getElem?_set_self hl])
    rw [List.set_set] at this
    have hσ : σ.set i (some v) = σ := by
      apply List.ext_getElem?
      intro j
      by_cases hij : i = j
      · subst hij
        rw [List.getElem?_set_self (by rw [← E.len]; exact hl)]; exact hv.symm
      · rw [List.getElem?_set_ne hij]
    rw [hσ] at this
    exact this
  · cases e; exact ⟨G, Same.refl _, E⟩
  · cases e
end
section
variable {X : Cx} {ct : List Addr} {W : WX} {st : List Stmt} {t : DM Fl} {pos : Pos}
theorem fMv (i : Nat) {x : Str} (hN : X.N[i]? = some x := by rfl) (hv : Vis X.env.scope x := by first | exact Or.inl rfl | exact Or.inr (Or.inl rfl) | exact Or.inr (Or.inr rfl)) (hd : (x == ("__debug__" : Str)) = false := by decide)
    (hcd : (x == ("__classdict__" : Str)) = false := by decide) : PEF X ct W (.Name x pos) (mv i) := by
  refine weakE (pe_var hN hv hd hcd) fun σ H Q q => ?_
  obtain ⟨Φ, G, ρ, E, q⟩ := q
  unfold mv at q
  split at q
  · rename_i d h
    obtain ⟨v, ev, r⟩ := E.taken h
    exact ⟨v, ev, q G H (Same.refl _) (E.drop h) v r⟩
  · exact q.elim
theorem sFrz (i : Nat) (h : PSsD X ct W st t) : PSsD X ct W st (frzM i t) := by
  refine weakSs h fun D σ H q => ?_
  obtain ⟨Φ, G, ρ, E, q⟩ := q
  unfold frzM at q
  cases e : frzS i ρ with
  | none => rw [e] at q; exact q.elim
  | some ρ' =>
    rw [e] at q
    obtain ⟨G', s, E'⟩ := E.frz e
    exact ⟨Φ, G', ρ', E', PostS.mono q s⟩
end
/-! ### read while owned -/
mutual
/-- no list, no object within -/
def flat : D → Bool
  | .non => true
  | .bl _ => true
  | .int _ => true
  | .str _ => true
  | .tup xs => flats xs
  | _ => false
def flats : List D → Bool
  | [] => true
  | x :: r => flat x && flats r
end
section
variable {K : PySem.W.Frag} {ct : List Addr} {G G' : Hp}
/-- flat data don't lean on lists and objects -/
theorem SqT.keep {a : Addr} {xs : List V} (k : ∀ b o, G b = some o → (∀ ys, o ≠ .lst ys) → (∀ C dx fs, o ≠ .ins C dx fs) → G' b = some o) (h : SqT K G a xs) : SqT K G' a xs := by
  rcases h with (h | ⟨o, h⟩) | h
  · exact .inl (.inl (k _ _ h (by intro ys z; cases z) (by intro _ _ _ z; cases z)))
  · exact .inl (.inr ⟨o, k _ _ h (by intro ys z; cases z) (by intro _ _ _ z; cases z)⟩)
  · exact .inr h
mutual
theorem R.flat (k : ∀ b o, G b = some o → (∀ ys, o ≠ .lst ys) → (∀ C dx fs, o ≠ .ins C dx fs) → G' b = some o) : ∀ (d : D) (v : V), FD.flat d = true → R K ct G v d → R K ct G' v d
  | .non, _, _, .non => .non
  | .bl b, _, _, .bl _ => .bl b
  | .int b, _, _, .int _ => .int b
  | .str b, _, _, .str _ => .str b
  | .tup xs, _, h, .tup h1 h2 => .tup (SqT.keep k h1) (Rs.flat k xs _ (by simpa [FD.flat] using h) h2)
  | .lst _, _, h, _ => by simp [FD.flat] at h
  | .obj _ _, _, h, _ => by simp [FD.flat] at h
  | .scr _, _, h, _ => by simp [FD.flat] at h
  | .opq _, _, h, _ => by simp [FD.flat] at h
  | .cls _, _, h, _ => by simp [FD.flat] at h
theorem Rs.flat (k : ∀ b o, G b = some o → (∀ ys, o ≠ .lst ys) → (∀ C dx fs, o ≠ .ins C dx fs) → G' b = some o) : ∀ (ds : List D) (vs : List V), FD.flats ds = true → Rs K ct G vs ds → Rs K ct G' vs ds
  | [], _, _, .nil => .nil
  | x :: r, _, h, .cons h1 h2 => by
    simp only [flats, Bool.and_eq_true] at h
    exact .cons (R.flat k x _ h.1 h1) (Rs.flat k r _ h.2 h2)
end
end
/-- while slot i is lent out to be read: all else that is owned is held fast -/
def borS (i : Nat) (ρ : List Sl) : Option (List Sl) := match own? ρ[i]? with
  | some (d, _) => some ((pinAll ρ).set i (.sh d))
  | none => none
/-- what is held by owned things is flat -/
def flatO : Sl → Bool
  | .pn (.lst xs) => flats xs
  | .pn _ => false
  | .ow _ => false
  | _ => true
def bb1 : Sl → Sl → Sl
  | .ow _, .pn d => .ow d
  | .pn _, .pn d => .pn d
  | s, _ => s
def zipB : List Sl → List Sl → List Sl
  | s :: r, s' :: r' => bb1 s s' :: zipB r r'
  | r, _ => r
def flatR : Sl → Bool
  | .sh d => flat d
  | .ow (.lst xs) => flats xs
  | _ => false
def bor {α : Type} (fl : α → Bool) (i : Nat) (t : DM α) : DM α := fun ρ => match borS i ρ with
  | some ρ1 => match t ρ1 with
    | some (.ok a ρ2) => if fl a && ρ2.all flatO then some (.ok a (zipB ρ ρ2)) else none
    | _ => none
  | _ => none
theorem zipB_length : ∀ (ρ ρ' : List Sl), (zipB ρ ρ').length = ρ.length
  | [], _ => by simp [zipB]
  | s :: r, [] => by simp [zipB]
  | s :: r, s' :: r' => by simp [zipB, zipB_length r r']
theorem zipB_get : ∀ (ρ ρ' : List Sl) (i : Nat), ρ'.length = ρ.length → (zipB ρ ρ')[i]? = match (ρ[i]? : Option Sl), (ρ'[i]? : Option Sl) with
    | some s, some s' => some (bb1 s s')
    | x, _ => x
  | [], ρ', i, h => by simp [zipB]
  | s :: r, [], i, h => by simp at h
  | s :: r, s' :: r', 0, h => rfl
  | s :: r, s' :: r', i + 1, h => by
    simp only [zipB, List.getElem?_cons_succ]
    exact zipB_get r r' i (by simpa using h)
section
variable {K : PySem.W.Frag} {ct : List Addr} {Φ : Fm} {G G' H H' : Hp} {σ σ' : St} {ρ ρ' ρ1 ρ2 : List Sl} {i : Nat} {d : D}
def pinsB (i : Nat) (σ : St) (ρ : List Sl) : List (Nat × Addr) := (pinsOf σ ρ).filter fun x => x.1 != i
theorem mem_pinsB {j : Nat} {p : Addr} : (j, p) ∈ pinsB i σ ρ ↔ (j, p) ∈ pinsOf σ ρ ∧ j ≠ i := by
  unfold pinsB
  rw [List.mem_filter]
  simp
theorem EnvS.borrow (E : EnvS K ct Φ G H σ ρ) (h : borS i ρ = some ρ1) : ∃ p o, σ[i]? = some (some (.ref p)) ∧ G p = none ∧ H p = some o ∧ ((∃ ys, o = .lst ys) ∨ ∃ C dx fs, o = .ins C dx fs) ∧ (∃ d, isOwn ρ[i]? = some d) ∧ EnvS K ct ⟨H, upd G p o, pinsB i σ ρ⟩ (upd G p o) H σ ρ1 := by
  unfold borS at h
  cases ho : own? ρ[i]? with
  | none => rw [ho] at h; cases h
  | some dd =>
    rw [ho] at h
    obtain ⟨d, f⟩ := dd
    cases h
    obtain ⟨p, a1, a2, a3, a4, a5⟩ := E.own i d (own_is ho).1
    obtain ⟨o, b1, b2, b3⟩ := a3.frz a2
    have hl : i < ρ.length := by
      cases z : ρ[i]? with
      | none => rw [z] at ho; cases ho
      | some s => exact (List.getElem?_eq_some_iff.mp z).1
    have hl2 : i < (pinAll ρ).length := by rw [pinAll, List.length_map]; exact hl
    have hoo : (∃ ys, o = .lst ys) ∨ ∃ C dx fs, o = .ins C dx fs := by
      cases d with
      | lst ds => obtain ⟨vs, c1, _⟩ := a3; rw [b1] at c1; cases c1; exact .inl ⟨_, rfl⟩
      | obj c ds => obtain ⟨C, dx, fs, _, c1, _⟩ := a3; rw [b1] at c1; cases c1; exact .inr ⟨_, _, _, rfl⟩
      | _ => exact a3.elim
    have Er := E.rebase
    have hown : ∀ (j : Nat) (dj : D), isOwn ((pinAll ρ).set i (.sh d))[j]? = some dj → i ≠ j ∧ isOwn (pinAll ρ)[j]? = some dj ∧ ((pinAll ρ).set i (.sh d))[j]? = (pinAll ρ)[j]? := fun j dj hj => by
      by_cases hij : i = j
      · subst hij; rw [List.getElem?_set_self hl2] at hj; cases hj
      · rw [List.getElem?_set_ne hij] at hj ⊢; exact ⟨hij, hj, rfl⟩
    have hne : ∀ (j : Nat) (dj : D) (q : Addr), i ≠ j → isOwn (pinAll ρ)[j]? = some dj → σ[j]? = some (some (.ref q)) → q ≠ p := fun j dj q hij h1 h2 z => by
      subst z
      rw [pinAll_own] at h1
      exact E.ne i j d dj q hij (own_is ho).1 h1 a1 h2
    refine ⟨p, o, a1, a2, b1, hoo, ⟨d, (own_is ho).1⟩, by simpa using Er.len, ?_, Same.refl _, fun b x h _ => h, fun b x h => ⟨x, h⟩, fun b x _ h => h, fun j q hj => ?_, fun j dj hj => ?_, fun j dj hj => ?_, fun j k dj dk q hjk hj hk ej ek => ?_⟩
    · intro b x e
      by_cases hb : b = p
      · subst hb; rw [upd_same] at e; rw [b1]; exact e
      · rw [upd_ne hb] at e; exact E.gh b x e
    · obtain ⟨h1, h2⟩ := mem_pinsB.mp hj
      obtain ⟨c1, dj, c2⟩ := Er.pin j q h1
      rw [List.getElem?_set_ne (Ne.symm h2)]
      exact ⟨c1, dj, c2⟩
    · by_cases hij : i = j
      · subst hij; rw [List.getElem?_set_self hl2] at hj; cases hj
        exact ⟨.ref p, a1, b3⟩
      · rw [List.getElem?_set_ne hij] at hj
        obtain ⟨v, c1, c2⟩ := Er.sh j dj hj
        exact ⟨v, c1, c2.mono b2⟩
    · obtain ⟨h1, h2, h3⟩ := hown j dj hj
      obtain ⟨q, c1, c2, c3, c4, c5⟩ := Er.own j dj h2
      rw [h3]
      refine ⟨q, c1, by rw [upd_ne (hne j dj q h1 h2 c1)]; exact c2, c3.mono b2 rfl, fun z => mem_pinsB.mpr ⟨c4 z, Ne.symm h1⟩, fun z => ?_⟩
      exfalso
      rw [pinAll_get] at z
      cases y : ρ[j]? with
      | none => rw [y] at z; cases z
      | some s => rw [y] at z; cases s <;> cases z
    · exact Er.ne j k dj dk q hjk (hown j dj hj).2.1 (hown k dk hk).2.1 ej ek
def cutH (G : Hp) (p : Addr) : Hp := fun b => if b = p then none else G b
theorem cutH_ne {G : Hp} {p b : Addr} (h : b ≠ p) : cutH G p b = G b := by unfold cutH; rw [if_neg h]
theorem EnvS.unborrow {p : Addr} {o : HO} (E : EnvS K ct Φ G H σ ρ) (e1 : σ[i]? = some (some (.ref p))) (g : G p = none) (hp : H p = some o) (ho : (∃ ys, o = .lst ys) ∨ ∃ C dx fs, o = .ins C dx fs) (hi : ∃ d, isOwn ρ[i]? = some d)
    (s : Same (upd G p o) G') (E' : EnvS K ct ⟨H, upd G p o, pinsB i σ ρ⟩ G' H' σ ρ2) (hf : ρ2.all flatO = true) : Same G (cutH G' p) ∧ EnvS K ct Φ (cutH G' p) H' σ (zipB ρ ρ2) ∧ (∀ b x, G' b = some x → (∀ ys, x ≠ .lst ys) → (∀ C dx fs, x ≠ .ins C dx fs) → cutH G' p b = some x) := by
  have hl : ρ2.length = ρ.length := by rw [E'.len, ← E.len]
  have gp : G' p = some o := s p o upd_same
  have hG : Same G (cutH G' p) := fun b x e => by
    have hb : b ≠ p := ne_of_none e g
    rw [cutH_ne hb]; exact s b x (by rw [upd_ne hb]; exact e)
  have hk : ∀ b x, G' b = some x → (∀ ys, x ≠ .lst ys) → (∀ C dx fs, x ≠ .ins C dx fs) → cutH G' p b = some x := fun b x e n1 n2 => by
    have hb : b ≠ p := fun z => by
      subst z
      rw [gp] at e; cases e
      rcases ho with ⟨ys, rfl⟩ | ⟨C, dx, fs, rfl⟩
      · exact n1 ys rfl
      · exact n2 C dx fs rfl
    rw [cutH_ne hb]; exact e
  -- owned slots
  have ow : ∀ (j : Nat) (d : D), isOwn ρ[j]? = some d → i ≠ j → ∃ q d2 f, own? ρ[j]? = some (d, f) ∧ σ[j]? = some (some (.ref q)) ∧ ρ2[j]? = some (.pn d2) ∧ (zipB ρ ρ2)[j]? = some (f d2) ∧ cutH G' p q = none ∧ HoR K ct (cutH G' p) H' q d2 := fun j d h hij => by
    obtain ⟨q, a1, a2, a3, a4, a5⟩ := E.own j d h
    obtain ⟨b1, d2, b2⟩ := E'.pin j q (mem_pinsB.mpr ⟨mem_pinsOf.mpr ⟨⟨d, h⟩, a1⟩, Ne.symm hij⟩)
    obtain ⟨q', c1, c2, c3, _⟩ := E'.own j d2 (by rw [b2]; rfl)
    rw [a1] at c1; cases c1
    have hfl : flatO (.pn d2) = true := List.all_eq_true.mp hf _ (List.mem_of_getElem? b2)
    have hq : cutH G' p q = none := by
      by_cases z : q = p
      · subst z; unfold cutH; rw [if_pos rfl]
      · rw [cutH_ne z]; exact c2
    have hh : HoR K ct (cutH G' p) H' q d2 := by
      cases d2 with
      | lst ds => obtain ⟨vs, z1, z2⟩ := c3; exact ⟨vs, z1, Rs.flat hk ds vs hfl z2⟩
      | _ => cases hfl
    cases y : ρ[j]? with
    | none => rw [y] at h; cases h
    | some sl =>
      have hz : (zipB ρ ρ2)[j]? = some (bb1 sl (.pn d2)) := by rw [zipB_get ρ ρ2 j hl, y, b2]
      rw [y] at h
      cases sl with
      | ow d' => cases h; exact ⟨q, d2, Sl.ow, rfl, a1, b2, hz, hq, hh⟩
      | pn d' => cases h; exact ⟨q, d2, Sl.pn, rfl, a1, b2, hz, hq, hh⟩
      | un => cases h
      | sh d' => cases h
  -- the lent slot
  obtain ⟨di, hdi⟩ := hi
  have slot : (zipB ρ ρ2)[i]? = ρ[i]? := by
    rw [zipB_get ρ ρ2 i hl]
    cases y : ρ[i]? with
    | none => cases ρ2[i]? <;> rfl
    | some sl =>
      cases y2 : ρ2[i]? with
      | none => rfl
      | some s2 =>
        cases s2 with
        | pn d2 =>
          exfalso
          obtain ⟨q, c1, c2, c3, c4, c5⟩ := E'.own i d2 (by rw [y2]; rfl)
          exact (mem_pinsB.mp (c4 y2)).2 rfl
        | un => cases sl <;> rfl
        | sh _ => cases sl <;> rfl
        | ow _ => cases sl <;> rfl
  have oth : ∀ (j : Nat), isOwn ρ[j]? = none → (zipB ρ ρ2)[j]? = ρ[j]? := fun j h => by
    rw [zipB_get ρ ρ2 j hl]
    cases y : ρ[j]? with
    | none => cases ρ2[j]? <;> rfl
    | some sl =>
      rw [y] at h
      cases y2 : ρ2[j]? with
      | none => rfl
      | some s2 => cases sl <;> cases s2 <;> first | rfl | cases h
  have hown : ∀ (j : Nat) (d : D), isOwn (zipB ρ ρ2)[j]? = some d → ∃ d0, isOwn ρ[j]? = some d0 := fun j d h => by
    cases y : isOwn ρ[j]? with
    | some d0 => exact ⟨d0, rfl⟩
    | none => rw [oth j y, y] at h; cases h
  refine ⟨hG, ⟨by rw [zipB_length]; exact E.len, ?_, E.g0.trans hG, fun b x h1 h2 => ?_, fun b x h1 => ?_, fun b x h1 h2 => ?_, fun j q hj => ?_, fun j d hj => ?_, fun j d hj => ?_, fun j k dj dk q hjk hj hk' ej ek => ?_⟩, hk⟩
  · intro b x e
    have hb : b ≠ p := fun z => by subst z; unfold cutH at e; rw [if_pos rfl] at e; cases e
    rw [cutH_ne hb] at e; exact E'.gh b x e
  · refine E'.fr b x (E.fr b x h1 h2) fun j hj => ?_
    obtain ⟨hj1, _⟩ := mem_pinsB.mp hj
    obtain ⟨⟨d0, g1⟩, g2⟩ := mem_pinsOf.mp hj1
    obtain ⟨q, a1, _, _, a4, a5⟩ := E.own j d0 g1
    rw [g2] at a1; cases a1
    cases y : ρ[j]? with
    | none => rw [y] at g1; cases g1
    | some sl =>
      rw [y] at g1 a4 a5
      cases sl <;> cases g1
      · have := a5 rfl; rw [this] at h1; cases h1
      · exact h2 j (a4 rfl)
  · obtain ⟨o', e⟩ := E.dom b x h1
    exact E'.dom b o' e
  · by_cases hb : b = p
    · subst hb; unfold cutH; rw [if_pos rfl]
    · rw [cutH_ne hb]
      obtain ⟨o', e⟩ := E.dom b x h1
      exact E'.gn b o' e (by show upd G p o b = none; rw [upd_ne hb]; exact E.gn b x h1 h2)
  · obtain ⟨a1, d0, a2⟩ := E.pin j q hj
    refine ⟨a1, ?_⟩
    by_cases hij : i = j
    · subst hij; rw [slot]; exact ⟨d0, a2⟩
    · obtain ⟨q', d2, f, b1, _, _, b4, _⟩ := ow j d0 (by rw [a2]; rfl) hij
      rw [a2] at b1; cases b1
      exact ⟨d2, b4⟩
  · by_cases hij : i = j
    · subst hij; rw [slot] at hj
      rw [hj] at hdi; cases hdi
    · have hn : isOwn ρ[j]? = none := by
        cases y : isOwn ρ[j]? with
        | none => rfl
        | some d0 =>
          obtain ⟨q, d2, f, b1, _, _, b4, _⟩ := ow j d0 y hij
          rw [b4] at hj
          rcases (own_is b1).2 with ⟨_, z⟩ | ⟨_, z⟩ <;> (rw [z] at hj; cases hj)
      rw [oth j hn] at hj
      obtain ⟨v, c1, c2⟩ := E.sh j d hj
      exact ⟨v, c1, c2.mono hG⟩
  · by_cases hij : i = j
    · subst hij
      rw [slot] at hj ⊢
      obtain ⟨q, c1, c2, c3, c4, c5⟩ := E.own i d hj
      rw [e1] at c1; cases c1
      exact ⟨p, e1, by unfold cutH; rw [if_pos rfl], c3.mono hG ((E'.gh p o gp).trans hp.symm), c4, c5⟩
    · obtain ⟨d0, hd0⟩ := hown j d hj
      obtain ⟨q, d2, f, b1, b2, b3, b4, b5, b6⟩ := ow j d0 hd0 hij
      obtain ⟨q', c1, _, _, c4, c5⟩ := E.own j d0 hd0
      rw [b2] at c1; cases c1
      rw [b4] at hj ⊢
      rcases (own_is b1).2 with ⟨z1, z⟩ | ⟨z1, z⟩
      · rw [z] at hj ⊢; cases hj
        exact ⟨q, b2, b5, b6, (fun y => by cases y), (fun _ => c5 z1)⟩
      · rw [z] at hj ⊢; cases hj
        exact ⟨q, b2, b5, b6, (fun _ => c4 z1), (fun y => by cases y)⟩
  · obtain ⟨d1, z1⟩ := hown j dj hj
    obtain ⟨d2, z2⟩ := hown k dk hk'
    exact E.ne j k d1 d2 q hjk z1 z2 ej ek
end
section
variable {X : Cx} {ct : List Addr} {W : WX} {e : Expr}
theorem fBor (i : Nat) {t : DM Sl} (h : PEF X ct W e t) : PEF X ct W e (bor flatR i t) := by
  refine weakE h fun σ H Q q => ?_
  obtain ⟨Φ, G, ρ, E, q⟩ := q
  unfold bor at q
  cases hb : borS i ρ with
  | none => rw [hb] at q; exact q.elim
  | some ρ1 =>
    rw [hb] at q
    obtain ⟨p, o, a1, a2, a3, a4, a5, E1⟩ := E.borrow hb
    refine ⟨_, _, ρ1, E1, ?_⟩
    cases ht : t ρ1 with
    | none => simp only [ht] at q; exact q.elim
    | some oo =>
      cases oo with
      | ex x ρ2 => simp only [ht] at q; exact q.elim
      | ok a ρ2 =>
        simp only [ht] at q
        split at q
        · rename_i hf
          rw [Bool.and_eq_true] at hf
          intro G2 H2 s2 E2 v r
          obtain ⟨sg, E3, hk⟩ := E.unborrow a1 a2 a3 a4 a5 s2 E2 hf.2
          refine q _ H2 sg E3 v ?_
          cases a with
          | un => exact r.elim
          | pn d => exact r.elim
          | sh d => exact R.flat hk d v hf.1 r
          | ow d =>
            cases d with
            | lst xs =>
              obtain ⟨p', rfl, h1, ⟨vs, h2, h2'⟩, h3, h4⟩ := r
              have hp' : p' ≠ p := fun z => by subst z; rw [show H p' = none from h3] at a3; cases a3
              refine ⟨p', rfl, by rw [cutH_ne hp']; exact h1, ⟨vs, h2, Rs.flat hk xs vs hf.1 h2'⟩, ?_, fun j d' hj ej => ?_⟩
              · cases z : Φ.H p' with
                | none => rfl
                | some x => obtain ⟨o', y⟩ := E.dom p' x z; rw [show H p' = none from h3] at y; cases y
              · obtain ⟨q', c1, c2, c3, c4, c5⟩ := E3.own j d' hj
                have hown : ∃ d0, isOwn ρ[j]? = some d0 := by
                  cases y : isOwn ρ[j]? with
                  | some d0 => exact ⟨d0, rfl⟩
                  | none =>
                    exfalso
                    have hl : ρ2.length = ρ.length := by rw [E2.len, ← E.len]
                    rw [zipB_get ρ ρ2 j hl] at hj
                    cases z1 : ρ[j]? with
                    | none => rw [z1] at hj; cases hj
                    | some sl =>
                      rw [z1] at hj y
                      cases z2 : ρ2[j]? with
                      | none => rw [z2] at hj; rw [y] at hj; cases hj
                      | some s2' => rw [z2] at hj; cases sl <;> cases s2' <;> first | (cases hj; done) | (cases y; done)
                obtain ⟨d0, hd0⟩ := hown
                obtain ⟨o', ho'⟩ := E.ownH hd0 ej
                rw [show H p' = none from h3] at ho'; cases ho'
            | _ => cases hf.1
        · exact q.elim
theorem cBor (i : Nat) {t : DM Bool} (h : PTD X ct W e t) : PTD X ct W e (bor (fun _ => true) i t) := by
  refine weakT h fun σ H Q q => ?_
  obtain ⟨Φ, G, ρ, E, q⟩ := q
  unfold bor at q
  cases hb : borS i ρ with
  | none => rw [hb] at q; exact q.elim
  | some ρ1 =>
    rw [hb] at q
    obtain ⟨p, o, a1, a2, a3, a4, a5, E1⟩ := E.borrow hb
    refine ⟨_, _, ρ1, E1, ?_⟩
    cases ht : t ρ1 with
    | none => simp only [ht] at q; exact q.elim
    | some oo =>
      cases oo with
      | ex x ρ2 => simp only [ht] at q; exact q.elim
      | ok a ρ2 =>
        simp only [ht] at q
        split at q
        · rename_i hf
          rw [Bool.and_eq_true] at hf
          intro G2 H2 s2 E2
          obtain ⟨sg, E3, hk⟩ := E.unborrow a1 a2 a3 a4 a5 s2 E2 hf.2
          exact q _ H2 sg E3
        · exact q.elim
end
end FD

set_option Elab.async false
set_option linter.all false
set_option maxRecDepth 100000
namespace FD
open PySem L2

section
variable {X : Cx} {ct : List Addr} {W : WX} {pos p : Pos} {x : Str}
/-- f() -/
theorem fCall0 {F : DF} {k : Nat} {f : Addr} {fd : FuncData} (tk : Takes X W) (hF : FnOk X.prog X.w X.K X.mg X.base (L2.CX X.prog X.w) k f fd [] (SpF X.K ct F)) (hr : Room k X.A) (hm : X.mg x = some (.ref f)) (hk : PySem.W.keepIn X.K (.ref f) = true) (hb : Binds X.K fd [] [])
    (hg : Gl X x := by rfl) (hdb : (x == ("__debug__" : Str)) = false := by decide) : PEF X ct W (.Call (.Name x p) [] [] pos) (callA F arNil) := by
  refine ⟨fun pins s σ H Q I h => wpAny_Call_Name_kw (ld_glob I hg hm (PySem.W.callWith_K0 I.kIn hk (run_fnS (E := WE W) (vs := []) (us := []) hF hr hb (passAt tk σ) I .nil ?_)) hdb)⟩
  obtain ⟨Φ, G, ρ, E, q⟩ := h
  exact call_post (ars := []) E q .nil fun sl ρ' G' H' s E' kk v rv => kk v rv
/-- a built-in class as a value -/
theorem dTy {T : String} (hm : X.mg x = none) (hv : bootBuiltins x = some (.type T)) (hg : Gl X x := by rfl) (hn : x ≠ "__name__" := by decide) (hd : (x == ("__debug__" : Str)) = false := by decide) : PED X ct W (.Name x pos) (ret (.opq (.ty T))) :=
  weakE (pe_bltn (v := .ty T) hg hm hv rfl hn hd) fun _ H Q ⟨_, G, _, E, q⟩ => q G H (Same.refl _) E _ (.opq _)
/-- a constant of the module -/
theorem dGlI {i : Int} {t : Tok} (hm : X.mg x = some (.int i t)) (hg : Gl X x := by rfl) (hd : (x == ("__debug__" : Str)) = false := by decide) : PED X ct W (.Name x pos) (ret (.int i)) :=
  weakE (pe_glob (v := .int i) hg hm ⟨t, rfl⟩ hd) fun _ H Q ⟨_, G, _, E, q⟩ => q G H (Same.refl _) E _ (.int i)
theorem dGlS {i : Str} {t : Tok} (hm : X.mg x = some (.str i t)) (hg : Gl X x := by rfl) (hd : (x == ("__debug__" : Str)) = false := by decide) : PED X ct W (.Name x pos) (ret (.str i)) :=
  weakE (pe_glob (v := .str i) hg hm ⟨t, rfl⟩ hd) fun _ H Q ⟨_, G, _, E, q⟩ => q G H (Same.refl _) E _ (.str i)
def tyN : D → Option String
  | .non => some "NoneType"
  | .bl _ => some "bool"
  | .int _ => some "int"
  | .str _ => some "str"
  | .tup _ => some "tuple"
  | .lst _ => some "list"
  | _ => none
def isiS : List D → Option Sl
  | [d, .opq (.ty T)] => (tyN d).bind fun n => (kitB n T).map fun b => .sh (.bl b)
  | _ => none
theorem R.ty {K : PySem.W.Frag} {ct : List Addr} {G H : Hp} {v : V} {d : D} {n : String} (s : Same G H) (r : R K ct G v d) (e : tyN d = some n) : TyX K H v (.type n) := by
  cases r with
  | tup h _ =>
    cases e
    rcases h with (h | ⟨o, h⟩) | ⟨o, its, k, h1, h2, _⟩
    · exact .base (.tup (s _ _ h))
    · exact .fTuple (s _ _ h)
    · exact .kTuple h1 h2
  | lst h _ => cases e; exact .base (.lst (s _ _ h))
  | non => cases e; exact .base .non
  | bl b => cases e; exact .base (.bl b)
  | int b => cases e; exact .base (.int b)
  | str b => cases e; exact .base (.str b)
  | _ => cases e
theorem cIsi : CallR X (.builtin "isinstance") (rC X.K ct isiS) := by
  intro pins s σ H vs us Q I r h
  obtain ⟨G, ds, sl, sg, rs, e, k⟩ := h
  unfold isiS at e
  split at e
  · rename_i d T
    rw [Option.bind_eq_some_iff] at e
    obtain ⟨n, e1, e2⟩ := e
    rw [Option.map_eq_some_iff] at e2
    obtain ⟨b, e3, rfl⟩ := e2
    cases rs with
    | cons r1 r2 =>
      cases r2 with
      | cons r3 r4 =>
        cases r4
        cases r3
        exact call_isi pins s σ H _ us Q I r ⟨_, _, _, _, b, rfl, .ty T, R.ty sg r1 e1, kit_ty e3, RN.of_ext sg k rfl (.bl b)⟩
  · cases e
end
end FD

set_option Elab.async false
set_option linter.all false
set_option maxRecDepth 100000
namespace FD
open PySem L2 PySem.Spec PyProof.Rows

/-! ### a comprehension whose source wants a token that is out: what is walked is told at the one state -/
section
variable {X : Cx}
theorem lcAt {pins : List (Addr × Obj)} {s : Shared} {σ : L2.St} {H : Hp} {Q : VK} {elt tg iter : Expr} {ifs : List Expr} {scope : Scope} {own : List (Str × Nat)} {pos : Pos} {g : TG} {tt : TT} {te : TE}
    (hc : X.calm = true) (hN : X.N.Nodup) (ok : BlkOk X.N X.env.scope scope own)
    (hg : ∀ s H C cl fp, PG (X.blk s H scope (compEnvC scope cl C X.env) fp) tg g)
    (ht : ∀ s H C cl fp, PTs (X.blk s H scope (compEnvC scope cl C X.env) fp) ifs tt)
    (he : ∀ s H C cl fp, PE (X.blk s H scope (compEnvC scope cl C X.env) fp) elt te)
    (hs : ∀ x, foldedSetIterable iter X.env x = pure x)
    (I : L2.Inv X pins σ H s)
    (src : wpAny (model X.prog X.w) X.A (eval iter X.env) (fun v s1 => wpAny (model X.prog X.w) X.A (pyIter v) (PIE X pins σ tg fun J H1 => tLc (fun _ _ R => R J H1) g tt te (own.map (·.2)) σ H Q) X.xe s1) X.xe s) :
    wpAny (model X.prog X.w) X.A (eval (.ListComp elt [⟨tg, iter, ifs, 0⟩] scope pos) X.env) (EP X pins σ Q) X.xe s := by
  rw [eval_ListComp]
  have cells : ∀ y ∈ scope.names, y.2 = .free → ∃ c, X.env.cells.lookup y.1 = some c := by
    intro y hy e
    exact (ok.free y hy e).elim (fun k => I.ok.has _ (.inl k)) (fun k => I.ok.has _ (.inr k))
  refine wpAny_comprehension_free (use := none) rfl hs (closure_ok cells) ok.kind (by intro y hy e; rw [ok.uniq y hy, e]) ?_
  refine thn src fun xv s1 hx => thn hx fun itv s2 got => ?_
  obtain ⟨it, fp, tn, J, H2, rfl, I2, T, t2, f2, q⟩ := got
  refine wpAny_newObj_type (newEnv_comp ?_) (by show 0 ≤ sizeLine; decide)
  -- the new list L
  generalize eL : s2.heap.objs.size = L
  have nL : H2 L = none := I2.hok.fresh (Nat.le_of_eq eL)
  obtain ⟨W, ⟨m0, w0⟩, turn⟩ := q L nL
  generalize e3 : ({ s2 with heap := s2.heap.push { cls := .type "list", data := .seq ([] : List Value).toArray } } : Shared) = s3
  have eh : s3.heap = s2.heap.push { cls := .type "list", data := .seq ([] : List Value).toArray } := by subst e3; rfl
  have I3 : L2.Inv X pins σ (upd H2 L (.lst [])) s3 := by
    subst e3
    refine I2.laid (t' := s2.toks) (fun b o z => Heap.get?_push_of_some _ z) (Nat.le_of_eq eL) ⟨Nat.zero_le _, [], 0, .nil, ?_⟩
    subst eL
    exact Heap.get?_push_size _ rfl
  have f3 : ∀ b ∈ fp, FpOk X pins (upd H2 L (.lst [])) b ∧ b < s3.heap.objs.size := by
    intro b hb
    obtain ⟨o, z, _⟩ := T.obj _ _ t2 b hb
    have lt := Heap.lt_size z
    have nb : b ≠ L := by rw [← eL]; exact Nat.ne_of_lt lt
    exact ⟨⟨(upd_ne nb).trans (f2 b hb).1, (f2 b hb).2⟩, by rw [eh, Heap.size_push]; exact Nat.lt_succ_of_lt lt⟩
  have t3 : tn 0 s3.heap := T.keep _ _ _ t2 (by intro b _ o z; rw [eh]; exact Heap.get?_push_of_some _ z)
  -- the block
  have I4 := block_start I3 ok hN f3
  generalize eC : cellsFrom (s3.heap.objs.size + 1) scope.names (cloFrom X.env.cells scope.names []) = cl at I4
  have pg := hg s3 (upd H2 L (.lst [])) s3.heap.objs.size cl fp
  have pt := ht s3 (upd H2 L (.lst [])) s3.heap.objs.size cl fp
  have pe := he s3 (upd H2 L (.lst [])) s3.heap.objs.size cl fp
  have nfp : ∀ b ∈ fp, (upd H2 L (.lst [])) b = none := fun b hb => (f3 b hb).1.1
  show codeAny _ _ (.compStart _ 0 (.ref it) (.ref L) (compEnvC scope cl s3.heap.objs.size X.env)) (compPost _ _ _ _ _ _ s3.heap.objs.size) ({ s3 with heap := _ } : Shared)
  generalize eE : compEnvC scope cl s3.heap.objs.size X.env = ce at I4 pg pt pe ⊢
  have cL : ce.locals = s3.heap.objs.size := by subst eE; rfl
  generalize eH : upd H2 L (.lst []) = H3 at I3 I4 pg pt pe w0 nfp f3
  generalize e4 : ({ s3 with heap := pushCells (s3.heap.push { cls := .type "dict", data := .dict #[] }) scope.names } : Shared) = s4 at I4 ⊢
  have t4 : tn 0 s4.heap := T.keep _ _ _ t3 (by intro b _ o z; subst e4; exact pushCells_keeps _ _ _ _ (Heap.get?_push_of_some _ z))
  have fpb : ∀ {σ' H' s'}, L2.Inv (X.blk s3 H3 scope ce fp) [] σ' H' s' → (∀ b ∈ fp, H' b = none) → ∀ b ∈ fp, FpOk (X.blk s3 H3 scope ce fp) [] H' b := by
    intro σ' H' s' J' nn b hb
    exact ⟨nn b hb, (J'.ok.exf b hb).1, J'.ok.exfs b hb, .inl hb, (fun x c z => (J'.ok.exf b hb).2 x c z), fun p hp => absurd hp (by show ¬ p ∈ ([] : List (Addr × Obj)) ++ []; simp)⟩
  have loop : codeAny (model X.prog X.w) X.A (.compLoop (.ListComp elt [⟨tg, iter, ifs, 0⟩] scope pos) 0 (.ref it) (.ref L) ce) (compPost (model X.prog X.w) X.A X.xe none (EP X pins σ Q) (.ref L) s3.heap.objs.size) s4 := by
    refine compLoop_any (fun n s' => ∃ i H', L2.Inv (X.blk s3 H3 scope ce fp) [] (wipe σ (own.map (·.2))) H' s' ∧ tn i s'.heap ∧ (∀ b ∈ fp, H' b = none) ∧ W i n H') ?_ m0 ⟨0, H3, I4, t4, nfp, w0⟩
    rintro n s5 ⟨i, H5, I5, t5, n5, w5⟩
    rcases turn i n H5 w5 with ⟨stop, fin⟩ | ⟨go, Nx, hNx, step⟩
    · refine thnF (T.done (X.blk s3 H3 scope ce fp) rfl rfl rfl hc i [] s5 _ H5 (fun _ _ => False) I5 (fpb I5 n5) t5 stop) fun r s6 hr => ?_
      obtain ⟨rfl, I6⟩ := hr
      have I7 : L2.Inv X pins σ H5 s6 := I3.call' (ch := fp) I6.os I6.base I6.hok I6.bare (by intro b hb; exact ⟨(f3 b hb).1.2.2.2.1, (f3 b hb).1.2.1, (f3 b hb).1.2.2.2.2.1, (f3 b hb).1.2.2.2.2.2⟩)
      have nC : H5 s3.heap.objs.size = none := cL ▸ (show H5 ce.locals = none from I6.free)
      obtain ⟨m, hn, _⟩ := I6.loc
      refine ⟨m, cL ▸ (show s6.heap.Ns ce.locals m from hn), fun h'' sb => ?_⟩
      obtain ⟨f0, f1, _, a3, a4, a5⟩ := I3.fpOk (H' := H5) (Nat.le_refl _) nC
      exact ⟨.ref L, H5, I7.turned (t' := s6.toks) (fun b o hb z => (sb.2 b hb).trans z) f0 f1 a3 a4 a5, rfl, fin⟩
    · refine thnF (T.item (X.blk s3 H3 scope ce fp) rfl rfl rfl hc i [] s5 _ H5 (fun _ _ => False) I5 (fpb I5 n5) t5 go) fun r s6 hr => ?_
      obtain ⟨u, rfl, h6⟩ := hr
      refine thnF h6 fun _ s7 h7 => ?_
      obtain ⟨x, H7, I7, r7, y7, t7, n7⟩ := h7
      refine thnF (pg.run _ s7 _ H7 x u _ (I7.pinned (fpb I7 n7) (T.obj _ _ t7)) r7 (step x H7 y7)) fun _ s8 h8 => ?_
      obtain ⟨σ8, H8, I8, w8, q8⟩ := h8
      refine thnF (pt.run _ s8 σ8 H8 _ I8 q8) fun b s9 h9 => ?_
      obtain ⟨H9, I9, q9⟩ := h9
      have again : ∀ {s' H'}, L2.Inv (X.blk s3 H3 scope ce fp) ([] ++ pinsAt fp s7.heap) σ8 H' s' → Nx H' → ∃ m, m < n ∧ ∃ i H', L2.Inv (X.blk s3 H3 scope ce fp) [] (wipe σ (own.map (·.2))) H' s' ∧ tn i s'.heap ∧ (∀ b ∈ fp, H' b = none) ∧ W i m H' := by
        intro s' H' J' nx
        obtain ⟨m', lt, w'⟩ := hNx H' nx
        have kept : ∀ b ∈ fp, ∀ o, s7.heap.get? b = some o → s'.heap.get? b = some o ∧ H' b = none := by
          intro b hb o z
          have y := J'.pin (b, o) (List.mem_append_right _ (List.mem_append_right _ (mem_pinsAt hb z)))
          exact ⟨y.1, y.2.1⟩
        have len : (wipe σ (own.map (·.2))).length = σ8.length := by rw [← w8, wipe_length]
        refine ⟨m', lt, i + 1, H', (J'.unpinned (pins := [])).weak len ?_, T.keep _ _ _ t7 (fun b hb o z => (kept b hb o z).1), ?_, w'⟩
        · intro j v z
          rw [← w8] at z
          exact (wipe_some z).1
        · intro b hb
          obtain ⟨o, z, _⟩ := T.obj _ _ t7 b hb
          exact (kept b hb o z).2
      cases b with
      | false => exact again I9 q9
      | true =>
        refine thnF (pe.run _ s9 σ8 H9 _ I9 q9) fun z s10 h10 => ?_
        obtain ⟨yv, H10, I10, r10, acc, hA, hz, nx⟩ := h10
        exact app_ok (X := X.blk s3 H3 scope ce fp) I10 hA hz r10 fun s11 I11 => again I11 nx
  exact codeAny_compStart_list loop (T.self X.A 0 _ _ _ t4 loop)
end
end FD

set_option Elab.async false
set_option linter.all false
set_option maxRecDepth 100000
namespace FD
open PySem L2 PySem.Spec PyProof.Rows

/-! ### text.replace(a, b).split(c), of written texts, as a comprehension's source -/
section
variable {X : Cx} {ct : List Addr} {W : WX}
theorem fn_dT {P : Program} {w : World} {K : PySem.W.Frag} {mg : Str → Option Value} {base : Heap} {ct : List Addr} {x qual : Str} {st : Stmt} {f : Addr} {fd : FuncData} {N ps : List Str} {k : Nat} {T : DM Fl} (F : Fun K x qual st f fd) (S : FnScope N ps (defScope st))
    (hnc : ∀ y ∈ (defScope st).names, y.2 ≠ .cell) (hps : 1 ≤ ps.length)
    (hbody : ∀ (cdv : Value) (A : Around) (outer : List Env) (s : Shared) (H : Hp) (E : XK), Room k (A.deeper (PyProof.Rows.envOfC qual (defScope st) s.heap.objs.size f cdv)) →
      PSsT (cxOf (L2.CX P w) P w K mg base N qual (defScope st) f cdv A outer s H E) (defBody st) (tS K ct (fun c d _ H' => E c d H') T)) :
    FnOk P w K mg base (L2.CX P w) (k + 1) f fd ps (SpF K ct (runF ps.length N.length T)) := by
  obtain ⟨oc, od, kV, doc, pm, an, cdv, ctv, osl, rfl, lk, hcd⟩ := F.ex
  exact fn_ofT lk hcd S hnc hps (fun _ _ _ _ h => spf_len h) fun A outer s H _ _ E hr h => ⟨_, hbody cdv A outer s H E hr, spf_start h⟩
def replS (y z : Str) : D → Option D
  | .str x => if x.length + (x.length + 1) * z.length ≤ 16777216 then some (.str (Txt.replace x y z)) else none
  | _ => none
def replM (y z : Str) (t : DM D) : DM D := bnd t fun d => lft (replS y z d)
theorem pRepl {o : Expr} {t : DM D} {y z : Str} {j k : Nat} {c0 c1 apos pos : Pos} (ho : PED X ct W o t) (hyz : (y == z) = false := by decide)
    (hst : starEach [.Constant (.str y) j c0, .Constant (.str z) k c1] X.env = [(false, eval (.Constant (.str y) j c0) X.env), (false, eval (.Constant (.str z) k c1) X.env)] := by rfl)
    (hbase : attributeBase o "replace" X.env (eval o X.env) = eval o X.env := by rfl) (hline : (apos.endLine == pos.line) = true := by rfl) :
    PET X (.Call (.Attribute o "replace" apos) [.Constant (.str y) j c0, .Constant (.str z) k c1] [] pos) (tD X.K ct W (replM y z t)) := fun pins s σ H Q h0 I h => by
  refine CwR.pet_replC ho hyz hst hbase hline pins s σ H Q h0 I ?_
  obtain ⟨Φ, G, ρ, E, q⟩ := h
  refine ⟨Φ, G, ρ, E, (Post.bnd q).imp fun d ρ1 G1 H1 s1 E1 q1 v r => ?_⟩
  obtain ⟨d', ed, kk⟩ := lft_post q1.2
  cases r with
  | str x =>
    simp only [replS] at ed
    split at ed
    · rename_i hb
      cases ed
      exact ⟨x, rfl, hb, kk G1 H1 (Same.refl _) E1 _ (.str _)⟩
    · cases ed
  | _ => cases ed
theorem pSplit {o : Expr} {t : DM D} {b : Str} {j : Nat} {c0 apos pos : Pos} (ho : PET X o (tD X.K ct W t)) (hs : starEach [.Constant (.str b) j c0] X.env = [(false, eval (.Constant (.str b) j c0) X.env)] := by rfl)
    (hbase : attributeBase o "split" X.env (eval o X.env) = eval o X.env := by rfl) (hline : (apos.endLine == pos.line) = true := by rfl) :
    PET X (.Call (.Attribute o "split" apos) [.Constant (.str b) j c0] [] pos) (tF X.K ct W (bnd t fun d => lft (splitS d [.str b]))) := fun pins s σ H Q h0 I h => by
  obtain ⟨Φ, G, ρ, E, q⟩ := h
  refine PySem.Call_method1 hbase hs hline (thn (ho pins s σ H (fun v H1 => ∃ G1 ρ1 d, EnvS X.K ct Φ G1 H1 σ ρ1 ∧ R X.K ct G1 v d ∧ Post X.K ct Φ W σ G1 (lft (splitS d [.str b]) ρ1) (fun sl ρ' G' H' => ∀ v, RF X.K ct Φ G' H' σ ρ' v sl → Q v H')) h0 I ⟨Φ, G, ρ, E, (Post.bnd q).imp fun d ρ1 G1 H1 s1 E1 q1 v r => ⟨G1, ρ1, d, E1, r, q1.2⟩⟩) fun v s1 hv => ?_)
  obtain ⟨x, H1, I1, r1, G1, ρ1, d, E1, rd, q1⟩ := hv
  obtain ⟨sl, es, kk⟩ := lft_post q1
  cases rd with
  | str a =>
    obtain ⟨tk, rfl⟩ := _root_.id r1
    refine ⟨"str", _, F.plainAttrs_str, F.slot_str_split, F.type_str_split, typeIs_str _ _ _, (fun _ e => nomatch e), Calls.callWith_builtin rfl (Calls.evalArgs_plain (Calls.spliced_cons ?_))⟩
    refine Calls.Constant_str (Calls.spliced_nil ?_)
    refine mSplit (ct := ct) pins _ σ H1 (.str a) [.str b] _ _ Q (I1.tok _) ⟨tk, rfl⟩ (.cons ⟨_, rfl⟩ .nil) ⟨G1, .str a, [.str b], sl, E1.gh, .str a, .cons (.str b) .nil, es, fun v G' H' x r => ?_⟩
    exact kk G' H' x.gg (E1.ext x) v (r.rf E1)
  | _ => cases es
theorem pFz {e : Expr} {t : DM Sl} (h : PET X e (tF X.K ct W t)) : PET X e (tD X.K ct W (fz t)) := fun pins s σ H Q h0 I q => by
  refine h pins s σ H Q h0 I ?_
  obtain ⟨Φ, G, ρ, E, q⟩ := q
  refine ⟨Φ, G, ρ, E, (Post.bnd q).imp fun sl ρ' G' H' s E' q v r => ?_⟩
  obtain ⟨G2, d, s2, E2, r2, hd⟩ := RF.give E' r
  have hd' : sl.dat = d := by rcases hd with h | h <;> rw [h] <;> rfl
  exact q.2 G2 H' s2 E2 v (by rw [hd']; exact r2)
/-- as a list that is walked -/
theorem pLst {tg e : Expr} {t : DM D} (h : PET X e (tD X.K ct W t)) : PIT X tg e (tI X.K ct W (bnd t fun d => lft (itemsD d))) := fun pins s σ H Rr h0 I q => by
  refine pit_list (tl := tD X.K ct W t) h pins s σ H Rr h0 I ?_
  obtain ⟨Φ, G, ρ, E, q⟩ := q
  refine ⟨Φ, G, ρ, E, (Post.bnd q).imp fun d ρ1 G1 H1 s1 E1 q1 v r => ?_⟩
  obtain ⟨ds, ed, k⟩ := lft_post q1.2
  cases r with
  | lst ha ra =>
    cases ed
    refine ⟨_, rfl, ⟨_, .inl (.inl (E1.gh _ _ ha))⟩, k G1 H1 (Same.refl _) E1 _ fun i G2 H2 s2 s3 => ⟨fun d hd => ?_, fun hi => ?_⟩⟩
    · obtain ⟨x, hx, rx⟩ := ra.get hd
      have sq : SqL X.K H2 _ _ := .inl (.inl (s3 _ _ (s2 _ _ ha)))
      exact ⟨⟨_, x, sq, hx⟩, fun y H3 hy => ⟨G2, by rw [hy.1]; exact .refl s3, by
        have := hy.2 _ sq
        rw [hx] at this; cases this
        exact rx.mono s2⟩⟩
    · exact ⟨_, .inl (.inl (s3 _ _ (s2 _ _ ha))), by rw [ra.length]; exact hi⟩
  | _ => cases ed
theorem pLc (own : List (Str × Nat)) {elt tg iter : Expr} {ifs : List Expr} {scope : Scope} {pos : Pos} {t : DM (List D)} {m : Tg} {c : DM Bool} {e : DM D} (hc : X.calm = true) (hN : X.N.Nodup) (hi : PIT X tg iter (tI X.K ct W t)) (ok : BlkOk X.N X.env.scope scope own)
    (hg : ∀ (s : Shared) (H : Hp) (C : Addr) (cl : List (Str × Addr)) (fp : List Addr), PGw (X.blk s H scope (compEnvC scope cl C X.env) fp) ct (own.map (·.2)) tg m)
    (ht : ∀ (s : Shared) (H : Hp) (C : Addr) (cl : List (Str × Addr)) (fp : List Addr), PTsD (X.blk s H scope (compEnvC scope cl C X.env) fp) ct W0 ifs c)
    (he : ∀ (s : Shared) (H : Hp) (C : Addr) (cl : List (Str × Addr)) (fp : List Addr), PED (X.blk s H scope (compEnvC scope cl C X.env) fp) ct W0 elt e) (hs : ∀ x, foldedSetIterable iter X.env x = pure x := by intro _; rfl) :
    PET X (.ListComp elt [⟨tg, iter, ifs, 0⟩] scope pos) (tF X.K ct W (lcM (own.map (·.2)) t m c e)) := fun pins s σ H Q h0 I q => by
  have h := tLcF (own := own) q
  refine lcAt (own := own) (g := tGw X.K ct (own.map fun x => x.2) m) (tt := tTD X.K ct W0 c) (te := tD X.K ct W0 e) hc hN ok hg ht he hs I ?_
  exact hi pins s σ H _ h0 I h
theorem pRet {e : Expr} {t : DM Sl} {pos : Pos} (h : PET X e (tF X.K ct W t)) : PSsT X [.Return (some e) pos] (tS X.K ct W (retM t)) := fun pins s σ H D h0 I q => by
  refine CwR.psst_one (CwR.pst_ret h) pins s σ H D h0 I ?_
  obtain ⟨Φ, G, ρ, E, q⟩ := q
  exact ⟨Φ, G, ρ, E, (PostS.bnd q).imp fun sl ρ1 G1 H1 s1 E1 q1 v r => q1.2 σ G1 H1 (Same.refl _) E1 v r⟩
end
end FD

set_option Elab.async false
set_option linter.all false
set_option maxRecDepth 100000
namespace FD
open PySem L2

/-! ### defs that may be called -/
structure Cal (P : Program) (w : World) (K : PySem.W.Frag) (mg : Str → Option Value) (base : Heap) (ct : List Addr) (x : Str) (k : Nat) (ps : List Str) (F : DF) : Prop where
  ex : ∃ f fd, mg x = some (.ref f) ∧ PySem.W.keepIn K (.ref f) = true ∧ Binds K fd ps [] ∧ FnOk P w K mg base (L2.CX P w) k f fd ps (SpF K ct F)
structure Dec (K : PySem.W.Frag) (mg : Str → Option Value) (x qual : Str) (st : Stmt) (ps : List Str) : Prop where
  ex : ∃ f fd, Fun K x qual st f fd ∧ mg x = some (.ref f) ∧ Binds K fd ps []
theorem cal_of {P : Program} {w : World} {K : PySem.W.Frag} {mg : Str → Option Value} {base : Heap} {ct : List Addr} {x qual : Str} {st : Stmt} {k : Nat} {ps : List Str} {F : DF} (d : Dec K mg x qual st ps)
    (h : ∀ f fd, Fun K x qual st f fd → FnOk P w K mg base (L2.CX P w) k f fd ps (SpF K ct F)) : Cal P w K mg base ct x k ps F := by
  obtain ⟨f, fd, F1, m, b⟩ := d.ex
  exact ⟨f, fd, m, F1.kp, b, h f fd F1⟩
theorem dec_of {K : PySem.W.Frag} {mg : Str → Option Value} {h : Heap} {x qual : Str} {st : Stmt} {f : Addr} {oc : Value} {od an : Option Addr} {osl : Array (Option Value)} {kV doc pm cdv ct : Value} {ps : List Str} (X : K.In h) (G : h.Ns mainGlobals mg)
    (a : PySem.W.nsIn K mainGlobals x = some (some (.ref f))) (l : K.lookup f = some ⟨oc, od, .func (PySem.W.fnOf x qual (defArgs st) (defBody st) (defScope st) .none kV doc pm an cdv ct), osl⟩)
    (c : PySem.W.codeIn K cdv qual = true) (k : PySem.W.keepIn K (.ref f) = true)
    (hb : ∀ (kV doc pm : Value) (an : Option Addr) (cdv ct : Value) (us : List Value), us.length = ps.length → bindArgs (PySem.W.fnOf x qual (defArgs st) (defBody st) (defScope st) .none kV doc pm an cdv ct) ⟨us, []⟩ = pure (ps.zip us)) : Dec K mg x qual st ps :=
  ⟨f, _, fun_mk l c k, PySem.W.mg_of X G a, (fun_mk l c k).binds hb⟩
section
variable {X : Cx} {ct : List Addr} {W : WX} {e : Expr} {es : List Expr} {pos p : Pos} {x : Str}
theorem fC {F : DF} {t : DM (List Ar)} {k : Nat} {ps : List Str} (tk : Takes X W) (C : Cal X.prog X.w X.K X.mg X.base ct x k ps F) (hr : Room k X.A)
    (ha : PAD X ct W (e :: es) t) (hg : Gl X x := by rfl) (hdb : (x == ("__debug__" : Str)) = false := by decide) (he : starEach (e :: es) X.env = (false, eval e X.env) :: starEach es X.env := by rfl) (hpl : (backTo pos (starEach es X.env)).any (·.1) = false := by rfl) :
    PEF X ct W (.Call (.Name x p) (e :: es) [] pos) (callA F t) := by
  obtain ⟨f, fd, m, kp, b, hF⟩ := C.ex
  exact fCall tk hF hr m kp b ha hg hdb he hpl
theorem fC0 {F : DF} {k : Nat} (tk : Takes X W) (C : Cal X.prog X.w X.K X.mg X.base ct x k [] F) (hr : Room k X.A) (hg : Gl X x := by rfl) (hdb : (x == ("__debug__" : Str)) = false := by decide) : PEF X ct W (.Call (.Name x p) [] [] pos) (callA F arNil) := by
  obtain ⟨f, fd, m, kp, b, hF⟩ := C.ex
  exact fCall0 tk hF hr m kp b hg hdb
/-- -e -/
def negS : D → Option D
  | .int i => some (.int (-i))
  | _ => none
def negM (t : DM D) : DM D := bnd t fun d => lft (negS d)
theorem dNeg {t : DM D} (h : PED X ct W e t) : PED X ct W (.UnaryOp .USub e pos) (negM t) := by
  refine weakE (pe_un un_neg h) fun σ H Q q => ?_
  obtain ⟨Φ, G, ρ, E, q⟩ := q
  refine ⟨Φ, G, ρ, E, (Post.bnd q).imp fun d ρ1 G1 H1 s1 E1 q1 v r => ?_⟩
  obtain ⟨d', ed, k⟩ := lft_post q1.2
  cases r with
  | int i => cases ed; exact ⟨i, rfl, k G1 H1 (Same.refl _) E1 _ (.int _)⟩
  | _ => cases ed
end
/-! ### the law's own end -/
theorem spf_law {K : PySem.W.Frag} {ct : List Addr} {F : DF} (h : ∀ ns : List Int, ns.length ≤ 63 → ∃ as, F [.sh (.scr ns)] = some (.ok (.sh (.bl true)) as)) {H : Hp} {a : Addr} {ns : List Int} (hl : ns.length ≤ 63) (hS : SqL K H a (ns.map V.int)) :
    SpF K ct F [.ref a] H (fun v _ => v = .bl true) fun _ _ _ => False := by
  obtain ⟨as, e⟩ := h ns hl
  have sG : Same (fun b => if b = a then H a else none) H := fun b o z => by
    simp only at z
    split at z
    · rename_i hb; rw [hb]; exact z
    · cases z
  refine ⟨⟨H, (fun b => if b = a then H a else none), []⟩, (fun b => if b = a then H a else none), [.sh (.scr ns)], ?_, ?_⟩
  · refine ⟨rfl, sG, Same.refl _, fun b o z _ => z, fun b o z => ⟨o, z⟩, fun b o _ z => z, (fun i p z => nomatch z), fun i d z => ?_, fun i d z => ?_, fun i j di dj p hij hi hj _ _ => ?_⟩
    · cases i with
      | zero =>
        cases z
        refine ⟨.ref a, rfl, .scr ?_⟩
        rcases hS with (z | ⟨o, z⟩) | z
        · exact .inl (.inl (by simp only [if_true]; exact z))
        · exact .inl (.inr ⟨o, by simp only [if_true]; exact z⟩)
        · exact .inr z
      | succ i => simp at z
    · cases i with
      | zero => cases z
      | succ i => simp [isOwn] at z
    · cases i with
      | zero => cases hi
      | succ i => simp [isOwn] at hi
  · show Post K ct _ _ _ _ (F [.sh (.scr ns)]) _
    rw [e]
    intro G' H' s E v r
    cases r
    rfl
end FD

set_option Elab.async false
set_option linter.all false
set_option maxRecDepth 100000
namespace FD
open PySem L2

/-! ### a new thing lent at once: f(g(..), ..), the first parameter's thing is changed -/
section
variable {K : PySem.W.Frag} {ct : List Addr} {Φ : Fm} {G H G' H' : Hp} {σ : St} {ρ : List Sl} {v : V} {d : D}
theorem app_get {α : Type} (l : List α) (x : α) (i : Nat) : (l ++ [x])[i]? = if i = l.length then some x else l[i]? := by
  by_cases h : i < l.length
  · rw [List.getElem?_append_left h, if_neg (by omega)]
  · by_cases h2 : i = l.length
    · subst h2; rw [if_pos rfl, List.getElem?_append_right (Nat.le_refl _)]; simp
    · rw [if_neg h2, List.getElem?_eq_none (by simp; omega), List.getElem?_eq_none (by omega)]
theorem EnvS.push (E : EnvS K ct Φ G H σ ρ) (r : RF K ct Φ G H σ ρ v (.ow d)) : EnvS K ct Φ G H (σ ++ [some v]) (ρ ++ [.ow d]) := by
  have h := E.pad 1
  have hl : ρ.length < (ρ ++ List.replicate 1 Sl.un).length := by simp
  have e := h.set (i := ρ.length) (sl := .ow d) (v := v) (ρ' := ρ ++ [.ow d]) ?_ ?_
  · have e1 : (σ ++ List.replicate 1 none).set ρ.length (some v) = σ ++ [some v] := by
      rw [E.len]; simp
    rw [e1] at e
    exact e
  · obtain ⟨p, rfl, h1, h2, h3, h4⟩ := r
    refine ⟨p, rfl, h1, h2, h3, fun i d' hi ei => ?_⟩
    have e1 : (ρ ++ List.replicate 1 Sl.un)[i]? = if i = ρ.length then some .un else ρ[i]? := app_get ρ .un i
    rw [e1] at hi
    split at hi
    · cases hi
    · rename_i hne
      have e2 : (σ ++ List.replicate 1 none)[i]? = if i = σ.length then some none else σ[i]? := app_get σ none i
      rw [e2, if_neg (by rw [← E.len]; exact hne)] at ei
      exact h4 i d' hi ei
  · unfold setSl
    have e1 : (ρ ++ List.replicate 1 Sl.un)[ρ.length]? = some .un := by
      have := app_get ρ Sl.un ρ.length
      rw [if_pos rfl] at this; exact this
    rw [e1]
    simp
theorem EnvS.pop {s : Sl} {x : Option V} (hl : ρ.length = σ.length) (E : EnvS K ct Φ G H (σ ++ [x]) (ρ ++ [s])) (hs : ∀ d, s ≠ .pn d) : EnvS K ct Φ G H σ ρ := by
  have g1 : ∀ (i : Nat) (y : Sl), ρ[i]? = some y → (ρ ++ [s])[i]? = some y ∧ i ≠ σ.length := fun i y h => by
    have := (List.getElem?_eq_some_iff.mp h).1
    exact ⟨by rw [List.getElem?_append_left this]; exact h, by omega⟩
  have g2 : ∀ (i : Nat), i ≠ σ.length → (σ ++ [x])[i]? = σ[i]? := fun i h => by rw [app_get, if_neg h]
  have g3 : ∀ (i : Nat) (d : D), isOwn ρ[i]? = some d → isOwn (ρ ++ [s])[i]? = some d ∧ (ρ ++ [s])[i]? = ρ[i]? ∧ i ≠ σ.length := fun i d h => by
    cases e : ρ[i]? with
    | none => rw [e] at h; cases h
    | some y =>
      obtain ⟨a, b⟩ := g1 i y e
      rw [e] at h
      rw [a]; exact ⟨h, rfl, b⟩
  refine ⟨hl, E.gh, E.g0, E.fr, E.dom, E.gn, fun i p h => ?_, fun i d h => ?_, fun i d h => ?_, fun i j di dj p hij hi hj ei ej => ?_⟩
  · obtain ⟨a1, d, a2⟩ := E.pin i p h
    have hi : i ≠ σ.length := fun z => by
      rw [app_get, if_pos (by omega)] at a2
      cases a2
      exact hs d rfl
    rw [g2 i hi] at a1
    rw [app_get, if_neg (by omega)] at a2
    exact ⟨a1, d, a2⟩
  · obtain ⟨a, b⟩ := g1 i _ h
    obtain ⟨v, e1, e2⟩ := E.sh i d a
    rw [g2 i b] at e1
    exact ⟨v, e1, e2⟩
  · obtain ⟨a, b, c⟩ := g3 i d h
    have := E.own i d a
    rw [g2 i c, b] at this
    exact this
  · obtain ⟨a, _, c⟩ := g3 i di hi
    obtain ⟨a', _, c'⟩ := g3 j dj hj
    rw [← g2 i c] at ei
    rw [← g2 j c'] at ej
    exact E.ne i j di dj p hij a a' ei ej
theorem own_app {i : Nat} {s : Sl} (h : i < ρ.length) : own? (ρ ++ [s])[i]? = own? ρ[i]? := by rw [List.getElem?_append_left h]
theorem argSls_app {s : Sl} : ∀ {ars : List Ar} {as : List Sl}, argSls ρ ars = some as → argSls (ρ ++ [s]) ars = some as ∧ ∀ i ∈ lends ars, i < ρ.length
  | [], as, h => by cases h; exact ⟨rfl, fun i z => nomatch z⟩
  | .val d :: r, as, h => by
    simp only [argSls, argSl, Option.bind_some, Option.map_eq_some_iff] at h
    obtain ⟨l, e, rfl⟩ := h
    obtain ⟨a, b⟩ := argSls_app (s := s) e
    refine ⟨?_, b⟩
    simp only [argSls, argSl, Option.bind_some, a]; rfl
  | .lend k :: r, as, h => by
    simp only [argSls, argSl, Option.bind_eq_some_iff, Option.map_eq_some_iff] at h
    obtain ⟨s1, ⟨⟨d, f⟩, e1, rfl⟩, l, e2, rfl⟩ := h
    obtain ⟨a, b⟩ := argSls_app (s := s) e2
    have hk : k < ρ.length := by
      cases z : ρ[k]? with
      | none => rw [z] at e1; cases e1
      | some y => exact (List.getElem?_eq_some_iff.mp z).1
    refine ⟨?_, fun i hi => ?_⟩
    · simp only [argSls, argSl, own_app hk, e1, a]; rfl
    · rcases List.mem_cons.mp hi with rfl | hi
      · exact hk
      · exact b i hi
theorem back1_app {s : Sl} {i : Nat} (h : i < ρ.length) : back1 (ρ ++ [s]) i d = back1 ρ i d ++ [s] := by
  unfold back1
  rw [own_app h]
  cases own? ρ[i]? with
  | none => rfl
  | some x => simp only; rw [List.set_append_left _ _ h]
theorem back_app {s : Sl} : ∀ (ars : List Ar) (as ρ : List Sl), (∀ i ∈ lends ars, i < ρ.length) → back (ρ ++ [s]) ars as = back ρ ars as ++ [s]
  | [], _, _, _ => by simp [back]
  | .val _ :: r, [], _, _ => by simp [back]
  | .lend _ :: r, [], _, _ => by simp [back]
  | .val _ :: r, x :: as, ρ, h => by simp only [back]; exact back_app r as ρ h
  | .lend i :: r, x :: as, ρ, h => by
    simp only [back]
    rw [back1_app (h i List.mem_cons_self)]
    exact back_app r as _ fun j hj => by rw [back1_length]; exact h j (List.mem_cons_of_mem _ hj)
end
def callF1 (F : DF) (d : D) (ars : List Ar) : DM Sl := fun ρ => match argSls ρ ars with
  | none => none
  | some as => if nodupN (lends ars) then (match F (.pn d :: as) with
      | some (.ok sl (_ :: as')) => some (.ok sl (back ρ ars as'))
      | some (.ex x (_ :: as')) => some (.ex x (back ρ ars as'))
      | _ => none) else none
def callT (F : DF) (t0 : DM Sl) (t : DM (List Ar)) : DM Sl := bnd t0 fun sl => match sl with
  | .ow d => bnd (prot t) fun ars => callF1 F d ars
  | _ => fun _ => none
section
variable {K : PySem.W.Frag} {ct : List Addr} {Φ : Fm} {G H : Hp} {σ : St} {ρ : List Sl}
theorem ArR.push {G : Hp} {x : Option V} : ∀ {vs : List V} {ars : List Ar}, ArRs K ct G σ vs ars → ArRs K ct G (σ ++ [x]) vs ars
  | _, _, .nil => .nil
  | _, .val d :: r, .cons h t => .cons h (ArR.push t)
  | _, .lend i :: r, .cons (v := v) h t => by
    have h' : σ[i]? = some (some v) := h
    refine .cons ?_ (ArR.push t)
    show (σ ++ [x])[i]? = some (some v)
    rw [List.getElem?_append_left (List.getElem?_eq_some_iff.mp h').1]; exact h'
theorem call_post1 {W : WX} {F : DF} {ars : List Ar} {v : V} {d : D} {vs : List V} {k : Sl → List Sl → Hp → Hp → Prop} (E : EnvS K ct Φ G H σ ρ) (r0 : RF K ct Φ G H σ ρ v (.ow d)) (q : Post K ct Φ W σ G (callF1 F d ars ρ) k) (r : ArRs K ct G σ vs ars) {Q : VK}
    (hk : ∀ sl ρ' G' H', Same G G' → EnvS K ct Φ G' H' σ ρ' → k sl ρ' G' H' → ∀ v, RF K ct Φ G' H' σ ρ' v sl → Q v H') : SpF K ct F (v :: vs) H Q (fun c d H' => W c d σ H') := by
  unfold callF1 at q
  cases h : argSls ρ ars with
  | none => rw [h] at q; exact q.elim
  | some as =>
    rw [h] at q
    simp only at q
    split at q
    · rename_i hn
      have E1 := E.push r0
      obtain ⟨h1, hlt⟩ := argSls_app (s := .ow d) h
      have hrl : ρ.length = σ.length := E.len
      have h2 : argSls (ρ ++ [.ow d]) (.lend ρ.length :: ars) = some (.pn d :: as) := by
        have e1 : (ρ ++ [Sl.ow d])[ρ.length]? = some (.ow d) := by rw [app_get, if_pos rfl]
        simp only [argSls, argSl, e1, own?, h1]; rfl
      have hn2 : nodupN (lends (.lend ρ.length :: ars)) = true := by
        simp only [lends, nodupN, Bool.and_eq_true, Bool.not_eq_true', hn, and_true]
        simp only [List.contains_eq_mem, decide_eq_false_iff_not]
        intro z
        exact absurd (hlt _ z) (Nat.lt_irrefl _)
      have r2 : ArRs K ct G (σ ++ [some v]) (v :: vs) (.lend ρ.length :: ars) := by
        refine .cons ?_ (ArR.push r)
        show (σ ++ [some v])[ρ.length]? = some (some v)
        rw [app_get, if_pos hrl]
      have bk : ∀ (s0 : Sl) (as' : List Sl), back (ρ ++ [.ow d]) (.lend ρ.length :: ars) (s0 :: as') = back ρ ars as' ++ [.ow s0.dat] := fun s0 as' => by
        have e1 : back1 (ρ ++ [.ow d]) ρ.length s0.dat = ρ ++ [.ow s0.dat] := by
          have e1 : (ρ ++ [Sl.ow d])[ρ.length]? = some (.ow d) := by rw [app_get, if_pos rfl]
          unfold back1
          rw [e1]
          simp [own?]
        simp only [back]
        rw [e1, back_app ars as' ρ hlt]
      refine ⟨_, G, _, E1.entry h2 hn2 r2, ?_⟩
      cases hF : F (.pn d :: as) with
      | none => rw [hF] at q; exact q.elim
      | some o =>
        rw [hF] at q
        cases o with
        | ok sl as' =>
          cases as' with
          | nil => exact q.elim
          | cons s0 as' =>
            intro G' H' s E' v' rv
            have E2 := E1.exit h2 hn2 r2 s E'
            rw [bk] at E2
            have E3 := EnvS.pop (by rw [back_length]; exact hrl) E2 (by simp)
            have rv2 := RF.exit E1 h2 hn2 r2 rv
            rw [bk] at rv2
            refine hk sl _ G' H' s E3 (q G' H' s E3) v' ?_
            cases sl with
            | un => exact rv2.elim
            | pn d => exact rv2.elim
            | sh d => exact rv2
            | ow d2 =>
              obtain ⟨p, rfl, z1, z2, z3, z4⟩ := rv2
              refine ⟨p, rfl, z1, z2, z3, fun i d' hi ei => ?_⟩
              have hil : i < (back ρ ars as').length := by
                cases y : (back ρ ars as')[i]? with
                | none => rw [y] at hi; cases hi
                | some y' => exact (List.getElem?_eq_some_iff.mp y).1
              refine z4 i d' (by rw [List.getElem?_append_left hil]; exact hi) ?_
              rw [List.getElem?_append_left (by rw [back_length] at hil; omega)]; exact ei
        | ex x as' =>
          cases as' with
          | nil => exact q.elim
          | cons s0 as' =>
            intro G' H' c dx s E' rx
            have E2 := E1.exit h2 hn2 r2 s E'
            rw [bk] at E2
            exact q G' H' c dx s (EnvS.pop (by rw [back_length]; exact hrl) E2 (by simp)) rx
    · exact q.elim
end
section
variable {X : Cx} {ct : List Addr} {W : WX} {e : Expr} {es : List Expr} {pos p : Pos} {x : Str}
/-- the arguments, the first one a new thing -/
def tTm (K : PySem.W.Frag) (ct : List Addr) (W : WX) (t0 : DM Sl) (t : DM (List Ar)) : TA := fun σ H Q => ∃ Φ G ρ, EnvS K ct Φ G H σ ρ ∧ Post K ct Φ W σ G (bnd t0 (fun sl => match sl with | .ow d => bnd (prot t) fun ars => ret (d, ars) | _ => fun _ => none) ρ)
    (fun dd ρ' G' H' => ∀ v vs, RF K ct Φ G' H' σ ρ' v (.ow dd.1) → ArRs K ct G' σ vs dd.2 → Q (v :: vs) H')
theorem fCT {F : DF} {t0 : DM Sl} {t : DM (List Ar)} {k : Nat} {ps : List Str} (tk : Takes X W) (C : Cal X.prog X.w X.K X.mg X.base ct x k ps F) (hr : Room k X.A)
    (h0 : PEF X ct W e t0) (ha : PAD X ct W es t) (hg : Gl X x := by rfl) (hdb : (x == ("__debug__" : Str)) = false := by decide) (he : starEach (e :: es) X.env = (false, eval e X.env) :: starEach es X.env := by rfl) (hpl : (backTo pos (starEach es X.env)).any (·.1) = false := by rfl) :
    PEF X ct W (.Call (.Name x p) (e :: es) [] pos) (callT F t0 t) := by
  obtain ⟨f, fd, m, kp, b, hF⟩ := C.ex
  refine weakE (pe_callS hF hr hg m kp b (fun σ => passAt tk σ) (pa_cons h0 ha he) hdb he hpl) fun σ H Q q => ?_
  obtain ⟨Φ, G, ρ, E, q⟩ := q
  refine ⟨Φ, G, ρ, E, (Post.bnd q).imp fun sl ρ1 G1 H1 s1 E1 q1 v1 r1 => ?_⟩
  cases sl with
  | un => exact q1.2.elim
  | pn d => exact q1.2.elim
  | sh d => exact q1.2.elim
  | ow d =>
    refine ⟨_, G1, pinAll ρ1, E1.rebase, (prot_post E1 (Post.bnd q1.2)).imp fun ars ρ2 G2 H2 s2 E2 q2 vs rs => ?_⟩
    obtain ⟨s3, E3, E4, _, q3⟩ := q2
    exact call_post1 E4 (RF.over E1 r1 s3 E3) q3 rs fun sl ρ' G' H' s E' kk v rv => kk v rv
end
/-! ### a list, a tuple, a text walked -/
def itemsA : D → Option (List D)
  | .lst ds => some ds
  | .tup ds => some ds
  | .str z => some (z.cps.toList.map fun c => .str ⟨#[c]⟩)
  | _ => none
theorem iAny {X : Cx} {ct : List Addr} {W : WX} {tg e : Expr} {t : DM D} (h : PED X ct W e t) : PID X ct W tg e (bnd t fun d => lft (itemsA d)) := by
  refine ⟨fun pins s σ H Q I q => ?_⟩
  obtain ⟨Φ, G, ρ, E, q⟩ := q
  have key : ∀ (g : D → Option (List D)), (∀ d ρ', t ρ = some (.ok d ρ') → g d = itemsA d) → tI X.K ct W (bnd t fun d => lft (g d)) σ H Q := fun g hg => by
    refine ⟨Φ, G, ρ, E, ?_⟩
    unfold bnd at q ⊢
    cases e : t ρ with
    | none => rw [e] at q; exact q
    | some o =>
      rw [e] at q
      cases o with
      | ex x ρ' => exact q
      | ok d ρ' => simp only [hg d ρ' e]; exact q
  cases e : t ρ with
  | none => exact (iLst h).run pins s σ H Q I (key itemsD (by intro d ρ' z; rw [e] at z; cases z))
  | some o =>
    cases o with
    | ex x ρ' => exact (iLst h).run pins s σ H Q I (key itemsD (by intro d ρ' z; rw [e] at z; cases z))
    | ok d ρ' =>
      cases d with
      | tup ds => exact (iTup h).run pins s σ H Q I (key itemsT (by intro d ρ' z; rw [e] at z; cases z; rfl))
      | str z => exact (iStrD h).run pins s σ H Q I (key itemsS (by intro d ρ' z; rw [e] at z; cases z; rfl))
      | _ => exact (iLst h).run pins s σ H Q I (key itemsD (by intro d ρ' z; rw [e] at z; cases z; rfl))
end FD

set_option Elab.async false
set_option linter.all false
set_option maxRecDepth 100000
namespace FD
open PySem L2

/-! ### objects: their fields -/
section
variable {K : PySem.W.Frag} {ct : List Addr} {G H : Hp} {v : V}
theorem R.inst {c : Nat} {ds : List (Str × D)} (r : R K ct G v (.obj c ds)) : ∃ a C dx fs, v = .ref a ∧ ct[c]? = some C ∧ G a = some (.ins C dx fs) ∧ Rf K ct G fs ds := by
  cases r with
  | obj hc h rf => exact ⟨_, _, _, _, rfl, hc, h, rf⟩
end
def putD (f : Str) (v : D) : List (Str × D) → List (Str × D)
  | [] => [(f, v)]
  | (g, x) :: r => if g = f then (g, v) :: r else (g, x) :: putD f v r
theorem Rf.put {K : PySem.W.Frag} {ct : List Addr} {G : Hp} {f : Str} {v : V} {d : D} (h : R K ct G v d) : ∀ {fs : List (Str × V)} {ds : List (Str × D)}, Rf K ct G fs ds → Rf K ct G (putF f v fs) (putD f d ds)
  | _, _, .nil => .cons h .nil
  | _, _, .cons (f := g) (vs := vs) (ds := ds) r t => by
    unfold putF putD
    by_cases e : g = f
    · rw [if_pos e, if_pos e]; exact .cons h t
    · rw [if_neg e, if_neg e]; exact .cons r (Rf.put h t)
/-- the field f of objects of the classes cs -/
def FldOk (K : PySem.W.Frag) (ct : List Addr) (cs : List Nat) (f : Str) : Prop := ∀ c C, cs.contains c = true → ct[c]? = some C → Cls K C ∧ NoAttr K C f
def fldS (cs : List Nat) (f : Str) : D → Option D
  | .obj c fs => if cs.contains c then fs.lookup f else none
  | _ => none
def fldM (cs : List Nat) (f : Str) (t : DM D) : DM D := bnd t fun d => lft (fldS cs f d)
section
variable {X : Cx} {ct : List Addr} {W : WX} {e : Expr} {pos : Pos}
theorem dFld {cs : List Nat} {f : Str} {t : DM D} (hf : FldOk X.K ct cs f) (h : PED X ct W e t) (hb : attributeBase e f X.env (eval e X.env) = eval e X.env := by rfl) : PED X ct W (.Attribute e f pos) (fldM cs f t) := by
  refine weakE (pe_fld h hb) fun σ H Q q => ?_
  obtain ⟨Φ, G, ρ, E, q⟩ := q
  refine ⟨Φ, G, ρ, E, (Post.bnd q).imp fun d ρ1 G1 H1 s1 E1 q1 v r => ?_⟩
  obtain ⟨y, ey, k⟩ := lft_post q1.2
  cases d with
  | obj c ds =>
    simp only [fldS] at ey
    split at ey
    · rename_i hc
      obtain ⟨a, C, dx, fs, rfl, eC, ea, rf⟩ := r.inst
      obtain ⟨u, eu, ru⟩ := rf.lookup ey
      obtain ⟨cl, na⟩ := hf c C hc eC
      exact ⟨a, C, dx, fs, u, rfl, E1.gh _ _ ea, cl, na, eu, k G1 H1 (Same.refl _) E1 u ru⟩
    · cases ey
  | _ => simp [fldS] at ey
/-- .. of an object of one's own -/
def ofldM (i : Nat) (cs : List Nat) (f : Str) : DM D := fun ρ => match own? ρ[i]? with
  | some (d, _) => lft (fldS cs f d) ρ
  | none => none
theorem dFldO (i : Nat) {x : Str} {p : Pos} {cs : List Nat} {f : Str} (hf : FldOk X.K ct cs f) (hN : X.N[i]? = some x := by rfl) (hv : Vis X.env.scope x := by first | exact Or.inl rfl | exact Or.inr (Or.inl rfl) | exact Or.inr (Or.inr rfl)) (hd : (x == ("__debug__" : Str)) = false := by decide)
    (hcd : (x == ("__classdict__" : Str)) = false := by decide) (hb : attributeBase (.Name x p) f X.env (eval (.Name x p) X.env) = eval (.Name x p) X.env := by rfl) : PED X ct W (.Attribute (.Name x p) f pos) (ofldM i cs f) := by
  refine weakE (pe_fld (pe_var hN hv hd hcd) hb) fun σ H Q q => ?_
  obtain ⟨Φ, G, ρ, E, q⟩ := q
  unfold ofldM at q
  cases ho : own? ρ[i]? with
  | none => rw [ho] at q; exact q.elim
  | some dd =>
    rw [ho] at q
    simp only at q
    obtain ⟨pa, e1, g, hr, _⟩ := E.own i _ (own_is (d := dd.1) (f := dd.2) ho).1
    obtain ⟨y, ey, k⟩ := lft_post q
    refine ⟨.ref pa, e1, ?_⟩
    cases hd1 : dd.1 with
    | obj c ds =>
      rw [hd1] at ey hr
      simp only [fldS] at ey
      split at ey
      · rename_i hc
        obtain ⟨C, dx, fs, eC, ea, rf⟩ := hr
        obtain ⟨u, eu, ru⟩ := rf.lookup ey
        obtain ⟨cl, na⟩ := hf c C hc eC
        exact ⟨pa, C, dx, fs, u, rfl, ea, cl, na, eu, k G H (Same.refl _) E u ru⟩
      · cases ey
    | _ => rw [hd1] at ey; simp [fldS] at ey
/-- x.f = e, x an object of one's own -/
def sfF (i : Nat) (cs : List Nat) (f : Str) (d : D) : DM Fl := fun ρ => match own? ρ[i]? with
  | some (.obj c ds, g) => if cs.contains c && decide (ds.length < 1000) then some (.ok .nx (ρ.set i (g (.obj c (putD f d ds))))) else none
  | _ => none
def sfM (i : Nat) (cs : List Nat) (f : Str) (t : DM D) : DM Fl := bnd t (sfF i cs f)
theorem sFldSt (i : Nat) {x : Str} {p p2 : Pos} {cs : List Nat} {f : Str} {t : DM D} (hf : FldOk X.K ct cs f) (h : PED X ct W e t) (hN : X.N[i]? = some x := by rfl) (hv : Vis X.env.scope x := by first | exact Or.inl rfl | exact Or.inr (Or.inl rfl) | exact Or.inr (Or.inr rfl)) (hd : (x == ("__debug__" : Str)) = false := by decide)
    (hcd : (x == ("__classdict__" : Str)) = false := by decide) (hs : swapsWith e (some (.Attribute (.Name x p) f p2)) pos.line X.env = pure false := by rfl) : PSD X ct W (.Assign [.Attribute (.Name x p) f p2] e pos) (sfM i cs f t) := by
  refine weakS (ps_fld (pe_var (i := i) hN hv hd hcd) h hs) fun D σ H q => ?_
  obtain ⟨Φ, G, ρ, E, q⟩ := q
  refine ⟨Φ, G, ρ, E, (PostS.bnd q).imp fun d ρ1 G1 H1 s1 E1 q1 v r => ?_⟩
  have q2 := q1.2
  unfold sfF at q2
  split at q2
  · rename_i c ds g ho
    split at q2
    · rename_i hc
      rw [Bool.and_eq_true, decide_eq_true_eq] at hc
      obtain ⟨pa, e1, gg, hr, _⟩ := E1.own i _ (own_is ho).1
      obtain ⟨C, dx, fs, eC, ea, rf⟩ := hr
      obtain ⟨cl, na⟩ := hf c C hc.1 eC
      refine ⟨.ref pa, e1, pa, C, dx, fs, rfl, ea, cl, na, by rw [rf.length]; exact hc.2, ?_⟩
      exact q2 σ G1 _ (Same.refl _) (E1.write (o := .ins C dx (putF f v fs)) (d' := .obj c (putD f d ds)) ho e1 ⟨C, dx, _, eC, upd_same, rf.put r⟩)
    · exact q2.elim
  · exact q2.elim
end
/-! ### C(e, ..): a new object -/
structure KCal (P : Program) (w : World) (K : PySem.W.Frag) (mg : Str → Option Value) (base : Heap) (ct : List Addr) (x : Str) (c : Nat) (k : Nat) (ps : List Str) (F : DF) : Prop where
  ex : ∃ C f fd, mg x = some (.ref C) ∧ ct[c]? = some C ∧ Mk K C f ∧ Binds K fd ps [] ∧ FnOk P w K mg base (L2.CX P w) k f fd ps (SpF K ct F)
def mkF (F : DF) (c : Nat) (ars : List Ar) : DM Sl := fun ρ => match argSls ρ ars with
  | none => none
  | some as => if nodupN (lends ars) then (match F (.pn (.obj c []) :: as) with
      | some (.ok (.sh .non) (s0 :: as')) => some (.ok (.ow s0.dat) (back ρ ars as'))
      | some (.ex x (_ :: as')) => some (.ex x (back ρ ars as'))
      | _ => none) else none
def mkM (F : DF) (c : Nat) (t : DM (List Ar)) : DM Sl := bnd t fun ars => mkF F c ars
section
variable {K : PySem.W.Frag} {ct : List Addr} {Φ : Fm} {G H : Hp} {σ : St} {ρ : List Sl}
theorem make_post {W : WX} {F : DF} {c : Nat} {C x dx : Addr} {ars : List Ar} {vs : List V} {k : Sl → List Sl → Hp → Hp → Prop} (E : EnvS K ct Φ G H σ ρ) (eC : ct[c]? = some C) (nx : H x = none) (nd : H dx = none) (hne : dx ≠ x)
    (q : Post K ct Φ W σ G (mkF F c ars ρ) k) (r : ArRs K ct G σ vs ars) {Q : VK}
    (hk : ∀ sl ρ' G' H', Same G G' → EnvS K ct Φ G' H' σ ρ' → k sl ρ' G' H' → ∀ v, RF K ct Φ G' H' σ ρ' v sl → Q v H') :
    SpF K ct F (.ref x :: vs) (upd (upd H dx (.own x)) x (.ins C dx [])) (fun v H2 => v = .non ∧ Q (.ref x) H2) (fun c d H' => W c d σ H') := by
  have x1 : Ext G H G (upd H dx (.own x)) := .own E.gh nd
  have E0 := E.ext x1
  have nx1 : upd H dx (.own x) x = none := by rw [upd_ne (Ne.symm hne)]; exact nx
  have x2 : Ext G (upd H dx (.own x)) G (upd (upd H dx (.own x)) x (.ins C dx [])) := .own E0.gh nx1
  have E00 := E0.ext x2
  have r0 : RF K ct Φ G (upd (upd H dx (.own x)) x (.ins C dx [])) σ ρ (.ref x) (.ow (.obj c [])) :=
    RN.rf (H := upd H dx (.own x)) ⟨x, rfl, nx1, E0.gh.free nx1, C, dx, [], eC, upd_same, .nil⟩ E0
  unfold mkF at q
  cases h : argSls ρ ars with
  | none => rw [h] at q; exact q.elim
  | some as =>
    rw [h] at q
    simp only at q
    split at q
    · rename_i hn
      have E1 := E00.push r0
      obtain ⟨h1, hlt⟩ := argSls_app (s := .ow (.obj c [])) h
      have hrl : ρ.length = σ.length := E.len
      have h2 : argSls (ρ ++ [.ow (.obj c [])]) (.lend ρ.length :: ars) = some (.pn (.obj c []) :: as) := by
        have e1 : (ρ ++ [Sl.ow (.obj c [])])[ρ.length]? = some (.ow (.obj c [])) := by rw [app_get, if_pos rfl]
        simp only [argSls, argSl, e1, own?, h1]; rfl
      have hn2 : nodupN (lends (.lend ρ.length :: ars)) = true := by
        simp only [lends, nodupN, Bool.and_eq_true, Bool.not_eq_true', hn, and_true]
        simp only [List.contains_eq_mem, decide_eq_false_iff_not]
        intro z
        exact absurd (hlt _ z) (Nat.lt_irrefl _)
      have r2 : ArRs K ct G (σ ++ [some (.ref x)]) (.ref x :: vs) (.lend ρ.length :: ars) := by
        refine .cons ?_ (ArR.push r)
        show (σ ++ [some (V.ref x)])[ρ.length]? = some (some (.ref x))
        rw [app_get, if_pos hrl]
      have bk : ∀ (s0 : Sl) (as' : List Sl), back (ρ ++ [.ow (.obj c [])]) (.lend ρ.length :: ars) (s0 :: as') = back ρ ars as' ++ [.ow s0.dat] := fun s0 as' => by
        have e1 : back1 (ρ ++ [.ow (.obj c [])]) ρ.length s0.dat = ρ ++ [.ow s0.dat] := by
          have e1 : (ρ ++ [Sl.ow (.obj c [])])[ρ.length]? = some (.ow (.obj c [])) := by rw [app_get, if_pos rfl]
          unfold back1
          rw [e1]
          simp [own?]
        simp only [back]
        rw [e1, back_app ars as' ρ hlt]
      refine ⟨_, G, _, E1.entry h2 hn2 r2, ?_⟩
      cases hF : F (.pn (.obj c []) :: as) with
      | none => rw [hF] at q; exact q.elim
      | some o =>
        rw [hF] at q
        cases o with
        | ok sl as' =>
          cases as' with
          | nil => cases sl <;> first | exact q.elim | (rename_i d; cases d <;> exact q.elim)
          | cons s0 as' =>
            intro G' H' s E' v' rv
            have E2 := E1.exit h2 hn2 r2 s E'
            rw [bk] at E2
            have E3 := EnvS.pop (by rw [back_length]; exact hrl) E2 (by simp)
            have hb : (back ρ ars as').length = σ.length := by rw [back_length]; exact hrl
            have eo : isOwn (back ρ ars as' ++ [Sl.ow s0.dat])[(back ρ ars as').length]? = some s0.dat := by rw [app_get, if_pos rfl]; rfl
            have er : (back ρ ars as' ++ [Sl.ow s0.dat])[(back ρ ars as').length]? = some (.ow s0.dat) := by rw [app_get, if_pos rfl]
            have es : (σ ++ [some (V.ref x)])[(back ρ ars as').length]? = some (some (.ref x)) := by rw [app_get, if_pos hb]
            obtain ⟨p, ep, gp, hr, _, fp⟩ := E2.own _ _ eo
            rw [es] at ep
            cases ep
            have rx : RF K ct Φ G' H' σ (back ρ ars as') (.ref x) (.ow s0.dat) := by
              refine ⟨x, rfl, gp, hr, fp er, fun i d' hi ei => ?_⟩
              have hil : i < (back ρ ars as').length := by
                cases y : (back ρ ars as')[i]? with
                | none => rw [y] at hi; cases hi
                | some y' => exact (List.getElem?_eq_some_iff.mp y).1
              refine E2.ne i (back ρ ars as').length d' s0.dat x (by omega) (by rw [List.getElem?_append_left hil]; exact hi) eo ?_ es
              rw [List.getElem?_append_left (by omega)]; exact ei
            cases sl with
            | un => exact q.elim
            | pn d => exact q.elim
            | ow d => exact q.elim
            | sh d =>
              cases d with
              | non =>
                cases rv
                exact ⟨rfl, hk _ _ G' H' s E3 (q G' H' s E3) _ rx⟩
              | _ => exact q.elim
        | ex x as' =>
          cases as' with
          | nil => exact q.elim
          | cons s0 as' =>
            intro G' H' c dx s E' rx
            have E2 := E1.exit h2 hn2 r2 s E'
            rw [bk] at E2
            exact q G' H' c dx s (EnvS.pop (by rw [back_length]; exact hrl) E2 (by simp)) rx
    · exact q.elim
end
section
variable {X : Cx} {ct : List Addr} {W : WX} {e : Expr} {es : List Expr} {pos p : Pos} {x : Str}
theorem run_makeS {CX : CXT} {k : Nat} {C f : Addr} {fd : FuncData} {ps : List Str} {sp : Sp} {E : XK} {pins : List (Addr × Obj)} {σ : St} {H : Hp} {s : Shared} {Q : VK} {us : List Value} {vs : List V} (M : Mk X.K C f) (F : FnOk X.prog X.w X.K X.mg X.base CX k f fd ps sp) (hr : Room (k + 1) X.A) (hb : Binds X.K fd ps [])
    (hx : PassesAt CX X σ E) (I : Inv X pins σ H s) (r : Vals vs us)
    (h : ∀ x dx, H x = none → H dx = none → dx ≠ x → sp (.ref x :: vs) (upd (upd H dx (.own x)) x (.ins C dx [])) (fun v H2 => v = .non ∧ Q (.ref x) H2) E) :
    wpAny (model X.prog X.w) X.A (call (.ref C) us) (EP X pins σ Q) X.xe s := by
  have hq := h (s.heap.objs.size + 1) s.heap.objs.size (I.hok.fresh (Nat.le_succ _)) (I.hok.fresh (Nat.le_refl _)) (Nat.ne_of_lt (Nat.lt_succ_self _))
  have I2 := Inv.made (C := C) I
  have r2 : Vals (V.ref (s.heap.objs.size + 1) :: vs) (Value.ref (s.heap.objs.size + 1) :: us) := .cons rfl r
  have hl : (Value.ref (s.heap.objs.size + 1) :: us).length = ps.length := by
    rw [← r2.length]; exact F.len _ _ _ _ hq
  have b := hb { s with heap := _ } (Value.ref (s.heap.objs.size + 1) :: us) I2.kIn (by rw [List.append_nil]; exact hl)
  rw [List.append_nil] at b
  refine wpAny_call (make_map (f := f) I.kIn M.makes M.init (beq_iff_eq.mp M.fn) (codeAny_mono (F.run _ X.stack _ _ ⟨Value.ref (s.heap.objs.size + 1) :: us, []⟩ (Value.ref (s.heap.objs.size + 1) :: us) _ _ E (hr.make C us [])
    (I2.env0.make C us []) b r2 hq) fun r s' hq' => ?_))
  cases r with
  | error e => exact hx pins _ _ e s' I2 hq'
  | ok fl =>
    cases fl with
    | ret u =>
      obtain ⟨v, H', I3, rv, ev, q3⟩ := I2.after hq'
      subst ev
      exact ⟨rv, ⟨V.ref (s.heap.objs.size + 1), H', I3, rfl, q3⟩⟩
    | next => exact False.elim hq'
    | brk => exact False.elim hq'
    | cont => exact False.elim hq'
theorem fMake {F : DF} {t : DM (List Ar)} {c k : Nat} {ps : List Str} (tk : Takes X W) (C : KCal X.prog X.w X.K X.mg X.base ct x c k ps F) (hr : Room (k + 1) X.A)
    (ha : PAD X ct W (e :: es) t) (hg : Gl X x := by rfl) (hdb : (x == ("__debug__" : Str)) = false := by decide) (he : starEach (e :: es) X.env = (false, eval e X.env) :: starEach es X.env := by rfl) (hpl : (backTo pos (starEach es X.env)).any (·.1) = false := by rfl) :
    PEF X ct W (.Call (.Name x p) (e :: es) [] pos) (mkM F c t) := by
  obtain ⟨C, f, fd, m, eC, M, b, hF⟩ := C.ex
  refine ⟨fun pins s σ H Q I h => ?_⟩
  refine wpAny_Call_Name_kw (ld_glob I hg m ?_ hdb)
  have h2 : tAs X.K ct W t σ H (fun vs H1 => ∀ x dx, H1 x = none → H1 dx = none → dx ≠ x → SpF X.K ct F (.ref x :: vs) (upd (upd H1 dx (.own x)) x (.ins C dx [])) (fun v H2 => v = .non ∧ Q (.ref x) H2) (fun c d H' => W c d σ H')) := by
    obtain ⟨Φ, G, ρ, E, q⟩ := h
    refine ⟨Φ, G, ρ, E, (Post.bnd q).imp fun ars ρ1 G1 H1 s1 E1 q1 vs rs x dx nx nd hne => ?_⟩
    exact make_post E1 eC nx nd hne q1.2 rs fun sl ρ' G' H' s E' kk v rv => kk v rv
  refine PySem.W.callWith_K (h₀ := X.base) I.ok.mod.kin M.kp (thn (ha.run pos pins s σ H _ I h2) fun us s1 ⟨vs, H1, I1, r, q⟩ => ⟨I1.kIn, ?_⟩) he hpl
  exact run_makeS M hF hr b (passAt tk σ) I1 r q
theorem fMake0 {F : DF} {c k : Nat} {ps : List Str} (tk : Takes X W) (C : KCal X.prog X.w X.K X.mg X.base ct x c k ps F) (hr : Room (k + 1) X.A)
    (hg : Gl X x := by rfl) (hdb : (x == ("__debug__" : Str)) = false := by decide) : PEF X ct W (.Call (.Name x p) [] [] pos) (mkM F c arNil) := by
  obtain ⟨C, f, fd, m, eC, M, b, hF⟩ := C.ex
  refine ⟨fun pins s σ H Q I h => ?_⟩
  refine wpAny_Call_Name_kw (ld_glob I hg m ?_ hdb)
  refine PySem.W.callWith_K0 I.kIn M.kp (run_makeS (us := []) (vs := []) M hF hr b (passAt tk σ) I .nil ?_)
  obtain ⟨Φ, G, ρ, E, q⟩ := h
  intro x dx nx nd hne
  exact make_post (ars := []) E eC nx nd hne q .nil fun sl ρ' G' H' s E' kk v rv => kk v rv
end
/-! ### o.m(e, ..) -/
structure MCal (P : Program) (w : World) (K : PySem.W.Frag) (mg : Str → Option Value) (base : Heap) (ct : List Addr) (c : Nat) (m : Str) (k : Nat) (ps : List Str) (F : DF) : Prop where
  ex : ∃ C f fd, ct[c]? = some C ∧ Cls K C ∧ Meth K C m f ∧ Binds K fd ps [] ∧ FnOk P w K mg base (L2.CX P w) k f fd ps (SpF K ct F)
/-- the method m of the classes of a table -/
def MTab (P : Program) (w : World) (K : PySem.W.Frag) (mg : Str → Option Value) (base : Heap) (ct : List Addr) (m : Str) (k : Nat) (tb : List (Nat × DF)) : Prop := ∀ c F, tb.lookup c = some F → ∃ ps, MCal P w K mg base ct c m k ps F
theorem MTab.one {P : Program} {w : World} {K : PySem.W.Frag} {mg : Str → Option Value} {base : Heap} {ct : List Addr} {c : Nat} {m : Str} {k j : Nat} {ps : List Str} {F : DF} {tb : List (Nat × DF)} (h : MCal P w K mg base ct c m j ps F) (hj : j ≤ k) (t : MTab P w K mg base ct m k tb) :
    MTab P w K mg base ct m k ((c, F) :: tb) := fun c' F' e => by
  rw [List.lookup_cons] at e
  cases hc : (c' == c) with
  | true =>
    rw [hc] at e
    cases e
    rw [beq_iff_eq] at hc
    subst hc
    obtain ⟨C, f, fd, a1, a2, a3, a4, a5⟩ := h.ex
    exact ⟨ps, C, f, fd, a1, a2, a3, a4, a5.mono hj⟩
  | false => rw [hc] at e; exact t c' F' e
theorem MTab.nil {P : Program} {w : World} {K : PySem.W.Frag} {mg : Str → Option Value} {base : Heap} {ct : List Addr} {m : Str} {k : Nat} : MTab P w K mg base ct m k [] := fun _ _ e => by cases e
def disp (m : Str) (tb : List (Nat × DF)) : D → Option DF
  | .obj c fs => if fs.lookup m = none then tb.lookup c else none
  | _ => none
def methO (m : Str) (tb : List (Nat × DF)) (to : DM D) (t : DM (List Ar)) : DM Sl := bnd to fun x => bnd (lft (disp m tb x)) fun F => bnd t fun ars => callF F (.val x :: ars)
theorem disp_obj {m : Str} {tb : List (Nat × DF)} {x : D} {F : DF} (h : disp m tb x = some F) : ∃ c fs, x = .obj c fs ∧ fs.lookup m = none ∧ tb.lookup c = some F := by
  unfold disp at h
  split at h
  · split at h
    · exact ⟨_, _, rfl, by assumption, h⟩
    · cases h
  · cases h
section
variable {X : Cx} {ct : List Addr} {W : WX} {e o : Expr} {es : List Expr} {pos p apos : Pos} {m : Str}
theorem fMeth {tb : List (Nat × DF)} {to : DM D} {t : DM (List Ar)} {k : Nat} {pl : Sem Bool} (tk : Takes X W) (T : MTab X.prog X.w X.K X.mg X.base ct m k tb) (hr : Room k X.A) (ho : PED X ct W o to) (ha : PAD X ct W (e :: es) t)
    (hst : starEach (e :: es) X.env = (false, eval e X.env) :: starEach es X.env := by rfl) (hpl : (backTo pos (starEach es X.env)).any (·.1) = false := by rfl)
    (ht : eval (.Call (.Attribute o m apos) (e :: es) [] pos) X.env = (do
      let ov ← eval o X.env
      standAt apos.atName
      let (f, first) ← holding [ov] (getMethod ov m pl)
      callWith pos f first (backTo pos (starEach (e :: es) X.env)) (backToKw pos (keywordEach [] X.env))) := by rfl) :
    PEF X ct W (.Call (.Attribute o m apos) (e :: es) [] pos) (methO m tb to t) := by
  refine ⟨fun pins s σ H Q I h => ?_⟩
  obtain ⟨Φ, G, ρ, E, q⟩ := h
  refine PySem.W.methodCall_KW (pl := pl) (thn (ho.run pins s σ H (fun x H1 => ∃ d G1 ρ1, EnvS X.K ct Φ G1 H1 σ ρ1 ∧ R X.K ct G1 x d ∧ Post X.K ct Φ W σ G1 ((bnd (lft (disp m tb d)) fun F => bnd t fun ars => callF F (.val d :: ars)) ρ1) (fun sl ρ' G' H' => ∀ v, RF X.K ct Φ G' H' σ ρ' v sl → Q v H')) I ?_) fun u s1 ⟨x, H1, I1, rx, d, G1, ρ1, E1, r1, q1⟩ => ?_) ht
  · exact ⟨Φ, G, ρ, E, (Post.bnd q).imp fun d ρ1 G1 H1 s1 E1 q1 v r => ⟨d, G1, ρ1, E1, r, q1.2⟩⟩
  · obtain ⟨F, eF, q2⟩ := lft_post (Post.bnd q1)
    obtain ⟨c, fs, rfl, el, et⟩ := disp_obj eF
    obtain ⟨ps, C, f, fd, eC, cl, hm, hb, hF⟩ := T c F et
    obtain ⟨a, C', dx, vs, rfl, eC', ea, rf⟩ := r1.inst
    rw [eC] at eC'; cases eC'
    obtain rfl : u = Value.ref a := rx
    refine getmeth_ok I1 (E1.gh _ _ ea) cl hm (rf.lookup_none el) ?_
    have q3 := (q2 G1 H1 (Same.refl _) E1).2
    have h2 : tAs X.K ct W t σ H1 (fun vs H2 => SpF X.K ct F (.ref a :: vs) H2 Q (fun c d H' => W c d σ H')) := by
      refine ⟨Φ, G1, ρ1, E1, (Post.bnd q3).imp fun ars ρ2 G2 H2 s2 E2 q4 vs rs => ?_⟩
      exact call_post (ars := .val _ :: ars) E2 q4.2 (.cons (show ArR X.K ct G2 σ (.ref a) (.val _) from r1.mono s2) rs) fun sl ρ' G' H' s E' kk v rv => kk v rv
    refine PySem.W.callWith_K (first := [.ref a]) (h₀ := X.base) I.ok.mod.kin hm.kp (thn (ha.run pos pins s1 σ H1 _ I1 h2) fun us s2 ⟨vs, H2, I2, r, q5⟩ => ⟨I2.kIn, ?_⟩) hst hpl
    exact run_fnS (E := WE W) (us := .ref a :: us) (vs := .ref a :: vs) hF hr hb (passAt tk σ) I2 (.cons rfl r) q5
theorem fMeth0 {tb : List (Nat × DF)} {to : DM D} {k : Nat} {pl : Sem Bool} (tk : Takes X W) (T : MTab X.prog X.w X.K X.mg X.base ct m k tb) (hr : Room k X.A) (ho : PED X ct W o to)
    (ht : eval (.Call (.Attribute o m apos) [] [] pos) X.env = (do
      let ov ← eval o X.env
      standAt apos.atName
      let (f, first) ← holding [ov] (getMethod ov m pl)
      callWith pos f first (backTo pos (starEach [] X.env)) (backToKw pos (keywordEach [] X.env))) := by rfl) :
    PEF X ct W (.Call (.Attribute o m apos) [] [] pos) (methO m tb to arNil) := by
  refine ⟨fun pins s σ H Q I h => ?_⟩
  obtain ⟨Φ, G, ρ, E, q⟩ := h
  refine PySem.W.methodCall_KW (pl := pl) (thn (ho.run pins s σ H (fun x H1 => ∃ d G1 ρ1, EnvS X.K ct Φ G1 H1 σ ρ1 ∧ R X.K ct G1 x d ∧ Post X.K ct Φ W σ G1 ((bnd (lft (disp m tb d)) fun F => bnd arNil fun ars => callF F (.val d :: ars)) ρ1) (fun sl ρ' G' H' => ∀ v, RF X.K ct Φ G' H' σ ρ' v sl → Q v H')) I ?_) fun u s1 ⟨x, H1, I1, rx, d, G1, ρ1, E1, r1, q1⟩ => ?_) ht
  · exact ⟨Φ, G, ρ, E, (Post.bnd q).imp fun d ρ1 G1 H1 s1 E1 q1 v r => ⟨d, G1, ρ1, E1, r, q1.2⟩⟩
  · obtain ⟨F, eF, q2⟩ := lft_post (Post.bnd q1)
    obtain ⟨c, fs, rfl, el, et⟩ := disp_obj eF
    obtain ⟨ps, C, f, fd, eC, cl, hm, hb, hF⟩ := T c F et
    obtain ⟨a, C', dx, vs, rfl, eC', ea, rf⟩ := r1.inst
    rw [eC] at eC'; cases eC'
    obtain rfl : u = Value.ref a := rx
    refine getmeth_ok I1 (E1.gh _ _ ea) cl hm (rf.lookup_none el) ?_
    have q3 := (q2 G1 H1 (Same.refl _) E1).2
    refine PySem.W.callWith_K0 (first := [.ref a]) I1.kIn hm.kp (run_fnS (E := WE W) (us := [.ref a]) (vs := [.ref a]) hF hr hb (passAt tk σ) I1 (.cons rfl .nil) ?_)
    exact call_post (ars := [.val _]) E1 q3 (.cons (show ArR X.K ct G1 σ (.ref a) (.val _) from r1) .nil) fun sl ρ' G' H' s E' kk v rv => kk v rv
end
end FD

set_option Elab.async false
set_option linter.all false
set_option maxRecDepth 100000
namespace FD
open PySem L2

/-! ### operators of one's own classes -/
/-- an operation that is a def's call -/
def OpO (X : Cx) (ct : List Addr) (W : WX) (f : Value → Value → Sem Value) (g : D → D → Option (DF × List D)) : Prop :=
  ∀ (pins : List (Addr × Obj)) (s : Shared) (σ : St) (H : Hp) (x y : V) (v u : Value) (Q : VK), Inv X pins σ H s → RelV x v → RelV y u → ∀ (G : Hp) (dx dy : D) (F : DF) (ds : List D), Same G H → R X.K ct G x dx → R X.K ct G y dy → g dx dy = some (F, ds) →
    (∀ vs, Rs X.K ct G vs ds → SpF X.K ct F vs H Q (fun c d H' => W c d σ H')) → wpAny (model X.prog X.w) X.A (f v u) (EP X pins σ Q) X.xe s
def UnO (X : Cx) (ct : List Addr) (W : WX) (f : Value → Sem Value) (g : D → Option (DF × List D)) : Prop :=
  ∀ (pins : List (Addr × Obj)) (s : Shared) (σ : St) (H : Hp) (x : V) (v : Value) (Q : VK), Inv X pins σ H s → RelV x v → ∀ (G : Hp) (dx : D) (F : DF) (ds : List D), Same G H → R X.K ct G x dx → g dx = some (F, ds) →
    (∀ vs, Rs X.K ct G vs ds → SpF X.K ct F vs H Q (fun c d H' => W c d σ H')) → wpAny (model X.prog X.w) X.A (f v) (EP X pins σ Q) X.xe s
def callV (a : DF × List D) : DM Sl := callF a.1 (a.2.map .val)
def oopM (g : D → D → Option (DF × List D)) (ta tb : DM D) : DM Sl := bnd ta fun a => bnd tb fun b => bnd (lft (g a b)) callV
def ounM (g : D → Option (DF × List D)) (ta : DM D) : DM Sl := bnd ta fun a => bnd (lft (g a)) callV
theorem ArRs.vals {K : PySem.W.Frag} {ct : List Addr} {G : Hp} {σ : St} : ∀ {vs : List V} {ds : List D}, Rs K ct G vs ds → ArRs K ct G σ vs (ds.map .val)
  | _, _, .nil => .nil
  | _, _, .cons r t => .cons r (ArRs.vals t)
theorem callV_post {K : PySem.W.Frag} {ct : List Addr} {Φ : Fm} {G H : Hp} {σ : St} {ρ : List Sl} {W : WX} {o : Option (DF × List D)} {k : Sl → List Sl → Hp → Hp → Prop} (E : EnvS K ct Φ G H σ ρ) (q : Post K ct Φ W σ G (bnd (lft o) callV ρ) k) {Q : VK}
    (hk : ∀ sl ρ' G' H', Same G G' → EnvS K ct Φ G' H' σ ρ' → k sl ρ' G' H' → ∀ v, RF K ct Φ G' H' σ ρ' v sl → Q v H') : ∃ F ds, o = some (F, ds) ∧ ∀ vs, Rs K ct G vs ds → SpF K ct F vs H Q (fun c d H' => W c d σ H') := by
  obtain ⟨a, ea, q2⟩ := lft_post (Post.bnd q)
  exact ⟨a.1, a.2, ea, fun vs rs => call_post E (q2 G H (Same.refl _) E).2 (ArRs.vals rs) hk⟩
section
variable {X : Cx} {ct : List Addr} {W : WX} {a b e : Expr} {ta tb : DM D} {pos p : Pos}
def tO2 (K : PySem.W.Frag) (ct : List Addr) (W : WX) (g : D → D → Option (DF × List D)) (ta tb : DM D) : TE := fun σ H Q => tD K ct W ta σ H fun x H1 => tD K ct W tb σ H1 fun y H2 => ∃ G dx dy F ds, Same G H2 ∧ R K ct G x dx ∧ R K ct G y dy ∧ g dx dy = some (F, ds) ∧ ∀ vs, Rs K ct G vs ds → SpF K ct F vs H2 Q (fun c d H' => W c d σ H')
theorem tO2F {g : D → D → Option (DF × List D)} {σ : St} {H : Hp} {Q : VK} (q : tF X.K ct W (oopM g ta tb) σ H Q) : tO2 X.K ct W g ta tb σ H Q := by
  obtain ⟨Φ, G, ρ, E, q⟩ := q
  refine ⟨Φ, G, ρ, E, (Post.bnd q).imp fun d1 ρ1 G1 H1 s1 E1 q1 v1 r1 => ?_⟩
  refine ⟨Φ, G1, ρ1, E1, (Post.bnd q1.2).imp fun d2 ρ2 G2 H2 s2 E2 q2 v2 r2 => ?_⟩
  obtain ⟨F, ds, eo, h⟩ := callV_post E2 q2.2 (Q := Q) fun sl ρ' G' H' s E' kk v rv => kk v rv
  exact ⟨G2, d1, d2, F, ds, E2.gh, r1.mono s2, r2, eo, h⟩
theorem fOpO {op : Operator} {g : D → D → Option (DF × List D)} (ho : OpO X ct W (binaryOp op) g) (ha : PED X ct W a ta) (hb : PED X ct W b tb) : PEF X ct W (.BinOp a op b pos) (oopM g ta tb) := by
  refine ⟨fun pins s σ H Q I h => ?_⟩
  exact wpAny_BinOp (bin ha hb I (tO2F h) fun v u s2 x y H2 I2 rx ry ⟨G, dx, dy, F, ds, sg, r1, r2, eg, hs⟩ => ho pins s2 σ H2 x y v u Q I2 rx ry G dx dy F ds sg r1 r2 eg hs)
theorem fCmpO {op : CmpOp} {g : D → D → Option (DF × List D)} (ho : OpO X ct W (compareOp op) g) (ha : PED X ct W a ta) (hb : PED X ct W b tb) (hm : behindInMarks op b = false) : PEF X ct W (.Compare a [op] [b] pos) (oopM g ta tb) := by
  refine ⟨fun pins s σ H Q I h => ?_⟩
  exact wpAny_Compare1 (bin ha hb I (tO2F h) fun v u s2 x y H2 I2 rx ry ⟨G, dx, dy, F, ds, sg, r1, r2, eg, hs⟩ => ho pins s2 σ H2 x y v u Q I2 rx ry G dx dy F ds sg r1 r2 eg hs) hm
theorem fUnO {op : UnaryOp} {g : D → Option (DF × List D)} (ho : UnO X ct W (unaryOp op) g) (ha : PED X ct W a ta) : PEF X ct W (.UnaryOp op a pos) (ounM g ta) := by
  refine ⟨fun pins s σ H Q I h => ?_⟩
  obtain ⟨Φ, G, ρ, E, q⟩ := h
  have h2 : tD X.K ct W ta σ H (fun x H1 => ∃ G dx F ds, Same G H1 ∧ R X.K ct G x dx ∧ g dx = some (F, ds) ∧ ∀ vs, Rs X.K ct G vs ds → SpF X.K ct F vs H1 Q (fun c d H' => W c d σ H')) := by
    refine ⟨Φ, G, ρ, E, (Post.bnd q).imp fun d1 ρ1 G1 H1 s1 E1 q1 v1 r1 => ?_⟩
    obtain ⟨F, ds, eo, h⟩ := callV_post E1 q1.2 (Q := Q) fun sl ρ' G' H' s E' kk v rv => kk v rv
    exact ⟨G1, d1, F, ds, E1.gh, r1, eo, h⟩
  exact PyProof.Rows.UnaryOp_ (thn (ha.run pins s σ H _ I h2) fun v s1 ⟨x, H1, I1, rx, G, dx, F, ds, sg, r1, eg, hs⟩ => ho pins s1 σ H1 x v Q I1 rx G dx F ds sg r1 eg hs)
end
section
variable {X : Cx} {ct : List Addr} {W : WX} {k : Nat} {m : Str}
theorem cmpBack {pins : List (Addr × Obj)} {σ : St} {Q : VK} {v : Value} {s : Shared} (h : EP X pins σ Q v s) : PySem.W.CmpBack (EP X pins σ Q) v s := by
  obtain ⟨x, H', I, r, q⟩ := h
  have h2 : EP X pins σ Q v s := ⟨x, H', I, r, q⟩
  cases v <;> first | exact h2 | (cases x <;> simp [RelV] at r)
/-- both of one class -/
def binG (tb : List (Nat × DF)) : D → D → Option (DF × List D)
  | .obj c fs, .obj c' gs => if c = c' then (tb.lookup c).map fun F => (F, [.obj c fs, .obj c' gs]) else none
  | _, _ => none
def SelfFirst (K : PySem.W.Frag) (ct : List Addr) (tb : List (Nat × DF)) : Prop := ∀ c F C, tb.lookup c = some F → ct[c]? = some C → PySem.W.selfFirst K C = true
theorem binO {op : Operator} {tb : List (Nat × DF)} (tk : Takes X W) (T : MTab X.prog X.w X.K X.mg X.base ct m k tb) (hr : Room k X.A) (sf : SelfFirst X.K ct tb) (hm : PySem.dunder op.info.2 = m := by rfl) : OpO X ct W (binaryOp op) (binG tb) := by
  intro pins s σ H x y v u Q I rx ry G dx dy F ds sg r1 r2 eg hs
  cases dx with
  | obj c fs =>
    cases dy with
    | obj c' gs =>
      simp only [binG] at eg
      split at eg
      · rename_i hc
        subst hc
        rw [Option.map_eq_some_iff] at eg
        obtain ⟨F', et, eg⟩ := eg
        cases eg
        obtain ⟨ps, C, f, fd, eC, cl, hme, hb, hF⟩ := T c F et
        obtain ⟨a, C1, dx1, vs1, rfl, e1, ea, _⟩ := r1.inst
        obtain ⟨b, C2, dx2, vs2, rfl, e2, eb, _⟩ := r2.inst
        rw [eC] at e1 e2; cases e1; cases e2
        obtain rfl : v = Value.ref a := rx
        obtain rfl : u = Value.ref b := ry
        obtain ⟨mA, O, _⟩ := ins_get I.hok (sg _ _ ea)
        obtain ⟨od, J, _⟩ := O.look
        obtain ⟨mB, O2, _⟩ := ins_get I.hok (sg _ _ eb)
        obtain ⟨od2, J2, _⟩ := O2.look
        obtain ⟨mm, fr⟩ := I.fr
        refine PySem.W.binop_K fr I.ok.mod.kin J J2.type (sf c F C et eC) (by rw [hm]; exact hme.at_) hme.fn ?_
        exact thn (run_fnS (E := WE W) (vs := [.ref a, .ref b]) hF hr hb (passAt tk σ) I (.cons rfl (.cons rfl .nil)) (hs _ (.cons r1 (.cons r2 .nil)))) fun _ _ h => cmpBack h
      · cases eg
    | _ => simp [binG] at eg
  | _ => simp [binG] at eg
/-- an object and a number -/
def binGI (tb : List (Nat × DF)) : D → D → Option (DF × List D)
  | .obj c fs, .int i => (tb.lookup c).map fun F => (F, [.obj c fs, .int i])
  | _, _ => none
/-- what K knows of int beside the classes of a table -/
structure IntBeside (K : PySem.W.Frag) (ct : List Addr) (tb : List (Nat × DF)) (op : Operator) : Prop where
  fo : ∃ fo, PySem.W.findIn K (.type "int") (PySem.dunder op.info.2) = some fo
  ro : ∃ ro, PySem.W.findIn K (.type "int") (PySem.dunderR op.info.2) = some ro
  sub : ∀ c F C, tb.lookup c = some F → ct[c]? = some C → PySem.W.subIn K (.type "int") (.ref C) = some false
  rc : ∀ c F C, tb.lookup c = some F → ct[c]? = some C → ∃ rc, PySem.W.findIn K (.ref C) (PySem.dunderR op.info.2) = some rc ∧ (rc = none ∨ ∃ g : Addr, rc = some (.ref g))
theorem binOI {op : Operator} {tb : List (Nat × DF)} (tk : Takes X W) (T : MTab X.prog X.w X.K X.mg X.base ct m k tb) (hr : Room k X.A) (sf : SelfFirst X.K ct tb) (ib : IntBeside X.K ct tb op) (hm : PySem.dunder op.info.2 = m := by rfl) : OpO X ct W (binaryOp op) (binGI tb) := by
  intro pins s σ H x y v u Q I rx ry G dx dy F ds sg r1 r2 eg hs
  cases dx with
  | obj c fs =>
    cases dy with
    | int i =>
      simp only [binGI] at eg
      rw [Option.map_eq_some_iff] at eg
      obtain ⟨F', et, eg⟩ := eg
      cases eg
      obtain ⟨ps, C, f, fd, eC, cl, hme, hb, hF⟩ := T c F et
      obtain ⟨a, C1, dx1, vs1, rfl, e1, ea, _⟩ := r1.inst
      rw [eC] at e1; cases e1
      cases r2
      obtain rfl : v = Value.ref a := rx
      obtain ⟨t, rfl⟩ : ∃ t, u = Value.int i t := ry
      obtain ⟨mA, O, _⟩ := ins_get I.hok (sg _ _ ea)
      obtain ⟨od, J, _⟩ := O.look
      obtain ⟨mm, fr⟩ := I.fr
      obtain ⟨fo, hfo⟩ := ib.fo
      obtain ⟨ro, hro⟩ := ib.ro
      obtain ⟨rc, hrc, hp⟩ := ib.rc c F C et eC
      refine PySem.W.ksp_binT fr I.ok.mod.kin J rfl (sf c F C et eC) (by rw [hm]; exact hme.at_) hme.fn hrc hp hfo hro (ib.sub c F C et eC) ?_
      exact thn (run_fnS (E := WE W) (vs := [.ref a, .int i]) hF hr hb (passAt tk σ) I (.cons rfl (.cons ⟨t, rfl⟩ .nil)) (hs _ (.cons r1 (.cons (.int i) .nil)))) fun _ _ h => cmpBack h
    | _ => simp [binGI] at eg
  | _ => simp [binGI] at eg
/-- of one object -/
def unG (tb : List (Nat × DF)) : D → Option (DF × List D)
  | .obj c fs => (tb.lookup c).map fun F => (F, [.obj c fs])
  | _ => none
theorem unO_of {f0 : Value → Sem Value} {tb : List (Nat × DF)} (tk : Takes X W) (T : MTab X.prog X.w X.K X.mg X.base ct m k tb) (hr : Room k X.A)
    (low : ∀ (s : Shared) (Q : Value → Shared → Prop) (h₀ : Heap) (L : Addr) (mm : Str → Option Value) (x C f : Addr) (ox : Obj) (od : Option Obj), PyProof.Rows.Fr h₀ L s.heap mm → X.K.In h₀ → PySem.W.InstAt s.heap x ox C od → PySem.W.findIn X.K (.ref C) m = some (some (.ref f)) → PySem.W.isFn X.K (.ref f) = true →
      wpAny (model X.prog X.w) X.A (call (.ref f) [.ref x]) Q X.xe s → wpAny (model X.prog X.w) X.A (f0 (.ref x)) Q X.xe s) : UnO X ct W f0 (unG tb) := by
  intro pins s σ H x v Q I rx G dx F ds sg r1 eg hs
  cases dx with
  | obj c fs =>
    simp only [unG] at eg
    rw [Option.map_eq_some_iff] at eg
    obtain ⟨F', et, eg⟩ := eg
    cases eg
    obtain ⟨ps, C, f, fd, eC, cl, hme, hb, hF⟩ := T c F et
    obtain ⟨a, C1, dx1, vs1, rfl, e1, ea, _⟩ := r1.inst
    rw [eC] at e1; cases e1
    obtain rfl : v = Value.ref a := rx
    obtain ⟨mA, O, _⟩ := ins_get I.hok (sg _ _ ea)
    obtain ⟨od, J, _⟩ := O.look
    obtain ⟨mm, fr⟩ := I.fr
    exact low s _ _ _ _ a C f _ _ fr I.ok.mod.kin J hme.at_ hme.fn (run_fnS (E := WE W) (vs := [.ref a]) hF hr hb (passAt tk σ) I (.cons rfl .nil) (hs _ (.cons r1 .nil)))
  | _ => simp [unG] at eg
theorem negO {tb : List (Nat × DF)} (tk : Takes X W) (T : MTab X.prog X.w X.K X.mg X.base ct "__neg__" k tb) (hr : Room k X.A) : UnO X ct W (unaryOp .USub) (unG tb) :=
  unO_of tk T hr fun _ _ _ _ _ _ _ _ _ _ fr kin J ha hf h => PySem.W.ksp_neg fr kin J ha hf h
theorem posO {tb : List (Nat × DF)} (tk : Takes X W) (T : MTab X.prog X.w X.K X.mg X.base ct "__pos__" k tb) (hr : Room k X.A) : UnO X ct W (unaryOp .UAdd) (unG tb) :=
  unO_of tk T hr fun _ _ _ _ _ _ _ _ _ _ fr kin J ha hf h => PySem.W.ksp_pos fr kin J ha hf h
theorem invO {tb : List (Nat × DF)} (tk : Takes X W) (T : MTab X.prog X.w X.K X.mg X.base ct "__invert__" k tb) (hr : Room k X.A) : UnO X ct W (unaryOp .Invert) (unG tb) :=
  unO_of tk T hr fun _ _ _ _ _ _ _ _ _ _ fr kin J ha hf h => PySem.W.ksp_inv fr kin J ha hf h
end
end FD

set_option Elab.async false
set_option linter.all false
set_option maxRecDepth 100000
namespace FD
open PySem PySem.Spec PyProof.Rows L2
/-! ### sets of numbers and texts, with a table that can be walked -/
theorem paired_perm {α β : Type} {F : α → β → Prop} {l m : List β} (p : m.Perm l) : ∀ {xs : List α}, Paired F xs l → ∃ ys : List α, ys.Perm xs ∧ Paired F ys m := by
  induction p with
  | nil => intro xs h; exact ⟨xs, .refl _, h⟩
  | cons a _ ih =>
    intro xs h
    cases h with
    | cons h1 h2 =>
      obtain ⟨ys, p1, p2⟩ := ih h2
      exact ⟨_ :: ys, p1.cons _, .cons h1 p2⟩
  | swap a b l =>
    intro xs h
    cases h with
    | cons h1 h2 =>
      cases h2 with
      | cons h3 h4 => exact ⟨_ :: _ :: _, .swap _ _ _, .cons h3 (.cons h1 h4)⟩
  | trans _ _ ih1 ih2 =>
    intro xs h
    obtain ⟨ys, p1, p2⟩ := ih2 h
    obtain ⟨zs, p3, p4⟩ := ih1 p2
    exact ⟨zs, p3.trans p1, p4⟩
theorem paired_left {α β : Type} {F : α → β → Prop} : ∀ {xs : List α} {l : List β}, Paired F xs l → ∀ x ∈ xs, ∃ y ∈ l, F x y
  | _, _, .nil, x, h => by cases h
  | _, _, .cons h1 h2, x, h => by
    rcases List.mem_cons.mp h with rfl | h
    · exact ⟨_, List.mem_cons_self, h1⟩
    · obtain ⟨y, hy, q⟩ := paired_left h2 x h
      exact ⟨y, List.mem_cons_of_mem _ hy, q⟩
theorem paired_right {α β : Type} {F : α → β → Prop} : ∀ {xs : List α} {l : List β}, Paired F xs l → ∀ y ∈ l, ∃ x ∈ xs, F x y
  | _, _, .nil, x, h => by cases h
  | _, _, .cons h1 h2, x, h => by
    rcases List.mem_cons.mp h with rfl | h
    · exact ⟨_, List.mem_cons_self, h1⟩
    · obtain ⟨y, hy, q⟩ := paired_right h2 x h
      exact ⟨y, List.mem_cons_of_mem _ hy, q⟩
theorem paired_map {α β γ : Type} {F : α → β → Prop} {G : α → γ → Prop} (f : β → γ) (h : ∀ a b, F a b → G a (f b)) : ∀ {xs : List α} {l : List β}, Paired F xs l → Paired G xs (l.map f)
  | _, _, .nil => .nil
  | _, _, .cons h1 h2 => .cons (h _ _ h1) (paired_map f h h2)
/-- an entry of the table is the key k -/
def EntK (P : Program) (w : World) (k : L2.Key) (e : Int × Value) : Prop := (mixKind P w).is k e.2 = true ∧ e.1 = (mixKind P w).hash k ∧ e.2.scannable = true
/-- the set at a, its keys L -/
def SetG (P : Program) (w : World) (h : Heap) (a : Addr) (L : List L2.Key) : Prop :=
  ∃ o es ep t, h.get? a = some o ∧ o.ExactSet ∧ o.data = .set es ep t ∧ L.Nodup ∧ (∃ L', L'.Perm L ∧ Paired (EntK P w) L' es.toList) ∧ es.size < scanBound ∧ t.fits es.size = true ∧ Ris t.place.toList ∧
    (w.params.followText "set-order" = true ∨ t.led = true)
section
variable {P : Program} {w : World} {h h' : Heap} {a : Addr} {L : List L2.Key}
theorem SetG.at (R : SetG P w h a L) (k : ∀ o, h.get? a = some o → h'.get? a = some o) : SetG P w h' a L := by
  obtain ⟨o, es, ep, t, ho, r⟩ := R
  exact ⟨o, es, ep, t, k o ho, r⟩
theorem SetG.size {o : Obj} {es : Array (Int × Value)} {L' : List L2.Key} (p : L'.Perm L) (q : Paired (EntK P w) L' es.toList) : es.size = L.length := by
  rw [← p.length_eq, q.length, Array.length_toList]
theorem ent_elems {l : List (Int × Value)} {L' : List L2.Key} (q : Paired (EntK P w) L' l) : ElemsOf (mixKind P w) l := fun e he => by
  obtain ⟨k, _, h1, h2, h3⟩ := paired_right q e he
  exact ⟨⟨k, h1, h2⟩, h3⟩
theorem ent_mem {l : List (Int × Value)} {L' : List L2.Key} (q : Paired (EntK P w) L' l) (k : L2.Key) : k ∈ L' ↔ ∃ e ∈ l, (mixKind P w).is k e.2 = true := by
  constructor
  · intro hk
    obtain ⟨e, he, h1, _⟩ := paired_left q k hk
    exact ⟨e, he, h1⟩
  · rintro ⟨e, he, h1⟩
    obtain ⟨k', hk', h2, _⟩ := paired_right q e he
    rw [(mixKind P w).inj e.2 k k' h1 h2]; exact hk'
end
section
variable {P : Program} {w : World} {A : Around} {E : Value → Shared → Prop} {s : Shared} {a : Addr} {L : List L2.Key}
theorem setG_tail {g : Bool → Sem Unit} (hg : ∀ (b : Bool) (s₁ : Shared) (Q' : Unit → Shared → Prop), Q' () s₁ → wpAny (model P w) A (g b) Q' E s₁)
    {o : Obj} {es : Array (Int × Value)} {ep : Nat} {t : SetTable} (ho : s.heap.get? a = some o) (hex : o.ExactSet) (hd : o.data = .set es ep t)
    {es1 : Array (Int × Value)} {t2 : SetTable} {M : List L2.Key} (nd : M.Nodup) (g1 : ∃ L', L'.Perm M ∧ Paired (EntK P w) L' es1.toList)
    (hb1 : es1.size < scanBound) (hf2 : t2.fits es1.size = true) (hr : Ris t2.place.toList) (hl : w.params.followText "set-order" = true ∨ t2.led = true) {wasDummy : Bool} {R : Option Bool → Shared → Prop}
    (hR : ∀ h', Heap.SameBut a s.heap h' → SetG P w h' a M → R (some true) { s with heap := h' }) :
    wpAny (model P w) A (storeSet a es1 t2 >>= fun _ => if (!wasDummy && t2.tooFull) = true then (g (relayAll t2 es1 (SetTable.grown es1.size)).2.2 >>= fun _ =>
        storeSet a (relayAll t2 es1 (SetTable.grown es1.size)).1 (relayAll t2 es1 (SetTable.grown es1.size)).2.1 >>= fun _ => pure (some true)) else pure (some true)) R E s := by
  obtain ⟨M', p1, q1⟩ := g1
  refine wpAny_bind (wpAny_storeSet_of ho hd ?_ (fits_of_scanBound hb1))
  have o1 := store_at (es' := es1) (t' := t2) ho hd
  have b1 := Heap.SameBut.update s.heap a (Obj.putSet es1 t2)
  by_cases c : (!wasDummy && t2.tooFull) = true
  · rw [if_pos c]
    have pm := relayAll_perm t2 es1 (SetTable.grown es1.size)
    have f3 := relayAll_fits t2 es1 (SetTable.grown es1.size)
    have r3 := relayAll_ris t2 es1 (SetTable.grown es1.size)
    have l3 := relayAll_led t2 es1 (SetTable.grown es1.size)
    generalize relayAll t2 es1 (SetTable.grown es1.size) = Z at pm f3 r3 l3 ⊢
    obtain ⟨es2, t3, gave⟩ := Z
    dsimp only at pm f3 r3 l3 ⊢
    obtain ⟨M2, p2, q2⟩ := paired_perm pm q1
    have z : es2.size = es1.size := by rw [← Array.length_toList, pm.length_eq, Array.length_toList]
    refine wpAny_bind (hg _ _ _ (wpAny_bind (wpAny_storeSet_of o1 rfl ?_ (fits_of_scanBound (by rw [z]; exact hb1)))))
    have o2 := store_at (es' := es2) (t' := t3) o1 rfl
    refine wpAny_pure (hR _ (b1.trans (Heap.SameBut.update _ a _)) ⟨_, es2, _, t3, o2, hex, rfl, nd, ⟨M2, p2.trans p1, q2⟩, by rw [z]; exact hb1, f3, r3, hl.imp id fun y => by rw [l3]; exact y⟩)
  · rw [if_neg c]
    exact wpAny_pure (hR _ b1 ⟨_, es1, _, t2, o1, hex, rfl, nd, ⟨M', p1, q1⟩, hb1, hf2, hr, hl⟩)
/-- the keys with one more -/
def hasK (L : List L2.Key) (k : L2.Key) : Bool := L.any fun j => decide (j = k)
theorem hasK_iff {L : List L2.Key} {k : L2.Key} : hasK L k = true ↔ k ∈ L := by
  unfold hasK
  rw [List.any_eq_true]
  exact ⟨fun ⟨j, h1, h2⟩ => (of_decide_eq_true h2) ▸ h1, fun h => ⟨k, h, decide_eq_true rfl⟩⟩
def addK (L : List L2.Key) (k : L2.Key) : List L2.Key := if hasK L k = true then L else L ++ [k]
theorem setG_add_hashed {k : L2.Key} {v : Value} {Q : Bool → Shared → Prop} (hkey : (mixKind P w).is k v = true) (hsc : v.scannable = true) (R : SetG P w s.heap a L) (room : L.length + 1 < scanBound)
    (hQ : ∀ b h', Heap.SameBut a s.heap h' → SetG P w h' a (addK L k) → Q b { s with heap := h' }) : wpAny (model P w) A (setAddHashed a v ((mixKind P w).hash k)) Q E s := by
  obtain ⟨o, es, ep, t, ho, hex, hd, nd, ⟨L', p, q⟩, hb, hf, hr, hl⟩ := R
  have hel := ent_elems q
  have hn : es.size = L.length := SetG.size (o := o) p q
  unfold setAddHashed setAddHashedIn
  refine wpAny_holding (wpAny_bind (wpAny_setState_of ho hd hf ?_))
  dsimp only
  rw [byScan_of hsc hb hel]
  simp only [↓reduceIte]
  unfold setAddByScan
  refine wpAny_bind (wpAny_bind (wpAny_rule (wpAny_bind (wpAny_setScan_of hkey ho hd hf hel ?_))))
  cases hfi : List.findIdx? (fun e => (mixKind P w).is k e.2) es.toList with
  | some j =>
    dsimp only
    obtain ⟨hj, pj, _⟩ := List.findIdx?_eq_some_iff_getElem.mp hfi
    have hk : k ∈ L := p.mem_iff.mp ((ent_mem q k).mpr ⟨_, List.getElem_mem hj, pj⟩)
    refine wpAny_pure (wpAny_pure (hQ _ s.heap (Heap.SameBut.refl a s.heap) ?_))
    unfold addK
    rw [if_pos (hasK_iff.mpr hk)]
    exact ⟨o, es, ep, t, ho, hex, hd, nd, ⟨L', p, q⟩, hb, hf, hr, hl⟩
  | none =>
    dsimp only
    have hk : k ∉ L := fun z => by
      obtain ⟨e, he, y⟩ := (ent_mem q k).mp (p.mem_iff.mpr z)
      have c := List.findIdx?_eq_none_iff.mp hfi e he
      rw [y] at c
      cases c
    have gw : ∀ (b : Bool) {s₁ : Shared} {Q' : Unit → Shared → Prop}, Q' () s₁ → wpAny (model P w) A (match b with | true => rule "set.scan.the-table-gave-way" | false => pure ()) Q' E s₁ :=
      fun b s₁ Q' y => by cases b <;> first | exact wpAny_pure y | exact wpAny_rule y
    have pm := layNew_perm t es ((mixKind P w).hash k) v
    have f1 := layNew_fits t es ((mixKind P w).hash k) v
    have r1 := layNew_ris t es ((mixKind P w).hash k) v hr
    have l1 := layNew_led t es ((mixKind P w).hash k) v
    generalize layNew t es ((mixKind P w).hash k) v = Z at pm f1 r1 l1 ⊢
    obtain ⟨es1, t1, wasDummy, gave⟩ := Z
    dsimp only at pm f1 r1 l1 ⊢
    rw [Array.toList_push] at pm
    have q0 : Paired (EntK P w) (L' ++ [k]) (es.toList ++ [((mixKind P w).hash k, v)]) := q.snoc ⟨hkey, rfl, hsc⟩
    obtain ⟨M, p1, q1⟩ := paired_perm pm q0
    have nd1 : (L ++ [k]).Nodup := List.nodup_append.mpr ⟨nd, by simp, fun x hx y hy => by rw [List.mem_singleton] at hy; subst hy; exact fun z => hk (z ▸ hx)⟩
    have pM : M.Perm (L ++ [k]) := p1.trans (p.append_right [k])
    have z : es1.size = L.length + 1 := by rw [SetG.size (o := o) pM q1, List.length_append]; rfl
    have b1 : es1.size < scanBound := by rw [z]; exact room
    have led : w.params.followText "set-order" = true ∨ t1.led = true := hl.imp id fun y => by rw [l1]; exact y
    have ad : addK L k = L ++ [k] := if_neg fun z => hk (hasK_iff.mp z)
    rw [ad] at hQ
    refine wpAny_bind (gw _ ?_)
    split
    · refine wpAny_bind ?_
      rw [hashByValue_scannable 8 hsc]
      refine wpAny_pure (setG_tail ?_ ho hex hd nd1 ⟨M, pM, q1⟩ b1 ?_ ?_ ?_ ?_)
      · intro b s₁ Q' y; cases b <;> first | exact wpAny_pure y | exact wpAny_rule y
      · first | (split <;> first | exact f1 | exact SetTable.fits_plain_off f1) | exact f1
      · first | (split <;> exact r1) | exact r1
      · first | (split <;> exact led) | exact led
      · intro h' sb r; dsimp only; exact wpAny_pure (hQ _ h' sb r)
    · refine wpAny_bind (wpAny_pure ?_)
      simp only [↓reduceIte]
      refine setG_tail ?_ ho hex hd nd1 ⟨M, pM, q1⟩ b1 f1 r1 led ?_
      · intro b s₁ Q' y; cases b <;> first | exact wpAny_pure y | exact wpAny_rule y
      · intro h' sb r; dsimp only; exact wpAny_pure (hQ _ h' sb r)
theorem setG_add {k : L2.Key} {v : Value} {Q : Value → Shared → Prop} (hkey : (mixKind P w).is k v = true) (hsc : v.scannable = true) (R : SetG P w s.heap a L) (room : L.length + 1 < scanBound)
    (hQ : ∀ h', Heap.SameBut a s.heap h' → SetG P w h' a (addK L k) → Q .none { s with heap := h', toks := s.toks + 1 }) : wpAny (model P w) A (call (.builtin "set.add") [.ref a, v]) Q E s := by
  have ⟨o, es, ep, t, ho, hex, _⟩ := R
  refine wpAny_call_entry F.slot_set_add ⟨o, ho, hex.1⟩ F.entry_set_add ?_ (F.args_set_add_2 _ _)
  unfold Builtin.«set.add» Builtin.Frozenset.oneOther
  simp only [List.isEmpty_nil, bind_assoc]
  unfold Builtin.Frozenset.addrOf setAdd
  refine wpAny_bind (wpAny_pure ?_)
  try dsimp only
  refine wpAny_bind (wpAny_pure ?_)
  try dsimp only
  refine wpAny_bind (wpAny_holding (wpAny_bind ((mixKind P w).pyHash hkey ?_)))
  refine setG_add_hashed (s := { s with toks := s.toks + 1 }) hkey hsc R room fun b h' sb r => ?_
  show wpAny _ _ (PySem.ret Value.none) _ _ _
  exact wpAny_pure ⟨_, rfl, hQ h' sb r⟩
theorem setG_fresh {h : Heap} : SetG P w (h.push { cls := .type "set", dict := none, data := .set #[] 0 (.fresh 0 0 (!w.params.followText "set-order")) }) h.objs.size [] :=
  ⟨_, #[], 0, _, Heap.get?_push_size _ rfl, ⟨rfl, rfl, rfl⟩, rfl, List.nodup_nil, ⟨[], .refl _, .nil⟩, (by decide), (by rfl), List.Pairwise.nil, by
    show _ ∨ (!w.params.followText "set-order") = true
    cases w.params.followText "set-order"
    · exact .inr rfl
    · exact .inl rfl⟩
/-- as a tracked thing -/
def SetGO (P : Program) (w : World) (a : Addr) (L : List L2.Key) : HO := .ext fun h => SetG P w h a L
theorem setGO_new {H : Hp} {h : Heap} {a : Addr} {L : List L2.Key} (R : SetG P w h a L) : ObjOk P w H h a (SetGO P w a L) := by
  have ⟨o, _, _, _, ho, _⟩ := R
  exact ⟨R, ⟨o, ho⟩, fun h1 h2 p k => SetG.at p k⟩
end
section
variable {X : Cx} {pins : List (Addr × Obj)} {σ : L2.St} {H : Hp} {s : Shared} {E : Value → Shared → Prop} {D : Addr} {L : List L2.Key}
theorem setGO_get (I : Inv X pins σ H s) (ha : H D = some (SetGO X.prog X.w D L)) : SetG X.prog X.w s.heap D L := (I.hok D _ ha).1
theorem addG_ok {A : Around} {k : L2.Key} {u : Value} {Q : Value → Shared → Prop} (I : Inv X pins σ H s) (hD : H D = some (SetGO X.prog X.w D L)) (r : RelV (kV k) u) (room : L.length + 1 < scanBound)
    (h : ∀ s', Inv X pins σ (upd H D (SetGO X.prog X.w D (addK L k))) s' → Q .none s') : wpAny (model X.prog X.w) A (call (.builtin "set.add") [.ref D, u]) Q E s := by
  have hk : (mixKind X.prog X.w).is k u = true ∧ u.scannable = true := by
    cases k with
    | inl i => obtain ⟨t, rfl⟩ := r; exact ⟨mixKind_int _ _ i t, rfl⟩
    | inr x => obtain ⟨t, rfl⟩ := r; exact ⟨mixKind_str _ _ x t, rfl⟩
  refine setG_add hk.1 hk.2 (setGO_get I hD) room fun h' sb new => ?_
  have he : ∃ u, h'.get? D = some u := by
    have ⟨o, _, _, _, ho, _⟩ := new
    exact ⟨o, ho⟩
  exact h _ (I.write (e := D) (t' := s.toks + 1) (by rw [hD]; trivial) (.inl rfl) (fun b u hb hu => (sb.2 b hb).trans hu) he (setGO_new new))
end
end FD

set_option Elab.async false
set_option linter.all false
set_option maxRecDepth 100000
namespace FD
open PySem PySem.Spec PyProof.Rows L2 PySem.W
/-! ### sorted(a set) -/
theorem each_paired {α β : Type} {F : α → β → Prop} : ∀ {xs : List α} {ys : List β}, Paired F xs ys → EachIs F xs ys
  | _, _, .nil => .nil
  | _, _, .cons h t => .cons h (each_paired t)
theorem paired_each {α β : Type} {F : α → β → Prop} : ∀ {xs : List α} {ys : List β}, EachIs F xs ys → Paired F xs ys
  | _, _, .nil => .nil
  | _, _, .cons h t => .cons h (paired_each t)
theorem paired_flip {α β : Type} {F : α → β → Prop} : ∀ {xs : List α} {ys : List β}, Paired F xs ys → Paired (fun y x => F x y) ys xs
  | _, _, .nil => .nil
  | _, _, .cons h t => .cons h (paired_flip t)
/-- a kind of keys that can be sorted -/
structure SKind (β : Type) where
  enc : β → PyData
  key : β → L2.Key
  inj : ∀ a b, key a = key b → a = b
  reads : ∀ (h : Heap) (v : Value) (b : β), RelV (kV (key b)) v → Reads h v (enc b) []
  alike : ∀ a b, PySem.W.alike (enc a) (enc b) = true
  some : ∀ b, enc b ≠ .none ∧ ∀ xs, enc b ≠ .tuple xs
  anti : ∀ a b, dataLe false enc a b = true → dataLe false enc b a = true → a = b
  flat : ∀ b, (enc b).depth = 0
def intsK : SKind Int where
  enc := .int
  key := .inl
  inj := fun a b e => Sum.inl.inj e
  reads := fun h v b r => by obtain ⟨t, rfl⟩ := r; exact Reads.int b t
  alike := fun a b => by simp [PySem.W.alike]
  some := fun b => ⟨by simp, by simp⟩
  anti := fun a b h1 h2 => by
    have e := dataLe_int (β := Int) id
    have e1 := congrFun (congrFun e a) b
    have e2 := congrFun (congrFun e b) a
    have h1' : dataLe false (fun b => PyData.int (id b)) a b = true := h1
    have h2' : dataLe false (fun b => PyData.int (id b)) b a = true := h2
    rw [e1, decide_eq_true_eq] at h1'
    rw [e2, decide_eq_true_eq] at h2'
    exact Int.le_antisymm h1' h2'
  flat := fun b => by simp [PyData.depth]
def strsK : SKind Str where
  enc := .str
  key := .inr
  inj := fun a b e => Sum.inr.inj e
  reads := fun h v b r => by obtain ⟨t, rfl⟩ := r; exact Reads.str b t
  alike := fun a b => by simp [PySem.W.alike]
  some := fun b => ⟨by simp, by simp⟩
  anti := fun a b h1 h2 => by
    have e := dataLe_str (β := Str) id
    have e1 := congrFun (congrFun e a) b
    have e2 := congrFun (congrFun e b) a
    have h1' : dataLe false (fun b => PyData.str (id b)) a b = true := h1
    have h2' : dataLe false (fun b => PyData.str (id b)) b a = true := h2
    rw [e1, decide_eq_true_eq] at h1'
    rw [e2, decide_eq_true_eq] at h2'
    exact TL.ext_tl (List.le_antisymm h1' h2')
  flat := fun b => by simp [PyData.depth]
variable {β : Type}
theorem paired_mapEq {α γ : Type} (f : α → γ) : ∀ {xs : List α} {ys : List γ}, Paired (fun a k => k = f a) xs ys → xs.map f = ys
  | _, _, .nil => rfl
  | _, _, .cons h t => by rw [List.map_cons, paired_mapEq f t, h]
theorem paired_selfMap {α γ : Type} (f : α → γ) : ∀ xs : List α, Paired (fun a k => k = f a) xs (xs.map f)
  | [] => .nil
  | _ :: xs => .cons rfl (paired_selfMap f xs)
theorem paired_unmap {α γ δ : Type} (f : α → γ) {F : γ → δ → Prop} : ∀ {xs : List α} {ys : List δ}, Paired F (xs.map f) ys → Paired (fun y a => F (f a) y) ys xs
  | [], _, h => by cases h; exact .nil
  | _ :: _, _, h => by cases h with | cons h1 h2 => exact .cons h1 (paired_unmap f h2)
theorem sort_perm (κ : SKind β) {xs ys : List β} (p : xs.Perm ys) : xs.mergeSort (dataLe false κ.enc) = ys.mergeSort (dataLe false κ.enc) := by
  have tl : TotalLe (dataLe false κ.enc) := sortLe_total _ _ _
  refine List.Perm.eq_of_pairwise (le := fun a b => dataLe false κ.enc a b = true) (fun a b _ _ h1 h2 => κ.anti a b h1 h2) (sort_pairwise tl _) (sort_pairwise tl _) ?_
  exact (List.mergeSort_perm _ _).trans (p.trans (List.mergeSort_perm _ _).symm)
section
variable {P : Program} {w : World} {A : Around} {E : Value → Shared → Prop} {s : Shared} {a : Addr}
theorem sorted_setG (κ : SKind β) {bs : List β} {Q : Value → Shared → Prop} (R : SetG P w s.heap a (bs.map κ.key)) (hh : A.handled = none) (hu : A.units + 64 < cLine)
    (hQ : ∀ s' p (out : List Value) (c : Nat), (∀ b o, s.heap.get? b = some o → s'.heap.get? b = some o) → s'.gens = s.gens → s'.os = s.os → s.heap.objs.size ≤ p →
      s'.heap.get? p = some (seqObj "list" out.toArray c) → Paired (fun v b => RelV (kV (κ.key b)) v) out (bs.mergeSort (dataLe false κ.enc)) → Q (.ref p) s') :
    wpAny (model P w) A (call (.builtin "sorted") [.ref a]) Q E s := by
  obtain ⟨o, es, ep, t, ho, hex, hd, nd, ⟨L', p, q⟩, hb, hf, hr, hl⟩ := R
  have hn : es.size = bs.length := by rw [SetG.size (o := o) p q, List.length_map]
  refine Calls.call_function_entry kind_sorted plain_sorted entry_sorted (args_sorted1 _) ?_
  unfold Builtin.«sorted»
  refine wpAny_bind (m := checkCount "sorted" 1 1 _) (wpAny_pure ?_)
  refine wpAny_bind (collect_set (A := A.in1) hh ⟨o, ho, hex.1, hd⟩ hf hb hr hl fun s1 vs k1 hz g1 o1 pm => ?_)
  have q2 : Paired (fun k v => RelV (kV k) v) L' (es.toList.map (·.2)) := paired_map (·.2) (fun k e he => by
    obtain ⟨h1, _⟩ := he
    rcases keyIs_shape h1 with ⟨i, t, rfl, e2⟩ | ⟨x, t, rfl, e2⟩
    · rw [e2]; exact ⟨t, rfl⟩
    · rw [e2]; exact ⟨t, rfl⟩) q
  obtain ⟨M, pM, qM⟩ := paired_perm pm q2
  have pm2 : M.Perm (bs.map κ.key) := pM.trans p
  obtain ⟨cs, pc, ec⟩ : ∃ cs : List β, cs.Perm bs ∧ cs.map κ.key = M := by
    obtain ⟨cs, h1, h2⟩ := paired_perm pm2 (paired_selfMap κ.key bs)
    exact ⟨cs, h1, paired_mapEq κ.key h2⟩
  subst ec
  have er : EachIs (fun v b => RelV (kV (κ.key b)) v) vs cs := each_paired (paired_unmap κ.key qM)
  have hvl : vs.length = bs.length := by rw [er.length, pc.length_eq]
  have hbs : bs.length < scanBound := by rw [← hn]; exact hb
  have sl : bs.length ≤ sizeLine := Nat.le_trans (Nat.le_of_lt hbs) (by decide)
  refine wpAny_bind (wpAny_newList ?_ (by rw [hvl]; exact sl))
  have oL : (s1.heap.push (seqObj "list" vs.toArray 0)).get? s1.heap.objs.size = some (seqObj "list" vs.toArray 0) := Heap.get?_push_size _ rfl
  refine wpAny_bind (wpAny_holding (list_sort_data (s := { s1 with heap := s1.heap.push (seqObj "list" vs.toArray 0) }) oL er (er.mono fun v b r => ⟨[], κ.reads _ v b r, by simp⟩) (AllAlike.of κ.alike) (Sortable.others κ.some) (by rw [pc.length_eq]; exact sl) (fun b _ => by rw [κ.flat]; show A.units + 1 + 1 + 0 < cLine; omega) fun out ol ea => ?_))
  obtain ⟨c, hc⟩ := sortedHeap_at (vs := vs) (out := out.toArray) oL
  refine wpAny_pure ⟨_, rfl, hQ _ s1.heap.objs.size out c (fun b u e => ?_) g1 o1 hz hc ?_⟩
  · have y := k1 b u e
    have lt := Heap.lt_size y
    show (sortedHeap (s1.heap.push (seqObj "list" vs.toArray 0)) s1.heap.objs.size vs out.toArray).get? b = some u
    rw [sortedHeap_old (Nat.ne_of_lt lt) (by rw [size_push']; exact Nat.lt_succ_of_lt lt)]
    exact Heap.get?_push_of_some _ y
  · rw [← sort_perm κ pc]; exact paired_each ea
end
section
variable {X : Cx}
/-- sorted(a set): a new list -/
def rSortG (P : Program) (w : World) (κ : SKind β) : List V → Hp → VK → Prop := fun xs H Q => ∃ (a : Addr) (bs : List β), xs = [.ref a] ∧ H a = some (SetGO P w a (bs.map κ.key)) ∧ ∀ p, H p = none → Q (.ref p) (upd H p (.lst ((bs.mergeSort (dataLe false κ.enc)).map fun b => kV (κ.key b))))
theorem cr_sortG (κ : SKind β) (hc : X.calm = true) (hu : X.A.units + 64 < cLine) : CallR X (.builtin "sorted") (rSortG X.prog X.w κ) := by
  intro pins s σ H xs us Q I r h
  obtain ⟨a, bs, rfl, ha, q⟩ := h
  obtain ⟨u, rfl, r1⟩ := vals1 r
  cases r1
  refine sorted_setG κ (setGO_get I ha) (I.ok.hd hc) hu fun s' p out c k g o hp ho ea => ?_
  have vs : ∀ {out : List Value} {cs : List β}, Paired (fun v b => RelV (kV (κ.key b)) v) out cs → Vals (cs.map fun b => kV (κ.key b)) out := fun h => by
    induction h with
    | nil => exact .nil
    | cons h _ ih => exact .cons h ih
  have v2 := vs ea
  have hl : (bs.mergeSort (dataLe false κ.enc)).length ≤ sizeLine := by
    rw [List.length_mergeSort]
    obtain ⟨o, es, ep, t, ho, hex, hd, nd, ⟨L', p, q⟩, hb, _⟩ := setGO_get I ha
    have e := SetG.size (o := o) p q
    rw [List.length_map] at e
    rw [← e]
    exact Nat.le_trans (Nat.le_of_lt hb) (by decide)
  have ok : ObjOk X.prog X.w (upd H p (.lst ((bs.mergeSort (dataLe false κ.enc)).map fun b => kV (κ.key b)))) s'.heap p (.lst ((bs.mergeSort (dataLe false κ.enc)).map fun b => kV (κ.key b))) :=
    ⟨by rw [List.length_map]; exact hl, out, c, v2, ho⟩
  have hpn : H p = none := I.hok.fresh hp
  refine ⟨.ref p, _, I.call' (ch := []) o (Un.laid k hp hpn) (I.hok.laid k hp ok) (by rw [g]; exact I.bare) (fun _ z => nomatch z), rfl, q p hpn⟩
end
end FD

set_option Elab.async false
set_option linter.all false
set_option maxRecDepth 100000
namespace FD
open PySem PySem.Spec PyProof.Rows L2
/-! ### the loops of a set comprehension -/
/-- one turn of a clause: the item, the tests, then the rest -/
def turnOf (p : Pos) (tg : Expr) (ifs : List Expr) (rest : Sem Unit) (code : Expr) (idx : Nat) (it acc : Value) (env : Env) : Sem Fin := do
  standAt p
  match ← pyNext it with
  | none => pure (.done .next)
  | some v =>
    letOwnedTupleGo tg it v
    assign tg env v
    let ok ← forIn ifs true fun c r => if r = true then do let ok ← isTrue c env (eval c env); pure (ForInStep.yield ok) else pure (ForInStep.yield r)
    if ok = true then (do rest; again (.compLoop code idx it acc env)) else again (.compLoop code idx it acc env)
def restAdd (elt : Expr) (env : Env) (acc : Value) : Sem Unit := do
  let v ← eval elt env
  standAt elt.pos
  let _ ← call (.builtin "set.add") [acc, v]
def restGo (code : Expr) (i1 : Expr) (env : Env) (acc : Value) : Sem Unit := do
  let x ← eval i1 env
  standAt i1.pos
  let x ← foldedSetIterable i1 env x
  let y ← holding [x] (pyIter x)
  let _ ← runOwn (.compStart code 1 y acc env) env
theorem turn_one (elt t0 i0 : Expr) (ifs0 : List Expr) (scope : Scope) (pos : Pos) (it acc : Value) (env : Env) :
    compTurn (.SetComp elt [⟨t0, i0, ifs0, 0⟩] scope pos) 0 it acc env = turnOf i0.pos t0 ifs0 (restAdd elt env acc) (.SetComp elt [⟨t0, i0, ifs0, 0⟩] scope pos) 0 it acc env := by
  rfl
theorem turn_in (elt t0 i0 t1 i1 : Expr) (ifs0 ifs1 : List Expr) (scope : Scope) (pos : Pos) (it acc : Value) (env : Env) :
    compTurn (.SetComp elt [⟨t0, i0, ifs0, 0⟩, ⟨t1, i1, ifs1, 0⟩] scope pos) 1 it acc env = turnOf i1.pos t1 ifs1 (restAdd elt env acc) (.SetComp elt [⟨t0, i0, ifs0, 0⟩, ⟨t1, i1, ifs1, 0⟩] scope pos) 1 it acc env := by
  rfl
theorem turn_out (elt t0 i0 t1 i1 : Expr) (ifs0 ifs1 : List Expr) (scope : Scope) (pos : Pos) (it acc : Value) (env : Env) :
    compTurn (.SetComp elt [⟨t0, i0, ifs0, 0⟩, ⟨t1, i1, ifs1, 0⟩] scope pos) 0 it acc env = turnOf i0.pos t0 ifs0 (restGo (.SetComp elt [⟨t0, i0, ifs0, 0⟩, ⟨t1, i1, ifs1, 0⟩] scope pos) i1 env acc) (.SetComp elt [⟨t0, i0, ifs0, 0⟩, ⟨t1, i1, ifs1, 0⟩] scope pos) 0 it acc env := by
  have e : compTurn (.SetComp elt [⟨t0, i0, ifs0, 0⟩, ⟨t1, i1, ifs1, 0⟩] scope pos) 0 it acc env = (do
      standAt i0.pos
      match ← pyNext it with
      | none => pure (.done .next)
      | some v =>
        letOwnedTupleGo t0 it v
        assign t0 env v
        let ok ← forIn ifs0 true fun c r => if r = true then do let ok ← isTrue c env (eval c env); pure (ForInStep.yield ok) else pure (ForInStep.yield r)
        if ok = true then (do
          let x ← eval i1 env
          standAt i1.pos
          let x ← foldedSetIterable i1 env x
          let y ← holding [x] (pyIter x)
          let _ ← runOwn (.compStart (.SetComp elt [⟨t0, i0, ifs0, 0⟩, ⟨t1, i1, ifs1, 0⟩] scope pos) 1 y acc env) env
          again (.compLoop (.SetComp elt [⟨t0, i0, ifs0, 0⟩, ⟨t1, i1, ifs1, 0⟩] scope pos) 0 it acc env)) else again (.compLoop (.SetComp elt [⟨t0, i0, ifs0, 0⟩, ⟨t1, i1, ifs1, 0⟩] scope pos) 0 it acc env)) := rfl
  rw [e]
  unfold turnOf restGo
  simp only [bind_assoc, pure_bind]
abbrev TB := L2.St → Hp → (Hp → Prop) → Prop
/-- the rest of a turn -/
structure PB (Y : Cx) (vb : List Nat) (rest : Sem Unit) (tb : TB) : Prop where
  run : ∀ (pins : List (Addr × Obj)) (s : Shared) (σ : L2.St) (H : Hp) (Nx : Hp → Prop), Inv Y pins σ H s → tb σ H Nx → wpAny (model Y.prog Y.w) Y.A rest (fun _ s' => ∃ H', Inv Y pins (wipe σ vb) H' s' ∧ Nx H') (fun _ _ => False) s
/-- the turns of a clause, up to Fin -/
def tLoop (J : It) (g : TG) (tt : TT) (tb : TB) (vs : List Nat) (σ : L2.St) (H : Hp) (Fin : Hp → Prop) : Prop := ∃ W : Nat → Nat → Hp → Prop, (∃ m, W 0 m H) ∧ ∀ i m H, W i m H →
  (J.stop i H ∧ Fin H) ∨ (J.go i H ∧ ∃ Nx : Hp → Prop, (∀ H', Nx H' → ∃ m', m' < m ∧ W (i + 1) m' H') ∧ ∀ x H', J.yld i H x H' → g x (wipe σ vs) H' fun σ2 H2 => wipe σ2 vs = wipe σ vs ∧ tt σ2 H2 fun b H3 => if b = true then tb σ2 H3 Nx else Nx H3)
theorem loop_ok {Y : Cx} {code : Expr} {idx : Nat} {acc : Value} {p : Pos} {tg : Expr} {ifs : List Expr} {rest : Sem Unit} {J : It} {fp : List Addr} {it : Addr} {tn : Nat → Heap → Prop} {g : TG} {tt : TT} {tb : TB} (hc : Y.calm = true) (hx : Y.xe = fun _ _ => False)
    (hu : Y.A.under (.compLoop code idx (.ref it) acc Y.env) = Y.A) (hden : (model Y.prog Y.w).den (.compLoop code idx (.ref it) acc Y.env) = (compTurn code idx (.ref it) acc Y.env).onRaise (fun x => do noteFrame x Y.env; theTreesLotGoes x))
    (ht : compTurn code idx (.ref it) acc Y.env = turnOf p tg ifs rest code idx (.ref it) acc Y.env) (T : Turn Y.prog Y.w Y.K tg J fp it tn) (pg : PG Y tg g) (pt : PTs Y ifs tt) {vb : List Nat} (pb : PB Y vb rest tb)
    {pins : List (Addr × Obj)} {σ : L2.St} {H : Hp} {s : Shared} {vs : List Nat} (hv : ∀ i ∈ vb, i ∈ vs) {Fin : Hp → Prop} (I : Inv Y pins (wipe σ vs) H s) (st : tn 0 s.heap) (fo : ∀ b ∈ fp, ∀ H' : Hp, H' b = none → FpOk Y pins H' b) (n0 : ∀ b ∈ fp, H b = none)
    (h : tLoop J g tt tb vs σ H Fin) {R : Result → Shared → Prop} (fin : ∀ H' s', Inv Y pins (wipe σ vs) H' s' → Fin H' → R (.ok .next) s') : codeAny (model Y.prog Y.w) Y.A (.compLoop code idx (.ref it) acc Y.env) R s := by
  obtain ⟨W, ⟨m0, w0⟩, turn⟩ := h
  refine codeAny_loop rfl (fun n s' => ∃ i H', Inv Y pins (wipe σ vs) H' s' ∧ tn i s'.heap ∧ (∀ b ∈ fp, H' b = none) ∧ W i n H') ?_ m0 ⟨0, H, I, st, n0, w0⟩
  rintro n s5 ⟨i, H5, I5, st5, n5, w5⟩
  rw [hu, hden]
  refine wpAny_noted ?_
  rw [ht]
  unfold turnOf
  refine wpAny_bind (wpAny_standAt (wpAny_bind ?_))
  have pg' := pg.run
  have pt' := pt.run
  rw [hx] at pg' pt'
  have f5 : ∀ b ∈ fp, FpOk Y pins H5 b := fun b hb => fo b hb H5 (n5 b hb)
  rcases turn i n H5 w5 with ⟨stop, qq⟩ | ⟨go, Nx, hNx, step⟩
  · refine thnF (T.done Y rfl rfl rfl hc i pins s5 _ H5 (fun _ _ => False) I5 f5 st5 stop) fun r s6 ⟨hr, I6⟩ => ?_
    subst hr
    exact wpAny_pure (fin H5 s6 I6 qq)
  · refine thnF (T.item Y rfl rfl rfl hc i pins s5 _ H5 (fun _ _ => False) I5 f5 st5 go) fun r s6 ⟨u, hr, h6⟩ => ?_
    subst hr
    refine wpAny_bind (thnF h6 fun _ s7 ⟨x, H7, I7, r7, y7, st7, n7⟩ => ?_)
    have f7 : ∀ b ∈ fp, FpOk Y pins H7 b := fun b hb => fo b hb H7 (n7 b hb)
    have J7 := I7.pinned f7 (T.obj _ _ st7)
    refine wpAny_bind (thnF (pg' _ s7 _ H7 x u _ J7 r7 (step x H7 y7)) fun _ s8 ⟨σ8, H8, I8, hw8, q8⟩ => ?_)
    refine wpAny_bind (thnF (pt' _ s8 σ8 H8 _ I8 q8) fun b s9 ⟨H9, I9, q9⟩ => ?_)
    have back : ∀ {σ9 : L2.St} {s' : Shared} {H' : Hp}, Inv Y (pins ++ pinsAt fp s7.heap) σ9 H' s' → σ9 = σ8 ∨ σ9 = wipe σ8 vb → Nx H' → ∃ m, m < n ∧ ∃ i H', Inv Y pins (wipe σ vs) H' s' ∧ tn i s'.heap ∧ (∀ b ∈ fp, H' b = none) ∧ W i m H' := fun {σ9 s' H'} I' h9 nx => by
      obtain ⟨m', hm, w'⟩ := hNx H' nx
      have pin' : ∀ b ∈ fp, ∀ o, s7.heap.get? b = some o → s'.heap.get? b = some o ∧ H' b = none := fun b hb o e => by
        have z := I'.pin (b, o) (List.mem_append_right _ (List.mem_append_right _ (mem_pinsAt hb e)))
        exact ⟨z.1, z.2.1⟩
      refine ⟨m', hm, i + 1, H', I'.unpinned.weak (by rw [← hw8, wipe_length]; rcases h9 with rfl | rfl <;> simp only [wipe_length]) (fun j v e => ?_), T.keep _ _ _ st7 fun b hb o e => (pin' b hb o e).1, fun b hb => ?_, w'⟩
      · rw [← hw8] at e
        obtain ⟨e1, e2⟩ := wipe_some e
        rcases h9 with rfl | rfl
        · exact e1
        · rw [wipe_out fun z => e2 (hv j z)]; exact e1
      · obtain ⟨o, e, _⟩ := T.obj _ _ st7 b hb; exact (pin' b hb o e).2
    cases b with
    | false =>
      simp only [Bool.false_eq_true, if_false] at q9 ⊢
      exact wpAny_pure ⟨rfl, back I9 (.inl rfl) q9⟩
    | true =>
      simp only [if_true] at q9 ⊢
      exact wpAny_bind (thnF (pb.run _ s9 σ8 H9 Nx I9 q9) fun _ s10 ⟨H10, I10, nx⟩ => wpAny_pure ⟨rfl, back I10 (.inr rfl) nx⟩)
section
variable {Y : Cx} {elt : Expr} {te : TE}
/-- the item goes into the set -/
def tAddK (P : Program) (w : World) (D : Addr) (te : TE) : TB := fun σ H Nx => te σ H fun y H4 => ∃ (k : L2.Key) (L : List L2.Key), y = kV k ∧ H4 D = some (SetGO P w D L) ∧ L.length + 1 < scanBound ∧ Nx (upd H4 D (SetGO P w D (addK L k)))
theorem pb_add {D : Addr} (hx : Y.xe = fun _ _ => False) (he : PE Y elt te) : PB Y [] (restAdd elt Y.env (.ref D)) (tAddK Y.prog Y.w D te) := by
  refine ⟨fun pins s σ H Nx I h => ?_⟩
  have he' := he.run
  rw [hx] at he'
  unfold restAdd
  refine wpAny_bind (thnF (he' pins s σ H _ I h) fun u s1 ⟨y, H1, I1, r1, k, L, ey, hD, hz, nx⟩ => ?_)
  subst ey
  refine wpAny_bind (wpAny_standAt (wpAny_bind ?_))
  exact addG_ok I1 hD r1 hz fun s' I' => wpAny_pure ⟨_, I', nx⟩
/-- a second clause -/
def tIn (wi : TI) (g : TG) (tt : TT) (tb : TB) (vs : List Nat) : TB := fun σ H Nx => wi σ H fun J H4 => tLoop J g tt tb vs σ H4 Nx
theorem pb_in {elt t0 i0 t1 i1 : Expr} {ifs0 ifs1 : List Expr} {scope : Scope} {pos : Pos} {D : Addr} {wi : TI} {g : TG} {tt : TT} {tb : TB} {vs : List Nat} (hc : Y.calm = true) (hx : Y.xe = fun _ _ => False) (hi : PI Y t1 i1 wi) (pg : PG Y t1 g) (pt : PTs Y ifs1 tt) (pb : PB Y [] (restAdd elt Y.env (.ref D)) tb)
    (hs : ∀ x, foldedSetIterable i1 Y.env x = pure x) : PB Y vs (restGo (.SetComp elt [⟨t0, i0, ifs0, 0⟩, ⟨t1, i1, ifs1, 0⟩] scope pos) i1 Y.env (.ref D)) (tIn wi g tt tb vs) := by
  refine ⟨fun pins s σ H Nx I h => ?_⟩
  have hi' := hi.run
  rw [hx] at hi'
  unfold restGo
  refine wpAny_bind (thnF (hi' pins s σ H _ I h) fun xv s1 h1 => wpAny_bind (wpAny_standAt (wpAny_bind (wpAny_of_eq (hs xv) (wpAny_bind (wpAny_holding (thnF h1 fun itv s2 h2 => ?_)))))))
  obtain ⟨it, fp, tn, J, H2, e, I2, T, st2, f2, q⟩ := h2
  subst e
  refine wpAny_bind (wpAny_runOwn ?_)
  rw [Around.mark_none]
  have loop : codeAny (model Y.prog Y.w) Y.A (.compLoop (.SetComp elt [⟨t0, i0, ifs0, 0⟩, ⟨t1, i1, ifs1, 0⟩] scope pos) 1 (.ref it) (.ref D) Y.env) (fun r s' => match r with | .ok _ => ∃ H', Inv Y pins (wipe σ vs) H' s' ∧ Nx H' | .error _ => False) s2 :=
    loop_ok hc hx rfl rfl (turn_in elt t0 i0 t1 i1 ifs0 ifs1 scope pos (.ref it) (.ref D) Y.env) T pg pt pb (fun i h => nomatch h) (I2.weak (wipe_length _ _) fun j v e => (wipe_some e).1) st2 (fun b hb H' n => ⟨n, (f2 b hb).2⟩) (fun b hb => (f2 b hb).1) q fun H' s' I' n => ⟨H', I', n⟩
  have start : codeAny (model Y.prog Y.w) Y.A (.compStart (.SetComp elt [⟨t0, i0, ifs0, 0⟩, ⟨t1, i1, ifs1, 0⟩] scope pos) 1 (.ref it) (.ref D) Y.env) (fun r s' => match r with | .ok _ => ∃ H', Inv Y pins (wipe σ vs) H' s' ∧ Nx H' | .error _ => False) s2 := by
    have self := T.self Y.A 0 s2 (fun it' s' => codeAny (model Y.prog Y.w) Y.A (.compLoop (.SetComp elt [⟨t0, i0, ifs0, 0⟩, ⟨t1, i1, ifs1, 0⟩] scope pos) 1 it' (.ref D) Y.env) (fun r s' => match r with | .ok _ => ∃ H', Inv Y pins (wipe σ vs) H' s' ∧ Nx H' | .error _ => False) s')
      (notedBy (model Y.prog Y.w) Y.A Y.env fun x s' => False) st2 loop
    refine codeAny_of_tree ?_
    show wpAny _ _ ((compStart (.SetComp elt [⟨t0, i0, ifs0, 0⟩, ⟨t1, i1, ifs1, 0⟩] scope pos) 1 (.ref it) (.ref D) Y.env).onRaise (fun x => do noteFrame x Y.env; standAt theWindowsPlace)) _ _ s2
    refine wpAny_notedAt ?_
    unfold compStart
    show wpAny _ _ (ask >>= _) _ _ s2
    refine wpAny_bind (wpAny_askSetting (wpAny_ite ?_))
    split
    · first
        | exact wpAny_bind (wpAny_pure (wpAny_pure (And.intro rfl loop)))
        | exact wpAny_pure (And.intro rfl loop)
    · first
        | exact wpAny_bind (wpAny_rule (wpAny_bind (wpAny_standAt (wpAny_bind (wpAny_mono self (fun it' s' h' => wpAny_pure (And.intro rfl h')) fun _ _ x => x)))))
        | (refine wpAny_bind (wpAny_rule ?_); show wpAny _ _ (standAt i1.pos >>= _) _ _ s2; exact wpAny_bind (wpAny_standAt (wpAny_bind (wpAny_mono self (fun it' s' h' => wpAny_pure (And.intro rfl h')) fun _ _ x => x))))
  refine codeAny_mono start fun r s' hr => ?_
  cases r with
  | ok f => exact wpAny_pure hr
  | error e => exact hr.elim
end
end FD

set_option Elab.async false
set_option linter.all false
set_option maxRecDepth 100000
namespace FD
open PySem PySem.Spec PyProof.Rows L2
section
variable {X : Cx}
/-- a set comprehension: D the new set, tb what a turn does behind the first clause's tests -/
def tScG (P : Program) (w : World) (wi : TI) (g : TG) (tt : TT) (tb : Addr → TB) (vs : List Nat) : TE := fun σ H Q => wi σ H fun J H1 => ∀ D, H1 D = none → tLoop J g tt (tb D) vs σ (upd H1 D (SetGO P w D [])) (fun H' => Q (.ref D) H')
theorem pe_scG {elt tg iter : Expr} {ifs : List Expr} {more : List Comprehension} {scope : Scope} {own : List (PySem.Str × Nat)} {vb : List Nat} {pos : Pos} {wi : TI} {g : TG} {tt : TT} {tb : Addr → TB} {rest : Env → Addr → Sem Unit} (hc : X.calm = true) (hN : X.N.Nodup) (hi : PI X tg iter wi) (ok : BlkOk X.N X.env.scope scope own) (hv : ∀ i ∈ vb, i ∈ own.map (·.2))
    (hg : ∀ (s : Shared) (H : Hp) (C : Addr) (cl : List (PySem.Str × Addr)) (fp : List Addr), PG (X.blk s H scope (compEnvC scope cl C X.env) fp) tg g) (ht : ∀ (s : Shared) (H : Hp) (C : Addr) (cl : List (PySem.Str × Addr)) (fp : List Addr), PTs (X.blk s H scope (compEnvC scope cl C X.env) fp) ifs tt)
    (hb : ∀ (s : Shared) (H : Hp) (C : Addr) (cl : List (PySem.Str × Addr)) (fp : List Addr) (D : Addr), PB (X.blk s H scope (compEnvC scope cl C X.env) fp) vb (rest (compEnvC scope cl C X.env) D) (tb D))
    (hturn : ∀ it D env, compTurn (.SetComp elt (⟨tg, iter, ifs, 0⟩ :: more) scope pos) 0 (.ref it) (.ref D) env = turnOf iter.pos tg ifs (rest env D) (.SetComp elt (⟨tg, iter, ifs, 0⟩ :: more) scope pos) 0 (.ref it) (.ref D) env)
    (hev : eval (.SetComp elt (⟨tg, iter, ifs, 0⟩ :: more) scope pos) X.env = comprehension (.SetComp elt (⟨tg, iter, ifs, 0⟩ :: more) scope pos) scope X.env (firstIterPos (⟨tg, iter, ifs, 0⟩ :: more) pos) (newSet (.type "set")) false (eval iter X.env)) (hs : ∀ x, foldedSetIterable iter X.env x = pure x) :
    PE X (.SetComp elt (⟨tg, iter, ifs, 0⟩ :: more) scope pos) (tScG X.prog X.w wi g tt tb (own.map (·.2))) := by
  refine ⟨fun pins s σ H Q I h => ?_⟩
  rw [hev]
  have hfree : ∀ y ∈ scope.names, y.2 = .free → ∃ c, X.env.cells.lookup y.1 = some c := fun y hy e => (ok.free y hy e).elim (fun k => I.ok.has _ (.inl k)) fun k => I.ok.has _ (.inr k)
  refine wpAny_comprehension_free (use := none) rfl hs (closure_ok hfree) ok.kind (fun y hy e => by rw [ok.uniq y hy, e]) (thn (hi.run pins s σ H _ I h) fun xv s1 hx => thn hx fun itv s2 h2 => ?_)
  obtain ⟨it, fp, tn, J, H2, e, I2, T, st2, f2, q⟩ := h2
  subst e
  refine PpSet.newSet_ok (newEnv_comp ?_)
  generalize hD : s2.heap.objs.size = D
  have hDn : H2 D = none := I2.hok.fresh (Nat.le_of_eq hD)
  have q := q D hDn
  generalize hs3 : ({ s2 with heap := s2.heap.push { cls := .type "set", dict := none, data := .set #[] 0 (.fresh 0 0 (!X.w.params.followText "set-order")) } } : Shared) = s3
  have I3 : Inv X pins σ (upd H2 D (SetGO X.prog X.w D [])) s3 := by
    rw [← hs3]
    refine I2.laid (t' := s2.toks) (fun b o e => Heap.get?_push_of_some _ e) (Nat.le_of_eq hD) ?_
    rw [← hD]
    exact setGO_new setG_fresh
  have h3 : s3.heap = s2.heap.push { cls := .type "set", dict := none, data := .set #[] 0 (.fresh 0 0 (!X.w.params.followText "set-order")) } := by rw [← hs3]
  have f3 : ∀ b ∈ fp, FpOk X pins (upd H2 D (SetGO X.prog X.w D [])) b ∧ b < s3.heap.objs.size := fun b hb => by
    obtain ⟨o, e, _⟩ := T.obj _ _ st2 b hb
    have lt := Heap.lt_size e
    refine ⟨⟨?_, (f2 b hb).2⟩, by rw [h3, Heap.size_push]; exact Nat.lt_succ_of_lt lt⟩
    rw [upd_ne (by rw [← hD]; exact Nat.ne_of_lt lt)]
    exact (f2 b hb).1
  have st3 : tn 0 s3.heap := T.keep _ _ _ st2 fun b _ o e => by rw [h3]; exact Heap.get?_push_of_some _ e
  have I4 := block_start I3 ok hN f3
  generalize hcl : cellsFrom (s3.heap.objs.size + 1) scope.names (cloFrom X.env.cells scope.names []) = cl at I4 ⊢
  have pg := hg s3 (upd H2 D (SetGO X.prog X.w D [])) s3.heap.objs.size cl fp
  have pt := ht s3 (upd H2 D (SetGO X.prog X.w D [])) s3.heap.objs.size cl fp
  have pb := hb s3 (upd H2 D (SetGO X.prog X.w D [])) s3.heap.objs.size cl fp D
  show codeAny _ _ (.compStart (.SetComp elt (⟨tg, iter, ifs, 0⟩ :: more) scope pos) 0 (.ref it) (.ref D) (compEnvC scope cl s3.heap.objs.size X.env)) (compPost (model X.prog X.w) X.A X.xe none (EP X pins σ Q) (.ref D) s3.heap.objs.size) { s3 with heap := pushCells (s3.heap.push { cls := .type "dict", data := .dict #[] }) scope.names }
  have nfp : ∀ b ∈ fp, (upd H2 D (SetGO X.prog X.w D [])) b = none := fun b hb => (f3 b hb).1.1
  generalize hce : compEnvC scope cl s3.heap.objs.size X.env = ce at I4 pg pt pb ⊢
  have cL : ce.locals = s3.heap.objs.size := by subst hce; rfl
  generalize hH3 : upd H2 D (SetGO X.prog X.w D []) = H3 at I3 I4 pg pt pb q nfp f3
  generalize hs4 : ({ s3 with heap := pushCells (s3.heap.push { cls := .type "dict", data := .dict #[] }) scope.names } : Shared) = s4 at I4 ⊢
  have st4 : tn 0 s4.heap := T.keep _ _ _ st3 fun b _ o e => by rw [← hs4]; exact pushCells_keeps _ _ _ _ (Heap.get?_push_of_some _ e)
  have loop : codeAny (model X.prog X.w) X.A (.compLoop (.SetComp elt (⟨tg, iter, ifs, 0⟩ :: more) scope pos) 0 (.ref it) (.ref D) ce) (compPost (model X.prog X.w) X.A X.xe none (EP X pins σ Q) (.ref D) s3.heap.objs.size) s4 := by
    refine loop_ok (Y := X.blk s3 H3 scope ce fp) (σ := σ) hc rfl rfl rfl (hturn it D ce) T pg pt pb hv I4 st4 (fun b hb H' n => ⟨n, (I4.ok.exf b hb).1, I4.ok.exfs b hb, .inl hb, fun x c e => (I4.ok.exf b hb).2 x c e, fun p hp => absurd (show p ∈ ([] : List (Addr × Obj)) ++ [] from hp) (by simp)⟩) nfp q fun H5 s6 I6 qq => ?_
    have I7 : Inv X pins σ H5 s6 := I3.call' (ch := fp) I6.os I6.base I6.hok I6.bare fun b hb => ⟨(f3 b hb).1.2.2.2.1, (f3 b hb).1.2.1, (f3 b hb).1.2.2.2.2.1, (f3 b hb).1.2.2.2.2.2⟩
    have nC : H5 s3.heap.objs.size = none := by
      have z : H5 ce.locals = none := I6.free
      rw [cL] at z
      exact z
    obtain ⟨m, hn, _⟩ := I6.loc
    have hn : s6.heap.Ns ce.locals m := hn
    rw [cL] at hn
    have f := I3.fpOk (Nat.le_refl _) nC
    refine ⟨m, hn, fun h'' sb => ?_⟩
    obtain ⟨f0, f1, f2, f3, f4, f5⟩ := f
    exact ⟨.ref D, H5, I7.turned (t' := s6.toks) (fun b o hb e => (sb.2 b hb).trans e) f0 f1 f3 f4 f5, rfl, qq⟩
  exact PpSet.codeAny_compStart_set loop (T.self X.A 0 _ _ _ st4 loop)
end
end FD

set_option Elab.async false
set_option linter.all false
set_option maxRecDepth 100000
namespace FD
open PySem L2
/-! ### a thing under way beside the slots -/
def Fm.plus (Φ : Fm) (D : Addr) (o : HO) : Fm := ⟨upd Φ.H D o, Φ.G, Φ.pins⟩
section
variable {K : PySem.W.Frag} {ct : List Addr} {Φ : Fm} {G H : Hp} {σ : L2.St} {ρ : List Sl} {D : Addr} {o o' : HO}
theorem EnvS.into (E : EnvS K ct Φ G H σ ρ) (hD : H D = none) (hp : ∀ i, (i, D) ∉ Φ.pins) : EnvS K ct (Φ.plus D o) G (upd H D o) σ ρ where
  len := E.len
  gh := E.gh.trans (same_upd hD)
  g0 := E.g0
  fr := fun b x h n => by
    by_cases hb : b = D
    · subst hb; simp only [Fm.plus, upd_same] at h ⊢; exact h
    · have h' : Φ.H b = some x := by simpa only [Fm.plus, upd_ne hb] using h
      rw [upd_ne hb]; exact E.fr b x h' n
  dom := fun b x h => by
    by_cases hb : b = D
    · subst hb; exact ⟨o, upd_same⟩
    · have h' : Φ.H b = some x := by simpa only [Fm.plus, upd_ne hb] using h
      obtain ⟨y, e⟩ := E.dom b x h'
      exact ⟨y, by rw [upd_ne hb]; exact e⟩
  gn := fun b x h n => by
    by_cases hb : b = D
    · subst hb; exact E.gh.free hD
    · have h' : Φ.H b = some x := by simpa only [Fm.plus, upd_ne hb] using h
      exact E.gn b x h' n
  pin := E.pin
  sh := E.sh
  own := fun i d h => by
    obtain ⟨p, e, g, hr, h1, h2⟩ := E.own i d h
    obtain ⟨x, hx⟩ := hr.there
    have hp : p ≠ D := fun z => by rw [z, hD] at hx; cases hx
    exact ⟨p, e, g, hr.mono (Same.refl _) (upd_ne hp), h1, fun z => by simp only [Fm.plus, upd_ne hp]; exact h2 z⟩
  ne := E.ne
theorem EnvS.here (E : EnvS K ct (Φ.plus D o) G H σ ρ) (hp : ∀ i, (i, D) ∉ Φ.pins) : H D = some o := E.fr D o (by simp only [Fm.plus, upd_same]) hp
theorem EnvS.hid (E : EnvS K ct (Φ.plus D o) G H σ ρ) (hg : Φ.G D = none) : G D = none := E.gn D o (by simp only [Fm.plus, upd_same]) hg
theorem EnvS.apart (E : EnvS K ct (Φ.plus D o) G H σ ρ) (hp : ∀ i, (i, D) ∉ Φ.pins) {i : Nat} {d : FD.D} (h : isOwn ρ[i]? = some d) {p : Addr} (e : σ[i]? = some (some (.ref p))) : p ≠ D := by
  obtain ⟨q, e2, _, _, h1, h2⟩ := E.own i d h
  rw [e] at e2; cases e2
  intro z
  subst z
  cases hs : ρ[i]? with
  | none => rw [hs] at h; cases h
  | some s =>
    rw [hs] at h h1 h2
    cases s with
    | ow d2 => cases h; have := h2 rfl; simp only [Fm.plus, upd_same] at this; cases this
    | pn d2 => cases h; exact hp i (h1 rfl)
    | un => cases h
    | sh d2 => cases h
theorem EnvS.turn (E : EnvS K ct (Φ.plus D o) G H σ ρ) (hg : Φ.G D = none) (hp : ∀ i, (i, D) ∉ Φ.pins) : EnvS K ct (Φ.plus D o') G (upd H D o') σ ρ where
  len := E.len
  gh := fun b x e => by
    have hb : b ≠ D := fun z => by rw [z, E.hid hg] at e; cases e
    rw [upd_ne hb]; exact E.gh b x e
  g0 := E.g0
  fr := fun b x h n => by
    by_cases hb : b = D
    · subst hb; simp only [Fm.plus, upd_same] at h ⊢; exact h
    · rw [upd_ne hb]
      exact E.fr b x (by simpa only [Fm.plus, upd_ne hb] using h) n
  dom := fun b x h => by
    by_cases hb : b = D
    · subst hb; exact ⟨o', upd_same⟩
    · obtain ⟨y, e⟩ := E.dom b x (by simpa only [Fm.plus, upd_ne hb] using h)
      exact ⟨y, by rw [upd_ne hb]; exact e⟩
  gn := fun b x h n => by
    by_cases hb : b = D
    · subst hb; exact E.hid hg
    · exact E.gn b x (by simpa only [Fm.plus, upd_ne hb] using h) n
  pin := E.pin
  sh := E.sh
  own := fun i d h => by
    obtain ⟨p, e, g, hr, h1, h2⟩ := E.own i d h
    have hpD := E.apart hp h e
    exact ⟨p, e, g, hr.mono (Same.refl _) (upd_ne hpD), h1, fun z => by have := h2 z; simpa only [Fm.plus, upd_ne hpD] using this⟩
  ne := E.ne
theorem EnvS.out (E : EnvS K ct (Φ.plus D o) G H σ ρ) (h0 : Φ.H D = none) : EnvS K ct Φ G H σ ρ where
  len := E.len
  gh := E.gh
  g0 := E.g0
  fr := fun b x h n => E.fr b x (by have hb : b ≠ D := fun z => by rw [z, h0] at h; cases h
                                    simpa only [Fm.plus, upd_ne hb] using h) n
  dom := fun b x h => E.dom b x (by have hb : b ≠ D := fun z => by rw [z, h0] at h; cases h
                                    simpa only [Fm.plus, upd_ne hb] using h)
  gn := fun b x h n => E.gn b x (by have hb : b ≠ D := fun z => by rw [z, h0] at h; cases h
                                    simpa only [Fm.plus, upd_ne hb] using h) n
  pin := E.pin
  sh := E.sh
  own := fun i d h => by
    obtain ⟨p, e, g, hr, h1, h2⟩ := E.own i d h
    refine ⟨p, e, g, hr, h1, fun z => ?_⟩
    have := h2 z
    by_cases hb : p = D
    · rw [hb]; exact h0
    · simpa only [Fm.plus, upd_ne hb] using this
  ne := E.ne
end
/-! ### keys -/
def keyD : D → Option L2.Key
  | .int i => some (.inl i)
  | .str x => some (.inr x)
  | _ => none
def keysD : List D → Option (List L2.Key)
  | [] => some []
  | d :: ds => (keyD d).bind fun k => (keysD ds).map fun ks => k :: ks
def foldK (ks : List L2.Key) : List L2.Key := ks.foldl addK []
theorem foldK_snoc (ks : List L2.Key) (k : L2.Key) : foldK (ks ++ [k]) = addK (foldK ks) k := by unfold foldK; rw [List.foldl_append]; rfl
theorem addK_len (L : List L2.Key) (k : L2.Key) : (addK L k).length ≤ L.length + 1 := by unfold addK; split <;> simp
theorem foldK_len (ks : List L2.Key) : (foldK ks).length ≤ ks.length := by
  have : ∀ (ks L : List L2.Key), (ks.foldl addK L).length ≤ L.length + ks.length := by
    intro ks
    induction ks with
    | nil => intro L; simp
    | cons k ks ih => intro L; have := ih (addK L k); have := addK_len L k; simp only [List.foldl_cons, List.length_cons]; omega
  have z := this ks []
  unfold foldK
  simpa using z
theorem keysD_append : ∀ {xs ys : List D} {js : List L2.Key}, keysD (xs ++ ys) = some js → ∃ a b, keysD xs = some a ∧ keysD ys = some b ∧ js = a ++ b
  | [], ys, js, h => ⟨[], js, rfl, h, rfl⟩
  | x :: xs, ys, js, h => by
    simp only [List.cons_append, keysD, Option.bind_eq_some_iff, Option.map_eq_some_iff] at h
    obtain ⟨k, hk, ks, hks, rfl⟩ := h
    obtain ⟨a, b, h1, h2, rfl⟩ := keysD_append hks
    exact ⟨k :: a, b, by simp [keysD, hk, h1], h2, rfl⟩
theorem keyD_rel {K : PySem.W.Frag} {ct : List Addr} {G : Hp} {v : V} {d : D} {k : L2.Key} (r : R K ct G v d) (h : keyD d = some k) : v = kV k := by
  cases r with
  | int i => cases h; rfl
  | str x => cases h; rfl
  | _ => cases h
/-! ### the denotation of a clause -/
def itB (m : Tg) (c : DM Bool) (b : DM (List D)) (d : D) : DM (List D) := fun ρ => match m d ρ with
  | none => none
  | some ρ1 => bnd c (fun k => if k then b else ret []) ρ1
def scL (vs : List Nat) (m : Tg) (c : DM Bool) (b : DM (List D)) : List D → DM (List D)
  | [] => ret []
  | d :: ds => fun ρ => match itB m c b d ρ with
    | some (.ok ys ρ') => if plainAt ρ' vs then bnd (scL vs m c b ds) (fun zs => ret (ys ++ zs)) (wipeS ρ' vs) else none
    | _ => none
def addB (e : DM D) : DM (List D) := bnd e fun y => ret [y]
def inB (vs : List Nat) (t : DM (List D)) (m : Tg) (c : DM Bool) (b : DM (List D)) : DM (List D) := bnd t fun ds ρ => if plainAt ρ vs then scL vs m c b ds (wipeS ρ vs) else none
theorem bnd_ok {α β : Type} {t : DM α} {f : α → DM β} {ρ ρ' : List Sl} {y : β} (h : bnd t f ρ = some (.ok y ρ')) : ∃ a ρ1, t ρ = some (.ok a ρ1) ∧ f a ρ1 = some (.ok y ρ') := by
  unfold bnd at h
  cases e : t ρ with
  | none => rw [e] at h; cases h
  | some o =>
    rw [e] at h
    cases o with
    | ok a ρ1 => exact ⟨a, ρ1, rfl, h⟩
    | ex x ρ1 => cases h
section
variable {P : Program} {w : World} {K : PySem.W.Frag} {ct : List Addr}
/-- what a turn's rest does to the slots and to the set at D -/
def tSB (P : Program) (w : World) (K : PySem.W.Frag) (ct : List Addr) (vb : List Nat) (b : DM (List D)) (D : Addr) : TB := fun σ H Nx => ∃ (Φ : Fm) (G : Hp) (ρ : List Sl) (ks : List L2.Key), Φ.G D = none ∧ (∀ i, (i, D) ∉ Φ.pins) ∧ EnvS K ct (Φ.plus D (SetGO P w D (foldK ks))) G H σ ρ ∧ ∃ (ys : List FD.D) (ρ' : List Sl) (js : List L2.Key), b ρ = some (.ok ys ρ') ∧ keysD ys = some js ∧ ks.length + js.length < 4095 ∧
  ∀ G' H', Same G G' → EnvS K ct (Φ.plus D (SetGO P w D (foldK (ks ++ js)))) G' H' (wipe σ vb) ρ' → Nx H'
theorem sB_add {e : DM D} {D : Addr} {σ : L2.St} {H : Hp} {Nx : Hp → Prop} (h : tSB P w K ct [] (addB e) D σ H Nx) : tAddK P w D (tD K ct W0 e) σ H Nx := by
  obtain ⟨Φ, G, ρ, ks, hg, hp, E, ys, ρ', js, hb, hk, hz, k⟩ := h
  obtain ⟨y, ρ1, he, hr⟩ := bnd_ok hb
  cases hr
  simp only [keysD, Option.bind_eq_some_iff, Option.map_some] at hk
  obtain ⟨kk, hk1, hk2⟩ := hk
  cases hk2
  refine ⟨_, G, ρ, E, ?_⟩
  rw [he]
  intro G' H' s E' v r
  have l := foldK_len ks
  refine ⟨kk, foldK ks, keyD_rel r hk1, E'.here hp, by unfold PySem.scanBound; simp only [List.length_cons, List.length_nil] at hz; omega, ?_⟩
  rw [← foldK_snoc]
  exact k G' _ s (E'.turn hg hp)
theorem sB_loop {D : Addr} {vs vb : List Nat} {m : Tg} {c : DM Bool} {b : DM (List FD.D)} {tb : TB} (hb : ∀ σ H Nx, tSB P w K ct vb b D σ H Nx → tb σ H Nx) (hv : ∀ i ∈ vb, i ∈ vs) {Φ : Fm} (hg : Φ.G D = none) (hp : ∀ i, (i, D) ∉ Φ.pins)
    {G H : Hp} {σ : L2.St} {ρ ρ' : List Sl} {ks js : List L2.Key} {ds zs : List FD.D} {J : It} (E : EnvS K ct (Φ.plus D (SetGO P w D (foldK ks))) G H (wipe σ vs) ρ) (hJ : ItD K ct G J ds) (hs : scL vs m c b ds ρ = some (.ok zs ρ')) (hk : keysD zs = some js) (hz : ks.length + js.length < 4095)
    {Fin : Hp → Prop} (fin : ∀ G' H', Same G G' → EnvS K ct (Φ.plus D (SetGO P w D (foldK (ks ++ js)))) G' H' (wipe σ vs) ρ' → Fin H') : tLoop J (tGw K ct vs m) (tTD K ct W0 c) tb vs σ H Fin := by
  refine ⟨fun i n H' => n = ds.length - i ∧ i ≤ ds.length ∧ ∃ G' ρ1 ks1 zs1 js1, Same G G' ∧ EnvS K ct (Φ.plus D (SetGO P w D (foldK ks1))) G' H' (wipe σ vs) ρ1 ∧ scL vs m c b (ds.drop i) ρ1 = some (.ok zs1 ρ') ∧ keysD zs1 = some js1 ∧ ks1 ++ js1 = ks ++ js,
    ⟨ds.length, by omega, Nat.zero_le _, G, ρ, ks, zs, js, Same.refl _, E, hs, hk, rfl⟩, ?_⟩
  rintro i n H2 ⟨rfl, hi, G2, ρ2, ks2, zs2, js2, s2, E2, h2, k2, e2⟩
  by_cases hlt : i < ds.length
  · have hd : ds[i]? = some ds[i] := List.getElem?_eq_getElem hlt
    rw [List.drop_eq_getElem_cons hlt] at h2
    obtain ⟨go, yl⟩ := (hJ i G2 H2 s2 E2.gh).1 _ hd
    unfold scL at h2
    cases hit : itB m c b ds[i] ρ2 with
    | none => rw [hit] at h2; cases h2
    | some oo =>
      rw [hit] at h2
      cases oo with
      | ex _ _ => cases h2
      | ok ys ρ6 =>
        simp only at h2
        split at h2
        case isFalse => cases h2
        rename_i pl6
        obtain ⟨zs3, ρ7, h7, h8⟩ := bnd_ok h2
        cases h8
        obtain ⟨jy, jz, ky, kz, rfl⟩ := keysD_append k2
        refine .inr ⟨go, fun H' => ∃ G' ρ1 ks1 zs1 js1, Same G G' ∧ EnvS K ct (Φ.plus D (SetGO P w D (foldK ks1))) G' H' (wipe σ vs) ρ1 ∧ scL vs m c b (ds.drop (i + 1)) ρ1 = some (.ok zs1 ρ') ∧ keysD zs1 = some js1 ∧ ks1 ++ js1 = ks ++ js,
          fun H' h => ⟨ds.length - (i + 1), by omega, rfl, hlt, h⟩, fun x H3 hx => ?_⟩
        obtain ⟨G3, ex, rx⟩ := yl x H3 hx
        have E3 := E2.ext ex
        unfold itB at hit
        cases em : m ds[i] ρ2 with
        | none => rw [em] at hit; cases hit
        | some ρ3 =>
          rw [em] at hit
          obtain ⟨kb, ρ5, hc, hr⟩ := bnd_ok hit
          refine ⟨_, G3, ρ2, _, ρ3, E3, rx, em, fun σ4 G4 H4 s4 E4 l4 k4 => ?_⟩
          have w4 : wipe σ4 vs = wipe σ vs := (wipe_eq l4 k4).trans (wipe_wipe σ vs)
          refine ⟨w4, _, G4, ρ3, E4, ?_⟩
          rw [hc]
          intro G5 H5 s5 E5
          have sm : Same G G5 := s2.trans (ex.gg.trans (s4.trans s5))
          have back : ∀ (vx : List Nat) (ksx : List L2.Key) (G6 H6 : Hp), (∀ i ∈ vx, i ∈ vs) → Same G5 G6 → EnvS K ct (Φ.plus D (SetGO P w D (foldK ksx))) G6 H6 (wipe σ4 vx) ρ6 → EnvS K ct (Φ.plus D (SetGO P w D (foldK ksx))) G6 H6 (wipe σ vs) (wipeS ρ6 vs) := fun vx ksx G6 H6 hvx s6 E6 => by
            have E7 := E6.wipe pl6
            have : wipe (wipe σ4 vx) vs = wipe σ vs := by
              rw [← w4]
              exact wipe_eq (wipe_length _ _) fun j hj => wipe_out fun z => hj (hvx j z)
            rw [this] at E7
            exact E7
          cases kb with
          | false =>
            refine iteF ?_
            cases hr
            cases ky
            refine ⟨G5, _, ks2, zs3, jz, sm, back [] ks2 G5 H5 (fun i h => nomatch h) (Same.refl _) E5, h7, kz, by simpa using e2⟩
          | true =>
            refine iteT (hb _ _ _ ⟨Φ, G5, ρ5, ks2, hg, hp, E5, ys, ρ6, jy, hr, ky, ?_, fun G6 H6 s6 E6 => ?_⟩)
            · have := congrArg List.length e2
              simp only [List.length_append] at this
              omega
            · exact ⟨G6, _, ks2 ++ jy, zs3, jz, sm.trans s6, back vb _ G6 H6 hv s6 E6, h7, kz, by rw [List.append_assoc]; exact e2⟩
  · rw [List.drop_eq_nil_of_le (by omega)] at h2
    cases h2
    cases k2
    rw [List.append_nil] at e2
    subst e2
    exact .inl ⟨(hJ i G2 H2 s2 E2.gh).2 (by omega), fin G2 H2 s2 E2⟩
theorem sB_in {D : Addr} {vs : List Nat} {t : DM (List FD.D)} {m : Tg} {c : DM Bool} {b : DM (List FD.D)} {tb : TB} (hb : ∀ σ H Nx, tSB P w K ct [] b D σ H Nx → tb σ H Nx) {σ : L2.St} {H : Hp} {Nx : Hp → Prop} (h : tSB P w K ct vs (inB vs t m c b) D σ H Nx) :
    tIn (tI K ct W0 t) (tGw K ct vs m) (tTD K ct W0 c) tb vs σ H Nx := by
  obtain ⟨Φ, G, ρ, ks, hg, hp, E, ys, ρ', js, hr, hk, hz, k⟩ := h
  obtain ⟨ds, ρ1, ht, hr⟩ := bnd_ok hr
  split at hr
  case isFalse => cases hr
  rename_i pl
  refine ⟨_, G, ρ, E, ?_⟩
  rw [ht]
  intro G' H' s E' J hJ
  exact sB_loop hb (fun i h => nomatch h) hg hp (E'.wipe pl) hJ hr hk hz fun G2 H2 s2 E2 => k G2 H2 (s.trans s2) E2
end
end FD

set_option Elab.async false
set_option linter.all false
set_option maxRecDepth 100000
namespace FD
open PySem L2
/-! ### sorted({..}) -/
def uniqT {α : Type} [DecidableEq α] (acc xs : List α) : List α := xs.foldl (fun acc x => if (acc.any fun y => decide (y = x)) = true then acc else acc ++ [x]) acc
def uniq {α : Type} [DecidableEq α] (xs : List α) : List α := uniqT [] xs
def intsOf : List D → Option (List Int)
  | [] => some []
  | .int i :: ds => (intsOf ds).map fun is => i :: is
  | _ => none
def leS' (a b : Str) : Bool := decide (a.cps.toList ≤ b.cps.toList)
def sortI (is : List Int) : List Int := (uniq is).mergeSort fun a b => decide (a ≤ b)
def sortT (ss : List Str) : List Str := (uniq ss).mergeSort leS'
def sortZ (zs : List D) : Option Sl := if zs.length < 4095 then (match intsOf zs with
  | some is => some (.ow (.lst ((sortI is).map .int)))
  | none => (strsOf zs).map fun ss => .ow (.lst ((sortT ss).map .str))) else none
theorem foldK_map {α : Type} [DecidableEq α] (f : α → L2.Key) (hf : ∀ a b, f a = f b → a = b) : ∀ (xs acc : List α), (xs.map f).foldl addK (acc.map f) = (uniqT acc xs).map f
  | [], acc => rfl
  | x :: xs, acc => by
    have e : hasK (acc.map f) (f x) = acc.any fun y => decide (y = x) := by
      unfold hasK
      rw [List.any_map]
      congr 1
      funext y
      simp only [Function.comp]
      exact decide_eq_decide.mpr ⟨hf y x, fun h => by rw [h]⟩
    have e2 : addK (acc.map f) (f x) = (if (acc.any fun y => decide (y = x)) = true then acc else acc ++ [x]).map f := by
      unfold addK
      rw [e]
      split <;> simp
    show ((xs.map f).foldl addK (addK (acc.map f) (f x))) = (uniqT (if (acc.any fun y => decide (y = x)) = true then acc else acc ++ [x]) xs).map f
    rw [e2]
    exact foldK_map f hf xs _
theorem keys_ints : ∀ {zs : List D} {is : List Int}, intsOf zs = some is → keysD zs = some (is.map Sum.inl)
  | [], is, h => by cases h; rfl
  | .int i :: ds, is, h => by
    simp only [intsOf, Option.map_eq_some_iff] at h
    obtain ⟨js, h1, rfl⟩ := h
    simp only [keysD, keyD, Option.bind_some, keys_ints h1, Option.map_some, List.map_cons]
  | .non :: _, _, h => by cases h
  | .bl _ :: _, _, h => by cases h
  | .str _ :: _, _, h => by cases h
  | .tup _ :: _, _, h => by cases h
  | .lst _ :: _, _, h => by cases h
  | .obj _ _ :: _, _, h => by cases h
  | .scr _ :: _, _, h => by cases h
  | .opq _ :: _, _, h => by cases h
  | .cls _ :: _, _, h => by cases h
theorem keys_strs : ∀ {zs : List D} {ss : List Str}, strsOf zs = some ss → keysD zs = some (ss.map Sum.inr)
  | [], is, h => by cases h; rfl
  | .str i :: ds, is, h => by
    simp only [strsOf, Option.map_eq_some_iff] at h
    obtain ⟨js, h1, rfl⟩ := h
    simp only [keysD, keyD, Option.bind_some, keys_strs h1, Option.map_some, List.map_cons]
  | .non :: _, _, h => by cases h
  | .bl _ :: _, _, h => by cases h
  | .int _ :: _, _, h => by cases h
  | .tup _ :: _, _, h => by cases h
  | .lst _ :: _, _, h => by cases h
  | .obj _ _ :: _, _, h => by cases h
  | .scr _ :: _, _, h => by cases h
  | .opq _ :: _, _, h => by cases h
  | .cls _ :: _, _, h => by cases h
theorem keysD_len : ∀ {zs : List D} {js : List L2.Key}, keysD zs = some js → js.length = zs.length
  | [], js, h => by cases h; rfl
  | z :: zs, js, h => by
    simp only [keysD, Option.bind_eq_some_iff, Option.map_eq_some_iff] at h
    obtain ⟨k, _, ks, h2, rfl⟩ := h
    simp [keysD_len h2]
theorem dle_int : PySem.W.dataLe false intsK.enc = fun a b => decide (a ≤ b) := PySem.W.dataLe_int id
theorem dle_str : PySem.W.dataLe false strsK.enc = leS' := PySem.W.dataLe_str id
theorem Rs.ints {K : PySem.W.Frag} {ct : List Addr} {G : Hp} : ∀ is : List Int, Rs K ct G (is.map V.int) (is.map D.int)
  | [] => .nil
  | i :: is => .cons (.int i) (Rs.ints is)
def ssM (vs : List Nat) (t : DM (List D)) (m : Tg) (c : DM Bool) (b : DM (List D)) : DM Sl := bnd t fun ds ρ => if plainAt ρ vs then (match scL vs m c b ds (wipeS ρ vs) with
    | some (.ok zs ρ') => (match sortZ zs with
      | some sl => some (.ok sl (restS ρ vs ρ'))
      | none => none)
    | _ => none) else none
section
variable {X : Cx} {ct : List Addr} {W : WX}
theorem CallR.or {f : Value} {r r' : List V → Hp → VK → Prop} (h : CallR X f r) (h' : CallR X f r') : CallR X f (fun xs H Q => r xs H Q ∨ r' xs H Q) := fun pins s σ H xs us Q I v q => q.elim (h pins s σ H xs us Q I v) (h' pins s σ H xs us Q I v)
theorem tSsF {vs vb : List Nat} {t : DM (List D)} {m : Tg} {c : DM Bool} {b : DM (List D)} {tb : Addr → TB} (hb : ∀ D σ H Nx, tSB X.prog X.w X.K ct vb b D σ H Nx → tb D σ H Nx) (hv : ∀ i ∈ vb, i ∈ vs) {σ : L2.St} {H : Hp} {Q : VK} (q : tF X.K ct W (ssM vs t m c b) σ H Q) :
    tScG X.prog X.w (tI X.K ct W t) (tGw X.K ct vs m) (tTD X.K ct W0 c) tb vs σ H (fun v H1 => (rSortG X.prog X.w intsK [v] H1 Q) ∨ rSortG X.prog X.w strsK [v] H1 Q) := by
  obtain ⟨Φ, G, ρ, E, q⟩ := q
  refine ⟨Φ, G, ρ, E, (Post.bnd q).imp fun ds ρ1 G1 H1 s1 E1 q1 J hJ D hD => ?_⟩
  have q2 := q1.2
  by_cases hpl : plainAt ρ1 vs = true
  case neg => rw [if_neg hpl] at q2; exact q2.elim
  rw [if_pos hpl] at q2
  cases hs : scL vs m c b ds (wipeS ρ1 vs) with
  | none => rw [hs] at q2; exact q2.elim
  | some oo =>
    rw [hs] at q2
    cases oo with
    | ex _ _ => exact q2.elim
    | ok zs ρ2 =>
      simp only at q2
      cases hz : sortZ zs with
      | none => rw [hz] at q2; exact q2.elim
      | some sl =>
        rw [hz] at q2
        have fD : Φ.H D = none := by
          cases z : Φ.H D with
          | none => rfl
          | some o => obtain ⟨o', y⟩ := E1.dom D o z; rw [hD] at y; cases y
        have gD : Φ.G D = none := by
          cases z : Φ.G D with
          | none => rfl
          | some o => have := E1.gh D o (E1.g0 D o z); rw [hD] at this; cases this
        have pD : ∀ i, (i, D) ∉ Φ.pins := fun i z => by
          obtain ⟨e1, d, e2⟩ := E1.pin i D z
          obtain ⟨o, ho⟩ := E1.ownH (j := i) (d := d) (by rw [e2]; rfl) e1
          rw [hD] at ho; cases ho
        unfold sortZ at hz
        split at hz
        case isFalse => cases hz
        rename_i lz
        have go : ∀ (js : List L2.Key) (G2 H2 : Hp), Same G1 G2 → EnvS X.K ct (Φ.plus D (SetGO X.prog X.w D (foldK ([] ++ js)))) G2 H2 (wipe σ vs) ρ2 → ∀ (p : Addr) (vs2 : List V) (ds2 : List FD.D), H2 p = none → Rs X.K ct G2 vs2 ds2 → sl = .ow (.lst ds2) → Q (.ref p) (upd H2 p (.lst vs2)) := by
          intro js G2 H2 s2 E2 p vs2 ds2 hp rs e
          subst e
          have E3 := E1.restore hpl s2 (E2.out fD)
          have x : Ext G2 H2 G2 (upd H2 p (.lst vs2)) := .own E3.gh hp
          refine q2 G2 _ s2 (E3.ext x) _ (RN.rf (H := H2) ?_ E3)
          exact ⟨p, rfl, hp, E3.gh.free hp, vs2, upd_same, rs⟩
        have start : ∀ (js : List L2.Key), keysD zs = some js → (∀ G2 H2, Same G1 G2 → EnvS X.K ct (Φ.plus D (SetGO X.prog X.w D (foldK ([] ++ js)))) G2 H2 (wipe σ vs) ρ2 → rSortG X.prog X.w intsK [.ref D] H2 Q ∨ rSortG X.prog X.w strsK [.ref D] H2 Q) →
            tLoop J (tGw X.K ct vs m) (tTD X.K ct W0 c) (tb D) vs σ (upd H1 D (SetGO X.prog X.w D [])) (fun H' => rSortG X.prog X.w intsK [.ref D] H' Q ∨ rSortG X.prog X.w strsK [.ref D] H' Q) := fun js hk fin =>
          sB_loop (hb D) hv gD pD (ks := []) ((E1.wipe hpl).into hD pD) hJ hs hk (by rw [keysD_len hk]; simpa using lz) fin
        cases hi : intsOf zs with
        | some is =>
          rw [hi] at hz
          cases hz
          refine start _ (keys_ints hi) fun G2 H2 s2 E2 => .inl ⟨D, uniq is, rfl, ?_, fun p hp => ?_⟩
          · rw [E2.here pD]
            have := foldK_map (Sum.inl : Int → L2.Key) (fun a b e => Sum.inl.inj e) is []
            show some (SetGO X.prog X.w D (foldK (is.map Sum.inl))) = some (SetGO X.prog X.w D ((uniq is).map Sum.inl))
            unfold foldK uniq
            rw [← this]; rfl
          · rw [dle_int]
            exact go _ G2 H2 s2 E2 p _ _ hp (Rs.ints (sortI is)) rfl
        | none =>
          rw [hi] at hz
          simp only [Option.map_eq_some_iff] at hz
          obtain ⟨ss, hss, rfl⟩ := hz
          refine start _ (keys_strs hss) fun G2 H2 s2 E2 => .inr ⟨D, uniq ss, rfl, ?_, fun p hp => ?_⟩
          · rw [E2.here pD]
            have := foldK_map (Sum.inr : Str → L2.Key) (fun a b e => Sum.inr.inj e) ss []
            show some (SetGO X.prog X.w D (foldK (ss.map Sum.inr))) = some (SetGO X.prog X.w D ((uniq ss).map Sum.inr))
            unfold foldK uniq
            rw [← this]; rfl
          · rw [dle_str]
            exact go _ G2 H2 s2 E2 p _ _ hp (Rs.strs (sortT ss)) rfl
/-- sorted({elt for tg in iter if ..}) -/
theorem fSs1 (own : List (Str × Nat)) {elt tg iter : Expr} {ifs : List Expr} {scope : Scope} {pos p cpos : Pos} {t : DM (List D)} {m : Tg} {c : DM Bool} {e : DM D} (hc : X.calm = true) (hu : X.A.units + 64 < cLine) (hN : X.N.Nodup) (hm : X.mg "sorted" = none) (hi : PID X ct W tg iter t) (ok : BlkOk X.N X.env.scope scope own)
    (hg : ∀ (s : Shared) (H : Hp) (C : Addr) (cl : List (Str × Addr)) (fp : List Addr), PGw (X.blk s H scope (compEnvC scope cl C X.env) fp) ct (own.map (·.2)) tg m)
    (ht : ∀ (s : Shared) (H : Hp) (C : Addr) (cl : List (Str × Addr)) (fp : List Addr), PTsD (X.blk s H scope (compEnvC scope cl C X.env) fp) ct W0 ifs c)
    (he : ∀ (s : Shared) (H : Hp) (C : Addr) (cl : List (Str × Addr)) (fp : List Addr), PED (X.blk s H scope (compEnvC scope cl C X.env) fp) ct W0 elt e)
    (hs : ∀ x, foldedSetIterable iter X.env x = pure x := by intro _; rfl) (hgl : Gl X "sorted" := by rfl) :
    PEF X ct W (.Call (.Name "sorted" p) [.SetComp elt [⟨tg, iter, ifs, 0⟩] scope pos] [] cpos) (ssM (own.map (·.2)) t m c (addB e)) := by
  have pe := pe_scG (X := X) (own := own) (vb := []) (pos := pos) (g := tGw X.K ct (own.map (·.2)) m) (tt := tTD X.K ct W0 c) (tb := fun D => tAddK X.prog X.w D (tD X.K ct W0 e)) (rest := fun env D => restAdd elt env (.ref D)) hc hN hi ok (fun i h => nomatch h) hg ht (fun s H C cl fp D => pb_add rfl (he s H C cl fp))
    (fun it D env => turn_one elt tg iter ifs scope pos (.ref it) (.ref D) env) rfl hs
  refine weakE (pe_callB (CallR.or (cr_sortG intsK hc hu) (cr_sortG strsK hc hu)) hgl hm rfl (pa_cons pe pa_nil)) fun σ H Q q => ?_
  exact tSsF (fun D σ H Nx h => sB_add h) (fun i h => nomatch h) q
/-- sorted({elt for tg in iter if .. for tg1 in iter1 if ..}) -/
theorem fSs2 (own : List (Str × Nat)) (vs1 : List Nat) {elt tg iter tg1 iter1 : Expr} {ifs ifs1 : List Expr} {scope : Scope} {pos p cpos : Pos} {t t1 : DM (List D)} {m m1 : Tg} {c c1 : DM Bool} {e : DM D} (hc : X.calm = true) (hu : X.A.units + 64 < cLine) (hN : X.N.Nodup) (hm : X.mg "sorted" = none) (hi : PID X ct W tg iter t) (ok : BlkOk X.N X.env.scope scope own) (hv : ∀ i ∈ vs1, i ∈ own.map (·.2))
    (hg : ∀ (s : Shared) (H : Hp) (C : Addr) (cl : List (Str × Addr)) (fp : List Addr), PGw (X.blk s H scope (compEnvC scope cl C X.env) fp) ct (own.map (·.2)) tg m)
    (ht : ∀ (s : Shared) (H : Hp) (C : Addr) (cl : List (Str × Addr)) (fp : List Addr), PTsD (X.blk s H scope (compEnvC scope cl C X.env) fp) ct W0 ifs c)
    (hi1 : ∀ (s : Shared) (H : Hp) (C : Addr) (cl : List (Str × Addr)) (fp : List Addr), PID (X.blk s H scope (compEnvC scope cl C X.env) fp) ct W0 tg1 iter1 t1)
    (hg1 : ∀ (s : Shared) (H : Hp) (C : Addr) (cl : List (Str × Addr)) (fp : List Addr), PGw (X.blk s H scope (compEnvC scope cl C X.env) fp) ct vs1 tg1 m1)
    (ht1 : ∀ (s : Shared) (H : Hp) (C : Addr) (cl : List (Str × Addr)) (fp : List Addr), PTsD (X.blk s H scope (compEnvC scope cl C X.env) fp) ct W0 ifs1 c1)
    (he : ∀ (s : Shared) (H : Hp) (C : Addr) (cl : List (Str × Addr)) (fp : List Addr), PED (X.blk s H scope (compEnvC scope cl C X.env) fp) ct W0 elt e)
    (hs : ∀ x, foldedSetIterable iter X.env x = pure x := by intro _; rfl) (hs1 : ∀ env x, foldedSetIterable iter1 env x = pure x := by intro _ _; rfl) (hgl : Gl X "sorted" := by rfl) :
    PEF X ct W (.Call (.Name "sorted" p) [.SetComp elt [⟨tg, iter, ifs, 0⟩, ⟨tg1, iter1, ifs1, 0⟩] scope pos] [] cpos) (ssM (own.map (·.2)) t m c (inB vs1 t1 m1 c1 (addB e))) := by
  have pe := pe_scG (X := X) (own := own) (vb := vs1) (pos := pos) (g := tGw X.K ct (own.map (·.2)) m) (tt := tTD X.K ct W0 c) (tb := fun D => tIn (tI X.K ct W0 t1) (tGw X.K ct vs1 m1) (tTD X.K ct W0 c1) (tAddK X.prog X.w D (tD X.K ct W0 e)) vs1) (rest := fun env D => restGo (.SetComp elt [⟨tg, iter, ifs, 0⟩, ⟨tg1, iter1, ifs1, 0⟩] scope pos) iter1 env (.ref D)) hc hN hi ok hv hg ht
    (fun s H C cl fp D => pb_in hc rfl (hi1 s H C cl fp) (hg1 s H C cl fp) (ht1 s H C cl fp) (pb_add rfl (he s H C cl fp)) (hs1 _))
    (fun it D env => turn_out elt tg iter tg1 iter1 ifs ifs1 scope pos (.ref it) (.ref D) env) rfl hs
  refine weakE (pe_callB (CallR.or (cr_sortG intsK hc hu) (cr_sortG strsK hc hu)) hgl hm rfl (pa_cons pe pa_nil)) fun σ H Q q => ?_
  exact tSsF (fun D σ H Nx h => sB_in (fun σ H Nx h => sB_add h) h) hv q
end
end FD

set_option Elab.async false
set_option linter.all false
set_option maxRecDepth 100000
namespace FD
open PySem L2
/-! ### what is never reached -/
def failM {α : Type} : DM α := fun _ => none
section
variable {X : Cx} {ct : List Addr} {W : WX} {e : Expr} {st : Stmt} {sts : List Stmt}
theorem fFail : PEF X ct W e failM := ⟨fun _ _ _ _ _ _ ⟨_, _, _, _, q⟩ => q.elim⟩
theorem dFail : PED X ct W e failM := ⟨fun _ _ _ _ _ _ ⟨_, _, _, _, q⟩ => q.elim⟩
theorem sFail : PSD X ct W st failM := ⟨fun _ _ _ _ _ _ ⟨_, _, _, _, q⟩ => q.elim⟩
theorem sFails : PSsD X ct W sts failM := ⟨fun _ _ _ _ _ _ ⟨_, _, _, _, q⟩ => q.elim⟩
end
/-! ### a class as a value, isinstance -/
section
variable {X : Cx} {ct : List Addr} {W : WX} {pos p : Pos} {x : Str} {e : Expr} {es : List Expr}
structure ClsAt (mg : Str → Option Value) (ct : List Addr) (x : Str) (c : Nat) : Prop where
  ex : ∃ C, mg x = some (.ref C) ∧ ct[c]? = some C
theorem dCls {c : Nat} (h : ClsAt X.mg ct x c) (hg : Gl X x := by rfl) (hd : (x == ("__debug__" : Str)) = false := by decide) : PED X ct W (.Name x pos) (ret (.cls c)) := by
  obtain ⟨C, m, eC⟩ := h.ex
  exact weakE (pe_glob (v := .ref C) hg m rfl hd) fun _ H Q ⟨_, G, _, E, q⟩ => q G H (Same.refl _) E _ (.cls eC)
/-- what K knows for isinstance: sub: the classes of each class; all built-in data are of none -/
structure IsiOk (K : PySem.W.Frag) (ct : List Addr) (sub : List (Nat × List Nat)) : Prop where
  obj : ∀ c C l, ct[c]? = some C → sub.lookup c = some l → Cls K C ∧ PySem.W.findIn K (.ref C) "__class__" = some (some (.builtin "object.__class__")) ∧ PySem.W.mroIn K C (.type "object") = some true ∧ (∀ c' C', ct[c']? = some C' → (sub.lookup c').isSome = true → PySem.W.kitOne K (.ref C) (.ref C') = some (l.contains c'))
  get : PySem.W.specialIn K (.builtin "object.__class__") "__get__" = some (some (.builtin "getset_descriptor.__get__"))
  tak : PySem.W.takesIn K (.builtin "object.__class__") = some true
  dat : ∀ c C n, ct[c]? = some C → (sub.lookup c).isSome = true → n ∈ ["NoneType", "bool", "int", "str", "tuple", "list"] → PySem.W.kitOne K (.type n) (.ref C) = some false
  oty : ∀ c C n, ct[c]? = some C → (sub.lookup c).isSome = true → n ∈ ["tuple", "str", "list", "int"] → PySem.W.kitOne K (.ref C) (.type n) = some false
def isA (sub : List (Nat × List Nat)) (c' : Nat) : D → Option Bool
  | .obj c _ => (sub.lookup c).map fun l => l.contains c'
  | d => (tyN d).map fun _ => false
def isT (sub : List (Nat × List Nat)) (T : String) : D → Option Bool
  | .obj c _ => if (sub.lookup c).isSome && ["tuple", "str", "list", "int"].contains T then some false else none
  | d => (tyN d).bind fun n => kitB n T
def isi2 (sub : List (Nat × List Nat)) (d : D) : D → Option Bool
  | .cls c' => if (sub.lookup c').isSome then isA sub c' d else none
  | .opq (.ty T) => isT sub T d
  | _ => none
def isiO (sub : List (Nat × List Nat)) : List D → Option Sl
  | [d, c] => (isi2 sub d c).map fun b => .sh (.bl b)
  | _ => none
theorem tyN_mem {d : D} {n : String} (h : tyN d = some n) : n ∈ ["NoneType", "bool", "int", "str", "tuple", "list"] := by
  cases d <;> simp only [tyN] at h <;> cases h <;> simp
theorem cIsiO {sub : List (Nat × List Nat)} (O : IsiOk X.K ct sub) : CallR X (.builtin "isinstance") (rC X.K ct (isiO sub)) := by
  intro pins s σ H vs us Q I r h
  obtain ⟨G, ds, sl, sg, rs, e, k⟩ := h
  unfold isiO at e
  split at e
  case h_2 => cases e
  rename_i d1 d2
  rw [Option.map_eq_some_iff] at e
  obtain ⟨b, e, rfl⟩ := e
  cases rs with
  | cons r1 r2 =>
    cases r2 with
    | cons r3 r4 =>
      cases r4
      cases r3 with
      | cls eC' =>
        rename_i C' c'
        simp only [isi2] at e
        split at e
        case isFalse => cases e
        rename_i hs
        by_cases ho : ∃ c fs, d1 = .obj c fs
        · obtain ⟨c, fs, rfl⟩ := ho
          simp only [isA, Option.map_eq_some_iff] at e
          obtain ⟨l, el, rfl⟩ := e
          obtain ⟨a, C, dx, gs, rfl, eC, ea, _⟩ := r1.inst
          obtain ⟨cl, ha, hm, hk⟩ := O.obj c C l eC el
          exact call_isi pins s σ H _ us Q I r ⟨_, _, _, _, _, rfl, .own C', .base (.ins (sg _ _ ea) cl ha O.get O.tak hm), hk c' C' eC' hs, RN.of_ext sg k rfl (.bl _)⟩
        · have e2 : (tyN d1).map (fun _ => false) = some b := by
            cases d1 <;> first | exact e | exact absurd ⟨_, _, rfl⟩ ho
          rw [Option.map_eq_some_iff] at e2
          obtain ⟨n, en, rfl⟩ := e2
          exact call_isi pins s σ H _ us Q I r ⟨_, _, _, _, _, rfl, .own C', R.ty sg r1 en, O.dat c' C' n eC' hs (tyN_mem en), RN.of_ext sg k rfl (.bl _)⟩
      | opq =>
        rename_i v2
        cases v2 with
        | ty T =>
          simp only [isi2] at e
          by_cases ho : ∃ c fs, d1 = .obj c fs
          · obtain ⟨c, fs, rfl⟩ := ho
            simp only [isT] at e
            split at e
            case isFalse => cases e
            rename_i hc
            rw [Bool.and_eq_true] at hc
            cases e
            obtain ⟨a, C, dx, gs, rfl, eC, ea, _⟩ := r1.inst
            obtain ⟨l, el⟩ := Option.isSome_iff_exists.mp hc.1
            obtain ⟨cl, ha, hm, hk⟩ := O.obj c C l eC el
            exact call_isi pins s σ H _ us Q I r ⟨_, _, _, _, _, rfl, .ty T, .base (.ins (sg _ _ ea) cl ha O.get O.tak hm), O.oty c C T eC hc.1 (by simpa using hc.2), RN.of_ext sg k rfl (.bl _)⟩
          · have e2 : (tyN d1).bind (fun n => kitB n T) = some b := by
              cases d1 <;> first | exact e | exact absurd ⟨_, _, rfl⟩ ho
            rw [Option.bind_eq_some_iff] at e2
            obtain ⟨n, e1, e3⟩ := e2
            exact call_isi pins s σ H _ us Q I r ⟨_, _, _, _, b, rfl, .ty T, R.ty sg r1 e1, kit_ty e3, RN.of_ext sg k rfl (.bl b)⟩
        | _ => cases e
      | _ => cases e
end
/-! ### len(o) -/
section
variable {X : Cx} {ct : List Addr} {W : WX} {pos p : Pos} {e : Expr} {k : Nat}
theorem run_fnIn {CX : CXT} {f : Addr} {fd : FuncData} {ps : List Str} {sp : Sp} {E : XK} {pins : List (Addr × Obj)} {σ : L2.St} {H : Hp} {s : Shared} {Q : VK} {us : List Value} {vs : List V} (F : FnOk X.prog X.w X.K X.mg X.base CX k f fd ps sp) (hr : Room (k + 1) X.A) (hb : Binds X.K fd ps []) (hx : PassesAt CX X σ E)
    (I : Inv X pins σ H s) (r : Vals vs us) (h : sp vs H Q E) : wpAny (model X.prog X.w) X.A.in1 (call (.ref f) us) (EP X pins σ Q) X.xe s := by
  have hl : us.length = ps.length := by rw [← r.length]; exact F.len _ _ _ _ h
  have b := hb s us I.kIn (by rw [List.append_nil]; exact hl)
  rw [List.append_nil] at b
  refine wpAny_call (codeAny_mono (F.run X.A.in1 X.stack s H ⟨us, []⟩ us vs Q E hr.in1 I.env0.in1 b r h) fun r s' hq => ?_)
  cases r with
  | error e => exact hx pins H s e s' I hq
  | ok fl => cases fl <;> first | exact I.after hq | exact False.elim hq
def lenR : Sl → Option Sl
  | .sh (.int n) => if 0 ≤ n ∧ n < 2 ^ 63 then some (.sh (.int n)) else none
  | _ => none
def lenOM (tb : List (Nat × DF)) (t : DM D) : DM Sl := bnd t fun a => bnd (bnd (lft (unG tb a)) callV) fun sl => lft (lenR sl)
theorem fLenO {tb : List (Nat × DF)} {t : DM D} (tk : Takes X W) (T : MTab X.prog X.w X.K X.mg X.base ct "__len__" k tb) (hr : Room (k + 1) X.A) (hm : X.mg "len" = none) (h : PED X ct W e t) (hg : Gl X "len" := by rfl) (hs : starEach [e] X.env = (false, eval e X.env) :: starEach [] X.env := by rfl) :
    PEF X ct W (.Call (.Name "len" p) [e] [] pos) (lenOM tb t) := by
  refine ⟨fun pins s σ H Q I q => ?_⟩
  obtain ⟨Φ, G, ρ, E, q⟩ := q
  refine wpAny_Call_Name_kw (ld_blt I hg hm (by rfl) ?_)
  have h2 : tCons (tD X.K ct W t) tNil σ H (fun xs H1 => ∃ x d G1 ρ1, xs = [x] ∧ EnvS X.K ct Φ G1 H1 σ ρ1 ∧ R X.K ct G1 x d ∧ Post X.K ct Φ W σ G1 ((bnd (bnd (lft (unG tb d)) callV) fun sl => lft (lenR sl)) ρ1) (fun sl ρ' G' H' => ∀ v, RF X.K ct Φ G' H' σ ρ' v sl → Q v H')) :=
    ⟨Φ, G, ρ, E, (Post.bnd q).imp fun d ρ1 G1 H1 s1 E1 q1 v r => ⟨v, d, G1, ρ1, rfl, E1, r, q1.2⟩⟩
  refine PyProof.Rows.callWith_builtin1 (thn ((pa_cons h pa_nil hs).run pos pins s σ H _ I h2) fun us s1 ⟨vs, H1, I1, rv, x, d, G1, ρ1, ex, E1, r1, q1⟩ => ?_) hs rfl
  subst ex
  obtain ⟨u, rfl, ru⟩ := vals1 rv
  obtain ⟨F, ds, eo, hF⟩ := callV_post E1 (Post.bnd q1) (Q := fun v H' => ∃ n : Int, v = .int n ∧ 0 ≤ n ∧ n < 2 ^ 63 ∧ Q (.int n) H') fun sl ρ' G' H' s' E' kk v rv => by
    obtain ⟨sl2, e2, k2⟩ := lft_post kk.2
    unfold lenR at e2
    split at e2
    · split at e2
      · rename_i n hn
        cases e2
        cases rv
        exact ⟨n, rfl, hn.1, hn.2, k2 G' H' (Same.refl _) E' _ (R.int n)⟩
      · cases e2
    · cases e2
  cases d with
  | obj c fs =>
    simp only [unG, Option.map_eq_some_iff] at eo
    obtain ⟨F', et, eo⟩ := eo
    cases eo
    obtain ⟨ps, C, f, fd, eC, cl, hme, hb, hFn⟩ := T c F et
    obtain ⟨a, C1, dx1, vs1, rfl, e1, ea, _⟩ := r1.inst
    rw [eC] at e1; cases e1
    obtain rfl : u = Value.ref a := ru
    obtain ⟨mA, O, _⟩ := ins_get I1.hok (E1.gh _ _ ea)
    obtain ⟨od, J, _⟩ := O.look
    obtain ⟨mm, fr⟩ := I1.fr
    refine PySem.W.len_K fr I1.ok.mod.kin J hme.at_ hme.fn ?_
    refine thn (run_fnIn (E := WE W σ) (vs := [.ref a]) hFn hr hb (passAt tk σ) I1 (.cons rfl .nil) (hF _ (.cons r1 .nil))) fun v s' ⟨y, H', I', ry, n, en, h0, h1, qn⟩ => ?_
    subst en
    obtain ⟨t, rfl⟩ := ry
    exact ⟨⟨h0, h1⟩, ⟨.int n, H', I'.tok _, ⟨_, rfl⟩, qn⟩⟩
  | _ => simp [unG] at eo
end
/-! ### more built-ins -/
def boolsOf : List D → Option (List Bool)
  | [] => some []
  | .bl i :: ds => (boolsOf ds).map fun is => i :: is
  | _ => none
section
variable {K : PySem.W.Frag} {ct : List Addr} {G : Hp}
theorem intsOf_rs : ∀ {vs : List V} {ds : List D} {ss : List Int}, Rs K ct G vs ds → intsOf ds = some ss → vs = ss.map V.int ∧ ds = ss.map .int
  | _, _, _, .nil, h => by cases h; exact ⟨rfl, rfl⟩
  | _, _, ss, .cons r t, h => by
    rename_i v d vs ds
    cases r with
    | int i =>
      simp only [intsOf, Option.map_eq_some_iff] at h
      obtain ⟨is, h1, rfl⟩ := h
      obtain ⟨e1, e2⟩ := intsOf_rs t h1
      rw [e1, e2]; exact ⟨rfl, rfl⟩
    | _ => cases h
theorem boolsOf_rs : ∀ {vs : List V} {ds : List D} {ss : List Bool}, Rs K ct G vs ds → boolsOf ds = some ss → vs = ss.map V.bl
  | _, _, _, .nil, h => by cases h; rfl
  | _, _, ss, .cons r t, h => by
    rename_i v d vs ds
    cases r with
    | bl i =>
      simp only [boolsOf, Option.map_eq_some_iff] at h
      obtain ⟨is, h1, rfl⟩ := h
      rw [boolsOf_rs t h1]; rfl
    | _ => cases h
end
def sumS : List D → Option Sl
  | [.lst xs] => (intsOf xs).map fun is => .sh (.int is.sum)
  | _ => none
def anyS : List D → Option Sl
  | [.lst xs] => (boolsOf xs).map fun is => .sh (.bl (is.any id))
  | _ => none
def min3S : List D → Option Sl
  | [.int a, .int b, .int c] => some (.sh (.int (if c < (if b < a then b else a) then c else if b < a then b else a)))
  | _ => none
def sortS : List D → Option Sl
  | [.lst xs] => (strsOf xs).bind fun ss => if ss.length < 64 then some (.ow (.lst ((ss.mergeSort leS').map .str))) else none
  | _ => none
section
variable {X : Cx} {ct : List Addr}
theorem cSum (hc : X.calm = true) : CallR X (.builtin "sum") (rC X.K ct sumS) := by
  intro pins s σ H vs us Q I r h
  obtain ⟨G, ds, sl, sg, rs, e, k⟩ := h
  unfold sumS at e
  split at e
  · rw [Option.map_eq_some_iff] at e
    obtain ⟨is, h1, rfl⟩ := e
    cases rs with
    | cons r1 r2 =>
      cases r2
      cases r1 with
      | lst ha ra =>
        obtain ⟨e1, _⟩ := intsOf_rs ra h1
        subst e1
        exact cr_sum hc pins s σ H _ us Q I r ⟨_, is, rfl, .inl (.inl (sg _ _ ha)), RN.of_ext sg k rfl (.int _)⟩
  · cases e
theorem cAny (hc : X.calm = true) : CallR X (.builtin "any") (rC X.K ct anyS) := by
  intro pins s σ H vs us Q I r h
  obtain ⟨G, ds, sl, sg, rs, e, k⟩ := h
  unfold anyS at e
  split at e
  · rw [Option.map_eq_some_iff] at e
    obtain ⟨is, h1, rfl⟩ := e
    cases rs with
    | cons r1 r2 =>
      cases r2
      cases r1 with
      | lst ha ra =>
        have e1 := boolsOf_rs ra h1
        subst e1
        exact cr_any hc pins s σ H _ us Q I r ⟨_, is, rfl, .inl (.inl (sg _ _ ha)), RN.of_ext sg k rfl (.bl _)⟩
  · cases e
theorem cMin3 (hc : X.calm = true) : CallR X (.builtin "min") (rC X.K ct min3S) := by
  intro pins s σ H vs us Q I r h
  obtain ⟨G, ds, sl, sg, rs, e, k⟩ := h
  unfold min3S at e
  split at e
  · rename_i a b c
    cases e
    cases rs with
    | cons r1 r2 =>
      cases r2 with
      | cons r3 r4 =>
        cases r4 with
        | cons r5 r6 =>
          cases r6; cases r1; cases r3; cases r5
          refine call_min3Nu hc pins s σ H _ us Q I r ⟨_, _, _, _, rfl, ?_, RN.of_ext sg k rfl (.int _)⟩
          unfold nuMin3 nuMin2 nuLt nuCB
          by_cases h1 : b < a
          · by_cases h2 : c < b <;> simp [h1, h2]
          · by_cases h2 : c < a <;> simp [h1, h2]
  · cases e
end
end FD

set_option Elab.async false
set_option linter.all false
set_option maxRecDepth 100000
namespace FD
open PySem L2
/-! ### sorted(list) -/
def alikeD (xs : List D) : Bool := xs.all fun a => xs.all fun b => PySem.W.alike (toPy a) (toPy b)
def neTup : D → Bool
  | .tup (_ :: _) => true
  | _ => false
def noTup : D → Bool
  | .tup _ => false
  | .non => false
  | .obj _ _ => false
  | .scr _ => false
  | .opq _ => false
  | .cls _ => false
  | _ => true
def sortD : List D → Option Sl
  | [.lst xs] => if plainNs 59 xs && alikeD xs && (xs.all neTup || xs.all noTup) && decide (xs.length ≤ sizeLine) then some (.ow (.lst (xs.mergeSort (PySem.W.dataLe false toPy)))) else none
  | _ => none
section
variable {X : Cx} {ct : List Addr}
theorem sortable_of {xs : List D} (h : (xs.all neTup || xs.all noTup) = true) : PySem.W.Sortable (xs.map toPy) := by
  rw [Bool.or_eq_true] at h
  rcases h with h | h
  · refine .inl fun d hd => ?_
    obtain ⟨x, hx, rfl⟩ := List.mem_map.mp hd
    have := List.all_eq_true.mp h x hx
    cases x with
    | tup ys =>
      cases ys with
      | nil => simp [neTup] at this
      | cons y ys => exact ⟨toPy y, toPys ys, by simp [toPy, toPys]⟩
    | _ => simp [neTup] at this
  · refine .inr fun d hd => ?_
    obtain ⟨x, hx, rfl⟩ := List.mem_map.mp hd
    have := List.all_eq_true.mp h x hx
    cases x <;> simp [noTup] at this <;> simp [toPy]
theorem cSortD (hu : X.A.units + 64 < cLine) : CallR X (.builtin "sorted") (rC X.K ct sortD) := by
  intro pins s σ H vs us Q I r h
  obtain ⟨G, ds, sl, sg, rs, e, k⟩ := h
  unfold sortD at e
  split at e
  case h_2 => cases e
  rename_i xs
  split at e
  case isFalse => cases e
  rename_i hc
  simp only [Bool.and_eq_true, decide_eq_true_eq] at hc
  obtain ⟨⟨⟨hp, ha⟩, hso⟩, hz⟩ := hc
  cases e
  cases rs with
  | cons r1 r2 =>
    cases r2
    cases r1 with
    | lst hl rl =>
      rename_i l ws
      obtain ⟨u, rfl, ru⟩ := vals1 r
      obtain rfl : u = Value.ref l := ru
      obtain ⟨_, its, n, rv, ho⟩ := I.hok l _ (sg _ _ hl)
      have pr : ∀ {ws : List V} {its : List Value} {xs : List D}, Rs X.K ct G ws xs → Vals ws its → plainNs 59 xs = true → PySem.W.EachIs (fun u d => (∃ v, RelV v u ∧ R X.K ct G v d) ∧ ∃ as, Reads s.heap u (toPy d) as) its xs := by
        intro ws its xs h1
        induction h1 using Rs.rec (motive_1 := fun _ _ _ => True) (motive_3 := fun _ _ _ => True) generalizing its with
        | nil => intro h2 _; cases h2; exact .nil
        | cons r t _ ih =>
          intro h2 h3
          cases h2 with
          | cons e1 e2 =>
            simp only [plainNs, Bool.and_eq_true] at h3
            exact .cons ⟨⟨_, e1, r⟩, Dp.reads I _ _ _ (R.dp sg 59 _ _ h3.1 r) e1⟩ (ih e2 h3.2)
        | _ => trivial
      have ea := pr rl rv hp
      have hs2 : s.heap.IsList l its.toArray := ⟨_, ho, rfl, n, rfl⟩
      refine PySem.W.sorted_data (enc := toPy) hs2 (ea.mono fun _ _ h => h.1) (ea.mono fun _ _ h => h.2) (fun d hd d' hd' => ?_) (sortable_of hso) hz (fun d hd => ?_) fun out hol eo => ?_
      · obtain ⟨x, hx, rfl⟩ := List.mem_map.mp hd
        obtain ⟨y, hy, rfl⟩ := List.mem_map.mp hd'
        exact List.all_eq_true.mp (List.all_eq_true.mp ha x hx) y hy
      · have pm : ∀ (xs : List D), plainNs 59 xs = true → ∀ d ∈ xs, plainN 59 d = true := fun xs => by
          induction xs with
          | nil => intro _ d hd; cases hd
          | cons x xs ih =>
            intro h d hd
            simp only [plainNs, Bool.and_eq_true] at h
            rcases List.mem_cons.mp hd with rfl | hd
            · exact h.1
            · exact ih h.2 d hd
        have := (toPy_plain 59 d (pm xs hp d hd)).2
        omega
      · obtain ⟨c, hc⟩ := PyProof.Rows.sortedAll_at s.heap its out.toArray
        have kp : ∀ b o, s.heap.get? b = some o → (PyProof.Rows.sortedAll s.heap its out.toArray).get? b = some o := fun _ _ => PyProof.Rows.sortedAll_old
        have back : ∀ {out : List Value} {ys : List D}, PySem.W.EachIs (fun u d => ∃ v, RelV v u ∧ R X.K ct G v d) out ys → ∃ vs, Vals vs out ∧ Rs X.K ct G vs ys := fun h => by
          induction h with
          | nil => exact ⟨[], .nil, .nil⟩
          | cons h _ ih =>
            obtain ⟨v, a1, a2⟩ := h
            obtain ⟨vs, b1, b2⟩ := ih
            exact ⟨v :: vs, .cons a1 b1, .cons a2 b2⟩
        obtain ⟨zs, v1, v2⟩ := back eo
        have hpn : H (s.heap.objs.size + 1) = none := I.hok.fresh (Nat.le_succ _)
        have ok : ObjOk X.prog X.w (upd H (s.heap.objs.size + 1) (.lst zs)) (PyProof.Rows.sortedAll s.heap its out.toArray) (s.heap.objs.size + 1) (.lst zs) :=
          ⟨by rw [v1.length, hol]; exact hz, out, c, v1, hc⟩
        refine ⟨.ref (s.heap.objs.size + 1), _, I.laid (t' := s.toks) kp (Nat.le_succ _) ok, rfl, ?_⟩
        exact k _ G _ (.own sg hpn) ⟨_, rfl, hpn, sg.free hpn, zs, upd_same, v2⟩
end
theorem plain_strsN (n : Nat) : ∀ ts : List Str, plainNs n (ts.map .str) = true
  | [] => by simp [plainNs]
  | t :: ts => by simp only [List.map_cons, plainNs, plainN, plain_strsN n ts, Bool.and_self]
theorem sortD_strs {ss : List Str} (hz : ss.length ≤ sizeLine) : sortD [.lst (ss.map .str)] = some (.ow (.lst ((ss.mergeSort leS').map .str))) := by
  have h1 : alikeD (ss.map .str) = true := by
    unfold alikeD
    simp only [List.all_map, List.all_eq_true, Function.comp]
    intro a _ b _
    simp [toPy, PySem.W.alike]
  have h2 : (ss.map D.str).all noTup = true := by simp [noTup]
  have h3 : (ss.map D.str).mergeSort (PySem.W.dataLe false toPy) = (ss.mergeSort leS').map .str := by
    refine (PySem.W.sort_maps (r := leS') (s := PySem.W.dataLe false toPy) D.str fun a _ b _ => ?_).symm
    have e := congrFun (congrFun dle_str a) b
    rw [← e]; rfl
  simp only [sortD, plain_strsN, h1, h2, h3]
  simp [hz]
/-! ### xs.pop(i) -/
def popF (i : Nat) (k : D) : DM D := fun ρ => match own? ρ[i]?, k with
  | some (.lst xs, f), .int j => (match ixN xs.length j with
    | some n => (match xs[n]? with
      | some d => if xs.length ≤ sizeLine then some (.ok d (ρ.set i (f (.lst (xs.eraseIdx n))))) else none
      | none => none)
    | none => none)
  | _, _ => none
def popM (i : Nat) (tk : DM D) : DM D := fun ρ => match own? ρ[i]? with
  | some (.lst _, _) => bnd tk (popF i) ρ
  | _ => none
theorem Rs.eraseIdx {K : PySem.W.Frag} {ct : List Addr} {G : Hp} : ∀ {vs : List V} {ds : List D} (i : Nat), Rs K ct G vs ds → Rs K ct G (vs.eraseIdx i) (ds.eraseIdx i)
  | _, _, _, .nil => .nil
  | _, _, 0, .cons _ t => t
  | _, _, i + 1, .cons r t => .cons r (Rs.eraseIdx i t)
section
variable {X : Cx} {ct : List Addr} {W : WX} {e : Expr} {x : Str} {p1 : Pos}
theorem dPop (i : Nat) {tk : DM D} {apos cpos : Pos} (h : PED X ct W e tk) (hN : X.N[i]? = some x := by rfl) (hv : Vis X.env.scope x := by first | exact Or.inl rfl | exact Or.inr (Or.inl rfl) | exact Or.inr (Or.inr rfl)) (hd : (x == ("__debug__" : Str)) = false := by decide) (hcd : (x == ("__classdict__" : Str)) = false := by decide)
    (hbase : attributeBase (.Name x p1) "pop" X.env (eval (.Name x p1) X.env) = eval (.Name x p1) X.env := by rfl)
    (hfew : ((backTo cpos (starEach [e] X.env)).all (fun x => !x.1) && (backToKw cpos (keywordEach [] X.env)).all (fun x => x.1.isSome)
      && decide ([e].length + ([] : List Keyword).length + (if ([] : List Keyword).isEmpty then 0 else 1) < 30)) = true := by rfl)
    (hline : (apos.endLine == cpos.line) = true := by rfl) (hs : starEach [e] X.env = (false, eval e X.env) :: starEach [] X.env := by rfl) (hplain : (backTo cpos (starEach [] X.env)).any (·.1) = false := by rfl) :
    PED X ct W (.Call (.Attribute (.Name x p1) "pop" apos) [e] [] cpos) (popM i tk) := by
  refine weakE (pe_bm F.plainAttrs_list F.slot_list_pop F.type_list_pop mt_popAt (pe_var (i := i) hN hv hd hcd) (pa_cons h pa_nil hs) hbase hfew hline hs hplain) fun σ H Q q => ?_
  obtain ⟨Φ, G, ρ, E, q⟩ := q
  unfold popM at q
  cases ho : own? ρ[i]? with
  | none => rw [ho] at q; exact q.elim
  | some dd =>
    rw [ho] at q
    obtain ⟨d0, f0⟩ := dd
    cases d0 with
    | lst xs0 =>
      obtain ⟨p, e1, e2, e3, _⟩ := E.own i _ (own_is ho).1
      obtain ⟨vs0, e4, e5⟩ := e3
      refine ⟨.ref p, e1, .inl ⟨rfl, vs0, .inl (.inl e4)⟩, Φ, G, ρ, E, (Post.bnd q).imp fun dk ρ1 G1 H1 s1 E1 q1 v rv => ?_⟩
      have q2 := q1.2
      unfold popF at q2
      cases ho1 : own? ρ1[i]? with
      | none => simp only [ho1] at q2; exact q2.elim
      | some dd1 =>
        simp only [ho1] at q2
        obtain ⟨d1, f1⟩ := dd1
        cases d1 with
        | lst xs1 =>
          cases rv with
          | int j =>
            simp only at q2
            cases en : ixN xs1.length j with
            | none => rw [en] at q2; exact q2.elim
            | some n =>
              simp only [en] at q2
              cases ed : xs1[n]? with
              | none => rw [ed] at q2; exact q2.elim
              | some d =>
                simp only [ed] at q2
                obtain ⟨p', a1, a2, a3, _⟩ := E1.own i _ (own_is ho1).1
                rw [e1] at a1; cases a1
                obtain ⟨vs1, a4, a5⟩ := a3
                obtain ⟨y, hy, ry⟩ := a5.get ed
                split at q2
                case isFalse => exact q2.elim
                rename_i hz
                have hb : (sizeLine : Nat) = 16777216 := rfl
                obtain ⟨b1, b2, b3, b4⟩ := ixN_seq en
                refine ⟨p, vs1, j, n, y, rfl, rfl, a4, by omega, by omega, by rw [a5.length]; exact b1, hy, ?_⟩
                exact q2 G1 _ (Same.refl _) (E1.write (o := .lst (vs1.eraseIdx n)) (d' := .lst (xs1.eraseIdx n)) ho1 e1 ⟨_, upd_same, a5.eraseIdx n⟩) y ry
          | _ => exact q2.elim
        | _ => exact q2.elim
    | _ => exact q.elim
end
end FD

set_option Elab.async false
set_option linter.all false
set_option maxRecDepth 100000
namespace FD
open PySem L2
/-! ### defs with defaults; recursion -/
theorem fn_none {P : Program} {w : World} {K : PySem.W.Frag} {mg : Str → Option Value} {base : Heap} {CX : CXT} {ct : List Addr} {k : Nat} {f : Addr} {fd : FuncData} {ps : List Str} : FnOk P w K mg base CX k f fd ps (SpF K ct (fun _ => none)) :=
  ⟨fun _ _ _ _ ⟨_, _, _, _, q⟩ => q.elim, fun _ _ _ _ _ _ _ _ _ _ _ _ _ ⟨_, _, _, _, q⟩ => q.elim⟩
/-- fuel -/
def fuel (G : DF → DF) : Nat → DF
  | 0 => fun _ => none
  | n + 1 => G (fuel G n)
theorem cal_rec {P : Program} {w : World} {K : PySem.W.Frag} {mg : Str → Option Value} {base : Heap} {ct : List Addr} {x qual : Str} {st : Stmt} {ps : List Str} {G : DF → DF} (b : Nat) (d : Dec K mg x qual st ps)
    (h : ∀ (j : Nat) (F : DF) (f : Addr) (fd : FuncData), b ≤ j → Cal P w K mg base ct x j ps F → Fun K x qual st f fd → FnOk P w K mg base (L2.CX P w) (j + 1) f fd ps (SpF K ct (G F))) : ∀ n, Cal P w K mg base ct x (b + n) ps (fuel G n)
  | 0 => by
    obtain ⟨f, fd, F1, m, bb⟩ := d.ex
    exact ⟨f, fd, m, F1.kp, bb, fn_none⟩
  | n + 1 => by
    have ih := cal_rec b d h n
    obtain ⟨f, fd, F1, m, bb⟩ := d.ex
    exact ⟨f, fd, m, F1.kp, bb, h (b + n) _ f fd (Nat.le_add_right _ _) ih F1⟩
theorem Cal.mono {P : Program} {w : World} {K : PySem.W.Frag} {mg : Str → Option Value} {base : Heap} {ct : List Addr} {x : Str} {j k : Nat} {ps : List Str} {F : DF} (C : Cal P w K mg base ct x j ps F) (h : j ≤ k) : Cal P w K mg base ct x k ps F := by
  obtain ⟨f, fd, m, kp, b, hF⟩ := C.ex
  exact ⟨f, fd, m, kp, b, hF.mono h⟩
/-- a def whose last parameters have defaults dds: called with the first ones alone -/
structure CalD (P : Program) (w : World) (K : PySem.W.Frag) (mg : Str → Option Value) (base : Heap) (ct : List Addr) (x : Str) (k : Nat) (ps : List Str) (dds : List D) (F : DF) : Prop where
  ex : ∃ f fd dvs ds, mg x = some (.ref f) ∧ PySem.W.keepIn K (.ref f) = true ∧ Binds K fd ps ds ∧ Vals dvs ds ∧ (∀ G, Rs K ct G dvs dds) ∧ FnOk P w K mg base (L2.CX P w) k f fd ps (SpF K ct F)
def callAD (F : DF) (dds : List D) (t : DM (List Ar)) : DM Sl := bnd t fun ars => callF F (ars ++ dds.map .val)
theorem ArRs.append {K : PySem.W.Frag} {ct : List Addr} {G : Hp} {σ : L2.St} : ∀ {vs us : List V} {as bs : List Ar}, ArRs K ct G σ vs as → ArRs K ct G σ us bs → ArRs K ct G σ (vs ++ us) (as ++ bs)
  | _, _, _, _, .nil, h => h
  | _, _, _, _, .cons r t, h => .cons r (ArRs.append t h)
section
variable {X : Cx} {ct : List Addr} {W : WX} {e : Expr} {es : List Expr} {pos p : Pos} {x : Str}
theorem fCD {F : DF} {t : DM (List Ar)} {k : Nat} {ps : List Str} {dds : List D} (tk : Takes X W) (C : CalD X.prog X.w X.K X.mg X.base ct x k ps dds F) (hr : Room k X.A)
    (ha : PAD X ct W (e :: es) t) (hg : Gl X x := by rfl) (hdb : (x == ("__debug__" : Str)) = false := by decide) (he : starEach (e :: es) X.env = (false, eval e X.env) :: starEach es X.env := by rfl) (hpl : (backTo pos (starEach es X.env)).any (·.1) = false := by rfl) :
    PEF X ct W (.Call (.Name x p) (e :: es) [] pos) (callAD F dds t) := by
  obtain ⟨f, fd, dvs, ds, m, kp, b, vd, rd, hF⟩ := C.ex
  refine weakE (pe_callSD hF hr hg m kp b vd (fun σ => passAt tk σ) ha hdb he hpl) fun σ H Q q => ?_
  obtain ⟨Φ, G, ρ, E, q⟩ := q
  refine ⟨Φ, G, ρ, E, (Post.bnd q).imp fun ars ρ1 G1 H1 s1 E1 q1 vs rs => ?_⟩
  exact call_post E1 q1.2 (rs.append (ArRs.vals (rd G1))) fun sl ρ' G' H' s E' kk v rv => kk v rv
end
theorem fn_dD {P : Program} {w : World} {K : PySem.W.Frag} {mg : Str → Option Value} {base : Heap} {ct : List Addr} {x qual : Str} {st : Stmt} {f : Addr} {fd : FuncData} {N ps : List Str} {k : Nat} {T : DM Fl} {dvs : List V} (F : FunD K x qual (defArgs st) (defBody st) (defScope st) dvs [] f fd) (S : FnScope N ps (defScope st))
    (hbody : ∀ (cdv : Value) (A : Around) (outer : List Env) (s : Shared) (H : Hp) (E : XK), Room k (A.deeper (PyProof.Rows.envOfC qual (defScope st) s.heap.objs.size f cdv)) →
      PSsD (cxOf (L2.CX P w) P w K mg base N qual (defScope st) f cdv A outer s H E) ct (fun c d _ H' => E c d H') (defBody st) T) :
    FnOk P w K mg base (L2.CX P w) (k + 1) f fd ps (SpF K ct (runF ps.length N.length T)) :=
  F.ok S (fun _ _ _ _ h => spf_len h) fun cdv A outer s H _ _ E hr h => ⟨_, hbody cdv A outer s H E hr, spf_start h⟩
/-- a def of the top with defaults, as the top has left it -/
structure DecD (K : PySem.W.Frag) (mg : Str → Option Value) (x qual : Str) (st : Stmt) (ps : List Str) (dvs : List V) : Prop where
  ex : ∃ f fd ds, FunD K x qual (defArgs st) (defBody st) (defScope st) dvs [] f fd ∧ mg x = some (.ref f) ∧ Binds K fd ps [] ∧ Vals dvs ds ∧ Binds K fd ps ds
theorem decD_of {K : PySem.W.Frag} {mg : Str → Option Value} {h : Heap} {x qual : Str} {st : Stmt} {f T : Addr} {oc : Value} {od an : Option Addr} {osl : Array (Option Value)} {kV doc pm cdv ct : Value} {ps : List Str} {dvs : List V} {o : Obj} {its : List Value} {m : Nat} (X : K.In h) (G : h.Ns mainGlobals mg)
    (a : PySem.W.nsIn K mainGlobals x = some (some (.ref f))) (l : K.lookup f = some ⟨oc, od, .func (PySem.W.fnOf x qual (defArgs st) (defBody st) (defScope st) (.ref T) kV doc pm an cdv ct), osl⟩)
    (c : PySem.W.codeIn K cdv qual = true) (k : PySem.W.keepIn K (.ref f) = true) (lT : K.lookup T = some o) (oT : o.data = .seq its.toArray m) (rT : Vals dvs its) (nd : dvs ≠ []) (hn : dvs.length ≤ ps.length)
    (hb : ∀ (n j : Nat), n + (dvs.length - j) = ps.length → (j = 0 ∨ j = dvs.length) → ∀ (T : Addr) (kV doc pm : Value) (an : Option Addr) (cdv ct : Value) (us its : List Value), us.length = n → its.length = dvs.length →
      ∃ k, bindArgs (PySem.W.fnOf x qual (defArgs st) (defBody st) (defScope st) (.ref T) kV doc pm an cdv ct) ⟨us, []⟩ = seqItems? (.ref T) >>= k ∧ k (some its.toArray) = pure (ps.zip (us ++ its.drop j))) : DecD K mg x qual st ps dvs := by
  have F : FunD K x qual (defArgs st) (defBody st) (defScope st) dvs [] f _ := ⟨⟨oc, od, .ref T, kV, doc, pm, an, cdv, ct, osl, rfl, l, c, .inr ⟨nd, T, o, its, m, rfl, lT, oT, rT⟩, .inl rfl⟩, k⟩
  obtain ⟨d1, v1, b1⟩ := F.binds1 (ps := ps) (ps.length - dvs.length) 0 nd (by omega) (hb _ 0 (by omega) (.inl rfl))
  obtain ⟨d2, v2, b2⟩ := F.binds1 (ps := ps) ps.length dvs.length nd (by omega) (hb _ _ (by omega) (.inr rfl))
  rw [List.drop_zero] at v1
  rw [List.drop_length] at v2
  cases v2
  exact ⟨f, _, d1, F, PySem.W.mg_of X G a, b2, v1, b1⟩
theorem calD_of {P : Program} {w : World} {K : PySem.W.Frag} {mg : Str → Option Value} {base : Heap} {ct : List Addr} {x qual : Str} {st : Stmt} {k : Nat} {ps : List Str} {F : DF} {dvs : List V} {dds : List D} (d : DecD K mg x qual st ps dvs) (rd : ∀ G, Rs K ct G dvs dds)
    (h : ∀ f fd, FunD K x qual (defArgs st) (defBody st) (defScope st) dvs [] f fd → FnOk P w K mg base (L2.CX P w) k f fd ps (SpF K ct F)) : Cal P w K mg base ct x k ps F ∧ CalD P w K mg base ct x k ps dds F := by
  obtain ⟨f, fd, ds, F1, m, b0, vd, b⟩ := d.ex
  exact ⟨⟨f, fd, m, F1.kp, b0, h f fd F1⟩, ⟨f, fd, dvs, ds, m, F1.kp, b, vd, rd, h f fd F1⟩⟩
/-! ### classes, as the top has left them -/
structure ClsF (K : PySem.W.Frag) (mg : Str → Option Value) (x : Str) (C : Addr) : Prop where
  mg : mg x = some (.ref C)
  cls : Cls K C
  mkr : PySem.W.makesIn K C = true
  kp : PySem.W.keepIn K (.ref C) = true
  sf : PySem.W.selfFirst K C = true
theorem clsF_of {K : PySem.W.Frag} {mg : Str → Option Value} {h : Heap} {x : Str} {C : Addr} (X : K.In h) (G : h.Ns mainGlobals mg) (a : PySem.W.nsIn K mainGlobals x = some (some (.ref C))) (pg : PySem.W.plainGet K C Str.empty = true) (hd : PySem.W.hasDictIn K C = true) (po : PySem.W.plainOver K C = true)
    (sa : PySem.W.findIn K (.ref C) "__setattr__" = some (some (.builtin "object.__setattr__"))) (mk : PySem.W.makesIn K C = true) (kc : PySem.W.keepIn K (.ref C) = true) (sf : PySem.W.selfFirst K C = true) : ClsF K mg x C := ⟨PySem.W.mg_of X G a, ⟨pg, hd, po, sa⟩, mk, kc, sf⟩
structure DecM (K : PySem.W.Frag) (C : Addr) (m qual : Str) (st : Stmt) (ps : List Str) : Prop where
  ex : ∃ f fd, Fun K m qual st f fd ∧ PySem.W.findIn K (.ref C) m = some (some (.ref f)) ∧ PySem.W.isFn K (.ref f) = true ∧ Binds K fd ps []
theorem decM_of {K : PySem.W.Frag} {C : Addr} {x qual : Str} {st : Stmt} {f : Addr} {oc : Value} {od an : Option Addr} {osl : Array (Option Value)} {kV doc pm cdv ct : Value} {ps : List Str}
    (a : PySem.W.findIn K (.ref C) x = some (some (.ref f))) (i : PySem.W.isFn K (.ref f) = true) (l : K.lookup f = some ⟨oc, od, .func (PySem.W.fnOf x qual (defArgs st) (defBody st) (defScope st) .none kV doc pm an cdv ct), osl⟩)
    (c : PySem.W.codeIn K cdv qual = true) (k : PySem.W.keepIn K (.ref f) = true)
    (hb : ∀ (kV doc pm : Value) (an : Option Addr) (cdv ct : Value) (us : List Value), us.length = ps.length → bindArgs (PySem.W.fnOf x qual (defArgs st) (defBody st) (defScope st) .none kV doc pm an cdv ct) ⟨us, []⟩ = pure (ps.zip us)) : DecM K C x qual st ps :=
  ⟨f, _, fun_mk l c k, a, i, (fun_mk l c k).binds hb⟩
theorem mcal_of {P : Program} {w : World} {K : PySem.W.Frag} {mg : Str → Option Value} {base : Heap} {ct : List Addr} {c : Nat} {C : Addr} {x m qual : Str} {st : Stmt} {k : Nat} {ps : List Str} {F : DF} (eC : ct[c]? = some C) (T : ClsF K mg x C) (d : DecM K C m qual st ps)
    (h : ∀ f fd, Fun K m qual st f fd → FnOk P w K mg base (L2.CX P w) k f fd ps (SpF K ct F)) : MCal P w K mg base ct c m k ps F := by
  obtain ⟨f, fd, F1, a, i, b⟩ := d.ex
  exact ⟨C, f, fd, eC, T.cls, ⟨a, i, F1.kp⟩, b, h f fd F1⟩
theorem kcal_of {P : Program} {w : World} {K : PySem.W.Frag} {mg : Str → Option Value} {base : Heap} {ct : List Addr} {c : Nat} {C : Addr} {x qual : Str} {st : Stmt} {k : Nat} {ps : List Str} {F : DF} (eC : ct[c]? = some C) (T : ClsF K mg x C) (d : DecM K C "__init__" qual st ps)
    (h : ∀ f fd, Fun K "__init__" qual st f fd → FnOk P w K mg base (L2.CX P w) k f fd ps (SpF K ct F)) : KCal P w K mg base ct x c k ps F := by
  obtain ⟨f, fd, F1, a, i, b⟩ := d.ex
  exact ⟨C, f, fd, T.mg, eC, ⟨T.mkr, a, i, T.kp⟩, b, h f fd F1⟩
section
variable {X : Cx} {ct : List Addr} {W : WX} {x : Str} {pos : Pos}
theorem dGlI' {i : Int} (h : ∃ t, X.mg x = some (.int i t)) (hg : Gl X x := by rfl) (hd : (x == ("__debug__" : Str)) = false := by decide) : PED X ct W (.Name x pos) (ret (.int i)) := by
  obtain ⟨t, h⟩ := h; exact dGlI h hg hd
theorem dGlS' {i : Str} (h : ∃ t, X.mg x = some (.str i t)) (hg : Gl X x := by rfl) (hd : (x == ("__debug__" : Str)) = false := by decide) : PED X ct W (.Name x pos) (ret (.str i)) := by
  obtain ⟨t, h⟩ := h; exact dGlS h hg hd
end
end FD
namespace FD
open PySem L2
theorem FldOk.nil {K : PySem.W.Frag} {ct : List Addr} {f : Str} : FldOk K ct [] f := fun _ _ h => by simp at h
theorem FldOk.cons {K : PySem.W.Frag} {ct : List Addr} {cs : List Nat} {f : Str} {c : Nat} {C : Addr} (eC : ct[c]? = some C) (h1 : Cls K C) (h2 : NoAttr K C f) (t : FldOk K ct cs f) : FldOk K ct (c :: cs) f := fun c' C' h e => by
  by_cases z : c' = c
  · subst z; rw [eC] at e; cases e; exact ⟨h1, h2⟩
  · exact t c' C' (by simpa [z] using h) e
/-- a law's own promise -/
def spLaw (K : PySem.W.Frag) : Sp := fun vs H Q _ => ∃ (a : Addr) (ns : List Int), vs = [.ref a] ∧ SqL K H a (ns.map V.int) ∧ ns.length ≤ 63 ∧ ∀ H', Q (.bl true) H'
theorem SpF.mono {K : PySem.W.Frag} {ct : List Addr} {F : DF} {vs : List V} {H : Hp} {Q Q' : VK} {E E' : XK} (h : SpF K ct F vs H Q E) (hq : ∀ v H', Q v H' → Q' v H') (he : ∀ c d H', E c d H' → E' c d H') : SpF K ct F vs H Q' E' := by
  obtain ⟨Φ, G, ρ, En, q⟩ := h
  refine ⟨Φ, G, ρ, En, ?_⟩
  cases hf : F ρ with
  | none => rw [hf] at q; exact q
  | some o =>
    rw [hf] at q
    cases o with
    | ok a ρ' => exact fun G' H' s E2 v r => hq v H' (q G' H' s E2 v r)
    | ex x ρ' => exact fun G' H' c dx s E2 r => he c dx H' (q G' H' c dx s E2 r)
theorem spf_law' {K : PySem.W.Frag} {ct : List Addr} {F : DF} (h : ∀ ns : List Int, ns.length ≤ 63 → ∃ as, F [.sh (.scr ns)] = some (.ok (.sh (.bl true)) as)) {vs : List V} {H : Hp} {Q : VK} {E : XK} (hs : spLaw K vs H Q E) : SpF K ct F vs H Q E := by
  obtain ⟨a, ns, rfl, hS, hl, q⟩ := hs
  exact (spf_law h hl hS).mono (fun v H' e => by rw [e]; exact q H') fun _ _ _ z => z.elim
end FD

set_option Elab.async false
set_option linter.all false
set_option maxRecDepth 100000
namespace FD
open PySem L2

/-! ### reckoning with denotations -/
def Wp {α : Type} (t : DM α) (ρ : List Sl) (Q : α → List Sl → Prop) : Prop := ∃ a ρ', t ρ = some (.ok a ρ') ∧ Q a ρ'
section
variable {α β : Type} {ρ : List Sl}
theorem Wp.imp {t : DM α} {Q Q' : α → List Sl → Prop} (h : Wp t ρ Q) (hq : ∀ a ρ', Q a ρ' → Q' a ρ') : Wp t ρ Q' := by
  obtain ⟨a, ρ', e, q⟩ := h
  exact ⟨a, ρ', e, hq a ρ' q⟩
theorem ok_iff {x : α} {y : List Sl} {Q : α → List Sl → Prop} : (∃ a ρ', some (Out.ok x y) = some (Out.ok a ρ') ∧ Q a ρ') ↔ Q x y :=
  ⟨fun ⟨_, _, e, q⟩ => by cases e; exact q, fun q => ⟨x, y, rfl, q⟩⟩
theorem wp_bnd {t : DM α} {f : α → DM β} {Q : β → List Sl → Prop} : Wp (bnd t f) ρ Q ↔ Wp t ρ (fun a ρ1 => Wp (f a) ρ1 Q) := by
  unfold Wp bnd
  constructor
  · rintro ⟨b, ρ', e, q⟩
    cases h : t ρ with
    | none => rw [h] at e; cases e
    | some o =>
      cases o with
      | ex x ρ1 => rw [h] at e; cases e
      | ok a ρ1 => rw [h] at e; exact ⟨a, ρ1, rfl, b, ρ', e, q⟩
  · rintro ⟨a, ρ1, h, b, ρ', e, q⟩
    rw [h]
    exact ⟨b, ρ', e, q⟩
theorem wp_ret {a : α} {Q : α → List Sl → Prop} : Wp (ret a) ρ Q ↔ Q a ρ := by
  unfold Wp ret
  constructor
  · rintro ⟨b, ρ', e, q⟩; cases e; exact q
  · intro q; exact ⟨a, ρ, rfl, q⟩
theorem wp_lft {o : Option α} {Q : α → List Sl → Prop} : Wp (lft o) ρ Q ↔ ∃ a, o = some a ∧ Q a ρ := by
  unfold Wp lft
  cases o with
  | none => simp
  | some a => rw [ok_iff]; simp
theorem wp_get {i : Nat} {Q : D → List Sl → Prop} : Wp (get i) ρ Q ↔ ∃ d, ρ[i]? = some (.sh d) ∧ Q d ρ := by
  unfold Wp get
  cases h : ρ[i]? with
  | none => simp
  | some s => cases s <;> first | (rw [ok_iff]; simp; done) | simp
theorem wp_setF {i : Nat} {sl : Sl} {Q : Fl → List Sl → Prop} : Wp (setF i sl) ρ Q ↔ ∃ ρ', setSl i sl ρ = some ρ' ∧ Q .nx ρ' := by
  unfold Wp setF
  cases h : setSl i sl ρ with
  | none => simp
  | some s => simp only; rw [ok_iff]; simp
theorem wp_ite {p : Prop} [Decidable p] {t u : DM α} {Q : α → List Sl → Prop} : Wp (if p then t else u) ρ Q ↔ (p → Wp t ρ Q) ∧ (¬ p → Wp u ρ Q) := by
  by_cases h : p <;> simp [h]
def flK (u : DM Fl) (Q : Fl → List Sl → Prop) : Fl → List Sl → Prop := fun fl ρ => match fl with
  | .nx => Wp u ρ Q
  | fl => Q fl ρ
theorem flK_nx {u : DM Fl} {Q : Fl → List Sl → Prop} : flK u Q .nx ρ = Wp u ρ Q := rfl
theorem flK_rt {u : DM Fl} {Q : Fl → List Sl → Prop} {sl : Sl} : flK u Q (.rt sl) ρ = Q (.rt sl) ρ := rfl
theorem flK_bk {u : DM Fl} {Q : Fl → List Sl → Prop} : flK u Q .bk ρ = Q .bk ρ := rfl
theorem flK_ct {u : DM Fl} {Q : Fl → List Sl → Prop} : flK u Q .ct ρ = Q .ct ρ := rfl
theorem wp_seq {t u : DM Fl} {Q : Fl → List Sl → Prop} : Wp (seqM t u) ρ Q ↔ Wp t ρ (flK u Q) := by
  unfold seqM
  rw [wp_bnd]
  constructor
  · intro h
    refine h.imp fun fl ρ' q => ?_
    cases fl with
    | nx => exact q
    | rt sl => exact (wp_ret (a := Fl.rt sl) (Q := Q)).mp q
    | bk => exact (wp_ret (a := Fl.bk) (Q := Q)).mp q
    | ct => exact (wp_ret (a := Fl.ct) (Q := Q)).mp q
  · intro h
    refine h.imp fun fl ρ' q => ?_
    cases fl with
    | nx => exact q
    | rt sl => exact (wp_ret (a := Fl.rt sl)).mpr q
    | bk => exact (wp_ret (a := Fl.bk)).mpr q
    | ct => exact (wp_ret (a := Fl.ct)).mpr q
/-- a test's fork -/
theorem wp_ifM {c : DM Bool} {t u : DM α} {Q : α → List Sl → Prop} : Wp (ifM c t u) ρ Q ↔ Wp c ρ (fun b ρ1 => if b = true then Wp t ρ1 Q else Wp u ρ1 Q) := by
  unfold ifM
  rw [wp_bnd]
  constructor <;> (intro h; refine h.imp fun b ρ' q => ?_; cases b <;> exact q)
theorem wp_bor {fl : α → Bool} {i : Nat} {t : DM α} {Q : α → List Sl → Prop} : Wp (bor fl i t) ρ Q ↔ ∃ ρ1, borS i ρ = some ρ1 ∧ Wp t ρ1 (fun a ρ2 => fl a = true ∧ ρ2.all flatO = true ∧ Q a (zipB ρ ρ2)) := by
  unfold Wp bor
  cases h : borS i ρ with
  | none => simp
  | some ρ1 =>
    simp only [Option.some.injEq, exists_eq_left']
    cases h2 : t ρ1 with
    | none => simp
    | some o =>
      cases o with
      | ex x ρ2 => simp
      | ok a ρ2 =>
        simp only
        rw [ok_iff (Q := fun a ρ2 => fl a = true ∧ ρ2.all flatO = true ∧ Q a (zipB ρ ρ2))]
        by_cases hc : (fl a && ρ2.all flatO) = true
        · rw [if_pos hc, ok_iff]
          rw [Bool.and_eq_true] at hc
          exact ⟨fun q => ⟨hc.1, hc.2, q⟩, fun q => q.2.2⟩
        · rw [if_neg hc]
          constructor
          · rintro ⟨_, _, e, _⟩; cases e
          · rintro ⟨h1, h2, _⟩; rw [h1, h2] at hc; exact absurd rfl hc
theorem wp_prot {t : DM α} {Q : α → List Sl → Prop} : Wp (prot t) ρ Q ↔ Wp t (pinAll ρ) (fun a ρ' => Q a (unpin ρ ρ')) := by
  unfold Wp prot
  cases h : t (pinAll ρ) with
  | none => simp
  | some o =>
    cases o with
    | ex x ρ2 => simp
    | ok a ρ2 => simp only; rw [ok_iff, ok_iff (Q := fun a ρ' => Q a (unpin ρ ρ'))]
theorem wp_callF {F : DF} {ars : List Ar} {Q : Sl → List Sl → Prop} : Wp (callF F ars) ρ Q ↔ ∃ as, argSls ρ ars = some as ∧ nodupN (lends ars) = true ∧ Wp F as (fun sl as' => Q sl (back ρ ars as')) := by
  unfold Wp callF
  cases h : argSls ρ ars with
  | none => simp
  | some as =>
    simp only [Option.some.injEq, exists_eq_left']
    by_cases hn : nodupN (lends ars) = true
    · rw [if_pos hn]
      cases h2 : F as with
      | none => simp
      | some o =>
        cases o with
        | ex x ρ2 => simp
        | ok a ρ2 => simp only; rw [ok_iff, ok_iff (Q := fun sl as' => Q sl (back ρ ars as'))]; exact ⟨fun q => ⟨hn, q⟩, fun q => q.2⟩
    · rw [if_neg hn]
      constructor
      · rintro ⟨_, _, e, _⟩; cases e
      · rintro ⟨h1, _⟩; exact absurd h1 hn
theorem wp_callF1 {F : DF} {d : D} {ars : List Ar} {Q : Sl → List Sl → Prop} (h : ∃ as, argSls ρ ars = some as ∧ nodupN (lends ars) = true ∧ Wp F (.pn d :: as) (fun sl as' => ∃ s0 as2, as' = s0 :: as2 ∧ Q sl (back ρ ars as2))) : Wp (callF1 F d ars) ρ Q := by
  obtain ⟨as, e, hn, sl, as', e2, s0, as2, rfl, q⟩ := h
  unfold Wp callF1
  rw [e]
  simp only
  rw [if_pos hn, e2]
  exact ⟨_, _, rfl, q⟩
theorem wp_callT {F : DF} {t0 : DM Sl} {t : DM (List Ar)} {Q : Sl → List Sl → Prop} (h : Wp t0 ρ (fun sl ρ1 => ∃ d, sl = .ow d ∧ Wp (prot t) ρ1 (fun ars ρ2 => Wp (callF1 F d ars) ρ2 Q))) : Wp (callT F t0 t) ρ Q := by
  unfold callT
  rw [wp_bnd]
  refine h.imp fun sl ρ1 q => ?_
  obtain ⟨d, rfl, q⟩ := q
  exact wp_bnd.mpr q
theorem wp_lend {i : Nat} {r : DM (List Ar)} {Q : List Ar → List Sl → Prop} : Wp (arLend i r) ρ Q ↔ (own? ρ[i]?).isSome = true ∧ Wp r ρ (fun as ρ1 => Q (.lend i :: as) ρ1) := by
  unfold arLend
  cases h : own? ρ[i]? with
  | none => simp [Wp, h]
  | some x =>
    simp only [Option.isSome_some, true_and]
    constructor
    · intro z
      have z' : Wp (bnd r fun as => ret (.lend i :: as)) ρ Q := by
        obtain ⟨a, ρ', e, q⟩ := z
        simp only [h] at e
        exact ⟨a, ρ', e, q⟩
      rw [wp_bnd] at z'
      exact z'.imp fun as ρ1 q => wp_ret.mp q
    · intro z
      have z' : Wp (bnd r fun as => ret (.lend i :: as)) ρ Q := wp_bnd.mpr (z.imp fun as ρ1 q => wp_ret.mpr q)
      obtain ⟨a, ρ', e, q⟩ := z'
      refine ⟨a, ρ', ?_, q⟩
      simp only [h]; exact e
/-- a def's value -/
def rtK (as : List Sl) (Q : Sl → List Sl → Prop) : Fl → List Sl → Prop := fun fl ρ' => match fl with
  | .rt sl => Q sl (outs as ρ')
  | .nx => Q (.sh .non) (outs as ρ')
  | _ => False
theorem wp_runF {n m : Nat} {T : DM Fl} {as : List Sl} {Q : Sl → List Sl → Prop} : Wp (runF n m T) as Q ↔ (as.length = n ∧ noOw as = true) ∧ Wp T (as ++ List.replicate (m - n) .un) (rtK as Q) := by
  unfold runF
  by_cases hc : as.length = n ∧ noOw as = true
  · have e : ∀ x, (if as.length = n ∧ noOw as = true then x else none) = (x : Option (Out Sl)) := fun x => if_pos hc
    unfold Wp
    simp only [e, hc, and_self, true_and]
    cases h : T (as ++ List.replicate (m - n) .un) with
    | none => simp
    | some o =>
      cases o with
      | ex x ρ2 => simp
      | ok fl ρ2 =>
        rw [ok_iff (Q := rtK as Q)]
        cases fl with
        | nx => simp only [rtK]; exact ok_iff
        | rt sl => simp only [rtK]; exact ok_iff
        | bk => simp [rtK]
        | ct => simp [rtK]
  · have e : ∀ x, (if as.length = n ∧ noOw as = true then x else none) = (none : Option (Out Sl)) := fun x => if_neg hc
    unfold Wp
    simp only [e]
    simp [hc]
theorem wp_appM {i : Nat} {t : DM (List D)} {Q : Fl → List Sl → Prop} : Wp (appM i t) ρ Q ↔ (∃ xs f, own? ρ[i]? = some (.lst xs, f)) ∧ Wp t ρ (fun ds ρ1 => ∃ d xs f, ds = [d] ∧ own? ρ1[i]? = some (.lst xs, f) ∧ xs.length < sizeLine ∧ Q .nx (ρ1.set i (f (.lst (xs ++ [d]))))) := by
  constructor
  · rintro ⟨a, ρ', e, q⟩
    unfold appM at e
    split at e
    · rename_i xs f h
      refine ⟨⟨xs, f, h⟩, ?_⟩
      unfold bnd at e
      split at e
      · rename_i ds ρ1 h1
        refine ⟨ds, ρ1, h1, ?_⟩
        match ds, e with
        | [d], e =>
          simp only [appF] at e
          split at e
          · rename_i xs1 f1 h2
            split at e
            · rename_i hz
              cases e
              exact ⟨d, xs1, f1, rfl, h2, hz, q⟩
            · cases e
          · cases e
        | [], e => cases e
        | _ :: _ :: _, e => cases e
      · cases e
      · cases e
    · cases e
  · rintro ⟨⟨xs, f, e⟩, ds, ρ1, e2, d, xs1, f1, rfl, e3, hz, q⟩
    unfold Wp appM
    rw [e]
    simp only [bnd, e2, appF, e3]
    rw [if_pos hz]
    exact ⟨_, _, rfl, q⟩
theorem wp_stM {i : Nat} {tk te : DM D} {Q : Fl → List Sl → Prop} : Wp (stM i tk te) ρ Q ↔ Wp te ρ (fun d ρ1 => (∃ xs f, own? ρ1[i]? = some (.lst xs, f)) ∧ Wp tk ρ1 (fun k ρ2 => ∃ j n xs f, k = .int j ∧ own? ρ2[i]? = some (.lst xs, f) ∧ ixN xs.length j = some n ∧ Q .nx (ρ2.set i (f (.lst (xs.set n d)))))) := by
  unfold stM
  rw [wp_bnd]
  constructor
  · intro h
    refine h.imp fun d ρ1 z => ?_
    obtain ⟨a, ρ', e, q⟩ := z
    simp only at e
    split at e
    · rename_i xs f h1
      refine ⟨⟨xs, f, h1⟩, ?_⟩
      unfold bnd at e
      split at e
      · rename_i k ρ2 h2
        refine ⟨k, ρ2, h2, ?_⟩
        simp only [stF] at e
        split at e
        · rename_i xs1 f1 j h3
          split at e
          · rename_i n h4
            cases e
            exact ⟨j, n, xs1, f1, rfl, h3, h4, q⟩
          · cases e
        · cases e
      · cases e
      · cases e
    · cases e
  · intro h
    refine h.imp fun d ρ1 z => ?_
    obtain ⟨⟨xs0, f0, e2⟩, k, ρ2, e3, j, n, xs, f, rfl, e4, e5, q⟩ := z
    unfold Wp
    simp only [e2, bnd, e3, stF, e4, e5]
    exact ⟨_, _, rfl, q⟩
theorem wp_frzM {i : Nat} {t : DM Fl} {Q : Fl → List Sl → Prop} : Wp (frzM i t) ρ Q ↔ ∃ ρ1, frzS i ρ = some ρ1 ∧ Wp t ρ1 Q := by
  unfold Wp frzM
  cases h : frzS i ρ with
  | none => simp
  | some ρ1 => simp
theorem wp_mv {i : Nat} {Q : Sl → List Sl → Prop} : Wp (mv i) ρ Q ↔ ∃ d, ρ[i]? = some (.ow d) ∧ Q (.ow d) (ρ.set i .un) := by
  unfold Wp mv
  cases h : ρ[i]? with
  | none => simp
  | some s => cases s <;> first | (rw [ok_iff]; simp; done) | simp
theorem wp_asgM {m : Tg} {t : DM D} {Q : Fl → List Sl → Prop} : Wp (asgM m t) ρ Q ↔ Wp t ρ (fun d ρ1 => ∃ ρ2, m d ρ1 = some ρ2 ∧ Q .nx ρ2) := by
  unfold asgM
  rw [wp_bnd]
  constructor
  · intro h
    refine h.imp fun d ρ1 q => ?_
    obtain ⟨a, ρ', e, q⟩ := q
    cases z : m d ρ1 with
    | none => simp only [z] at e; cases e
    | some ρ2 => simp only [z] at e; cases e; exact ⟨_, rfl, q⟩
  · intro h
    refine h.imp fun d ρ1 q => ?_
    obtain ⟨ρ2, e, q⟩ := q
    exact ⟨.nx, ρ2, by simp only [e], q⟩
theorem wp_parM {is : List Nat} {t : DM (List Sl)} {Q : Fl → List Sl → Prop} : Wp (parM is t) ρ Q ↔ Wp t ρ (fun sls ρ1 => ∃ ρ2, setSls is sls ρ1 = some ρ2 ∧ Q .nx ρ2) := by
  unfold parM
  rw [wp_bnd]
  constructor
  · intro h
    refine h.imp fun d ρ1 q => ?_
    obtain ⟨a, ρ', e, q⟩ := q
    cases z : setSls is d ρ1 with
    | none => simp only [z] at e; cases e
    | some ρ2 => simp only [z] at e; cases e; exact ⟨_, rfl, q⟩
  · intro h
    refine h.imp fun d ρ1 q => ?_
    obtain ⟨ρ2, e, q⟩ := q
    exact ⟨.nx, ρ2, by simp only [e], q⟩
/-- a loop by what holds between its turns -/
theorem wp_for {m : Tg} {b : DM Fl} {ds : List D} {Q : Fl → List Sl → Prop} (I : Nat → List Sl → Prop) (h0 : I 0 ρ)
    (hs : ∀ k d ρ, ds[k]? = some d → I k ρ → ∃ ρ1, m d ρ = some ρ1 ∧ Wp b ρ1 (fun fl ρ2 => match fl with | .nx => I (k + 1) ρ2 | .ct => I (k + 1) ρ2 | .bk => Q .nx ρ2 | .rt sl => Q (.rt sl) ρ2))
    (hd : ∀ ρ, I ds.length ρ → Q .nx ρ) : Wp (forL m b ds) ρ Q := by
  induction ds generalizing I ρ with
  | nil => exact wp_ret.mpr (hd ρ h0)
  | cons d ds ih =>
    obtain ⟨ρ1, e1, fl, ρ2, e2, q⟩ := hs 0 d ρ rfl h0
    unfold Wp forL
    simp only [e1, e2]
    cases fl with
    | nx => exact ih (fun k => I (k + 1)) q (fun k d ρ hk hi => hs (k + 1) d ρ (by simpa using hk) hi) (fun ρ hi => hd ρ (by simpa using hi))
    | ct => exact ih (fun k => I (k + 1)) q (fun k d ρ hk hi => hs (k + 1) d ρ (by simpa using hk) hi) (fun ρ hi => hd ρ (by simpa using hi))
    | bk => exact ⟨_, _, rfl, q⟩
    | rt sl => exact ⟨_, _, rfl, q⟩
theorem wp_while {c : DM Bool} {b : DM Fl} {n : Nat} {Q : Fl → List Sl → Prop} (I : Nat → List Sl → Prop) (h0 : ∃ k, k < n ∧ I k ρ)
    (hs : ∀ k ρ, I k ρ → Wp c ρ (fun r ρ1 => if r = true then Wp b ρ1 (fun fl ρ2 => match fl with | .nx => ∃ k', k' < k ∧ I k' ρ2 | .ct => ∃ k', k' < k ∧ I k' ρ2 | .bk => Q .nx ρ2 | .rt sl => Q (.rt sl) ρ2) else Q .nx ρ1)) : Wp (whileN c b n) ρ Q := by
  induction n generalizing ρ with
  | zero => obtain ⟨k, hk, _⟩ := h0; omega
  | succ n ih =>
    obtain ⟨k, hk, hi⟩ := h0
    unfold whileN
    rw [wp_bnd]
    refine (hs k ρ hi).imp fun r ρ1 q => ?_
    cases r with
    | false => exact wp_ret.mpr q
    | true =>
      simp only [if_true] at q ⊢
      obtain ⟨fl, ρ2, e2, q⟩ := q
      unfold Wp
      simp only [e2]
      cases fl with
      | nx => obtain ⟨k', lt, z⟩ := q; exact ih ⟨k', by omega, z⟩
      | ct => obtain ⟨k', lt, z⟩ := q; exact ih ⟨k', by omega, z⟩
      | bk => exact ⟨_, _, rfl, q⟩
      | rt sl => exact ⟨_, _, rfl, q⟩
theorem wp_lcM {vs : List Nat} {t : DM (List D)} {m : Tg} {c : DM Bool} {e : DM D} {Q : Sl → List Sl → Prop} (h : Wp t ρ (fun ds ρ1 => plainAt ρ1 vs = true ∧ Wp (lcL vs m c e ds []) (wipeS ρ1 vs) (fun acc ρ2 => Q (.ow (.lst acc)) (restS ρ1 vs ρ2)))) : Wp (lcM vs t m c e) ρ Q := by
  unfold lcM
  rw [wp_bnd]
  refine h.imp fun ds ρ1 q => ?_
  obtain ⟨hp, acc, ρ2, e2, q⟩ := q
  unfold Wp
  simp only [hp, if_true, e2, lcE]
  exact ⟨_, _, rfl, q⟩
theorem wp_lcL {vs : List Nat} {m : Tg} {c : DM Bool} {e : DM D} {ds : List D} {acc0 : List D} {Q : List D → List Sl → Prop} (I : Nat → List D → List Sl → Prop) (h0 : I 0 acc0 ρ)
    (hs : ∀ k d acc ρ, ds[k]? = some d → I k acc ρ → Wp (prot (itM m c e d)) ρ (fun o ρ1 => plainAt ρ1 vs = true ∧ match o with | some y => acc.length < sizeLine ∧ I (k + 1) (acc ++ [y]) (wipeS ρ1 vs) | none => I (k + 1) acc (wipeS ρ1 vs)))
    (hd : ∀ acc ρ, I ds.length acc ρ → Q acc ρ) : Wp (lcL vs m c e ds acc0) ρ Q := by
  induction ds generalizing I ρ acc0 with
  | nil => exact wp_ret.mpr (hd acc0 ρ h0)
  | cons d ds ih =>
    obtain ⟨o, ρ1, e1, hp, q⟩ := hs 0 d acc0 ρ rfl h0
    unfold Wp lcL
    simp only [e1]
    cases o with
    | none =>
      simp only [hp, if_true]
      exact ih (fun k => I (k + 1)) q (fun k d acc ρ hk hi => hs (k + 1) d acc ρ (by simpa using hk) hi) (fun acc ρ hi => hd acc ρ (by simpa using hi))
    | some y =>
      simp only [hp, q.1, decide_true, Bool.and_self, if_true]
      exact ih (fun k => I (k + 1)) q.2 (fun k d acc ρ hk hi => hs (k + 1) d acc ρ (by simpa using hk) hi) (fun acc ρ hi => hd acc ρ (by simpa using hi))
theorem wp_itM {m : Tg} {c : DM Bool} {e : DM D} {d : D} {Q : Option D → List Sl → Prop} (h : ∃ ρ1, m d ρ = some ρ1 ∧ Wp c ρ1 (fun b ρ2 => if b = true then Wp e ρ2 (fun y ρ3 => Q (some y) ρ3) else Q none ρ2)) : Wp (itM m c e d) ρ Q := by
  obtain ⟨ρ1, e1, b, ρ2, e2, q⟩ := h
  unfold Wp itM
  simp only [e1, bnd, e2]
  cases b with
  | false => exact ⟨_, _, rfl, q⟩
  | true =>
    simp only [if_true] at q ⊢
    obtain ⟨y, ρ3, e3, q⟩ := q
    refine ⟨some y, ρ3, ?_, q⟩
    unfold bnd
    rw [e3]
    rfl
theorem ite_some_iff {p : Prop} [Decidable p] {a b : α} : (if p then some a else none) = some b ↔ p ∧ a = b := by
  by_cases h : p <;> simp [h]
end
end FD

set_option Elab.async false
set_option linter.all false
set_option maxRecDepth 100000
namespace FD
open PySem L2

/-! ### one step at a time -/
section
variable {α β : Type} {ρ ρ' : List Sl}
theorem y_bnd {t : DM α} {f : α → DM β} {Q : β → List Sl → Prop} (h : Wp t ρ (fun a ρ1 => Wp (f a) ρ1 Q)) : Wp (bnd t f) ρ Q := wp_bnd.mpr h
theorem y_ret {a : α} {Q : α → List Sl → Prop} (h : Q a ρ) : Wp (ret a) ρ Q := wp_ret.mpr h
theorem y_lft {o : Option α} {a : α} {Q : α → List Sl → Prop} (e : o = some a) (h : Q a ρ) : Wp (lft o) ρ Q := wp_lft.mpr ⟨a, e, h⟩
theorem y_lftc {o : Option α} {c : Prop} [Decidable c] {a : α} {Q : α → List Sl → Prop} (e : o = if c then some a else none) (hc : c) (h : Q a ρ) : Wp (lft o) ρ Q := wp_lft.mpr ⟨a, by rw [e, if_pos hc], h⟩
theorem y_get {i : Nat} {d : D} {Q : D → List Sl → Prop} (e : ρ[i]? = some (.sh d)) (h : Q d ρ) : Wp (get i) ρ Q := wp_get.mpr ⟨d, e, h⟩
theorem y_setF {i : Nat} {sl : Sl} {Q : Fl → List Sl → Prop} (e : setSl i sl ρ = some ρ') (h : Q .nx ρ') : Wp (setF i sl) ρ Q := wp_setF.mpr ⟨ρ', e, h⟩
theorem y_setM {i : Nat} {t : DM Sl} {Q : Fl → List Sl → Prop} (h : Wp t ρ (fun sl ρ1 => Wp (setF i sl) ρ1 Q)) : Wp (setM i t) ρ Q := y_bnd h
theorem y_seq {t u : DM Fl} {Q : Fl → List Sl → Prop} (h : Wp t ρ (flK u Q)) : Wp (seqM t u) ρ Q := wp_seq.mpr h
theorem y_nx {u : DM Fl} {Q : Fl → List Sl → Prop} (h : Wp u ρ Q) : flK u Q .nx ρ := h
theorem y_rt {u : DM Fl} {sl : Sl} {Q : Fl → List Sl → Prop} (h : Q (.rt sl) ρ) : flK u Q (.rt sl) ρ := h
theorem y_bk {u : DM Fl} {Q : Fl → List Sl → Prop} (h : Q .bk ρ) : flK u Q .bk ρ := h
theorem y_ct {u : DM Fl} {Q : Fl → List Sl → Prop} (h : Q .ct ρ) : flK u Q .ct ρ := h
theorem y_ifM {c : DM Bool} {t u : DM α} {Q : α → List Sl → Prop} (h : Wp c ρ (fun b ρ1 => if b = true then Wp t ρ1 Q else Wp u ρ1 Q)) : Wp (ifM c t u) ρ Q := wp_ifM.mpr h
theorem y_fz {t : DM Sl} {Q : D → List Sl → Prop} (h : Wp t ρ (fun sl ρ1 => Q sl.dat ρ1)) : Wp (fz t) ρ Q := y_bnd (h.imp fun _ _ q => y_ret q)
theorem y_shD {t : DM D} {Q : Sl → List Sl → Prop} (h : Wp t ρ (fun d ρ1 => Q (.sh d) ρ1)) : Wp (shD t) ρ Q := y_bnd (h.imp fun _ _ q => y_ret q)
theorem y_opS {g : D → D → Option Sl} {ta tb : DM D} {Q : Sl → List Sl → Prop} (h : Wp ta ρ (fun a ρ1 => Wp tb ρ1 (fun b ρ2 => Wp (lft (g a b)) ρ2 Q))) : Wp (opS g ta tb) ρ Q := y_bnd (h.imp fun _ _ q => y_bnd q)
theorem y_callM {g : List D → Option Sl} {t : DM (List D)} {Q : Sl → List Sl → Prop} (h : Wp t ρ (fun ds ρ1 => Wp (lft (g ds)) ρ1 Q)) : Wp (callM g t) ρ Q := y_bnd h
theorem y_consM {t : DM D} {r : DM (List D)} {Q : List D → List Sl → Prop} (h : Wp t ρ (fun d ρ1 => Wp r ρ1 (fun ds ρ2 => Q (d :: ds) ρ2))) : Wp (consM t r) ρ Q := y_bnd (h.imp fun _ _ q => y_bnd (q.imp fun _ _ q => y_ret q))
theorem y_tupM {t : DM (List D)} {Q : Sl → List Sl → Prop} (h : Wp t ρ (fun ds ρ1 => ds.length ≤ sizeLine ∧ Q (.sh (.tup ds)) ρ1)) : Wp (tupM t) ρ Q := y_bnd (h.imp fun ds _ q => y_lftc (c := ds.length ≤ sizeLine) rfl q.1 q.2)
theorem y_lstM {t : DM (List D)} {Q : Sl → List Sl → Prop} (h : Wp t ρ (fun ds ρ1 => ds.length ≤ sizeLine ∧ Q (.ow (.lst ds)) ρ1)) : Wp (lstM t) ρ Q := y_bnd (h.imp fun ds _ q => y_lftc (c := ds.length ≤ sizeLine) rfl q.1 q.2)
theorem y_testM {t : DM Sl} {Q : Bool → List Sl → Prop} (h : Wp t ρ (fun sl ρ1 => ∃ b, sl = .sh (.bl b) ∧ Q b ρ1)) : Wp (testM t) ρ Q := y_bnd (h.imp fun sl _ ⟨b, e, q⟩ => y_lft (by rw [e]; rfl) q)
theorem y_truM {t : DM D} {Q : Bool → List Sl → Prop} (h : Wp t ρ (fun d ρ1 => Wp (lft (truD d)) ρ1 Q)) : Wp (truM t) ρ Q := y_bnd h
theorem y_notM {t : DM Bool} {Q : Bool → List Sl → Prop} (h : Wp t ρ (fun b ρ1 => Q (!b) ρ1)) : Wp (notM t) ρ Q := y_bnd (h.imp fun _ _ q => y_ret q)
theorem y_andM {t u : DM Bool} {Q : Bool → List Sl → Prop} (h : Wp t ρ (fun b ρ1 => if b = true then Wp u ρ1 Q else Q false ρ1)) : Wp (andM t u) ρ Q := y_bnd (h.imp fun b _ q => by cases b with | true => exact q | false => exact y_ret q)
theorem y_orM {t u : DM Bool} {Q : Bool → List Sl → Prop} (h : Wp t ρ (fun b ρ1 => if b = true then Q true ρ1 else Wp u ρ1 Q)) : Wp (orM t u) ρ Q := y_bnd (h.imp fun b _ q => by cases b with | true => exact y_ret q | false => exact q)
theorem y_andV {t u : DM D} {Q : D → List Sl → Prop} (h : Wp t ρ (fun a ρ1 => Wp (lft (truD a)) ρ1 (fun k ρ2 => if k = true then Wp u ρ2 Q else Q a ρ2))) : Wp (andV t u) ρ Q := y_bnd (h.imp fun a _ q => y_bnd (q.imp fun k _ q => by cases k with | true => exact q | false => exact y_ret q))
theorem y_orV {t u : DM D} {Q : D → List Sl → Prop} (h : Wp t ρ (fun a ρ1 => Wp (lft (truD a)) ρ1 (fun k ρ2 => if k = true then Q a ρ2 else Wp u ρ2 Q))) : Wp (orV t u) ρ Q := y_bnd (h.imp fun a _ q => y_bnd (q.imp fun k _ q => by cases k with | true => exact y_ret q | false => exact q))
theorem y_notV {t : DM D} {Q : D → List Sl → Prop} (h : Wp t ρ (fun a ρ1 => Wp (lft (truD a)) ρ1 (fun k ρ2 => Q (.bl (!k)) ρ2))) : Wp (notV t) ρ Q := y_bnd (h.imp fun a _ q => y_bnd (q.imp fun k _ q => y_ret q))
theorem y_retM {t : DM Sl} {Q : Fl → List Sl → Prop} (h : Wp t ρ (fun sl ρ1 => Q (.rt sl) ρ1)) : Wp (retM t) ρ Q := y_bnd (h.imp fun _ _ q => y_ret q)
theorem y_dropM {t : DM Sl} {Q : Fl → List Sl → Prop} (h : Wp t ρ (fun _ ρ1 => Q .nx ρ1)) : Wp (dropM t) ρ Q := y_bnd (h.imp fun _ _ q => y_ret q)
theorem y_augM {i : Nat} {g : D → D → Option Sl} {t : DM D} {Q : Fl → List Sl → Prop} (h : Wp (get i) ρ (fun a ρ1 => Wp t ρ1 (fun b ρ2 => Wp (lft (g a b)) ρ2 (fun sl ρ3 => Wp (setF i sl) ρ3 Q)))) : Wp (augM i g t) ρ Q := y_bnd (y_opS h)
theorem y_methM {g : D → List D → Option Sl} {to : DM D} {t : DM (List D)} {Q : Sl → List Sl → Prop} (h : Wp to ρ (fun d ρ1 => ∃ s, d = .str s ∧ Wp t ρ1 (fun ds ρ2 => Wp (lft (g (.str s) ds)) ρ2 Q))) : Wp (methM g to t) ρ Q := y_bnd (h.imp fun d _ ⟨s, e, q⟩ => by subst e; exact y_bnd q)
theorem y_slM {te : DM D} {tl th : DM (Option Int)} {Q : Sl → List Sl → Prop} (h : Wp te ρ (fun d ρ1 => Wp tl ρ1 (fun l ρ2 => Wp th ρ2 (fun u ρ3 => Wp (lft (slS d l u)) ρ3 Q)))) : Wp (slM te tl th) ρ Q := y_bnd (h.imp fun _ _ q => y_bnd (q.imp fun _ _ q => y_bnd q))
theorem y_part {t : DM D} {Q : Option Int → List Sl → Prop} (h : Wp t ρ (fun d ρ1 => ∃ i, d = .int i ∧ Q (some i) ρ1)) : Wp (part t) ρ Q := y_bnd (h.imp fun d _ ⟨i, e, q⟩ => y_lft (by rw [e]; rfl) q)
theorem y_negM {t : DM D} {Q : D → List Sl → Prop} (h : Wp t ρ (fun d ρ1 => ∃ i, d = .int i ∧ Q (.int (-i)) ρ1)) : Wp (negM t) ρ Q := y_bnd (h.imp fun d _ ⟨i, e, q⟩ => y_lft (by rw [e]; rfl) q)
theorem y_replM {y z : Str} {t : DM D} {Q : D → List Sl → Prop} (h : Wp t ρ (fun d ρ1 => Wp (lft (replS y z d)) ρ1 Q)) : Wp (replM y z t) ρ Q := y_bnd h
theorem y_callA {F : DF} {t : DM (List Ar)} {Q : Sl → List Sl → Prop} (h : Wp t ρ (fun ars ρ1 => Wp (callF F ars) ρ1 Q)) : Wp (callA F t) ρ Q := y_bnd h
theorem y_arVal {t : DM D} {r : DM (List Ar)} {Q : List Ar → List Sl → Prop} (h : Wp t ρ (fun d ρ1 => Wp r ρ1 (fun as ρ2 => Q (.val d :: as) ρ2))) : Wp (arVal t r) ρ Q := y_bnd (h.imp fun _ _ q => y_bnd (q.imp fun _ _ q => y_ret q))
theorem y_arNil {Q : List Ar → List Sl → Prop} (h : Q [] ρ) : Wp arNil ρ Q := y_ret h
theorem y_lend {i : Nat} {r : DM (List Ar)} {Q : List Ar → List Sl → Prop} (e : (own? ρ[i]?).isSome = true) (h : Wp r ρ (fun as ρ1 => Q (.lend i :: as) ρ1)) : Wp (arLend i r) ρ Q := wp_lend.mpr ⟨e, h⟩
theorem y_callF {F : DF} {ars : List Ar} {as : List Sl} {Q : Sl → List Sl → Prop} (e : argSls ρ ars = some as) (n : nodupN (lends ars) = true) (h : Wp F as (fun sl as' => Q sl (back ρ ars as'))) : Wp (callF F ars) ρ Q := wp_callF.mpr ⟨as, e, n, h⟩
theorem y_bor {fl : α → Bool} {i : Nat} {t : DM α} {Q : α → List Sl → Prop} (e : borS i ρ = some ρ') (h : Wp t ρ' (fun a ρ2 => fl a = true ∧ ρ2.all flatO = true ∧ Q a (zipB ρ ρ2))) : Wp (bor fl i t) ρ Q := wp_bor.mpr ⟨ρ', e, h⟩
theorem y_prot {t : DM α} {Q : α → List Sl → Prop} (h : Wp t (pinAll ρ) (fun a ρ' => Q a (unpin ρ ρ'))) : Wp (prot t) ρ Q := wp_prot.mpr h
theorem y_fsCons {t : DM Sl} {r : DM (List Sl)} {Q : List Sl → List Sl → Prop} (h : Wp t ρ (fun sl ρ1 => Wp (prot r) ρ1 (fun sls ρ2 => Q (sl :: sls) ρ2))) : Wp (fsCons t r) ρ Q := y_bnd (h.imp fun _ _ q => y_bnd (q.imp fun _ _ q => y_ret q))
theorem y_appM {i : Nat} {t : DM (List D)} {xs0 : List D} {f0 : D → Sl} {Q : Fl → List Sl → Prop} (e : own? ρ[i]? = some (.lst xs0, f0)) (h : Wp t ρ (fun ds ρ1 => ∃ d xs f, ds = [d] ∧ own? ρ1[i]? = some (.lst xs, f) ∧ xs.length < sizeLine ∧ Q .nx (ρ1.set i (f (.lst (xs ++ [d])))))) : Wp (appM i t) ρ Q := wp_appM.mpr ⟨⟨_, _, e⟩, h⟩
theorem y_stM {i : Nat} {tk te : DM D} {Q : Fl → List Sl → Prop} (h : Wp te ρ (fun d ρ1 => (∃ xs f, own? ρ1[i]? = some (.lst xs, f)) ∧ Wp tk ρ1 (fun k ρ2 => ∃ j n xs f, k = .int j ∧ own? ρ2[i]? = some (.lst xs, f) ∧ ixN xs.length j = some n ∧ Q .nx (ρ2.set i (f (.lst (xs.set n d))))))) : Wp (stM i tk te) ρ Q := wp_stM.mpr h
theorem y_frzM {i : Nat} {t : DM Fl} {Q : Fl → List Sl → Prop} (e : frzS i ρ = some ρ') (h : Wp t ρ' Q) : Wp (frzM i t) ρ Q := wp_frzM.mpr ⟨ρ', e, h⟩
theorem y_mv {i : Nat} {d : D} {Q : Sl → List Sl → Prop} (e : ρ[i]? = some (.ow d)) (h : Q (.ow d) (ρ.set i .un)) : Wp (mv i) ρ Q := wp_mv.mpr ⟨d, e, h⟩
theorem y_asgM {m : Tg} {t : DM D} {Q : Fl → List Sl → Prop} (h : Wp t ρ (fun d ρ1 => ∃ ρ2, m d ρ1 = some ρ2 ∧ Q .nx ρ2)) : Wp (asgM m t) ρ Q := wp_asgM.mpr h
theorem y_parM {is : List Nat} {t : DM (List Sl)} {Q : Fl → List Sl → Prop} (h : Wp t ρ (fun sls ρ1 => ∃ ρ2, setSls is sls ρ1 = some ρ2 ∧ Q .nx ρ2)) : Wp (parM is t) ρ Q := wp_parM.mpr h
theorem y_forM {m : Tg} {b : DM Fl} {t : DM (List D)} {Q : Fl → List Sl → Prop} (h : Wp t ρ (fun ds ρ1 => Wp (forL m b ds) ρ1 Q)) : Wp (forM m b t) ρ Q := y_bnd h
theorem y_runF {n m : Nat} {T : DM Fl} {as : List Sl} {Q : Sl → List Sl → Prop} (e : as.length = n ∧ noOw as = true) (h : Wp T (as ++ List.replicate (m - n) .un) (rtK as Q)) : Wp (runF n m T) as Q := wp_runF.mpr ⟨e, h⟩
theorem y_rtK {as : List Sl} {sl : Sl} {Q : Sl → List Sl → Prop} (h : Q sl (outs as ρ)) : rtK as Q (.rt sl) ρ := h
theorem y_rtN {as : List Sl} {Q : Sl → List Sl → Prop} (h : Q (.sh .non) (outs as ρ)) : rtK as Q .nx ρ := h
theorem y_chain {g h : D → D → Option Sl} {ta tb tc : DM D} {Q : Sl → List Sl → Prop} (p : Wp ta ρ (fun a ρ1 => Wp tb ρ1 (fun b ρ2 => ∃ k, g a b = some (.sh (.bl k)) ∧ if k = true then Wp tc ρ2 (fun c ρ3 => Wp (lft (h b c)) ρ3 Q) else Q (.sh (.bl false)) ρ2))) : Wp (chainM g h ta tb tc) ρ Q := by
  unfold chainM
  refine y_bnd (p.imp fun a ρ1 q => y_bnd (q.imp fun b ρ2 q => ?_))
  obtain ⟨k, e, q⟩ := q
  refine y_bnd (y_lft (a := k) (by rw [e]; rfl) ?_)
  cases k with
  | true => exact y_bnd q
  | false => exact y_ret q
end
/-- a list's item, a list's new item, written out -/
theorem set0 {α : Type} (x y : α) (l : List α) : (x :: l).set 0 y = y :: l := rfl
theorem setS {α : Type} (x y : α) (l : List α) (n : Nat) : (x :: l).set (n + 1) y = x :: l.set n y := rfl
theorem get0 {α : Type} (x : α) (l : List α) : (x :: l)[0]? = some x := rfl
theorem getS {α : Type} (x : α) (l : List α) (n : Nat) : (x :: l)[n + 1]? = l[n]? := by simp
end FD

set_option Elab.async false
set_option linter.all false
set_option maxRecDepth 100000
namespace FD
open PySem L2
section
variable {α β : Type} {ρ ρ' : List Sl}
theorem y_run {n m : Nat} {T : DM Fl} {as ρ : List Sl} {Q : Sl → List Sl → Prop} (e : as.length = n ∧ noOw as = true) (e2 : as ++ List.replicate (m - n) .un = ρ) (h : Wp T ρ (rtK as Q)) : Wp (runF n m T) as Q := wp_runF.mpr ⟨e, by rw [e2]; exact h⟩
theorem y_dec {c : Prop} [Decidable c] {A B : Prop} (h1 : c → A) (h2 : ¬ c → B) : if decide c = true then A else B := by
  by_cases h : c
  · rw [if_pos (by simpa using h)]; exact h1 h
  · rw [if_neg (by simpa using h)]; exact h2 h
theorem y_ndec {c : Prop} [Decidable c] {A B : Prop} (h1 : ¬ c → A) (h2 : c → B) : if (!decide c) = true then A else B := by
  by_cases h : c
  · rw [if_neg (by simpa using h)]; exact h2 h
  · rw [if_pos (by simpa using h)]; exact h1 h
theorem y_t {A B : Prop} (h : A) : if (true : Bool) = true then A else B := h
theorem y_f {A B : Prop} (h : B) : if (false : Bool) = true then A else B := h
theorem y_tb {b : Bool} {A B : Prop} (e : b = true) (h : A) : if b = true then A else B := by rw [if_pos e]; exact h
theorem y_fb {b : Bool} {A B : Prop} (e : b = false) (h : B) : if b = true then A else B := by rw [e]; exact h
theorem y_nt {A B : Prop} (h : B) : if (!true : Bool) = true then A else B := h
theorem y_nf {A B : Prop} (h : A) : if (!false : Bool) = true then A else B := h
theorem y_len {ds : List D} {A : Prop} (h1 : ds.length ≤ sizeLine) (h : A) : ds.length ≤ sizeLine ∧ A := ⟨h1, h⟩
/-- what comes after -/
def BorQ (fl : α → Bool) (ρ : List Sl) (Q : α → List Sl → Prop) (a : α) (ρ2 : List Sl) : Prop := fl a = true ∧ ρ2.all flatO = true ∧ Q a (zipB ρ ρ2)
theorem z_bor {fl : α → Bool} {i : Nat} {t : DM α} {Q : α → List Sl → Prop} (e : borS i ρ = some ρ') (h : Wp t ρ' (BorQ fl ρ Q)) : Wp (bor fl i t) ρ Q := wp_bor.mpr ⟨ρ', e, h⟩
theorem z_borQ {fl : α → Bool} {Q : α → List Sl → Prop} {a : α} {ρ2 ρ3 : List Sl} (h1 : fl a = true) (h2 : ρ2.all flatO = true) (e : zipB ρ ρ2 = ρ3) (h : Q a ρ3) : BorQ fl ρ Q a ρ2 := ⟨h1, h2, by rw [e]; exact h⟩
def BackQ (ρ : List Sl) (ars : List Ar) (Q : Sl → List Sl → Prop) (a : Sl) (as' : List Sl) : Prop := Q a (back ρ ars as')
theorem z_callF {F : DF} {ars : List Ar} {as : List Sl} {Q : Sl → List Sl → Prop} (e : argSls ρ ars = some as) (n : nodupN (lends ars) = true) (h : Wp F as (BackQ ρ ars Q)) : Wp (callF F ars) ρ Q := wp_callF.mpr ⟨as, e, n, h⟩
theorem z_backQ {ars : List Ar} {Q : Sl → List Sl → Prop} {a : Sl} {as' ρ3 : List Sl} (e : back ρ ars as' = ρ3) (h : Q a ρ3) : BackQ ρ ars Q a as' := by unfold BackQ; rw [e]; exact h
def Back1Q (ρ : List Sl) (ars : List Ar) (Q : Sl → List Sl → Prop) (a : Sl) (as' : List Sl) : Prop := ∃ s0 as2, as' = s0 :: as2 ∧ Q a (back ρ ars as2)
theorem z_callF1 {F : DF} {d : D} {ars : List Ar} {as : List Sl} {Q : Sl → List Sl → Prop} (e : argSls ρ ars = some as) (n : nodupN (lends ars) = true) (h : Wp F (.pn d :: as) (Back1Q ρ ars Q)) : Wp (callF1 F d ars) ρ Q := wp_callF1 ⟨as, e, n, h⟩
theorem z_back1Q {ars : List Ar} {Q : Sl → List Sl → Prop} {a s0 : Sl} {as2 ρ3 : List Sl} (e : back ρ ars as2 = ρ3) (h : Q a ρ3) : Back1Q ρ ars Q a (s0 :: as2) := ⟨s0, as2, rfl, by rw [e]; exact h⟩
def UnpQ (ρ : List Sl) (Q : α → List Sl → Prop) (a : α) (ρ' : List Sl) : Prop := Q a (unpin ρ ρ')
theorem z_prot {t : DM α} {Q : α → List Sl → Prop} (e : pinAll ρ = ρ') (h : Wp t ρ' (UnpQ ρ Q)) : Wp (prot t) ρ Q := wp_prot.mpr (by rw [e]; exact h)
theorem z_unpQ {Q : α → List Sl → Prop} {a : α} {ρ3 : List Sl} (e : unpin ρ ρ' = ρ3) (h : Q a ρ3) : UnpQ ρ Q a ρ' := by unfold UnpQ; rw [e]; exact h
theorem z_rtK {as as' : List Sl} {sl : Sl} {Q : Sl → List Sl → Prop} (e : outs as ρ = as') (h : Q sl as') : rtK as Q (.rt sl) ρ := by unfold rtK; simp only; rw [e]; exact h
theorem z_rtN {as as' : List Sl} {Q : Sl → List Sl → Prop} (e : outs as ρ = as') (h : Q (.sh .non) as') : rtK as Q .nx ρ := by unfold rtK; simp only; rw [e]; exact h
def AppQ (i : Nat) (Q : Fl → List Sl → Prop) (ds : List D) (ρ1 : List Sl) : Prop := ∃ d xs f, ds = [d] ∧ own? ρ1[i]? = some (.lst xs, f) ∧ xs.length < sizeLine ∧ Q .nx (ρ1.set i (f (.lst (xs ++ [d]))))
theorem z_app {i : Nat} {t : DM (List D)} {xs0 : List D} {f0 : D → Sl} {Q : Fl → List Sl → Prop} (e : own? ρ[i]? = some (.lst xs0, f0)) (h : Wp t ρ (AppQ i Q)) : Wp (appM i t) ρ Q := wp_appM.mpr ⟨⟨_, _, e⟩, h⟩
theorem z_appQ {i : Nat} {Q : Fl → List Sl → Prop} {d : D} {xs : List D} {f : D → Sl} (e : own? ρ[i]? = some (.lst xs, f)) (e2 : ρ.set i (f (.lst (xs ++ [d]))) = ρ') (hz : xs.length < sizeLine) (h : Q .nx ρ') : AppQ i Q [d] ρ := ⟨d, xs, f, rfl, e, hz, by rw [e2]; exact h⟩
def StQ (i : Nat) (d : D) (Q : Fl → List Sl → Prop) (k : D) (ρ2 : List Sl) : Prop := ∃ j n xs f, k = .int j ∧ own? ρ2[i]? = some (.lst xs, f) ∧ ixN xs.length j = some n ∧ Q .nx (ρ2.set i (f (.lst (xs.set n d))))
def StK (i : Nat) (tk : DM D) (Q : Fl → List Sl → Prop) (d : D) (ρ1 : List Sl) : Prop := (∃ xs f, own? ρ1[i]? = some (.lst xs, f)) ∧ Wp tk ρ1 (StQ i d Q)
theorem z_st {i : Nat} {tk te : DM D} {Q : Fl → List Sl → Prop} (h : Wp te ρ (StK i tk Q)) : Wp (stM i tk te) ρ Q := wp_stM.mpr h
theorem z_stK {i : Nat} {tk : DM D} {Q : Fl → List Sl → Prop} {d : D} {xs : List D} {f : D → Sl} (e : own? ρ[i]? = some (.lst xs, f)) (h : Wp tk ρ (StQ i d Q)) : StK i tk Q d ρ := ⟨⟨_, _, e⟩, h⟩
theorem z_stQ {i : Nat} {d : D} {Q : Fl → List Sl → Prop} {j : Int} {n : Nat} {xs xs' : List D} {f : D → Sl} (e : own? ρ[i]? = some (.lst xs, f)) (en : ixN xs.length j = some n) (e3 : xs.set n d = xs') (e2 : ρ.set i (f (.lst xs')) = ρ') (h : Q .nx ρ') : StQ i d Q (.int j) ρ := ⟨j, n, xs, f, rfl, e, en, by rw [e3, e2]; exact h⟩
def TgQ (m : Tg) (Q : Fl → List Sl → Prop) (d : D) (ρ1 : List Sl) : Prop := ∃ ρ2, m d ρ1 = some ρ2 ∧ Q .nx ρ2
theorem z_asg {m : Tg} {t : DM D} {Q : Fl → List Sl → Prop} (h : Wp t ρ (TgQ m Q)) : Wp (asgM m t) ρ Q := wp_asgM.mpr h
theorem z_tgQ {m : Tg} {Q : Fl → List Sl → Prop} {d : D} (e : m d ρ = some ρ') (h : Q .nx ρ') : TgQ m Q d ρ := ⟨ρ', e, h⟩
def ParQ (is : List Nat) (Q : Fl → List Sl → Prop) (sls : List Sl) (ρ1 : List Sl) : Prop := ∃ ρ2, setSls is sls ρ1 = some ρ2 ∧ Q .nx ρ2
theorem z_par {is : List Nat} {t : DM (List Sl)} {Q : Fl → List Sl → Prop} (h : Wp t ρ (ParQ is Q)) : Wp (parM is t) ρ Q := wp_parM.mpr h
theorem z_parQ {is : List Nat} {Q : Fl → List Sl → Prop} {sls : List Sl} (e : setSls is sls ρ = some ρ') (h : Q .nx ρ') : ParQ is Q sls ρ := ⟨ρ', e, h⟩
def DatQ (Q : D → List Sl → Prop) (sl : Sl) (ρ : List Sl) : Prop := Q sl.dat ρ
theorem z_fz {t : DM Sl} {Q : D → List Sl → Prop} (h : Wp t ρ (DatQ Q)) : Wp (fz t) ρ Q := y_fz h
theorem z_datS {Q : D → List Sl → Prop} {d : D} (h : Q d ρ) : DatQ Q (.sh d) ρ := h
theorem z_datO {Q : D → List Sl → Prop} {d : D} (h : Q d ρ) : DatQ Q (.ow d) ρ := h
section
variable {Q : Sl → List Sl → Prop} {i j : Int} {a b : Str} {xs ys : List D}
theorem o_add (h : Q (.sh (.int (i + j))) ρ) : Wp (lft (addS (.int i) (.int j))) ρ Q := y_lft rfl h
theorem o_adds (hz : a.length + b.length ≤ sizeLine) (h : Q (.sh (.str (a ++ b))) ρ) : Wp (lft (addS (.str a) (.str b))) ρ Q := y_lftc rfl hz h
theorem o_addl (hz : xs.length + ys.length ≤ sizeLine) (h : Q (.ow (.lst (xs ++ ys))) ρ) : Wp (lft (addS (.lst xs) (.lst ys))) ρ Q := y_lftc rfl hz h
theorem o_addt (hz : xs.length + ys.length ≤ sizeLine) (h : Q (.sh (.tup (xs ++ ys))) ρ) : Wp (lft (addS (.tup xs) (.tup ys))) ρ Q := y_lftc rfl hz h
theorem o_sub (h : Q (.sh (.int (i - j))) ρ) : Wp (lft (subS (.int i) (.int j))) ρ Q := y_lft rfl h
theorem o_mul (hz : i.natAbs.log2 + j.natAbs.log2 < 1000000) (h : Q (.sh (.int (i * j))) ρ) : Wp (lft (mulS (.int i) (.int j))) ρ Q := y_lftc rfl hz h
theorem o_fdiv (hz : 0 < j ∧ j.natAbs.log2 < 9000) (h : Q (.sh (.int (i / j))) ρ) : Wp (lft (fdivS (.int i) (.int j))) ρ Q := y_lftc rfl hz h
theorem o_mod (hz : 0 < j) (h : Q (.sh (.int (i % j))) ρ) : Wp (lft (modS (.int i) (.int j))) ρ Q := y_lftc rfl hz h
theorem o_pow (hz : 0 ≤ j ∧ j ≤ 1000000 ∧ i.natAbs < 2 ^ 64) (h : Q (.sh (.int (i ^ j.toNat))) ρ) : Wp (lft (powS (.int i) (.int j))) ρ Q := y_lftc rfl hz h
theorem o_lt (h : Q (.sh (.bl (decide (i < j)))) ρ) : Wp (lft (ltS (.int i) (.int j))) ρ Q := y_lft rfl h
theorem o_le (h : Q (.sh (.bl (decide (i ≤ j)))) ρ) : Wp (lft (leS (.int i) (.int j))) ρ Q := y_lft rfl h
theorem o_gt (h : Q (.sh (.bl (decide (j < i)))) ρ) : Wp (lft (gtS (.int i) (.int j))) ρ Q := y_lft rfl h
theorem o_ge (h : Q (.sh (.bl (decide (j ≤ i)))) ρ) : Wp (lft (geS (.int i) (.int j))) ρ Q := y_lft rfl h
theorem o_eqi (h : Q (.sh (.bl (decide (i = j)))) ρ) : Wp (lft (eqS (.int i) (.int j))) ρ Q := y_lft (a := .sh (.bl (decide (i = j)))) (by simp only [eqS, plain, plainN, Bool.and_self, if_true, deq]; congr 3) h
theorem o_nei (h : Q (.sh (.bl (!decide (i = j)))) ρ) : Wp (lft (neS (.int i) (.int j))) ρ Q := y_lft (a := .sh (.bl (!decide (i = j)))) (by simp only [neS, plain, plainN, Bool.and_self, if_true, deq]; congr 4) h
theorem o_eqs (h : Q (.sh (.bl (decide (a = b)))) ρ) : Wp (lft (eqS (.str a) (.str b))) ρ Q := y_lft (a := .sh (.bl (decide (a = b)))) (by simp only [eqS, plain, plainN, Bool.and_self, if_true, deq]; congr 3) h
theorem o_nes (h : Q (.sh (.bl (!decide (a = b)))) ρ) : Wp (lft (neS (.str a) (.str b))) ρ Q := y_lft (a := .sh (.bl (!decide (a = b)))) (by simp only [neS, plain, plainN, Bool.and_self, if_true, deq]; congr 4) h
theorem o_len (h : Q (.sh (.int xs.length)) ρ) : Wp (lft (lenS [.lst xs])) ρ Q := y_lft rfl h
theorem o_lent (h : Q (.sh (.int xs.length)) ρ) : Wp (lft (lenS [.tup xs])) ρ Q := y_lft rfl h
theorem o_lenc {ns : List Int} (h : Q (.sh (.int ns.length)) ρ) : Wp (lft (lenS [.scr ns])) ρ Q := y_lft rfl h
theorem o_sls {lo hi : Option Int} (hz : a.length ≤ sizeLine) (h : Q (.sh (.str (cutS a lo hi))) ρ) : Wp (lft (slS (.str a) lo hi)) ρ Q := y_lftc rfl hz h
theorem o_sll {lo hi : Option Int} (h : Q (.ow (.lst (cutD xs lo hi))) ρ) : Wp (lft (slS (.lst xs) lo hi)) ρ Q := y_lft rfl h
theorem o_slt {lo hi : Option Int} (h : Q (.sh (.tup (cutD xs lo hi))) ρ) : Wp (lft (slS (.tup xs) lo hi)) ρ Q := y_lft rfl h
theorem o_lens (hz : a.length ≤ sizeLine) (h : Q (.sh (.int a.length)) ρ) : Wp (lft (lenS [.str a])) ρ Q := y_lftc rfl hz h
theorem o_abs (h : Q (.sh (.int (if i < 0 then -i else i))) ρ) : Wp (lft (absS [.int i])) ρ Q := y_lft rfl h
theorem o_int (h : Q (.sh (.int i)) ρ) : Wp (lft (intS [.int i])) ρ Q := y_lft rfl h
theorem o_ix {d : D} (e : atI xs i = some d) (h : Q (.sh d) ρ) : Wp (lft (ixS (.lst xs) (.int i))) ρ Q := y_lft (by simp only [ixS, e, Option.map_some]) h
theorem o_ixt {d : D} (e : atI xs i = some d) (h : Q (.sh d) ρ) : Wp (lft (ixS (.tup xs) (.int i))) ρ Q := y_lft (by simp only [ixS, e, Option.map_some]) h
theorem o_ixc {ns : List Int} {d : Int} (e : atI ns i = some d) (h : Q (.sh (.int d)) ρ) : Wp (lft (ixS (.scr ns) (.int i))) ρ Q := y_lft (by simp only [ixS, e, Option.map_some]) h
theorem o_ixs {c : Nat} (hz : a.length ≤ sizeLine) (e : atI a.cps.toList i = some c) (h : Q (.sh (.str ⟨#[c]⟩)) ρ) : Wp (lft (ixS (.str a) (.int i))) ρ Q := y_lft (by simp only [ixS, if_pos hz, e, Option.map_some]) h
end
theorem atI_pos {α : Type} {xs : List α} {i : Int} (h0 : 0 ≤ i) (h1 : i < xs.length) : ∃ x, atI xs i = some x ∧ xs[i.toNat]? = some x := by
  have h2 : i.toNat < xs.length := by omega
  refine ⟨xs[i.toNat], ?_, by simp [h2]⟩
  unfold atI ixN
  simp [h0, h1, h2]
/-! loops -/
def ForQ (I : Nat → List Sl → Prop) (k : Nat) (Q : Fl → List Sl → Prop) (fl : Fl) (ρ : List Sl) : Prop := match fl with
  | .nx => I (k + 1) ρ
  | .ct => I (k + 1) ρ
  | .bk => Q .nx ρ
  | .rt sl => Q (.rt sl) ρ
section
variable {I : Nat → List Sl → Prop} {k : Nat} {Q : Fl → List Sl → Prop}
theorem z_forN (h : I (k + 1) ρ) : ForQ I k Q .nx ρ := h
theorem z_forC (h : I (k + 1) ρ) : ForQ I k Q .ct ρ := h
theorem z_forB (h : Q .nx ρ) : ForQ I k Q .bk ρ := h
theorem z_forR {sl : Sl} (h : Q (.rt sl) ρ) : ForQ I k Q (.rt sl) ρ := h
theorem z_for {m : Tg} {b : DM Fl} {ds : List D} (I : Nat → List Sl → Prop) (h0 : I 0 ρ)
    (hs : ∀ k d ρ, ds[k]? = some d → I k ρ → ∃ ρ1, m d ρ = some ρ1 ∧ Wp b ρ1 (ForQ I k Q))
    (hd : ∀ ρ, I ds.length ρ → Q .nx ρ) : Wp (forL m b ds) ρ Q := by
  refine wp_for I h0 (fun k d ρ e i => ?_) hd
  obtain ⟨ρ1, e1, h⟩ := hs k d ρ e i
  refine ⟨ρ1, e1, h.imp fun fl ρ2 q => ?_⟩
  cases fl <;> exact q
end
def free : Sl → Bool
  | .pn _ => false
  | _ => true
/-- a slot that is unset or shared -/
def opt : Option D → Sl
  | none => .un
  | some d => .sh d
theorem free_opt (o : Option D) : free (opt o) = true := by cases o <;> rfl
theorem pin_un : pin1 .un = .un := rfl
theorem pin_sh (d : D) : pin1 (.sh d) = .sh d := rfl
theorem pin_ow (d : D) : pin1 (.ow d) = .pn d := rfl
theorem pin_pn (d : D) : pin1 (.pn d) = .pn d := rfl
theorem pin_opt (o : Option D) : pin1 (opt o) = opt o := by cases o <;> rfl
theorem un_un (s : Sl) : un1 .un s = s := rfl
theorem un_sh (d : D) (s : Sl) : un1 (.sh d) s = s := rfl
theorem un_ow (d e : D) : un1 (.ow d) (.pn e) = .ow e := rfl
theorem un_pn (d : D) (s : Sl) : un1 (.pn d) s = s := rfl
theorem un_opt (o : Option D) (s : Sl) : un1 (opt o) s = s := by cases o <;> rfl
theorem bb_un (s : Sl) : bb1 .un s = .un := rfl
theorem bb_sh (d : D) (s : Sl) : bb1 (.sh d) s = .sh d := rfl
theorem bb_ow (d e : D) : bb1 (.ow d) (.pn e) = .ow e := rfl
theorem bb_pn (d e : D) : bb1 (.pn d) (.pn e) = .pn e := rfl
theorem bb_os (d e : D) : bb1 (.ow d) (.sh e) = .ow d := rfl
theorem bb_ps (d e : D) : bb1 (.pn d) (.sh e) = .pn d := rfl
theorem bb_opt (o : Option D) (s : Sl) : bb1 (opt o) s = opt o := by cases o <;> rfl
theorem fo_un : flatO .un = true := rfl
theorem fo_sh (d : D) : flatO (.sh d) = true := rfl
theorem fo_opt (o : Option D) : flatO (opt o) = true := by cases o <;> rfl
theorem fo_pn (xs : List D) : flatO (.pn (.lst xs)) = flats xs := rfl
theorem flats_strs : ∀ ts : List Str, flats (ts.map .str) = true
  | [] => rfl
  | t :: ts => by simp only [List.map_cons, flats, flat, flats_strs ts, Bool.and_self]
theorem flats_ints : ∀ ts : List Int, flats (ts.map .int) = true
  | [] => rfl
  | t :: ts => by simp only [List.map_cons, flats, flat, flats_ints ts, Bool.and_self]
theorem set_at {i : Nat} {x : Sl} {d : D} (e : ρ[i]? = some x) (h : free x = true) (e2 : ρ.set i (.sh d) = ρ') : setSl i (.sh d) ρ = some ρ' := by
  unfold setSl
  rw [e]
  cases x <;> first | (simp [free] at h; done) | (simp only; rw [e2])
theorem gN_at {i : Nat} {x : Sl} {d : D} (e : ρ[i]? = some x) (h : free x = true) (e2 : ρ.set i (.sh d) = ρ') : gN i d ρ = some ρ' := set_at e h e2
theorem g2_at {i j : Nat} {x y : Sl} {d1 d2 : D} {ρ1 ρ2 : List Sl} (e1 : ρ[i]? = some x) (hx : free x = true) (ea : ρ.set i (.sh d1) = ρ1) (e2 : ρ1[j]? = some y) (hy : free y = true) (eb : ρ1.set j (.sh d2) = ρ2) : gT 2 (gs1 (gN i) (gs1 (gN j) gs0)) (.tup [d1, d2]) ρ = some ρ2 := by
  simp only [gT, gs1, gs0, List.length_cons, List.length_nil, gN_at e1 hx ea, gN_at e2 hy eb, Option.bind, if_true]
theorem setO_at {i : Nat} {x : Sl} {d : D} (e : ρ[i]? = some x) (h : free x = true) (e2 : ρ.set i (.ow d) = ρ') : setSl i (.ow d) ρ = some ρ' := by
  unfold setSl
  rw [e]
  cases x <;> first | (simp [free] at h; done) | (simp only; rw [e2])
theorem lc_map {vs : List Nat} {m : Tg} {c : DM Bool} {e : DM D} {g : D → Option D} : ∀ (ds acc : List D), acc.length + ds.length ≤ sizeLine → (∀ d ∈ ds, ∃ ρ1, prot (itM m c e d) ρ = some (.ok (g d) ρ1) ∧ plainAt ρ1 vs = true ∧ wipeS ρ1 vs = ρ) → lcL vs m c e ds acc ρ = some (.ok (acc ++ ds.filterMap g) ρ)
  | [], acc, _, _ => by simp [lcL, ret]
  | d :: ds, acc, hz, h => by
    obtain ⟨ρ1, e1, e2, e3⟩ := h d List.mem_cons_self
    unfold lcL
    rw [e1]
    rw [List.length_cons] at hz
    cases z : g d with
    | none =>
      simp only [e2, if_true]
      rw [e3, lc_map ds acc (by omega) fun d hd => h d (List.mem_cons_of_mem _ hd), List.filterMap_cons_none z]
    | some y =>
      simp only [e2, show acc.length < sizeLine by omega, decide_true, Bool.and_self, if_true]
      rw [e3, lc_map ds (acc ++ [y]) (by rw [List.length_append, List.length_singleton]; omega) fun d hd => h d (List.mem_cons_of_mem _ hd), List.filterMap_cons_some z]
      simp
/-- a comprehension whose turns leave all as it was -/
theorem z_lc {vs : List Nat} {t : DM (List D)} {m : Tg} {c : DM Bool} {e : DM D} {Q : Sl → List Sl → Prop} (g : D → Option D)
    (h : Wp t ρ (fun ds ρ1 => ds.length ≤ sizeLine ∧ plainAt ρ1 vs = true ∧ restS ρ1 vs (wipeS ρ1 vs) = ρ1 ∧ (∀ d ∈ ds, Wp (prot (itM m c e d)) (wipeS ρ1 vs) (fun o ρ2 => o = g d ∧ plainAt ρ2 vs = true ∧ wipeS ρ2 vs = wipeS ρ1 vs)) ∧ Q (.ow (.lst (ds.filterMap g))) ρ1)) : Wp (lcM vs t m c e) ρ Q := by
  refine wp_lcM (h.imp fun ds ρ1 q => ?_)
  obtain ⟨hz, hp, hr, hs, q⟩ := q
  refine ⟨hp, _, _, lc_map (g := g) ds [] (by simpa using hz) (fun d hd => ?_), ?_⟩
  · obtain ⟨o, ρ2, e1, rfl, e2, e3⟩ := hs d hd
    exact ⟨ρ2, e1, e2, e3⟩
  · show Q (.ow (.lst ([] ++ ds.filterMap g))) (restS ρ1 vs (wipeS ρ1 vs))
    rw [hr, List.nil_append]; exact q
theorem range_get {n k : Nat} {lo : Int} {d : D} (h : (rangeL lo n)[k]? = some d) : k < n ∧ d = .int (lo + (k : Nat)) := by
  unfold rangeL at h
  rw [List.getElem?_map] at h
  by_cases hk : k < n
  · rw [List.getElem?_range hk] at h
    cases h
    exact ⟨hk, rfl⟩
  · rw [List.getElem?_eq_none (by simpa using hk)] at h
    cases h
theorem range_len {n : Nat} {lo : Int} : (rangeL lo n).length = n := by simp [rangeL]
section
variable {Q : List D → List Sl → Prop} {i j : Int}
theorem o_rng1 (hz : -(2 ^ 62) ≤ j ∧ j < 2 ^ 62) (h : Q (rangeL 0 j.toNat) ρ) : Wp (lft (rng1 [.int j])) ρ Q := y_lftc rfl hz h
theorem o_rng2 (hz : -(2 ^ 62) ≤ i ∧ i < 2 ^ 62 ∧ -(2 ^ 62) ≤ j ∧ j < 2 ^ 62) (h : Q (rangeL i (j - i).toNat) ρ) : Wp (lft (rng2 [.int i, .int j])) ρ Q := y_lftc rfl hz h
end
theorem y_eq {P : List Sl → Prop} (e : ρ = ρ') (h : P ρ') : P ρ := by rw [e]; exact h
theorem big_le : ∀ {n : Nat}, n ≤ 1000 → n ≤ sizeLine := fun h => Nat.le_trans h (by decide)
end
end FD

set_option linter.all false
set_option maxRecDepth 100000
namespace FD
open PySem L2 PySem.StrLaws
/-! ### tokens of a text, on lists of signs -/
def tokL : List Nat → List Nat → List (List Nat)
  | acc, [] => if acc = [] then [] else [acc]
  | acc, c :: r => if c = 10 ∨ c = 32 then (if acc = [] then tokL [] r else acc :: tokL [] r) else tokL (acc ++ [c]) r
def spc (c : Nat) : Nat := if c = 10 then 32 else c
theorem replL_map : ∀ l : List Nat, replL [10] [32] l = l.map spc
  | [] => replL_nil
  | c :: r => by
    by_cases h : c = 10
    · subst h
      rw [replL_hit (by simp) (by simp)]
      simp [spc, replL_map r]
    · rw [replL_miss (by simpa using h), replL_map r]
      simp [spc, h]
theorem spl_tok : ∀ (l acc : List Nat), (TL.spl [32] 0 acc (l.map spc)).filter (fun x => decide (x ≠ [])) = tokL acc l
  | [], acc => by
    rw [List.map_nil, TL.spl_nil, tokL]
    by_cases h : acc = [] <;> simp [h]
  | c :: r, acc => by
    rw [List.map_cons, tokL]
    by_cases h : c = 10 ∨ c = 32
    · have e : spc c = 32 := by rcases h with h | h <;> subst h <;> rfl
      rw [if_pos h, e, TL.spl_hit (by simp [TL.pre])]
      have ih := spl_tok r []
      by_cases ha : acc = []
      · rw [if_pos ha, List.filter_cons_of_neg (by simp [ha])]; exact ih
      · rw [if_neg ha, List.filter_cons_of_pos (by simp [ha])]; exact congrArg _ ih
    · have e : spc c = c := by unfold spc; rw [if_neg (fun z => h (.inl z))]
      rw [if_neg h, e, TL.spl_miss (TL.pre_of_head _ _ (fun z => h (.inr z)))]
      exact spl_tok r (acc ++ [c])
theorem tl_nl : TL.tl ("\n" : Str) = [10] := rfl
theorem split_tok (x : Str) : ((Txt.split (Txt.replace x "\n" " ") " ").map TL.tl).filter (fun x => decide (x ≠ [])) = tokL [] (TL.tl x) := by
  rw [TL.split_spl _ _ (by decide) (TL.kind_ok (by decide +kernel))]
  have e : TL.tl (Txt.replace x "\n" " ") = (TL.tl x).map spc := by
    show (Txt.replace x "\n" " ").cps.toList = _
    rw [replace_list (by decide)]
    exact replL_map _
  rw [e]
  exact spl_tok _ _
/-! white signs, runs without -/
def wht (l : List Nat) : Prop := ∀ c ∈ l, c = 10 ∨ c = 32
def blk (l : List Nat) : Prop := ∀ c ∈ l, ¬ (c = 10 ∨ c = 32)
def hdw : List Nat → Prop
  | [] => True
  | c :: _ => c = 10 ∨ c = 32
theorem tok_wht : ∀ (g l : List Nat), wht g → tokL [] (g ++ l) = tokL [] l
  | [], _, _ => rfl
  | c :: g, l, h => by
    rw [List.cons_append, tokL, if_pos (h c List.mem_cons_self), if_pos rfl]
    exact tok_wht g l fun c hc => h c (List.mem_cons_of_mem _ hc)
theorem tok_acc : ∀ (p acc l : List Nat), blk p → tokL acc (p ++ l) = tokL (acc ++ p) l
  | [], acc, l, _ => by simp
  | c :: p, acc, l, h => by
    rw [List.cons_append, tokL, if_neg (h c List.mem_cons_self), tok_acc p _ l fun c hc => h c (List.mem_cons_of_mem _ hc)]
    simp
theorem tok_end {acc l : List Nat} (ha : acc ≠ []) (h : hdw l) : tokL acc l = acc :: tokL [] l := by
  cases l with
  | nil => simp [tokL, ha]
  | cons c r =>
    have hc : c = 10 ∨ c = 32 := h
    rw [tokL, if_pos hc, if_neg ha]
    rw [tokL, if_pos hc, if_pos rfl]
theorem tok_run {p l : List Nat} (hp : p ≠ []) (hb : blk p) (h : hdw l) : tokL [] (p ++ l) = p :: tokL [] l := by
  rw [tok_acc p [] l hb, List.nil_append]
  exact tok_end hp h
theorem wht_hdw {g l : List Nat} (h : wht g) (hg : g ≠ []) : hdw (g ++ l) := by
  cases g with
  | nil => exact absurd rfl hg
  | cons c g => exact h c List.mem_cons_self
theorem wht_hdw0 {g : List Nat} (h : wht g) : hdw g := by
  cases g with
  | nil => trivial
  | cons c g => exact h c List.mem_cons_self
theorem tok_white {g : List Nat} (h : wht g) : tokL [] g = [] := by
  have := tok_wht g [] h
  rw [List.append_nil] at this
  rw [this]; rfl
def tokS (x : Str) : List Str := (tokL [] (TL.tl x)).map fun l => ⟨l.toArray⟩
theorem spl_len : ∀ (l acc : List Nat), (TL.spl [32] 0 acc (l.map spc)).length ≤ l.length + 1
  | [], acc => by rw [List.map_nil, TL.spl_nil]; simp
  | c :: r, acc => by
    rw [List.map_cons]
    by_cases h : spc c = 32
    · rw [h, TL.spl_hit (by simp [TL.pre])]
      have ih := spl_len r []
      simp only [List.length_cons]
      exact Nat.succ_le_succ ih
    · rw [TL.spl_miss (TL.pre_of_head _ _ h)]
      exact Nat.le_trans (spl_len r (acc ++ [spc c])) (by rw [List.length_cons]; omega)
theorem tl_repl (x : Str) : TL.tl (Txt.replace x "\n" " ") = (TL.tl x).map spc := by
  show (Txt.replace x "\n" " ").cps.toList = _
  rw [replace_list (by decide)]
  exact replL_map _
theorem len_repl (x : Str) : (Txt.replace x "\n" " ").length = x.length := by rw [TL.len_tl, tl_repl, List.length_map, ← TL.len_tl]
theorem len_split (x : Str) : (Txt.split (Txt.replace x "\n" " ") " ").length ≤ x.length + 1 := by
  have h : ((Txt.split (Txt.replace x "\n" " ") " ").map TL.tl).length ≤ x.length + 1 := by
    rw [TL.split_spl _ _ (by decide) (TL.kind_ok (by decide +kernel)), tl_repl, TL.len_tl]
    exact spl_len _ _
  rwa [List.length_map] at h
def neD : D → Option D
  | .str s => if s = "" then none else some (.str s)
  | _ => none
theorem tl_nil {s : Str} : TL.tl s = [] ↔ s = "" := ⟨fun h => TL.ext_tl h, fun h => by subst h; rfl⟩
theorem fm_strs : ∀ (l : List Str), (l.map D.str).filterMap neD = (((l.map TL.tl).filter (fun x => decide (x ≠ []))).map fun l => (⟨l.toArray⟩ : Str)).map D.str
  | [] => rfl
  | s :: l => by
    rw [List.map_cons, List.map_cons]
    by_cases h : s = ""
    · rw [List.filterMap_cons_none (by simp [neD, h]), List.filter_cons_of_neg (by simp [tl_nil.mpr h])]
      exact fm_strs l
    · rw [List.filterMap_cons_some (b := .str s) (by simp [neD, h]), List.filter_cons_of_pos (by simp only [decide_eq_true_eq]; exact fun z => h (tl_nil.mp z)), fm_strs l]
      simp only [List.map_cons, TL.mk_tl]
theorem split_strs (x : Str) : ((Txt.split (Txt.replace x "\n" " ") " ").map D.str).filterMap neD = (tokS x).map D.str := by
  rw [fm_strs, split_tok]; rfl
/-! texts in lists -/
theorem plain_strs (n : Nat) : ∀ ts : List Str, plainNs n (ts.map .str) = true
  | [] => rfl
  | t :: ts => by simp only [List.map_cons, plainNs, plainN, plain_strs n ts, Bool.and_self]
theorem any_strs (a : Str) : ∀ ts : List Str, ((ts.map D.str).any fun y => deq y (.str a)) = decide (a ∈ ts)
  | [] => rfl
  | t :: ts => by
    simp only [List.map_cons, List.any_cons, any_strs a ts, deq, List.mem_cons]
    by_cases h : t = a
    · subst h; simp
    · have : ¬ a = t := fun z => h z.symm
      simp [h, this]
theorem inS_strs (a : Str) (ts : List Str) : inS (.str a) (.lst (ts.map .str)) = some (.sh (.bl (decide (a ∈ ts)))) := by
  have h1 : plain (.lst (ts.map .str)) = true := plain_strs 59 ts
  show (if plain (.str a) && plain (.lst (ts.map .str)) then some (Sl.sh (.bl ((ts.map D.str).any fun y => deq y (.str a)))) else none) = _
  rw [h1, any_strs]
  rfl
theorem ninS_strs (a : Str) (ts : List Str) : ninS (.str a) (.lst (ts.map .str)) = some (.sh (.bl (!decide (a ∈ ts)))) := by
  have h1 : plain (.lst (ts.map .str)) = true := plain_strs 59 ts
  show (if plain (.str a) && plain (.lst (ts.map .str)) then some (Sl.sh (.bl (!(ts.map D.str).any fun y => deq y (.str a)))) else none) = _
  rw [h1, any_strs]
  rfl
theorem deqs_strs : ∀ ts us : List Str, deqs (ts.map .str) (us.map .str) = decide (ts = us)
  | [], [] => by simp [deqs]
  | [], _ :: _ => by simp [deqs]
  | _ :: _, [] => by simp [deqs]
  | t :: ts, u :: us => by
    simp only [List.map_cons, deqs, deq, deqs_strs ts us, List.cons.injEq, Bool.decide_and]
    rfl
theorem eqS_strs (ts us : List Str) : eqS (.lst (ts.map .str)) (.lst (us.map .str)) = some (.sh (.bl (decide (ts = us)))) := by
  have h1 : plain (.lst (ts.map .str)) = true := plain_strs 59 ts
  have h2 : plain (.lst (us.map .str)) = true := plain_strs 59 us
  unfold eqS
  rw [h1, h2]
  show some (Sl.sh (.bl (deqs (ts.map .str) (us.map .str)))) = _
  rw [deqs_strs]
theorem neS_strs (ts us : List Str) : neS (.lst (ts.map .str)) (.lst (us.map .str)) = some (.sh (.bl (!decide (ts = us)))) := by
  have h1 : plain (.lst (ts.map .str)) = true := plain_strs 59 ts
  have h2 : plain (.lst (us.map .str)) = true := plain_strs 59 us
  unfold neS
  rw [h1, h2]
  show some (Sl.sh (.bl (!deqs (ts.map .str) (us.map .str)))) = _
  rw [deqs_strs]
theorem tl_cut0 (s : Str) (k : Nat) : TL.tl (cutS s none (some (k : Int))) = (TL.tl s).take k := by
  show ((s.cps.toList.drop 0).take (HT.sIx s.length s.length (some (k : Int)) - 0)) = _
  rw [HT.sIx_nat, List.drop_zero, Nat.sub_zero]
  by_cases h : k ≤ s.length
  · rw [Nat.min_eq_left h]
  · rw [Nat.min_eq_right (by omega), List.take_of_length_le (by rw [← TL.len_tl]; exact Nat.le_refl _)]
    exact (List.take_of_length_le (by rw [← TL.len_tl]; omega)).symm
theorem pigeon {α : Type} [BEq α] [LawfulBEq α] : ∀ (l ts : List α), l.Nodup → (∀ x ∈ l, x ∈ ts) → l.length ≤ ts.length
  | [], _, _, _ => Nat.zero_le _
  | x :: l, ts, hn, h => by
    rw [List.nodup_cons] at hn
    have h1 := h x List.mem_cons_self
    have ih := pigeon l (ts.erase x) hn.2 fun y hy => (List.mem_erase_of_ne (a := y) (b := x) (fun z => by subst z; exact hn.1 hy)).mpr (h y (List.mem_cons_of_mem _ hy))
    rw [List.length_erase_of_mem h1] at ih
    have : 0 < ts.length := List.length_pos_of_mem h1
    rw [List.length_cons]; omega
theorem len_app (x y : Str) : (x ++ y).length = x.length + y.length := by
  rw [TL.len_tl, TL.len_tl, TL.len_tl, TL.tl_append, List.length_append]
theorem len_one (k : Nat) : (⟨#[k]⟩ : Str).length = 1 := rfl
theorem blk_app {x y : Str} (h1 : blk (TL.tl x)) (h2 : blk (TL.tl y)) : blk (TL.tl (x ++ y)) := by
  intro c hc
  rw [TL.tl_append, List.mem_append] at hc
  exact hc.elim (h1 c) (h2 c)
end FD

set_option Elab.async false
set_option linter.all false
set_option maxRecDepth 100000
namespace FD
open PySem L2
section
variable {α β : Type} {ρ ρ' : List Sl}
/-! ### steps for objects -/
theorem x_fld {cs : List Nat} {f : Str} {t : DM D} {Q : D → List Sl → Prop} (h : Wp t ρ (fun d ρ1 => Wp (lft (fldS cs f d)) ρ1 Q)) : Wp (fldM cs f t) ρ Q := y_bnd h
theorem x_ofld {i : Nat} {cs : List Nat} {f : Str} {d x : D} {g : D → Sl} {Q : D → List Sl → Prop} (e : own? ρ[i]? = some (d, g)) (e2 : fldS cs f d = some x) (h : Q x ρ) : Wp (ofldM i cs f) ρ Q := ⟨x, ρ, by unfold ofldM; rw [e]; simp only [lft, e2], h⟩
def SfQ (i : Nat) (cs : List Nat) (f : Str) (Q : Fl → List Sl → Prop) (d : D) (ρ1 : List Sl) : Prop := ∃ c ds g, own? ρ1[i]? = some (.obj c ds, g) ∧ (cs.contains c && decide (ds.length < 1000)) = true ∧ Q .nx (ρ1.set i (g (.obj c (putD f d ds))))
theorem x_sf {i : Nat} {cs : List Nat} {f : Str} {t : DM D} {Q : Fl → List Sl → Prop} (h : Wp t ρ (SfQ i cs f Q)) : Wp (sfM i cs f t) ρ Q := by
  refine y_bnd (h.imp fun d ρ1 q => ?_)
  obtain ⟨c, ds, g, e, hc, q⟩ := q
  exact ⟨.nx, _, by simp only [sfF, e, hc, if_true], q⟩
theorem x_sfQ {i : Nat} {cs : List Nat} {f : Str} {Q : Fl → List Sl → Prop} {d : D} {c : Nat} {ds ds' : List (Str × D)} {g : D → Sl} (e : own? ρ[i]? = some (.obj c ds, g)) (hc : (cs.contains c && decide (ds.length < 1000)) = true) (e2 : putD f d ds = ds') (e3 : ρ.set i (g (.obj c ds')) = ρ') (h : Q .nx ρ') : SfQ i cs f Q d ρ :=
  ⟨c, ds, g, e, hc, by rw [e2, e3]; exact h⟩
theorem x_meth {m : Str} {tb : List (Nat × DF)} {to : DM D} {t : DM (List Ar)} {Q : Sl → List Sl → Prop} (h : Wp to ρ (fun d ρ1 => ∃ F, disp m tb d = some F ∧ Wp t ρ1 (fun ars ρ2 => Wp (callF F (.val d :: ars)) ρ2 Q))) : Wp (methO m tb to t) ρ Q :=
  y_bnd (h.imp fun d _ ⟨F, e, q⟩ => y_bnd (y_lft e (y_bnd q)))
theorem x_oop {g : D → D → Option (DF × List D)} {ta tb : DM D} {Q : Sl → List Sl → Prop} (h : Wp ta ρ (fun a ρ1 => Wp tb ρ1 (fun b ρ2 => ∃ F ds, g a b = some (F, ds) ∧ Wp (callF F (ds.map .val)) ρ2 Q))) : Wp (oopM g ta tb) ρ Q :=
  y_bnd (h.imp fun _ _ q => y_bnd (q.imp fun _ _ ⟨F, ds, e, q⟩ => y_bnd (y_lft e q)))
theorem x_oun {g : D → Option (DF × List D)} {ta : DM D} {Q : Sl → List Sl → Prop} (h : Wp ta ρ (fun a ρ1 => ∃ F ds, g a = some (F, ds) ∧ Wp (callF F (ds.map .val)) ρ1 Q)) : Wp (ounM g ta) ρ Q :=
  y_bnd (h.imp fun _ _ ⟨F, ds, e, q⟩ => y_bnd (y_lft e q))
theorem x_len {tb : List (Nat × DF)} {t : DM D} {Q : Sl → List Sl → Prop} (h : Wp t ρ (fun a ρ1 => ∃ F ds, unG tb a = some (F, ds) ∧ Wp (callF F (ds.map .val)) ρ1 (fun sl ρ2 => ∃ n : Int, sl = .sh (.int n) ∧ (0 ≤ n ∧ n < 2 ^ 63) ∧ Q (.sh (.int n)) ρ2))) : Wp (lenOM tb t) ρ Q :=
  y_bnd (h.imp fun _ _ ⟨F, ds, e, q⟩ => y_bnd (y_bnd (y_lft e (q.imp fun sl ρ2 ⟨n, e2, hn, q⟩ => by subst e2; exact y_lft (by simp only [lenR, if_pos hn]) q))))
def MkQ (ρ : List Sl) (ars : List Ar) (Q : Sl → List Sl → Prop) (sl : Sl) (as' : List Sl) : Prop := sl = .sh .non ∧ ∃ s0 as2, as' = s0 :: as2 ∧ Q (.ow s0.dat) (back ρ ars as2)
theorem x_mkM {F : DF} {c : Nat} {t : DM (List Ar)} {Q : Sl → List Sl → Prop} (h : Wp t ρ (fun ars ρ1 => Wp (mkF F c ars) ρ1 Q)) : Wp (mkM F c t) ρ Q := y_bnd h
theorem x_mkF {F : DF} {c : Nat} {ars : List Ar} {as : List Sl} {Q : Sl → List Sl → Prop} (e : argSls ρ ars = some as) (n : nodupN (lends ars) = true) (h : Wp F (.pn (.obj c []) :: as) (MkQ ρ ars Q)) : Wp (mkF F c ars) ρ Q := by
  obtain ⟨sl, as', e2, rfl, s0, as2, rfl, q⟩ := h
  exact ⟨_, _, by unfold mkF; rw [e]; simp only [n, if_true, e2], q⟩
theorem x_mkQ {ars : List Ar} {Q : Sl → List Sl → Prop} {d : D} {as2 ρ3 : List Sl} (e : back ρ ars as2 = ρ3) (h : Q (.ow d) ρ3) : MkQ ρ ars Q (.sh .non) (.pn d :: as2) := ⟨rfl, _, _, rfl, by rw [e]; exact h⟩
theorem x_callAD {F : DF} {dds : List D} {t : DM (List Ar)} {Q : Sl → List Sl → Prop} (h : Wp t ρ (fun ars ρ1 => Wp (callF F (ars ++ dds.map .val)) ρ1 Q)) : Wp (callAD F dds t) ρ Q := y_bnd h
/-- xs.pop(k) -/
theorem x_pop {i : Nat} {tk : DM D} {xs0 : List D} {f0 : D → Sl} {Q : D → List Sl → Prop} (e : own? ρ[i]? = some (.lst xs0, f0)) (h : Wp tk ρ (fun k ρ1 => Wp (popF i k) ρ1 Q)) : Wp (popM i tk) ρ Q := by
  obtain ⟨k, ρ1, e1, d, ρ2, e2, q⟩ := h
  exact ⟨d, ρ2, by unfold popM; rw [e]; simp only [bnd, e1, e2], q⟩
theorem x_popF {i : Nat} {j : Int} {n : Nat} {xs : List D} {f : D → Sl} {d : D} {Q : D → List Sl → Prop} (e : own? ρ[i]? = some (.lst xs, f)) (en : ixN xs.length j = some n) (ed : xs[n]? = some d) (hz : xs.length ≤ sizeLine) (e2 : ρ.set i (f (.lst (xs.eraseIdx n))) = ρ') (h : Q d ρ') : Wp (popF i (.int j)) ρ Q :=
  ⟨d, _, by simp only [popF, e, en, ed, if_pos hz, e2], h⟩
/-! ### set comprehensions whose turns leave all as it was -/
theorem scL_map {vs : List Nat} {m : Tg} {c : DM Bool} {b : DM (List D)} {g : D → List D} : ∀ (ds : List D), (∀ d ∈ ds, ∃ ρ1, itB m c b d ρ = some (.ok (g d) ρ1) ∧ plainAt ρ1 vs = true ∧ wipeS ρ1 vs = ρ) → scL vs m c b ds ρ = some (.ok (ds.flatMap g) ρ)
  | [], _ => rfl
  | d :: ds, h => by
    obtain ⟨ρ1, e1, e2, e3⟩ := h d List.mem_cons_self
    unfold scL
    rw [e1]
    simp only [e2, if_true]
    unfold bnd
    rw [e3, scL_map ds fun d hd => h d (List.mem_cons_of_mem _ hd)]
    rfl
theorem x_ss {vs : List Nat} {t : DM (List D)} {m : Tg} {c : DM Bool} {b : DM (List D)} {Q : Sl → List Sl → Prop} (g : D → List D)
    (h : Wp t ρ (fun ds ρ1 => plainAt ρ1 vs = true ∧ restS ρ1 vs (wipeS ρ1 vs) = ρ1 ∧ (∀ d ∈ ds, Wp (itB m c b d) (wipeS ρ1 vs) (fun ys ρ2 => ys = g d ∧ plainAt ρ2 vs = true ∧ wipeS ρ2 vs = wipeS ρ1 vs)) ∧ ∃ sl, sortZ (ds.flatMap g) = some sl ∧ Q sl ρ1)) : Wp (ssM vs t m c b) ρ Q := by
  refine y_bnd (h.imp fun ds ρ1 q => ?_)
  obtain ⟨hp, hr, hs, sl, ez, q⟩ := q
  have e := scL_map (vs := vs) (m := m) (c := c) (b := b) (g := g) (ρ := wipeS ρ1 vs) ds fun d hd => by
    obtain ⟨ys, ρ2, e1, rfl, e2, e3⟩ := hs d hd
    exact ⟨ρ2, e1, e2, e3⟩
  exact ⟨sl, ρ1, by simp only [hp, if_true, e, ez, hr], q⟩
theorem x_itB {m : Tg} {c : DM Bool} {b : DM (List D)} {d : D} {Q : List D → List Sl → Prop} (h : ∃ ρ1, m d ρ = some ρ1 ∧ Wp c ρ1 (fun k ρ2 => if k = true then Wp b ρ2 Q else Q [] ρ2)) : Wp (itB m c b d) ρ Q := by
  obtain ⟨ρ1, e1, k, ρ2, e2, q⟩ := h
  unfold Wp itB
  simp only [e1, bnd, e2]
  cases k with
  | true => exact q
  | false => exact ⟨_, _, rfl, q⟩
theorem x_addB {e : DM D} {Q : List D → List Sl → Prop} (h : Wp e ρ (fun y ρ1 => Q [y] ρ1)) : Wp (addB e) ρ Q := y_bnd (h.imp fun _ _ q => y_ret q)
theorem x_inB {vs : List Nat} {t : DM (List D)} {m : Tg} {c : DM Bool} {b : DM (List D)} {Q : List D → List Sl → Prop} (g : D → List D)
    (h : Wp t ρ (fun ds ρ1 => plainAt ρ1 vs = true ∧ (∀ d ∈ ds, Wp (itB m c b d) (wipeS ρ1 vs) (fun ys ρ2 => ys = g d ∧ plainAt ρ2 vs = true ∧ wipeS ρ2 vs = wipeS ρ1 vs)) ∧ Q (ds.flatMap g) (wipeS ρ1 vs))) : Wp (inB vs t m c b) ρ Q := by
  refine y_bnd (h.imp fun ds ρ1 q => ?_)
  obtain ⟨hp, hs, q⟩ := q
  have e := scL_map (vs := vs) (m := m) (c := c) (b := b) (g := g) (ρ := wipeS ρ1 vs) ds fun d hd => by
    obtain ⟨ys, ρ2, e1, rfl, e2, e3⟩ := hs d hd
    exact ⟨ρ2, e1, e2, e3⟩
  exact ⟨ds.flatMap g, wipeS ρ1 vs, by simp only [hp, if_true, e], q⟩
/-! ### values -/
theorem sortZ_ints {is : List Int} (h : is.length < 4095) : sortZ (is.map .int) = some (.ow (.lst ((sortI is).map .int))) := by
  have e : ∀ is : List Int, intsOf (is.map .int) = some is := fun is => by
    induction is with
    | nil => rfl
    | cons i is ih => simp only [List.map_cons, intsOf, ih, Option.map_some]
  unfold sortZ
  rw [if_pos (by simpa using h), e]
theorem sortZ_strs {ss : List Str} (h : ss.length < 4095) : sortZ (ss.map .str) = some (.ow (.lst ((sortT ss).map .str))) := by
  have e : ∀ is : List Str, strsOf (is.map .str) = some is := fun is => by
    induction is with
    | nil => rfl
    | cons i is ih => simp only [List.map_cons, strsOf, ih, Option.map_some]
  unfold sortZ
  rw [if_pos (by simpa using h)]
  cases ss with
  | nil => simp [intsOf, sortI, sortT, uniq, uniqT]
  | cons s ss =>
    have : intsOf ((s :: ss).map .str) = none := rfl
    rw [this, e]
    rfl
theorem boolsOf_map (bs : List Bool) : boolsOf (bs.map .bl) = some bs := by
  induction bs with
  | nil => rfl
  | cons i is ih => simp only [List.map_cons, boolsOf, ih, Option.map_some]
theorem intsOf_map (bs : List Int) : intsOf (bs.map .int) = some bs := by
  induction bs with
  | nil => rfl
  | cons i is ih => simp only [List.map_cons, intsOf, ih, Option.map_some]
variable {Q : Sl → List Sl → Prop}
theorem o_sum {is : List Int} (h : Q (.sh (.int is.sum)) ρ) : Wp (lft (sumS [.lst (is.map .int)])) ρ Q := y_lft (by simp only [sumS, intsOf_map, Option.map_some]) h
theorem o_any {bs : List Bool} (h : Q (.sh (.bl (bs.any id))) ρ) : Wp (lft (anyS [.lst (bs.map .bl)])) ρ Q := y_lft (by simp only [anyS, boolsOf_map, Option.map_some]) h
theorem o_min2 {a b : Int} (h : Q (.sh (.int (min a b))) ρ) : Wp (lft (minS [.int a, .int b])) ρ Q := y_lft (a := .sh (.int (min a b))) (by simp only [minS]; congr 3; split <;> omega) h
theorem o_max2 {a b : Int} (h : Q (.sh (.int (max a b))) ρ) : Wp (lft (maxS [.int a, .int b])) ρ Q := y_lft (a := .sh (.int (max a b))) (by simp only [maxS]; congr 3; split <;> omega) h
theorem o_min3 {a b c : Int} (h : Q (.sh (.int (min (min a b) c))) ρ) : Wp (lft (min3S [.int a, .int b, .int c])) ρ Q := y_lft (a := .sh (.int (min (min a b) c))) (by simp only [min3S]; congr 3; (split <;> split <;> omega)) h
theorem o_sorts {ss : List Str} (hz : ss.length ≤ sizeLine) (h : Q (.ow (.lst ((ss.mergeSort leS').map .str))) ρ) : Wp (lft (sortD [.lst (ss.map .str)])) ρ Q := y_lft (sortD_strs hz) h
/-! ### defs of data alone -/
/-- F of the data ds is r, and nothing is changed -/
def Is (F : DF) (ds : List D) (r : Sl) : Prop := F (ds.map .sh) = some (.ok r (ds.map .sh))
def RtQ (r : Sl) (fl : Fl) (_ : List Sl) : Prop := fl = .rt r
theorem x_rt {r sl : Sl} (e : sl = r) : RtQ r (.rt sl) ρ := by rw [e]; rfl
theorem outs_shs : ∀ (ds : List D) (ρ : List Sl), outs (ds.map .sh) ρ = ds.map .sh
  | [], ρ => by cases ρ <;> rfl
  | d :: ds, [] => by simp [outs]
  | d :: ds, s :: ρ => by simp only [List.map_cons, outs, outs_shs ds ρ]
theorem noOw_shs : ∀ ds : List D, noOw (ds.map .sh) = true
  | [] => rfl
  | d :: ds => by simp only [List.map_cons, noOw, noOw_shs ds]
theorem is_run {n m : Nat} {T : DM Fl} {ds : List D} {r : Sl} {ρ : List Sl} (hl : ds.length = n) (e : ds.map .sh ++ List.replicate (m - n) .un = ρ) (h : Wp T ρ (RtQ r)) : Is (runF n m T) ds r := by
  obtain ⟨fl, ρ', e1, e2⟩ := h
  unfold Is runF
  have hc : (ds.map Sl.sh).length = n ∧ noOw (ds.map .sh) = true := ⟨by rw [List.length_map]; exact hl, noOw_shs ds⟩
  rw [if_pos hc, e, e1]
  have e3 : fl = .rt r := e2
  subst e3
  simp only [outs_shs]
theorem argSls_vals : ∀ ds : List D, argSls ρ (ds.map .val) = some (ds.map .sh)
  | [] => rfl
  | d :: ds => by simp only [List.map_cons, argSls, argSl, argSls_vals ds]; rfl
theorem lends_vals : ∀ ds : List D, lends (ds.map .val) = []
  | [] => rfl
  | d :: ds => by simp only [List.map_cons, lends, lends_vals ds]
theorem back_vals : ∀ (ds : List D) (as ρ : List Sl), back ρ (ds.map .val) as = ρ
  | [], as, ρ => by cases as <;> rfl
  | d :: ds, [], ρ => rfl
  | d :: ds, s :: as, ρ => by simp only [List.map_cons, back, back_vals ds as ρ]
theorem x_call {F : DF} {ds : List D} {ars : List Ar} {r : Sl} (h : Is F ds r) (e : ars = ds.map .val) (q : Q r ρ) : Wp (callF F ars) ρ Q := by
  subst e
  refine ⟨r, ρ, ?_, q⟩
  unfold callF
  rw [argSls_vals]
  simp only [lends_vals, nodupN, if_true]
  unfold Is at h
  rw [h]
  simp only [back_vals]
theorem Is.wp {F : DF} {ds : List D} {r : Sl} (h : Is F ds r) {Q : Sl → List Sl → Prop} (q : Q r (ds.map .sh)) : Wp F (ds.map .sh) Q := ⟨r, _, h, q⟩
end
end FD

set_option Elab.async false
set_option linter.all false
set_option maxRecDepth 100000
namespace FD
open PySem L2
/-! ### comprehensions over a list that is told -/
theorem lc_mapA {ρ : List Sl} {α : Type} {vs : List Nat} {m : Tg} {c : DM Bool} {e : DM D} (f : α → D) (g : α → Option D) : ∀ (xs : List α) (acc : List D), acc.length + xs.length ≤ sizeLine → (∀ x ∈ xs, ∃ ρ1, prot (itM m c e (f x)) ρ = some (.ok (g x) ρ1) ∧ plainAt ρ1 vs = true ∧ wipeS ρ1 vs = ρ) → lcL vs m c e (xs.map f) acc ρ = some (.ok (acc ++ xs.filterMap g) ρ)
  | [], acc, _, _ => by simp [lcL, ret]
  | d :: ds, acc, hz, h => by
    obtain ⟨ρ1, e1, e2, e3⟩ := h d List.mem_cons_self
    rw [List.map_cons]
    unfold lcL
    rw [e1]
    rw [List.length_cons] at hz
    cases z : g d with
    | none =>
      simp only [e2, if_true]
      rw [e3, lc_mapA f g ds acc (by omega) fun d hd => h d (List.mem_cons_of_mem _ hd), List.filterMap_cons_none z]
    | some y =>
      simp only [e2, show acc.length < sizeLine by omega, decide_true, Bool.and_self, if_true]
      rw [e3, lc_mapA f g ds (acc ++ [y]) (by rw [List.length_append, List.length_singleton]; omega) fun d hd => h d (List.mem_cons_of_mem _ hd), List.filterMap_cons_some z]
      simp
def LcQ {α : Type} (vs : List Nat) (m : Tg) (c : DM Bool) (e : DM D) (f : α → D) (g : α → Option D) (xs : List α) (Q : Sl → List Sl → Prop) (ds : List D) (ρ1 : List Sl) : Prop :=
  ds = xs.map f ∧ xs.length ≤ sizeLine ∧ plainAt ρ1 vs = true ∧ restS ρ1 vs (wipeS ρ1 vs) = ρ1 ∧ (∀ x ∈ xs, Wp (prot (itM m c e (f x))) (wipeS ρ1 vs) (fun o ρ2 => o = g x ∧ plainAt ρ2 vs = true ∧ wipeS ρ2 vs = wipeS ρ1 vs)) ∧ Q (.ow (.lst (xs.filterMap g))) ρ1
theorem x_lc {ρ : List Sl} {α : Type} {vs : List Nat} {t : DM (List D)} {m : Tg} {c : DM Bool} {e : DM D} {Q : Sl → List Sl → Prop} (f : α → D) (g : α → Option D) (xs : List α)
    (h : Wp t ρ (LcQ vs m c e f g xs Q)) : Wp (lcM vs t m c e) ρ Q := by
  refine wp_lcM (h.imp fun ds ρ1 q => ?_)
  obtain ⟨rfl, hz, hp, hr, hs, q⟩ := q
  refine ⟨hp, _, _, lc_mapA f g xs [] (by simpa using hz) (fun d hd => ?_), ?_⟩
  · obtain ⟨o, ρ2, e1, rfl, e2, e3⟩ := hs d hd
    exact ⟨ρ2, e1, e2, e3⟩
  · show Q (.ow (.lst ([] ++ xs.filterMap g))) (restS ρ1 vs (wipeS ρ1 vs))
    rw [hr, List.nil_append]; exact q
def zipN {α : Type} : Nat → List α → List (α × Nat)
  | _, [] => []
  | n, x :: l => (x, n) :: zipN (n + 1) l
theorem zipN_len {α : Type} : ∀ (n : Nat) (l : List α), (zipN n l).length = l.length
  | _, [] => rfl
  | n, x :: l => by simp only [zipN, List.length_cons, zipN_len (n + 1) l]
theorem zipN_mem {α : Type} {x : α} {i : Nat} : ∀ {n : Nat} {l : List α}, (x, i) ∈ zipN n l → x ∈ l
  | n, y :: l, h => by
    simp only [zipN, List.mem_cons] at h
    rcases h with h | h
    · cases h; exact List.mem_cons_self
    · exact List.mem_cons_of_mem _ (zipN_mem h)
theorem enumL_zip {α : Type} (f : α → D) : ∀ (l : List α) (n : Nat), enumL n (l.map f) = (zipN n l).map fun q => .tup [.int (q.2 : Nat), f q.1]
  | [], n => rfl
  | d :: ds, n => by rw [List.map_cons, enumL, enumL_zip f ds (n + 1), zipN, List.map_cons]
/-! ### patterns as data -/
structure Aut where
  steps : List (Str × Str)
  first : List Int
  follow : List (List Int)
  last : List Int
  empty : Bool
def nD (l : List Int) : D := .lst (l.map .int)
def nsD (l : List (List Int)) : D := .lst (l.map nD)
def s2D (p : Str × Str) : D := .tup [.str p.1, .str p.2]
def stD (l : List (Str × Str)) : D := .lst (l.map s2D)
def pat (A : Aut) : D := .obj 0 [("steps", stD A.steps), ("first", nD A.first), ("follow", nsD A.follow), ("last", nD A.last), ("empty", .bl A.empty)]
def mvL (l : List Int) (k : Int) : List Int := l.map (· + k)
def mgL (a b : List Int) : List Int := a ++ b.filter fun p => !a.contains p
def atL (last : List Int) (f g : List Int → List Int) (l : List (List Int)) : List (List Int) := (zipN 0 l).map fun q => if last.contains (q.2 : Int) then f q.1 else g q.1
namespace Aut
def one (s r : Str) : Aut := ⟨[(s, r)], [0], [[]], [0], false⟩
def nothing : Aut := ⟨[], [], [], [], true⟩
def chain (A B : Aut) : Aut :=
  let by_ : Int := A.steps.length
  let entry := mvL B.first by_
  ⟨A.steps ++ B.steps, A.first ++ (if A.empty then entry else []), atL A.last (mgL · entry) id A.follow ++ B.follow.map (mvL · by_), mvL B.last by_ ++ (if B.empty then A.last else []), A.empty && B.empty⟩
def alt (A B : Aut) : Aut :=
  let by_ : Int := A.steps.length
  ⟨A.steps ++ B.steps, A.first ++ mvL B.first by_, A.follow ++ B.follow.map (mvL · by_), A.last ++ mvL B.last by_, A.empty || B.empty⟩
def loop (A : Aut) (e : Bool) : Aut := ⟨A.steps, A.first, atL A.last (mgL · A.first) id A.follow, A.last, A.empty || e⟩
def maybe (A : Aut) : Aut := ⟨A.steps, A.first, A.follow, A.last, true⟩
def altn (A M : Aut) (free : Bool) : Aut :=
  let by_ : Int := A.steps.length
  let entry := mvL M.first by_
  let bs := mgL entry (if M.empty then A.first else [])
  let bm := mgL A.first (if A.empty then entry else [])
  ⟨A.steps ++ M.steps, bm, atL A.last (mgL · bs) id A.follow ++ atL M.last (fun p => mgL (mvL p by_) bm) (mvL · by_) M.follow, A.last ++ (if free || A.empty then mvL M.last by_ else []), A.empty⟩
def rep (A : Aut) : Nat → Aut
  | 0 => nothing
  | n + 1 => chain (rep A n) A
end Aut
/-! ### places -/
structure Pl (n : Nat) (l : List Int) : Prop where
  nd : l.Nodup
  rg : ∀ i ∈ l, 0 ≤ i ∧ i < n
theorem pigI : ∀ (n : Nat) (l : List Int), Pl n l → l.length ≤ n
  | 0, l, h => by
    cases l with
    | nil => exact Nat.le_refl _
    | cons i l => have := h.rg i List.mem_cons_self; omega
  | n + 1, l, h => by
    have h2 : Pl n (l.erase (n : Int)) := ⟨h.nd.erase _, fun i hi => by
      have hne : i ≠ (n : Int) := fun z => by subst z; exact (List.Nodup.mem_erase_iff h.nd).mp hi |>.1 rfl
      have := h.rg i (List.mem_of_mem_erase hi)
      omega⟩
    have := pigI n _ h2
    have := List.le_length_erase (a := (n : Int)) (l := l)
    omega
theorem Pl.len {n : Nat} {l : List Int} (h : Pl n l) : l.length ≤ n := pigI n l h
theorem Pl.nil {n : Nat} : Pl n [] := ⟨List.nodup_nil, fun _ h => by cases h⟩
theorem Pl.mono {n m : Nat} {l : List Int} (h : Pl n l) (le : n ≤ m) : Pl m l := ⟨h.nd, fun i hi => by have := h.rg i hi; omega⟩
theorem Pl.mv {n m : Nat} {l : List Int} (h : Pl m l) : Pl (n + m) (mvL l n) := ⟨by
    unfold mvL
    rw [List.nodup_iff_pairwise_ne, List.pairwise_map]
    exact (List.nodup_iff_pairwise_ne.mp h.nd).imp fun {a b} hab z => hab (by omega), fun i hi => by
    unfold mvL at hi
    rw [List.mem_map] at hi
    obtain ⟨j, hj, rfl⟩ := hi
    have := h.rg j hj
    omega⟩
theorem mem_mv {i : Int} {l : List Int} {k : Int} : i ∈ mvL l k ↔ i - k ∈ l := by
  unfold mvL
  rw [List.mem_map]
  constructor
  · rintro ⟨j, hj, rfl⟩; rw [Int.add_sub_cancel]; exact hj
  · intro h; exact ⟨_, h, by omega⟩
theorem mem_mg {i : Int} {a b : List Int} : i ∈ mgL a b ↔ i ∈ a ∨ i ∈ b := by
  unfold mgL
  rw [List.mem_append, List.mem_filter]
  by_cases h : i ∈ a <;> simp [h]
theorem Pl.mg {n : Nat} {a b : List Int} (ha : Pl n a) (hb : Pl n b) : Pl n (mgL a b) := ⟨by
    unfold mgL
    rw [List.nodup_append]
    refine ⟨ha.nd, hb.nd.filter _, fun x hx y hy z => ?_⟩
    subst z
    rw [List.mem_filter] at hy
    simp [hx] at hy, fun i hi => (mem_mg.mp hi).elim (ha.rg i) (hb.rg i)⟩
theorem Pl.app {n m : Nat} {a b : List Int} (ha : Pl n a) (hb : Pl m b) : Pl (n + m) (a ++ mvL b n) := ⟨by
    rw [List.nodup_append]
    refine ⟨ha.nd, (hb.mv (n := n)).nd, fun x hx y hy z => ?_⟩
    subst z
    have := ha.rg x hx
    have := hb.rg _ (mem_mv.mp hy)
    omega, fun i hi => by
    rw [List.mem_append] at hi
    rcases hi with hi | hi
    · have := ha.rg i hi; omega
    · have := hb.rg _ (mem_mv.mp hi); omega⟩
theorem Pl.app' {n m : Nat} {a b : List Int} (ha : Pl n a) (hb : Pl m b) : Pl (n + m) (mvL b n ++ a) := ⟨List.perm_append_comm.nodup_iff.mp (ha.app hb).nd, fun i hi => (ha.app hb).rg i (by rw [List.mem_append] at hi ⊢; exact hi.symm)⟩
structure WF (A : Aut) : Prop where
  len : A.follow.length = A.steps.length
  first : Pl A.steps.length A.first
  last : Pl A.steps.length A.last
  follow : ∀ p ∈ A.follow, Pl A.steps.length p
theorem mem_at {last : List Int} {f g : List Int → List Int} {l : List (List Int)} {p : List Int} (h : p ∈ atL last f g l) : ∃ q ∈ l, p = f q ∨ p = g q := by
  unfold atL at h
  rw [List.mem_map] at h
  obtain ⟨⟨q, i⟩, hq, rfl⟩ := h
  have := zipN_mem hq
  refine ⟨q, this, ?_⟩
  simp only
  split
  · exact .inl rfl
  · exact .inr rfl
theorem at_len {last : List Int} {f g : List Int → List Int} {l : List (List Int)} : (atL last f g l).length = l.length := by unfold atL; rw [List.length_map, zipN_len]
namespace WF
open Aut
theorem one (s r : Str) : WF (Aut.one s r) := ⟨rfl, ⟨by simp [Aut.one], by simp [Aut.one]⟩, ⟨by simp [Aut.one], by simp [Aut.one]⟩, fun p hp => by simp only [Aut.one, List.mem_singleton] at hp; subst hp; exact .nil⟩
theorem nothing : WF Aut.nothing := ⟨rfl, .nil, .nil, fun p hp => by cases hp⟩
theorem chain {A B : Aut} (a : WF A) (b : WF B) : WF (A.chain B) := by
  have e : (A.chain B).steps.length = A.steps.length + B.steps.length := List.length_append
  refine ⟨?_, ?_, ?_, ?_⟩
  · show (atL _ _ _ _ ++ List.map _ _).length = _
    rw [List.length_append, at_len, List.length_map, a.len, b.len, e]
  · rw [e]
    show Pl _ (A.first ++ if A.empty then mvL B.first A.steps.length else [])
    cases A.empty with
    | true => exact a.first.app b.first
    | false => rw [if_neg (by decide), List.append_nil]; exact a.first.mono (by omega)
  · rw [e]
    show Pl _ (mvL B.last A.steps.length ++ if B.empty then A.last else [])
    cases B.empty with
    | true => exact a.last.app' b.last
    | false => rw [if_neg (by decide), List.append_nil]; exact b.last.mv
  · intro p hp
    rw [e]
    have hp : p ∈ atL A.last (mgL · (mvL B.first A.steps.length)) id A.follow ++ B.follow.map (mvL · A.steps.length) := hp
    rw [List.mem_append] at hp
    rcases hp with hp | hp
    · obtain ⟨q, hq, h⟩ := mem_at hp
      have := (a.follow q hq).mono (m := A.steps.length + B.steps.length) (by omega)
      rcases h with rfl | rfl
      · exact this.mg b.first.mv
      · exact this
    · rw [List.mem_map] at hp
      obtain ⟨q, hq, rfl⟩ := hp
      exact (b.follow q hq).mv
theorem alt {A B : Aut} (a : WF A) (b : WF B) : WF (A.alt B) := by
  have e : (A.alt B).steps.length = A.steps.length + B.steps.length := List.length_append
  refine ⟨?_, ?_, ?_, ?_⟩
  · show (A.follow ++ List.map _ _).length = _
    rw [List.length_append, List.length_map, a.len, b.len, e]
  · rw [e]; exact a.first.app b.first
  · rw [e]; exact a.last.app b.last
  · intro p hp
    rw [e]
    have hp : p ∈ A.follow ++ B.follow.map (mvL · A.steps.length) := hp
    rw [List.mem_append] at hp
    rcases hp with hp | hp
    · exact (a.follow p hp).mono (by omega)
    · rw [List.mem_map] at hp
      obtain ⟨q, hq, rfl⟩ := hp
      exact (b.follow q hq).mv
theorem loop {A : Aut} (a : WF A) (e : Bool) : WF (A.loop e) := by
  refine ⟨?_, a.first, a.last, ?_⟩
  · show (atL A.last (mgL · A.first) id A.follow).length = _
    rw [at_len, a.len]; rfl
  · intro p hp
    obtain ⟨q, hq, h⟩ := mem_at (show p ∈ atL A.last (mgL · A.first) id A.follow from hp)
    rcases h with rfl | rfl
    · exact (a.follow q hq).mg a.first
    · exact a.follow _ hq
theorem maybe {A : Aut} (a : WF A) : WF A.maybe := ⟨a.len, a.first, a.last, a.follow⟩
theorem bs {A M : Aut} (a : WF A) (m : WF M) : Pl (A.steps.length + M.steps.length) (mgL (mvL M.first A.steps.length) (if M.empty then A.first else [])) := m.first.mv.mg (by
  cases M.empty with
  | true => exact a.first.mono (by omega)
  | false => exact .nil)
theorem bm {A M : Aut} (a : WF A) (m : WF M) : Pl (A.steps.length + M.steps.length) (mgL A.first (if A.empty then mvL M.first A.steps.length else [])) := (a.first.mono (by omega)).mg (by
  cases A.empty with
  | true => exact m.first.mv
  | false => exact .nil)
theorem altn {A M : Aut} (a : WF A) (m : WF M) (f : Bool) : WF (A.altn M f) := by
  have e : (A.altn M f).steps.length = A.steps.length + M.steps.length := List.length_append
  refine ⟨?_, ?_, ?_, ?_⟩
  · show (atL _ _ _ _ ++ atL _ _ _ _).length = _
    rw [List.length_append, at_len, at_len, a.len, m.len, e]
  · rw [e]; exact a.bm m
  · rw [e]
    show Pl _ (A.last ++ if f || A.empty then mvL M.last A.steps.length else [])
    cases f || A.empty with
    | true => exact a.last.app m.last
    | false => rw [if_neg (by decide), List.append_nil]; exact a.last.mono (by omega)
  · intro p hp
    rw [e]
    have hp : p ∈ atL A.last (mgL · (mgL (mvL M.first A.steps.length) (if M.empty then A.first else []))) id A.follow ++ atL M.last (fun p => mgL (mvL p A.steps.length) (mgL A.first (if A.empty then mvL M.first A.steps.length else []))) (mvL · A.steps.length) M.follow := hp
    rw [List.mem_append] at hp
    rcases hp with hp | hp
    · obtain ⟨q, hq, h⟩ := mem_at hp
      have := (a.follow q hq).mono (m := A.steps.length + M.steps.length) (by omega)
      rcases h with rfl | rfl
      · exact this.mg (a.bs m)
      · exact this
    · obtain ⟨q, hq, h⟩ := mem_at hp
      have := (m.follow q hq).mv (n := A.steps.length)
      rcases h with rfl | rfl
      · exact this.mg (a.bm m)
      · exact this
theorem rep {A : Aut} (a : WF A) : ∀ n, WF (A.rep n)
  | 0 => nothing
  | n + 1 => (rep a n).chain a
end WF
theorem rep_len (A : Aut) : ∀ n, (A.rep n).steps.length = n * A.steps.length
  | 0 => (Nat.zero_mul _).symm
  | n + 1 => by
    show ((A.rep n).steps ++ A.steps).length = _
    rw [List.length_append, rep_len A n, Nat.succ_mul]
theorem rep_mem {A : Aut} {x : Str × Str} : ∀ {n : Nat}, x ∈ (A.rep n).steps ↔ n ≠ 0 ∧ x ∈ A.steps
  | 0 => by simp [Aut.rep, Aut.nothing]
  | n + 1 => by
    show x ∈ (A.rep n).steps ++ A.steps ↔ _
    rw [List.mem_append, rep_mem (n := n)]
    constructor
    · rintro (⟨_, h⟩ | h) <;> exact ⟨by omega, h⟩
    · rintro ⟨_, h⟩; exact .inr h
/-! ### rules -/
section
variable {ρ : List Sl} {Q : Sl → List Sl → Prop}
theorem plainNs_ints (n : Nat) : ∀ l : List Int, plainNs n (l.map .int) = true
  | [] => rfl
  | i :: l => by simp only [List.map_cons, plainNs, plainN, plainNs_ints n l, Bool.and_self]
theorem plainNs_strs (n : Nat) : ∀ l : List Str, plainNs n (l.map .str) = true
  | [] => rfl
  | i :: l => by simp only [List.map_cons, plainNs, plainN, plainNs_strs n l, Bool.and_self]
theorem any_ints (i : Int) : ∀ l : List Int, ((l.map D.int).any fun y => deq y (.int i)) = l.contains i
  | [] => rfl
  | j :: l => by
    rw [List.map_cons, List.any_cons, List.contains_cons, any_ints i l]
    congr 1
    simp only [deq]
    by_cases h : j = i
    · subst h; rfl
    · rw [beq_false_of_ne h, beq_false_of_ne (Ne.symm h)]
theorem any_tx (i : Str) : ∀ l : List Str, ((l.map D.str).any fun y => deq y (.str i)) = l.contains i
  | [] => rfl
  | j :: l => by
    rw [List.map_cons, List.any_cons, List.contains_cons, any_tx i l]
    congr 1
    simp only [deq]
    by_cases h : j = i
    · subst h; rfl
    · rw [beq_false_of_ne h, beq_false_of_ne (Ne.symm h)]
theorem o_inI {i : Int} {l : List Int} (h : Q (.sh (.bl (l.contains i))) ρ) : Wp (lft (inS (.int i) (nD l))) ρ Q := y_lft (a := .sh (.bl (l.contains i))) (by
  show (if plain (.int i) && plain (.lst (l.map .int)) then some (Sl.sh (.bl ((l.map D.int).any fun y => deq y (.int i)))) else none) = _
  rw [any_ints]; simp only [plain, plainN, plainNs_ints, Bool.and_self, if_true]) h
theorem o_ninI {i : Int} {l : List Int} (h : Q (.sh (.bl (!l.contains i))) ρ) : Wp (lft (ninS (.int i) (nD l))) ρ Q := y_lft (a := .sh (.bl (!l.contains i))) (by
  show (if plain (.int i) && plain (.lst (l.map .int)) then some (Sl.sh (.bl (!(l.map D.int).any fun y => deq y (.int i)))) else none) = _
  rw [any_ints]; simp only [plain, plainN, plainNs_ints, Bool.and_self, if_true]) h
theorem o_ninT {i : Str} {l : List Str} (h : Q (.sh (.bl (!l.contains i))) ρ) : Wp (lft (ninS (.str i) (.lst (l.map .str)))) ρ Q := y_lft (a := .sh (.bl (!l.contains i))) (by
  show (if plain (.str i) && plain (.lst (l.map .str)) then some (Sl.sh (.bl (!(l.map D.str).any fun y => deq y (.str i)))) else none) = _
  rw [any_tx]; simp only [plain, plainN, plainNs_strs, Bool.and_self, if_true]) h
theorem o_inT {i : Str} {l : List Str} (h : Q (.sh (.bl (l.contains i))) ρ) : Wp (lft (inS (.str i) (.lst (l.map .str)))) ρ Q := y_lft (a := .sh (.bl (l.contains i))) (by
  show (if plain (.str i) && plain (.lst (l.map .str)) then some (Sl.sh (.bl ((l.map D.str).any fun y => deq y (.str i)))) else none) = _
  rw [any_tx]; simp only [plain, plainN, plainNs_strs, Bool.and_self, if_true]) h
theorem deqs_tx : ∀ l : List Str, deqs (l.map .str) (l.map .str) = true
  | [] => rfl
  | s :: l => by simp only [List.map_cons, deqs, deq, deqs_tx l, beq_self_eq_true, Bool.and_self]
theorem o_neL {a b : List Str} (e : a = b) (h : Q (.sh (.bl false)) ρ) : Wp (lft (neS (.lst (a.map .str)) (.lst (b.map .str)))) ρ Q := y_lft (a := .sh (.bl false)) (by
  subst e
  simp only [neS, plain, plainN, plainNs_strs, Bool.and_self, if_true, deq, deqs_tx, Bool.not_true]) h
theorem o_addN {a b : List Int} (hz : a.length + b.length ≤ sizeLine) (h : Q (.ow (nD (a ++ b))) ρ) : Wp (lft (addS (nD a) (nD b))) ρ Q := by
  refine o_addl (by rw [List.length_map, List.length_map]; exact hz) ?_
  rw [← List.map_append]; exact h
theorem o_addN0 {a : List Int} (hz : a.length ≤ sizeLine) (h : Q (.ow (nD (a ++ []))) ρ) : Wp (lft (addS (nD a) (.lst []))) ρ Q := o_addN (b := []) (by simpa using hz) h
theorem o_addNs {a b : List (List Int)} (hz : a.length + b.length ≤ sizeLine) (h : Q (.ow (nsD (a ++ b))) ρ) : Wp (lft (addS (nsD a) (nsD b))) ρ Q := by
  refine o_addl (by rw [List.length_map, List.length_map]; exact hz) ?_
  rw [← List.map_append]; exact h
theorem o_addSt {a b : List (Str × Str)} (hz : a.length + b.length ≤ sizeLine) (h : Q (.ow (stD (a ++ b))) ρ) : Wp (lft (addS (stD a) (stD b))) ρ Q := by
  refine o_addl (by rw [List.length_map, List.length_map]; exact hz) ?_
  rw [← List.map_append]; exact h
theorem o_lenSt {a : List (Str × Str)} (h : Q (.sh (.int (a.length : Nat))) ρ) : Wp (lft (lenS [stD a])) ρ Q := y_lft (a := .sh (.int (a.length : Nat))) (by simp [lenS, stD]) h
theorem o_listNs {a : List (List Int)} (h : Q (.ow (nsD a)) ρ) : Wp (lft (listS [nsD a])) ρ Q := y_lft rfl h
variable {R : D → List Sl → Prop} {A : Aut}
theorem o_f1 (h : R (stD A.steps) ρ) : Wp (lft (fldS [0] "steps" (pat A))) ρ R := y_lft rfl h
theorem o_f2 (h : R (nD A.first) ρ) : Wp (lft (fldS [0] "first" (pat A))) ρ R := y_lft rfl h
theorem o_f3 (h : R (nsD A.follow) ρ) : Wp (lft (fldS [0] "follow" (pat A))) ρ R := y_lft rfl h
theorem o_f4 (h : R (nD A.last) ρ) : Wp (lft (fldS [0] "last" (pat A))) ρ R := y_lft rfl h
theorem o_f5 (h : R (.bl A.empty) ρ) : Wp (lft (fldS [0] "empty" (pat A))) ρ R := y_lft rfl h
variable {S : List D → List Sl → Prop}
theorem o_itN {l : List Int} (h : S (l.map .int) ρ) : Wp (lft (itemsA (nD l))) ρ S := y_lft rfl h
theorem o_itNs {l : List (List Int)} (h : S (l.map nD) ρ) : Wp (lft (itemsA (nsD l))) ρ S := y_lft rfl h
theorem o_itSt {l : List (Str × Str)} (h : S (l.map s2D) ρ) : Wp (lft (itemsA (stD l))) ρ S := y_lft rfl h
theorem o_enNs {l : List (List Int)} (h : S ((zipN 0 l).map fun q => .tup [.int (q.2 : Nat), nD q.1]) ρ) : Wp (lft (enumD [nsD l])) ρ S := y_lft (a := (zipN 0 l).map fun q => D.tup [.int (q.2 : Nat), nD q.1]) (by
  show some (enumL 0 (l.map nD)) = _
  rw [enumL_zip]) h
end
end FD

set_option Elab.async false
set_option linter.all false
set_option maxRecDepth 100000
namespace FD
open PySem L2
/-! ### sorted lists of texts -/
theorem leS_trans (a b c : Str) (h1 : leS' a b = true) (h2 : leS' b c = true) : leS' a c = true := by
  unfold leS' at *
  rw [decide_eq_true_eq] at *
  exact List.le_trans h1 h2
theorem leS_total (a b : Str) : (leS' a b || leS' b a) = true := by
  unfold leS'
  rw [Bool.or_eq_true, decide_eq_true_eq, decide_eq_true_eq]
  exact List.le_total _ _
theorem leS_antisymm {a b : Str} (h1 : leS' a b = true) (h2 : leS' b a = true) : a = b := by
  unfold leS' at *
  rw [decide_eq_true_eq] at *
  have := List.le_antisymm h1 h2
  obtain ⟨⟨x⟩⟩ := a
  obtain ⟨⟨y⟩⟩ := b
  simp only at this
  rw [this]
theorem sorted_eq {a b : List Str} (p : a.Perm b) (ha : a.Pairwise fun x y => leS' x y = true) (hb : b.Pairwise fun x y => leS' x y = true) : a = b :=
  p.eq_of_pairwise (fun x y _ _ h1 h2 => leS_antisymm h1 h2) ha hb
theorem srt_eq {a b : List Str} (p : a.Perm b) : a.mergeSort leS' = b.mergeSort leS' :=
  sorted_eq ((List.mergeSort_perm a leS').trans (p.trans (List.mergeSort_perm b leS').symm)) (List.pairwise_mergeSort leS_trans leS_total a) (List.pairwise_mergeSort leS_trans leS_total b)
theorem uniqT_spec {α : Type} [DecidableEq α] : ∀ (xs acc : List α), acc.Nodup → (uniqT acc xs).Nodup ∧ ∀ x, x ∈ uniqT acc xs ↔ x ∈ acc ∨ x ∈ xs
  | [], acc, h => ⟨h, fun x => by simp [uniqT]⟩
  | y :: xs, acc, h => by
    show (uniqT (if (acc.any fun z => decide (z = y)) = true then acc else acc ++ [y]) xs).Nodup ∧ ∀ x, x ∈ uniqT (if (acc.any fun z => decide (z = y)) = true then acc else acc ++ [y]) xs ↔ _
    by_cases hy : y ∈ acc
    · have e : (acc.any fun z => decide (z = y)) = true := by rw [List.any_eq_true]; exact ⟨y, hy, by simp⟩
      rw [if_pos e]
      have ih := uniqT_spec xs acc h
      refine ⟨ih.1, fun x => ?_⟩
      rw [ih.2, List.mem_cons]
      constructor
      · rintro (h | h)
        · exact .inl h
        · exact .inr (.inr h)
      · rintro (h | h | h)
        · exact .inl h
        · subst h; exact .inl hy
        · exact .inr h
    · have e : ¬ (acc.any fun z => decide (z = y)) = true := by
        rw [List.any_eq_true]
        rintro ⟨z, hz, e⟩
        rw [decide_eq_true_eq] at e
        subst e
        exact hy hz
      rw [if_neg e]
      have ih := uniqT_spec xs (acc ++ [y]) (by
        rw [List.nodup_append]
        refine ⟨h, by simp, fun a ha b hb z => ?_⟩
        simp only [List.mem_singleton] at hb
        subst z; subst hb; exact hy ha)
      refine ⟨ih.1, fun x => ?_⟩
      rw [ih.2, List.mem_cons, List.mem_append, List.mem_singleton, or_assoc]
theorem uniq_nd {α : Type} [DecidableEq α] (xs : List α) : (uniq xs).Nodup := (uniqT_spec xs [] List.nodup_nil).1
theorem uniq_mem {α : Type} [DecidableEq α] {xs : List α} {x : α} : x ∈ uniq xs ↔ x ∈ xs := by
  unfold uniq
  rw [(uniqT_spec xs [] List.nodup_nil).2]
  simp
theorem perm_nd {α : Type} [DecidableEq α] {a b : List α} (ha : a.Nodup) (hb : b.Nodup) (h : ∀ x, x ∈ a ↔ x ∈ b) : a.Perm b := by
  rw [List.perm_iff_count]
  intro x
  rw [ha.count, hb.count]
  by_cases hx : x ∈ a
  · rw [if_pos hx, if_pos ((h x).mp hx)]
  · rw [if_neg hx, if_neg (fun z => hx ((h x).mpr z))]
theorem sortT_eq {a b : List Str} (h : ∀ x, x ∈ a ↔ x ∈ b) : sortT a = sortT b := srt_eq (perm_nd (uniq_nd a) (uniq_nd b) fun x => by rw [uniq_mem, uniq_mem]; exact h x)
theorem sortT_srt {a b : List Str} (hb : b.Nodup) (h : ∀ x, x ∈ a ↔ x ∈ b) : sortT a = b.mergeSort leS' := srt_eq (perm_nd (uniq_nd a) hb fun x => by rw [uniq_mem]; exact h x)
theorem srt_sortT (a : List Str) : (sortT a).mergeSort leS' = sortT a := by
  unfold sortT
  exact sorted_eq (List.mergeSort_perm _ leS') (List.pairwise_mergeSort leS_trans leS_total _) (List.pairwise_mergeSort leS_trans leS_total _)
theorem sortT_nil : sortT [] = [] := by unfold sortT uniq uniqT; simp
theorem sortT_len (a : List Str) : (sortT a).length ≤ a.length := by
  unfold sortT
  rw [List.length_mergeSort]
  have : ∀ (xs acc : List Str), (uniqT acc xs).length ≤ acc.length + xs.length := fun xs => by
    induction xs with
    | nil => intro acc; simp [uniqT]
    | cons x xs ih =>
      intro acc
      show (uniqT (if _ then acc else acc ++ [x]) xs).length ≤ _
      split
      · have := ih acc; rw [List.length_cons]; omega
      · have := ih (acc ++ [x]); rw [List.length_append] at this; simp at this ⊢; omega
  have h := this a []
  rw [List.length_nil, Nat.zero_add] at h
  exact h
/-! ### made things -/
inductive Un where | maybe | some | many
inductive Bi where | thn | or | sep | free | must
inductive Made where
  | one (s r : Str)
  | none
  | times (m : Made) (n : Nat)
  | un (k : Un) (m : Made)
  | bin (k : Bi) (a b : Made)
def Un.w : Un → Str
  | .maybe => "maybe"
  | .some => "some"
  | .many => "many"
def Bi.w : Bi → Str
  | .thn => "then"
  | .or => "or"
  | .sep => "sep"
  | .free => "free"
  | .must => "must"
def Un.ap (A : Aut) : Un → Aut
  | .maybe => A.maybe
  | .some => A.loop false
  | .many => A.loop true
def Bi.ap (A B : Aut) : Bi → Aut
  | .thn => A.chain B
  | .or => A.alt B
  | .sep => A.altn B false
  | .free => A.altn B true
  | .must => (A.chain B).loop false
namespace Made
def enc : Made → D
  | .one s r => .tup [.str "one", .str s, .str r]
  | .none => .tup [.str "none"]
  | .times m n => .tup [.str "times", enc m, .int n]
  | .un k m => .tup [.str k.w, enc m]
  | .bin k a b => .tup [.str k.w, enc a, enc b]
def aut : Made → Aut
  | .one s r => .one s r
  | .none => .nothing
  | .times m n => (aut m).rep n
  | .un k m => k.ap (aut m)
  | .bin k a b => k.ap (aut a) (aut b)
def size : Made → Nat
  | .one _ _ => 1
  | .none => 0
  | .times m n => size m * n
  | .un _ m => size m
  | .bin _ a b => size a + size b
def depth : Made → Nat
  | .one _ _ => 1
  | .none => 1
  | .times m _ => depth m + 1
  | .un _ m => depth m + 1
  | .bin _ a b => max (depth a) (depth b) + 1
/-- no part is too great -/
def Fine : Made → Prop
  | .one _ _ => True
  | .none => True
  | .times m n => Fine m ∧ n ≤ 9 ∧ size m ≤ 100
  | .un _ m => Fine m ∧ size m ≤ 100
  | .bin _ a b => Fine a ∧ Fine b ∧ size a + size b ≤ 100
def mgS (a b : List Str) : List Str := a ++ b.filter fun p => !a.contains p
def syms : Made → List Str
  | .one s _ => [s]
  | .none => []
  | .times m n => if n = 0 then [] else syms m
  | .un _ m => syms m
  | .bin _ a b => mgS (syms a) (syms b)
theorem mgS_nil (a : List Str) : mgS [] a = a := by
  unfold mgS
  rw [List.nil_append, List.filter_eq_self]
  intro x _; rfl
theorem mem_mgS {x : Str} {a b : List Str} : x ∈ mgS a b ↔ x ∈ a ∨ x ∈ b := by
  unfold mgS
  rw [List.mem_append, List.mem_filter]
  by_cases h : x ∈ a <;> simp [h]
theorem mgS_nd {a b : List Str} (ha : a.Nodup) (hb : b.Nodup) : (mgS a b).Nodup := by
  unfold mgS
  rw [List.nodup_append]
  refine ⟨ha, hb.filter _, fun x hx y hy z => ?_⟩
  subst z
  rw [List.mem_filter] at hy
  simp [hx] at hy
theorem syms_nd : ∀ m : Made, (syms m).Nodup
  | .one _ _ => by simp [syms]
  | .none => List.nodup_nil
  | .times m n => by
    unfold syms
    split
    · exact List.nodup_nil
    · exact syms_nd m
  | .un _ m => syms_nd m
  | .bin _ a b => mgS_nd (syms_nd a) (syms_nd b)
theorem un_steps (k : Un) (A : Aut) : (k.ap A).steps = A.steps := by cases k <;> rfl
theorem bi_steps (k : Bi) (A B : Aut) : (k.ap A B).steps = A.steps ++ B.steps := by cases k <;> rfl
theorem un_wf {k : Un} {A : Aut} (h : WF A) : WF (k.ap A) := by
  cases k
  · exact h.maybe
  · exact h.loop _
  · exact h.loop _
theorem bi_wf {k : Bi} {A B : Aut} (h : WF A) (h2 : WF B) : WF (k.ap A B) := by
  cases k
  · exact h.chain h2
  · exact h.alt h2
  · exact h.altn h2 _
  · exact h.altn h2 _
  · exact (h.chain h2).loop _
theorem wf : ∀ m : Made, WF m.aut
  | .one s r => .one s r
  | .none => .nothing
  | .times m n => (wf m).rep n
  | .un k m => un_wf (wf m)
  | .bin k a b => bi_wf (wf a) (wf b)
theorem steps_len : ∀ m : Made, m.aut.steps.length = m.size
  | .one s r => rfl
  | .none => rfl
  | .times m n => by show (m.aut.rep n).steps.length = m.size * n; rw [rep_len, steps_len m, Nat.mul_comm]
  | .un k m => by show (k.ap m.aut).steps.length = m.size; rw [un_steps, steps_len m]
  | .bin k a b => by show (k.ap a.aut b.aut).steps.length = a.size + b.size; rw [bi_steps, List.length_append, steps_len a, steps_len b]
theorem syms_mem {x : Str} : ∀ m : Made, x ∈ m.syms ↔ x ∈ m.aut.steps.map (·.1)
  | .one s r => by simp [syms, aut, Aut.one]
  | .none => by simp [syms, aut, Aut.nothing]
  | .times m n => by
    show x ∈ (if n = 0 then [] else syms m) ↔ x ∈ (m.aut.rep n).steps.map (·.1)
    rw [List.mem_map]
    by_cases h : n = 0
    · subst h; simp [Aut.rep, Aut.nothing]
    · rw [if_neg h, syms_mem m, List.mem_map]
      constructor
      · rintro ⟨a, ha, e⟩; exact ⟨a, rep_mem.mpr ⟨h, ha⟩, e⟩
      · rintro ⟨a, ha, e⟩; exact ⟨a, (rep_mem.mp ha).2, e⟩
  | .un k m => by show x ∈ syms m ↔ x ∈ (k.ap m.aut).steps.map (·.1); rw [un_steps, syms_mem m]
  | .bin k a b => by
    show x ∈ mgS (syms a) (syms b) ↔ x ∈ (k.ap a.aut b.aut).steps.map (·.1)
    rw [bi_steps, List.map_append, List.mem_append, mem_mgS, syms_mem a, syms_mem b]
theorem flat_enc : ∀ m : Made, flat m.enc = true
  | .one s r => rfl
  | .none => rfl
  | .times m n => by simp only [enc, flat, flats, flat_enc m, Bool.and_self]
  | .un k m => by simp only [enc, flat, flats, flat_enc m, Bool.and_self]
  | .bin k a b => by simp only [enc, flat, flats, flat_enc a, flat_enc b, Bool.and_self]
theorem flats_enc : ∀ ms : List Made, flats (ms.map enc) = true
  | [] => rfl
  | m :: ms => by simp only [List.map_cons, flats, flat_enc m, flats_enc ms, Bool.and_self]
end Made
end FD

set_option Elab.async false
set_option linter.all false
set_option maxRecDepth 100000
set_option maxHeartbeats 4000000
namespace FD.Law
open PySem L2 FD
/-! the text -/
def topS (i : Nat) : Stmt := PySem.Challenge.pw_silentslips_k11_made_of_and_symbols.main.body.getD i (.Pass ⟨0, 0, 0, 0⟩)
abbrev s_moved : Stmt := topS 6
abbrev N_moved : List Str := ["places", "by", "place"]
theorem sc_moved : FnScope N_moved ["places", "by"] (defScope s_moved) := ⟨rfl, rfl, rfl, by decide +kernel, rfl, by decide +kernel, by decide +kernel⟩
abbrev s_merged : Stmt := topS 7
abbrev N_merged : List Str := ["some", "more", "place"]
theorem sc_merged : FnScope N_merged ["some", "more"] (defScope s_merged) := ⟨rfl, rfl, rfl, by decide +kernel, rfl, by decide +kernel, by decide +kernel⟩
abbrev s_Pattern_init : Stmt := inClass (topS 8) 0
abbrev N_Pattern_init : List Str := ["self", "steps", "first", "follow", "last", "empty"]
theorem sc_Pattern_init : FnScope N_Pattern_init ["self", "steps", "first", "follow", "last", "empty"] (defScope s_Pattern_init) := ⟨rfl, rfl, rfl, by decide +kernel, rfl, by decide +kernel, by decide +kernel⟩
abbrev s_chained : Stmt := topS 11
abbrev N_chained : List Str := ["some", "more", "by", "entry", "front", "follow", "first", "last", "at", "places"]
theorem sc_chained : FnScope N_chained ["some", "more"] (defScope s_chained) := ⟨rfl, rfl, rfl, by decide +kernel, rfl, by decide +kernel, by decide +kernel⟩
abbrev s_Pattern_add : Stmt := inClass (topS 8) 1
abbrev N_Pattern_add : List Str := ["self", "other"]
theorem sc_Pattern_add : FnScope N_Pattern_add ["self", "other"] (defScope s_Pattern_add) := ⟨rfl, rfl, rfl, by decide +kernel, rfl, by decide +kernel, by decide +kernel⟩
abbrev s_Pattern_or : Stmt := inClass (topS 8) 2
abbrev N_Pattern_or : List Str := ["self", "other", "by", "follow", "first", "last", "places"]
theorem sc_Pattern_or : FnScope N_Pattern_or ["self", "other"] (defScope s_Pattern_or) := ⟨rfl, rfl, rfl, by decide +kernel, rfl, by decide +kernel, by decide +kernel⟩
abbrev s_nothing : Stmt := topS 10
abbrev N_nothing : List Str := []
theorem sc_nothing : FnScope N_nothing [] (defScope s_nothing) := ⟨rfl, rfl, rfl, by decide +kernel, rfl, by decide +kernel, by decide +kernel⟩
abbrev s_repeated : Stmt := topS 12
abbrev N_repeated : List Str := ["some", "count"]
theorem sc_repeated : FnScope N_repeated ["some", "count"] (defScope s_repeated) := ⟨rfl, rfl, rfl, by decide +kernel, rfl, by decide +kernel, by decide +kernel⟩
abbrev s_Pattern_mul : Stmt := inClass (topS 8) 3
abbrev N_Pattern_mul : List Str := ["self", "count"]
theorem sc_Pattern_mul : FnScope N_Pattern_mul ["self", "count"] (defScope s_Pattern_mul) := ⟨rfl, rfl, rfl, by decide +kernel, rfl, by decide +kernel, by decide +kernel⟩
abbrev s_alternating : Stmt := topS 14
abbrev N_alternating : List Str := ["some", "mark", "is_last_free", "by", "entry", "behind_some", "behind_mark", "front", "back", "last", "at", "places"]
theorem sc_alternating : FnScope N_alternating ["some", "mark", "is_last_free"] (defScope s_alternating) := ⟨rfl, rfl, rfl, by decide +kernel, rfl, by decide +kernel, by decide +kernel⟩
abbrev s_Pattern_floordiv : Stmt := inClass (topS 8) 5
abbrev N_Pattern_floordiv : List Str := ["self", "other"]
theorem sc_Pattern_floordiv : FnScope N_Pattern_floordiv ["self", "other"] (defScope s_Pattern_floordiv) := ⟨rfl, rfl, rfl, by decide +kernel, rfl, by decide +kernel, by decide +kernel⟩
abbrev s_Pattern_lshift : Stmt := inClass (topS 8) 6
abbrev N_Pattern_lshift : List Str := ["self", "other"]
theorem sc_Pattern_lshift : FnScope N_Pattern_lshift ["self", "other"] (defScope s_Pattern_lshift) := ⟨rfl, rfl, rfl, by decide +kernel, rfl, by decide +kernel, by decide +kernel⟩
abbrev s_looped : Stmt := topS 13
abbrev N_looped : List Str := ["some", "empty", "follow", "at", "places"]
theorem sc_looped : FnScope N_looped ["some", "empty"] (defScope s_looped) := ⟨rfl, rfl, rfl, by decide +kernel, rfl, by decide +kernel, by decide +kernel⟩
abbrev s_Pattern_rshift : Stmt := inClass (topS 8) 7
abbrev N_Pattern_rshift : List Str := ["self", "other"]
theorem sc_Pattern_rshift : FnScope N_Pattern_rshift ["self", "other"] (defScope s_Pattern_rshift) := ⟨rfl, rfl, rfl, by decide +kernel, rfl, by decide +kernel, by decide +kernel⟩
abbrev s_Pattern_neg : Stmt := inClass (topS 8) 8
abbrev N_Pattern_neg : List Str := ["self"]
theorem sc_Pattern_neg : FnScope N_Pattern_neg ["self"] (defScope s_Pattern_neg) := ⟨rfl, rfl, rfl, by decide +kernel, rfl, by decide +kernel, by decide +kernel⟩
abbrev s_Pattern_pos : Stmt := inClass (topS 8) 9
abbrev N_Pattern_pos : List Str := ["self"]
theorem sc_Pattern_pos : FnScope N_Pattern_pos ["self"] (defScope s_Pattern_pos) := ⟨rfl, rfl, rfl, by decide +kernel, rfl, by decide +kernel, by decide +kernel⟩
abbrev s_Pattern_invert : Stmt := inClass (topS 8) 10
abbrev N_Pattern_invert : List Str := ["self"]
theorem sc_Pattern_invert : FnScope N_Pattern_invert ["self"] (defScope s_Pattern_invert) := ⟨rfl, rfl, rfl, by decide +kernel, rfl, by decide +kernel, by decide +kernel⟩
abbrev s_Pattern_len : Stmt := inClass (topS 8) 12
abbrev N_Pattern_len : List Str := ["self"]
theorem sc_Pattern_len : FnScope N_Pattern_len ["self"] (defScope s_Pattern_len) := ⟨rfl, rfl, rfl, by decide +kernel, rfl, by decide +kernel, by decide +kernel⟩
abbrev s_Pattern_uses : Stmt := inClass (topS 8) 15
abbrev N_Pattern_uses : List Str := ["self", "step"]
theorem sc_Pattern_uses : FnScope N_Pattern_uses ["self"] (defScope s_Pattern_uses) := ⟨rfl, rfl, rfl, by decide +kernel, rfl, by decide +kernel, by decide +kernel⟩
abbrev s_one : Stmt := topS 9
abbrev N_one : List Str := ["symbol", "role"]
theorem sc_one : FnScope N_one ["symbol", "role"] (defScope s_one) := ⟨rfl, rfl, rfl, by decide +kernel, rfl, by decide +kernel, by decide +kernel⟩
abbrev s_law_bag : Stmt := topS 20
abbrev N_law_bag : List Str := ["_law_script", "_law_at", "_law_cell", "_law_digits"]
theorem sc_law_bag : FnScope N_law_bag ["_law_script", "_law_at"] (defScope s_law_bag) := ⟨rfl, rfl, rfl, by decide +kernel, rfl, by decide +kernel, by decide +kernel⟩
abbrev s_law_take : Stmt := topS 21
abbrev N_law_take : List Str := ["_law_dice", "_law_many", "_law_digit", "_law_mixed"]
theorem sc_law_take : FnScope N_law_take ["_law_dice", "_law_many"] (defScope s_law_take) := ⟨rfl, rfl, rfl, by decide +kernel, rfl, by decide +kernel, by decide +kernel⟩
abbrev s_law_of : Stmt := topS 22
abbrev N_law_of : List Str := ["_law_dice", "_law_some"]
theorem sc_law_of : FnScope N_law_of ["_law_dice", "_law_some"] (defScope s_law_of) := ⟨rfl, rfl, rfl, by decide +kernel, rfl, by decide +kernel, by decide +kernel⟩
abbrev s_law_signs : Stmt := topS 23
abbrev N_law_signs : List Str := ["_law_some"]
theorem sc_law_signs : FnScope N_law_signs [] (defScope s_law_signs) := ⟨rfl, rfl, rfl, by decide +kernel, rfl, by decide +kernel, by decide +kernel⟩
abbrev s_law_token : Stmt := topS 24
abbrev N_law_token : List Str := ["_law_dice", "_law_taken", "_law_chars", "_law_made", "_law_turn", "_law_base", "_law_sign"]
theorem sc_law_token : FnScope N_law_token ["_law_dice", "_law_taken"] (defScope s_law_token) := ⟨rfl, rfl, rfl, by decide +kernel, rfl, by decide +kernel, by decide +kernel⟩
abbrev s_law_name : Stmt := topS 25
abbrev N_law_name : List Str := ["_law_dice", "_law_taken", "_law_letters", "_law_made", "_law_turn", "_law_base", "_law_letter"]
theorem sc_law_name : FnScope N_law_name ["_law_dice", "_law_taken"] (defScope s_law_name) := ⟨rfl, rfl, rfl, by decide +kernel, rfl, by decide +kernel, by decide +kernel⟩
abbrev s_law_words : Stmt := topS 26
abbrev N_law_words : List Str := ["_law_bag_here", "_law_many", "_law_found", "_law_turn"]
theorem sc_law_words : FnScope N_law_words ["_law_bag_here", "_law_many"] (defScope s_law_words) := ⟨rfl, rfl, rfl, by decide +kernel, rfl, by decide +kernel, by decide +kernel⟩
abbrev s_law_size : Stmt := topS 27
abbrev N_law_size : List Str := ["_law_made", "_law_part"]
theorem sc_law_size : FnScope N_law_size ["_law_made"] (defScope s_law_size) := ⟨rfl, rfl, rfl, by decide +kernel, rfl, by decide +kernel, by decide +kernel⟩
abbrev s_law_any : Stmt := topS 28
abbrev N_law_any : List Str := ["_law_bag_here", "_law_symbols_here", "_law_roles", "_law_most", "_law_parts", "_law_room", "_law_many", "_law_turn", "_law_leaf", "_law_pick", "_law_times", "_law_at", "_law_first", "_law_second", "_law_made"]
theorem sc_law_any : FnScope N_law_any ["_law_bag_here", "_law_symbols_here", "_law_roles", "_law_most"] (defScope s_law_any) := ⟨rfl, rfl, rfl, by decide +kernel, rfl, by decide +kernel, by decide +kernel⟩
abbrev s_law_pattern : Stmt := topS 29
abbrev N_law_pattern : List Str := ["_law_made", "_law_word", "_law_first", "_law_second"]
theorem sc_law_pattern : FnScope N_law_pattern ["_law_made"] (defScope s_law_pattern) := ⟨rfl, rfl, rfl, by decide +kernel, rfl, by decide +kernel, by decide +kernel⟩
abbrev s_law_symbols : Stmt := topS 30
abbrev N_law_symbols : List Str := ["_law_made", "_law_found", "_law_part", "_law_symbol"]
theorem sc_law_symbols : FnScope N_law_symbols ["_law_made"] (defScope s_law_symbols) := ⟨rfl, rfl, rfl, by decide +kernel, rfl, by decide +kernel, by decide +kernel⟩
abbrev s_law : Stmt := topS 31
abbrev N_law : List Str := ["_law_script", "_law_at", "_law_bag_here", "_law_symbols_here", "_law_roles", "_law_made", "_law_pattern_here", "_law_size_here", "_law_due", "_law_other", "_law_told", "_law_more", "_law_both", "_law_either", "_law_turn"]
theorem sc_law : FnScope N_law ["_law_script"] (defScope s_law) := ⟨rfl, rfl, rfl, by decide +kernel, rfl, by decide +kernel, by decide +kernel⟩
/-! what it computes -/
abbrev sub : List (Nat × List Nat) := [(0, [0])]
def T_moved : DM Fl :=
  (retM (lcM [2] (bnd (get 0) fun d => lft (itemsA d)) (gN 2) (ret true) (fz (opS addS (get 2) (get 1)))))
def F_moved : DF := runF 2 3 T_moved
def T_merged : DM Fl :=
  (retM (opS addS (get 0) (fz (lcM [2] (bnd (get 1) fun d => lft (itemsA d)) (gN 2) (testM (opS ninS (get 2) (get 0))) (get 2)))))
def F_merged : DF := runF 2 3 T_merged
def T_Pattern_init : DM Fl :=
  (seqM (sfM 0 [0] "steps" (get 1))
  (seqM (sfM 0 [0] "first" (get 2))
  (seqM (sfM 0 [0] "follow" (get 3))
  (seqM (sfM 0 [0] "last" (get 4))
  (sfM 0 [0] "empty" (get 5))))))
def F_Pattern_init : DF := runF 6 6 T_Pattern_init
def T_chained : DM Fl :=
  (seqM (setM 2 (shD (fz (callM lenS (consM (fldM [0] "steps" (get 0)) (ret []))))))
  (seqM (setM 3 (shD (fz (callA F_moved (arVal (fldM [0] "first" (get 1)) (arVal (get 2) arNil))))))
  (seqM (setM 4 (lcM [8, 9] (bnd (consM (fldM [0] "follow" (get 0)) (ret [])) fun ds => lft (enumD ds)) (gT 2 (gs1 (gN 8) (gs1 (gN 9) gs0))) (ret true) (fz (ifM (testM (opS inS (get 8) (fldM [0] "last" (get 0)))) (callA F_merged (arVal (get 9) (arVal (get 3) arNil))) (shD (get 9))))))
  (frzM 4 (seqM (setM 5 (shD (fz (opS addS (get 4) (fz (lcM [9] (bnd (fldM [0] "follow" (get 1)) fun d => lft (itemsA d)) (gN 9) (ret true) (fz (callA F_moved (arVal (get 9) (arVal (get 2) arNil))))))))))
  (seqM (setM 6 (shD (fz (opS addS (fldM [0] "first" (get 0)) (fz (ifM (truM (fldM [0] "empty" (get 0))) (shD (get 3)) (lstM (ret []))))))))
  (seqM (setM 7 (shD (fz (opS addS (fz (callA F_moved (arVal (fldM [0] "last" (get 1)) (arVal (get 2) arNil)))) (fz (ifM (truM (fldM [0] "empty" (get 1))) (shD (fldM [0] "last" (get 0))) (lstM (ret []))))))))
  (retM (mkM F_Pattern_init 0 (arVal (fz (opS addS (fldM [0] "steps" (get 0)) (fldM [0] "steps" (get 1)))) (arVal (get 6) (arVal (get 5) (arVal (get 7) (arVal (andV (fldM [0] "empty" (get 0)) (fldM [0] "empty" (get 1))) arNil))))))))))))))
def F_chained : DF := runF 2 10 T_chained
def T_Pattern_add : DM Fl :=
  (seqM (ifM (notM (truM (fz (callM (isiO sub) (consM (get 1) (consM (ret (.cls 0)) (ret []))))))) failM (ret .nx))
  (retM (callA F_chained (arVal (get 0) (arVal (get 1) arNil)))))
def F_Pattern_add : DF := runF 2 2 T_Pattern_add
def T_Pattern_or : DM Fl :=
  (seqM (ifM (notM (truM (fz (callM (isiO sub) (consM (get 1) (consM (ret (.cls 0)) (ret []))))))) failM (ret .nx))
  (seqM (setM 2 (shD (fz (callM lenS (consM (fldM [0] "steps" (get 0)) (ret []))))))
  (seqM (setM 3 (shD (fz (opS addS (fz (callM listS (consM (fldM [0] "follow" (get 0)) (ret [])))) (fz (lcM [6] (bnd (fldM [0] "follow" (get 1)) fun d => lft (itemsA d)) (gN 6) (ret true) (fz (callA F_moved (arVal (get 6) (arVal (get 2) arNil))))))))))
  (seqM (setM 4 (shD (fz (opS addS (fldM [0] "first" (get 0)) (fz (callA F_moved (arVal (fldM [0] "first" (get 1)) (arVal (get 2) arNil))))))))
  (seqM (setM 5 (shD (fz (opS addS (fldM [0] "last" (get 0)) (fz (callA F_moved (arVal (fldM [0] "last" (get 1)) (arVal (get 2) arNil))))))))
  (retM (mkM F_Pattern_init 0 (arVal (fz (opS addS (fldM [0] "steps" (get 0)) (fldM [0] "steps" (get 1)))) (arVal (get 4) (arVal (get 3) (arVal (get 5) (arVal (orV (fldM [0] "empty" (get 0)) (fldM [0] "empty" (get 1))) arNil))))))))))))
def F_Pattern_or : DF := runF 2 7 T_Pattern_or
def T_nothing : DM Fl :=
  (retM (mkM F_Pattern_init 0 (arVal (fz (lstM (ret []))) (arVal (fz (lstM (ret []))) (arVal (fz (lstM (ret []))) (arVal (fz (lstM (ret []))) (arVal (ret (.bl true)) arNil)))))))
def F_nothing : DF := runF 0 0 T_nothing
def T_repeated (F_self : DF) : DM Fl :=
  (retM (ifM (testM (opS eqS (get 1) (ret (.int 0)))) (callA F_nothing arNil) (callA F_chained (arVal (fz (callA F_self (arVal (get 0) (arVal (fz (opS subS (get 1) (ret (.int 1)))) arNil)))) (arVal (get 0) arNil)))))
def G_repeated (F_self : DF) : DF := runF 2 2 (T_repeated F_self)
def F_repeated : DF := fuel G_repeated 11
def T_Pattern_mul : DM Fl :=
  (seqM (ifM (notM (testM (chainM leS leS (ret (.int 0)) (get 1) (ret (.int 9))))) failM (ret .nx))
  (retM (callA F_repeated (arVal (get 0) (arVal (get 1) arNil)))))
def F_Pattern_mul : DF := runF 2 2 T_Pattern_mul
def T_alternating : DM Fl :=
  (seqM (setM 3 (shD (fz (callM lenS (consM (fldM [0] "steps" (get 0)) (ret []))))))
  (seqM (setM 4 (shD (fz (callA F_moved (arVal (fldM [0] "first" (get 1)) (arVal (get 3) arNil))))))
  (seqM (setM 5 (shD (fz (callA F_merged (arVal (get 4) (arVal (fz (ifM (truM (fldM [0] "empty" (get 1))) (shD (fldM [0] "first" (get 0))) (lstM (ret [])))) arNil))))))
  (seqM (setM 6 (shD (fz (callA F_merged (arVal (fldM [0] "first" (get 0)) (arVal (fz (ifM (truM (fldM [0] "empty" (get 0))) (shD (get 4)) (lstM (ret [])))) arNil))))))
  (seqM (setM 7 (lcM [10, 11] (bnd (consM (fldM [0] "follow" (get 0)) (ret [])) fun ds => lft (enumD ds)) (gT 2 (gs1 (gN 10) (gs1 (gN 11) gs0))) (ret true) (fz (ifM (testM (opS inS (get 10) (fldM [0] "last" (get 0)))) (callA F_merged (arVal (get 11) (arVal (get 5) arNil))) (shD (get 11))))))
  (frzM 7 (seqM (setM 8 (lcM [10, 11] (bnd (consM (fldM [0] "follow" (get 1)) (ret [])) fun ds => lft (enumD ds)) (gT 2 (gs1 (gN 10) (gs1 (gN 11) gs0))) (ret true) (fz (ifM (testM (opS inS (get 10) (fldM [0] "last" (get 1)))) (callA F_merged (arVal (fz (callA F_moved (arVal (get 11) (arVal (get 3) arNil)))) (arVal (get 6) arNil))) (callA F_moved (arVal (get 11) (arVal (get 3) arNil)))))))
  (frzM 8 (seqM (setM 9 (shD (fz (opS addS (fldM [0] "last" (get 0)) (fz (ifM (orM (truM (get 2)) (truM (fldM [0] "empty" (get 0)))) (callA F_moved (arVal (fldM [0] "last" (get 1)) (arVal (get 3) arNil))) (lstM (ret []))))))))
  (retM (mkM F_Pattern_init 0 (arVal (fz (opS addS (fldM [0] "steps" (get 0)) (fldM [0] "steps" (get 1)))) (arVal (get 6) (arVal (fz (opS addS (get 7) (get 8))) (arVal (get 9) (arVal (fldM [0] "empty" (get 0)) arNil))))))))))))))))
def F_alternating : DF := runF 3 12 T_alternating
def T_Pattern_floordiv : DM Fl :=
  (seqM (ifM (notM (truM (fz (callM (isiO sub) (consM (get 1) (consM (ret (.cls 0)) (ret []))))))) failM (ret .nx))
  (retM (callA F_alternating (arVal (get 0) (arVal (get 1) (arVal (ret (.bl false)) arNil))))))
def F_Pattern_floordiv : DF := runF 2 2 T_Pattern_floordiv
def T_Pattern_lshift : DM Fl :=
  (seqM (ifM (notM (truM (fz (callM (isiO sub) (consM (get 1) (consM (ret (.cls 0)) (ret []))))))) failM (ret .nx))
  (retM (callA F_alternating (arVal (get 0) (arVal (get 1) (arVal (ret (.bl true)) arNil))))))
def F_Pattern_lshift : DF := runF 2 2 T_Pattern_lshift
def T_looped : DM Fl :=
  (seqM (setM 2 (lcM [3, 4] (bnd (consM (fldM [0] "follow" (get 0)) (ret [])) fun ds => lft (enumD ds)) (gT 2 (gs1 (gN 3) (gs1 (gN 4) gs0))) (ret true) (fz (ifM (testM (opS inS (get 3) (fldM [0] "last" (get 0)))) (callA F_merged (arVal (get 4) (arVal (fldM [0] "first" (get 0)) arNil))) (shD (get 4))))))
  (frzM 2 (retM (mkM F_Pattern_init 0 (arVal (fldM [0] "steps" (get 0)) (arVal (fldM [0] "first" (get 0)) (arVal (get 2) (arVal (fldM [0] "last" (get 0)) (arVal (orV (fldM [0] "empty" (get 0)) (get 1)) arNil)))))))))
def F_looped : DF := runF 2 5 T_looped
def T_Pattern_rshift : DM Fl :=
  (seqM (ifM (notM (truM (fz (callM (isiO sub) (consM (get 1) (consM (ret (.cls 0)) (ret []))))))) failM (ret .nx))
  (retM (callA F_looped (arVal (fz (callA F_chained (arVal (get 0) (arVal (get 1) arNil)))) (arVal (ret (.bl false)) arNil)))))
def F_Pattern_rshift : DF := runF 2 2 T_Pattern_rshift
def T_Pattern_neg : DM Fl :=
  (retM (mkM F_Pattern_init 0 (arVal (fldM [0] "steps" (get 0)) (arVal (fldM [0] "first" (get 0)) (arVal (fldM [0] "follow" (get 0)) (arVal (fldM [0] "last" (get 0)) (arVal (ret (.bl true)) arNil)))))))
def F_Pattern_neg : DF := runF 1 1 T_Pattern_neg
def T_Pattern_pos : DM Fl :=
  (retM (callA F_looped (arVal (get 0) (arVal (ret (.bl false)) arNil))))
def F_Pattern_pos : DF := runF 1 1 T_Pattern_pos
def T_Pattern_invert : DM Fl :=
  (retM (callA F_looped (arVal (get 0) (arVal (ret (.bl true)) arNil))))
def F_Pattern_invert : DF := runF 1 1 T_Pattern_invert
def T_Pattern_len : DM Fl :=
  (retM (callM lenS (consM (fldM [0] "steps" (get 0)) (ret []))))
def F_Pattern_len : DF := runF 1 1 T_Pattern_len
def T_Pattern_uses : DM Fl :=
  (retM (ssM [1] (bnd (fldM [0] "steps" (get 0)) fun d => lft (itemsA d)) (gN 1) (ret true) (addB (fz (opS ixS (get 1) (ret (.int 0)))))))
def F_Pattern_uses : DF := runF 1 2 T_Pattern_uses
def T_one : DM Fl :=
  (retM (mkM F_Pattern_init 0 (arVal (fz (lstM (consM (fz (tupM (consM (get 0) (consM (get 1) (ret []))))) (ret [])))) (arVal (fz (lstM (consM (ret (.int 0)) (ret [])))) (arVal (fz (lstM (consM (fz (lstM (ret []))) (ret [])))) (arVal (fz (lstM (consM (ret (.int 0)) (ret [])))) (arVal (ret (.bl false)) arNil)))))))
def F_one : DF := runF 2 2 T_one
def T_law_bag : DM Fl :=
  (seqM (setM 2 (shD (fz (ifM (testM (opS ltS (get 1) (fz (callM lenS (consM (get 0) (ret [])))))) (opS ixS (get 0) (get 1)) (shD (ret (.int 0)))))))
  (seqM (setM 3 (shD (fz (ifM (testM (opS geS (fz (callM absS (consM (get 2) (ret [])))) (fz (opS powS (ret (.int 10)) (ret (.int 18)))))) (callM absS (consM (get 2) (ret []))) (shD (ret (.int 0)))))))
  (retM (lstM (consM (get 3) (consM (fz (opS addS (fz (opS addS (fz (opS mulS (fz (opS modS (fz (callM intS (consM (get 2) (ret [])))) (ret (.int 2305843009213693951)))) (ret (.int 5)))) (fz (opS mulS (ret (.int 8191)) (get 1))))) (ret (.int 6007)))) (consM (ret (.int 0)) (ret []))))))))
def F_law_bag : DF := runF 2 4 T_law_bag
def T_law_take : DM Fl :=
  (seqM (ifM (testM (opS gtS (fz (bor flatR 0 (opS ixS (get 0) (ret (.int 0))))) (ret (.int 0)))) (seqM (setM 2 (shD (fz (opS modS (fz (callM intS (consM (fz (bor flatR 0 (opS ixS (get 0) (ret (.int 0))))) (ret [])))) (get 1)))))
  (seqM (stM 0 (ret (.int 0)) (fz (opS fdivS (fz (bor flatR 0 (opS ixS (get 0) (ret (.int 0))))) (get 1))))
  (retM (shD (get 2))))) (ret .nx))
  (seqM (stM 0 (ret (.int 2)) (fz (opS addS (fz (bor flatR 0 (opS ixS (get 0) (ret (.int 2))))) (ret (.int 1)))))
  (seqM (setM 3 (shD (fz (opS modS (fz (callM intS (consM (fz (opS powS (fz (opS addS (fz (bor flatR 0 (opS ixS (get 0) (ret (.int 1))))) (fz (opS mulS (ret (.int 1000081)) (fz (bor flatR 0 (opS ixS (get 0) (ret (.int 2))))))))) (ret (.int 3)))) (ret [])))) (ret (.int 2305843009213693921))))))
  (seqM (setM 3 (shD (fz (opS modS (fz (callM intS (consM (fz (opS powS (fz (opS addS (get 3) (fz (opS mulS (ret (.int 32452867)) (fz (bor flatR 0 (opS ixS (get 0) (ret (.int 2))))))))) (ret (.int 2)))) (ret [])))) (ret (.int 2305843009213693951))))))
  (retM (opS modS (fz (callM intS (consM (fz (opS fdivS (get 3) (ret (.int 4096)))) (ret [])))) (get 1)))))))
def F_law_take : DF := runF 2 4 T_law_take
def T_law_of : DM Fl :=
  (retM (opS ixS (get 1) (fz (callA F_law_take (arLend 0 (arVal (fz (callM lenS (consM (get 1) (ret [])))) arNil))))))
def F_law_of : DF := runF 2 2 T_law_of
def T_law_signs : DM Fl :=
  (seqM (setM 0 (shD (ret (.str "!\"#$&'()*+,-./0123456789:;<=>?@ABCDEFGHIJKLMNOPQRSTUVWXYZ[\\]^_`"))))
  (retM (opS addS (get 0) (ret (.str "abcdefghijklmnopqrstuvwxyz{|}~")))))
def F_law_signs : DF := runF 0 1 T_law_signs
def T_law_token : DM Fl :=
  (seqM (parM [2, 3] (fsCons (shD (fz (callA F_law_signs arNil))) (fsCons (shD (ret (.str ""))) (ret []))))
  (seqM (forM (gN 4) (setM 3 (shD (fz (opS addS (get 3) (fz (callA F_law_of (arLend 0 (arVal (get 2) arNil)))))))) (bnd (consM (fz (callA F_law_of (arLend 0 (arVal (fz (lstM (consM (ret (.int 1)) (consM (ret (.int 1)) (consM (ret (.int 1)) (consM (ret (.int 2)) (consM (ret (.int 3)) (consM (ret (.int 4)) (ret []))))))))) arNil)))) (ret [])) fun ds => lft (rng1 ds)))
  (seqM (setM 5 (shD (fz (slM (get 3) (ret none) (part (ret (.int 3)))))))
  (seqM (forM (gN 6) (ifM (testM (opS inS (get 3) (get 1))) (setM 3 (shD (fz (opS addS (get 5) (get 6))))) (ret .nx)) (bnd (get 2) fun d => lft (itemsA d)))
  (retM (shD (get 3)))))))
def F_law_token : DF := runF 2 7 T_law_token
def T_law_name : DM Fl :=
  (seqM (asgM (gT 2 (gs1 (gN 2) (gs1 (gN 3) gs0))) (fz (tupM (consM (ret (.str "abcdefghijklmnopqrstuvwxyz")) (consM (ret (.str "")) (ret []))))))
  (seqM (forM (gN 4) (setM 3 (shD (fz (opS addS (get 3) (fz (callA F_law_of (arLend 0 (arVal (get 2) arNil)))))))) (bnd (consM (fz (callA F_law_of (arLend 0 (arVal (fz (lstM (consM (ret (.int 1)) (consM (ret (.int 1)) (consM (ret (.int 2)) (consM (ret (.int 2)) (consM (ret (.int 3)) (consM (ret (.int 4)) (consM (ret (.int 5)) (consM (ret (.int 8)) (ret []))))))))))) arNil)))) (ret [])) fun ds => lft (rng1 ds)))
  (seqM (setM 5 (shD (fz (slM (get 3) (ret none) (part (ret (.int 7)))))))
  (seqM (forM (gN 6) (ifM (testM (opS inS (get 3) (get 1))) (setM 3 (shD (fz (opS addS (get 5) (get 6))))) (ret .nx)) (bnd (get 2) fun d => lft (itemsA d)))
  (retM (shD (get 3)))))))
def F_law_name : DF := runF 2 7 T_law_name
def T_law_words : DM Fl :=
  (seqM (setM 2 (lstM (ret [])))
  (seqM (forM (gN 3) (appM 2 (consM (fz (ifM (testM (opS eqS (fz (callA F_law_take (arLend 0 (arVal (ret (.int 2)) arNil)))) (ret (.int 0)))) (bor flatR 2 (callA F_law_token (arLend 0 (arVal (get 2) arNil)))) (bor flatR 2 (callA F_law_name (arLend 0 (arVal (get 2) arNil)))))) (ret []))) (bnd (consM (get 1) (ret [])) fun ds => lft (rng1 ds)))
  (retM (mv 2))))
def F_law_words : DF := runF 2 4 T_law_words
def T_law_size (F_self : DF) : DM Fl :=
  (seqM (ifM (testM (opS inS (fz (opS ixS (get 0) (ret (.int 0)))) (fz (lstM (consM (ret (.str "one")) (consM (ret (.str "none")) (ret []))))))) (retM (callM intS (consM (fz (opS eqS (fz (opS ixS (get 0) (ret (.int 0)))) (ret (.str "one")))) (ret [])))) (ret .nx))
  (seqM (ifM (testM (opS eqS (fz (opS ixS (get 0) (ret (.int 0)))) (ret (.str "times")))) (retM (opS mulS (fz (callA F_self (arVal (fz (opS ixS (get 0) (ret (.int 1)))) arNil))) (fz (opS ixS (get 0) (ret (.int 2)))))) (ret .nx))
  (retM (callM sumS (consM (fz (lcM [1] (bnd (fz (slM (get 0) (part (ret (.int 1))) (ret none))) fun d => lft (itemsA d)) (gN 1) (ret true) (fz (callA F_self (arVal (get 1) arNil))))) (ret []))))))
def G_law_size (F_self : DF) : DF := runF 1 2 (T_law_size F_self)
def F_law_size : DF := fuel G_law_size 20
def T_law_any : DM Fl :=
  (seqM (parM [4, 5] (fsCons (lstM (ret [])) (fsCons (shD (ret (.int 16))) (ret []))))
  (seqM (setM 6 (shD (fz (opS addS (ret (.int 1)) (fz (callA F_law_take (arLend 0 (arVal (get 3) arNil))))))))
  (seqM (forM (gN 7) (seqM (setM 8 (shD (fz (tupM (consM (ret (.str "one")) (consM (fz (callA F_law_of (arLend 0 (arVal (get 1) arNil)))) (consM (fz (callA F_law_of (arLend 0 (arVal (get 2) arNil)))) (ret []))))))))
  (seqM (setM 9 (shD (fz (callA F_law_take (arLend 0 (arVal (ret (.int 9)) arNil))))))
  (seqM (setM 10 (shD (fz (ifM (testM (opS eqS (get 9) (ret (.int 0)))) (callA F_law_take (arLend 0 (arVal (fz (opS addS (fz (callM minS (consM (ret (.int 9)) (consM (fz (opS subS (get 5) (fz (opS subS (fz (opS subS (get 6) (ret (.int 1)))) (get 7))))) (ret []))))) (ret (.int 1)))) arNil))) (shD (ret (.int 1)))))))
  (seqM (ifM (testM (opS ltS (get 9) (ret (.int 2)))) (setM 8 (shD (fz (ifM (testM (opS eqS (get 9) (ret (.int 0)))) (tupM (consM (ret (.str "times")) (consM (get 8) (consM (get 10) (ret []))))) (tupM (consM (ret (.str "none")) (ret []))))))) (ret .nx))
  (seqM (setM 5 (shD (fz (opS subS (get 5) (get 10)))))
  (appM 4 (consM (get 8) (ret [])))))))) (bnd (consM (get 6) (ret [])) fun ds => lft (rng1 ds)))
  (seqM (forM (gN 7) (seqM (setM 11 (shD (fz (callA F_law_take (arLend 0 (arVal (fz (bor flatR 4 (callM lenS (consM (get 4) (ret []))))) arNil))))))
  (seqM (ifM (testM (opS eqS (fz (callA F_law_take (arLend 0 (arVal (ret (.int 3)) arNil)))) (ret (.int 0)))) (stM 4 (get 11) (fz (tupM (consM (fz (callA F_law_of (arLend 0 (arVal (fz (lstM (consM (ret (.str "maybe")) (consM (ret (.str "some")) (consM (ret (.str "many")) (ret [])))))) arNil)))) (consM (fz (bor flatR 4 (opS ixS (get 4) (get 11)))) (ret [])))))) (ret .nx))
  (ifM (testM (opS gtS (fz (bor flatR 4 (callM lenS (consM (get 4) (ret []))))) (ret (.int 1)))) (seqM (setM 12 (shD (popM 4 (get 11))))
  (seqM (setM 13 (shD (popM 4 (fz (callA F_law_take (arLend 0 (arVal (fz (bor flatR 4 (callM lenS (consM (get 4) (ret []))))) arNil)))))))
  (appM 4 (consM (fz (tupM (consM (fz (callA F_law_of (arLend 0 (arVal (fz (lstM (consM (ret (.str "then")) (consM (ret (.str "or")) (consM (ret (.str "sep")) (consM (ret (.str "free")) (consM (ret (.str "must")) (ret [])))))))) arNil)))) (consM (get 12) (consM (get 13) (ret [])))))) (ret []))))) (ret .nx)))) (bnd (consM (get 6) (ret [])) fun ds => lft (rng1 ds)))
  (frzM 4 (seqM (setM 14 (shD (fz (opS ixS (get 4) (ret (.int 0))))))
  (seqM (setM 9 (shD (fz (callA F_law_take (arLend 0 (arVal (ret (.int 8)) arNil))))))
  (seqM (ifM (testM (opS eqS (get 9) (ret (.int 0)))) (seqM (setM 3 (shD (fz (callM min3S (consM (ret (.int 9)) (consM (fz (opS fdivS (ret (.int 16)) (fz (callM maxS (consM (ret (.int 1)) (consM (fz (callA F_law_size (arVal (get 14) arNil))) (ret []))))))) (consM (fz (opS fdivS (ret (.int 32)) (fz (opS mulS (ret (.int 3)) (get 6))))) (ret []))))))))
  (setM 14 (shD (fz (tupM (consM (ret (.str "times")) (consM (get 14) (consM (fz (callA F_law_take (arLend 0 (arVal (fz (opS addS (get 3) (ret (.int 1)))) arNil)))) (ret []))))))))) (ret .nx))
  (retM (shD (get 14)))))))))))
def F_law_any : DF := runF 4 15 T_law_any
def T_law_pattern (F_self : DF) : DM Fl :=
  (seqM (setM 1 (shD (fz (opS ixS (get 0) (ret (.int 0))))))
  (seqM (ifM (testM (opS eqS (get 1) (ret (.str "one")))) (retM (callA F_one (arVal (fz (opS ixS (get 0) (ret (.int 1)))) (arVal (fz (opS ixS (get 0) (ret (.int 2)))) arNil)))) (ret .nx))
  (seqM (ifM (testM (opS eqS (get 1) (ret (.str "none")))) (retM (callA F_nothing arNil)) (ret .nx))
  (seqM (setM 2 (shD (fz (callA F_self (arVal (fz (opS ixS (get 0) (ret (.int 1)))) arNil)))))
  (seqM (ifM (testM (opS inS (get 1) (fz (lstM (consM (ret (.str "maybe")) (consM (ret (.str "some")) (consM (ret (.str "many")) (ret [])))))))) (retM (ifM (testM (opS eqS (get 1) (ret (.str "maybe")))) (ounM (unG ((0, F_Pattern_neg) :: [])) (get 2)) (ifM (testM (opS eqS (get 1) (ret (.str "some")))) (ounM (unG ((0, F_Pattern_pos) :: [])) (get 2)) (ounM (unG ((0, F_Pattern_invert) :: [])) (get 2))))) (ret .nx))
  (seqM (ifM (testM (opS eqS (get 1) (ret (.str "times")))) (retM (oopM (binGI ((0, F_Pattern_mul) :: [])) (get 2) (fz (opS ixS (get 0) (ret (.int 2)))))) (ret .nx))
  (seqM (setM 3 (shD (fz (callA F_self (arVal (fz (opS ixS (get 0) (ret (.int 2)))) arNil)))))
  (seqM (ifM (testM (opS inS (get 1) (fz (lstM (consM (ret (.str "then")) (consM (ret (.str "or")) (ret []))))))) (retM (ifM (testM (opS eqS (get 1) (ret (.str "then")))) (oopM (binG ((0, F_Pattern_add) :: [])) (get 2) (get 3)) (oopM (binG ((0, F_Pattern_or) :: [])) (get 2) (get 3)))) (ret .nx))
  (seqM (ifM (testM (opS eqS (get 1) (ret (.str "sep")))) (retM (oopM (binG ((0, F_Pattern_floordiv) :: [])) (get 2) (get 3))) (ret .nx))
  (retM (ifM (testM (opS eqS (get 1) (ret (.str "free")))) (oopM (binG ((0, F_Pattern_lshift) :: [])) (get 2) (get 3)) (oopM (binG ((0, F_Pattern_rshift) :: [])) (get 2) (get 3)))))))))))))
def G_law_pattern (F_self : DF) : DF := runF 1 4 (T_law_pattern F_self)
def F_law_pattern : DF := fuel G_law_pattern 20
def T_law_symbols (F_self : DF) : DM Fl :=
  (seqM (ifM (testM (opS eqS (fz (opS ixS (get 0) (ret (.int 0)))) (ret (.str "one")))) (retM (lstM (consM (fz (opS ixS (get 0) (ret (.int 1)))) (ret [])))) (ret .nx))
  (seqM (ifM (orM (testM (opS eqS (fz (opS ixS (get 0) (ret (.int 0)))) (ret (.str "none")))) (andM (testM (opS eqS (fz (opS ixS (get 0) (ret (.int 0)))) (ret (.str "times")))) (testM (opS eqS (fz (opS ixS (get 0) (ret (.int 2)))) (ret (.int 0)))))) (retM (lstM (ret []))) (ret .nx))
  (seqM (setM 1 (shD (fz (lstM (ret [])))))
  (seqM (forM (gN 2) (setM 1 (shD (fz (opS addS (get 1) (fz (lcM [3] (bnd (fz (callA F_self (arVal (get 2) arNil))) fun d => lft (itemsA d)) (gN 3) (testM (opS ninS (get 3) (get 1))) (get 3))))))) (bnd (fz (ifM (testM (opS eqS (fz (opS ixS (get 0) (ret (.int 0)))) (ret (.str "times")))) (slM (get 0) (part (ret (.int 1))) (part (ret (.int 2)))) (slM (get 0) (part (ret (.int 1))) (ret none)))) fun d => lft (itemsA d)))
  (retM (shD (get 1)))))))
def G_law_symbols (F_self : DF) : DF := runF 1 4 (T_law_symbols F_self)
def F_law_symbols : DF := fuel G_law_symbols 20
def T_law : DM Fl :=
  (seqM (forM (gN 1) (seqM (setM 2 (callA F_law_bag (arVal (get 0) (arVal (get 1) arNil))))
  (seqM (setM 3 (shD (fz (callA F_law_words (arLend 2 (arVal (fz (opS addS (ret (.int 1)) (fz (callA F_law_take (arLend 2 (arVal (ret (.int 5)) arNil)))))) arNil))))))
  (seqM (setM 4 (lcM [14] (bnd (consM (fz (opS addS (ret (.int 1)) (fz (callA F_law_take (arLend 2 (arVal (ret (.int 3)) arNil)))))) (ret [])) fun ds => lft (rng1 ds)) (gN 14) (ret true) (fz (callA F_law_name (arLend 2 (arVal (fz (lstM (ret []))) arNil))))))
  (frzM 4 (seqM (setM 5 (shD (fz (callA F_law_any (arLend 2 (arVal (get 3) (arVal (get 4) (arVal (ret (.int 5)) arNil))))))))
  (seqM (parM [6, 7] (fsCons (shD (fz (callA F_law_pattern (arVal (get 5) arNil)))) (fsCons (shD (fz (callA F_law_size (arVal (get 5) arNil)))) (ret []))))
  (seqM (setM 8 (shD (fz (callM sortD (consM (fz (callA F_law_symbols (arVal (get 5) arNil))) (ret []))))))
  (seqM (setM 9 (shD (fz (callA F_law_pattern (arVal (fz (callA F_law_any (arLend 2 (arVal (get 3) (arVal (get 4) (arVal (ret (.int 5)) arNil)))))) arNil)))))
  (seqM (ifM (orM (notM (truM (fz (callM (isiO sub) (consM (get 6) (consM (ret (.cls 0)) (ret []))))))) (notM (truM (fz (callM (isiO sub) (consM (get 9) (consM (ret (.cls 0)) (ret [])))))))) (retM (shD (ret (.bl false)))) (ret .nx))
  (seqM (setM 10 (methO "uses" ((0, F_Pattern_uses) :: []) (get 6) arNil))
  (seqM (ifM (orM (testM (opS neS (fz (lenOM ((0, F_Pattern_len) :: []) (get 6))) (get 7))) (orM (bor (fun _ => true) 10 (testM (opS neS (get 10) (get 8)))) (notM (truM (fz (bor flatR 10 (callM (isiO sub) (consM (get 10) (consM (ret (.opq (.ty "list"))) (ret [])))))))))) (retM (shD (ret (.bl false)))) (ret .nx))
  (seqM (appM 10 (consM (fz (opS ixS (get 3) (ret (.int 0)))) (ret [])))
  (seqM (setM 11 (shD (fz (methO "uses" ((0, F_Pattern_uses) :: []) (get 9) arNil))))
  (seqM (ifM (orM (testM (opS neS (fz (methO "uses" ((0, F_Pattern_uses) :: []) (get 6) arNil)) (get 8))) (orM (testM (opS neS (fz (lenOM ((0, F_Pattern_len) :: []) (get 6))) (get 7))) (testM (opS neS (fz (callM sortD (consM (get 11) (ret [])))) (get 11))))) (retM (shD (ret (.bl false)))) (ret .nx))
  (seqM (ifM (orM (testM (opS neS (fz (lenOM ((0, F_Pattern_len) :: []) (fz (ounM (unG ((0, F_Pattern_neg) :: [])) (get 6))))) (get 7))) (orM (testM (opS neS (fz (lenOM ((0, F_Pattern_len) :: []) (fz (ounM (unG ((0, F_Pattern_pos) :: [])) (get 6))))) (get 7))) (testM (opS neS (fz (lenOM ((0, F_Pattern_len) :: []) (fz (ounM (unG ((0, F_Pattern_invert) :: [])) (get 6))))) (get 7))))) (retM (shD (ret (.bl false)))) (ret .nx))
  (seqM (ifM (testM (opS leS (fz (opS addS (get 7) (fz (lenOM ((0, F_Pattern_len) :: []) (get 9))))) (ret (.int 16)))) (seqM (parM [12, 13] (fsCons (shD (fz (oopM (binG ((0, F_Pattern_add) :: [])) (get 6) (get 9)))) (fsCons (shD (fz (oopM (binG ((0, F_Pattern_or) :: [])) (get 9) (get 6)))) (ret []))))
  (seqM (ifM (orM (testM (opS neS (fz (lenOM ((0, F_Pattern_len) :: []) (get 12))) (fz (opS addS (get 7) (fz (lenOM ((0, F_Pattern_len) :: []) (get 9))))))) (testM (opS neS (fz (lenOM ((0, F_Pattern_len) :: []) (get 13))) (fz (lenOM ((0, F_Pattern_len) :: []) (get 12)))))) (retM (shD (ret (.bl false)))) (ret .nx))
  (ifM (testM (opS neS (fz (methO "uses" ((0, F_Pattern_uses) :: []) (get 12) arNil)) (fz (methO "uses" ((0, F_Pattern_uses) :: []) (get 13) arNil)))) (retM (shD (ret (.bl false)))) (ret .nx)))) (ret .nx))
  (ifM (orM (testM (opS neS (fz (lenOM ((0, F_Pattern_len) :: []) (fz (oopM (binGI ((0, F_Pattern_mul) :: [])) (get 6) (ret (.int 0)))))) (ret (.int 0)))) (orM (testM (opS neS (fz (methO "uses" ((0, F_Pattern_uses) :: []) (fz (oopM (binGI ((0, F_Pattern_mul) :: [])) (get 6) (ret (.int 0)))) arNil)) (fz (lstM (ret []))))) (testM (opS neS (fz (lenOM ((0, F_Pattern_len) :: []) (fz (callAD F_one [.str "plain"] (arVal (fz (opS ixS (get 3) (ret (.int 0)))) arNil))))) (ret (.int 1)))))) (retM (shD (ret (.bl false)))) (ret .nx)))))))))))))))))) (bnd (consM (fz (callM maxS (consM (ret (.int 1)) (consM (fz (callM minS (consM (ret (.int 10)) (consM (fz (callM lenS (consM (get 0) (ret [])))) (ret []))))) (ret []))))) (ret [])) fun ds => lft (rng1 ds)))
  (retM (shD (ret (.bl true)))))
def F_law : DF := runF 1 15 T_law
/-! the walk -/
structure Bn (K : PySem.W.Frag) (mg : Str → Option Value) (ct : List Addr) : Prop where
  abs : mg "abs" = none
  enumerate : mg "enumerate" = none
  int : mg "int" = none
  isinstance : mg "isinstance" = none
  len : mg "len" = none
  list : mg "list" = none
  max : mg "max" = none
  min : mg "min" = none
  range : mg "range" = none
  sorted : mg "sorted" = none
  sum : mg "sum" = none
  k_MOST_TIMES : ∃ t, mg "MOST_TIMES" = some (.int 9 t)
  c_Pattern : ClsAt mg ct "Pattern" 0
  f_steps : FldOk K ct [0] "steps"
  f_first : FldOk K ct [0] "first"
  f_follow : FldOk K ct [0] "follow"
  f_last : FldOk K ct [0] "last"
  f_empty : FldOk K ct [0] "empty"
  sf : ∀ tb, SelfFirst K ct tb
  isi : IsiOk K ct sub
  ib_Mult : ∀ tb, IntBeside K ct tb .Mult
section
variable {P : Program} {w : World} {K : PySem.W.Frag} {mg : Str → Option Value} {base : Heap} {ct : List Addr}
theorem fn_moved {f : Addr} {fd : FuncData} (Fu : Fun K "moved" "moved" s_moved f fd) (U : Bn K mg ct) : FnOk P w K mg base (L2.CX P w) (1) f fd ["places", "by"] (SpF K ct F_moved) := by
  refine fn_d (k := 0) Fu sc_moved fun cdv A outer s H E hr => ?_
  have tk : Takes (cxOf (L2.CX P w) P w K mg base N_moved "moved" (defScope s_moved) f cdv A outer s H E) (fun c d _ H' => E c d H') := takes_of rfl rfl rfl rfl
  exact (sOne (sRet (fLc [("place", 2)] rfl sc_moved.nd (iAny (dV 0)) (blkOk_by (own := [("place", 2)]) (N := N_moved) (sc := defScope s_moved) (by decide +kernel)) (fun _ _ _ _ _ => (wName 2 sc_moved.nd)) (fun _ _ _ _ _ => ifs0) (fun _ _ _ _ _ => (dF (fOp dAdd (dV 2) (dV 1)))))))
theorem fn_merged {f : Addr} {fd : FuncData} (Fu : Fun K "merged" "merged" s_merged f fd) (U : Bn K mg ct) : FnOk P w K mg base (L2.CX P w) (1) f fd ["some", "more"] (SpF K ct F_merged) := by
  refine fn_d (k := 0) Fu sc_merged fun cdv A outer s H E hr => ?_
  have tk : Takes (cxOf (L2.CX P w) P w K mg base N_merged "merged" (defScope s_merged) f cdv A outer s H E) (fun c d _ H' => E c d H') := takes_of rfl rfl rfl rfl
  exact (sOne (sRet (fOp dAdd (dV 0) (dF (fLc [("place", 2)] rfl sc_merged.nd (iAny (dV 1)) (blkOk_by (own := [("place", 2)]) (N := N_merged) (sc := defScope s_merged) (by decide +kernel)) (fun _ _ _ _ _ => (wName 2 sc_merged.nd)) (fun _ _ _ _ _ => (ifs1 (cCmp (dNotIn hr.units) (dV 2) (dV 0) (by rfl)))) (fun _ _ _ _ _ => (dV 2)))))))
theorem fn_Pattern_init {f : Addr} {fd : FuncData} (Fu : Fun K "__init__" "Pattern.__init__" s_Pattern_init f fd) (U : Bn K mg ct) : FnOk P w K mg base (L2.CX P w) (1) f fd ["self", "steps", "first", "follow", "last", "empty"] (SpF K ct F_Pattern_init) := by
  refine fn_d (k := 0) Fu sc_Pattern_init fun cdv A outer s H E hr => ?_
  have tk : Takes (cxOf (L2.CX P w) P w K mg base N_Pattern_init "Pattern.__init__" (defScope s_Pattern_init) f cdv A outer s H E) (fun c d _ H' => E c d H') := takes_of rfl rfl rfl rfl
  exact (sCons (sFldSt 0 U.f_steps (dV 1))
    (sCons (sFldSt 0 U.f_first (dV 2))
    (sCons (sFldSt 0 U.f_follow (dV 3))
    (sCons (sFldSt 0 U.f_last (dV 4))
    (sOne (sFldSt 0 U.f_empty (dV 5)))))))
theorem fn_chained {f : Addr} {fd : FuncData} (Fu : Fun K "chained" "chained" s_chained f fd) (U : Bn K mg ct) (C_moved : Cal P w K mg base ct "moved" 1 ["places", "by"] F_moved) (C_merged : Cal P w K mg base ct "merged" 1 ["some", "more"] F_merged) (K_Pattern : KCal P w K mg base ct "Pattern" 0 1 ["self", "steps", "first", "follow", "last", "empty"] F_Pattern_init) : FnOk P w K mg base (L2.CX P w) (3) f fd ["some", "more"] (SpF K ct F_chained) := by
  refine fn_d (k := 2) Fu sc_chained fun cdv A outer s H E hr => ?_
  have tk : Takes (cxOf (L2.CX P w) P w K mg base N_chained "chained" (defScope s_chained) f cdv A outer s H E) (fun c d _ H' => E c d H') := takes_of rfl rfl rfl rfl
  exact (sCons (sSet 2 sc_chained.nd (fD (dF (fB cLen (by rfl) U.len (by decide +kernel) (aCons (dFld U.f_steps (dV 0)) aNil)))))
    (sCons (sSet 3 sc_chained.nd (fD (dF (fC tk C_moved (hr.mono (by omega)) (rVal (dFld U.f_first (dV 1)) (rVal (dV 2) rNil))))))
    (sCons (sSetLc 4 [("at", 8), ("places", 9)] rfl sc_chained.nd (iEnumD (by rfl) U.enumerate (aCons (dFld U.f_follow (dV 0)) aNil)) (blkOk_by (own := [("at", 8), ("places", 9)]) (N := N_chained) (sc := defScope s_chained) (by decide +kernel)) (fun _ _ _ _ _ => (wTup rfl (wsCons (wName 8 sc_chained.nd) (wsCons (wName 9 sc_chained.nd) wsNil)))) (fun _ _ _ _ _ => ifs0) (fun _ _ _ _ _ => (dF (fIf (cCmp (dIn hr.units) (dV 8) (dFld U.f_last (dV 0)) (by rfl)) (fC takes0 C_merged (hr.mono (by omega)) (rVal (dV 9) (rVal (dV 3) rNil))) (fD (dV 9))))))
    (sFrz 4 (sCons (sSet 5 sc_chained.nd (fD (dF (fOp dAdd (dV 4) (dF (fLc [("places", 9)] rfl sc_chained.nd (iAny (dFld U.f_follow (dV 1))) (blkOk_by (own := [("places", 9)]) (N := N_chained) (sc := defScope s_chained) (by decide +kernel)) (fun _ _ _ _ _ => (wName 9 sc_chained.nd)) (fun _ _ _ _ _ => ifs0) (fun _ _ _ _ _ => (dF (fC takes0 C_moved (hr.mono (by omega)) (rVal (dV 9) (rVal (dV 2) rNil)))))))))))
    (sCons (sSet 6 sc_chained.nd (fD (dF (fOp dAdd (dFld U.f_first (dV 0)) (dF (fIf (cTru (dFld U.f_empty (dV 0))) (fD (dV 3)) (fLst aNil)))))))
    (sCons (sSet 7 sc_chained.nd (fD (dF (fOp dAdd (dF (fC tk C_moved (hr.mono (by omega)) (rVal (dFld U.f_last (dV 1)) (rVal (dV 2) rNil)))) (dF (fIf (cTru (dFld U.f_empty (dV 1))) (fD (dFld U.f_last (dV 0))) (fLst aNil)))))))
    (sOne (sRet (fMake tk K_Pattern (hr.mono (by omega)) (rVal (dF (fOp dAdd (dFld U.f_steps (dV 0)) (dFld U.f_steps (dV 1)))) (rVal (dV 6) (rVal (dV 5) (rVal (dV 7) (rVal (vAnd (dFld U.f_empty (dV 0)) (vOne (dFld U.f_empty (dV 1)))) rNil)))))))))))))))
theorem fn_Pattern_add {f : Addr} {fd : FuncData} (Fu : Fun K "__add__" "Pattern.__add__" s_Pattern_add f fd) (U : Bn K mg ct) (C_chained : Cal P w K mg base ct "chained" 3 ["some", "more"] F_chained) : FnOk P w K mg base (L2.CX P w) (4) f fd ["self", "other"] (SpF K ct F_Pattern_add) := by
  refine fn_d (k := 3) Fu sc_Pattern_add fun cdv A outer s H E hr => ?_
  have tk : Takes (cxOf (L2.CX P w) P w K mg base N_Pattern_add "Pattern.__add__" (defScope s_Pattern_add) f cdv A outer s H E) (fun c d _ H' => E c d H') := takes_of rfl rfl rfl rfl
  exact (sCons (sIf (cNot (cTru (dF (fB (cIsiO U.isi) (by rfl) U.isinstance (by decide +kernel) (aCons (dV 1) (aCons (dCls U.c_Pattern) aNil)))))) (sOne sFail) sNil)
    (sOne (sRet (fC tk C_chained (hr.mono (by omega)) (rVal (dV 0) (rVal (dV 1) rNil))))))
theorem fn_Pattern_or {f : Addr} {fd : FuncData} (Fu : Fun K "__or__" "Pattern.__or__" s_Pattern_or f fd) (U : Bn K mg ct) (C_moved : Cal P w K mg base ct "moved" 1 ["places", "by"] F_moved) (K_Pattern : KCal P w K mg base ct "Pattern" 0 1 ["self", "steps", "first", "follow", "last", "empty"] F_Pattern_init) : FnOk P w K mg base (L2.CX P w) (3) f fd ["self", "other"] (SpF K ct F_Pattern_or) := by
  refine fn_d (k := 2) Fu sc_Pattern_or fun cdv A outer s H E hr => ?_
  have tk : Takes (cxOf (L2.CX P w) P w K mg base N_Pattern_or "Pattern.__or__" (defScope s_Pattern_or) f cdv A outer s H E) (fun c d _ H' => E c d H') := takes_of rfl rfl rfl rfl
  exact (sCons (sIf (cNot (cTru (dF (fB (cIsiO U.isi) (by rfl) U.isinstance (by decide +kernel) (aCons (dV 1) (aCons (dCls U.c_Pattern) aNil)))))) (sOne sFail) sNil)
    (sCons (sSet 2 sc_Pattern_or.nd (fD (dF (fB cLen (by rfl) U.len (by decide +kernel) (aCons (dFld U.f_steps (dV 0)) aNil)))))
    (sCons (sSet 3 sc_Pattern_or.nd (fD (dF (fOp dAdd (dF (fTy cList (by rfl) U.list (by decide +kernel) (aCons (dFld U.f_follow (dV 0)) aNil))) (dF (fLc [("places", 6)] rfl sc_Pattern_or.nd (iAny (dFld U.f_follow (dV 1))) (blkOk_by (own := [("places", 6)]) (N := N_Pattern_or) (sc := defScope s_Pattern_or) (by decide +kernel)) (fun _ _ _ _ _ => (wName 6 sc_Pattern_or.nd)) (fun _ _ _ _ _ => ifs0) (fun _ _ _ _ _ => (dF (fC takes0 C_moved (hr.mono (by omega)) (rVal (dV 6) (rVal (dV 2) rNil)))))))))))
    (sCons (sSet 4 sc_Pattern_or.nd (fD (dF (fOp dAdd (dFld U.f_first (dV 0)) (dF (fC tk C_moved (hr.mono (by omega)) (rVal (dFld U.f_first (dV 1)) (rVal (dV 2) rNil))))))))
    (sCons (sSet 5 sc_Pattern_or.nd (fD (dF (fOp dAdd (dFld U.f_last (dV 0)) (dF (fC tk C_moved (hr.mono (by omega)) (rVal (dFld U.f_last (dV 1)) (rVal (dV 2) rNil))))))))
    (sOne (sRet (fMake tk K_Pattern (hr.mono (by omega)) (rVal (dF (fOp dAdd (dFld U.f_steps (dV 0)) (dFld U.f_steps (dV 1)))) (rVal (dV 4) (rVal (dV 3) (rVal (dV 5) (rVal (vOr (dFld U.f_empty (dV 0)) (vOne (dFld U.f_empty (dV 1)))) rNil)))))))))))))
theorem fn_nothing {f : Addr} {fd : FuncData} (Fu : Fun K "nothing" "nothing" s_nothing f fd) (U : Bn K mg ct) (K_Pattern : KCal P w K mg base ct "Pattern" 0 1 ["self", "steps", "first", "follow", "last", "empty"] F_Pattern_init) : FnOk P w K mg base (L2.CX P w) (3) f fd [] (SpF K ct F_nothing) := by
  refine fn_d (k := 2) Fu sc_nothing fun cdv A outer s H E hr => ?_
  have tk : Takes (cxOf (L2.CX P w) P w K mg base N_nothing "nothing" (defScope s_nothing) f cdv A outer s H E) (fun c d _ H' => E c d H') := takes_of rfl rfl rfl rfl
  exact (sOne (sRet (fMake tk K_Pattern (hr.mono (by omega)) (rVal (dF (fLst aNil)) (rVal (dF (fLst aNil)) (rVal (dF (fLst aNil)) (rVal (dF (fLst aNil)) (rVal dBl rNil))))))))
theorem fn_repeated {f : Addr} {fd : FuncData} (Fu : Fun K "repeated" "repeated" s_repeated f fd) (U : Bn K mg ct) {j : Nat} {F_self : DF} (hj : 3 ≤ j) (C_self : Cal P w K mg base ct "repeated" j ["some", "count"] F_self) (C_nothing : Cal P w K mg base ct "nothing" 3 [] F_nothing) (C_chained : Cal P w K mg base ct "chained" 3 ["some", "more"] F_chained) : FnOk P w K mg base (L2.CX P w) (j + 1) f fd ["some", "count"] (SpF K ct (G_repeated F_self)) := by
  refine fn_d (k := j) Fu sc_repeated fun cdv A outer s H E hr => ?_
  have tk : Takes (cxOf (L2.CX P w) P w K mg base N_repeated "repeated" (defScope s_repeated) f cdv A outer s H E) (fun c d _ H' => E c d H') := takes_of rfl rfl rfl rfl
  exact (sOne (sRet (fIf (cCmp (dEq hr.units) (dV 1) dInt (nomark _)) (fC0 tk C_nothing (hr.mono (by omega))) (fC tk C_chained (hr.mono (by omega)) (rVal (dF (fC tk C_self (hr.mono (by omega)) (rVal (dV 0) (rVal (dF (fOp dSub (dV 1) dInt)) rNil)))) (rVal (dV 0) rNil))))))
theorem fn_Pattern_mul {f : Addr} {fd : FuncData} (Fu : Fun K "__mul__" "Pattern.__mul__" s_Pattern_mul f fd) (U : Bn K mg ct) (C_repeated : Cal P w K mg base ct "repeated" 14 ["some", "count"] F_repeated) : FnOk P w K mg base (L2.CX P w) (15) f fd ["self", "count"] (SpF K ct F_Pattern_mul) := by
  refine fn_d (k := 14) Fu sc_Pattern_mul fun cdv A outer s H E hr => ?_
  have tk : Takes (cxOf (L2.CX P w) P w K mg base N_Pattern_mul "Pattern.__mul__" (defScope s_Pattern_mul) f cdv A outer s H E) (fun c d _ H' => E c d H') := takes_of rfl rfl rfl rfl
  exact (sCons (sIf (cNot (cChain dLe dLe dInt (dV 1) (dGlI' U.k_MOST_TIMES))) (sOne sFail) sNil)
    (sOne (sRet (fC tk C_repeated (hr.mono (by omega)) (rVal (dV 0) (rVal (dV 1) rNil))))))
theorem fn_alternating {f : Addr} {fd : FuncData} (Fu : Fun K "alternating" "alternating" s_alternating f fd) (U : Bn K mg ct) (C_moved : Cal P w K mg base ct "moved" 1 ["places", "by"] F_moved) (C_merged : Cal P w K mg base ct "merged" 1 ["some", "more"] F_merged) (K_Pattern : KCal P w K mg base ct "Pattern" 0 1 ["self", "steps", "first", "follow", "last", "empty"] F_Pattern_init) : FnOk P w K mg base (L2.CX P w) (3) f fd ["some", "mark", "is_last_free"] (SpF K ct F_alternating) := by
  refine fn_d (k := 2) Fu sc_alternating fun cdv A outer s H E hr => ?_
  have tk : Takes (cxOf (L2.CX P w) P w K mg base N_alternating "alternating" (defScope s_alternating) f cdv A outer s H E) (fun c d _ H' => E c d H') := takes_of rfl rfl rfl rfl
  exact (sCons (sSet 3 sc_alternating.nd (fD (dF (fB cLen (by rfl) U.len (by decide +kernel) (aCons (dFld U.f_steps (dV 0)) aNil)))))
    (sCons (sSet 4 sc_alternating.nd (fD (dF (fC tk C_moved (hr.mono (by omega)) (rVal (dFld U.f_first (dV 1)) (rVal (dV 3) rNil))))))
    (sCons (sSet 5 sc_alternating.nd (fD (dF (fC tk C_merged (hr.mono (by omega)) (rVal (dV 4) (rVal (dF (fIf (cTru (dFld U.f_empty (dV 1))) (fD (dFld U.f_first (dV 0))) (fLst aNil))) rNil))))))
    (sCons (sSet 6 sc_alternating.nd (fD (dF (fC tk C_merged (hr.mono (by omega)) (rVal (dFld U.f_first (dV 0)) (rVal (dF (fIf (cTru (dFld U.f_empty (dV 0))) (fD (dV 4)) (fLst aNil))) rNil))))))
    (sCons (sSetLc 7 [("at", 10), ("places", 11)] rfl sc_alternating.nd (iEnumD (by rfl) U.enumerate (aCons (dFld U.f_follow (dV 0)) aNil)) (blkOk_by (own := [("at", 10), ("places", 11)]) (N := N_alternating) (sc := defScope s_alternating) (by decide +kernel)) (fun _ _ _ _ _ => (wTup rfl (wsCons (wName 10 sc_alternating.nd) (wsCons (wName 11 sc_alternating.nd) wsNil)))) (fun _ _ _ _ _ => ifs0) (fun _ _ _ _ _ => (dF (fIf (cCmp (dIn hr.units) (dV 10) (dFld U.f_last (dV 0)) (by rfl)) (fC takes0 C_merged (hr.mono (by omega)) (rVal (dV 11) (rVal (dV 5) rNil))) (fD (dV 11))))))
    (sFrz 7 (sCons (sSetLc 8 [("at", 10), ("places", 11)] rfl sc_alternating.nd (iEnumD (by rfl) U.enumerate (aCons (dFld U.f_follow (dV 1)) aNil)) (blkOk_by (own := [("at", 10), ("places", 11)]) (N := N_alternating) (sc := defScope s_alternating) (by decide +kernel)) (fun _ _ _ _ _ => (wTup rfl (wsCons (wName 10 sc_alternating.nd) (wsCons (wName 11 sc_alternating.nd) wsNil)))) (fun _ _ _ _ _ => ifs0) (fun _ _ _ _ _ => (dF (fIf (cCmp (dIn hr.units) (dV 10) (dFld U.f_last (dV 1)) (by rfl)) (fC takes0 C_merged (hr.mono (by omega)) (rVal (dF (fC takes0 C_moved (hr.mono (by omega)) (rVal (dV 11) (rVal (dV 3) rNil)))) (rVal (dV 6) rNil))) (fC takes0 C_moved (hr.mono (by omega)) (rVal (dV 11) (rVal (dV 3) rNil)))))))
    (sFrz 8 (sCons (sSet 9 sc_alternating.nd (fD (dF (fOp dAdd (dFld U.f_last (dV 0)) (dF (fIf (cW (wOr (cTru (dV 2)) (wOr1 (cTru (dFld U.f_empty (dV 0)))))) (fC tk C_moved (hr.mono (by omega)) (rVal (dFld U.f_last (dV 1)) (rVal (dV 3) rNil))) (fLst aNil)))))))
    (sOne (sRet (fMake tk K_Pattern (hr.mono (by omega)) (rVal (dF (fOp dAdd (dFld U.f_steps (dV 0)) (dFld U.f_steps (dV 1)))) (rVal (dV 6) (rVal (dF (fOp dAdd (dV 7) (dV 8))) (rVal (dV 9) (rVal (dFld U.f_empty (dV 0)) rNil)))))))))))))))))
theorem fn_Pattern_floordiv {f : Addr} {fd : FuncData} (Fu : Fun K "__floordiv__" "Pattern.__floordiv__" s_Pattern_floordiv f fd) (U : Bn K mg ct) (C_alternating : Cal P w K mg base ct "alternating" 3 ["some", "mark", "is_last_free"] F_alternating) : FnOk P w K mg base (L2.CX P w) (4) f fd ["self", "other"] (SpF K ct F_Pattern_floordiv) := by
  refine fn_d (k := 3) Fu sc_Pattern_floordiv fun cdv A outer s H E hr => ?_
  have tk : Takes (cxOf (L2.CX P w) P w K mg base N_Pattern_floordiv "Pattern.__floordiv__" (defScope s_Pattern_floordiv) f cdv A outer s H E) (fun c d _ H' => E c d H') := takes_of rfl rfl rfl rfl
  exact (sCons (sIf (cNot (cTru (dF (fB (cIsiO U.isi) (by rfl) U.isinstance (by decide +kernel) (aCons (dV 1) (aCons (dCls U.c_Pattern) aNil)))))) (sOne sFail) sNil)
    (sOne (sRet (fC tk C_alternating (hr.mono (by omega)) (rVal (dV 0) (rVal (dV 1) (rVal dBl rNil)))))))
theorem fn_Pattern_lshift {f : Addr} {fd : FuncData} (Fu : Fun K "__lshift__" "Pattern.__lshift__" s_Pattern_lshift f fd) (U : Bn K mg ct) (C_alternating : Cal P w K mg base ct "alternating" 3 ["some", "mark", "is_last_free"] F_alternating) : FnOk P w K mg base (L2.CX P w) (4) f fd ["self", "other"] (SpF K ct F_Pattern_lshift) := by
  refine fn_d (k := 3) Fu sc_Pattern_lshift fun cdv A outer s H E hr => ?_
  have tk : Takes (cxOf (L2.CX P w) P w K mg base N_Pattern_lshift "Pattern.__lshift__" (defScope s_Pattern_lshift) f cdv A outer s H E) (fun c d _ H' => E c d H') := takes_of rfl rfl rfl rfl
  exact (sCons (sIf (cNot (cTru (dF (fB (cIsiO U.isi) (by rfl) U.isinstance (by decide +kernel) (aCons (dV 1) (aCons (dCls U.c_Pattern) aNil)))))) (sOne sFail) sNil)
    (sOne (sRet (fC tk C_alternating (hr.mono (by omega)) (rVal (dV 0) (rVal (dV 1) (rVal dBl rNil)))))))
theorem fn_looped {f : Addr} {fd : FuncData} (Fu : Fun K "looped" "looped" s_looped f fd) (U : Bn K mg ct) (C_merged : Cal P w K mg base ct "merged" 1 ["some", "more"] F_merged) (K_Pattern : KCal P w K mg base ct "Pattern" 0 1 ["self", "steps", "first", "follow", "last", "empty"] F_Pattern_init) : FnOk P w K mg base (L2.CX P w) (3) f fd ["some", "empty"] (SpF K ct F_looped) := by
  refine fn_d (k := 2) Fu sc_looped fun cdv A outer s H E hr => ?_
  have tk : Takes (cxOf (L2.CX P w) P w K mg base N_looped "looped" (defScope s_looped) f cdv A outer s H E) (fun c d _ H' => E c d H') := takes_of rfl rfl rfl rfl
  exact (sCons (sSetLc 2 [("at", 3), ("places", 4)] rfl sc_looped.nd (iEnumD (by rfl) U.enumerate (aCons (dFld U.f_follow (dV 0)) aNil)) (blkOk_by (own := [("at", 3), ("places", 4)]) (N := N_looped) (sc := defScope s_looped) (by decide +kernel)) (fun _ _ _ _ _ => (wTup rfl (wsCons (wName 3 sc_looped.nd) (wsCons (wName 4 sc_looped.nd) wsNil)))) (fun _ _ _ _ _ => ifs0) (fun _ _ _ _ _ => (dF (fIf (cCmp (dIn hr.units) (dV 3) (dFld U.f_last (dV 0)) (by rfl)) (fC takes0 C_merged (hr.mono (by omega)) (rVal (dV 4) (rVal (dFld U.f_first (dV 0)) rNil))) (fD (dV 4))))))
    (sFrz 2 (sOne (sRet (fMake tk K_Pattern (hr.mono (by omega)) (rVal (dFld U.f_steps (dV 0)) (rVal (dFld U.f_first (dV 0)) (rVal (dV 2) (rVal (dFld U.f_last (dV 0)) (rVal (vOr (dFld U.f_empty (dV 0)) (vOne (dV 1))) rNil))))))))))
theorem fn_Pattern_rshift {f : Addr} {fd : FuncData} (Fu : Fun K "__rshift__" "Pattern.__rshift__" s_Pattern_rshift f fd) (U : Bn K mg ct) (C_chained : Cal P w K mg base ct "chained" 3 ["some", "more"] F_chained) (C_looped : Cal P w K mg base ct "looped" 3 ["some", "empty"] F_looped) : FnOk P w K mg base (L2.CX P w) (4) f fd ["self", "other"] (SpF K ct F_Pattern_rshift) := by
  refine fn_d (k := 3) Fu sc_Pattern_rshift fun cdv A outer s H E hr => ?_
  have tk : Takes (cxOf (L2.CX P w) P w K mg base N_Pattern_rshift "Pattern.__rshift__" (defScope s_Pattern_rshift) f cdv A outer s H E) (fun c d _ H' => E c d H') := takes_of rfl rfl rfl rfl
  exact (sCons (sIf (cNot (cTru (dF (fB (cIsiO U.isi) (by rfl) U.isinstance (by decide +kernel) (aCons (dV 1) (aCons (dCls U.c_Pattern) aNil)))))) (sOne sFail) sNil)
    (sOne (sRet (fC tk C_looped (hr.mono (by omega)) (rVal (dF (fC tk C_chained (hr.mono (by omega)) (rVal (dV 0) (rVal (dV 1) rNil)))) (rVal dBl rNil))))))
theorem fn_Pattern_neg {f : Addr} {fd : FuncData} (Fu : Fun K "__neg__" "Pattern.__neg__" s_Pattern_neg f fd) (U : Bn K mg ct) (K_Pattern : KCal P w K mg base ct "Pattern" 0 1 ["self", "steps", "first", "follow", "last", "empty"] F_Pattern_init) : FnOk P w K mg base (L2.CX P w) (3) f fd ["self"] (SpF K ct F_Pattern_neg) := by
  refine fn_d (k := 2) Fu sc_Pattern_neg fun cdv A outer s H E hr => ?_
  have tk : Takes (cxOf (L2.CX P w) P w K mg base N_Pattern_neg "Pattern.__neg__" (defScope s_Pattern_neg) f cdv A outer s H E) (fun c d _ H' => E c d H') := takes_of rfl rfl rfl rfl
  exact (sOne (sRet (fMake tk K_Pattern (hr.mono (by omega)) (rVal (dFld U.f_steps (dV 0)) (rVal (dFld U.f_first (dV 0)) (rVal (dFld U.f_follow (dV 0)) (rVal (dFld U.f_last (dV 0)) (rVal dBl rNil))))))))
theorem fn_Pattern_pos {f : Addr} {fd : FuncData} (Fu : Fun K "__pos__" "Pattern.__pos__" s_Pattern_pos f fd) (U : Bn K mg ct) (C_looped : Cal P w K mg base ct "looped" 3 ["some", "empty"] F_looped) : FnOk P w K mg base (L2.CX P w) (4) f fd ["self"] (SpF K ct F_Pattern_pos) := by
  refine fn_d (k := 3) Fu sc_Pattern_pos fun cdv A outer s H E hr => ?_
  have tk : Takes (cxOf (L2.CX P w) P w K mg base N_Pattern_pos "Pattern.__pos__" (defScope s_Pattern_pos) f cdv A outer s H E) (fun c d _ H' => E c d H') := takes_of rfl rfl rfl rfl
  exact (sOne (sRet (fC tk C_looped (hr.mono (by omega)) (rVal (dV 0) (rVal dBl rNil)))))
theorem fn_Pattern_invert {f : Addr} {fd : FuncData} (Fu : Fun K "__invert__" "Pattern.__invert__" s_Pattern_invert f fd) (U : Bn K mg ct) (C_looped : Cal P w K mg base ct "looped" 3 ["some", "empty"] F_looped) : FnOk P w K mg base (L2.CX P w) (4) f fd ["self"] (SpF K ct F_Pattern_invert) := by
  refine fn_d (k := 3) Fu sc_Pattern_invert fun cdv A outer s H E hr => ?_
  have tk : Takes (cxOf (L2.CX P w) P w K mg base N_Pattern_invert "Pattern.__invert__" (defScope s_Pattern_invert) f cdv A outer s H E) (fun c d _ H' => E c d H') := takes_of rfl rfl rfl rfl
  exact (sOne (sRet (fC tk C_looped (hr.mono (by omega)) (rVal (dV 0) (rVal dBl rNil)))))
theorem fn_Pattern_len {f : Addr} {fd : FuncData} (Fu : Fun K "__len__" "Pattern.__len__" s_Pattern_len f fd) (U : Bn K mg ct) : FnOk P w K mg base (L2.CX P w) (1) f fd ["self"] (SpF K ct F_Pattern_len) := by
  refine fn_d (k := 0) Fu sc_Pattern_len fun cdv A outer s H E hr => ?_
  have tk : Takes (cxOf (L2.CX P w) P w K mg base N_Pattern_len "Pattern.__len__" (defScope s_Pattern_len) f cdv A outer s H E) (fun c d _ H' => E c d H') := takes_of rfl rfl rfl rfl
  exact (sOne (sRet (fB cLen (by rfl) U.len (by decide +kernel) (aCons (dFld U.f_steps (dV 0)) aNil))))
theorem fn_Pattern_uses {f : Addr} {fd : FuncData} (Fu : Fun K "uses" "Pattern.uses" s_Pattern_uses f fd) (U : Bn K mg ct) : FnOk P w K mg base (L2.CX P w) (1) f fd ["self"] (SpF K ct F_Pattern_uses) := by
  refine fn_d (k := 0) Fu sc_Pattern_uses fun cdv A outer s H E hr => ?_
  have tk : Takes (cxOf (L2.CX P w) P w K mg base N_Pattern_uses "Pattern.uses" (defScope s_Pattern_uses) f cdv A outer s H E) (fun c d _ H' => E c d H') := takes_of rfl rfl rfl rfl
  exact (sOne (sRet (fSs1 [("step", 1)] rfl hr.units sc_Pattern_uses.nd U.sorted (iAny (dFld U.f_steps (dV 0))) (blkOk_by (own := [("step", 1)]) (N := N_Pattern_uses) (sc := defScope s_Pattern_uses) (by decide +kernel)) (fun _ _ _ _ _ => (wName 1 sc_Pattern_uses.nd)) (fun _ _ _ _ _ => ifs0) (fun _ _ _ _ _ => (dF (fIx (dV 1) dInt (fun _ _ => rfl)))))))
theorem fn_one {f : Addr} {fd : FuncData} (Fu : FunD K "one" "one" (defArgs s_one) (defBody s_one) (defScope s_one) [.str "plain"] [] f fd) (U : Bn K mg ct) (K_Pattern : KCal P w K mg base ct "Pattern" 0 1 ["self", "steps", "first", "follow", "last", "empty"] F_Pattern_init) : FnOk P w K mg base (L2.CX P w) (3) f fd ["symbol", "role"] (SpF K ct F_one) := by
  refine fn_dD (k := 2) Fu sc_one fun cdv A outer s H E hr => ?_
  have tk : Takes (cxOf (L2.CX P w) P w K mg base N_one "one" (defScope s_one) f cdv A outer s H E) (fun c d _ H' => E c d H') := takes_of rfl rfl rfl rfl
  exact (sOne (sRet (fMake tk K_Pattern (hr.mono (by omega)) (rVal (dF (fLst (aCons (dF (fTup (aCons (dV 0) (aCons (dV 1) aNil)))) aNil))) (rVal (dF (fLst (aCons dInt aNil))) (rVal (dF (fLst (aCons (dF (fLst aNil)) aNil))) (rVal (dF (fLst (aCons dInt aNil))) (rVal dBl rNil))))))))
theorem fn_law_bag {f : Addr} {fd : FuncData} (Fu : Fun K "_law_bag" "_law_bag" s_law_bag f fd) (U : Bn K mg ct) : FnOk P w K mg base (L2.CX P w) (1) f fd ["_law_script", "_law_at"] (SpF K ct F_law_bag) := by
  refine fn_d (k := 0) Fu sc_law_bag fun cdv A outer s H E hr => ?_
  have tk : Takes (cxOf (L2.CX P w) P w K mg base N_law_bag "_law_bag" (defScope s_law_bag) f cdv A outer s H E) (fun c d _ H' => E c d H') := takes_of rfl rfl rfl rfl
  exact (sCons (sSet 2 sc_law_bag.nd (fD (dF (fIf (cCmp dLt (dV 1) (dF (fB cLen (by rfl) U.len (by decide +kernel) (aCons (dV 0) aNil))) (nomark _)) (fIx (dV 0) (dV 1) (fun _ _ => rfl)) (fD dInt)))))
    (sCons (sSet 3 sc_law_bag.nd (fD (dF (fIf (cCmp dGe (dF (fB cAbs (by rfl) U.abs (by decide +kernel) (aCons (dV 2) aNil))) (dF (fOp dPow dInt dInt)) (nomark _)) (fB cAbs (by rfl) U.abs (by decide +kernel) (aCons (dV 2) aNil)) (fD dInt)))))
    (sOne (sRet (fLst (aCons (dV 3) (aCons (dF (fOp dAdd (dF (fOp dAdd (dF (fOp dMul (dF (fOp dMod (dF (fTy cInt (by rfl) U.int (by decide +kernel) (aCons (dV 2) aNil))) dInt)) dInt)) (dF (fOp dMul dInt (dV 1))))) dInt)) (aCons dInt aNil))))))))
theorem fn_law_take {f : Addr} {fd : FuncData} (Fu : Fun K "_law_take" "_law_take" s_law_take f fd) (U : Bn K mg ct) : FnOk P w K mg base (L2.CX P w) (1) f fd ["_law_dice", "_law_many"] (SpF K ct F_law_take) := by
  refine fn_d (k := 0) Fu sc_law_take fun cdv A outer s H E hr => ?_
  have tk : Takes (cxOf (L2.CX P w) P w K mg base N_law_take "_law_take" (defScope s_law_take) f cdv A outer s H E) (fun c d _ H' => E c d H') := takes_of rfl rfl rfl rfl
  exact (sCons (sIf (cCmp dGt (dF (fBor 0 (fIx (dV 0) dInt (fun _ _ => rfl)))) dInt (nomark _)) (sCons (sSet 2 sc_law_take.nd (fD (dF (fOp dMod (dF (fTy cInt (by rfl) U.int (by decide +kernel) (aCons (dF (fBor 0 (fIx (dV 0) dInt (fun _ _ => rfl)))) aNil))) (dV 1)))))
    (sCons (sStore 0 (dF (fOp dFdiv (dF (fBor 0 (fIx (dV 0) dInt (fun _ _ => rfl)))) (dV 1))) dInt)
    (sOne (sRet (fD (dV 2)))))) sNil)
    (sCons (sStore 0 (dF (fOp dAdd (dF (fBor 0 (fIx (dV 0) dInt (fun _ _ => rfl)))) dInt)) dInt)
    (sCons (sSet 3 sc_law_take.nd (fD (dF (fOp dMod (dF (fTy cInt (by rfl) U.int (by decide +kernel) (aCons (dF (fOp dPow (dF (fOp dAdd (dF (fBor 0 (fIx (dV 0) dInt (fun _ _ => rfl)))) (dF (fOp dMul dInt (dF (fBor 0 (fIx (dV 0) dInt (fun _ _ => rfl)))))))) dInt)) aNil))) dInt))))
    (sCons (sSet 3 sc_law_take.nd (fD (dF (fOp dMod (dF (fTy cInt (by rfl) U.int (by decide +kernel) (aCons (dF (fOp dPow (dF (fOp dAdd (dV 3) (dF (fOp dMul dInt (dF (fBor 0 (fIx (dV 0) dInt (fun _ _ => rfl)))))))) dInt)) aNil))) dInt))))
    (sOne (sRet (fOp dMod (dF (fTy cInt (by rfl) U.int (by decide +kernel) (aCons (dF (fOp dFdiv (dV 3) dInt)) aNil))) (dV 1))))))))
theorem fn_law_of {f : Addr} {fd : FuncData} (Fu : Fun K "_law_of" "_law_of" s_law_of f fd) (U : Bn K mg ct) (C_law_take : Cal P w K mg base ct "_law_take" 1 ["_law_dice", "_law_many"] F_law_take) : FnOk P w K mg base (L2.CX P w) (2) f fd ["_law_dice", "_law_some"] (SpF K ct F_law_of) := by
  refine fn_d (k := 1) Fu sc_law_of fun cdv A outer s H E hr => ?_
  have tk : Takes (cxOf (L2.CX P w) P w K mg base N_law_of "_law_of" (defScope s_law_of) f cdv A outer s H E) (fun c d _ H' => E c d H') := takes_of rfl rfl rfl rfl
  exact (sOne (sRet (fIx (dV 1) (dF (fC tk C_law_take (hr.mono (by omega)) (rLend 0 (rVal (dF (fB cLen (by rfl) U.len (by decide +kernel) (aCons (dV 1) aNil))) rNil)))) (fun _ _ => rfl))))
theorem fn_law_signs {f : Addr} {fd : FuncData} (Fu : Fun K "_law_signs" "_law_signs" s_law_signs f fd) (U : Bn K mg ct) : FnOk P w K mg base (L2.CX P w) (1) f fd [] (SpF K ct F_law_signs) := by
  refine fn_d (k := 0) Fu sc_law_signs fun cdv A outer s H E hr => ?_
  have tk : Takes (cxOf (L2.CX P w) P w K mg base N_law_signs "_law_signs" (defScope s_law_signs) f cdv A outer s H E) (fun c d _ H' => E c d H') := takes_of rfl rfl rfl rfl
  exact (sCons (sSet 0 sc_law_signs.nd (fD dStr))
    (sOne (sRet (fOp dAdd (dV 0) dStr))))
theorem fn_law_token {f : Addr} {fd : FuncData} (Fu : Fun K "_law_token" "_law_token" s_law_token f fd) (U : Bn K mg ct) (C_law_signs : Cal P w K mg base ct "_law_signs" 1 [] F_law_signs) (C_law_of : Cal P w K mg base ct "_law_of" 2 ["_law_dice", "_law_some"] F_law_of) : FnOk P w K mg base (L2.CX P w) (3) f fd ["_law_dice", "_law_taken"] (SpF K ct F_law_token) := by
  refine fn_d (k := 2) Fu sc_law_token fun cdv A outer s H E hr => ?_
  have tk : Takes (cxOf (L2.CX P w) P w K mg base N_law_token "_law_token" (defScope s_law_token) f cdv A outer s H E) (fun c d _ H' => E c d H') := takes_of rfl rfl rfl rfl
  have po : PassesOwn (model P w) (cxOf (L2.CX P w) P w K mg base N_law_token "_law_token" (defScope s_law_token) f cdv A outer s H E).A (cxOf (L2.CX P w) P w K mg base N_law_token "_law_token" (defScope s_law_token) f cdv A outer s H E).env (cxOf (L2.CX P w) P w K mg base N_law_token "_law_token" (defScope s_law_token) f cdv A outer s H E).xe := passes_of rfl
  exact (sCons (sPar2 2 3 rfl sc_law_token.nd (nCons (fD (dF (fC0 tk C_law_signs (hr.mono (by omega))))) (nCons (fD dStr) nNil)))
    (sCons (sFor po rfl (iRng1 (by rfl) U.range (aCons (dF (fC tk C_law_of (hr.mono (by omega)) (rLend 0 (rVal (dF (fLst (aCons dInt (aCons dInt (aCons dInt (aCons dInt (aCons dInt (aCons dInt aNil)))))))) rNil)))) aNil)) (gName 4 sc_law_token.nd) (sOne (sSet 3 sc_law_token.nd (fD (dF (fOp dAdd (dV 3) (dF (fC tk C_law_of (hr.mono (by omega)) (rLend 0 (rVal (dV 2) rNil))))))))))
    (sCons (sSet 5 sc_law_token.nd (fD (dF (fSl (dV 3) oNone (oSome dInt)))))
    (sCons (sFor po rfl (iAny (dV 2)) (gName 6 sc_law_token.nd) (sOne (sIf (cCmp (dIn hr.units) (dV 3) (dV 1) (by rfl)) (sOne (sSet 3 sc_law_token.nd (fD (dF (fOp dAdd (dV 5) (dV 6)))))) sNil)))
    (sOne (sRet (fD (dV 3))))))))
theorem fn_law_name {f : Addr} {fd : FuncData} (Fu : Fun K "_law_name" "_law_name" s_law_name f fd) (U : Bn K mg ct) (C_law_of : Cal P w K mg base ct "_law_of" 2 ["_law_dice", "_law_some"] F_law_of) : FnOk P w K mg base (L2.CX P w) (3) f fd ["_law_dice", "_law_taken"] (SpF K ct F_law_name) := by
  refine fn_d (k := 2) Fu sc_law_name fun cdv A outer s H E hr => ?_
  have tk : Takes (cxOf (L2.CX P w) P w K mg base N_law_name "_law_name" (defScope s_law_name) f cdv A outer s H E) (fun c d _ H' => E c d H') := takes_of rfl rfl rfl rfl
  have po : PassesOwn (model P w) (cxOf (L2.CX P w) P w K mg base N_law_name "_law_name" (defScope s_law_name) f cdv A outer s H E).A (cxOf (L2.CX P w) P w K mg base N_law_name "_law_name" (defScope s_law_name) f cdv A outer s H E).env (cxOf (L2.CX P w) P w K mg base N_law_name "_law_name" (defScope s_law_name) f cdv A outer s H E).xe := passes_of rfl
  exact (sCons (sAsg (dF (fTup (aCons dStr (aCons dStr aNil)))) (gTup rfl (gsCons (gName 2 sc_law_name.nd) (gsCons (gName 3 sc_law_name.nd) gsNil))))
    (sCons (sFor po rfl (iRng1 (by rfl) U.range (aCons (dF (fC tk C_law_of (hr.mono (by omega)) (rLend 0 (rVal (dF (fLst (aCons dInt (aCons dInt (aCons dInt (aCons dInt (aCons dInt (aCons dInt (aCons dInt (aCons dInt aNil)))))))))) rNil)))) aNil)) (gName 4 sc_law_name.nd) (sOne (sSet 3 sc_law_name.nd (fD (dF (fOp dAdd (dV 3) (dF (fC tk C_law_of (hr.mono (by omega)) (rLend 0 (rVal (dV 2) rNil))))))))))
    (sCons (sSet 5 sc_law_name.nd (fD (dF (fSl (dV 3) oNone (oSome dInt)))))
    (sCons (sFor po rfl (iAny (dV 2)) (gName 6 sc_law_name.nd) (sOne (sIf (cCmp (dIn hr.units) (dV 3) (dV 1) (by rfl)) (sOne (sSet 3 sc_law_name.nd (fD (dF (fOp dAdd (dV 5) (dV 6)))))) sNil)))
    (sOne (sRet (fD (dV 3))))))))
theorem fn_law_words {f : Addr} {fd : FuncData} (Fu : Fun K "_law_words" "_law_words" s_law_words f fd) (U : Bn K mg ct) (C_law_take : Cal P w K mg base ct "_law_take" 1 ["_law_dice", "_law_many"] F_law_take) (C_law_token : Cal P w K mg base ct "_law_token" 3 ["_law_dice", "_law_taken"] F_law_token) (C_law_name : Cal P w K mg base ct "_law_name" 3 ["_law_dice", "_law_taken"] F_law_name) : FnOk P w K mg base (L2.CX P w) (4) f fd ["_law_bag_here", "_law_many"] (SpF K ct F_law_words) := by
  refine fn_d (k := 3) Fu sc_law_words fun cdv A outer s H E hr => ?_
  have tk : Takes (cxOf (L2.CX P w) P w K mg base N_law_words "_law_words" (defScope s_law_words) f cdv A outer s H E) (fun c d _ H' => E c d H') := takes_of rfl rfl rfl rfl
  have po : PassesOwn (model P w) (cxOf (L2.CX P w) P w K mg base N_law_words "_law_words" (defScope s_law_words) f cdv A outer s H E).A (cxOf (L2.CX P w) P w K mg base N_law_words "_law_words" (defScope s_law_words) f cdv A outer s H E).env (cxOf (L2.CX P w) P w K mg base N_law_words "_law_words" (defScope s_law_words) f cdv A outer s H E).xe := passes_of rfl
  exact (sCons (sSet 2 sc_law_words.nd (fLst aNil))
    (sCons (sFor po rfl (iRng1 (by rfl) U.range (aCons (dV 1) aNil)) (gName 3 sc_law_words.nd) (sOne (sApp 2 (aCons (dF (fIf (cCmp (dEq hr.units) (dF (fC tk C_law_take (hr.mono (by omega)) (rLend 0 (rVal dInt rNil)))) dInt (nomark _)) (fBor 2 (fC tk C_law_token (hr.mono (by omega)) (rLend 0 (rVal (dV 2) rNil)))) (fBor 2 (fC tk C_law_name (hr.mono (by omega)) (rLend 0 (rVal (dV 2) rNil)))))) aNil))))
    (sOne (sRet (fMv 2)))))
theorem fn_law_size {f : Addr} {fd : FuncData} (Fu : Fun K "_law_size" "_law_size" s_law_size f fd) (U : Bn K mg ct) {j : Nat} {F_self : DF} (hj : 0 ≤ j) (C_self : Cal P w K mg base ct "_law_size" j ["_law_made"] F_self) : FnOk P w K mg base (L2.CX P w) (j + 1) f fd ["_law_made"] (SpF K ct (G_law_size F_self)) := by
  refine fn_d (k := j) Fu sc_law_size fun cdv A outer s H E hr => ?_
  have tk : Takes (cxOf (L2.CX P w) P w K mg base N_law_size "_law_size" (defScope s_law_size) f cdv A outer s H E) (fun c d _ H' => E c d H') := takes_of rfl rfl rfl rfl
  exact (sCons (sIf (cCmp (dIn hr.units) (dF (fIx (dV 0) dInt (fun _ _ => rfl))) (dF (fLst (aCons dStr (aCons dStr aNil)))) (by rfl)) (sOne (sRet (fTy cInt (by rfl) U.int (by decide +kernel) (aCons (dF (fCmp (dEq hr.units) (dF (fIx (dV 0) dInt (fun _ _ => rfl))) dStr (nomark _))) aNil)))) sNil)
    (sCons (sIf (cCmp (dEq hr.units) (dF (fIx (dV 0) dInt (fun _ _ => rfl))) dStr (nomark _)) (sOne (sRet (fOp dMul (dF (fC tk C_self (hr.mono (by omega)) (rVal (dF (fIx (dV 0) dInt (fun _ _ => rfl))) rNil))) (dF (fIx (dV 0) dInt (fun _ _ => rfl)))))) sNil)
    (sOne (sRet (fB (cSum rfl) (by rfl) U.sum (by decide +kernel) (aCons (dF (fLc [("_law_part", 1)] rfl sc_law_size.nd (iAny (dF (fSl (dV 0) (oSome dInt) oNone))) (blkOk_by (own := [("_law_part", 1)]) (N := N_law_size) (sc := defScope s_law_size) (by decide +kernel)) (fun _ _ _ _ _ => (wName 1 sc_law_size.nd)) (fun _ _ _ _ _ => ifs0) (fun _ _ _ _ _ => (dF (fC takes0 C_self (hr.mono (by omega)) (rVal (dV 1) rNil)))))) aNil))))))
theorem fn_law_any {f : Addr} {fd : FuncData} (Fu : Fun K "_law_any" "_law_any" s_law_any f fd) (U : Bn K mg ct) (C_law_take : Cal P w K mg base ct "_law_take" 1 ["_law_dice", "_law_many"] F_law_take) (C_law_of : Cal P w K mg base ct "_law_of" 2 ["_law_dice", "_law_some"] F_law_of) (C_law_size : Cal P w K mg base ct "_law_size" 20 ["_law_made"] F_law_size) : FnOk P w K mg base (L2.CX P w) (21) f fd ["_law_bag_here", "_law_symbols_here", "_law_roles", "_law_most"] (SpF K ct F_law_any) := by
  refine fn_d (k := 20) Fu sc_law_any fun cdv A outer s H E hr => ?_
  have tk : Takes (cxOf (L2.CX P w) P w K mg base N_law_any "_law_any" (defScope s_law_any) f cdv A outer s H E) (fun c d _ H' => E c d H') := takes_of rfl rfl rfl rfl
  have po : PassesOwn (model P w) (cxOf (L2.CX P w) P w K mg base N_law_any "_law_any" (defScope s_law_any) f cdv A outer s H E).A (cxOf (L2.CX P w) P w K mg base N_law_any "_law_any" (defScope s_law_any) f cdv A outer s H E).env (cxOf (L2.CX P w) P w K mg base N_law_any "_law_any" (defScope s_law_any) f cdv A outer s H E).xe := passes_of rfl
  exact (sCons (sPar2 4 5 rfl sc_law_any.nd (nCons (fLst aNil) (nCons (fD dInt) nNil)))
    (sCons (sSet 6 sc_law_any.nd (fD (dF (fOp dAdd dInt (dF (fC tk C_law_take (hr.mono (by omega)) (rLend 0 (rVal (dV 3) rNil))))))))
    (sCons (sFor po rfl (iRng1 (by rfl) U.range (aCons (dV 6) aNil)) (gName 7 sc_law_any.nd) (sCons (sSet 8 sc_law_any.nd (fD (dF (fTup (aCons dStr (aCons (dF (fC tk C_law_of (hr.mono (by omega)) (rLend 0 (rVal (dV 1) rNil)))) (aCons (dF (fC tk C_law_of (hr.mono (by omega)) (rLend 0 (rVal (dV 2) rNil)))) aNil)))))))
    (sCons (sSet 9 sc_law_any.nd (fD (dF (fC tk C_law_take (hr.mono (by omega)) (rLend 0 (rVal dInt rNil))))))
    (sCons (sSet 10 sc_law_any.nd (fD (dF (fIf (cCmp (dEq hr.units) (dV 9) dInt (nomark _)) (fC tk C_law_take (hr.mono (by omega)) (rLend 0 (rVal (dF (fOp dAdd (dF (fB (cMin rfl) (by rfl) U.min (by decide +kernel) (aCons dInt (aCons (dF (fOp dSub (dV 5) (dF (fOp dSub (dF (fOp dSub (dV 6) dInt)) (dV 7))))) aNil)))) dInt)) rNil))) (fD dInt)))))
    (sCons (sIf (cCmp dLt (dV 9) dInt (nomark _)) (sOne (sSet 8 sc_law_any.nd (fD (dF (fIf (cCmp (dEq hr.units) (dV 9) dInt (nomark _)) (fTup (aCons dStr (aCons (dV 8) (aCons (dV 10) aNil)))) (fTup (aCons dStr aNil))))))) sNil)
    (sCons (sSet 5 sc_law_any.nd (fD (dF (fOp dSub (dV 5) (dV 10)))))
    (sOne (sApp 4 (aCons (dV 8) aNil)))))))))
    (sCons (sFor po rfl (iRng1 (by rfl) U.range (aCons (dV 6) aNil)) (gName 7 sc_law_any.nd) (sCons (sSet 11 sc_law_any.nd (fD (dF (fC tk C_law_take (hr.mono (by omega)) (rLend 0 (rVal (dF (fBor 4 (fB cLen (by rfl) U.len (by decide +kernel) (aCons (dV 4) aNil)))) rNil))))))
    (sCons (sIf (cCmp (dEq hr.units) (dF (fC tk C_law_take (hr.mono (by omega)) (rLend 0 (rVal dInt rNil)))) dInt (nomark _)) (sOne (sStore 4 (dF (fTup (aCons (dF (fC tk C_law_of (hr.mono (by omega)) (rLend 0 (rVal (dF (fLst (aCons dStr (aCons dStr (aCons dStr aNil))))) rNil)))) (aCons (dF (fBor 4 (fIx (dV 4) (dV 11) (fun _ _ => rfl)))) aNil)))) (dV 11))) sNil)
    (sOne (sIf (cCmp dGt (dF (fBor 4 (fB cLen (by rfl) U.len (by decide +kernel) (aCons (dV 4) aNil)))) dInt (nomark _)) (sCons (sSet 12 sc_law_any.nd (fD (dPop 4 (dV 11))))
    (sCons (sSet 13 sc_law_any.nd (fD (dPop 4 (dF (fC tk C_law_take (hr.mono (by omega)) (rLend 0 (rVal (dF (fBor 4 (fB cLen (by rfl) U.len (by decide +kernel) (aCons (dV 4) aNil)))) rNil)))))))
    (sOne (sApp 4 (aCons (dF (fTup (aCons (dF (fC tk C_law_of (hr.mono (by omega)) (rLend 0 (rVal (dF (fLst (aCons dStr (aCons dStr (aCons dStr (aCons dStr (aCons dStr aNil))))))) rNil)))) (aCons (dV 12) (aCons (dV 13) aNil))))) aNil))))) sNil)))))
    (sFrz 4 (sCons (sSet 14 sc_law_any.nd (fD (dF (fIx (dV 4) dInt (fun _ _ => rfl)))))
    (sCons (sSet 9 sc_law_any.nd (fD (dF (fC tk C_law_take (hr.mono (by omega)) (rLend 0 (rVal dInt rNil))))))
    (sCons (sIf (cCmp (dEq hr.units) (dV 9) dInt (nomark _)) (sCons (sSet 3 sc_law_any.nd (fD (dF (fB (cMin3 rfl) (by rfl) U.min (by decide +kernel) (aCons dInt (aCons (dF (fOp dFdiv dInt (dF (fB (cMax rfl) (by rfl) U.max (by decide +kernel) (aCons dInt (aCons (dF (fC tk C_law_size (hr.mono (by omega)) (rVal (dV 14) rNil))) aNil)))))) (aCons (dF (fOp dFdiv dInt (dF (fOp dMul dInt (dV 6))))) aNil)))))))
    (sOne (sSet 14 sc_law_any.nd (fD (dF (fTup (aCons dStr (aCons (dV 14) (aCons (dF (fC tk C_law_take (hr.mono (by omega)) (rLend 0 (rVal (dF (fOp dAdd (dV 3) dInt)) rNil)))) aNil))))))))) sNil)
    (sOne (sRet (fD (dV 14))))))))))))
theorem fn_law_pattern {f : Addr} {fd : FuncData} (Fu : Fun K "_law_pattern" "_law_pattern" s_law_pattern f fd) (U : Bn K mg ct) {j : Nat} {F_self : DF} (hj : 15 ≤ j) (C_self : Cal P w K mg base ct "_law_pattern" j ["_law_made"] F_self) (C_one : Cal P w K mg base ct "one" 3 ["symbol", "role"] F_one) (C_nothing : Cal P w K mg base ct "nothing" 3 [] F_nothing) (M_0_Pattern_neg : MCal P w K mg base ct 0 "__neg__" 3 ["self"] F_Pattern_neg) (M_0_Pattern_pos : MCal P w K mg base ct 0 "__pos__" 4 ["self"] F_Pattern_pos) (M_0_Pattern_invert : MCal P w K mg base ct 0 "__invert__" 4 ["self"] F_Pattern_invert) (M_0_Pattern_mul : MCal P w K mg base ct 0 "__mul__" 15 ["self", "count"] F_Pattern_mul) (M_0_Pattern_add : MCal P w K mg base ct 0 "__add__" 4 ["self", "other"] F_Pattern_add) (M_0_Pattern_or : MCal P w K mg base ct 0 "__or__" 3 ["self", "other"] F_Pattern_or) (M_0_Pattern_floordiv : MCal P w K mg base ct 0 "__floordiv__" 4 ["self", "other"] F_Pattern_floordiv) (M_0_Pattern_lshift : MCal P w K mg base ct 0 "__lshift__" 4 ["self", "other"] F_Pattern_lshift) (M_0_Pattern_rshift : MCal P w K mg base ct 0 "__rshift__" 4 ["self", "other"] F_Pattern_rshift) : FnOk P w K mg base (L2.CX P w) (j + 1) f fd ["_law_made"] (SpF K ct (G_law_pattern F_self)) := by
  refine fn_d (k := j) Fu sc_law_pattern fun cdv A outer s H E hr => ?_
  have tk : Takes (cxOf (L2.CX P w) P w K mg base N_law_pattern "_law_pattern" (defScope s_law_pattern) f cdv A outer s H E) (fun c d _ H' => E c d H') := takes_of rfl rfl rfl rfl
  exact (sCons (sSet 1 sc_law_pattern.nd (fD (dF (fIx (dV 0) dInt (fun _ _ => rfl)))))
    (sCons (sIf (cCmp (dEq hr.units) (dV 1) dStr (nomark _)) (sOne (sRet (fC tk C_one (hr.mono (by omega)) (rVal (dF (fIx (dV 0) dInt (fun _ _ => rfl))) (rVal (dF (fIx (dV 0) dInt (fun _ _ => rfl))) rNil))))) sNil)
    (sCons (sIf (cCmp (dEq hr.units) (dV 1) dStr (nomark _)) (sOne (sRet (fC0 tk C_nothing (hr.mono (by omega))))) sNil)
    (sCons (sSet 2 sc_law_pattern.nd (fD (dF (fC tk C_self (hr.mono (by omega)) (rVal (dF (fIx (dV 0) dInt (fun _ _ => rfl))) rNil)))))
    (sCons (sIf (cCmp (dIn hr.units) (dV 1) (dF (fLst (aCons dStr (aCons dStr (aCons dStr aNil))))) (by rfl)) (sOne (sRet (fIf (cCmp (dEq hr.units) (dV 1) dStr (nomark _)) (fUnO (negO tk (MTab.one M_0_Pattern_neg (k := 3) (by decide) MTab.nil) (hr.mono (by omega))) (dV 2)) (fIf (cCmp (dEq hr.units) (dV 1) dStr (nomark _)) (fUnO (posO tk (MTab.one M_0_Pattern_pos (k := 4) (by decide) MTab.nil) (hr.mono (by omega))) (dV 2)) (fUnO (invO tk (MTab.one M_0_Pattern_invert (k := 4) (by decide) MTab.nil) (hr.mono (by omega))) (dV 2)))))) sNil)
    (sCons (sIf (cCmp (dEq hr.units) (dV 1) dStr (nomark _)) (sOne (sRet (fOpO (binOI tk (MTab.one M_0_Pattern_mul (k := 15) (by decide) MTab.nil) (hr.mono (by omega)) (U.sf _) (U.ib_Mult _)) (dV 2) (dF (fIx (dV 0) dInt (fun _ _ => rfl)))))) sNil)
    (sCons (sSet 3 sc_law_pattern.nd (fD (dF (fC tk C_self (hr.mono (by omega)) (rVal (dF (fIx (dV 0) dInt (fun _ _ => rfl))) rNil)))))
    (sCons (sIf (cCmp (dIn hr.units) (dV 1) (dF (fLst (aCons dStr (aCons dStr aNil)))) (by rfl)) (sOne (sRet (fIf (cCmp (dEq hr.units) (dV 1) dStr (nomark _)) (fOpO (binO tk (MTab.one M_0_Pattern_add (k := 4) (by decide) MTab.nil) (hr.mono (by omega)) (U.sf _)) (dV 2) (dV 3)) (fOpO (binO tk (MTab.one M_0_Pattern_or (k := 3) (by decide) MTab.nil) (hr.mono (by omega)) (U.sf _)) (dV 2) (dV 3))))) sNil)
    (sCons (sIf (cCmp (dEq hr.units) (dV 1) dStr (nomark _)) (sOne (sRet (fOpO (binO tk (MTab.one M_0_Pattern_floordiv (k := 4) (by decide) MTab.nil) (hr.mono (by omega)) (U.sf _)) (dV 2) (dV 3)))) sNil)
    (sOne (sRet (fIf (cCmp (dEq hr.units) (dV 1) dStr (nomark _)) (fOpO (binO tk (MTab.one M_0_Pattern_lshift (k := 4) (by decide) MTab.nil) (hr.mono (by omega)) (U.sf _)) (dV 2) (dV 3)) (fOpO (binO tk (MTab.one M_0_Pattern_rshift (k := 4) (by decide) MTab.nil) (hr.mono (by omega)) (U.sf _)) (dV 2) (dV 3))))))))))))))
theorem fn_law_symbols {f : Addr} {fd : FuncData} (Fu : Fun K "_law_symbols" "_law_symbols" s_law_symbols f fd) (U : Bn K mg ct) {j : Nat} {F_self : DF} (hj : 0 ≤ j) (C_self : Cal P w K mg base ct "_law_symbols" j ["_law_made"] F_self) : FnOk P w K mg base (L2.CX P w) (j + 1) f fd ["_law_made"] (SpF K ct (G_law_symbols F_self)) := by
  refine fn_d (k := j) Fu sc_law_symbols fun cdv A outer s H E hr => ?_
  have tk : Takes (cxOf (L2.CX P w) P w K mg base N_law_symbols "_law_symbols" (defScope s_law_symbols) f cdv A outer s H E) (fun c d _ H' => E c d H') := takes_of rfl rfl rfl rfl
  have po : PassesOwn (model P w) (cxOf (L2.CX P w) P w K mg base N_law_symbols "_law_symbols" (defScope s_law_symbols) f cdv A outer s H E).A (cxOf (L2.CX P w) P w K mg base N_law_symbols "_law_symbols" (defScope s_law_symbols) f cdv A outer s H E).env (cxOf (L2.CX P w) P w K mg base N_law_symbols "_law_symbols" (defScope s_law_symbols) f cdv A outer s H E).xe := passes_of rfl
  exact (sCons (sIf (cCmp (dEq hr.units) (dF (fIx (dV 0) dInt (fun _ _ => rfl))) dStr (nomark _)) (sOne (sRet (fLst (aCons (dF (fIx (dV 0) dInt (fun _ _ => rfl))) aNil)))) sNil)
    (sCons (sIf (cW (wOr (cCmp (dEq hr.units) (dF (fIx (dV 0) dInt (fun _ _ => rfl))) dStr (nomark _)) (wOr1 (cW (wAnd (cCmp (dEq hr.units) (dF (fIx (dV 0) dInt (fun _ _ => rfl))) dStr (nomark _)) (wAnd1 (cCmp (dEq hr.units) (dF (fIx (dV 0) dInt (fun _ _ => rfl))) dInt (nomark _)))))))) (sOne (sRet (fLst aNil))) sNil)
    (sCons (sSet 1 sc_law_symbols.nd (fD (dF (fLst aNil))))
    (sCons (sFor po rfl (iAny (dF (fIf (cCmp (dEq hr.units) (dF (fIx (dV 0) dInt (fun _ _ => rfl))) dStr (nomark _)) (fSl (dV 0) (oSome dInt) (oSome dInt)) (fSl (dV 0) (oSome dInt) oNone)))) (gName 2 sc_law_symbols.nd) (sOne (sSet 1 sc_law_symbols.nd (fD (dF (fOp dAdd (dV 1) (dF (fLc [("_law_symbol", 3)] rfl sc_law_symbols.nd (iAny (dF (fC tk C_self (hr.mono (by omega)) (rVal (dV 2) rNil)))) (blkOk_by (own := [("_law_symbol", 3)]) (N := N_law_symbols) (sc := defScope s_law_symbols) (by decide +kernel)) (fun _ _ _ _ _ => (wName 3 sc_law_symbols.nd)) (fun _ _ _ _ _ => (ifs1 (cCmp (dNotIn hr.units) (dV 3) (dV 1) (by rfl)))) (fun _ _ _ _ _ => (dV 3))))))))))
    (sOne (sRet (fD (dV 1))))))))
theorem fn_law {f : Addr} {fd : FuncData} (Fu : Fun K "law" "law" s_law f fd) (U : Bn K mg ct) (C_law_bag : Cal P w K mg base ct "_law_bag" 1 ["_law_script", "_law_at"] F_law_bag) (C_law_take : Cal P w K mg base ct "_law_take" 1 ["_law_dice", "_law_many"] F_law_take) (C_law_words : Cal P w K mg base ct "_law_words" 4 ["_law_bag_here", "_law_many"] F_law_words) (C_law_name : Cal P w K mg base ct "_law_name" 3 ["_law_dice", "_law_taken"] F_law_name) (C_law_any : Cal P w K mg base ct "_law_any" 21 ["_law_bag_here", "_law_symbols_here", "_law_roles", "_law_most"] F_law_any) (C_law_size : Cal P w K mg base ct "_law_size" 20 ["_law_made"] F_law_size) (C_law_pattern : Cal P w K mg base ct "_law_pattern" 35 ["_law_made"] F_law_pattern) (C_law_symbols : Cal P w K mg base ct "_law_symbols" 20 ["_law_made"] F_law_symbols) (M_0_Pattern_uses : MCal P w K mg base ct 0 "uses" 1 ["self"] F_Pattern_uses) (M_0_Pattern_len : MCal P w K mg base ct 0 "__len__" 1 ["self"] F_Pattern_len) (M_0_Pattern_invert : MCal P w K mg base ct 0 "__invert__" 4 ["self"] F_Pattern_invert) (M_0_Pattern_pos : MCal P w K mg base ct 0 "__pos__" 4 ["self"] F_Pattern_pos) (M_0_Pattern_neg : MCal P w K mg base ct 0 "__neg__" 3 ["self"] F_Pattern_neg) (M_0_Pattern_or : MCal P w K mg base ct 0 "__or__" 3 ["self", "other"] F_Pattern_or) (M_0_Pattern_add : MCal P w K mg base ct 0 "__add__" 4 ["self", "other"] F_Pattern_add) (D_one : CalD P w K mg base ct "one" 3 ["symbol", "role"] [.str "plain"] F_one) (M_0_Pattern_mul : MCal P w K mg base ct 0 "__mul__" 15 ["self", "count"] F_Pattern_mul) : FnOk P w K mg base (L2.CX P w) (36) f fd ["_law_script"] (SpF K ct F_law) := by
  refine fn_d (k := 35) Fu sc_law fun cdv A outer s H E hr => ?_
  have tk : Takes (cxOf (L2.CX P w) P w K mg base N_law "law" (defScope s_law) f cdv A outer s H E) (fun c d _ H' => E c d H') := takes_of rfl rfl rfl rfl
  have po : PassesOwn (model P w) (cxOf (L2.CX P w) P w K mg base N_law "law" (defScope s_law) f cdv A outer s H E).A (cxOf (L2.CX P w) P w K mg base N_law "law" (defScope s_law) f cdv A outer s H E).env (cxOf (L2.CX P w) P w K mg base N_law "law" (defScope s_law) f cdv A outer s H E).xe := passes_of rfl
  exact (sCons (sFor po rfl (iRng1 (by rfl) U.range (aCons (dF (fB (cMax rfl) (by rfl) U.max (by decide +kernel) (aCons dInt (aCons (dF (fB (cMin rfl) (by rfl) U.min (by decide +kernel) (aCons dInt (aCons (dF (fB cLen (by rfl) U.len (by decide +kernel) (aCons (dV 0) aNil))) aNil)))) aNil)))) aNil)) (gName 1 sc_law.nd) (sCons (sSet 2 sc_law.nd (fC tk C_law_bag (hr.mono (by omega)) (rVal (dV 0) (rVal (dV 1) rNil))))
    (sCons (sSet 3 sc_law.nd (fD (dF (fC tk C_law_words (hr.mono (by omega)) (rLend 2 (rVal (dF (fOp dAdd dInt (dF (fC tk C_law_take (hr.mono (by omega)) (rLend 2 (rVal dInt rNil)))))) rNil))))))
    (sCons (sSetLc 4 [("_law_turn", 14)] rfl sc_law.nd (iRng1 (by rfl) U.range (aCons (dF (fOp dAdd dInt (dF (fC tk C_law_take (hr.mono (by omega)) (rLend 2 (rVal dInt rNil)))))) aNil)) (blkOk_by (own := [("_law_turn", 14)]) (N := N_law) (sc := defScope s_law) (by decide +kernel)) (fun _ _ _ _ _ => (wName 14 sc_law.nd)) (fun _ _ _ _ _ => ifs0) (fun _ _ _ _ _ => (dF (fC takes0 C_law_name (hr.mono (by omega)) (rLend 2 (rVal (dF (fLst aNil)) rNil))))))
    (sFrz 4 (sCons (sSet 5 sc_law.nd (fD (dF (fC tk C_law_any (hr.mono (by omega)) (rLend 2 (rVal (dV 3) (rVal (dV 4) (rVal dInt rNil))))))))
    (sCons (sPar2 6 7 rfl sc_law.nd (nCons (fD (dF (fC tk C_law_pattern (hr.mono (by omega)) (rVal (dV 5) rNil)))) (nCons (fD (dF (fC tk C_law_size (hr.mono (by omega)) (rVal (dV 5) rNil)))) nNil)))
    (sCons (sSet 8 sc_law.nd (fD (dF (fB (cSortD hr.units) (by rfl) U.sorted (by decide +kernel) (aCons (dF (fC tk C_law_symbols (hr.mono (by omega)) (rVal (dV 5) rNil))) aNil)))))
    (sCons (sSet 9 sc_law.nd (fD (dF (fC tk C_law_pattern (hr.mono (by omega)) (rVal (dF (fC tk C_law_any (hr.mono (by omega)) (rLend 2 (rVal (dV 3) (rVal (dV 4) (rVal dInt rNil)))))) rNil)))))
    (sCons (sIf (cW (wOr (cNot (cTru (dF (fB (cIsiO U.isi) (by rfl) U.isinstance (by decide +kernel) (aCons (dV 6) (aCons (dCls U.c_Pattern) aNil)))))) (wOr1 (cNot (cTru (dF (fB (cIsiO U.isi) (by rfl) U.isinstance (by decide +kernel) (aCons (dV 9) (aCons (dCls U.c_Pattern) aNil))))))))) (sOne (sRet (fD dBl))) sNil)
    (sCons (sSet 10 sc_law.nd (fMeth0 tk (MTab.one M_0_Pattern_uses (k := 1) (by decide) MTab.nil) (hr.mono (by omega)) (dV 6)))
    (sCons (sIf (cW (wOr (cCmp (dNe hr.units) (dF (fLenO tk (MTab.one M_0_Pattern_len (k := 1) (by decide) MTab.nil) (hr.mono (by omega)) U.len (dV 6))) (dV 7) (nomark _)) (wOr (cBor 10 (cCmp (dNe hr.units) (dV 10) (dV 8) (nomark _))) (wOr1 (cNot (cTru (dF (fBor 10 (fB (cIsiO U.isi) (by rfl) U.isinstance (by decide +kernel) (aCons (dV 10) (aCons (dTy U.list (by decide +kernel)) aNil))))))))))) (sOne (sRet (fD dBl))) sNil)
    (sCons (sApp 10 (aCons (dF (fIx (dV 3) dInt (fun _ _ => rfl))) aNil))
    (sCons (sSet 11 sc_law.nd (fD (dF (fMeth0 tk (MTab.one M_0_Pattern_uses (k := 1) (by decide) MTab.nil) (hr.mono (by omega)) (dV 9)))))
    (sCons (sIf (cW (wOr (cCmp (dNe hr.units) (dF (fMeth0 tk (MTab.one M_0_Pattern_uses (k := 1) (by decide) MTab.nil) (hr.mono (by omega)) (dV 6))) (dV 8) (nomark _)) (wOr (cCmp (dNe hr.units) (dF (fLenO tk (MTab.one M_0_Pattern_len (k := 1) (by decide) MTab.nil) (hr.mono (by omega)) U.len (dV 6))) (dV 7) (nomark _)) (wOr1 (cCmp (dNe hr.units) (dF (fB (cSortD hr.units) (by rfl) U.sorted (by decide +kernel) (aCons (dV 11) aNil))) (dV 11) (nomark _)))))) (sOne (sRet (fD dBl))) sNil)
    (sCons (sIf (cW (wOr (cCmp (dNe hr.units) (dF (fLenO tk (MTab.one M_0_Pattern_len (k := 1) (by decide) MTab.nil) (hr.mono (by omega)) U.len (dF (fUnO (negO tk (MTab.one M_0_Pattern_neg (k := 3) (by decide) MTab.nil) (hr.mono (by omega))) (dV 6))))) (dV 7) (nomark _)) (wOr (cCmp (dNe hr.units) (dF (fLenO tk (MTab.one M_0_Pattern_len (k := 1) (by decide) MTab.nil) (hr.mono (by omega)) U.len (dF (fUnO (posO tk (MTab.one M_0_Pattern_pos (k := 4) (by decide) MTab.nil) (hr.mono (by omega))) (dV 6))))) (dV 7) (nomark _)) (wOr1 (cCmp (dNe hr.units) (dF (fLenO tk (MTab.one M_0_Pattern_len (k := 1) (by decide) MTab.nil) (hr.mono (by omega)) U.len (dF (fUnO (invO tk (MTab.one M_0_Pattern_invert (k := 4) (by decide) MTab.nil) (hr.mono (by omega))) (dV 6))))) (dV 7) (nomark _)))))) (sOne (sRet (fD dBl))) sNil)
    (sCons (sIf (cCmp dLe (dF (fOp dAdd (dV 7) (dF (fLenO tk (MTab.one M_0_Pattern_len (k := 1) (by decide) MTab.nil) (hr.mono (by omega)) U.len (dV 9))))) dInt (nomark _)) (sCons (sPar2 12 13 rfl sc_law.nd (nCons (fD (dF (fOpO (binO tk (MTab.one M_0_Pattern_add (k := 4) (by decide) MTab.nil) (hr.mono (by omega)) (U.sf _)) (dV 6) (dV 9)))) (nCons (fD (dF (fOpO (binO tk (MTab.one M_0_Pattern_or (k := 3) (by decide) MTab.nil) (hr.mono (by omega)) (U.sf _)) (dV 9) (dV 6)))) nNil)))
    (sCons (sIf (cW (wOr (cCmp (dNe hr.units) (dF (fLenO tk (MTab.one M_0_Pattern_len (k := 1) (by decide) MTab.nil) (hr.mono (by omega)) U.len (dV 12))) (dF (fOp dAdd (dV 7) (dF (fLenO tk (MTab.one M_0_Pattern_len (k := 1) (by decide) MTab.nil) (hr.mono (by omega)) U.len (dV 9))))) (nomark _)) (wOr1 (cCmp (dNe hr.units) (dF (fLenO tk (MTab.one M_0_Pattern_len (k := 1) (by decide) MTab.nil) (hr.mono (by omega)) U.len (dV 13))) (dF (fLenO tk (MTab.one M_0_Pattern_len (k := 1) (by decide) MTab.nil) (hr.mono (by omega)) U.len (dV 12))) (nomark _))))) (sOne (sRet (fD dBl))) sNil)
    (sOne (sIf (cCmp (dNe hr.units) (dF (fMeth0 tk (MTab.one M_0_Pattern_uses (k := 1) (by decide) MTab.nil) (hr.mono (by omega)) (dV 12))) (dF (fMeth0 tk (MTab.one M_0_Pattern_uses (k := 1) (by decide) MTab.nil) (hr.mono (by omega)) (dV 13))) (nomark _)) (sOne (sRet (fD dBl))) sNil)))) sNil)
    (sOne (sIf (cW (wOr (cCmp (dNe hr.units) (dF (fLenO tk (MTab.one M_0_Pattern_len (k := 1) (by decide) MTab.nil) (hr.mono (by omega)) U.len (dF (fOpO (binOI tk (MTab.one M_0_Pattern_mul (k := 15) (by decide) MTab.nil) (hr.mono (by omega)) (U.sf _) (U.ib_Mult _)) (dV 6) dInt)))) dInt (nomark _)) (wOr (cCmp (dNe hr.units) (dF (fMeth0 tk (MTab.one M_0_Pattern_uses (k := 1) (by decide) MTab.nil) (hr.mono (by omega)) (dF (fOpO (binOI tk (MTab.one M_0_Pattern_mul (k := 15) (by decide) MTab.nil) (hr.mono (by omega)) (U.sf _) (U.ib_Mult _)) (dV 6) dInt)))) (dF (fLst aNil)) (nomark _)) (wOr1 (cCmp (dNe hr.units) (dF (fLenO tk (MTab.one M_0_Pattern_len (k := 1) (by decide) MTab.nil) (hr.mono (by omega)) U.len (dF (fCD tk D_one (hr.mono (by omega)) (rVal (dF (fIx (dV 3) dInt (fun _ _ => rfl))) rNil))))) dInt (nomark _)))))) (sOne (sRet (fD dBl))) sNil)))))))))))))))))))
    (sOne (sRet (fD dBl))))
end
end FD.Law

set_option Elab.async false
set_option linter.all false
set_option maxRecDepth 100000
namespace FD.Law
open PySem L2 FD
local macro_rules | `(tactic| walk_at "y1") => `(tactic| with_reducible first | refine y_seq ?_ | refine x_fld ?_ | refine x_oop ?_ | refine x_oun ?_ | refine x_len ?_ | refine x_meth ?_ | refine x_mkM ?_ | refine x_callAD ?_ | refine x_sf ?_ | refine x_addB ?_ | refine x_itB ?_ | refine y_setM ?_ | refine y_shD ?_ | refine z_fz ?_ | refine z_datS ?_ | refine z_datO ?_ | refine y_opS ?_ | refine y_callM ?_ | refine y_consM ?_ | refine y_ret ?_ | refine y_nx ?_ | refine y_rt ?_ | refine y_bk ?_ | refine y_ct ?_ | refine z_forN ?_ | refine z_forC ?_ | refine z_forB ?_ | refine z_forR ?_ | refine y_retM ?_ | refine y_ifM ?_ | refine y_tupM ?_ | refine y_lstM ?_ | refine y_testM ?_ | refine y_truM ?_ | refine y_notM ?_ | refine y_andM ?_ | refine y_orM ?_ | refine y_andV ?_ | refine y_orV ?_ | refine y_notV ?_ | refine y_dropM ?_ | refine y_augM ?_ | refine y_methM ?_ | refine y_slM ?_ | refine y_part ?_ | refine y_negM ?_ | refine y_replM ?_ | refine y_callA ?_ | refine y_arVal ?_ | refine y_arNil ?_ | refine y_fsCons ?_ | refine z_st ?_ | refine z_asg ?_ | refine z_par ?_ | refine y_forM ?_ | refine y_chain ?_ | refine wp_callT ?_ | refine wp_itM ?_ | refine y_bnd ?_)
local macro_rules | `(tactic| walk_at "e") => `(tactic| focus ((try simp only [setSl, setSls, gN, gT, gs0, gs1, get0, getS, set0, setS, own?, borS, pinAll, pin_un, pin_sh, pin_ow, pin_pn, pin_opt, List.map_cons, List.map_nil, wipeS, restS, argSls, argSl, Option.map, Option.bind, frzS, if_true, ite_true, Option.isSome, zipB, bb_un, bb_sh, bb_ow, bb_pn, bb_os, bb_ps, bb_opt, unpin, un_un, un_sh, un_ow, un_pn, un_opt, back, back1, Sl.dat, outs, List.length_cons, List.length_nil, Nat.zero_add, Nat.reduceAdd, Int.reduceToNat]); first | done | exact rfl))
local macro_rules | `(tactic| walk_at "f") => `(tactic| focus (first | exact rfl | (simp only [List.all_cons, List.all_nil, fo_un, fo_sh, fo_opt, fo_pn, flats_strs, flats_ints, flats, flat, Bool.and_self]; done)))
local macro_rules | `(tactic| walk_at "o") => `(tactic| with_reducible first | refine o_f1 ?_ | refine o_f2 ?_ | refine o_f3 ?_ | refine o_f4 ?_ | refine o_f5 ?_ | refine o_inI ?_ | refine o_ninI ?_ | refine o_inT ?_ | refine o_ninT ?_ | refine o_addN ?_ ?_ | refine o_addN0 ?_ ?_ | refine o_addNs ?_ ?_ | refine o_addSt ?_ ?_ | refine o_lenSt ?_ | refine o_listNs ?_ | refine o_itN ?_ | refine o_itNs ?_ | refine o_itSt ?_ | refine o_enNs ?_ | refine o_sum ?_ | refine o_any ?_ | refine o_min2 ?_ | refine o_max2 ?_ | refine o_min3 ?_ | refine o_add ?_ | refine o_sub ?_ | refine o_mod ?_ ?_ | refine o_mul ?_ ?_ | refine o_fdiv ?_ ?_ | refine o_pow ?_ ?_ | refine o_lt ?_ | refine o_le ?_ | refine o_gt ?_ | refine o_ge ?_ | refine o_eqi ?_ | refine o_nei ?_ | refine o_eqs ?_ | refine o_nes ?_ | refine o_len ?_ | refine o_lent ?_ | refine o_lenc ?_ | refine o_lens ?_ ?_ | refine o_abs ?_ | refine o_rng1 ?_ ?_ | refine o_rng2 ?_ ?_ | refine o_int ?_ | refine o_adds ?_ ?_ | refine o_addl ?_ ?_ | refine o_addt ?_ ?_)
local macro_rules | `(tactic| walk_at "y2") => `(tactic| first
  | ((with_reducible apply y_get); exact rfl)
  | ((with_reducible apply x_sfQ); (walk_at "e"); exact rfl; exact rfl; (walk_at "e"))
  | ((with_reducible apply x_mkF); (walk_at "e"); exact rfl)
  | ((with_reducible apply x_mkQ); (walk_at "e"))
  | ((with_reducible apply x_rt); exact rfl)
  | ((with_reducible apply y_setF); (walk_at "e"))
  | ((with_reducible apply y_setF); exact set_at rfl (by first | assumption | exact free_opt _) (by walk_at "e"))
  | ((with_reducible apply y_setF); exact setO_at rfl (by first | assumption | exact free_opt _) (by walk_at "e"))
  | ((with_reducible apply y_lend); exact rfl)
  | ((with_reducible apply z_bor); (walk_at "e"))
  | ((with_reducible apply z_borQ); exact rfl; (walk_at "f"); (walk_at "e"))
  | ((with_reducible apply z_callF); (walk_at "e"); exact rfl)
  | ((with_reducible apply z_backQ); (walk_at "e"))
  | ((with_reducible apply z_callF1); (walk_at "e"); exact rfl)
  | ((with_reducible apply z_back1Q); (walk_at "e"))
  | ((with_reducible apply z_prot); (walk_at "e"))
  | ((with_reducible apply z_unpQ); (walk_at "e"))
  | ((with_reducible apply z_rtK); (walk_at "e"))
  | ((with_reducible apply z_rtN); (walk_at "e"))
  | ((with_reducible apply z_app); (walk_at "e"))
  | ((with_reducible apply z_appQ); (walk_at "e"); (walk_at "e"))
  | ((with_reducible apply z_stK); (walk_at "e"))
  | ((with_reducible apply z_stQ); (walk_at "e"); exact rfl; (walk_at "e"); (walk_at "e"))
  | ((with_reducible apply z_tgQ); (walk_at "e"))
  | ((with_reducible apply z_parQ); (walk_at "e"))
  | ((with_reducible apply y_frzM); (walk_at "e"))
  | ((with_reducible apply y_mv); exact rfl)
  | (walk_at "o")
  | ((with_reducible apply y_lft); exact rfl)
  | ((with_reducible apply y_t))
  | ((with_reducible apply y_f))
  | ((with_reducible apply y_nt))
  | ((with_reducible apply y_nf))
  | ((with_reducible apply y_len); (exact big_le (Nat.le_of_ble_eq_true rfl)))
  | (with_reducible refine ⟨_, rfl, ?_⟩)
  | fail "y")
local macro_rules | `(tactic| walk_at "y") => `(tactic| first | walk_at "y1" | walk_at "y2" | fail "y")
section
variable {A B : Aut}
theorem init_ok (a b c d e : D) : Wp F_Pattern_init [.pn (.obj 0 []), .sh a, .sh b, .sh c, .sh d, .sh e] (fun sl as => sl = .sh .non ∧ as = [.pn (.obj 0 [("steps", a), ("first", b), ("follow", c), ("last", d), ("empty", e)]), .sh a, .sh b, .sh c, .sh d, .sh e]) := by
  refine y_run (ρ := [.pn (.obj 0 []), .sh a, .sh b, .sh c, .sh d, .sh e]) ⟨rfl, rfl⟩ rfl ?_
  unfold T_Pattern_init
  repeat' (walk_at "y")
  exact ⟨rfl, rfl⟩
theorem x_pat {ρ : List Sl} {Q : Sl → List Sl → Prop} {s : List (Str × Str)} {f : List Int} {w : List (List Int)} {l : List Int} {e : Bool} (h : Q (.ow (pat ⟨s, f, w, l, e⟩)) ρ) : Wp (mkF F_Pattern_init 0 [.val (stD s), .val (nD f), .val (nsD w), .val (nD l), .val (.bl e)]) ρ Q := by
  refine x_mkF (as := [.sh (stD s), .sh (nD f), .sh (nsD w), .sh (nD l), .sh (.bl e)]) rfl rfl ?_
  refine (init_ok (stD s) (nD f) (nsD w) (nD l) (.bl e)).imp ?_
  rintro _ _ ⟨rfl, rfl⟩
  exact x_mkQ (d := pat ⟨s, f, w, l, e⟩) rfl h
theorem is_moved {l : List Int} {k : Int} (hz : l.length ≤ sizeLine) : Is F_moved [nD l, .int k] (.ow (nD (mvL l k))) := by
  refine is_run (ρ := [.sh (nD l), .sh (.int k), .un]) rfl rfl ?_
  unfold T_moved
  refine y_retM (x_lc (α := Int) .int (fun i => some (.int (i + k))) l ?_)
  repeat' (walk_at "y")
  refine ⟨rfl, hz, rfl, rfl, fun i hi => ?_, ?_⟩
  · simp only [wipeS, set0, setS]
    repeat' (walk_at "y")
    exact ⟨rfl, rfl, rfl⟩
  · refine x_rt ?_
    rw [List.filterMap_eq_map']
    unfold nD mvL
    rw [List.map_map]
    rfl
theorem is_merged {a b : List Int} (hz : a.length + b.length ≤ sizeLine) : Is F_merged [nD a, nD b] (.ow (nD (mgL a b))) := by
  refine is_run (ρ := [.sh (nD a), .sh (nD b), .un]) rfl rfl ?_
  unfold T_merged
  iterate 4 (walk_at "y")
  refine x_lc (α := Int) .int (fun i => if a.contains i then none else some (.int i)) b ?_
  repeat' (walk_at "y")
  refine ⟨rfl, by omega, rfl, rfl, fun i hi => ?_, ?_⟩
  · simp only [wipeS, set0, setS]
    repeat' (walk_at "y")
    cases a.contains i
    · repeat' (walk_at "y")
      exact ⟨rfl, rfl, rfl⟩
    · repeat' (walk_at "y")
      exact ⟨rfl, rfl, rfl⟩
  · have e : (b.filterMap fun i => if a.contains i then none else some (D.int i)) = (b.filter fun p => !a.contains p).map .int := by
      clear hz
      induction b with
      | nil => rfl
      | cons i b ih =>
        cases h : a.contains i
        · rw [List.filterMap_cons_some (b := .int i) (by simp only [h]; rfl), ih, List.filter_cons_of_pos (by rw [h]; rfl), List.map_cons]
        · rw [List.filterMap_cons_none (by simp only [h]; rfl), ih, List.filter_cons_of_neg (by rw [h]; decide)]
    rw [e]
    refine z_datO ?_
    show Wp (lft (addS (nD a) (nD (b.filter fun p => !a.contains p)))) _ _
    refine o_addN ?_ (x_rt rfl)
    have := List.length_filter_le (fun p => !a.contains p) b
    omega
end
end FD.Law

set_option Elab.async false
set_option linter.all false
set_option maxRecDepth 100000
namespace FD.Law
open PySem L2 FD
section
variable {A B : Aut}
/-- short enough -/
structure Sm (A : Aut) : Prop where
  wf : WF A
  len : A.steps.length ≤ 100000
theorem Sm.first (h : Sm A) : A.first.length ≤ 100000 := Nat.le_trans h.wf.first.len h.len
theorem Sm.last (h : Sm A) : A.last.length ≤ 100000 := Nat.le_trans h.wf.last.len h.len
theorem Sm.follow (h : Sm A) : A.follow.length ≤ 100000 := by rw [h.wf.len]; exact h.len
theorem Sm.rows (h : Sm A) {p : List Int} (hp : p ∈ A.follow) : p.length ≤ 100000 := Nat.le_trans (h.wf.follow p hp).len h.len
theorem mv_len {l : List Int} {k : Int} : (mvL l k).length = l.length := List.length_map _
theorem mg_len {a b : List Int} : (mgL a b).length ≤ a.length + b.length := by
  unfold mgL
  rw [List.length_append]
  have := List.length_filter_le (fun p => !a.contains p) b
  omega
theorem hline : sizeLine = 16777216 := rfl
theorem o_isP {ρ : List Sl} {Q : Sl → List Sl → Prop} (h : Q (.sh (.bl true)) ρ) : Wp (lft (isiO sub [pat A, .cls 0])) ρ Q := y_lft rfl h
end
local macro_rules | `(tactic| walk_at "y1") => `(tactic| with_reducible first | refine y_seq ?_ | refine x_fld ?_ | refine x_oop ?_ | refine x_oun ?_ | refine x_len ?_ | refine x_meth ?_ | refine x_mkM ?_ | refine x_callAD ?_ | refine x_sf ?_ | refine x_addB ?_ | refine x_itB ?_ | refine y_setM ?_ | refine y_shD ?_ | refine z_fz ?_ | refine z_datS ?_ | refine z_datO ?_ | refine y_opS ?_ | refine y_callM ?_ | refine y_consM ?_ | refine y_ret ?_ | refine y_nx ?_ | refine y_rt ?_ | refine y_bk ?_ | refine y_ct ?_ | refine z_forN ?_ | refine z_forC ?_ | refine z_forB ?_ | refine z_forR ?_ | refine y_retM ?_ | refine y_ifM ?_ | refine y_tupM ?_ | refine y_lstM ?_ | refine y_testM ?_ | refine y_truM ?_ | refine y_notM ?_ | refine y_andM ?_ | refine y_orM ?_ | refine y_andV ?_ | refine y_orV ?_ | refine y_notV ?_ | refine y_dropM ?_ | refine y_augM ?_ | refine y_methM ?_ | refine y_slM ?_ | refine y_part ?_ | refine y_negM ?_ | refine y_replM ?_ | refine y_callA ?_ | refine y_arVal ?_ | refine y_arNil ?_ | refine y_fsCons ?_ | refine z_st ?_ | refine z_asg ?_ | refine z_par ?_ | refine y_forM ?_ | refine y_chain ?_ | refine wp_callT ?_ | refine wp_itM ?_ | refine y_bnd ?_)
local macro_rules | `(tactic| walk_at "e") => `(tactic| focus ((try simp only [setSl, setSls, gN, gT, gs0, gs1, get0, getS, set0, setS, own?, borS, pinAll, pin_un, pin_sh, pin_ow, pin_pn, pin_opt, List.map_cons, List.map_nil, wipeS, restS, argSls, argSl, Option.map, Option.bind, frzS, if_true, ite_true, Option.isSome, zipB, bb_un, bb_sh, bb_ow, bb_pn, bb_os, bb_ps, bb_opt, unpin, un_un, un_sh, un_ow, un_pn, un_opt, back, back1, Sl.dat, outs, List.length_cons, List.length_nil, Nat.zero_add, Nat.reduceAdd, Int.reduceToNat]); first | done | exact rfl))
local macro_rules | `(tactic| walk_at "f") => `(tactic| focus (first | exact rfl | (simp only [List.all_cons, List.all_nil, fo_un, fo_sh, fo_opt, fo_pn, flats_strs, flats_ints, flats, flat, Bool.and_self]; done)))
local macro_rules | `(tactic| walk_at "o") => `(tactic| with_reducible first | refine o_isP ?_ | refine o_f1 ?_ | refine o_f2 ?_ | refine o_f3 ?_ | refine o_f4 ?_ | refine o_f5 ?_ | refine o_inI ?_ | refine o_ninI ?_ | refine o_inT ?_ | refine o_ninT ?_ | refine o_addN ?_ ?_ | refine o_addN0 ?_ ?_ | refine o_addNs ?_ ?_ | refine o_addSt ?_ ?_ | refine o_lenSt ?_ | refine o_listNs ?_ | refine o_itN ?_ | refine o_itNs ?_ | refine o_itSt ?_ | refine o_enNs ?_ | refine o_sum ?_ | refine o_any ?_ | refine o_min2 ?_ | refine o_max2 ?_ | refine o_min3 ?_ | refine o_add ?_ | refine o_sub ?_ | refine o_mod ?_ ?_ | refine o_mul ?_ ?_ | refine o_fdiv ?_ ?_ | refine o_pow ?_ ?_ | refine o_lt ?_ | refine o_le ?_ | refine o_gt ?_ | refine o_ge ?_ | refine o_eqi ?_ | refine o_nei ?_ | refine o_eqs ?_ | refine o_nes ?_ | refine o_len ?_ | refine o_lent ?_ | refine o_lenc ?_ | refine o_lens ?_ ?_ | refine o_abs ?_ | refine o_rng1 ?_ ?_ | refine o_rng2 ?_ ?_ | refine o_int ?_ | refine o_adds ?_ ?_ | refine o_addl ?_ ?_ | refine o_addt ?_ ?_)
local macro_rules | `(tactic| walk_at "y2") => `(tactic| first
  | ((with_reducible apply y_get); exact rfl)
  | ((with_reducible apply x_sfQ); (walk_at "e"); exact rfl; exact rfl; (walk_at "e"))
  | ((with_reducible apply x_mkF); (walk_at "e"); exact rfl)
  | ((with_reducible apply x_mkQ); (walk_at "e"))
  | ((with_reducible apply x_rt); exact rfl)
  | ((with_reducible apply y_setF); (walk_at "e"))
  | ((with_reducible apply y_setF); exact set_at rfl (by first | assumption | exact free_opt _) (by walk_at "e"))
  | ((with_reducible apply y_setF); exact setO_at rfl (by first | assumption | exact free_opt _) (by walk_at "e"))
  | ((with_reducible apply y_lend); exact rfl)
  | ((with_reducible apply z_bor); (walk_at "e"))
  | ((with_reducible apply z_borQ); exact rfl; (walk_at "f"); (walk_at "e"))
  | ((with_reducible apply z_callF); (walk_at "e"); exact rfl)
  | ((with_reducible apply z_backQ); (walk_at "e"))
  | ((with_reducible apply z_callF1); (walk_at "e"); exact rfl)
  | ((with_reducible apply z_back1Q); (walk_at "e"))
  | ((with_reducible apply z_prot); (walk_at "e"))
  | ((with_reducible apply z_unpQ); (walk_at "e"))
  | ((with_reducible apply z_rtK); (walk_at "e"))
  | ((with_reducible apply z_rtN); (walk_at "e"))
  | ((with_reducible apply z_app); (walk_at "e"))
  | ((with_reducible apply z_appQ); (walk_at "e"); (walk_at "e"))
  | ((with_reducible apply z_stK); (walk_at "e"))
  | ((with_reducible apply z_stQ); (walk_at "e"); exact rfl; (walk_at "e"); (walk_at "e"))
  | ((with_reducible apply z_tgQ); (walk_at "e"))
  | ((with_reducible apply z_parQ); (walk_at "e"))
  | ((with_reducible apply y_frzM); (walk_at "e"))
  | ((with_reducible apply y_mv); exact rfl)
  | (walk_at "o")
  | ((with_reducible apply y_lft); exact rfl)
  | ((with_reducible apply y_t))
  | ((with_reducible apply y_f))
  | ((with_reducible apply y_nt))
  | ((with_reducible apply y_nf))
  | ((with_reducible apply y_len); (exact big_le (Nat.le_of_ble_eq_true rfl)))
  | (with_reducible refine ⟨_, rfl, ?_⟩)
  | fail "y")
local macro_rules | `(tactic| walk_at "y") => `(tactic| first | walk_at "y1" | walk_at "y2" | fail "y")
local macro_rules | `(tactic| walk_at "z2") => `(tactic| first
  | ((with_reducible apply y_get); exact rfl)
  | ((with_reducible apply x_sfQ); (walk_at "e"); exact rfl; exact rfl; (walk_at "e"))
  | ((with_reducible apply x_mkQ); (walk_at "e"))
  | ((with_reducible apply x_rt); exact rfl)
  | ((with_reducible apply y_setF); (walk_at "e"))
  | ((with_reducible apply y_setF); exact set_at rfl (by first | assumption | exact free_opt _) (by walk_at "e"))
  | ((with_reducible apply y_setF); exact setO_at rfl (by first | assumption | exact free_opt _) (by walk_at "e"))
  | ((with_reducible apply y_lend); exact rfl)
  | ((with_reducible apply z_bor); (walk_at "e"))
  | ((with_reducible apply z_borQ); exact rfl; (walk_at "f"); (walk_at "e"))
  | ((with_reducible apply z_backQ); (walk_at "e"))
  | ((with_reducible apply z_back1Q); (walk_at "e"))
  | ((with_reducible apply z_prot); (walk_at "e"))
  | ((with_reducible apply z_unpQ); (walk_at "e"))
  | ((with_reducible apply z_rtK); (walk_at "e"))
  | ((with_reducible apply z_rtN); (walk_at "e"))
  | ((with_reducible apply z_app); (walk_at "e"))
  | ((with_reducible apply z_appQ); (walk_at "e"); (walk_at "e"))
  | ((with_reducible apply z_stK); (walk_at "e"))
  | ((with_reducible apply z_stQ); (walk_at "e"); exact rfl; (walk_at "e"); (walk_at "e"))
  | ((with_reducible apply z_tgQ); (walk_at "e"))
  | ((with_reducible apply z_parQ); (walk_at "e"))
  | ((with_reducible apply y_frzM); (walk_at "e"))
  | ((with_reducible apply y_mv); exact rfl)
  | (walk_at "o")
  | ((with_reducible apply y_lft); exact rfl)
  | ((with_reducible apply y_t))
  | ((with_reducible apply y_f))
  | ((with_reducible apply y_nt))
  | ((with_reducible apply y_nf))
  | ((with_reducible apply y_len); (exact big_le (Nat.le_of_ble_eq_true rfl)))
  | (with_reducible refine ⟨_, rfl, ?_⟩)
  | fail "y")
local macro_rules | `(tactic| walk_at "z") => `(tactic| first | walk_at "y1" | (with_reducible refine x_pat ?_) | walk_at "z2" | fail "z")
local macro_rules | `(tactic| walk_at "s") => `(tactic| first | (rw [hline]; omega) | (simp only [at_len, mv_len, List.length_map, List.length_append, hline]; omega) | fail "s")
local macro_rules | `(tactic| walk_at "zs") => `(tactic| first | walk_at "z" | walk_at "s" | fail "zs")
section
variable {A B : Aut}
/-- a list of rows walked with their places -/
theorem lc_at {ρ : List Sl} {i j : Nat} {c : DM Bool} {e : DM D} {l : List (List Int)} {last : List Int} {f g : List Int → List Int} {t : DM (List D)} {Q : Sl → List Sl → Prop} {m : Tg} {vs : List Nat}
    (h : Wp t ρ (fun ds ρ1 => ds = ((zipN 0 l).map fun q => .tup [.int (q.2 : Nat), nD q.1]) ∧ l.length ≤ sizeLine ∧ plainAt ρ1 vs = true ∧ restS ρ1 vs (wipeS ρ1 vs) = ρ1 ∧ (∀ p ∈ l, ∀ n : Nat, Wp (prot (itM m c e (.tup [.int (n : Nat), nD p]))) (wipeS ρ1 vs) (fun o ρ2 => o = some (nD (if last.contains (n : Int) then f p else g p)) ∧ plainAt ρ2 vs = true ∧ wipeS ρ2 vs = wipeS ρ1 vs)) ∧ Q (.ow (nsD (atL last f g l))) ρ1)) : Wp (lcM vs t m c e) ρ Q := by
  refine x_lc (α := List Int × Nat) (fun q => .tup [.int (q.2 : Nat), nD q.1]) (fun q => some (nD (if last.contains (q.2 : Int) then f q.1 else g q.1))) (zipN 0 l) (h.imp fun ds ρ1 q => ?_)
  obtain ⟨e1, e2, e3, e4, e5, e6⟩ := q
  refine ⟨e1, by rw [zipN_len]; exact e2, e3, e4, fun x hx => e5 x.1 (zipN_mem (i := x.2) hx) x.2, ?_⟩
  rw [List.filterMap_eq_map']
  unfold nsD atL at e6
  rw [List.map_map] at e6
  exact e6
theorem lc_mv {ρ : List Sl} {c : DM Bool} {e : DM D} {l : List (List Int)} {g : List Int → List Int} {t : DM (List D)} {Q : Sl → List Sl → Prop} {m : Tg} {vs : List Nat}
    (h : Wp t ρ (fun ds ρ1 => ds = (l.map nD) ∧ l.length ≤ sizeLine ∧ plainAt ρ1 vs = true ∧ restS ρ1 vs (wipeS ρ1 vs) = ρ1 ∧ (∀ p ∈ l, Wp (prot (itM m c e (nD p))) (wipeS ρ1 vs) (fun o ρ2 => o = some (nD (g p)) ∧ plainAt ρ2 vs = true ∧ wipeS ρ2 vs = wipeS ρ1 vs)) ∧ Q (.ow (nsD (l.map g))) ρ1)) : Wp (lcM vs t m c e) ρ Q := by
  refine x_lc (α := List Int) nD (fun q => some (nD (g q))) l (h.imp fun ds ρ1 q => ?_)
  obtain ⟨e1, e2, e3, e4, e5, e6⟩ := q
  refine ⟨e1, e2, e3, e4, e5, ?_⟩
  rw [List.filterMap_eq_map']
  unfold nsD at e6
  rw [List.map_map] at e6
  exact e6
theorem is_nothing : Is F_nothing [] (.ow (pat .nothing)) := by
  refine is_run (ρ := []) rfl rfl ?_
  unfold T_nothing
  repeat' (walk_at "z")
  exact x_pat (s := []) (f := []) (w := []) (l := []) (x_rt rfl)
theorem is_one {s r : Str} : Is F_one [.str s, .str r] (.ow (pat (.one s r))) := by
  refine is_run (ρ := [.sh (.str s), .sh (.str r)]) rfl rfl ?_
  unfold T_one
  repeat' (walk_at "z")
  exact x_pat (s := [(s, r)]) (f := [0]) (w := [[]]) (l := [0]) (x_rt rfl)
theorem is_looped (h : Sm A) {k : Bool} : Is F_looped [pat A, .bl k] (.ow (pat (A.loop k))) := by
  have hf := h.first
  refine is_run (ρ := [.sh (pat A), .sh (.bl k), .un, .un, .un]) rfl rfl ?_
  unfold T_looped
  iterate 2 (walk_at "z")
  refine lc_at (i := 3) (j := 4) (l := A.follow) (last := A.last) (f := (mgL · A.first)) (g := id) ?_
  repeat' (walk_at "z")
  refine ⟨rfl, by have := h.follow; rw [hline]; omega, rfl, rfl, fun p hp n => ?_, ?_⟩
  · have hp := h.rows hp
    simp only [wipeS, set0, setS]
    repeat' (walk_at "z")
    cases hc : A.last.contains (n : Int)
    · repeat' (walk_at "z")
      exact ⟨rfl, rfl, rfl⟩
    · repeat' (walk_at "z")
      refine x_call (is_merged (a := p) (b := A.first) (by rw [hline]; omega)) rfl ?_
      repeat' (walk_at "z")
      exact ⟨rfl, rfl, rfl⟩
  · obtain ⟨s, f, w, l, e⟩ := A
    cases e
    all_goals repeat' (walk_at "z")
theorem is_chained (h : Sm A) (h2 : Sm B) : Is F_chained [pat A, pat B] (.ow (pat (A.chain B))) := by
  have a1 := h.first
  have a2 := h.last
  have a3 := h.follow
  have a4 := h.len
  have b1 := h2.first
  have b2 := h2.last
  have b3 := h2.follow
  have b4 := h2.len
  refine is_run (ρ := [.sh (pat A), .sh (pat B), .un, .un, .un, .un, .un, .un, .un, .un]) rfl rfl ?_
  unfold T_chained
  repeat' (walk_at "z")
  refine x_call (is_moved (l := B.first) (k := A.steps.length) (by rw [hline]; omega)) rfl ?_
  have e1 := mv_len (l := B.first) (k := A.steps.length)
  have e2 := mv_len (l := B.last) (k := A.steps.length)
  repeat' (walk_at "z")
  refine lc_at (i := 8) (j := 9) (l := A.follow) (last := A.last) (f := (mgL · (mvL B.first A.steps.length))) (g := id) ?_
  repeat' (walk_at "z")
  refine ⟨rfl, by rw [hline]; omega, rfl, rfl, fun p hp n => ?_, ?_⟩
  · have hp := h.rows hp
    simp only [wipeS, set0, setS]
    repeat' (walk_at "z")
    cases hc : A.last.contains (n : Int)
    · repeat' (walk_at "z")
      exact ⟨rfl, rfl, rfl⟩
    · repeat' (walk_at "z")
      refine x_call (is_merged (a := p) (b := mvL B.first A.steps.length) (by rw [hline]; omega)) rfl ?_
      repeat' (walk_at "z")
      exact ⟨rfl, rfl, rfl⟩
  · repeat' (walk_at "z")
    refine lc_mv (l := B.follow) (g := (mvL · A.steps.length)) ?_
    repeat' (walk_at "z")
    refine ⟨rfl, by rw [hline]; omega, rfl, rfl, fun p hp => ?_, ?_⟩
    · have hp := h2.rows hp
      simp only [wipeS, set0, setS]
      repeat' (walk_at "z")
      refine x_call (is_moved (l := p) (k := A.steps.length) (by rw [hline]; omega)) rfl ?_
      repeat' (walk_at "z")
      exact ⟨rfl, rfl, rfl⟩
    · repeat' (walk_at "z")
      · rw [at_len, List.length_map, hline]; omega
      · obtain ⟨s, f, w, l, e⟩ := A
        obtain ⟨s', f', w', l', e'⟩ := B
        simp only at *
        cases e
        all_goals cases e'
        all_goals repeat' (walk_at "zs")
        all_goals refine x_call (is_moved (l := l') (k := s.length) (by rw [hline]; omega)) rfl ?_
        all_goals repeat' (walk_at "zs")
theorem is_or (h : Sm A) (h2 : Sm B) : Is F_Pattern_or [pat A, pat B] (.ow (pat (A.alt B))) := by
  have a1 := h.first
  have a2 := h.last
  have a3 := h.follow
  have a4 := h.len
  have b1 := h2.first
  have b2 := h2.last
  have b3 := h2.follow
  have b4 := h2.len
  refine is_run (ρ := [.sh (pat A), .sh (pat B), .un, .un, .un, .un, .un]) rfl rfl ?_
  unfold T_Pattern_or
  repeat' (walk_at "zs")
  refine lc_mv (l := B.follow) (g := (mvL · A.steps.length)) ?_
  repeat' (walk_at "zs")
  refine ⟨rfl, by rw [hline]; omega, rfl, rfl, fun p hp => ?_, ?_⟩
  · have hp := h2.rows hp
    simp only [wipeS, set0, setS]
    repeat' (walk_at "zs")
    refine x_call (is_moved (l := p) (k := A.steps.length) (by rw [hline]; omega)) rfl ?_
    repeat' (walk_at "zs")
    exact ⟨rfl, rfl, rfl⟩
  · repeat' (walk_at "zs")
    refine x_call (is_moved (l := B.first) (k := A.steps.length) (by rw [hline]; omega)) rfl ?_
    repeat' (walk_at "zs")
    refine x_call (is_moved (l := B.last) (k := A.steps.length) (by rw [hline]; omega)) rfl ?_
    repeat' (walk_at "zs")
    obtain ⟨s, f, w, l, e⟩ := A
    cases e
    all_goals repeat' (walk_at "zs")
theorem is_add (h : Sm A) (h2 : Sm B) : Is F_Pattern_add [pat A, pat B] (.ow (pat (A.chain B))) := by
  refine is_run (ρ := [.sh (pat A), .sh (pat B)]) rfl rfl ?_
  unfold T_Pattern_add
  repeat' (walk_at "z")
  refine x_call (is_chained h h2) rfl ?_
  repeat' (walk_at "z")
end
end FD.Law

set_option Elab.async false
set_option linter.all false
set_option maxRecDepth 100000
namespace FD.Law
open PySem L2 FD
local macro_rules | `(tactic| walk_at "y1") => `(tactic| with_reducible first | refine y_seq ?_ | refine x_fld ?_ | refine x_oop ?_ | refine x_oun ?_ | refine x_len ?_ | refine x_meth ?_ | refine x_mkM ?_ | refine x_callAD ?_ | refine x_sf ?_ | refine x_addB ?_ | refine x_itB ?_ | refine y_setM ?_ | refine y_shD ?_ | refine z_fz ?_ | refine z_datS ?_ | refine z_datO ?_ | refine y_opS ?_ | refine y_callM ?_ | refine y_consM ?_ | refine y_ret ?_ | refine y_nx ?_ | refine y_rt ?_ | refine y_bk ?_ | refine y_ct ?_ | refine z_forN ?_ | refine z_forC ?_ | refine z_forB ?_ | refine z_forR ?_ | refine y_retM ?_ | refine y_ifM ?_ | refine y_tupM ?_ | refine y_lstM ?_ | refine y_testM ?_ | refine y_truM ?_ | refine y_notM ?_ | refine y_andM ?_ | refine y_orM ?_ | refine y_andV ?_ | refine y_orV ?_ | refine y_notV ?_ | refine y_dropM ?_ | refine y_augM ?_ | refine y_methM ?_ | refine y_slM ?_ | refine y_part ?_ | refine y_negM ?_ | refine y_replM ?_ | refine y_callA ?_ | refine y_arVal ?_ | refine y_arNil ?_ | refine y_fsCons ?_ | refine z_st ?_ | refine z_asg ?_ | refine z_par ?_ | refine y_forM ?_ | refine y_chain ?_ | refine wp_callT ?_ | refine wp_itM ?_ | refine y_bnd ?_)
local macro_rules | `(tactic| walk_at "e") => `(tactic| focus ((try simp only [setSl, setSls, gN, gT, gs0, gs1, get0, getS, set0, setS, own?, borS, pinAll, pin_un, pin_sh, pin_ow, pin_pn, pin_opt, List.map_cons, List.map_nil, wipeS, restS, argSls, argSl, Option.map, Option.bind, frzS, if_true, ite_true, Option.isSome, zipB, bb_un, bb_sh, bb_ow, bb_pn, bb_os, bb_ps, bb_opt, unpin, un_un, un_sh, un_ow, un_pn, un_opt, back, back1, Sl.dat, outs, List.length_cons, List.length_nil, Nat.zero_add, Nat.reduceAdd, Int.reduceToNat]); first | done | exact rfl))
local macro_rules | `(tactic| walk_at "f") => `(tactic| focus (first | exact rfl | (simp only [List.all_cons, List.all_nil, fo_un, fo_sh, fo_opt, fo_pn, flats_strs, flats_ints, flats, flat, Bool.and_self]; done)))
local macro_rules | `(tactic| walk_at "o") => `(tactic| with_reducible first | refine o_isP ?_ | refine o_f1 ?_ | refine o_f2 ?_ | refine o_f3 ?_ | refine o_f4 ?_ | refine o_f5 ?_ | refine o_inI ?_ | refine o_ninI ?_ | refine o_inT ?_ | refine o_ninT ?_ | refine o_addN ?_ ?_ | refine o_addN0 ?_ ?_ | refine o_addNs ?_ ?_ | refine o_addSt ?_ ?_ | refine o_lenSt ?_ | refine o_listNs ?_ | refine o_itN ?_ | refine o_itNs ?_ | refine o_itSt ?_ | refine o_enNs ?_ | refine o_sum ?_ | refine o_any ?_ | refine o_min2 ?_ | refine o_max2 ?_ | refine o_min3 ?_ | refine o_add ?_ | refine o_sub ?_ | refine o_mod ?_ ?_ | refine o_mul ?_ ?_ | refine o_fdiv ?_ ?_ | refine o_pow ?_ ?_ | refine o_lt ?_ | refine o_le ?_ | refine o_gt ?_ | refine o_ge ?_ | refine o_eqi ?_ | refine o_nei ?_ | refine o_eqs ?_ | refine o_nes ?_ | refine o_len ?_ | refine o_lent ?_ | refine o_lenc ?_ | refine o_lens ?_ ?_ | refine o_abs ?_ | refine o_rng1 ?_ ?_ | refine o_rng2 ?_ ?_ | refine o_int ?_ | refine o_adds ?_ ?_ | refine o_addl ?_ ?_ | refine o_addt ?_ ?_)
local macro_rules | `(tactic| walk_at "y2") => `(tactic| first
  | ((with_reducible apply y_get); exact rfl)
  | ((with_reducible apply x_sfQ); (walk_at "e"); exact rfl; exact rfl; (walk_at "e"))
  | ((with_reducible apply x_mkF); (walk_at "e"); exact rfl)
  | ((with_reducible apply x_mkQ); (walk_at "e"))
  | ((with_reducible apply x_rt); exact rfl)
  | ((with_reducible apply y_setF); (walk_at "e"))
  | ((with_reducible apply y_setF); exact set_at rfl (by first | assumption | exact free_opt _) (by walk_at "e"))
  | ((with_reducible apply y_setF); exact setO_at rfl (by first | assumption | exact free_opt _) (by walk_at "e"))
  | ((with_reducible apply y_lend); exact rfl)
  | ((with_reducible apply z_bor); (walk_at "e"))
  | ((with_reducible apply z_borQ); exact rfl; (walk_at "f"); (walk_at "e"))
  | ((with_reducible apply z_callF); (walk_at "e"); exact rfl)
  | ((with_reducible apply z_backQ); (walk_at "e"))
  | ((with_reducible apply z_callF1); (walk_at "e"); exact rfl)
  | ((with_reducible apply z_back1Q); (walk_at "e"))
  | ((with_reducible apply z_prot); (walk_at "e"))
  | ((with_reducible apply z_unpQ); (walk_at "e"))
  | ((with_reducible apply z_rtK); (walk_at "e"))
  | ((with_reducible apply z_rtN); (walk_at "e"))
  | ((with_reducible apply z_app); (walk_at "e"))
  | ((with_reducible apply z_appQ); (walk_at "e"); (walk_at "e"))
  | ((with_reducible apply z_stK); (walk_at "e"))
  | ((with_reducible apply z_stQ); (walk_at "e"); exact rfl; (walk_at "e"); (walk_at "e"))
  | ((with_reducible apply z_tgQ); (walk_at "e"))
  | ((with_reducible apply z_parQ); (walk_at "e"))
  | ((with_reducible apply y_frzM); (walk_at "e"))
  | ((with_reducible apply y_mv); exact rfl)
  | (walk_at "o")
  | ((with_reducible apply y_lft); exact rfl)
  | ((with_reducible apply y_t))
  | ((with_reducible apply y_f))
  | ((with_reducible apply y_nt))
  | ((with_reducible apply y_nf))
  | ((with_reducible apply y_len); (exact big_le (Nat.le_of_ble_eq_true rfl)))
  | (with_reducible refine ⟨_, rfl, ?_⟩)
  | fail "y")
local macro_rules | `(tactic| walk_at "y") => `(tactic| first | walk_at "y1" | walk_at "y2" | fail "y")
local macro_rules | `(tactic| walk_at "z2") => `(tactic| first
  | ((with_reducible apply y_get); exact rfl)
  | ((with_reducible apply x_sfQ); (walk_at "e"); exact rfl; exact rfl; (walk_at "e"))
  | ((with_reducible apply x_mkQ); (walk_at "e"))
  | ((with_reducible apply x_rt); exact rfl)
  | ((with_reducible apply y_setF); (walk_at "e"))
  | ((with_reducible apply y_setF); exact set_at rfl (by first | assumption | exact free_opt _) (by walk_at "e"))
  | ((with_reducible apply y_setF); exact setO_at rfl (by first | assumption | exact free_opt _) (by walk_at "e"))
  | ((with_reducible apply y_lend); exact rfl)
  | ((with_reducible apply z_bor); (walk_at "e"))
  | ((with_reducible apply z_borQ); exact rfl; (walk_at "f"); (walk_at "e"))
  | ((with_reducible apply z_backQ); (walk_at "e"))
  | ((with_reducible apply z_back1Q); (walk_at "e"))
  | ((with_reducible apply z_prot); (walk_at "e"))
  | ((with_reducible apply z_unpQ); (walk_at "e"))
  | ((with_reducible apply z_rtK); (walk_at "e"))
  | ((with_reducible apply z_rtN); (walk_at "e"))
  | ((with_reducible apply z_app); (walk_at "e"))
  | ((with_reducible apply z_appQ); (walk_at "e"); (walk_at "e"))
  | ((with_reducible apply z_stK); (walk_at "e"))
  | ((with_reducible apply z_stQ); (walk_at "e"); exact rfl; (walk_at "e"); (walk_at "e"))
  | ((with_reducible apply z_tgQ); (walk_at "e"))
  | ((with_reducible apply z_parQ); (walk_at "e"))
  | ((with_reducible apply y_frzM); (walk_at "e"))
  | ((with_reducible apply y_mv); exact rfl)
  | (walk_at "o")
  | ((with_reducible apply y_lft); exact rfl)
  | ((with_reducible apply y_t))
  | ((with_reducible apply y_f))
  | ((with_reducible apply y_nt))
  | ((with_reducible apply y_nf))
  | ((with_reducible apply y_len); (exact big_le (Nat.le_of_ble_eq_true rfl)))
  | (with_reducible refine ⟨_, rfl, ?_⟩)
  | fail "y")
local macro_rules | `(tactic| walk_at "z") => `(tactic| first | walk_at "y1" | (with_reducible refine x_pat ?_) | walk_at "z2" | fail "z")
local macro_rules | `(tactic| walk_at "s") => `(tactic| first | (rw [hline]; omega) | (simp only [at_len, mv_len, List.length_map, List.length_append, hline]; omega) | fail "s")
local macro_rules | `(tactic| walk_at "zs") => `(tactic| first | walk_at "z" | walk_at "s" | fail "zs")
section
variable {A B : Aut}
theorem altn_key {s s' : List (Str × Str)} {f f' l l' : List Int} {w w' : List (List Int)} {e e' k : Bool} (a1 : f.length ≤ 100000) (a2 : l.length ≤ 100000) (a3 : w.length ≤ 100000) (a4 : s.length ≤ 100000) (b1 : f'.length ≤ 100000) (b2 : l'.length ≤ 100000) (b3 : w'.length ≤ 100000) (b4 : s'.length ≤ 100000)
    (ra : ∀ {p : List Int}, p ∈ w → p.length ≤ 100000) (rb : ∀ {p : List Int}, p ∈ w' → p.length ≤ 100000) (bs bm : List Int) (lb : bs.length ≤ 300000) (lm : bm.length ≤ 300000) (eb : bs = mgL (mvL f' s.length) (if e' then f else [])) (em : bm = mgL f (if e then mvL f' s.length else [])) :
    Wp (seqM (setM 7 (lcM [10, 11] (bnd (consM (fldM [0] "follow" (get 0)) (ret [])) fun ds => lft (enumD ds)) (gT 2 (gs1 (gN 10) (gs1 (gN 11) gs0))) (ret true) (fz (ifM (testM (opS inS (get 10) (fldM [0] "last" (get 0)))) (callA F_merged (arVal (get 11) (arVal (get 5) arNil))) (shD (get 11))))))
  (frzM 7 (seqM (setM 8 (lcM [10, 11] (bnd (consM (fldM [0] "follow" (get 1)) (ret [])) fun ds => lft (enumD ds)) (gT 2 (gs1 (gN 10) (gs1 (gN 11) gs0))) (ret true) (fz (ifM (testM (opS inS (get 10) (fldM [0] "last" (get 1)))) (callA F_merged (arVal (fz (callA F_moved (arVal (get 11) (arVal (get 3) arNil)))) (arVal (get 6) arNil))) (callA F_moved (arVal (get 11) (arVal (get 3) arNil)))))))
  (frzM 8 (seqM (setM 9 (shD (fz (opS addS (fldM [0] "last" (get 0)) (fz (ifM (orM (truM (get 2)) (truM (fldM [0] "empty" (get 0)))) (callA F_moved (arVal (fldM [0] "last" (get 1)) (arVal (get 3) arNil))) (lstM (ret []))))))))
  (retM (mkM F_Pattern_init 0 (arVal (fz (opS addS (fldM [0] "steps" (get 0)) (fldM [0] "steps" (get 1)))) (arVal (get 6) (arVal (fz (opS addS (get 7) (get 8))) (arVal (get 9) (arVal (fldM [0] "empty" (get 0)) arNil)))))))))))) [.sh (pat ⟨s, f, w, l, e⟩), .sh (pat ⟨s', f', w', l', e'⟩), .sh (.bl k), .sh (.int s.length), .sh (nD (mvL f' s.length)), .sh (nD bs), .sh (nD bm), .un, .un, .un, .un, .un] (RtQ (.ow (pat (Aut.altn ⟨s, f, w, l, e⟩ ⟨s', f', w', l', e'⟩ k)))) := by
  iterate 2 (walk_at "z")
  refine lc_at (i := 10) (j := 11) (l := w) (last := l) (f := (mgL · bs)) (g := id) ?_
  repeat' (walk_at "z")
  refine ⟨rfl, by rw [hline]; omega, rfl, rfl, fun p hp n => ?_, ?_⟩
  · have hp := ra hp
    simp only [wipeS, set0, setS]
    repeat' (walk_at "z")
    cases hc : l.contains (n : Int)
    · repeat' (walk_at "z")
      exact ⟨rfl, rfl, rfl⟩
    · repeat' (walk_at "z")
      refine x_call (is_merged (a := p) (b := bs) (by rw [hline]; omega)) rfl ?_
      repeat' (walk_at "z")
      exact ⟨rfl, rfl, rfl⟩
  · iterate 5 (walk_at "z")
    refine lc_at (i := 10) (j := 11) (l := w') (last := l') (f := fun p => mgL (mvL p s.length) bm) (g := (mvL · s.length)) ?_
    repeat' (walk_at "z")
    refine ⟨rfl, by rw [hline]; omega, rfl, rfl, fun p hp n => ?_, ?_⟩
    · have hp := rb hp
      have lp := mv_len (l := p) (k := s.length)
      simp only [wipeS, set0, setS]
      repeat' (walk_at "z")
      cases hc : l'.contains (n : Int)
      · repeat' (walk_at "z")
        refine x_call (is_moved (l := p) (k := s.length) (by rw [hline]; omega)) rfl ?_
        repeat' (walk_at "z")
        exact ⟨rfl, rfl, rfl⟩
      · repeat' (walk_at "z")
        refine x_call (is_moved (l := p) (k := s.length) (by rw [hline]; omega)) rfl ?_
        repeat' (walk_at "z")
        refine x_call (is_merged (a := mvL p s.length) (b := bm) (by rw [hline]; omega)) rfl ?_
        repeat' (walk_at "z")
        exact ⟨rfl, rfl, rfl⟩
    · subst eb
      subst em
      cases k
      all_goals cases e
      all_goals repeat' (walk_at "zs")
      all_goals first
        | done
        | (refine x_call (is_moved (l := l') (k := s.length) (by rw [hline]; omega)) rfl ?_; repeat' (walk_at "zs"))

theorem is_altn (h : Sm A) (h2 : Sm B) {k : Bool} : Is F_alternating [pat A, pat B, .bl k] (.ow (pat (A.altn B k))) := by
  have a1 := h.first
  have a2 := h.last
  have a3 := h.follow
  have a4 := h.len
  have b1 := h2.first
  have b2 := h2.last
  have b3 := h2.follow
  have b4 := h2.len
  have ra := @Sm.rows A h
  have rb := @Sm.rows B h2
  refine is_run (ρ := [.sh (pat A), .sh (pat B), .sh (.bl k), .un, .un, .un, .un, .un, .un, .un, .un, .un]) rfl rfl ?_
  unfold T_alternating
  obtain ⟨s, f, w, l, e⟩ := A
  obtain ⟨s', f', w', l', e'⟩ := B
  simp only at *
  have e1 := mv_len (l := f') (k := s.length)
  have m1 := mg_len (a := mvL f' s.length) (b := f)
  have m2 := mg_len (a := mvL f' s.length) (b := [])
  have m3 := mg_len (b := mvL f' s.length) (a := f)
  have m4 := mg_len (b := []) (a := f)
  simp only [List.length_nil] at m2 m4
  repeat' (walk_at "zs")
  refine x_call (is_moved (l := f') (k := s.length) (by rw [hline]; omega)) rfl ?_
  repeat' (walk_at "zs")
  cases e'
  all_goals cases e
  · repeat' (walk_at "zs")
    refine x_call (is_merged (a := mvL f' s.length) (b := []) (by simp only [List.length_nil]; rw [hline]; omega)) rfl ?_
    repeat' (walk_at "zs")
    refine x_call (is_merged (a := f) (b := []) (by simp only [List.length_nil]; rw [hline]; omega)) rfl ?_
    iterate 3 (walk_at "z")
    exact altn_key a1 a2 a3 a4 b1 b2 b3 b4 ra rb (mgL (mvL f' s.length) ([])) (mgL f ([])) (by omega) (by omega) rfl rfl
  · repeat' (walk_at "zs")
    refine x_call (is_merged (a := mvL f' s.length) (b := []) (by simp only [List.length_nil]; rw [hline]; omega)) rfl ?_
    repeat' (walk_at "zs")
    refine x_call (is_merged (a := f) (b := mvL f' s.length) (by rw [hline]; omega)) rfl ?_
    iterate 3 (walk_at "z")
    exact altn_key a1 a2 a3 a4 b1 b2 b3 b4 ra rb (mgL (mvL f' s.length) ([])) (mgL f (mvL f' s.length)) (by omega) (by omega) rfl rfl
  · repeat' (walk_at "zs")
    refine x_call (is_merged (a := mvL f' s.length) (b := f) (by rw [hline]; omega)) rfl ?_
    repeat' (walk_at "zs")
    refine x_call (is_merged (a := f) (b := []) (by simp only [List.length_nil]; rw [hline]; omega)) rfl ?_
    iterate 3 (walk_at "z")
    exact altn_key a1 a2 a3 a4 b1 b2 b3 b4 ra rb (mgL (mvL f' s.length) (f)) (mgL f ([])) (by omega) (by omega) rfl rfl
  · repeat' (walk_at "zs")
    refine x_call (is_merged (a := mvL f' s.length) (b := f) (by rw [hline]; omega)) rfl ?_
    repeat' (walk_at "zs")
    refine x_call (is_merged (a := f) (b := mvL f' s.length) (by rw [hline]; omega)) rfl ?_
    iterate 3 (walk_at "z")
    exact altn_key a1 a2 a3 a4 b1 b2 b3 b4 ra rb (mgL (mvL f' s.length) (f)) (mgL f (mvL f' s.length)) (by omega) (by omega) rfl rfl
end
end FD.Law

set_option Elab.async false
set_option linter.all false
set_option maxRecDepth 100000
namespace FD.Law
open PySem L2 FD
local macro_rules | `(tactic| walk_at "y1") => `(tactic| with_reducible first | refine y_seq ?_ | refine x_fld ?_ | refine x_oop ?_ | refine x_oun ?_ | refine x_len ?_ | refine x_meth ?_ | refine x_mkM ?_ | refine x_callAD ?_ | refine x_sf ?_ | refine x_addB ?_ | refine x_itB ?_ | refine y_setM ?_ | refine y_shD ?_ | refine z_fz ?_ | refine z_datS ?_ | refine z_datO ?_ | refine y_opS ?_ | refine y_callM ?_ | refine y_consM ?_ | refine y_ret ?_ | refine y_nx ?_ | refine y_rt ?_ | refine y_bk ?_ | refine y_ct ?_ | refine z_forN ?_ | refine z_forC ?_ | refine z_forB ?_ | refine z_forR ?_ | refine y_retM ?_ | refine y_ifM ?_ | refine y_tupM ?_ | refine y_lstM ?_ | refine y_testM ?_ | refine y_truM ?_ | refine y_notM ?_ | refine y_andM ?_ | refine y_orM ?_ | refine y_andV ?_ | refine y_orV ?_ | refine y_notV ?_ | refine y_dropM ?_ | refine y_augM ?_ | refine y_methM ?_ | refine y_slM ?_ | refine y_part ?_ | refine y_negM ?_ | refine y_replM ?_ | refine y_callA ?_ | refine y_arVal ?_ | refine y_arNil ?_ | refine y_fsCons ?_ | refine z_st ?_ | refine z_asg ?_ | refine z_par ?_ | refine y_forM ?_ | refine y_chain ?_ | refine wp_callT ?_ | refine wp_itM ?_ | refine y_bnd ?_)
local macro_rules | `(tactic| walk_at "e") => `(tactic| focus ((try simp only [setSl, setSls, gN, gT, gs0, gs1, get0, getS, set0, setS, own?, borS, pinAll, pin_un, pin_sh, pin_ow, pin_pn, pin_opt, List.map_cons, List.map_nil, wipeS, restS, argSls, argSl, Option.map, Option.bind, frzS, if_true, ite_true, Option.isSome, zipB, bb_un, bb_sh, bb_ow, bb_pn, bb_os, bb_ps, bb_opt, unpin, un_un, un_sh, un_ow, un_pn, un_opt, back, back1, Sl.dat, outs, List.length_cons, List.length_nil, Nat.zero_add, Nat.reduceAdd, Int.reduceToNat]); first | done | exact rfl))
local macro_rules | `(tactic| walk_at "f") => `(tactic| focus (first | exact rfl | (simp only [List.all_cons, List.all_nil, fo_un, fo_sh, fo_opt, fo_pn, flats_strs, flats_ints, flats, flat, Bool.and_self]; done)))
local macro_rules | `(tactic| walk_at "o") => `(tactic| with_reducible first | refine o_isP ?_ | refine o_f1 ?_ | refine o_f2 ?_ | refine o_f3 ?_ | refine o_f4 ?_ | refine o_f5 ?_ | refine o_inI ?_ | refine o_ninI ?_ | refine o_inT ?_ | refine o_ninT ?_ | refine o_addN ?_ ?_ | refine o_addN0 ?_ ?_ | refine o_addNs ?_ ?_ | refine o_addSt ?_ ?_ | refine o_lenSt ?_ | refine o_listNs ?_ | refine o_itN ?_ | refine o_itNs ?_ | refine o_itSt ?_ | refine o_enNs ?_ | refine o_sum ?_ | refine o_any ?_ | refine o_min2 ?_ | refine o_max2 ?_ | refine o_min3 ?_ | refine o_add ?_ | refine o_sub ?_ | refine o_mod ?_ ?_ | refine o_mul ?_ ?_ | refine o_fdiv ?_ ?_ | refine o_pow ?_ ?_ | refine o_lt ?_ | refine o_le ?_ | refine o_gt ?_ | refine o_ge ?_ | refine o_eqi ?_ | refine o_nei ?_ | refine o_eqs ?_ | refine o_nes ?_ | refine o_len ?_ | refine o_lent ?_ | refine o_lenc ?_ | refine o_lens ?_ ?_ | refine o_abs ?_ | refine o_rng1 ?_ ?_ | refine o_rng2 ?_ ?_ | refine o_int ?_ | refine o_adds ?_ ?_ | refine o_addl ?_ ?_ | refine o_addt ?_ ?_)
local macro_rules | `(tactic| walk_at "y2") => `(tactic| first
  | ((with_reducible apply y_get); exact rfl)
  | ((with_reducible apply x_sfQ); (walk_at "e"); exact rfl; exact rfl; (walk_at "e"))
  | ((with_reducible apply x_mkF); (walk_at "e"); exact rfl)
  | ((with_reducible apply x_mkQ); (walk_at "e"))
  | ((with_reducible apply x_rt); exact rfl)
  | ((with_reducible apply y_setF); (walk_at "e"))
  | ((with_reducible apply y_setF); exact set_at rfl (by first | assumption | exact free_opt _) (by walk_at "e"))
  | ((with_reducible apply y_setF); exact setO_at rfl (by first | assumption | exact free_opt _) (by walk_at "e"))
  | ((with_reducible apply y_lend); exact rfl)
  | ((with_reducible apply z_bor); (walk_at "e"))
  | ((with_reducible apply z_borQ); exact rfl; (walk_at "f"); (walk_at "e"))
  | ((with_reducible apply z_callF); (walk_at "e"); exact rfl)
  | ((with_reducible apply z_backQ); (walk_at "e"))
  | ((with_reducible apply z_callF1); (walk_at "e"); exact rfl)
  | ((with_reducible apply z_back1Q); (walk_at "e"))
  | ((with_reducible apply z_prot); (walk_at "e"))
  | ((with_reducible apply z_unpQ); (walk_at "e"))
  | ((with_reducible apply z_rtK); (walk_at "e"))
  | ((with_reducible apply z_rtN); (walk_at "e"))
  | ((with_reducible apply z_app); (walk_at "e"))
  | ((with_reducible apply z_appQ); (walk_at "e"); (walk_at "e"))
  | ((with_reducible apply z_stK); (walk_at "e"))
  | ((with_reducible apply z_stQ); (walk_at "e"); exact rfl; (walk_at "e"); (walk_at "e"))
  | ((with_reducible apply z_tgQ); (walk_at "e"))
  | ((with_reducible apply z_parQ); (walk_at "e"))
  | ((with_reducible apply y_frzM); (walk_at "e"))
  | ((with_reducible apply y_mv); exact rfl)
  | (walk_at "o")
  | ((with_reducible apply y_lft); exact rfl)
  | ((with_reducible apply y_t))
  | ((with_reducible apply y_f))
  | ((with_reducible apply y_nt))
  | ((with_reducible apply y_nf))
  | ((with_reducible apply y_len); (exact big_le (Nat.le_of_ble_eq_true rfl)))
  | (with_reducible refine ⟨_, rfl, ?_⟩)
  | fail "y")
local macro_rules | `(tactic| walk_at "y") => `(tactic| first | walk_at "y1" | walk_at "y2" | fail "y")
local macro_rules | `(tactic| walk_at "z2") => `(tactic| first
  | ((with_reducible apply y_get); exact rfl)
  | ((with_reducible apply x_sfQ); (walk_at "e"); exact rfl; exact rfl; (walk_at "e"))
  | ((with_reducible apply x_mkQ); (walk_at "e"))
  | ((with_reducible apply x_rt); exact rfl)
  | ((with_reducible apply y_setF); (walk_at "e"))
  | ((with_reducible apply y_setF); exact set_at rfl (by first | assumption | exact free_opt _) (by walk_at "e"))
  | ((with_reducible apply y_setF); exact setO_at rfl (by first | assumption | exact free_opt _) (by walk_at "e"))
  | ((with_reducible apply y_lend); exact rfl)
  | ((with_reducible apply z_bor); (walk_at "e"))
  | ((with_reducible apply z_borQ); exact rfl; (walk_at "f"); (walk_at "e"))
  | ((with_reducible apply z_backQ); (walk_at "e"))
  | ((with_reducible apply z_back1Q); (walk_at "e"))
  | ((with_reducible apply z_prot); (walk_at "e"))
  | ((with_reducible apply z_unpQ); (walk_at "e"))
  | ((with_reducible apply z_rtK); (walk_at "e"))
  | ((with_reducible apply z_rtN); (walk_at "e"))
  | ((with_reducible apply z_app); (walk_at "e"))
  | ((with_reducible apply z_appQ); (walk_at "e"); (walk_at "e"))
  | ((with_reducible apply z_stK); (walk_at "e"))
  | ((with_reducible apply z_stQ); (walk_at "e"); exact rfl; (walk_at "e"); (walk_at "e"))
  | ((with_reducible apply z_tgQ); (walk_at "e"))
  | ((with_reducible apply z_parQ); (walk_at "e"))
  | ((with_reducible apply y_frzM); (walk_at "e"))
  | ((with_reducible apply y_mv); exact rfl)
  | (walk_at "o")
  | ((with_reducible apply y_lft); exact rfl)
  | ((with_reducible apply y_t))
  | ((with_reducible apply y_f))
  | ((with_reducible apply y_nt))
  | ((with_reducible apply y_nf))
  | ((with_reducible apply y_len); (exact big_le (Nat.le_of_ble_eq_true rfl)))
  | (with_reducible refine ⟨_, rfl, ?_⟩)
  | fail "y")
local macro_rules | `(tactic| walk_at "z") => `(tactic| first | walk_at "y1" | (with_reducible refine x_pat ?_) | walk_at "z2" | fail "z")
local macro_rules | `(tactic| walk_at "s") => `(tactic| first | (rw [hline]; omega) | (simp only [at_len, mv_len, List.length_map, List.length_append, hline]; omega) | fail "s")
local macro_rules | `(tactic| walk_at "zs") => `(tactic| first | walk_at "z" | walk_at "s" | fail "zs")
section
variable {A B : Aut}
theorem Sm.chain (h : Sm A) (h2 : Sm B) (hl : A.steps.length + B.steps.length ≤ 100000) : Sm (A.chain B) := ⟨h.wf.chain h2.wf, by show (A.steps ++ B.steps).length ≤ _; rw [List.length_append]; exact hl⟩
theorem is_floordiv (h : Sm A) (h2 : Sm B) : Is F_Pattern_floordiv [pat A, pat B] (.ow (pat (A.altn B false))) := by
  refine is_run (ρ := [.sh (pat A), .sh (pat B)]) rfl rfl ?_
  unfold T_Pattern_floordiv
  repeat' (walk_at "z")
  refine x_call (is_altn h h2) rfl ?_
  repeat' (walk_at "z")
theorem is_lshift (h : Sm A) (h2 : Sm B) : Is F_Pattern_lshift [pat A, pat B] (.ow (pat (A.altn B true))) := by
  refine is_run (ρ := [.sh (pat A), .sh (pat B)]) rfl rfl ?_
  unfold T_Pattern_lshift
  repeat' (walk_at "z")
  refine x_call (is_altn h h2) rfl ?_
  repeat' (walk_at "z")
theorem is_rshift (h : Sm A) (h2 : Sm B) (hl : A.steps.length + B.steps.length ≤ 100000) : Is F_Pattern_rshift [pat A, pat B] (.ow (pat ((A.chain B).loop false))) := by
  refine is_run (ρ := [.sh (pat A), .sh (pat B)]) rfl rfl ?_
  unfold T_Pattern_rshift
  repeat' (walk_at "z")
  refine x_call (is_chained h h2) rfl ?_
  repeat' (walk_at "z")
  refine x_call (is_looped (h.chain h2 hl)) rfl ?_
  repeat' (walk_at "z")
theorem is_neg : Is F_Pattern_neg [pat A] (.ow (pat A.maybe)) := by
  refine is_run (ρ := [.sh (pat A)]) rfl rfl ?_
  unfold T_Pattern_neg
  repeat' (walk_at "z")
theorem is_pos (h : Sm A) : Is F_Pattern_pos [pat A] (.ow (pat (A.loop false))) := by
  refine is_run (ρ := [.sh (pat A)]) rfl rfl ?_
  unfold T_Pattern_pos
  repeat' (walk_at "z")
  refine x_call (is_looped h) rfl ?_
  repeat' (walk_at "z")
theorem is_inv (h : Sm A) : Is F_Pattern_invert [pat A] (.ow (pat (A.loop true))) := by
  refine is_run (ρ := [.sh (pat A)]) rfl rfl ?_
  unfold T_Pattern_invert
  repeat' (walk_at "z")
  refine x_call (is_looped h) rfl ?_
  repeat' (walk_at "z")
theorem is_repeated (h : Sm A) : ∀ n : Nat, n * A.steps.length ≤ 90000 → ∀ k, n < k → Is (fuel G_repeated k) [pat A, .int n] (.ow (pat (A.rep n)))
  | 0, hl, k + 1, hk => by
    show Is (G_repeated (fuel G_repeated k)) _ _
    refine is_run (ρ := [.sh (pat A), .sh (.int 0)]) rfl rfl ?_
    unfold T_repeated
    repeat' (walk_at "z")
    refine y_tb (by decide) ?_
    repeat' (walk_at "z")
    refine x_call is_nothing rfl ?_
    repeat' (walk_at "z")
  | n + 1, hl, k + 1, hk => by
    have hl2 : n * A.steps.length ≤ 90000 := by rw [Nat.succ_mul] at hl; omega
    have ih := is_repeated h n hl2 k (by omega)
    show Is (G_repeated (fuel G_repeated k)) _ _
    refine is_run (ρ := [.sh (pat A), .sh (.int (n + 1 : Nat))]) rfl rfl ?_
    unfold T_repeated
    repeat' (walk_at "z")
    refine y_fb (by rw [decide_eq_false_iff_not]; omega) ?_
    repeat' (walk_at "z")
    have e : ((n + 1 : Nat) : Int) - 1 = (n : Nat) := by omega
    rw [e]
    refine x_call ih rfl ?_
    repeat' (walk_at "z")
    refine x_call (is_chained ⟨h.wf.rep n, by rw [rep_len]; omega⟩ h) rfl ?_
    repeat' (walk_at "z")
theorem is_mul (h : Sm A) {n : Nat} (hn : n ≤ 9) (hl : n * A.steps.length ≤ 90000) : Is F_Pattern_mul [pat A, .int n] (.ow (pat (A.rep n))) := by
  refine is_run (ρ := [.sh (pat A), .sh (.int n)]) rfl rfl ?_
  unfold T_Pattern_mul
  repeat' (walk_at "z")
  refine y_tb (by rw [decide_eq_true_eq]; omega) ?_
  repeat' (walk_at "z")
  refine y_fb (by rw [decide_eq_true (by omega : (n : Int) ≤ 9)]; rfl) ?_
  repeat' (walk_at "z")
  refine x_call (is_repeated h n hl 11 (by omega)) rfl ?_
  repeat' (walk_at "z")
theorem is_len : Is F_Pattern_len [pat A] (.sh (.int A.steps.length)) := by
  refine is_run (ρ := [.sh (pat A)]) rfl rfl ?_
  unfold T_Pattern_len
  repeat' (walk_at "z")
theorem is_uses (h : A.steps.length ≤ 4000) : Is F_Pattern_uses [pat A] (.ow (.lst ((sortT (A.steps.map (·.1))).map .str))) := by
  refine is_run (ρ := [.sh (pat A), .un]) rfl rfl ?_
  unfold T_Pattern_uses
  iterate 1 (walk_at "z")
  refine x_ss (fun d => match d with
    | .tup [.str a, _] => [.str a]
    | _ => []) ?_
  repeat' (walk_at "z")
  have e : ((A.steps.map s2D).flatMap fun d => match d with
    | .tup [.str a, _] => [D.str a]
    | _ => []) = (A.steps.map (·.1)).map .str := by
    generalize A.steps = l
    induction l with
    | nil => rfl
    | cons p l ih => rw [List.map_cons, List.flatMap_cons, ih]; rfl
  refine ⟨rfl, rfl, fun d hd => ?_, _, by rw [e]; exact sortZ_strs (by rw [List.length_map]; omega), ?_⟩
  · rw [List.mem_map] at hd
    obtain ⟨p, _, rfl⟩ := hd
    simp only [wipeS, set0, setS]
    unfold s2D
    repeat' (walk_at "z")
    exact ⟨rfl, rfl, rfl⟩
  · repeat' (walk_at "z")
end
end FD.Law

set_option Elab.async false
set_option linter.all false
set_option maxRecDepth 100000
namespace FD.Law
open PySem L2 FD
local macro_rules | `(tactic| walk_at "y1") => `(tactic| with_reducible first | refine y_seq ?_ | refine y_setM ?_ | refine y_shD ?_ | refine z_fz ?_ | refine z_datS ?_ | refine z_datO ?_ | refine y_opS ?_ | refine y_callM ?_ | refine y_consM ?_ | refine y_ret ?_ | refine y_nx ?_ | refine y_rt ?_ | refine y_bk ?_ | refine y_ct ?_ | refine z_forN ?_ | refine z_forC ?_ | refine z_forB ?_ | refine z_forR ?_ | refine y_retM ?_ | refine y_ifM ?_ | refine y_tupM ?_ | refine y_lstM ?_ | refine y_testM ?_ | refine y_truM ?_ | refine y_notM ?_ | refine y_andM ?_ | refine y_orM ?_ | refine y_andV ?_ | refine y_orV ?_ | refine y_notV ?_ | refine y_dropM ?_ | refine y_augM ?_ | refine y_methM ?_ | refine y_slM ?_ | refine y_part ?_ | refine y_negM ?_ | refine y_replM ?_ | refine y_callA ?_ | refine y_arVal ?_ | refine y_arNil ?_ | refine y_fsCons ?_ | refine z_st ?_ | refine z_asg ?_ | refine z_par ?_ | refine y_forM ?_ | refine y_chain ?_ | refine wp_callT ?_ | refine wp_itM ?_ | refine y_bnd ?_)
local macro_rules | `(tactic| walk_at "e") => `(tactic| focus ((try simp only [setSl, setSls, gN, gT, gs0, gs1, get0, getS, set0, setS, own?, borS, pinAll, pin_un, pin_sh, pin_ow, pin_pn, pin_opt, List.map_cons, List.map_nil, wipeS, restS, argSls, argSl, Option.map, Option.bind, frzS, if_true, ite_true, Option.isSome, zipB, bb_un, bb_sh, bb_ow, bb_pn, bb_os, bb_ps, bb_opt, unpin, un_un, un_sh, un_ow, un_pn, un_opt, back, back1, Sl.dat, outs, List.length_cons, List.length_nil, Nat.zero_add, Nat.reduceAdd, Int.reduceToNat]); first | done | exact rfl))
local macro_rules | `(tactic| walk_at "f") => `(tactic| focus (first | exact rfl | (simp only [List.all_cons, List.all_nil, fo_un, fo_sh, fo_opt, fo_pn, flats_strs, flats_ints, flats, flat, Bool.and_self]; done)))
local macro_rules | `(tactic| walk_at "o") => `(tactic| with_reducible first | refine o_add ?_ | refine o_sub ?_ | refine o_mod ?_ ?_ | refine o_mul ?_ ?_ | refine o_fdiv ?_ ?_ | refine o_pow ?_ ?_ | refine o_lt ?_ | refine o_le ?_ | refine o_gt ?_ | refine o_ge ?_ | refine o_eqi ?_ | refine o_nei ?_ | refine o_eqs ?_ | refine o_nes ?_ | refine o_len ?_ | refine o_lent ?_ | refine o_lenc ?_ | refine o_lens ?_ ?_ | refine o_abs ?_ | refine o_rng1 ?_ ?_ | refine o_rng2 ?_ ?_ | refine o_int ?_ | refine o_adds ?_ ?_ | refine o_addl ?_ ?_ | refine o_addt ?_ ?_)
local macro_rules | `(tactic| walk_at "y2") => `(tactic| first
  | ((with_reducible apply y_get); exact rfl)
  | ((with_reducible apply y_setF); (walk_at "e"))
  | ((with_reducible apply y_setF); exact set_at rfl (by first | assumption | exact free_opt _) (by walk_at "e"))
  | ((with_reducible apply y_setF); exact setO_at rfl (by first | assumption | exact free_opt _) (by walk_at "e"))
  | ((with_reducible apply y_lend); exact rfl)
  | ((with_reducible apply z_bor); (walk_at "e"))
  | ((with_reducible apply z_borQ); exact rfl; (walk_at "f"); (walk_at "e"))
  | ((with_reducible apply z_callF); (walk_at "e"); exact rfl)
  | ((with_reducible apply z_backQ); (walk_at "e"))
  | ((with_reducible apply z_callF1); (walk_at "e"); exact rfl)
  | ((with_reducible apply z_back1Q); (walk_at "e"))
  | ((with_reducible apply z_prot); (walk_at "e"))
  | ((with_reducible apply z_unpQ); (walk_at "e"))
  | ((with_reducible apply z_rtK); (walk_at "e"))
  | ((with_reducible apply z_rtN); (walk_at "e"))
  | ((with_reducible apply z_app); (walk_at "e"))
  | ((with_reducible apply z_appQ); (walk_at "e"); (walk_at "e"))
  | ((with_reducible apply z_stK); (walk_at "e"))
  | ((with_reducible apply z_stQ); (walk_at "e"); exact rfl; (walk_at "e"); (walk_at "e"))
  | ((with_reducible apply z_tgQ); (walk_at "e"))
  | ((with_reducible apply z_parQ); (walk_at "e"))
  | ((with_reducible apply y_frzM); (walk_at "e"))
  | ((with_reducible apply y_mv); exact rfl)
  | (walk_at "o")
  | ((with_reducible apply y_lft); exact rfl)
  | ((with_reducible apply y_t))
  | ((with_reducible apply y_f))
  | ((with_reducible apply y_nt))
  | ((with_reducible apply y_nf))
  | ((with_reducible apply y_len); (exact big_le (Nat.le_of_ble_eq_true rfl)))
  | (with_reducible refine ⟨_, rfl, ?_⟩)
  | fail "y")
local macro_rules | `(tactic| walk_at "y") => `(tactic| first | walk_at "y1" | walk_at "y2" | fail "y")
/-! ### dice -/
@[reducible] def dice (a b c : Int) : D := .lst [.int a, .int b, .int c]
structure Ok (n : Nat) (a b c : Int) : Prop where
  h1 : 0 ≤ a
  h2 : 0 ≤ b
  h3 : b ≤ 11529215046070000000
  h4 : 0 ≤ c
  h5 : c ≤ n
theorem Ok.mono {n m : Nat} {a b c : Int} (h : Ok n a b c) (le : n ≤ m) : Ok m a b c := ⟨h.h1, h.h2, h.h3, h.h4, by have := h.h5; omega⟩
theorem log2_small {n : Nat} (h : n < 2 ^ 64) : n.log2 < 64 := by
  by_cases z : n = 0
  · subst z; decide
  · exact (Nat.log2_lt z).mpr h
theorem spec_bag {ns : List Int} {i : Int} (h0 : 0 ≤ i) (h1 : i < 100) : Wp F_law_bag [.sh (.scr ns), .sh (.int i)] (fun sl as => ∃ a b c, sl = .ow (dice a b c) ∧ as = [.sh (.scr ns), .sh (.int i)] ∧ Ok 0 a b c) := by
  have key : ∀ x : Int, Wp (seqM (setM 3 (shD (fz (ifM (testM (opS geS (fz (callM absS (consM (get 2) (ret [])))) (fz (opS powS (ret (.int 10)) (ret (.int 18)))))) (callM absS (consM (get 2) (ret []))) (shD (ret (.int 0)))))))
      (retM (lstM (consM (get 3) (consM (fz (opS addS (fz (opS addS (fz (opS mulS (fz (opS modS (fz (callM intS (consM (get 2) (ret [])))) (ret (.int 2305843009213693951)))) (ret (.int 5)))) (fz (opS mulS (ret (.int 8191)) (get 1))))) (ret (.int 6007)))) (consM (ret (.int 0)) (ret [])))))))
      [.sh (.scr ns), .sh (.int i), .sh (.int x), .un] (rtK [.sh (.scr ns), .sh (.int i)] (fun sl as => ∃ a b c, sl = .ow (dice a b c) ∧ as = [.sh (.scr ns), .sh (.int i)] ∧ Ok 0 a b c)) := by
    intro x
    have hm := Int.emod_nonneg x (b := 2305843009213693951) (by decide)
    have hm2 := Int.emod_lt_of_pos x (b := 2305843009213693951) (by decide)
    have l1 : (x % 2305843009213693951).natAbs.log2 < 64 := log2_small (by omega)
    have l2 : i.natAbs.log2 < 64 := log2_small (by omega)
    have e5 : (Int.natAbs 5).log2 = 2 := by decide
    have e8 : (Int.natAbs 8191).log2 = 12 := by decide
    have ax : 0 ≤ (if x < 0 then -x else x) := by split <;> omega
    repeat' (walk_at "y")
    · exact ⟨by decide, by decide, by decide⟩
    · refine y_dec (fun ha => ?_) (fun ha => ?_)
      · repeat' (walk_at "y")
        · decide
        · omega
        · omega
        · exact ⟨_, _, _, rfl, rfl, ax, by omega, by omega, by omega, by omega⟩
      · repeat' (walk_at "y")
        · decide
        · omega
        · omega
        · exact ⟨_, _, _, rfl, rfl, by omega, by omega, by omega, by omega, by omega⟩
  refine y_run (ρ := [.sh (.scr ns), .sh (.int i), .un, .un]) ⟨rfl, rfl⟩ rfl ?_
  unfold T_law_bag
  repeat' (walk_at "y")
  refine y_dec (fun ha => ?_) (fun ha => ?_)
  · repeat' (walk_at "y")
    obtain ⟨x, e, _⟩ := atI_pos h0 ha
    refine o_ixc e ?_
    iterate 3 (walk_at "y")
    exact key _
  · iterate 5 (walk_at "y")
    exact key _
theorem spec_take {n : Nat} {m a b c : Int} (hd : Ok n a b c) (hn : n < 1000000000) (hm : 0 < m) (hm2 : m < 2 ^ 63) : Wp F_law_take [.pn (dice a b c), .sh (.int m)] (fun sl as => ∃ r a' b' c', sl = .sh (.int r) ∧ as = [.pn (dice a' b' c'), .sh (.int m)] ∧ 0 ≤ r ∧ r < m ∧ Ok (n + 1) a' b' c') := by
  obtain ⟨h1, h2, h3, h4, h5⟩ := hd
  refine y_run (ρ := [.pn (dice a b c), .sh (.int m), .un, .un]) ⟨rfl, rfl⟩ rfl ?_
  unfold T_law_take
  have lm : m.natAbs.log2 < 64 := log2_small (by omega)
  have lc : (c + 1).natAbs.log2 < 64 := log2_small (by omega)
  repeat' (walk_at "y")
  refine y_dec (fun ha => ?_) (fun ha => ?_)
  · repeat' (walk_at "y")
    · exact hm
    · exact ⟨hm, by omega⟩
    · exact ⟨_, _, _, _, rfl, rfl, Int.emod_nonneg a (by omega), Int.emod_lt_of_pos a hm, Int.ediv_nonneg h1 (by omega), h2, h3, h4, by omega⟩
  · have e1 : (Int.natAbs 1000081).log2 = 19 := by decide
    have e2 : (Int.natAbs 32452867).log2 = 24 := by decide
    repeat' (walk_at "y")
    · omega
    · exact ⟨by decide, by decide, by omega⟩
    · decide
    · omega
    · exact ⟨by decide, by decide, by have := Int.emod_nonneg ((b + 1000081 * (c + 1)) ^ Int.toNat 3) (b := 2305843009213693921) (by decide); have := Int.emod_lt_of_pos ((b + 1000081 * (c + 1)) ^ Int.toNat 3) (b := 2305843009213693921) (by decide); omega⟩
    · decide
    · exact ⟨by decide, by decide⟩
    · exact hm
    · exact ⟨_, _, _, _, rfl, rfl, Int.emod_nonneg _ (by omega), Int.emod_lt_of_pos _ hm, h1, h2, h3, by omega, by omega⟩
theorem spec_of {n : Nat} {a b c : Int} {xs : List D} (hd : Ok n a b c) (hn : n < 1000000000) (hx : 0 < xs.length) (hx2 : xs.length < 2 ^ 62) : Wp F_law_of [.pn (dice a b c), .sh (.lst xs)] (fun sl as => ∃ d a' b' c', sl = .sh d ∧ as = [.pn (dice a' b' c'), .sh (.lst xs)] ∧ d ∈ xs ∧ Ok (n + 1) a' b' c') := by
  refine y_run (ρ := [.pn (dice a b c), .sh (.lst xs)]) ⟨rfl, rfl⟩ rfl ?_
  unfold T_law_of
  repeat' (walk_at "y")
  refine (spec_take hd hn (by omega) (by omega)).imp ?_
  rintro _ _ ⟨r, a', b', c', rfl, rfl, r0, r1, hd'⟩
  repeat' (walk_at "y")
  obtain ⟨x, e, e2⟩ := atI_pos r0 r1
  refine o_ix e ?_
  repeat' (walk_at "y")
  exact ⟨_, _, _, _, rfl, rfl, List.mem_of_getElem? e2, hd'⟩
theorem spec_ofs {n : Nat} {a b c : Int} {s : Str} (hd : Ok n a b c) (hn : n < 1000000000) (hx : 0 < s.length) (hx2 : s.length ≤ sizeLine) : Wp F_law_of [.pn (dice a b c), .sh (.str s)] (fun sl as => ∃ k a' b' c', sl = .sh (.str ⟨#[k]⟩) ∧ as = [.pn (dice a' b' c'), .sh (.str s)] ∧ k ∈ s.cps.toList ∧ Ok (n + 1) a' b' c') := by
  refine y_run (ρ := [.pn (dice a b c), .sh (.str s)]) ⟨rfl, rfl⟩ rfl ?_
  unfold T_law_of
  have hz : sizeLine = 2 ^ 24 := rfl
  repeat' (walk_at "y")
  · exact hx2
  · refine (spec_take hd hn (by omega) (by omega)).imp ?_
    rintro _ _ ⟨r, a', b', c', rfl, rfl, r0, r1, hd'⟩
    repeat' (walk_at "y")
    obtain ⟨x, e, e2⟩ := atI_pos (xs := s.cps.toList) r0 (by rw [← TL.len_tl]; exact r1)
    refine o_ixs hx2 e ?_
    repeat' (walk_at "y")
    exact ⟨_, _, _, _, rfl, rfl, List.mem_of_getElem? e2, hd'⟩
/-! ### tokens -/
structure SgOk (s : Str) : Prop where
  len : s.length = 93
  blk : blk (TL.tl s)
  nd : (TL.tl s).Nodup
theorem spec_signs : Wp F_law_signs [] (fun sl as => ∃ s, sl = .sh (.str s) ∧ as = [] ∧ SgOk s) := by
  refine y_run (ρ := [.un]) ⟨rfl, rfl⟩ rfl ?_
  unfold T_law_signs
  repeat' (walk_at "y")
  · decide +kernel
  · refine ⟨rfl, by decide +kernel, ?_, by decide +kernel⟩
    have h : ∀ c ∈ TL.tl (("!\"#$&'()*+,-./0123456789:;<=>?@ABCDEFGHIJKLMNOPQRSTUVWXYZ[\\]^_`" : Str) ++ ("abcdefghijklmnopqrstuvwxyz{|}~" : Str)), 33 ≤ c := by decide +kernel
    intro c hc z
    have := h c hc
    omega
structure TkOk (n : Nat) (s : Str) : Prop where
  len : 0 < s.length ∧ s.length ≤ n
  blk : blk (TL.tl s)
theorem spec_token {n : Nat} {a b c : Int} {ts : List Str} (hd : Ok n a b c) (hn : n < 100000000) : Wp F_law_token [.pn (dice a b c), .sh (.lst (ts.map .str))] (fun sl as => ∃ s a' b' c', sl = .sh (.str s) ∧ as = [.pn (dice a' b' c'), .sh (.lst (ts.map .str))] ∧ TkOk 4 s ∧ (ts.length < 93 → s ∉ ts) ∧ Ok (n + 5) a' b' c') := by
  have hz : sizeLine = 2 ^ 24 := rfl
  refine y_run (ρ := [.pn (dice a b c), .sh (.lst (ts.map .str)), .un, .un, .un, .un, .un]) ⟨rfl, rfl⟩ rfl ?_
  unfold T_law_token
  repeat' (walk_at "y")
  refine spec_signs.imp ?_
  rintro _ _ ⟨sg, rfl, rfl, hs⟩
  have hsl := hs.len
  repeat' (walk_at "y")
  refine (spec_of hd (by omega) (by simp) (by simp)).imp ?_
  rintro _ _ ⟨d, a', b', c', rfl, rfl, hm, hd'⟩
  obtain ⟨j, rfl, j0, j1⟩ : ∃ j : Int, d = .int j ∧ 1 ≤ j ∧ j ≤ 4 := by
    simp only [List.mem_cons, List.not_mem_nil, or_false] at hm
    rcases hm with h | h | h | h | h | h <;> subst h <;> exact ⟨_, rfl, by decide, by decide⟩
  repeat' (walk_at "y")
  · omega
  refine z_for (fun k ρ => ∃ a b c s x, ρ = [.pn (dice a b c), .sh (.lst (ts.map .str)), .sh (.str sg), .sh (.str s), x, .un, .un] ∧ free x = true ∧ s.length = k ∧ blk (TL.tl s) ∧ Ok (n + 1 + k) a b c) ⟨a', b', c', "", .un, rfl, rfl, rfl, fun _ h => (by cases h), hd'⟩ (fun k d ρ ek hi => ?_) (fun ρ hi => ?_)
  · obtain ⟨a1, b1, c1, s, x, rfl, hx, hl, hb, ho⟩ := hi
    obtain ⟨hk, rfl⟩ := range_get ek
    refine ⟨_, gN_at (x := x) rfl hx (by walk_at "e"), ?_⟩
    repeat' (walk_at "y")
    refine (spec_ofs ho (by omega) (by omega) (by omega)).imp ?_
    rintro _ _ ⟨q, a2, b2, c2, rfl, rfl, hq, ho2⟩
    repeat' (walk_at "y")
    · rw [len_one]; omega
    · refine ⟨_, _, _, _, _, rfl, rfl, by rw [len_app, hl]; rfl, blk_app hb fun c hc => hs.blk c ?_, ho2⟩
      cases hc with
      | head => exact hq
      | tail _ h => cases h
  · obtain ⟨a1, b1, c1, s, x, rfl, hx, hl, hb, ho⟩ := hi
    rw [range_len] at hl ho
    repeat' (walk_at "y")
    refine o_sls (by omega) ?_
    repeat' (walk_at "y")
    have hc3 : TL.tl (cutS s none (some 3)) = (TL.tl s).take 3 := tl_cut0 s 3
    generalize cutS s none (some 3) = s3 at hc3 ⊢
    have l3 : s3.length ≤ 3 := by rw [TL.len_tl, hc3, List.length_take]; omega
    have b3 : blk (TL.tl s3) := fun c hc => hb c (List.mem_of_mem_take (hc3 ▸ hc))
    refine z_for (fun k ρ => ∃ s y, ρ = [.pn (dice a1 b1 c1), .sh (.lst (ts.map .str)), .sh (.str sg), .sh (.str s), x, .sh (.str s3), y] ∧ free y = true ∧ TkOk 4 s ∧ (s ∈ ts → ∀ i, i < k → ∀ c, (TL.tl sg)[i]? = some c → s3 ++ (⟨#[c]⟩ : Str) ∈ ts)) ⟨s, .un, rfl, rfl, ⟨⟨by omega, by omega⟩, hb⟩, fun _ i h => by omega⟩ (fun k d ρ ek hi => ?_) (fun ρ hi => ?_)
    · obtain ⟨s, y, rfl, hy, hk, hi⟩ := hi
      obtain ⟨q, hq, rfl⟩ : ∃ q, (TL.tl sg)[k]? = some q ∧ d = .str ⟨#[q]⟩ := by
        have ek2 : (((TL.tl sg).map fun c => D.str ⟨#[c]⟩)[k]? : Option D) = some d := ek
        rw [List.getElem?_map] at ek2
        cases e : (TL.tl sg)[k]? with
        | none => rw [e] at ek2; cases ek2
        | some q => rw [e] at ek2; cases ek2; exact ⟨q, rfl, rfl⟩
      refine ⟨_, gN_at (x := y) rfl hy (by walk_at "e"), ?_⟩
      repeat' (walk_at "y")
      refine y_lft (inS_strs s ts) ?_
      repeat' (walk_at "y")
      refine y_dec (fun hin => ?_) (fun hin => ?_)
      · repeat' (walk_at "y")
        · rw [len_one]; omega
        · refine ⟨_, _, rfl, rfl, ⟨⟨?_, ?_⟩, ?_⟩, fun hin2 i hi2 c hc => ?_⟩
          · rw [len_app, len_one]; omega
          · rw [len_app, len_one]; omega
          · refine blk_app b3 fun c hc => hs.blk c ?_
            cases hc with
            | head => exact List.mem_of_getElem? hq
            | tail _ h => cases h
          · by_cases z : i = k
            · subst z; rw [hq] at hc; cases hc; exact hin2
            · exact hi hin i (by omega) c hc
      · repeat' (walk_at "y")
        exact ⟨_, _, rfl, rfl, hk, fun z => absurd z hin⟩
    · obtain ⟨s, y, rfl, hy, hk, hi⟩ := hi
      repeat' (walk_at "y")
      refine ⟨_, _, _, _, rfl, rfl, hk, fun lt hin => ?_, ho.mono (by omega)⟩
      have hl2 : (List.map (fun c => D.str ⟨#[c]⟩) sg.cps.toList).length = 93 := by rw [List.length_map]; exact hsl
      rw [hl2] at hi
      have inj : ((TL.tl sg).map fun c => s3 ++ (⟨#[c]⟩ : Str)).Nodup := by
        rw [List.nodup_iff_pairwise_ne, List.pairwise_map]
        refine (List.nodup_iff_pairwise_ne.mp hs.nd).imp fun {p q} hpq z => hpq ?_
        have := congrArg TL.tl z
        rw [TL.tl_append, TL.tl_append] at this
        exact (List.cons.inj (List.append_cancel_left this)).1
      have le := pigeon _ ts inj fun y hy => by
        rw [List.mem_map] at hy
        obtain ⟨c, hc, rfl⟩ := hy
        obtain ⟨i, hi2⟩ := List.getElem?_of_mem hc
        exact hi hin i (by have := (List.getElem?_eq_some_iff.mp hi2).1; rw [← TL.len_tl, hsl] at this; exact this) c hi2
      rw [List.length_map, ← TL.len_tl, hsl] at le
      omega
end FD.Law

set_option Elab.async false
set_option linter.all false
set_option maxRecDepth 100000
namespace FD.Law
open PySem L2 FD
local macro_rules | `(tactic| walk_at "y1") => `(tactic| with_reducible first | refine y_seq ?_ | refine x_fld ?_ | refine x_oop ?_ | refine x_oun ?_ | refine x_len ?_ | refine x_meth ?_ | refine x_mkM ?_ | refine x_callAD ?_ | refine x_sf ?_ | refine x_addB ?_ | refine x_itB ?_ | refine y_setM ?_ | refine y_shD ?_ | refine z_fz ?_ | refine z_datS ?_ | refine z_datO ?_ | refine y_opS ?_ | refine y_callM ?_ | refine y_consM ?_ | refine y_ret ?_ | refine y_nx ?_ | refine y_rt ?_ | refine y_bk ?_ | refine y_ct ?_ | refine z_forN ?_ | refine z_forC ?_ | refine z_forB ?_ | refine z_forR ?_ | refine y_retM ?_ | refine y_ifM ?_ | refine y_tupM ?_ | refine y_lstM ?_ | refine y_testM ?_ | refine y_truM ?_ | refine y_notM ?_ | refine y_andM ?_ | refine y_orM ?_ | refine y_andV ?_ | refine y_orV ?_ | refine y_notV ?_ | refine y_dropM ?_ | refine y_augM ?_ | refine y_methM ?_ | refine y_slM ?_ | refine y_part ?_ | refine y_negM ?_ | refine y_replM ?_ | refine y_callA ?_ | refine y_arVal ?_ | refine y_arNil ?_ | refine y_fsCons ?_ | refine z_st ?_ | refine z_asg ?_ | refine z_par ?_ | refine y_forM ?_ | refine y_chain ?_ | refine wp_callT ?_ | refine wp_itM ?_ | refine y_bnd ?_)
local macro_rules | `(tactic| walk_at "e") => `(tactic| focus ((try simp only [setSl, setSls, gN, gT, gs0, gs1, get0, getS, set0, setS, own?, borS, pinAll, pin_un, pin_sh, pin_ow, pin_pn, pin_opt, List.map_cons, List.map_nil, wipeS, restS, argSls, argSl, Option.map, Option.bind, frzS, if_true, ite_true, Option.isSome, zipB, bb_un, bb_sh, bb_ow, bb_pn, bb_os, bb_ps, bb_opt, unpin, un_un, un_sh, un_ow, un_pn, un_opt, back, back1, Sl.dat, outs, List.length_cons, List.length_nil, Nat.zero_add, Nat.reduceAdd, Int.reduceToNat]); first | done | exact rfl))
local macro_rules | `(tactic| walk_at "f") => `(tactic| focus (first | exact rfl | (simp only [List.all_cons, List.all_nil, fo_un, fo_sh, fo_opt, fo_pn, flats_strs, flats_ints, flats, flat, Bool.and_self]; done)))
local macro_rules | `(tactic| walk_at "o") => `(tactic| with_reducible first | refine o_f1 ?_ | refine o_f2 ?_ | refine o_f3 ?_ | refine o_f4 ?_ | refine o_f5 ?_ | refine o_inI ?_ | refine o_ninI ?_ | refine o_inT ?_ | refine o_ninT ?_ | refine o_addN ?_ ?_ | refine o_addN0 ?_ ?_ | refine o_addNs ?_ ?_ | refine o_addSt ?_ ?_ | refine o_lenSt ?_ | refine o_listNs ?_ | refine o_itN ?_ | refine o_itNs ?_ | refine o_itSt ?_ | refine o_enNs ?_ | refine o_sum ?_ | refine o_any ?_ | refine o_min2 ?_ | refine o_max2 ?_ | refine o_min3 ?_ | refine o_add ?_ | refine o_sub ?_ | refine o_mod ?_ ?_ | refine o_mul ?_ ?_ | refine o_fdiv ?_ ?_ | refine o_pow ?_ ?_ | refine o_lt ?_ | refine o_le ?_ | refine o_gt ?_ | refine o_ge ?_ | refine o_eqi ?_ | refine o_nei ?_ | refine o_eqs ?_ | refine o_nes ?_ | refine o_len ?_ | refine o_lent ?_ | refine o_lenc ?_ | refine o_lens ?_ ?_ | refine o_abs ?_ | refine o_rng1 ?_ ?_ | refine o_rng2 ?_ ?_ | refine o_int ?_ | refine o_adds ?_ ?_ | refine o_addl ?_ ?_ | refine o_addt ?_ ?_)
local macro_rules | `(tactic| walk_at "y2") => `(tactic| first
  | ((with_reducible apply y_get); exact rfl)
  | ((with_reducible apply x_sfQ); (walk_at "e"); exact rfl; exact rfl; (walk_at "e"))
  | ((with_reducible apply x_mkF); (walk_at "e"); exact rfl)
  | ((with_reducible apply x_mkQ); (walk_at "e"))
  | ((with_reducible apply x_rt); exact rfl)
  | ((with_reducible apply y_setF); (walk_at "e"))
  | ((with_reducible apply y_setF); exact set_at rfl (by first | assumption | exact free_opt _) (by walk_at "e"))
  | ((with_reducible apply y_setF); exact setO_at rfl (by first | assumption | exact free_opt _) (by walk_at "e"))
  | ((with_reducible apply y_lend); exact rfl)
  | ((with_reducible apply z_bor); (walk_at "e"))
  | ((with_reducible apply z_borQ); exact rfl; (walk_at "f"); (walk_at "e"))
  | ((with_reducible apply z_callF); (walk_at "e"); exact rfl)
  | ((with_reducible apply z_backQ); (walk_at "e"))
  | ((with_reducible apply z_callF1); (walk_at "e"); exact rfl)
  | ((with_reducible apply z_back1Q); (walk_at "e"))
  | ((with_reducible apply z_prot); (walk_at "e"))
  | ((with_reducible apply z_unpQ); (walk_at "e"))
  | ((with_reducible apply z_rtK); (walk_at "e"))
  | ((with_reducible apply z_rtN); (walk_at "e"))
  | ((with_reducible apply z_app); (walk_at "e"))
  | ((with_reducible apply z_appQ); (walk_at "e"); (walk_at "e"))
  | ((with_reducible apply z_stK); (walk_at "e"))
  | ((with_reducible apply z_stQ); (walk_at "e"); exact rfl; (walk_at "e"); (walk_at "e"))
  | ((with_reducible apply z_tgQ); (walk_at "e"))
  | ((with_reducible apply z_parQ); (walk_at "e"))
  | ((with_reducible apply y_frzM); (walk_at "e"))
  | ((with_reducible apply y_mv); exact rfl)
  | (walk_at "o")
  | ((with_reducible apply y_lft); exact rfl)
  | ((with_reducible apply y_t))
  | ((with_reducible apply y_f))
  | ((with_reducible apply y_nt))
  | ((with_reducible apply y_nf))
  | ((with_reducible apply y_len); (exact big_le (Nat.le_of_ble_eq_true rfl)))
  | (with_reducible refine ⟨_, rfl, ?_⟩)
  | fail "y")
local macro_rules | `(tactic| walk_at "y") => `(tactic| first | walk_at "y1" | walk_at "y2" | fail "y")
theorem spec_name {n : Nat} {a b c : Int} {ts : List Str} (hd : Ok n a b c) (hn : n < 100000000) : Wp F_law_name [.pn (dice a b c), .sh (.lst (ts.map .str))] (fun sl as => ∃ s a' b' c', sl = .sh (.str s) ∧ as = [.pn (dice a' b' c'), .sh (.lst (ts.map .str))] ∧ (0 < s.length ∧ s.length ≤ 8) ∧ Ok (n + 9) a' b' c') := by
  have hz : sizeLine = 2 ^ 24 := rfl
  refine y_run (ρ := [.pn (dice a b c), .sh (.lst (ts.map .str)), .un, .un, .un, .un, .un]) ⟨rfl, rfl⟩ rfl ?_
  unfold T_law_name
  have hl26 : ("abcdefghijklmnopqrstuvwxyz" : Str).length = 26 := by decide +kernel
  repeat' (walk_at "y")
  refine (spec_of hd (by omega) (by simp) (by simp)).imp ?_
  rintro _ _ ⟨d, a', b', c', rfl, rfl, hm, hd'⟩
  obtain ⟨j, rfl, j0, j1⟩ : ∃ j : Int, d = .int j ∧ 1 ≤ j ∧ j ≤ 8 := by
    simp only [List.mem_cons, List.not_mem_nil, or_false] at hm
    rcases hm with h | h | h | h | h | h | h | h <;> subst h <;> exact ⟨_, rfl, by decide, by decide⟩
  generalize ("abcdefghijklmnopqrstuvwxyz" : Str) = sg at hl26 ⊢
  repeat' (walk_at "y")
  · omega
  refine z_for (fun k ρ => ∃ a b c s x, ρ = [.pn (dice a b c), .sh (.lst (ts.map .str)), .sh (.str sg), .sh (.str s), x, .un, .un] ∧ free x = true ∧ s.length = k ∧ Ok (n + 1 + k) a b c) ⟨a', b', c', "", .un, rfl, rfl, rfl, hd'⟩ (fun k d ρ ek hi => ?_) (fun ρ hi => ?_)
  · obtain ⟨a1, b1, c1, s, x, rfl, hx, hl, ho⟩ := hi
    obtain ⟨hk, rfl⟩ := range_get ek
    refine ⟨_, gN_at (x := x) rfl hx (by walk_at "e"), ?_⟩
    repeat' (walk_at "y")
    refine (spec_ofs ho (by omega) (by omega) (by omega)).imp ?_
    rintro _ _ ⟨q, a2, b2, c2, rfl, rfl, hq, ho2⟩
    repeat' (walk_at "y")
    · rw [len_one]; omega
    · exact ⟨_, _, _, _, _, rfl, rfl, by rw [len_app, hl]; rfl, ho2⟩
  · obtain ⟨a1, b1, c1, s, x, rfl, hx, hl, ho⟩ := hi
    rw [range_len] at hl ho
    repeat' (walk_at "y")
    refine o_sls (by omega) ?_
    repeat' (walk_at "y")
    have hc3 : TL.tl (cutS s none (some 7)) = (TL.tl s).take 7 := tl_cut0 s 7
    generalize cutS s none (some 7) = s3 at hc3 ⊢
    have l3 : s3.length ≤ 7 := by rw [TL.len_tl, hc3, List.length_take]; omega
    refine z_for (fun k ρ => ∃ s y, ρ = [.pn (dice a1 b1 c1), .sh (.lst (ts.map .str)), .sh (.str sg), .sh (.str s), x, .sh (.str s3), y] ∧ free y = true ∧ (0 < s.length ∧ s.length ≤ 8)) ⟨s, .un, rfl, rfl, by omega, by omega⟩ (fun k d ρ ek hi => ?_) (fun ρ hi => ?_)
    · obtain ⟨s, y, rfl, hy, hk⟩ := hi
      obtain ⟨q, hq, rfl⟩ : ∃ q, (TL.tl sg)[k]? = some q ∧ d = .str ⟨#[q]⟩ := by
        have ek2 : (((TL.tl sg).map fun c => D.str ⟨#[c]⟩)[k]? : Option D) = some d := ek
        rw [List.getElem?_map] at ek2
        cases e : (TL.tl sg)[k]? with
        | none => rw [e] at ek2; cases ek2
        | some q => rw [e] at ek2; cases ek2; exact ⟨q, rfl, rfl⟩
      refine ⟨_, gN_at (x := y) rfl hy (by walk_at "e"), ?_⟩
      repeat' (walk_at "y")
      cases ts.contains s
      · repeat' (walk_at "y")
        exact ⟨_, _, rfl, rfl, hk⟩
      · repeat' (walk_at "y")
        · rw [len_one]; omega
        · exact ⟨_, _, rfl, rfl, by rw [len_app, len_one]; omega, by rw [len_app, len_one]; omega⟩
    · obtain ⟨s, y, rfl, hy, hk⟩ := hi
      repeat' (walk_at "y")
      exact ⟨_, _, _, _, rfl, rfl, hk, ho.mono (by omega)⟩
theorem spec_words {n : Nat} {a b c m : Int} (hd : Ok n a b c) (hn : n < 10000000) (h0 : 0 ≤ m) (h1 : m ≤ 10) : Wp F_law_words [.pn (dice a b c), .sh (.int m)] (fun sl as => ∃ ss a' b' c', sl = .ow (.lst (List.map D.str ss)) ∧ as = [.pn (dice a' b' c'), .sh (.int m)] ∧ (ss.length : Int) = m ∧ Ok (n + 100) a' b' c') := by
  have hz : sizeLine = 2 ^ 24 := rfl
  refine y_run (ρ := [.pn (dice a b c), .sh (.int m), .un, .un]) ⟨rfl, rfl⟩ rfl ?_
  unfold T_law_words
  repeat' (walk_at "y")
  · omega
  refine z_for (fun k ρ => ∃ a b c ss x, ρ = [.pn (dice a b c), .sh (.int m), .ow (.lst (List.map D.str ss)), x] ∧ free x = true ∧ ss.length = k ∧ Ok (n + 10 * k) a b c) ⟨a, b, c, [], .un, rfl, rfl, rfl, hd.mono (by omega)⟩ (fun k d ρ ek hi => ?_) (fun ρ hi => ?_)
  · obtain ⟨a1, b1, c1, ss, x, rfl, hx, hl, ho⟩ := hi
    obtain ⟨hk, rfl⟩ := range_get ek
    refine ⟨_, gN_at (x := x) rfl hx (by walk_at "e"), ?_⟩
    repeat' (walk_at "y")
    refine (spec_take ho (by omega) (by omega) (by omega)).imp ?_
    rintro _ _ ⟨r, a2, b2, c2, rfl, rfl, r0, r1, ho2⟩
    repeat' (walk_at "y")
    refine y_dec (fun hin => ?_) (fun hin => ?_)
    · repeat' (walk_at "y")
      refine (spec_token ho2 (by omega)).imp ?_
      rintro _ _ ⟨s, a3, b3, c3, rfl, rfl, _, _, ho3⟩
      repeat' (walk_at "y")
      · rw [List.length_map]; omega
      · exact ⟨_, _, _, ss ++ [s], _, by rw [List.map_append]; rfl, rfl, by rw [List.length_append, hl]; rfl, ho3.mono (by omega)⟩
    · repeat' (walk_at "y")
      refine (spec_name ho2 (by omega)).imp ?_
      rintro _ _ ⟨s, a3, b3, c3, rfl, rfl, _, ho3⟩
      repeat' (walk_at "y")
      · rw [List.length_map]; omega
      · exact ⟨_, _, _, ss ++ [s], _, by rw [List.map_append]; rfl, rfl, by rw [List.length_append, hl]; rfl, ho3.mono (by omega)⟩
  · obtain ⟨a1, b1, c1, ss, x, rfl, hx, hl, ho⟩ := hi
    rw [range_len] at hl ho
    repeat' (walk_at "y")
    exact ⟨_, _, _, _, rfl, rfl, by omega, ho.mono (by omega)⟩
end FD.Law

set_option Elab.async false
set_option linter.all false
set_option maxRecDepth 100000
namespace FD.Law
open PySem L2 FD
local macro_rules | `(tactic| walk_at "y1") => `(tactic| with_reducible first | refine y_seq ?_ | refine x_fld ?_ | refine x_oop ?_ | refine x_oun ?_ | refine x_len ?_ | refine x_meth ?_ | refine x_mkM ?_ | refine x_callAD ?_ | refine x_sf ?_ | refine x_addB ?_ | refine x_itB ?_ | refine y_setM ?_ | refine y_shD ?_ | refine z_fz ?_ | refine z_datS ?_ | refine z_datO ?_ | refine y_opS ?_ | refine y_callM ?_ | refine y_consM ?_ | refine y_ret ?_ | refine y_nx ?_ | refine y_rt ?_ | refine y_bk ?_ | refine y_ct ?_ | refine z_forN ?_ | refine z_forC ?_ | refine z_forB ?_ | refine z_forR ?_ | refine y_retM ?_ | refine y_ifM ?_ | refine y_tupM ?_ | refine y_lstM ?_ | refine y_testM ?_ | refine y_truM ?_ | refine y_notM ?_ | refine y_andM ?_ | refine y_orM ?_ | refine y_andV ?_ | refine y_orV ?_ | refine y_notV ?_ | refine y_dropM ?_ | refine y_augM ?_ | refine y_methM ?_ | refine y_slM ?_ | refine y_part ?_ | refine y_negM ?_ | refine y_replM ?_ | refine y_callA ?_ | refine y_arVal ?_ | refine y_arNil ?_ | refine y_fsCons ?_ | refine z_st ?_ | refine z_asg ?_ | refine z_par ?_ | refine y_forM ?_ | refine y_chain ?_ | refine wp_callT ?_ | refine wp_itM ?_ | refine y_bnd ?_)
local macro_rules | `(tactic| walk_at "e") => `(tactic| focus ((try simp only [setSl, setSls, gN, gT, gs0, gs1, get0, getS, set0, setS, own?, borS, pinAll, pin_un, pin_sh, pin_ow, pin_pn, pin_opt, List.map_cons, List.map_nil, wipeS, restS, argSls, argSl, Option.map, Option.bind, frzS, if_true, ite_true, Option.isSome, zipB, bb_un, bb_sh, bb_ow, bb_pn, bb_os, bb_ps, bb_opt, unpin, un_un, un_sh, un_ow, un_pn, un_opt, back, back1, Sl.dat, outs, List.length_cons, List.length_nil, Nat.zero_add, Nat.reduceAdd, Int.reduceToNat]); first | done | exact rfl))
local macro_rules | `(tactic| walk_at "f") => `(tactic| focus (first | exact rfl | (simp only [List.all_cons, List.all_nil, fo_un, fo_sh, fo_opt, fo_pn, flats_strs, flats_ints, flats, flat, Bool.and_self]; done)))
local macro_rules | `(tactic| walk_at "o") => `(tactic| with_reducible first | refine o_isP ?_ | refine o_f1 ?_ | refine o_f2 ?_ | refine o_f3 ?_ | refine o_f4 ?_ | refine o_f5 ?_ | refine o_inI ?_ | refine o_ninI ?_ | refine o_inT ?_ | refine o_ninT ?_ | refine o_addN ?_ ?_ | refine o_addN0 ?_ ?_ | refine o_addNs ?_ ?_ | refine o_addSt ?_ ?_ | refine o_lenSt ?_ | refine o_listNs ?_ | refine o_itN ?_ | refine o_itNs ?_ | refine o_itSt ?_ | refine o_enNs ?_ | refine o_sum ?_ | refine o_any ?_ | refine o_min2 ?_ | refine o_max2 ?_ | refine o_min3 ?_ | refine o_add ?_ | refine o_sub ?_ | refine o_mod ?_ ?_ | refine o_mul ?_ ?_ | refine o_fdiv ?_ ?_ | refine o_pow ?_ ?_ | refine o_lt ?_ | refine o_le ?_ | refine o_gt ?_ | refine o_ge ?_ | refine o_eqi ?_ | refine o_nei ?_ | refine o_eqs ?_ | refine o_nes ?_ | refine o_len ?_ | refine o_lent ?_ | refine o_lenc ?_ | refine o_lens ?_ ?_ | refine o_abs ?_ | refine o_rng1 ?_ ?_ | refine o_rng2 ?_ ?_ | refine o_int ?_ | refine o_adds ?_ ?_ | refine o_addl ?_ ?_ | refine o_addt ?_ ?_)
local macro_rules | `(tactic| walk_at "y2") => `(tactic| first
  | ((with_reducible apply y_get); exact rfl)
  | ((with_reducible apply x_sfQ); (walk_at "e"); exact rfl; exact rfl; (walk_at "e"))
  | ((with_reducible apply x_mkF); (walk_at "e"); exact rfl)
  | ((with_reducible apply x_mkQ); (walk_at "e"))
  | ((with_reducible apply x_rt); exact rfl)
  | ((with_reducible apply y_setF); (walk_at "e"))
  | ((with_reducible apply y_setF); exact set_at rfl (by first | assumption | exact free_opt _) (by walk_at "e"))
  | ((with_reducible apply y_setF); exact setO_at rfl (by first | assumption | exact free_opt _) (by walk_at "e"))
  | ((with_reducible apply y_lend); exact rfl)
  | ((with_reducible apply z_bor); (walk_at "e"))
  | ((with_reducible apply z_borQ); exact rfl; (walk_at "f"); (walk_at "e"))
  | ((with_reducible apply z_callF); (walk_at "e"); exact rfl)
  | ((with_reducible apply z_backQ); (walk_at "e"))
  | ((with_reducible apply z_callF1); (walk_at "e"); exact rfl)
  | ((with_reducible apply z_back1Q); (walk_at "e"))
  | ((with_reducible apply z_prot); (walk_at "e"))
  | ((with_reducible apply z_unpQ); (walk_at "e"))
  | ((with_reducible apply z_rtK); (walk_at "e"))
  | ((with_reducible apply z_rtN); (walk_at "e"))
  | ((with_reducible apply z_app); (walk_at "e"))
  | ((with_reducible apply z_appQ); (walk_at "e"); (walk_at "e"))
  | ((with_reducible apply z_stK); (walk_at "e"))
  | ((with_reducible apply z_stQ); (walk_at "e"); exact rfl; (walk_at "e"); (walk_at "e"))
  | ((with_reducible apply z_tgQ); (walk_at "e"))
  | ((with_reducible apply z_parQ); (walk_at "e"))
  | ((with_reducible apply y_frzM); (walk_at "e"))
  | ((with_reducible apply y_mv); exact rfl)
  | (walk_at "o")
  | ((with_reducible apply y_lft); exact rfl)
  | ((with_reducible apply y_t))
  | ((with_reducible apply y_f))
  | ((with_reducible apply y_nt))
  | ((with_reducible apply y_nf))
  | ((with_reducible apply y_len); (exact big_le (Nat.le_of_ble_eq_true rfl)))
  | (with_reducible refine ⟨_, rfl, ?_⟩)
  | (with_reducible refine ⟨_, _, rfl, ?_⟩)
  | fail "y")
local macro_rules | `(tactic| walk_at "y") => `(tactic| first | walk_at "y1" | walk_at "y2" | fail "y")
local macro_rules | `(tactic| walk_at "z2") => `(tactic| first
  | ((with_reducible apply y_get); exact rfl)
  | ((with_reducible apply x_sfQ); (walk_at "e"); exact rfl; exact rfl; (walk_at "e"))
  | ((with_reducible apply x_mkQ); (walk_at "e"))
  | ((with_reducible apply x_rt); exact rfl)
  | ((with_reducible apply y_setF); (walk_at "e"))
  | ((with_reducible apply y_setF); exact set_at rfl (by first | assumption | exact free_opt _) (by walk_at "e"))
  | ((with_reducible apply y_setF); exact setO_at rfl (by first | assumption | exact free_opt _) (by walk_at "e"))
  | ((with_reducible apply y_lend); exact rfl)
  | ((with_reducible apply z_bor); (walk_at "e"))
  | ((with_reducible apply z_borQ); exact rfl; (walk_at "f"); (walk_at "e"))
  | ((with_reducible apply z_backQ); (walk_at "e"))
  | ((with_reducible apply z_back1Q); (walk_at "e"))
  | ((with_reducible apply z_prot); (walk_at "e"))
  | ((with_reducible apply z_unpQ); (walk_at "e"))
  | ((with_reducible apply z_rtK); (walk_at "e"))
  | ((with_reducible apply z_rtN); (walk_at "e"))
  | ((with_reducible apply z_app); (walk_at "e"))
  | ((with_reducible apply z_appQ); (walk_at "e"); (walk_at "e"))
  | ((with_reducible apply z_stK); (walk_at "e"))
  | ((with_reducible apply z_stQ); (walk_at "e"); exact rfl; (walk_at "e"); (walk_at "e"))
  | ((with_reducible apply z_tgQ); (walk_at "e"))
  | ((with_reducible apply z_parQ); (walk_at "e"))
  | ((with_reducible apply y_frzM); (walk_at "e"))
  | ((with_reducible apply y_mv); exact rfl)
  | (walk_at "o")
  | ((with_reducible apply y_lft); exact rfl)
  | ((with_reducible apply y_t))
  | ((with_reducible apply y_f))
  | ((with_reducible apply y_nt))
  | ((with_reducible apply y_nf))
  | ((with_reducible apply y_len); (exact big_le (Nat.le_of_ble_eq_true rfl)))
  | (with_reducible refine ⟨_, rfl, ?_⟩)
  | (with_reducible refine ⟨_, _, rfl, ?_⟩)
  | fail "y")
local macro_rules | `(tactic| walk_at "z") => `(tactic| first | walk_at "y1" | (with_reducible refine x_pat ?_) | walk_at "z2" | fail "z")
local macro_rules | `(tactic| walk_at "s") => `(tactic| first | (rw [hline]; omega) | (simp only [at_len, mv_len, List.length_map, List.length_append, hline]; omega) | fail "s")
local macro_rules | `(tactic| walk_at "zs") => `(tactic| first | walk_at "z" | walk_at "s" | fail "zs")
local macro_rules | `(tactic| walk_at "d") => `(tactic| first | (with_reducible refine y_tb (by decide +kernel) ?_) | (with_reducible refine y_fb (by decide +kernel) ?_) | fail "d")
local macro_rules | `(tactic| walk_at "zd") => `(tactic| first | walk_at "z" | walk_at "d" | fail "zd")
def IsD (F : DF) (ds : List D) (d : D) : Prop := Is F ds (.sh d) ∨ Is F ds (.ow d)
theorem x_callD {ρ : List Sl} {F : DF} {ds : List D} {ars : List Ar} {d : D} {R : D → List Sl → Prop} (h : IsD F ds d) (e : ars = ds.map .val) (q : R d ρ) : Wp (callF F ars) ρ (DatQ R) := by
  rcases h with h | h
  · exact x_call h e q
  · exact x_call h e q
theorem is_size : ∀ (m : Made) (k : Nat), m.depth ≤ k → m.Fine → Is (fuel G_law_size k) [m.enc] (.sh (.int m.size))
  | .one s r, k + 1, hk, hf => by
    show Is (G_law_size (fuel G_law_size k)) _ _
    refine is_run (ρ := [.sh (Made.enc (.one s r)), .un]) rfl rfl ?_
    unfold T_law_size Made.enc
    repeat' (walk_at "zd")
  | .none, k + 1, hk, hf => by
    show Is (G_law_size (fuel G_law_size k)) _ _
    refine is_run (ρ := [.sh (Made.enc .none), .un]) rfl rfl ?_
    unfold T_law_size Made.enc
    repeat' (walk_at "zd")
  | .times m n, k + 1, hk, hf => by
    have ih := is_size m k (by simp only [Made.depth] at hk; omega) hf.1
    have h2 := hf.2.1
    have h3 := hf.2.2
    show Is (G_law_size (fuel G_law_size k)) _ _
    refine is_run (ρ := [.sh (Made.enc (.times m n)), .un]) rfl rfl ?_
    unfold T_law_size Made.enc
    repeat' (walk_at "zd")
    refine x_call ih rfl ?_
    repeat' (walk_at "zd")
    have l1 : (Int.natAbs (m.size : Int)).log2 < 64 := log2_small (by omega)
    have l2 : (Int.natAbs (n : Int)).log2 < 64 := log2_small (by omega)
    omega
  | .un q m, k + 1, hk, hf => by
    have ih := is_size m k (by simp only [Made.depth] at hk; omega) hf.1
    show Is (G_law_size (fuel G_law_size k)) _ _
    refine is_run (ρ := [.sh (Made.enc (.un q m)), .un]) rfl rfl ?_
    unfold T_law_size Made.enc
    have key : Wp (retM (callM sumS (consM (fz (lcM [1] (bnd (fz (slM (get 0) (part (ret (.int 1))) (ret none))) fun d => lft (itemsA d)) (gN 1) (ret true) (fz (callA (fuel G_law_size k) (arVal (get 1) arNil))))) (ret [])))) [.sh (.tup [.str q.w, m.enc]), .un] (RtQ (.sh (.int (Made.un q m).size))) := by
      iterate 4 (walk_at "z")
      refine x_lc (α := Made) Made.enc (fun m => some (.int m.size)) [m] ?_
      repeat' (walk_at "z")
      refine ⟨rfl, big_le (Nat.le_of_ble_eq_true rfl), rfl, rfl, fun x hx => ?_, ?_⟩
      · rw [List.mem_singleton] at hx
        subst hx
        simp only [wipeS, set0, setS]
        repeat' (walk_at "z")
        refine x_call ih rfl ?_
        repeat' (walk_at "z")
        exact ⟨rfl, rfl, rfl⟩
      · repeat' (walk_at "z")
    cases q
    all_goals unfold Un.w at *
    all_goals simp only at *
    all_goals (repeat' (first | exact key | walk_at "zd"))
  | .bin q a b, k + 1, hk, hf => by
    have iha := is_size a k (by simp only [Made.depth] at hk; omega) hf.1
    have ihb := is_size b k (by simp only [Made.depth] at hk; omega) hf.2.1
    show Is (G_law_size (fuel G_law_size k)) _ _
    refine is_run (ρ := [.sh (Made.enc (.bin q a b)), .un]) rfl rfl ?_
    unfold T_law_size Made.enc
    have key : Wp (retM (callM sumS (consM (fz (lcM [1] (bnd (fz (slM (get 0) (part (ret (.int 1))) (ret none))) fun d => lft (itemsA d)) (gN 1) (ret true) (fz (callA (fuel G_law_size k) (arVal (get 1) arNil))))) (ret [])))) [.sh (.tup [.str q.w, a.enc, b.enc]), .un] (RtQ (.sh (.int (Made.bin q a b).size))) := by
      iterate 4 (walk_at "z")
      refine x_lc (α := Made) Made.enc (fun m => some (.int m.size)) [a, b] ?_
      repeat' (walk_at "z")
      refine ⟨rfl, big_le (Nat.le_of_ble_eq_true rfl), rfl, rfl, fun x hx => ?_, ?_⟩
      · have ih : Is (fuel G_law_size k) [x.enc] (.sh (.int x.size)) := by
          simp only [List.mem_cons, List.not_mem_nil, or_false] at hx
          rcases hx with rfl | rfl
          · exact iha
          · exact ihb
        simp only [wipeS, set0, setS]
        repeat' (walk_at "z")
        refine x_call ih rfl ?_
        repeat' (walk_at "z")
        exact ⟨rfl, rfl, rfl⟩
      · repeat' (walk_at "z")
    cases q
    all_goals unfold Bi.w at *
    all_goals simp only at *
    all_goals (repeat' (first | exact key | walk_at "zd"))
end FD.Law

set_option Elab.async false
set_option linter.all false
set_option maxRecDepth 100000
namespace FD.Law
open PySem L2 FD
local macro_rules | `(tactic| walk_at "y1") => `(tactic| with_reducible first | refine y_seq ?_ | refine x_fld ?_ | refine x_oop ?_ | refine x_oun ?_ | refine x_len ?_ | refine x_meth ?_ | refine x_mkM ?_ | refine x_callAD ?_ | refine x_sf ?_ | refine x_addB ?_ | refine x_itB ?_ | refine y_setM ?_ | refine y_shD ?_ | refine z_fz ?_ | refine z_datS ?_ | refine z_datO ?_ | refine y_opS ?_ | refine y_callM ?_ | refine y_consM ?_ | refine y_ret ?_ | refine y_nx ?_ | refine y_rt ?_ | refine y_bk ?_ | refine y_ct ?_ | refine z_forN ?_ | refine z_forC ?_ | refine z_forB ?_ | refine z_forR ?_ | refine y_retM ?_ | refine y_ifM ?_ | refine y_tupM ?_ | refine y_lstM ?_ | refine y_testM ?_ | refine y_truM ?_ | refine y_notM ?_ | refine y_andM ?_ | refine y_orM ?_ | refine y_andV ?_ | refine y_orV ?_ | refine y_notV ?_ | refine y_dropM ?_ | refine y_augM ?_ | refine y_methM ?_ | refine y_slM ?_ | refine y_part ?_ | refine y_negM ?_ | refine y_replM ?_ | refine y_callA ?_ | refine y_arVal ?_ | refine y_arNil ?_ | refine y_fsCons ?_ | refine z_st ?_ | refine z_asg ?_ | refine z_par ?_ | refine y_forM ?_ | refine y_chain ?_ | refine wp_callT ?_ | refine wp_itM ?_ | refine y_bnd ?_)
local macro_rules | `(tactic| walk_at "e") => `(tactic| focus ((try simp only [setSl, setSls, gN, gT, gs0, gs1, get0, getS, set0, setS, own?, borS, pinAll, pin_un, pin_sh, pin_ow, pin_pn, pin_opt, List.map_cons, List.map_nil, wipeS, restS, argSls, argSl, Option.map, Option.bind, frzS, if_true, ite_true, Option.isSome, zipB, bb_un, bb_sh, bb_ow, bb_pn, bb_os, bb_ps, bb_opt, unpin, un_un, un_sh, un_ow, un_pn, un_opt, back, back1, Sl.dat, outs, List.length_cons, List.length_nil, Nat.zero_add, Nat.reduceAdd, Int.reduceToNat]); first | done | exact rfl))
local macro_rules | `(tactic| walk_at "f") => `(tactic| focus (first | exact rfl | (simp only [List.all_cons, List.all_nil, fo_un, fo_sh, fo_opt, fo_pn, flats_strs, flats_ints, flats, flat, Bool.and_self]; done)))
local macro_rules | `(tactic| walk_at "o") => `(tactic| with_reducible first | refine o_isP ?_ | refine o_f1 ?_ | refine o_f2 ?_ | refine o_f3 ?_ | refine o_f4 ?_ | refine o_f5 ?_ | refine o_inI ?_ | refine o_ninI ?_ | refine o_inT ?_ | refine o_ninT ?_ | refine o_addN ?_ ?_ | refine o_addN0 ?_ ?_ | refine o_addNs ?_ ?_ | refine o_addSt ?_ ?_ | refine o_lenSt ?_ | refine o_listNs ?_ | refine o_itN ?_ | refine o_itNs ?_ | refine o_itSt ?_ | refine o_enNs ?_ | refine o_sum ?_ | refine o_any ?_ | refine o_min2 ?_ | refine o_max2 ?_ | refine o_min3 ?_ | refine o_add ?_ | refine o_sub ?_ | refine o_mod ?_ ?_ | refine o_mul ?_ ?_ | refine o_fdiv ?_ ?_ | refine o_pow ?_ ?_ | refine o_lt ?_ | refine o_le ?_ | refine o_gt ?_ | refine o_ge ?_ | refine o_eqi ?_ | refine o_nei ?_ | refine o_eqs ?_ | refine o_nes ?_ | refine o_len ?_ | refine o_lent ?_ | refine o_lenc ?_ | refine o_lens ?_ ?_ | refine o_abs ?_ | refine o_rng1 ?_ ?_ | refine o_rng2 ?_ ?_ | refine o_int ?_ | refine o_adds ?_ ?_ | refine o_addl ?_ ?_ | refine o_addt ?_ ?_)
local macro_rules | `(tactic| walk_at "y2") => `(tactic| first
  | ((with_reducible apply y_get); exact rfl)
  | ((with_reducible apply x_sfQ); (walk_at "e"); exact rfl; exact rfl; (walk_at "e"))
  | ((with_reducible apply x_mkF); (walk_at "e"); exact rfl)
  | ((with_reducible apply x_mkQ); (walk_at "e"))
  | ((with_reducible apply x_rt); exact rfl)
  | ((with_reducible apply y_setF); (walk_at "e"))
  | ((with_reducible apply y_setF); exact set_at rfl (by first | assumption | exact free_opt _) (by walk_at "e"))
  | ((with_reducible apply y_setF); exact setO_at rfl (by first | assumption | exact free_opt _) (by walk_at "e"))
  | ((with_reducible apply y_lend); exact rfl)
  | ((with_reducible apply z_bor); (walk_at "e"))
  | ((with_reducible apply z_borQ); exact rfl; (walk_at "f"); (walk_at "e"))
  | ((with_reducible apply z_callF); (walk_at "e"); exact rfl)
  | ((with_reducible apply z_backQ); (walk_at "e"))
  | ((with_reducible apply z_callF1); (walk_at "e"); exact rfl)
  | ((with_reducible apply z_back1Q); (walk_at "e"))
  | ((with_reducible apply z_prot); (walk_at "e"))
  | ((with_reducible apply z_unpQ); (walk_at "e"))
  | ((with_reducible apply z_rtK); (walk_at "e"))
  | ((with_reducible apply z_rtN); (walk_at "e"))
  | ((with_reducible apply z_app); (walk_at "e"))
  | ((with_reducible apply z_appQ); (walk_at "e"); (walk_at "e"))
  | ((with_reducible apply z_stK); (walk_at "e"))
  | ((with_reducible apply z_stQ); (walk_at "e"); exact rfl; (walk_at "e"); (walk_at "e"))
  | ((with_reducible apply z_tgQ); (walk_at "e"))
  | ((with_reducible apply z_parQ); (walk_at "e"))
  | ((with_reducible apply y_frzM); (walk_at "e"))
  | ((with_reducible apply y_mv); exact rfl)
  | (walk_at "o")
  | ((with_reducible apply y_lft); exact rfl)
  | ((with_reducible apply y_t))
  | ((with_reducible apply y_f))
  | ((with_reducible apply y_nt))
  | ((with_reducible apply y_nf))
  | ((with_reducible apply y_len); (exact big_le (Nat.le_of_ble_eq_true rfl)))
  | (with_reducible refine ⟨_, rfl, ?_⟩)
  | (with_reducible refine ⟨_, _, rfl, ?_⟩)
  | fail "y")
local macro_rules | `(tactic| walk_at "y") => `(tactic| first | walk_at "y1" | walk_at "y2" | fail "y")
local macro_rules | `(tactic| walk_at "z2") => `(tactic| first
  | ((with_reducible apply y_get); exact rfl)
  | ((with_reducible apply x_sfQ); (walk_at "e"); exact rfl; exact rfl; (walk_at "e"))
  | ((with_reducible apply x_mkQ); (walk_at "e"))
  | ((with_reducible apply x_rt); exact rfl)
  | ((with_reducible apply y_setF); (walk_at "e"))
  | ((with_reducible apply y_setF); exact set_at rfl (by first | assumption | exact free_opt _) (by walk_at "e"))
  | ((with_reducible apply y_setF); exact setO_at rfl (by first | assumption | exact free_opt _) (by walk_at "e"))
  | ((with_reducible apply y_lend); exact rfl)
  | ((with_reducible apply z_bor); (walk_at "e"))
  | ((with_reducible apply z_borQ); exact rfl; (walk_at "f"); (walk_at "e"))
  | ((with_reducible apply z_backQ); (walk_at "e"))
  | ((with_reducible apply z_back1Q); (walk_at "e"))
  | ((with_reducible apply z_prot); (walk_at "e"))
  | ((with_reducible apply z_unpQ); (walk_at "e"))
  | ((with_reducible apply z_rtK); (walk_at "e"))
  | ((with_reducible apply z_rtN); (walk_at "e"))
  | ((with_reducible apply z_app); (walk_at "e"))
  | ((with_reducible apply z_appQ); (walk_at "e"); (walk_at "e"))
  | ((with_reducible apply z_stK); (walk_at "e"))
  | ((with_reducible apply z_stQ); (walk_at "e"); exact rfl; (walk_at "e"); (walk_at "e"))
  | ((with_reducible apply z_tgQ); (walk_at "e"))
  | ((with_reducible apply z_parQ); (walk_at "e"))
  | ((with_reducible apply y_frzM); (walk_at "e"))
  | ((with_reducible apply y_mv); exact rfl)
  | (walk_at "o")
  | ((with_reducible apply y_lft); exact rfl)
  | ((with_reducible apply y_t))
  | ((with_reducible apply y_f))
  | ((with_reducible apply y_nt))
  | ((with_reducible apply y_nf))
  | ((with_reducible apply y_len); (exact big_le (Nat.le_of_ble_eq_true rfl)))
  | (with_reducible refine ⟨_, rfl, ?_⟩)
  | (with_reducible refine ⟨_, _, rfl, ?_⟩)
  | fail "y")
local macro_rules | `(tactic| walk_at "z") => `(tactic| first | walk_at "y1" | (with_reducible refine x_pat ?_) | walk_at "z2" | fail "z")
local macro_rules | `(tactic| walk_at "s") => `(tactic| first | (rw [hline]; omega) | (simp only [at_len, mv_len, List.length_map, List.length_append, hline]; omega) | fail "s")
local macro_rules | `(tactic| walk_at "zs") => `(tactic| first | walk_at "z" | walk_at "s" | fail "zs")
local macro_rules | `(tactic| walk_at "d") => `(tactic| first | (with_reducible refine y_tb (by decide +kernel) ?_) | (with_reducible refine y_fb (by decide +kernel) ?_) | fail "d")
local macro_rules | `(tactic| walk_at "zd") => `(tactic| first | walk_at "z" | walk_at "d" | fail "zd")
theorem made_sm {m : Made} (h : m.size ≤ 100) : Sm m.aut := ⟨m.wf, by rw [m.steps_len]; omega⟩
theorem pat_thn {F : DF} {a b : Made} (iha : Is F [a.enc] (.ow (pat a.aut))) (ihb : Is F [b.enc] (.ow (pat b.aut))) (ha : Sm a.aut) (hb : Sm b.aut) (h4 : a.aut.steps.length + b.aut.steps.length ≤ 100000) : Is (G_law_pattern F) [Made.enc (.bin .thn a b)] (.ow (pat (Made.bin .thn a b).aut)) := by
  refine is_run (ρ := [.sh (.tup [.str "then", a.enc, b.enc]), .un, .un, .un]) rfl rfl ?_
  unfold T_law_pattern
  repeat' (walk_at "zd")
  refine x_call iha rfl ?_
  repeat' (walk_at "zd")
  refine x_call ihb rfl ?_
  repeat' (walk_at "zd")
  refine x_call (is_add ha hb) rfl ?_
  repeat' (walk_at "zd")
theorem pat_or {F : DF} {a b : Made} (iha : Is F [a.enc] (.ow (pat a.aut))) (ihb : Is F [b.enc] (.ow (pat b.aut))) (ha : Sm a.aut) (hb : Sm b.aut) (h4 : a.aut.steps.length + b.aut.steps.length ≤ 100000) : Is (G_law_pattern F) [Made.enc (.bin .or a b)] (.ow (pat (Made.bin .or a b).aut)) := by
  refine is_run (ρ := [.sh (.tup [.str "or", a.enc, b.enc]), .un, .un, .un]) rfl rfl ?_
  unfold T_law_pattern
  repeat' (walk_at "zd")
  refine x_call iha rfl ?_
  repeat' (walk_at "zd")
  refine x_call ihb rfl ?_
  repeat' (walk_at "zd")
  refine x_call (is_or ha hb) rfl ?_
  repeat' (walk_at "zd")
theorem pat_sep {F : DF} {a b : Made} (iha : Is F [a.enc] (.ow (pat a.aut))) (ihb : Is F [b.enc] (.ow (pat b.aut))) (ha : Sm a.aut) (hb : Sm b.aut) (h4 : a.aut.steps.length + b.aut.steps.length ≤ 100000) : Is (G_law_pattern F) [Made.enc (.bin .sep a b)] (.ow (pat (Made.bin .sep a b).aut)) := by
  refine is_run (ρ := [.sh (.tup [.str "sep", a.enc, b.enc]), .un, .un, .un]) rfl rfl ?_
  unfold T_law_pattern
  repeat' (walk_at "zd")
  refine x_call iha rfl ?_
  repeat' (walk_at "zd")
  refine x_call ihb rfl ?_
  repeat' (walk_at "zd")
  refine x_call (is_floordiv ha hb) rfl ?_
  repeat' (walk_at "zd")
theorem pat_free {F : DF} {a b : Made} (iha : Is F [a.enc] (.ow (pat a.aut))) (ihb : Is F [b.enc] (.ow (pat b.aut))) (ha : Sm a.aut) (hb : Sm b.aut) (h4 : a.aut.steps.length + b.aut.steps.length ≤ 100000) : Is (G_law_pattern F) [Made.enc (.bin .free a b)] (.ow (pat (Made.bin .free a b).aut)) := by
  refine is_run (ρ := [.sh (.tup [.str "free", a.enc, b.enc]), .un, .un, .un]) rfl rfl ?_
  unfold T_law_pattern
  repeat' (walk_at "zd")
  refine x_call iha rfl ?_
  repeat' (walk_at "zd")
  refine x_call ihb rfl ?_
  repeat' (walk_at "zd")
  refine x_call (is_lshift ha hb) rfl ?_
  repeat' (walk_at "zd")
theorem pat_must {F : DF} {a b : Made} (iha : Is F [a.enc] (.ow (pat a.aut))) (ihb : Is F [b.enc] (.ow (pat b.aut))) (ha : Sm a.aut) (hb : Sm b.aut) (h4 : a.aut.steps.length + b.aut.steps.length ≤ 100000) : Is (G_law_pattern F) [Made.enc (.bin .must a b)] (.ow (pat (Made.bin .must a b).aut)) := by
  refine is_run (ρ := [.sh (.tup [.str "must", a.enc, b.enc]), .un, .un, .un]) rfl rfl ?_
  unfold T_law_pattern
  repeat' (walk_at "zd")
  refine x_call iha rfl ?_
  repeat' (walk_at "zd")
  refine x_call ihb rfl ?_
  repeat' (walk_at "zd")
  refine x_call (is_rshift ha hb h4) rfl ?_
  repeat' (walk_at "zd")
theorem is_pattern : ∀ (m : Made) (k : Nat), m.depth ≤ k → m.Fine → Is (fuel G_law_pattern k) [m.enc] (.ow (pat m.aut))
  | .one s r, k + 1, hk, hf => by
    show Is (G_law_pattern (fuel G_law_pattern k)) _ _
    refine is_run (ρ := [.sh (Made.enc (.one s r)), .un, .un, .un]) rfl rfl ?_
    unfold T_law_pattern Made.enc
    repeat' (walk_at "zd")
    refine x_call is_one rfl ?_
    repeat' (walk_at "zd")
  | .none, k + 1, hk, hf => by
    show Is (G_law_pattern (fuel G_law_pattern k)) _ _
    refine is_run (ρ := [.sh (Made.enc .none), .un, .un, .un]) rfl rfl ?_
    unfold T_law_pattern Made.enc
    repeat' (walk_at "zd")
    refine x_call is_nothing rfl ?_
    repeat' (walk_at "zd")
  | .times m n, k + 1, hk, hf => by
    have ih := is_pattern m k (by simp only [Made.depth] at hk; omega) hf.1
    have h2 := hf.2.1
    have h3 := hf.2.2
    have h4 : n * m.aut.steps.length ≤ 90000 := by
      rw [m.steps_len]
      exact Nat.le_trans (Nat.mul_le_mul h2 h3) (by decide)
    show Is (G_law_pattern (fuel G_law_pattern k)) _ _
    refine is_run (ρ := [.sh (Made.enc (.times m n)), .un, .un, .un]) rfl rfl ?_
    unfold T_law_pattern Made.enc
    repeat' (walk_at "zd")
    refine x_call ih rfl ?_
    repeat' (walk_at "zd")
    refine x_call (is_mul (made_sm h3) h2 h4) rfl ?_
    repeat' (walk_at "zd")
  | .un q m, k + 1, hk, hf => by
    have ih := is_pattern m k (by simp only [Made.depth] at hk; omega) hf.1
    have h3 := made_sm hf.2
    show Is (G_law_pattern (fuel G_law_pattern k)) _ _
    refine is_run (ρ := [.sh (Made.enc (.un q m)), .un, .un, .un]) rfl rfl ?_
    unfold T_law_pattern Made.enc
    cases q
    all_goals unfold Un.w
    all_goals simp only
    all_goals repeat' (walk_at "zd")
    all_goals refine x_call ih rfl ?_
    all_goals repeat' (walk_at "zd")
    · refine x_call (is_neg (A := m.aut)) rfl ?_
      repeat' (walk_at "zd")
    · refine x_call (is_pos h3) rfl ?_
      repeat' (walk_at "zd")
    · refine x_call (is_inv h3) rfl ?_
      repeat' (walk_at "zd")
  | .bin q a b, k + 1, hk, hf => by
    have iha := is_pattern a k (by simp only [Made.depth] at hk; omega) hf.1
    have ihb := is_pattern b k (by simp only [Made.depth] at hk; omega) hf.2.1
    have hl := hf.2.2
    have ha : Sm a.aut := made_sm (by omega)
    have hb : Sm b.aut := made_sm (by omega)
    have h4 : a.aut.steps.length + b.aut.steps.length ≤ 100000 := by rw [a.steps_len, b.steps_len]; omega
    show Is (G_law_pattern (fuel G_law_pattern k)) _ _
    cases q
    · exact pat_thn iha ihb ha hb h4
    · exact pat_or iha ihb ha hb h4
    · exact pat_sep iha ihb ha hb h4
    · exact pat_free iha ihb ha hb h4
    · exact pat_must iha ihb ha hb h4
end FD.Law

set_option Elab.async false
set_option linter.all false
set_option maxRecDepth 100000
namespace FD.Law
open PySem L2 FD
local macro_rules | `(tactic| walk_at "y1") => `(tactic| with_reducible first | refine y_seq ?_ | refine x_fld ?_ | refine x_oop ?_ | refine x_oun ?_ | refine x_len ?_ | refine x_meth ?_ | refine x_mkM ?_ | refine x_callAD ?_ | refine x_sf ?_ | refine x_addB ?_ | refine x_itB ?_ | refine y_setM ?_ | refine y_shD ?_ | refine z_fz ?_ | refine z_datS ?_ | refine z_datO ?_ | refine y_opS ?_ | refine y_callM ?_ | refine y_consM ?_ | refine y_ret ?_ | refine y_nx ?_ | refine y_rt ?_ | refine y_bk ?_ | refine y_ct ?_ | refine z_forN ?_ | refine z_forC ?_ | refine z_forB ?_ | refine z_forR ?_ | refine y_retM ?_ | refine y_ifM ?_ | refine y_tupM ?_ | refine y_lstM ?_ | refine y_testM ?_ | refine y_truM ?_ | refine y_notM ?_ | refine y_andM ?_ | refine y_orM ?_ | refine y_andV ?_ | refine y_orV ?_ | refine y_notV ?_ | refine y_dropM ?_ | refine y_augM ?_ | refine y_methM ?_ | refine y_slM ?_ | refine y_part ?_ | refine y_negM ?_ | refine y_replM ?_ | refine y_callA ?_ | refine y_arVal ?_ | refine y_arNil ?_ | refine y_fsCons ?_ | refine z_st ?_ | refine z_asg ?_ | refine z_par ?_ | refine y_forM ?_ | refine y_chain ?_ | refine wp_callT ?_ | refine wp_itM ?_ | refine y_bnd ?_)
local macro_rules | `(tactic| walk_at "e") => `(tactic| focus ((try simp only [setSl, setSls, gN, gT, gs0, gs1, get0, getS, set0, setS, own?, borS, pinAll, pin_un, pin_sh, pin_ow, pin_pn, pin_opt, List.map_cons, List.map_nil, wipeS, restS, argSls, argSl, Option.map, Option.bind, frzS, if_true, ite_true, Option.isSome, zipB, bb_un, bb_sh, bb_ow, bb_pn, bb_os, bb_ps, bb_opt, unpin, un_un, un_sh, un_ow, un_pn, un_opt, back, back1, Sl.dat, outs, List.length_cons, List.length_nil, Nat.zero_add, Nat.reduceAdd, Int.reduceToNat]); first | done | exact rfl))
local macro_rules | `(tactic| walk_at "f") => `(tactic| focus (first | exact rfl | (simp only [List.all_cons, List.all_nil, fo_un, fo_sh, fo_opt, fo_pn, flats_strs, flats_ints, flats, flat, Bool.and_self]; done)))
local macro_rules | `(tactic| walk_at "o") => `(tactic| with_reducible first | refine o_isP ?_ | refine o_f1 ?_ | refine o_f2 ?_ | refine o_f3 ?_ | refine o_f4 ?_ | refine o_f5 ?_ | refine o_inI ?_ | refine o_ninI ?_ | refine o_inT ?_ | refine o_ninT ?_ | refine o_addN ?_ ?_ | refine o_addN0 ?_ ?_ | refine o_addNs ?_ ?_ | refine o_addSt ?_ ?_ | refine o_lenSt ?_ | refine o_listNs ?_ | refine o_itN ?_ | refine o_itNs ?_ | refine o_itSt ?_ | refine o_enNs ?_ | refine o_sum ?_ | refine o_any ?_ | refine o_min2 ?_ | refine o_max2 ?_ | refine o_min3 ?_ | refine o_add ?_ | refine o_sub ?_ | refine o_mod ?_ ?_ | refine o_mul ?_ ?_ | refine o_fdiv ?_ ?_ | refine o_pow ?_ ?_ | refine o_lt ?_ | refine o_le ?_ | refine o_gt ?_ | refine o_ge ?_ | refine o_eqi ?_ | refine o_nei ?_ | refine o_eqs ?_ | refine o_nes ?_ | refine o_len ?_ | refine o_lent ?_ | refine o_lenc ?_ | refine o_lens ?_ ?_ | refine o_abs ?_ | refine o_rng1 ?_ ?_ | refine o_rng2 ?_ ?_ | refine o_int ?_ | refine o_adds ?_ ?_ | refine o_addl ?_ ?_ | refine o_addt ?_ ?_)
local macro_rules | `(tactic| walk_at "y2") => `(tactic| first
  | ((with_reducible apply y_get); exact rfl)
  | ((with_reducible apply x_sfQ); (walk_at "e"); exact rfl; exact rfl; (walk_at "e"))
  | ((with_reducible apply x_mkF); (walk_at "e"); exact rfl)
  | ((with_reducible apply x_mkQ); (walk_at "e"))
  | ((with_reducible apply x_rt); exact rfl)
  | ((with_reducible apply y_setF); (walk_at "e"))
  | ((with_reducible apply y_setF); exact set_at rfl (by first | assumption | exact free_opt _) (by walk_at "e"))
  | ((with_reducible apply y_setF); exact setO_at rfl (by first | assumption | exact free_opt _) (by walk_at "e"))
  | ((with_reducible apply y_lend); exact rfl)
  | ((with_reducible apply z_bor); (walk_at "e"))
  | ((with_reducible apply z_borQ); exact rfl; (walk_at "f"); (walk_at "e"))
  | ((with_reducible apply z_callF); (walk_at "e"); exact rfl)
  | ((with_reducible apply z_backQ); (walk_at "e"))
  | ((with_reducible apply z_callF1); (walk_at "e"); exact rfl)
  | ((with_reducible apply z_back1Q); (walk_at "e"))
  | ((with_reducible apply z_prot); (walk_at "e"))
  | ((with_reducible apply z_unpQ); (walk_at "e"))
  | ((with_reducible apply z_rtK); (walk_at "e"))
  | ((with_reducible apply z_rtN); (walk_at "e"))
  | ((with_reducible apply z_app); (walk_at "e"))
  | ((with_reducible apply z_appQ); (walk_at "e"); (walk_at "e"))
  | ((with_reducible apply z_stK); (walk_at "e"))
  | ((with_reducible apply z_stQ); (walk_at "e"); exact rfl; (walk_at "e"); (walk_at "e"))
  | ((with_reducible apply z_tgQ); (walk_at "e"))
  | ((with_reducible apply z_parQ); (walk_at "e"))
  | ((with_reducible apply y_frzM); (walk_at "e"))
  | ((with_reducible apply y_mv); exact rfl)
  | (walk_at "o")
  | ((with_reducible apply y_lft); exact rfl)
  | ((with_reducible apply y_t))
  | ((with_reducible apply y_f))
  | ((with_reducible apply y_nt))
  | ((with_reducible apply y_nf))
  | ((with_reducible apply y_len); (exact big_le (Nat.le_of_ble_eq_true rfl)))
  | (with_reducible refine ⟨_, rfl, ?_⟩)
  | (with_reducible refine ⟨_, _, rfl, ?_⟩)
  | fail "y")
local macro_rules | `(tactic| walk_at "y") => `(tactic| first | walk_at "y1" | walk_at "y2" | fail "y")
local macro_rules | `(tactic| walk_at "z2") => `(tactic| first
  | ((with_reducible apply y_get); exact rfl)
  | ((with_reducible apply x_sfQ); (walk_at "e"); exact rfl; exact rfl; (walk_at "e"))
  | ((with_reducible apply x_mkQ); (walk_at "e"))
  | ((with_reducible apply x_rt); exact rfl)
  | ((with_reducible apply y_setF); (walk_at "e"))
  | ((with_reducible apply y_setF); exact set_at rfl (by first | assumption | exact free_opt _) (by walk_at "e"))
  | ((with_reducible apply y_setF); exact setO_at rfl (by first | assumption | exact free_opt _) (by walk_at "e"))
  | ((with_reducible apply y_lend); exact rfl)
  | ((with_reducible apply z_bor); (walk_at "e"))
  | ((with_reducible apply z_borQ); exact rfl; (walk_at "f"); (walk_at "e"))
  | ((with_reducible apply z_backQ); (walk_at "e"))
  | ((with_reducible apply z_back1Q); (walk_at "e"))
  | ((with_reducible apply z_prot); (walk_at "e"))
  | ((with_reducible apply z_unpQ); (walk_at "e"))
  | ((with_reducible apply z_rtK); (walk_at "e"))
  | ((with_reducible apply z_rtN); (walk_at "e"))
  | ((with_reducible apply z_app); (walk_at "e"))
  | ((with_reducible apply z_appQ); (walk_at "e"); (walk_at "e"))
  | ((with_reducible apply z_stK); (walk_at "e"))
  | ((with_reducible apply z_stQ); (walk_at "e"); exact rfl; (walk_at "e"); (walk_at "e"))
  | ((with_reducible apply z_tgQ); (walk_at "e"))
  | ((with_reducible apply z_parQ); (walk_at "e"))
  | ((with_reducible apply y_frzM); (walk_at "e"))
  | ((with_reducible apply y_mv); exact rfl)
  | (walk_at "o")
  | ((with_reducible apply y_lft); exact rfl)
  | ((with_reducible apply y_t))
  | ((with_reducible apply y_f))
  | ((with_reducible apply y_nt))
  | ((with_reducible apply y_nf))
  | ((with_reducible apply y_len); (exact big_le (Nat.le_of_ble_eq_true rfl)))
  | (with_reducible refine ⟨_, rfl, ?_⟩)
  | (with_reducible refine ⟨_, _, rfl, ?_⟩)
  | fail "y")
local macro_rules | `(tactic| walk_at "z") => `(tactic| first | walk_at "y1" | (with_reducible refine x_pat ?_) | walk_at "z2" | fail "z")
local macro_rules | `(tactic| walk_at "s") => `(tactic| first | (rw [hline]; omega) | (simp only [at_len, mv_len, List.length_map, List.length_append, hline]; omega) | fail "s")
local macro_rules | `(tactic| walk_at "zs") => `(tactic| first | walk_at "z" | walk_at "s" | fail "zs")
local macro_rules | `(tactic| walk_at "d") => `(tactic| first | (with_reducible refine y_tb (by decide +kernel) ?_) | (with_reducible refine y_fb (by decide +kernel) ?_) | fail "d")
local macro_rules | `(tactic| walk_at "zd") => `(tactic| first | walk_at "z" | walk_at "d" | fail "zd")
theorem filt_eq {α : Type} {a b : List Str} : (b.filterMap fun i => if a.contains i then none else some (D.str i)) = (b.filter fun p => !a.contains p).map .str := by
  induction b with
  | nil => rfl
  | cons i b ih =>
    cases h : a.contains i
    · rw [List.filterMap_cons_some (b := .str i) (by simp only [h]; rfl), ih, List.filter_cons_of_pos (by rw [h]; rfl), List.map_cons]
    · rw [List.filterMap_cons_none (by simp only [h]; rfl), ih, List.filter_cons_of_neg (by rw [h]; decide)]
theorem syms_len : ∀ m : Made, m.Fine → m.syms.length ≤ 2 ^ m.depth
  | .one s r, _ => by show 1 ≤ 2 ^ 1; decide
  | .none, _ => by simp [Made.syms]
  | .times m n, h => by
    have := syms_len m h.1
    simp only [Made.syms, Made.depth, Nat.pow_succ]
    split
    · simp
    · omega
  | .un k m, h => by
    have := syms_len m h.1
    simp only [Made.syms, Made.depth, Nat.pow_succ]
    omega
  | .bin k a b, h => by
    have h1 := syms_len a h.1
    have h2 := syms_len b h.2.1
    have h3 : 2 ^ a.depth ≤ 2 ^ max a.depth b.depth := Nat.pow_le_pow_right (by decide) (by omega)
    have h4 : 2 ^ b.depth ≤ 2 ^ max a.depth b.depth := Nat.pow_le_pow_right (by decide) (by omega)
    simp only [Made.syms, Made.depth, Nat.pow_succ, Made.mgS, List.length_append]
    have := List.length_filter_le (fun p => !(Made.syms a).contains p) (Made.syms b)
    omega
theorem sym_turn {k : Nat} {x : Made} {e : D} {o : Option D} {found : List Str} {o3 : Option D} {Q : Fl → List Sl → Prop} (ih : IsD (fuel G_law_symbols k) [x.enc] (.lst (x.syms.map .str))) (hl : found.length + x.syms.length ≤ sizeLine)
    (h : Q .nx [.sh e, .sh (.lst ((Made.mgS found x.syms).map .str)), .sh x.enc, opt o3]) : Wp (setM 1 (shD (fz (opS addS (get 1) (fz (lcM [3] (bnd (fz (callA (fuel G_law_symbols k) (arVal (get 2) arNil))) fun d => lft (itemsA d)) (gN 3) (testM (opS ninS (get 3) (get 1))) (get 3))))))) [.sh e, .sh (.lst (found.map .str)), .sh x.enc, opt o3] Q := by
  iterate 6 (walk_at "z")
  refine x_lc (α := Str) .str (fun i => if found.contains i then none else some (.str i)) x.syms ?_
  repeat' (walk_at "z")
  refine x_callD ih rfl ?_
  repeat' (walk_at "z")
  refine ⟨rfl, by omega, by cases o3 <;> rfl, by cases o3 <;> rfl, fun i hi => ?_, ?_⟩
  · simp only [wipeS, set0, setS]
    repeat' (walk_at "z")
    cases found.contains i
    · repeat' (walk_at "z")
      exact ⟨rfl, rfl, rfl⟩
    · repeat' (walk_at "z")
      exact ⟨rfl, rfl, rfl⟩
  · rw [filt_eq (α := Nat)]
    have := List.length_filter_le (fun p => !found.contains p) x.syms
    refine z_datO (o_addl (by rw [List.length_map, List.length_map]; omega) ?_)
    rw [← List.map_append]
    repeat' (walk_at "z")
    exact h
theorem is_symbols : ∀ (m : Made) (k : Nat), m.depth ≤ k → m.Fine → m.depth ≤ 20 → IsD (fuel G_law_symbols k) [m.enc] (.lst (m.syms.map .str))
  | .one s r, k + 1, hk, hf, hd => by
    right
    show Is (G_law_symbols (fuel G_law_symbols k)) _ _
    refine is_run (ρ := [.sh (Made.enc (.one s r)), .un, .un, .un]) rfl rfl ?_
    unfold T_law_symbols Made.enc
    repeat' (walk_at "zd")
  | .none, k + 1, hk, hf, hd => by
    right
    show Is (G_law_symbols (fuel G_law_symbols k)) _ _
    refine is_run (ρ := [.sh (Made.enc .none), .un, .un, .un]) rfl rfl ?_
    unfold T_law_symbols Made.enc
    repeat' (walk_at "zd")
  | .times m n, k + 1, hk, hf, hd => by
    have hd2 : m.depth ≤ 19 := by simp only [Made.depth] at hd; omega
    have ih := is_symbols m k (by simp only [Made.depth] at hk; omega) hf.1 (by omega)
    have hl : m.syms.length ≤ 2 ^ 19 := Nat.le_trans (syms_len m hf.1) (Nat.pow_le_pow_right (by decide) hd2)
    by_cases hn : n = 0
    · right
      subst hn
      show Is (G_law_symbols (fuel G_law_symbols k)) _ _
      refine is_run (ρ := [.sh (Made.enc (.times m 0)), .un, .un, .un]) rfl rfl ?_
      unfold T_law_symbols Made.enc
      repeat' (walk_at "zd")
    · left
      show Is (G_law_symbols (fuel G_law_symbols k)) _ _
      refine is_run (ρ := [.sh (Made.enc (.times m n)), .un, .un, .un]) rfl rfl ?_
      unfold T_law_symbols
      have e : Made.enc (.times m n) = .tup [.str "times", m.enc, .int n] := rfl
      rw [e]
      repeat' (walk_at "zd")
      refine y_fb (by rw [decide_eq_false_iff_not]; omega) ?_
      repeat' (walk_at "zd")
      refine z_for (fun k ρ => ρ = [.sh (.tup [.str "times", m.enc, .int n]), .sh (.lst ((if k = 0 then [] else m.syms).map .str)), opt (if k = 0 then none else some m.enc), .un]) rfl (fun j d ρ ek hi => ?_) (fun ρ hi => ?_)
      · subst hi
        have ek : [m.enc][j]? = some d := ek
        obtain ⟨rfl, rfl⟩ : j = 0 ∧ d = m.enc := by
          cases j with
          | zero => cases ek; exact ⟨rfl, rfl⟩
          | succ j => cases ek
        refine ⟨_, gN_at (x := .un) rfl rfl (by walk_at "e"), ?_⟩
        refine sym_turn (o := none) (found := []) (o3 := none) (x := m) ih (by rw [hline]; simp; omega) ?_
        repeat' (walk_at "z")
        rw [Made.mgS_nil]
        rfl
      · subst hi
        have e : ([m.enc] : List D).length = 1 := rfl
        show flK _ _ _ [_, .sh (.lst (List.map D.str m.syms)), _, _]
        repeat' (walk_at "zd")
        exact x_rt (by simp only [Made.syms, if_neg hn])
  | .un q m, k + 1, hk, hf, hd => by
    have hd2 : m.depth ≤ 19 := by simp only [Made.depth] at hd; omega
    have ih := is_symbols m k (by simp only [Made.depth] at hk; omega) hf.1 (by omega)
    have hl : m.syms.length ≤ 2 ^ 19 := Nat.le_trans (syms_len m hf.1) (Nat.pow_le_pow_right (by decide) hd2)
    left
    show Is (G_law_symbols (fuel G_law_symbols k)) _ _
    refine is_run (ρ := [.sh (Made.enc (.un q m)), .un, .un, .un]) rfl rfl ?_
    unfold T_law_symbols
    have e : Made.enc (.un q m) = .tup [.str q.w, m.enc] := rfl
    rw [e]
    have hw : q.w ≠ "one" ∧ q.w ≠ "none" ∧ q.w ≠ "times" := by cases q <;> decide +kernel
    generalize q.w = w at hw
    repeat' (walk_at "z")
    refine y_fb (by rw [decide_eq_false_iff_not]; exact hw.1) ?_
    repeat' (walk_at "z")
    refine y_fb (by rw [decide_eq_false_iff_not]; exact hw.2.1) ?_
    repeat' (walk_at "z")
    refine y_fb (by rw [decide_eq_false_iff_not]; exact hw.2.2) ?_
    repeat' (walk_at "z")
    refine y_fb (by rw [decide_eq_false_iff_not]; exact hw.2.2) ?_
    repeat' (walk_at "z")
    refine z_for (fun k ρ => ρ = [.sh (.tup [.str w, m.enc]), .sh (.lst ((if k = 0 then [] else m.syms).map .str)), opt (if k = 0 then none else some m.enc), .un]) rfl (fun j d ρ ek hi => ?_) (fun ρ hi => ?_)
    · subst hi
      have ek : [m.enc][j]? = some d := ek
      obtain ⟨rfl, rfl⟩ : j = 0 ∧ d = m.enc := by
        cases j with
        | zero => cases ek; exact ⟨rfl, rfl⟩
        | succ j => cases ek
      refine ⟨_, gN_at (x := .un) rfl rfl (by walk_at "e"), ?_⟩
      refine sym_turn (o := none) (found := []) (o3 := none) (x := m) ih (by rw [hline]; simp; omega) ?_
      repeat' (walk_at "z")
      rw [Made.mgS_nil]
      rfl
    · subst hi
      have e : ([m.enc] : List D).length = 1 := rfl
      show flK _ _ _ [_, .sh (.lst (List.map D.str m.syms)), _, _]
      repeat' (walk_at "zd")
  | .bin q a b, k + 1, hk, hf, hd => by
    have hd2 : a.depth ≤ 19 := by simp only [Made.depth] at hd; omega
    have hd3 : b.depth ≤ 19 := by simp only [Made.depth] at hd; omega
    have iha := is_symbols a k (by simp only [Made.depth] at hk; omega) hf.1 (by omega)
    have ihb := is_symbols b k (by simp only [Made.depth] at hk; omega) hf.2.1 (by omega)
    have hl : a.syms.length ≤ 2 ^ 19 := Nat.le_trans (syms_len a hf.1) (Nat.pow_le_pow_right (by decide) hd2)
    have hl2 : b.syms.length ≤ 2 ^ 19 := Nat.le_trans (syms_len b hf.2.1) (Nat.pow_le_pow_right (by decide) hd3)
    left
    show Is (G_law_symbols (fuel G_law_symbols k)) _ _
    refine is_run (ρ := [.sh (Made.enc (.bin q a b)), .un, .un, .un]) rfl rfl ?_
    unfold T_law_symbols
    have e : Made.enc (.bin q a b) = .tup [.str q.w, a.enc, b.enc] := rfl
    rw [e]
    have hw : q.w ≠ "one" ∧ q.w ≠ "none" ∧ q.w ≠ "times" := by cases q <;> decide +kernel
    generalize q.w = w at hw
    repeat' (walk_at "z")
    refine y_fb (by rw [decide_eq_false_iff_not]; exact hw.1) ?_
    repeat' (walk_at "z")
    refine y_fb (by rw [decide_eq_false_iff_not]; exact hw.2.1) ?_
    repeat' (walk_at "z")
    refine y_fb (by rw [decide_eq_false_iff_not]; exact hw.2.2) ?_
    repeat' (walk_at "z")
    refine y_fb (by rw [decide_eq_false_iff_not]; exact hw.2.2) ?_
    repeat' (walk_at "z")
    refine z_for (fun k ρ => ρ = [.sh (.tup [.str w, a.enc, b.enc]), .sh (.lst ((if k = 0 then [] else if k = 1 then a.syms else Made.mgS a.syms b.syms).map .str)), opt (if k = 0 then none else if k = 1 then some a.enc else some b.enc), .un]) rfl (fun j d ρ ek hi => ?_) (fun ρ hi => ?_)
    · subst hi
      have ek : [a.enc, b.enc][j]? = some d := ek
      cases j with
      | zero =>
        cases ek
        refine ⟨_, gN_at (x := .un) rfl rfl (by walk_at "e"), ?_⟩
        refine sym_turn (o := none) (found := []) (o3 := none) (x := a) iha (by rw [hline]; simp; omega) ?_
        repeat' (walk_at "z")
        rw [Made.mgS_nil]
        rfl
      | succ j =>
        cases j with
        | zero =>
          cases ek
          refine ⟨_, gN_at (x := .sh a.enc) rfl rfl (by walk_at "e"), ?_⟩
          refine sym_turn (o := none) (found := a.syms) (o3 := none) (x := b) ihb (by rw [hline]; omega) ?_
          repeat' (walk_at "z")
          rfl
        | succ j => cases ek
    · subst hi
      show flK _ _ _ [_, .sh (.lst (List.map D.str (Made.mgS a.syms b.syms))), _, _]
      repeat' (walk_at "zd")
end FD.Law

set_option Elab.async false
set_option linter.all false
set_option maxRecDepth 100000
namespace FD.Law
open PySem L2 FD
local macro_rules | `(tactic| walk_at "y1") => `(tactic| with_reducible first | refine y_seq ?_ | refine x_fld ?_ | refine x_oop ?_ | refine x_oun ?_ | refine x_len ?_ | refine x_meth ?_ | refine x_mkM ?_ | refine x_callAD ?_ | refine x_sf ?_ | refine x_addB ?_ | refine x_itB ?_ | refine y_setM ?_ | refine y_shD ?_ | refine z_fz ?_ | refine z_datS ?_ | refine z_datO ?_ | refine y_opS ?_ | refine y_callM ?_ | refine y_consM ?_ | refine y_ret ?_ | refine y_nx ?_ | refine y_rt ?_ | refine y_bk ?_ | refine y_ct ?_ | refine z_forN ?_ | refine z_forC ?_ | refine z_forB ?_ | refine z_forR ?_ | refine y_retM ?_ | refine y_ifM ?_ | refine y_tupM ?_ | refine y_lstM ?_ | refine y_testM ?_ | refine y_truM ?_ | refine y_notM ?_ | refine y_andM ?_ | refine y_orM ?_ | refine y_andV ?_ | refine y_orV ?_ | refine y_notV ?_ | refine y_dropM ?_ | refine y_augM ?_ | refine y_methM ?_ | refine y_slM ?_ | refine y_part ?_ | refine y_negM ?_ | refine y_replM ?_ | refine y_callA ?_ | refine y_arVal ?_ | refine y_arNil ?_ | refine y_fsCons ?_ | refine z_st ?_ | refine z_asg ?_ | refine z_par ?_ | refine y_forM ?_ | refine y_chain ?_ | refine wp_callT ?_ | refine wp_itM ?_ | refine y_bnd ?_)
local macro_rules | `(tactic| walk_at "e") => `(tactic| focus ((try simp only [setSl, setSls, gN, gT, gs0, gs1, get0, getS, set0, setS, own?, borS, pinAll, pin_un, pin_sh, pin_ow, pin_pn, pin_opt, List.map_cons, List.map_nil, wipeS, restS, argSls, argSl, Option.map, Option.bind, frzS, if_true, ite_true, Option.isSome, zipB, bb_un, bb_sh, bb_ow, bb_pn, bb_os, bb_ps, bb_opt, unpin, un_un, un_sh, un_ow, un_pn, un_opt, back, back1, Sl.dat, outs, List.length_cons, List.length_nil, Nat.zero_add, Nat.reduceAdd, Int.reduceToNat]); first | done | exact rfl))
local macro_rules | `(tactic| walk_at "f") => `(tactic| focus (first | exact rfl | (simp only [List.all_cons, List.all_nil, fo_un, fo_sh, fo_opt, fo_pn, Made.flats_enc, Made.flat_enc, flats_strs, flats_ints, flats, flat, Bool.and_self]; done)))
local macro_rules | `(tactic| walk_at "o") => `(tactic| with_reducible first | refine o_isP ?_ | refine o_f1 ?_ | refine o_f2 ?_ | refine o_f3 ?_ | refine o_f4 ?_ | refine o_f5 ?_ | refine o_inI ?_ | refine o_ninI ?_ | refine o_inT ?_ | refine o_ninT ?_ | refine o_addN ?_ ?_ | refine o_addN0 ?_ ?_ | refine o_addNs ?_ ?_ | refine o_addSt ?_ ?_ | refine o_lenSt ?_ | refine o_listNs ?_ | refine o_itN ?_ | refine o_itNs ?_ | refine o_itSt ?_ | refine o_enNs ?_ | refine o_sum ?_ | refine o_any ?_ | refine o_min2 ?_ | refine o_max2 ?_ | refine o_min3 ?_ | refine o_add ?_ | refine o_sub ?_ | refine o_mod ?_ ?_ | refine o_mul ?_ ?_ | refine o_fdiv ?_ ?_ | refine o_pow ?_ ?_ | refine o_lt ?_ | refine o_le ?_ | refine o_gt ?_ | refine o_ge ?_ | refine o_eqi ?_ | refine o_nei ?_ | refine o_eqs ?_ | refine o_nes ?_ | refine o_len ?_ | refine o_lent ?_ | refine o_lenc ?_ | refine o_lens ?_ ?_ | refine o_abs ?_ | refine o_rng1 ?_ ?_ | refine o_rng2 ?_ ?_ | refine o_int ?_ | refine o_adds ?_ ?_ | refine o_addl ?_ ?_ | refine o_addt ?_ ?_)
local macro_rules | `(tactic| walk_at "y2") => `(tactic| first
  | ((with_reducible apply y_get); exact rfl)
  | ((with_reducible apply x_sfQ); (walk_at "e"); exact rfl; exact rfl; (walk_at "e"))
  | ((with_reducible apply x_mkF); (walk_at "e"); exact rfl)
  | ((with_reducible apply x_mkQ); (walk_at "e"))
  | ((with_reducible apply x_rt); exact rfl)
  | ((with_reducible apply y_setF); (walk_at "e"))
  | ((with_reducible apply y_setF); exact set_at rfl (by first | assumption | exact free_opt _) (by walk_at "e"))
  | ((with_reducible apply y_setF); exact setO_at rfl (by first | assumption | exact free_opt _) (by walk_at "e"))
  | ((with_reducible apply y_lend); exact rfl)
  | ((with_reducible apply z_bor); (walk_at "e"))
  | ((with_reducible apply z_borQ); exact rfl; (walk_at "f"); (walk_at "e"))
  | ((with_reducible apply z_callF); (walk_at "e"); exact rfl)
  | ((with_reducible apply z_backQ); (walk_at "e"))
  | ((with_reducible apply z_callF1); (walk_at "e"); exact rfl)
  | ((with_reducible apply z_back1Q); (walk_at "e"))
  | ((with_reducible apply z_prot); (walk_at "e"))
  | ((with_reducible apply z_unpQ); (walk_at "e"))
  | ((with_reducible apply z_rtK); (walk_at "e"))
  | ((with_reducible apply z_rtN); (walk_at "e"))
  | ((with_reducible apply z_app); (walk_at "e"))
  | ((with_reducible apply z_appQ); (walk_at "e"); (walk_at "e"))
  | ((with_reducible apply z_stK); (walk_at "e"))
  | ((with_reducible apply z_stQ); (walk_at "e"); exact rfl; (walk_at "e"); (walk_at "e"))
  | ((with_reducible apply z_tgQ); (walk_at "e"))
  | ((with_reducible apply z_parQ); (walk_at "e"))
  | ((with_reducible apply y_frzM); (walk_at "e"))
  | ((with_reducible apply y_mv); exact rfl)
  | (walk_at "o")
  | ((with_reducible apply y_lft); exact rfl)
  | ((with_reducible apply y_t))
  | ((with_reducible apply y_f))
  | ((with_reducible apply y_nt))
  | ((with_reducible apply y_nf))
  | ((with_reducible apply y_len); (exact big_le (Nat.le_of_ble_eq_true rfl)))
  | (with_reducible refine ⟨_, rfl, ?_⟩)
  | (with_reducible refine ⟨_, _, rfl, ?_⟩)
  | fail "y")
local macro_rules | `(tactic| walk_at "y") => `(tactic| first | walk_at "y1" | walk_at "y2" | fail "y")
local macro_rules | `(tactic| walk_at "z2") => `(tactic| first
  | ((with_reducible apply y_get); exact rfl)
  | ((with_reducible apply x_sfQ); (walk_at "e"); exact rfl; exact rfl; (walk_at "e"))
  | ((with_reducible apply x_mkQ); (walk_at "e"))
  | ((with_reducible apply x_rt); exact rfl)
  | ((with_reducible apply y_setF); (walk_at "e"))
  | ((with_reducible apply y_setF); exact set_at rfl (by first | assumption | exact free_opt _) (by walk_at "e"))
  | ((with_reducible apply y_setF); exact setO_at rfl (by first | assumption | exact free_opt _) (by walk_at "e"))
  | ((with_reducible apply y_lend); exact rfl)
  | ((with_reducible apply z_bor); (walk_at "e"))
  | ((with_reducible apply z_borQ); exact rfl; (walk_at "f"); (walk_at "e"))
  | ((with_reducible apply z_backQ); (walk_at "e"))
  | ((with_reducible apply z_back1Q); (walk_at "e"))
  | ((with_reducible apply z_prot); (walk_at "e"))
  | ((with_reducible apply z_unpQ); (walk_at "e"))
  | ((with_reducible apply z_rtK); (walk_at "e"))
  | ((with_reducible apply z_rtN); (walk_at "e"))
  | ((with_reducible apply z_app); (walk_at "e"))
  | ((with_reducible apply z_appQ); (walk_at "e"); (walk_at "e"))
  | ((with_reducible apply z_stK); (walk_at "e"))
  | ((with_reducible apply z_stQ); (walk_at "e"); exact rfl; (walk_at "e"); (walk_at "e"))
  | ((with_reducible apply z_tgQ); (walk_at "e"))
  | ((with_reducible apply z_parQ); (walk_at "e"))
  | ((with_reducible apply y_frzM); (walk_at "e"))
  | ((with_reducible apply y_mv); exact rfl)
  | (walk_at "o")
  | ((with_reducible apply y_lft); exact rfl)
  | ((with_reducible apply y_t))
  | ((with_reducible apply y_f))
  | ((with_reducible apply y_nt))
  | ((with_reducible apply y_nf))
  | ((with_reducible apply y_len); (exact big_le (Nat.le_of_ble_eq_true rfl)))
  | (with_reducible refine ⟨_, rfl, ?_⟩)
  | (with_reducible refine ⟨_, _, rfl, ?_⟩)
  | fail "y")
local macro_rules | `(tactic| walk_at "z") => `(tactic| first | walk_at "y1" | (with_reducible refine x_pat ?_) | walk_at "z2" | fail "z")
local macro_rules | `(tactic| walk_at "s") => `(tactic| first | (rw [hline]; omega) | (simp only [at_len, mv_len, List.length_map, List.length_append, hline]; omega) | fail "s")
local macro_rules | `(tactic| walk_at "zs") => `(tactic| first | walk_at "z" | walk_at "s" | fail "zs")
local macro_rules | `(tactic| walk_at "d") => `(tactic| first | (with_reducible refine y_tb (by decide +kernel) ?_) | (with_reducible refine y_fb (by decide +kernel) ?_) | fail "d")
local macro_rules | `(tactic| walk_at "zd") => `(tactic| first | walk_at "z" | walk_at "d" | fail "zd")
def tot : List Made → Nat
  | [] => 0
  | m :: ms => m.size + tot ms
theorem tot_app : ∀ (a b : List Made), tot (a ++ b) = tot a + tot b
  | [], b => (Nat.zero_add _).symm
  | m :: a, b => by simp only [List.cons_append, tot, tot_app a b]; omega
theorem tot_get : ∀ {ms : List Made} {i : Nat} {m : Made}, ms[i]? = some m → tot ms = m.size + tot (ms.eraseIdx i)
  | x :: ms, 0, m, h => by cases h; rfl
  | x :: ms, i + 1, m, h => by
    have := tot_get (ms := ms) (i := i) (m := m) h
    simp only [List.eraseIdx_cons_succ, tot]
    omega
theorem tot_set : ∀ {ms : List Made} {i : Nat} {m m' : Made}, ms[i]? = some m → m'.size = m.size → tot (ms.set i m') = tot ms
  | x :: ms, 0, m, m', h, e => by cases h; simp only [List.set_cons_zero, tot, e]
  | x :: ms, i + 1, m, m', h, e => by
    have := tot_set (ms := ms) (i := i) (m := m) (m' := m') h e
    simp only [List.set_cons_succ, tot, this]
theorem tot_mem {ms : List Made} {m : Made} (h : m ∈ ms) : m.size ≤ tot ms := by
  obtain ⟨i, hi⟩ := List.getElem?_of_mem h
  have := tot_get hi
  omega
theorem erase_map : ∀ (ms : List Made) (i : Nat), (ms.map Made.enc).eraseIdx i = (ms.eraseIdx i).map Made.enc
  | [], i => rfl
  | m :: ms, 0 => rfl
  | m :: ms, i + 1 => by simp only [List.map_cons, List.eraseIdx_cons_succ, erase_map ms i]
structure Prt (d : Nat) (ms : List Made) : Prop where
  pos : 0 < ms.length
  few : ms.length ≤ 5
  sz : tot ms ≤ 16
  ok : ∀ m ∈ ms, m.Fine ∧ m.depth ≤ d
theorem ixN_ok {n : Nat} {i : Nat} (h : i < n) : ixN n (i : Int) = some i := by
  unfold ixN
  rw [if_pos (by omega), if_pos (by omega)]
  rfl
theorem one_of {xs : List Str} {d : D} (h : d ∈ xs.map D.str) : ∃ s, d = .str s ∧ s ∈ xs := by
  rw [List.mem_map] at h
  obtain ⟨s, hs, rfl⟩ := h
  exact ⟨s, rfl, hs⟩
/-- the leaves -/
abbrev B1 : DM Fl := (seqM (setM 8 (shD (fz (tupM (consM (ret (.str "one")) (consM (fz (callA F_law_of (arLend 0 (arVal (get 1) arNil)))) (consM (fz (callA F_law_of (arLend 0 (arVal (get 2) arNil)))) (ret []))))))))
  (seqM (setM 9 (shD (fz (callA F_law_take (arLend 0 (arVal (ret (.int 9)) arNil))))))
  (seqM (setM 10 (shD (fz (ifM (testM (opS eqS (get 9) (ret (.int 0)))) (callA F_law_take (arLend 0 (arVal (fz (opS addS (fz (callM minS (consM (ret (.int 9)) (consM (fz (opS subS (get 5) (fz (opS subS (fz (opS subS (get 6) (ret (.int 1)))) (get 7))))) (ret []))))) (ret (.int 1)))) arNil))) (shD (ret (.int 1)))))))
  (seqM (ifM (testM (opS ltS (get 9) (ret (.int 2)))) (setM 8 (shD (fz (ifM (testM (opS eqS (get 9) (ret (.int 0)))) (tupM (consM (ret (.str "times")) (consM (get 8) (consM (get 10) (ret []))))) (tupM (consM (ret (.str "none")) (ret []))))))) (ret .nx))
  (seqM (setM 5 (shD (fz (opS subS (get 5) (get 10)))))
  (appM 4 (consM (get 8) (ret []))))))))
theorem any_leaf {n : Nat} {a b c room many : Int} {k : Nat} {ss rs : List Str} {ms : List Made} {o8 o9 o10 : Option D} {Q : Fl → List Sl → Prop} (hd : Ok n a b c) (hn : n < 100000000) (hs : 0 < ss.length) (hs2 : ss.length < 1000) (hr : 0 < rs.length) (hr2 : rs.length < 1000)
    (hm : many ≤ 5) (hk : (k : Int) < many) (hroom : many - k ≤ room) (hl : ms.length = k)
    (h : ∀ a' b' c' (x : Made) room' d9 d10, Ok (n + 4) a' b' c' → x.Fine → x.depth ≤ 2 → many - k - 1 ≤ room' → x.size + room' ≤ room → Q .nx [.pn (dice a' b' c'), .sh (.lst (ss.map .str)), .sh (.lst (rs.map .str)), .sh (.int 5), .ow (.lst ((ms ++ [x]).map Made.enc)), .sh (.int room'), .sh (.int many), .sh (.int (k : Nat)), .sh x.enc, .sh d9, .sh d10, .un, .un, .un, .un]) :
    Wp B1 [.pn (dice a b c), .sh (.lst (ss.map .str)), .sh (.lst (rs.map .str)), .sh (.int 5), .ow (.lst (ms.map Made.enc)), .sh (.int room), .sh (.int many), .sh (.int (k : Nat)), opt o8, opt o9, opt o10, .un, .un, .un, .un] Q := by
  have hz : sizeLine = 2 ^ 24 := rfl
  repeat' (walk_at "y")
  refine (spec_of hd (by omega) (by rw [List.length_map]; omega) (by rw [List.length_map]; omega)).imp ?_
  rintro _ _ ⟨d, a', b', c', rfl, rfl, hm1, hd'⟩
  obtain ⟨s, rfl, _⟩ := one_of hm1
  repeat' (walk_at "y")
  refine (spec_of hd' (by omega) (by rw [List.length_map]; omega) (by rw [List.length_map]; omega)).imp ?_
  rintro _ _ ⟨d, a2, b2, c2, rfl, rfl, hm2, hd2⟩
  obtain ⟨r, rfl, _⟩ := one_of hm2
  repeat' (walk_at "y")
  refine (spec_take hd2 (by omega) (by omega) (by omega)).imp ?_
  rintro _ _ ⟨p, a3, b3, c3, rfl, rfl, p0, p1, hd3⟩
  repeat' (walk_at "y")
  refine y_dec (fun hin => ?_) (fun hin => ?_)
  · subst hin
    repeat' (walk_at "y")
    refine (spec_take hd3 (by omega) (by omega) (by omega)).imp ?_
    rintro _ _ ⟨t, a4, b4, c4, rfl, rfl, t0, t1, hd4⟩
    obtain ⟨t, rfl⟩ := Int.eq_ofNat_of_zero_le t0
    repeat' (walk_at "zd")
    · rw [List.length_map]; omega
    · have := h a4 b4 c4 (.times (.one s r) t) (room - t) (.int 0) (.int t) hd4 ⟨trivial, by omega, by show 1 ≤ 100; decide⟩ (by show 2 ≤ 2; decide) (by omega) (by simp only [Made.size]; omega)
      rw [List.map_append] at this
      exact this
  · repeat' (walk_at "y")
    refine y_dec (fun hin2 => ?_) (fun hin2 => ?_)
    · repeat' (walk_at "y")
      refine y_fb (by rw [decide_eq_false_iff_not]; exact hin) ?_
      repeat' (walk_at "zd")
      · rw [List.length_map]; omega
      · have := h a3 b3 c3 .none (room - 1) (.int p) (.int 1) (hd3.mono (by omega)) trivial (by decide) (by omega) (by simp only [Made.size]; omega)
        rw [List.map_append] at this
        exact this
    · repeat' (walk_at "zd")
      · rw [List.length_map]; omega
      · have := h a3 b3 c3 (.one s r) (room - 1) (.int p) (.int 1) (hd3.mono (by omega)) trivial (by show 1 ≤ 2; decide) (by omega) (by simp only [Made.size]; omega)
        rw [List.map_append] at this
        exact this
end FD.Law

set_option Elab.async false
set_option linter.all false
set_option maxRecDepth 100000
namespace FD.Law
open PySem L2 FD
local macro_rules | `(tactic| walk_at "y1") => `(tactic| with_reducible first | refine y_seq ?_ | refine x_fld ?_ | refine x_oop ?_ | refine x_oun ?_ | refine x_len ?_ | refine x_meth ?_ | refine x_mkM ?_ | refine x_callAD ?_ | refine x_sf ?_ | refine x_addB ?_ | refine x_itB ?_ | refine y_setM ?_ | refine y_shD ?_ | refine z_fz ?_ | refine z_datS ?_ | refine z_datO ?_ | refine y_opS ?_ | refine y_callM ?_ | refine y_consM ?_ | refine y_ret ?_ | refine y_nx ?_ | refine y_rt ?_ | refine y_bk ?_ | refine y_ct ?_ | refine z_forN ?_ | refine z_forC ?_ | refine z_forB ?_ | refine z_forR ?_ | refine y_retM ?_ | refine y_ifM ?_ | refine y_tupM ?_ | refine y_lstM ?_ | refine y_testM ?_ | refine y_truM ?_ | refine y_notM ?_ | refine y_andM ?_ | refine y_orM ?_ | refine y_andV ?_ | refine y_orV ?_ | refine y_notV ?_ | refine y_dropM ?_ | refine y_augM ?_ | refine y_methM ?_ | refine y_slM ?_ | refine y_part ?_ | refine y_negM ?_ | refine y_replM ?_ | refine y_callA ?_ | refine y_arVal ?_ | refine y_arNil ?_ | refine y_fsCons ?_ | refine z_st ?_ | refine z_asg ?_ | refine z_par ?_ | refine y_forM ?_ | refine y_chain ?_ | refine wp_callT ?_ | refine wp_itM ?_ | refine y_bnd ?_)
local macro_rules | `(tactic| walk_at "e") => `(tactic| focus ((try simp only [setSl, setSls, gN, gT, gs0, gs1, get0, getS, set0, setS, own?, borS, pinAll, pin_un, pin_sh, pin_ow, pin_pn, pin_opt, List.map_cons, List.map_nil, wipeS, restS, argSls, argSl, Option.map, Option.bind, frzS, if_true, ite_true, Option.isSome, zipB, bb_un, bb_sh, bb_ow, bb_pn, bb_os, bb_ps, bb_opt, unpin, un_un, un_sh, un_ow, un_pn, un_opt, back, back1, Sl.dat, outs, List.length_cons, List.length_nil, Nat.zero_add, Nat.reduceAdd, Int.reduceToNat]); first | done | exact rfl))
local macro_rules | `(tactic| walk_at "f") => `(tactic| focus (first | exact rfl | (simp only [List.all_cons, List.all_nil, fo_un, fo_sh, fo_opt, fo_pn, Made.flats_enc, Made.flat_enc, flats_strs, flats_ints, flats, flat, Bool.and_self]; done)))
local macro_rules | `(tactic| walk_at "o") => `(tactic| with_reducible first | refine o_isP ?_ | refine o_f1 ?_ | refine o_f2 ?_ | refine o_f3 ?_ | refine o_f4 ?_ | refine o_f5 ?_ | refine o_inI ?_ | refine o_ninI ?_ | refine o_inT ?_ | refine o_ninT ?_ | refine o_addN ?_ ?_ | refine o_addN0 ?_ ?_ | refine o_addNs ?_ ?_ | refine o_addSt ?_ ?_ | refine o_lenSt ?_ | refine o_listNs ?_ | refine o_itN ?_ | refine o_itNs ?_ | refine o_itSt ?_ | refine o_enNs ?_ | refine o_sum ?_ | refine o_any ?_ | refine o_min2 ?_ | refine o_max2 ?_ | refine o_min3 ?_ | refine o_add ?_ | refine o_sub ?_ | refine o_mod ?_ ?_ | refine o_mul ?_ ?_ | refine o_fdiv ?_ ?_ | refine o_pow ?_ ?_ | refine o_lt ?_ | refine o_le ?_ | refine o_gt ?_ | refine o_ge ?_ | refine o_eqi ?_ | refine o_nei ?_ | refine o_eqs ?_ | refine o_nes ?_ | refine o_len ?_ | refine o_lent ?_ | refine o_lenc ?_ | refine o_lens ?_ ?_ | refine o_abs ?_ | refine o_rng1 ?_ ?_ | refine o_rng2 ?_ ?_ | refine o_int ?_ | refine o_adds ?_ ?_ | refine o_addl ?_ ?_ | refine o_addt ?_ ?_)
local macro_rules | `(tactic| walk_at "y2") => `(tactic| first
  | ((with_reducible apply y_get); exact rfl)
  | ((with_reducible apply x_sfQ); (walk_at "e"); exact rfl; exact rfl; (walk_at "e"))
  | ((with_reducible apply x_mkF); (walk_at "e"); exact rfl)
  | ((with_reducible apply x_mkQ); (walk_at "e"))
  | ((with_reducible apply x_rt); exact rfl)
  | ((with_reducible apply y_setF); (walk_at "e"))
  | ((with_reducible apply y_setF); exact set_at rfl (by first | assumption | exact free_opt _) (by walk_at "e"))
  | ((with_reducible apply y_setF); exact setO_at rfl (by first | assumption | exact free_opt _) (by walk_at "e"))
  | ((with_reducible apply y_lend); exact rfl)
  | ((with_reducible apply z_bor); (walk_at "e"))
  | ((with_reducible apply z_borQ); exact rfl; (walk_at "f"); (walk_at "e"))
  | ((with_reducible apply z_callF); (walk_at "e"); exact rfl)
  | ((with_reducible apply z_backQ); (walk_at "e"))
  | ((with_reducible apply z_callF1); (walk_at "e"); exact rfl)
  | ((with_reducible apply z_back1Q); (walk_at "e"))
  | ((with_reducible apply z_prot); (walk_at "e"))
  | ((with_reducible apply z_unpQ); (walk_at "e"))
  | ((with_reducible apply z_rtK); (walk_at "e"))
  | ((with_reducible apply z_rtN); (walk_at "e"))
  | ((with_reducible apply z_app); (walk_at "e"))
  | ((with_reducible apply z_appQ); (walk_at "e"); (walk_at "e"))
  | ((with_reducible apply z_stK); (walk_at "e"))
  | ((with_reducible apply z_stQ); (walk_at "e"); exact rfl; (walk_at "e"); (walk_at "e"))
  | ((with_reducible apply z_tgQ); (walk_at "e"))
  | ((with_reducible apply z_parQ); (walk_at "e"))
  | ((with_reducible apply y_frzM); (walk_at "e"))
  | ((with_reducible apply y_mv); exact rfl)
  | (walk_at "o")
  | ((with_reducible apply y_lft); exact rfl)
  | ((with_reducible apply y_t))
  | ((with_reducible apply y_f))
  | ((with_reducible apply y_nt))
  | ((with_reducible apply y_nf))
  | ((with_reducible apply y_len); (exact big_le (Nat.le_of_ble_eq_true rfl)))
  | (with_reducible refine ⟨_, rfl, ?_⟩)
  | (with_reducible refine ⟨_, _, rfl, ?_⟩)
  | fail "y")
local macro_rules | `(tactic| walk_at "y") => `(tactic| first | walk_at "y1" | walk_at "y2" | fail "y")
local macro_rules | `(tactic| walk_at "z2") => `(tactic| first
  | ((with_reducible apply y_get); exact rfl)
  | ((with_reducible apply x_sfQ); (walk_at "e"); exact rfl; exact rfl; (walk_at "e"))
  | ((with_reducible apply x_mkQ); (walk_at "e"))
  | ((with_reducible apply x_rt); exact rfl)
  | ((with_reducible apply y_setF); (walk_at "e"))
  | ((with_reducible apply y_setF); exact set_at rfl (by first | assumption | exact free_opt _) (by walk_at "e"))
  | ((with_reducible apply y_setF); exact setO_at rfl (by first | assumption | exact free_opt _) (by walk_at "e"))
  | ((with_reducible apply y_lend); exact rfl)
  | ((with_reducible apply z_bor); (walk_at "e"))
  | ((with_reducible apply z_borQ); exact rfl; (walk_at "f"); (walk_at "e"))
  | ((with_reducible apply z_backQ); (walk_at "e"))
  | ((with_reducible apply z_back1Q); (walk_at "e"))
  | ((with_reducible apply z_prot); (walk_at "e"))
  | ((with_reducible apply z_unpQ); (walk_at "e"))
  | ((with_reducible apply z_rtK); (walk_at "e"))
  | ((with_reducible apply z_rtN); (walk_at "e"))
  | ((with_reducible apply z_app); (walk_at "e"))
  | ((with_reducible apply z_appQ); (walk_at "e"); (walk_at "e"))
  | ((with_reducible apply z_stK); (walk_at "e"))
  | ((with_reducible apply z_stQ); (walk_at "e"); exact rfl; (walk_at "e"); (walk_at "e"))
  | ((with_reducible apply z_tgQ); (walk_at "e"))
  | ((with_reducible apply z_parQ); (walk_at "e"))
  | ((with_reducible apply y_frzM); (walk_at "e"))
  | ((with_reducible apply y_mv); exact rfl)
  | (walk_at "o")
  | ((with_reducible apply y_lft); exact rfl)
  | ((with_reducible apply y_t))
  | ((with_reducible apply y_f))
  | ((with_reducible apply y_nt))
  | ((with_reducible apply y_nf))
  | ((with_reducible apply y_len); (exact big_le (Nat.le_of_ble_eq_true rfl)))
  | (with_reducible refine ⟨_, rfl, ?_⟩)
  | (with_reducible refine ⟨_, _, rfl, ?_⟩)
  | fail "y")
local macro_rules | `(tactic| walk_at "z") => `(tactic| first | walk_at "y1" | (with_reducible refine x_pat ?_) | walk_at "z2" | fail "z")
local macro_rules | `(tactic| walk_at "s") => `(tactic| first | (rw [hline]; omega) | (simp only [at_len, mv_len, List.length_map, List.length_append, hline]; omega) | fail "s")
local macro_rules | `(tactic| walk_at "zs") => `(tactic| first | walk_at "z" | walk_at "s" | fail "zs")
local macro_rules | `(tactic| walk_at "d") => `(tactic| first | (with_reducible refine y_tb (by decide +kernel) ?_) | (with_reducible refine y_fb (by decide +kernel) ?_) | fail "d")
local macro_rules | `(tactic| walk_at "zd") => `(tactic| first | walk_at "z" | walk_at "d" | fail "zd")
abbrev C2 : DM Fl := (ifM (testM (opS gtS (fz (bor flatR 4 (callM lenS (consM (get 4) (ret []))))) (ret (.int 1)))) (seqM (setM 12 (shD (popM 4 (get 11))))
  (seqM (setM 13 (shD (popM 4 (fz (callA F_law_take (arLend 0 (arVal (fz (bor flatR 4 (callM lenS (consM (get 4) (ret []))))) arNil)))))))
  (appM 4 (consM (fz (tupM (consM (fz (callA F_law_of (arLend 0 (arVal (fz (lstM (consM (ret (.str "then")) (consM (ret (.str "or")) (consM (ret (.str "sep")) (consM (ret (.str "free")) (consM (ret (.str "must")) (ret [])))))))) arNil)))) (consM (get 12) (consM (get 13) (ret [])))))) (ret []))))) (ret .nx))
abbrev B2 : DM Fl := (seqM (setM 11 (shD (fz (callA F_law_take (arLend 0 (arVal (fz (bor flatR 4 (callM lenS (consM (get 4) (ret []))))) arNil))))))
  (seqM (ifM (testM (opS eqS (fz (callA F_law_take (arLend 0 (arVal (ret (.int 3)) arNil)))) (ret (.int 0)))) (stM 4 (get 11) (fz (tupM (consM (fz (callA F_law_of (arLend 0 (arVal (fz (lstM (consM (ret (.str "maybe")) (consM (ret (.str "some")) (consM (ret (.str "many")) (ret [])))))) arNil)))) (consM (fz (bor flatR 4 (opS ixS (get 4) (get 11)))) (ret [])))))) (ret .nx)) C2))
@[reducible] def ev2 (a b c : Int) (ss rs : List Str) (ms : List Made) (d5 d6 d7 d8 d9 d10 : D) (o11 o12 o13 : Option D) : List Sl := [.pn (dice a b c), .sh (.lst (ss.map .str)), .sh (.lst (rs.map .str)), .sh (.int 5), .ow (.lst (ms.map Made.enc)), .sh d5, .sh d6, .sh d7, .sh d8, .sh d9, .sh d10, opt o11, opt o12, opt o13, .un]
theorem any_pair {n : Nat} {a b c : Int} {i : Nat} {ss rs : List Str} {ms : List Made} {d : Nat} {d5 d6 d7 d8 d9 d10 : D} {o12 o13 : Option D} {Q : Fl → List Sl → Prop} (hd : Ok n a b c) (hn : n < 100000000) (hi : i < ms.length) (P : Prt d ms)
    (h : ∀ a' b' c' ms' o12 o13, Ok (n + 2) a' b' c' → Prt (d + 1) ms' → Q .nx (ev2 a' b' c' ss rs ms' d5 d6 d7 d8 d9 d10 (some (.int (i : Nat))) o12 o13)) :
    Wp C2 [.pn (dice a b c), .sh (.lst (ss.map .str)), .sh (.lst (rs.map .str)), .sh (.int 5), .ow (.lst (ms.map Made.enc)), .sh d5, .sh d6, .sh d7, .sh d8, .sh d9, .sh d10, .sh (.int (i : Nat)), opt o12, opt o13, .un] Q := by
  have hz : sizeLine = 2 ^ 24 := rfl
  have hp1 := P.pos
  have hp2 := P.few
  have hp3 := P.sz
  have hlm : (ms.map Made.enc).length = ms.length := List.length_map _
  repeat' (walk_at "y")
  refine y_dec (fun hin => ?_) (fun hin => ?_)
  · obtain ⟨x, hx⟩ : ∃ x, ms[i]? = some x := ⟨_, List.getElem?_eq_getElem hi⟩
    have htx := tot_get hx
    have hel : (ms.eraseIdx i).length = ms.length - 1 := by rw [List.length_eraseIdx, if_pos hi]
    iterate 3 (walk_at "y")
    refine x_pop rfl ?_
    repeat' (walk_at "y")
    refine x_popF (n := i) (d := x.enc) rfl (ixN_ok (by rw [hlm]; exact hi)) (by rw [List.getElem?_map, hx]; rfl) (by rw [hlm]; omega) rfl ?_
    rw [erase_map]
    simp only [set0, setS]
    iterate 4 (walk_at "y")
    have hlm2 : ((ms.eraseIdx i).map Made.enc).length = ms.length - 1 := by rw [List.length_map, hel]
    rw [hlm] at hin
    iterate 1 (walk_at "y")
    refine x_pop rfl ?_
    repeat' (walk_at "y")
    refine (spec_take hd (by omega) (by rw [hlm2]; omega) (by rw [hlm2]; omega)).imp ?_
    rintro _ _ ⟨t, a1, b1, c1, rfl, rfl, t0, t1, hd1⟩
    rw [hlm2] at t1
    obtain ⟨j, rfl⟩ := Int.eq_ofNat_of_zero_le t0
    obtain ⟨y, hy⟩ : ∃ y, (ms.eraseIdx i)[j]? = some y := ⟨_, List.getElem?_eq_getElem (by omega)⟩
    have hty := tot_get hy
    have hel2 : ((ms.eraseIdx i).eraseIdx j).length = ms.length - 2 := by rw [List.length_eraseIdx, if_pos (by omega), hel]; omega
    have hxm := P.ok x (List.mem_of_getElem? hx)
    have hym := P.ok y (List.mem_of_mem_eraseIdx (List.mem_of_getElem? hy))
    repeat' (walk_at "y")
    refine x_popF (n := j) (d := y.enc) rfl (ixN_ok (by rw [hlm2]; omega)) (by rw [List.getElem?_map, hy]; rfl) (by rw [hlm2]; omega) rfl ?_
    rw [erase_map]
    simp only [set0, setS]
    repeat' (walk_at "y")
    refine (spec_of hd1 (by omega) (by simp) (by simp)).imp ?_
    rintro _ _ ⟨w, a2, b2, c2, rfl, rfl, hm, hd2⟩
    obtain ⟨q, rfl⟩ : ∃ q : Bi, w = .str q.w := by
      simp only [List.mem_cons, List.not_mem_nil, or_false] at hm
      rcases hm with h | h | h | h | h <;> subst h
      · exact ⟨.thn, rfl⟩
      · exact ⟨.or, rfl⟩
      · exact ⟨.sep, rfl⟩
      · exact ⟨.free, rfl⟩
      · exact ⟨.must, rfl⟩
    repeat' (walk_at "y")
    · rw [List.length_map]; omega
    · have := h a2 b2 c2 ((ms.eraseIdx i).eraseIdx j ++ [.bin q x y]) (some x.enc) (some y.enc) hd2 ⟨by simp, by rw [List.length_append, hel2]; simp; omega, by rw [tot_app]; simp only [tot, Made.size]; omega, fun m hm => by
        rw [List.mem_append, List.mem_singleton] at hm
        rcases hm with hm | rfl
        · have := P.ok m (List.mem_of_mem_eraseIdx (List.mem_of_mem_eraseIdx hm))
          exact ⟨this.1, by omega⟩
        · exact ⟨⟨hxm.1, hym.1, by omega⟩, by simp only [Made.depth]; omega⟩⟩
      unfold ev2 at this
      rw [List.map_append] at this
      exact this
  · repeat' (walk_at "y")
    exact h a b c ms o12 o13 (hd.mono (by omega)) ⟨hp1, hp2, hp3, fun m hm => ⟨(P.ok m hm).1, by have := (P.ok m hm).2; omega⟩⟩
theorem any_turn {n : Nat} {a b c : Int} {ss rs : List Str} {ms : List Made} {d : Nat} {d5 d6 d7 d8 d9 d10 : D} {o11 o12 o13 : Option D} {Q : Fl → List Sl → Prop} (hd : Ok n a b c) (hn : n < 10000000) (P : Prt d ms)
    (h : ∀ a' b' c' ms' o11 o12 o13, Ok (n + 5) a' b' c' → Prt (d + 2) ms' → Q .nx (ev2 a' b' c' ss rs ms' d5 d6 d7 d8 d9 d10 o11 o12 o13)) :
    Wp B2 [.pn (dice a b c), .sh (.lst (ss.map .str)), .sh (.lst (rs.map .str)), .sh (.int 5), .ow (.lst (ms.map Made.enc)), .sh d5, .sh d6, .sh d7, .sh d8, .sh d9, .sh d10, opt o11, opt o12, opt o13, .un] Q := by
  have hz : sizeLine = 2 ^ 24 := rfl
  have hp1 := P.pos
  have hp2 := P.few
  have hp3 := P.sz
  have hlm : (ms.map Made.enc).length = ms.length := List.length_map _
  repeat' (walk_at "y")
  refine (spec_take hd (by omega) (by rw [hlm]; omega) (by rw [hlm]; omega)).imp ?_
  rintro _ _ ⟨t, a1, b1, c1, rfl, rfl, t0, t1, hd1⟩
  rw [hlm] at t1
  obtain ⟨i, rfl⟩ := Int.eq_ofNat_of_zero_le t0
  have hi : i < ms.length := by omega
  obtain ⟨x, hx⟩ : ∃ x, ms[i]? = some x := ⟨_, List.getElem?_eq_getElem hi⟩
  have htx := tot_get hx
  have hxm := P.ok x (List.mem_of_getElem? hx)
  repeat' (walk_at "y")
  refine (spec_take hd1 (by omega) (by omega) (by omega)).imp ?_
  rintro _ _ ⟨t, a2, b2, c2, rfl, rfl, t2, t3, hd2⟩
  repeat' (walk_at "y")
  refine y_dec (fun hin => ?_) (fun hin => ?_)
  · repeat' (walk_at "y")
    refine (spec_of hd2 (by omega) (by simp) (by simp)).imp ?_
    rintro _ _ ⟨w, a3, b3, c3, rfl, rfl, hm, hd3⟩
    obtain ⟨q, rfl⟩ : ∃ q : Un, w = .str q.w := by
      simp only [List.mem_cons, List.not_mem_nil, or_false] at hm
      rcases hm with h | h | h <;> subst h
      · exact ⟨.maybe, rfl⟩
      · exact ⟨.some, rfl⟩
      · exact ⟨.many, rfl⟩
    repeat' (walk_at "y")
    refine o_ix (d := x.enc) (by simp only [atI, hlm, ixN_ok hi, Option.bind_some, List.getElem?_map, hx, Option.map_some]) ?_
    repeat' (walk_at "y")
    refine z_borQ (Made.flat_enc x) (by walk_at "f") (by walk_at "e") ?_
    repeat' (walk_at "y")
    refine z_stQ (n := i) (f := Sl.ow) (xs := ms.map Made.enc) rfl (ixN_ok (by rw [hlm]; exact hi)) (xs' := (ms.set i (.un q x)).map Made.enc) (by rw [List.map_set]; rfl) rfl ?_
    simp only [set0, setS]
    iterate 1 (walk_at "y")
    refine any_pair (d := d + 1) hd3 (by omega) (by rw [List.length_set]; exact hi) ⟨by rw [List.length_set]; exact hp1, by rw [List.length_set]; exact hp2, by rw [tot_set hx (by simp only [Made.size])]; exact hp3, fun m hm => ?_⟩ fun a' b' c' ms' o12 o13 ho P' => h a' b' c' ms' (some (.int (i : Nat))) o12 o13 (ho.mono (by omega)) P'
    rcases List.mem_or_eq_of_mem_set hm with hm | rfl
    · have := P.ok m hm
      exact ⟨this.1, by omega⟩
    · exact ⟨⟨hxm.1, by omega⟩, by simp only [Made.depth]; omega⟩
  · iterate 2 (walk_at "y")
    refine any_pair (d := d) hd2 (by omega) hi P fun a' b' c' ms' o12 o13 ho P' => h a' b' c' ms' (some (.int (i : Nat))) o12 o13 (ho.mono (by omega)) ⟨P'.pos, P'.few, P'.sz, fun m hm => ⟨(P'.ok m hm).1, by have := (P'.ok m hm).2; omega⟩⟩
end FD.Law

set_option Elab.async false
set_option linter.all false
set_option maxRecDepth 100000
namespace FD.Law
open PySem L2 FD
local macro_rules | `(tactic| walk_at "y1") => `(tactic| with_reducible first | refine y_seq ?_ | refine x_fld ?_ | refine x_oop ?_ | refine x_oun ?_ | refine x_len ?_ | refine x_meth ?_ | refine x_mkM ?_ | refine x_callAD ?_ | refine x_sf ?_ | refine x_addB ?_ | refine x_itB ?_ | refine y_setM ?_ | refine y_shD ?_ | refine z_fz ?_ | refine z_datS ?_ | refine z_datO ?_ | refine y_opS ?_ | refine y_callM ?_ | refine y_consM ?_ | refine y_ret ?_ | refine y_nx ?_ | refine y_rt ?_ | refine y_bk ?_ | refine y_ct ?_ | refine z_forN ?_ | refine z_forC ?_ | refine z_forB ?_ | refine z_forR ?_ | refine y_retM ?_ | refine y_ifM ?_ | refine y_tupM ?_ | refine y_lstM ?_ | refine y_testM ?_ | refine y_truM ?_ | refine y_notM ?_ | refine y_andM ?_ | refine y_orM ?_ | refine y_andV ?_ | refine y_orV ?_ | refine y_notV ?_ | refine y_dropM ?_ | refine y_augM ?_ | refine y_methM ?_ | refine y_slM ?_ | refine y_part ?_ | refine y_negM ?_ | refine y_replM ?_ | refine y_callA ?_ | refine y_arVal ?_ | refine y_arNil ?_ | refine y_fsCons ?_ | refine z_st ?_ | refine z_asg ?_ | refine z_par ?_ | refine y_forM ?_ | refine y_chain ?_ | refine wp_callT ?_ | refine wp_itM ?_ | refine y_bnd ?_)
local macro_rules | `(tactic| walk_at "e") => `(tactic| focus ((try simp only [setSl, setSls, gN, gT, gs0, gs1, get0, getS, set0, setS, own?, borS, pinAll, pin_un, pin_sh, pin_ow, pin_pn, pin_opt, List.map_cons, List.map_nil, wipeS, restS, argSls, argSl, Option.map, Option.bind, frzS, if_true, ite_true, Option.isSome, zipB, bb_un, bb_sh, bb_ow, bb_pn, bb_os, bb_ps, bb_opt, unpin, un_un, un_sh, un_ow, un_pn, un_opt, back, back1, Sl.dat, outs, List.length_cons, List.length_nil, Nat.zero_add, Nat.reduceAdd, Int.reduceToNat]); first | done | exact rfl))
local macro_rules | `(tactic| walk_at "f") => `(tactic| focus (first | exact rfl | (simp only [List.all_cons, List.all_nil, fo_un, fo_sh, fo_opt, fo_pn, Made.flats_enc, Made.flat_enc, flats_strs, flats_ints, flats, flat, Bool.and_self]; done)))
local macro_rules | `(tactic| walk_at "o") => `(tactic| with_reducible first | refine o_isP ?_ | refine o_f1 ?_ | refine o_f2 ?_ | refine o_f3 ?_ | refine o_f4 ?_ | refine o_f5 ?_ | refine o_inI ?_ | refine o_ninI ?_ | refine o_inT ?_ | refine o_ninT ?_ | refine o_addN ?_ ?_ | refine o_addN0 ?_ ?_ | refine o_addNs ?_ ?_ | refine o_addSt ?_ ?_ | refine o_lenSt ?_ | refine o_listNs ?_ | refine o_itN ?_ | refine o_itNs ?_ | refine o_itSt ?_ | refine o_enNs ?_ | refine o_sum ?_ | refine o_any ?_ | refine o_min2 ?_ | refine o_max2 ?_ | refine o_min3 ?_ | refine o_add ?_ | refine o_sub ?_ | refine o_mod ?_ ?_ | refine o_mul ?_ ?_ | refine o_fdiv ?_ ?_ | refine o_pow ?_ ?_ | refine o_lt ?_ | refine o_le ?_ | refine o_gt ?_ | refine o_ge ?_ | refine o_eqi ?_ | refine o_nei ?_ | refine o_eqs ?_ | refine o_nes ?_ | refine o_len ?_ | refine o_lent ?_ | refine o_lenc ?_ | refine o_lens ?_ ?_ | refine o_abs ?_ | refine o_rng1 ?_ ?_ | refine o_rng2 ?_ ?_ | refine o_int ?_ | refine o_adds ?_ ?_ | refine o_addl ?_ ?_ | refine o_addt ?_ ?_)
local macro_rules | `(tactic| walk_at "y2") => `(tactic| first
  | ((with_reducible apply y_get); exact rfl)
  | ((with_reducible apply x_sfQ); (walk_at "e"); exact rfl; exact rfl; (walk_at "e"))
  | ((with_reducible apply x_mkF); (walk_at "e"); exact rfl)
  | ((with_reducible apply x_mkQ); (walk_at "e"))
  | ((with_reducible apply x_rt); exact rfl)
  | ((with_reducible apply y_setF); (walk_at "e"))
  | ((with_reducible apply y_setF); exact set_at rfl (by first | assumption | exact free_opt _) (by walk_at "e"))
  | ((with_reducible apply y_setF); exact setO_at rfl (by first | assumption | exact free_opt _) (by walk_at "e"))
  | ((with_reducible apply y_lend); exact rfl)
  | ((with_reducible apply z_bor); (walk_at "e"))
  | ((with_reducible apply z_borQ); exact rfl; (walk_at "f"); (walk_at "e"))
  | ((with_reducible apply z_callF); (walk_at "e"); exact rfl)
  | ((with_reducible apply z_backQ); (walk_at "e"))
  | ((with_reducible apply z_callF1); (walk_at "e"); exact rfl)
  | ((with_reducible apply z_back1Q); (walk_at "e"))
  | ((with_reducible apply z_prot); (walk_at "e"))
  | ((with_reducible apply z_unpQ); (walk_at "e"))
  | ((with_reducible apply z_rtK); (walk_at "e"))
  | ((with_reducible apply z_rtN); (walk_at "e"))
  | ((with_reducible apply z_app); (walk_at "e"))
  | ((with_reducible apply z_appQ); (walk_at "e"); (walk_at "e"))
  | ((with_reducible apply z_stK); (walk_at "e"))
  | ((with_reducible apply z_stQ); (walk_at "e"); exact rfl; (walk_at "e"); (walk_at "e"))
  | ((with_reducible apply z_tgQ); (walk_at "e"))
  | ((with_reducible apply z_parQ); (walk_at "e"))
  | ((with_reducible apply y_frzM); (walk_at "e"))
  | ((with_reducible apply y_mv); exact rfl)
  | (walk_at "o")
  | ((with_reducible apply y_lft); exact rfl)
  | ((with_reducible apply y_t))
  | ((with_reducible apply y_f))
  | ((with_reducible apply y_nt))
  | ((with_reducible apply y_nf))
  | ((with_reducible apply y_len); (exact big_le (Nat.le_of_ble_eq_true rfl)))
  | (with_reducible refine ⟨_, rfl, ?_⟩)
  | (with_reducible refine ⟨_, _, rfl, ?_⟩)
  | fail "y")
local macro_rules | `(tactic| walk_at "y") => `(tactic| first | walk_at "y1" | walk_at "y2" | fail "y")
local macro_rules | `(tactic| walk_at "z2") => `(tactic| first
  | ((with_reducible apply y_get); exact rfl)
  | ((with_reducible apply x_sfQ); (walk_at "e"); exact rfl; exact rfl; (walk_at "e"))
  | ((with_reducible apply x_mkQ); (walk_at "e"))
  | ((with_reducible apply x_rt); exact rfl)
  | ((with_reducible apply y_setF); (walk_at "e"))
  | ((with_reducible apply y_setF); exact set_at rfl (by first | assumption | exact free_opt _) (by walk_at "e"))
  | ((with_reducible apply y_setF); exact setO_at rfl (by first | assumption | exact free_opt _) (by walk_at "e"))
  | ((with_reducible apply y_lend); exact rfl)
  | ((with_reducible apply z_bor); (walk_at "e"))
  | ((with_reducible apply z_borQ); exact rfl; (walk_at "f"); (walk_at "e"))
  | ((with_reducible apply z_backQ); (walk_at "e"))
  | ((with_reducible apply z_back1Q); (walk_at "e"))
  | ((with_reducible apply z_prot); (walk_at "e"))
  | ((with_reducible apply z_unpQ); (walk_at "e"))
  | ((with_reducible apply z_rtK); (walk_at "e"))
  | ((with_reducible apply z_rtN); (walk_at "e"))
  | ((with_reducible apply z_app); (walk_at "e"))
  | ((with_reducible apply z_appQ); (walk_at "e"); (walk_at "e"))
  | ((with_reducible apply z_stK); (walk_at "e"))
  | ((with_reducible apply z_stQ); (walk_at "e"); exact rfl; (walk_at "e"); (walk_at "e"))
  | ((with_reducible apply z_tgQ); (walk_at "e"))
  | ((with_reducible apply z_parQ); (walk_at "e"))
  | ((with_reducible apply y_frzM); (walk_at "e"))
  | ((with_reducible apply y_mv); exact rfl)
  | (walk_at "o")
  | ((with_reducible apply y_lft); exact rfl)
  | ((with_reducible apply y_t))
  | ((with_reducible apply y_f))
  | ((with_reducible apply y_nt))
  | ((with_reducible apply y_nf))
  | ((with_reducible apply y_len); (exact big_le (Nat.le_of_ble_eq_true rfl)))
  | (with_reducible refine ⟨_, rfl, ?_⟩)
  | (with_reducible refine ⟨_, _, rfl, ?_⟩)
  | fail "y")
local macro_rules | `(tactic| walk_at "z") => `(tactic| first | walk_at "y1" | (with_reducible refine x_pat ?_) | walk_at "z2" | fail "z")
local macro_rules | `(tactic| walk_at "s") => `(tactic| first | (rw [hline]; omega) | (simp only [at_len, mv_len, List.length_map, List.length_append, hline]; omega) | fail "s")
local macro_rules | `(tactic| walk_at "zs") => `(tactic| first | walk_at "z" | walk_at "s" | fail "zs")
local macro_rules | `(tactic| walk_at "d") => `(tactic| first | (with_reducible refine y_tb (by decide +kernel) ?_) | (with_reducible refine y_fb (by decide +kernel) ?_) | fail "d")
local macro_rules | `(tactic| walk_at "zd") => `(tactic| first | walk_at "z" | walk_at "d" | fail "zd")
theorem spec_any {n : Nat} {a b c : Int} {ss rs : List Str} (hd : Ok n a b c) (hn : n < 1000000) (hs : 0 < ss.length) (hs2 : ss.length < 1000) (hr : 0 < rs.length) (hr2 : rs.length < 1000) :
    Wp F_law_any [.pn (dice a b c), .sh (.lst (ss.map .str)), .sh (.lst (rs.map .str)), .sh (.int 5)] (fun sl as => ∃ (m : Made) (a' b' c' : Int), sl = .sh m.enc ∧ as = [.pn (dice a' b' c'), .sh (.lst (ss.map .str)), .sh (.lst (rs.map .str)), .sh (.int 5)] ∧ m.Fine ∧ m.depth ≤ 13 ∧ m.size ≤ 16 ∧ Ok (n + 100) a' b' c') := by
  have hz : sizeLine = 2 ^ 24 := rfl
  refine y_run (ρ := [.pn (dice a b c), .sh (.lst (ss.map .str)), .sh (.lst (rs.map .str)), .sh (.int 5), .un, .un, .un, .un, .un, .un, .un, .un, .un, .un, .un]) ⟨rfl, rfl⟩ rfl ?_
  unfold T_law_any
  repeat' (walk_at "y")
  refine (spec_take hd (by omega) (by omega) (by omega)).imp ?_
  rintro _ _ ⟨mm, a1, b1, c1, rfl, rfl, m0, m1, hd1⟩
  repeat' (walk_at "y")
  · omega
  generalize hmm : 1 + mm = many
  have hm1 : 1 ≤ many := by omega
  have hm5 : many ≤ 5 := by omega
  refine z_for (fun k ρ => ∃ (a b c : Int) (ms : List Made) (room : Int) (o7 o8 o9 o10 : Option D), ρ = [.pn (dice a b c), .sh (.lst (ss.map .str)), .sh (.lst (rs.map .str)), .sh (.int 5), .ow (.lst (ms.map Made.enc)), .sh (.int room), .sh (.int many), opt o7, opt o8, opt o9, opt o10, .un, .un, .un, .un] ∧ (k ≠ 0 → o7.isSome ∧ o8.isSome ∧ o9.isSome ∧ o10.isSome) ∧ ms.length = k ∧ many - k ≤ room ∧ tot ms + room ≤ 16 ∧ (∀ m ∈ ms, m.Fine ∧ m.depth ≤ 2) ∧ Ok (n + 1 + 4 * k) a b c) ⟨a1, b1, c1, [], 16, none, none, none, none, rfl, fun h => absurd rfl h, rfl, by omega, by simp [tot], (fun _ h => by cases h), hd1.mono (by omega)⟩ (fun k d ρ ek hi => ?_) (fun ρ hi => ?_)
  · obtain ⟨a, b, c, ms, room, o7, o8, o9, o10, rfl, _, hl, hroom, ht, hok, ho⟩ := hi
    obtain ⟨hk, rfl⟩ := range_get ek
    refine ⟨_, gN_at (x := opt o7) rfl (free_opt _) (by walk_at "e"), ?_⟩
    rw [Int.zero_add]
    refine any_leaf ho (by omega) hs hs2 hr hr2 hm5 (by omega) hroom hl fun a' b' c' x room' d9 d10 ho' xf xd hr1 hr2 => ?_
    refine ⟨a', b', c', ms ++ [x], room', some (.int k), some x.enc, some d9, some d10, rfl, fun _ => ⟨rfl, rfl, rfl, rfl⟩, by rw [List.length_append, hl]; rfl, by omega, by rw [tot_app]; simp only [tot]; omega, fun m hm => ?_, ho'.mono (by omega)⟩
    rw [List.mem_append, List.mem_singleton] at hm
    rcases hm with hm | rfl
    · exact hok m hm
    · exact ⟨xf, xd⟩
  · obtain ⟨a, b, c, ms, room, o7, o8, o9, o10, rfl, hsome, hl, hroom, ht, hok, ho⟩ := hi
    rw [range_len] at hsome hl hroom ho
    obtain ⟨h7, h8, h9, h10⟩ := hsome (by omega)
    obtain ⟨d7, rfl⟩ := Option.isSome_iff_exists.mp h7
    obtain ⟨d8, rfl⟩ := Option.isSome_iff_exists.mp h8
    obtain ⟨d9, rfl⟩ := Option.isSome_iff_exists.mp h9
    obtain ⟨d10, rfl⟩ := Option.isSome_iff_exists.mp h10
    have P0 : Prt 2 ms := ⟨by omega, by omega, by omega, hok⟩
    simp only [opt]
    repeat' (walk_at "y")
    · omega
    refine z_for (fun k ρ => ∃ (a b c : Int) (ms : List Made) (d7 : D) (o11 o12 o13 : Option D), ρ = ev2 a b c ss rs ms (.int room) (.int many) d7 d8 d9 d10 o11 o12 o13 ∧ Prt (2 + 2 * k) ms ∧ Ok (n + 21 + 5 * k) a b c) ⟨a, b, c, ms, d7, none, none, none, rfl, P0, ho.mono (by omega)⟩ (fun k d ρ ek hi => ?_) (fun ρ hi => ?_)
    · obtain ⟨a, b, c, ms, d7, o11, o12, o13, rfl, P, ho⟩ := hi
      obtain ⟨hk, rfl⟩ := range_get ek
      refine ⟨_, gN_at (x := .sh d7) rfl rfl (by walk_at "e"), ?_⟩
      refine any_turn ho (by omega) P fun a' b' c' ms' o11 o12 o13 ho' P' => ?_
      exact ⟨a', b', c', ms', _, o11, o12, o13, rfl, P', ho'.mono (by omega)⟩
    · obtain ⟨a, b, c, ms, d7, o11, o12, o13, rfl, P, ho⟩ := hi
      rw [range_len] at P ho
      have hp1 := P.pos
      have hp3 := P.sz
      obtain ⟨x, hx⟩ : ∃ x, ms[0]? = some x := ⟨_, List.getElem?_eq_getElem hp1⟩
      have hxm := P.ok x (List.mem_of_getElem? hx)
      have hxs := tot_mem (List.mem_of_getElem? hx)
      have hxd : x.depth ≤ 12 := by omega
      have hat : atI (ms.map Made.enc) 0 = some x.enc := by
        have h0 : ixN (ms.map Made.enc).length 0 = some 0 := ixN_ok (i := 0) (by rw [List.length_map]; exact hp1)
        simp only [atI, h0, Option.bind_some, List.getElem?_map, hx, Option.map_some]
      repeat' (walk_at "y")
      refine o_ix (d := x.enc) hat ?_
      repeat' (walk_at "y")
      refine (spec_take ho (by omega) (by omega) (by omega)).imp ?_
      rintro _ _ ⟨t, a2, b2, c2, rfl, rfl, t0, t1, ho2⟩
      repeat' (walk_at "y")
      refine y_dec (fun hin => ?_) (fun hin => ?_)
      · repeat' (walk_at "z")
        refine x_call (is_size x 20 (by omega) hxm.1) rfl ?_
        repeat' (walk_at "z")
        · exact ⟨by omega, Nat.lt_of_lt_of_le (log2_small (by omega)) (by decide)⟩
        · have l1 : (Int.natAbs 3).log2 < 64 := by decide
          have l2 : (Int.natAbs many).log2 < 64 := log2_small (by omega)
          omega
        · exact ⟨by omega, Nat.lt_of_lt_of_le (log2_small (by omega)) (by decide)⟩
        · generalize hq : min (min 9 (16 / max 1 (x.size : Int))) (32 / (3 * many)) = q
          have q9 : q ≤ 9 := by omega
          have q0 : 0 ≤ q := by
            have : 0 ≤ 16 / max 1 (x.size : Int) := Int.ediv_nonneg (by omega) (by omega)
            have : 0 ≤ 32 / (3 * many) := Int.ediv_nonneg (by omega) (by omega)
            omega
          have q16 : x.size * q ≤ 16 := by
            have e1 : 16 / max 1 (x.size : Int) * max 1 (x.size : Int) ≤ 16 := Int.ediv_mul_le 16 (by omega)
            have e2 : q ≤ 16 / max 1 (x.size : Int) := by omega
            have e3 : (x.size : Int) * q ≤ max 1 (x.size : Int) * (16 / max 1 (x.size : Int)) := Int.mul_le_mul (by omega) e2 q0 (by omega)
            rw [Int.mul_comm (max 1 (x.size : Int))] at e3
            omega
          repeat' (walk_at "y")
          refine (spec_take ho2 (by omega) (by omega) (by omega)).imp ?_
          rintro _ _ ⟨r, a3, b3, c3, rfl, rfl, r0, r1, ho3⟩
          obtain ⟨r, rfl⟩ := Int.eq_ofNat_of_zero_le r0
          repeat' (walk_at "y")
          refine ⟨.times x r, _, _, _, rfl, rfl, ⟨hxm.1, by omega, by omega⟩, by simp only [Made.depth]; omega, ?_, ho3.mono (by omega)⟩
          have e4 : (x.size : Int) * (r : Int) ≤ x.size * q := Int.mul_le_mul_of_nonneg_left (by omega) (by omega)
          show x.size * r ≤ 16
          have : ((x.size * r : Nat) : Int) ≤ 16 := by rw [Int.natCast_mul]; omega
          omega
      · repeat' (walk_at "y")
        exact ⟨x, _, _, _, rfl, rfl, hxm.1, by omega, by omega, ho2.mono (by omega)⟩
end FD.Law

set_option Elab.async false
set_option linter.all false
set_option maxRecDepth 100000
namespace FD.Law
open PySem L2 FD
local macro_rules | `(tactic| walk_at "y1") => `(tactic| with_reducible first | refine y_seq ?_ | refine x_fld ?_ | refine x_oop ?_ | refine x_oun ?_ | refine x_len ?_ | refine x_meth ?_ | refine x_mkM ?_ | refine x_callAD ?_ | refine x_sf ?_ | refine x_addB ?_ | refine x_itB ?_ | refine y_setM ?_ | refine y_shD ?_ | refine z_fz ?_ | refine z_datS ?_ | refine z_datO ?_ | refine y_opS ?_ | refine y_callM ?_ | refine y_consM ?_ | refine y_ret ?_ | refine y_nx ?_ | refine y_rt ?_ | refine y_bk ?_ | refine y_ct ?_ | refine z_forN ?_ | refine z_forC ?_ | refine z_forB ?_ | refine z_forR ?_ | refine y_retM ?_ | refine y_ifM ?_ | refine y_tupM ?_ | refine y_lstM ?_ | refine y_testM ?_ | refine y_truM ?_ | refine y_notM ?_ | refine y_andM ?_ | refine y_orM ?_ | refine y_andV ?_ | refine y_orV ?_ | refine y_notV ?_ | refine y_dropM ?_ | refine y_augM ?_ | refine y_methM ?_ | refine y_slM ?_ | refine y_part ?_ | refine y_negM ?_ | refine y_replM ?_ | refine y_callA ?_ | refine y_arVal ?_ | refine y_arNil ?_ | refine y_fsCons ?_ | refine z_st ?_ | refine z_asg ?_ | refine z_par ?_ | refine y_forM ?_ | refine y_chain ?_ | refine wp_callT ?_ | refine wp_itM ?_ | refine y_bnd ?_)
local macro_rules | `(tactic| walk_at "e") => `(tactic| focus ((try simp only [setSl, setSls, gN, gT, gs0, gs1, get0, getS, set0, setS, own?, borS, pinAll, pin_un, pin_sh, pin_ow, pin_pn, pin_opt, List.map_cons, List.map_nil, wipeS, restS, argSls, argSl, Option.map, Option.bind, frzS, if_true, ite_true, Option.isSome, zipB, bb_un, bb_sh, bb_ow, bb_pn, bb_os, bb_ps, bb_opt, unpin, un_un, un_sh, un_ow, un_pn, un_opt, back, back1, Sl.dat, outs, List.length_cons, List.length_nil, Nat.zero_add, Nat.reduceAdd, Int.reduceToNat]); first | done | exact rfl))
local macro_rules | `(tactic| walk_at "f") => `(tactic| focus (first | exact rfl | (simp only [List.all_cons, List.all_nil, fo_un, fo_sh, fo_opt, fo_pn, Made.flats_enc, Made.flat_enc, flats_strs, flats_ints, flats, flat, Bool.and_self]; done)))
local macro_rules | `(tactic| walk_at "o") => `(tactic| with_reducible first | refine o_isP ?_ | refine o_f1 ?_ | refine o_f2 ?_ | refine o_f3 ?_ | refine o_f4 ?_ | refine o_f5 ?_ | refine o_inI ?_ | refine o_ninI ?_ | refine o_inT ?_ | refine o_ninT ?_ | refine o_addN ?_ ?_ | refine o_addN0 ?_ ?_ | refine o_addNs ?_ ?_ | refine o_addSt ?_ ?_ | refine o_lenSt ?_ | refine o_listNs ?_ | refine o_itN ?_ | refine o_itNs ?_ | refine o_itSt ?_ | refine o_enNs ?_ | refine o_sum ?_ | refine o_any ?_ | refine o_min2 ?_ | refine o_max2 ?_ | refine o_min3 ?_ | refine o_add ?_ | refine o_sub ?_ | refine o_mod ?_ ?_ | refine o_mul ?_ ?_ | refine o_fdiv ?_ ?_ | refine o_pow ?_ ?_ | refine o_lt ?_ | refine o_le ?_ | refine o_gt ?_ | refine o_ge ?_ | refine o_eqi ?_ | refine o_nei ?_ | refine o_eqs ?_ | refine o_nes ?_ | refine o_len ?_ | refine o_lent ?_ | refine o_lenc ?_ | refine o_lens ?_ ?_ | refine o_abs ?_ | refine o_rng1 ?_ ?_ | refine o_rng2 ?_ ?_ | refine o_int ?_ | refine o_adds ?_ ?_ | refine o_addl ?_ ?_ | refine o_addt ?_ ?_)
local macro_rules | `(tactic| walk_at "y2") => `(tactic| first
  | ((with_reducible apply y_get); exact rfl)
  | ((with_reducible apply x_sfQ); (walk_at "e"); exact rfl; exact rfl; (walk_at "e"))
  | ((with_reducible apply x_mkF); (walk_at "e"); exact rfl)
  | ((with_reducible apply x_mkQ); (walk_at "e"))
  | ((with_reducible apply x_rt); exact rfl)
  | ((with_reducible apply y_setF); (walk_at "e"))
  | ((with_reducible apply y_setF); exact set_at rfl (by first | assumption | exact free_opt _) (by walk_at "e"))
  | ((with_reducible apply y_setF); exact setO_at rfl (by first | assumption | exact free_opt _) (by walk_at "e"))
  | ((with_reducible apply y_lend); exact rfl)
  | ((with_reducible apply z_bor); (walk_at "e"))
  | ((with_reducible apply z_borQ); exact rfl; (walk_at "f"); (walk_at "e"))
  | ((with_reducible apply z_callF); (walk_at "e"); exact rfl)
  | ((with_reducible apply z_backQ); (walk_at "e"))
  | ((with_reducible apply z_callF1); (walk_at "e"); exact rfl)
  | ((with_reducible apply z_back1Q); (walk_at "e"))
  | ((with_reducible apply z_prot); (walk_at "e"))
  | ((with_reducible apply z_unpQ); (walk_at "e"))
  | ((with_reducible apply z_rtK); (walk_at "e"))
  | ((with_reducible apply z_rtN); (walk_at "e"))
  | ((with_reducible apply z_app); (walk_at "e"))
  | ((with_reducible apply z_appQ); (walk_at "e"); (walk_at "e"))
  | ((with_reducible apply z_stK); (walk_at "e"))
  | ((with_reducible apply z_stQ); (walk_at "e"); exact rfl; (walk_at "e"); (walk_at "e"))
  | ((with_reducible apply z_tgQ); (walk_at "e"))
  | ((with_reducible apply z_parQ); (walk_at "e"))
  | ((with_reducible apply y_frzM); (walk_at "e"))
  | ((with_reducible apply y_mv); exact rfl)
  | (walk_at "o")
  | ((with_reducible apply y_lft); exact rfl)
  | ((with_reducible apply y_t))
  | ((with_reducible apply y_f))
  | ((with_reducible apply y_nt))
  | ((with_reducible apply y_nf))
  | ((with_reducible apply y_len); (exact big_le (Nat.le_of_ble_eq_true rfl)))
  | (with_reducible refine ⟨_, rfl, ?_⟩)
  | (with_reducible refine ⟨_, _, rfl, ?_⟩)
  | fail "y")
local macro_rules | `(tactic| walk_at "y") => `(tactic| first | walk_at "y1" | walk_at "y2" | fail "y")
local macro_rules | `(tactic| walk_at "z2") => `(tactic| first
  | ((with_reducible apply y_get); exact rfl)
  | ((with_reducible apply x_sfQ); (walk_at "e"); exact rfl; exact rfl; (walk_at "e"))
  | ((with_reducible apply x_mkQ); (walk_at "e"))
  | ((with_reducible apply x_rt); exact rfl)
  | ((with_reducible apply y_setF); (walk_at "e"))
  | ((with_reducible apply y_setF); exact set_at rfl (by first | assumption | exact free_opt _) (by walk_at "e"))
  | ((with_reducible apply y_setF); exact setO_at rfl (by first | assumption | exact free_opt _) (by walk_at "e"))
  | ((with_reducible apply y_lend); exact rfl)
  | ((with_reducible apply z_bor); (walk_at "e"))
  | ((with_reducible apply z_borQ); exact rfl; (walk_at "f"); (walk_at "e"))
  | ((with_reducible apply z_backQ); (walk_at "e"))
  | ((with_reducible apply z_back1Q); (walk_at "e"))
  | ((with_reducible apply z_prot); (walk_at "e"))
  | ((with_reducible apply z_unpQ); (walk_at "e"))
  | ((with_reducible apply z_rtK); (walk_at "e"))
  | ((with_reducible apply z_rtN); (walk_at "e"))
  | ((with_reducible apply z_app); (walk_at "e"))
  | ((with_reducible apply z_appQ); (walk_at "e"); (walk_at "e"))
  | ((with_reducible apply z_stK); (walk_at "e"))
  | ((with_reducible apply z_stQ); (walk_at "e"); exact rfl; (walk_at "e"); (walk_at "e"))
  | ((with_reducible apply z_tgQ); (walk_at "e"))
  | ((with_reducible apply z_parQ); (walk_at "e"))
  | ((with_reducible apply y_frzM); (walk_at "e"))
  | ((with_reducible apply y_mv); exact rfl)
  | (walk_at "o")
  | ((with_reducible apply y_lft); exact rfl)
  | ((with_reducible apply y_t))
  | ((with_reducible apply y_f))
  | ((with_reducible apply y_nt))
  | ((with_reducible apply y_nf))
  | ((with_reducible apply y_len); (exact big_le (Nat.le_of_ble_eq_true rfl)))
  | (with_reducible refine ⟨_, rfl, ?_⟩)
  | (with_reducible refine ⟨_, _, rfl, ?_⟩)
  | fail "y")
local macro_rules | `(tactic| walk_at "z") => `(tactic| first | walk_at "y1" | (with_reducible refine x_pat ?_) | walk_at "z2" | fail "z")
local macro_rules | `(tactic| walk_at "s") => `(tactic| first | (rw [hline]; omega) | (simp only [at_len, mv_len, List.length_map, List.length_append, hline]; omega) | fail "s")
local macro_rules | `(tactic| walk_at "zs") => `(tactic| first | walk_at "z" | walk_at "s" | fail "zs")
local macro_rules | `(tactic| walk_at "d") => `(tactic| first | (with_reducible refine y_tb (by decide +kernel) ?_) | (with_reducible refine y_fb (by decide +kernel) ?_) | fail "d")
local macro_rules | `(tactic| walk_at "zd") => `(tactic| first | walk_at "z" | walk_at "d" | fail "zd")
abbrev E4 : DM Fl := (ifM (orM (testM (opS neS (fz (lenOM ((0, F_Pattern_len) :: []) (fz (oopM (binGI ((0, F_Pattern_mul) :: [])) (get 6) (ret (.int 0)))))) (ret (.int 0)))) (orM (testM (opS neS (fz (methO "uses" ((0, F_Pattern_uses) :: []) (fz (oopM (binGI ((0, F_Pattern_mul) :: [])) (get 6) (ret (.int 0)))) arNil)) (fz (lstM (ret []))))) (testM (opS neS (fz (lenOM ((0, F_Pattern_len) :: []) (fz (callAD F_one [.str "plain"] (arVal (fz (opS ixS (get 3) (ret (.int 0)))) arNil))))) (ret (.int 1)))))) (retM (shD (ret (.bl false)))) (ret .nx))
abbrev E3 : DM Fl := (seqM (ifM (testM (opS leS (fz (opS addS (get 7) (fz (lenOM ((0, F_Pattern_len) :: []) (get 9))))) (ret (.int 16)))) (seqM (parM [12, 13] (fsCons (shD (fz (oopM (binG ((0, F_Pattern_add) :: [])) (get 6) (get 9)))) (fsCons (shD (fz (oopM (binG ((0, F_Pattern_or) :: [])) (get 9) (get 6)))) (ret []))))
  (seqM (ifM (orM (testM (opS neS (fz (lenOM ((0, F_Pattern_len) :: []) (get 12))) (fz (opS addS (get 7) (fz (lenOM ((0, F_Pattern_len) :: []) (get 9))))))) (testM (opS neS (fz (lenOM ((0, F_Pattern_len) :: []) (get 13))) (fz (lenOM ((0, F_Pattern_len) :: []) (get 12)))))) (retM (shD (ret (.bl false)))) (ret .nx))
  (ifM (testM (opS neS (fz (methO "uses" ((0, F_Pattern_uses) :: []) (get 12) arNil)) (fz (methO "uses" ((0, F_Pattern_uses) :: []) (get 13) arNil)))) (retM (shD (ret (.bl false)))) (ret .nx)))) (ret .nx))
  E4)
abbrev E2 : DM Fl := (seqM (ifM (orM (testM (opS neS (fz (methO "uses" ((0, F_Pattern_uses) :: []) (get 6) arNil)) (get 8))) (orM (testM (opS neS (fz (lenOM ((0, F_Pattern_len) :: []) (get 6))) (get 7))) (testM (opS neS (fz (callM sortD (consM (get 11) (ret [])))) (get 11))))) (retM (shD (ret (.bl false)))) (ret .nx))
  (seqM (ifM (orM (testM (opS neS (fz (lenOM ((0, F_Pattern_len) :: []) (fz (ounM (unG ((0, F_Pattern_neg) :: [])) (get 6))))) (get 7))) (orM (testM (opS neS (fz (lenOM ((0, F_Pattern_len) :: []) (fz (ounM (unG ((0, F_Pattern_pos) :: [])) (get 6))))) (get 7))) (testM (opS neS (fz (lenOM ((0, F_Pattern_len) :: []) (fz (ounM (unG ((0, F_Pattern_invert) :: [])) (get 6))))) (get 7))))) (retM (shD (ret (.bl false)))) (ret .nx))
  E3))
abbrev E1 : DM Fl := (seqM (ifM (orM (notM (truM (fz (callM (isiO sub) (consM (get 6) (consM (ret (.cls 0)) (ret []))))))) (notM (truM (fz (callM (isiO sub) (consM (get 9) (consM (ret (.cls 0)) (ret [])))))))) (retM (shD (ret (.bl false)))) (ret .nx))
  (seqM (setM 10 (methO "uses" ((0, F_Pattern_uses) :: []) (get 6) arNil))
  (seqM (ifM (orM (testM (opS neS (fz (lenOM ((0, F_Pattern_len) :: []) (get 6))) (get 7))) (orM (bor (fun _ => true) 10 (testM (opS neS (get 10) (get 8)))) (notM (truM (fz (bor flatR 10 (callM (isiO sub) (consM (get 10) (consM (ret (.opq (.ty "list"))) (ret [])))))))))) (retM (shD (ret (.bl false)))) (ret .nx))
  (seqM (appM 10 (consM (fz (opS ixS (get 3) (ret (.int 0)))) (ret [])))
  (seqM (setM 11 (shD (fz (methO "uses" ((0, F_Pattern_uses) :: []) (get 9) arNil))))
  E2)))))
theorem nde {i j : Int} (e : i = j) : (!decide (i = j)) = false := by rw [decide_eq_true e]; rfl
theorem x_callL {ρ : List Sl} {F : DF} {ds : List D} {ars : List Ar} {n : Nat} {Q : Sl → List Sl → Prop} (h : Is F ds (.sh (.int n))) (e : ars = ds.map .val) (hn : n ≤ 100000) (q : Q (.sh (.int n)) ρ) : Wp (callF F ars) ρ (fun sl ρ2 => ∃ k : Int, sl = .sh (.int k) ∧ (0 ≤ k ∧ k < 2 ^ 63) ∧ Q (.sh (.int k)) ρ2) :=
  x_call h e ⟨_, rfl, ⟨by omega, by omega⟩, q⟩
theorem is_lenN {A : Aut} {n : Nat} (h : A.steps.length = n) : Is F_Pattern_len [pat A] (.sh (.int n)) := by
  subst h
  exact is_len
@[reducible] def evL (ns : List Int) (d1 : D) (x2 : Sl) (ss : List Str) (d4 d5 : D) (m m2 : Made) (x10 x11 x12 x13 : Sl) : List Sl :=
  [.sh (.scr ns), .sh d1, x2, .sh (.lst (ss.map .str)), .sh d4, .sh d5, .sh (pat m.aut), .sh (.int m.size), .sh (.lst ((m.syms.mergeSort leS').map .str)), .sh (pat m2.aut), x10, x11, x12, x13, .un]
section
variable {ns : List Int} {d1 d4 d5 : D} {ss : List Str} {m m2 : Made} {Q : Fl → List Sl → Prop}
theorem at0 (hs : 0 < ss.length) : ∃ s, atI (ss.map D.str) 0 = some (.str s) := by
  obtain ⟨s, h⟩ : ∃ s, ss[0]? = some s := ⟨_, List.getElem?_eq_getElem hs⟩
  have h0 : ixN (ss.map D.str).length 0 = some 0 := ixN_ok (i := 0) (by rw [List.length_map]; exact hs)
  exact ⟨s, by simp only [atI, h0, Option.bind_some, List.getElem?_map, h, Option.map_some]⟩
theorem turn4 {x2 x10 x11 x12 x13 : Sl} (hs : 0 < ss.length) (hm : m.size ≤ 16) (h : Q .nx (evL ns d1 x2 ss d4 d5 m m2 x10 x11 x12 x13)) : Wp E4 (evL ns d1 x2 ss d4 d5 m m2 x10 x11 x12 x13) Q := by
  have sm : Sm m.aut := made_sm (by omega)
  obtain ⟨s, e0⟩ := at0 hs
  repeat' (walk_at "z")
  refine x_call (is_mul (n := 0) sm (by decide) (by omega)) rfl ?_
  repeat' (walk_at "z")
  refine x_callL (is_lenN (A := m.aut.rep 0) (n := 0) rfl) rfl (by decide) ?_
  repeat' (walk_at "z")
  refine y_fb (nde rfl) ?_
  repeat' (walk_at "z")
  refine x_call (is_mul (n := 0) sm (by decide) (by omega)) rfl ?_
  repeat' (walk_at "z")
  refine x_call (is_uses (A := m.aut.rep 0) (Nat.zero_le _)) rfl ?_
  repeat' (walk_at "z")
  refine o_neL (a := sortT []) (b := []) sortT_nil ?_
  repeat' (walk_at "z")
  refine o_ix e0 ?_
  repeat' (walk_at "z")
  refine x_call (is_one (s := s) (r := "plain")) rfl ?_
  repeat' (walk_at "z")
  refine x_callL (is_lenN (A := .one s "plain") (n := 1) rfl) rfl (by decide) ?_
  repeat' (walk_at "z")
  refine y_fb (nde rfl) ?_
  repeat' (walk_at "z")
  exact h
theorem uses_made : sortT (m.aut.steps.map (·.1)) = m.syms.mergeSort leS' := sortT_srt m.syms_nd fun x => m.syms_mem.symm
theorem turn3 {d11 : D} {o12 o13 : Option D} {a b c : Int} {ts : List Str} (hs : 0 < ss.length) (hm : m.size ≤ 16) (hm2 : m2.size ≤ 16) (h : ∀ o12 o13, Q .nx (evL ns d1 (.ow (dice a b c)) ss d4 d5 m m2 (.ow (.lst (ts.map .str))) (.sh d11) (opt o12) (opt o13))) : Wp E3 (evL ns d1 (.ow (dice a b c)) ss d4 d5 m m2 (.ow (.lst (ts.map .str))) (.sh d11) (opt o12) (opt o13)) Q := by
  have sm : Sm m.aut := made_sm (by omega)
  have sm2 : Sm m2.aut := made_sm (by omega)
  have l1 : (m.aut.chain m2.aut).steps.length = m.size + m2.size := by
    show (m.aut.steps ++ m2.aut.steps).length = _
    rw [List.length_append, m.steps_len, m2.steps_len]
  have l2 : (m2.aut.alt m.aut).steps.length = m2.size + m.size := by
    show (m2.aut.steps ++ m.aut.steps).length = _
    rw [List.length_append, m.steps_len, m2.steps_len]
  repeat' (walk_at "z")
  refine x_callL (is_lenN m2.steps_len) rfl (by omega) ?_
  repeat' (walk_at "z")
  refine y_dec (fun hin => ?_) (fun hin => ?_)
  · repeat' (walk_at "z")
    refine x_call (is_add sm sm2) rfl ?_
    repeat' (walk_at "z")
    refine x_call (is_or sm2 sm) rfl ?_
    repeat' (walk_at "z")
    refine z_parQ (ρ' := evL ns d1 (.ow (dice a b c)) ss d4 d5 m m2 (.ow (.lst (ts.map .str))) (.sh d11) (.sh (pat (m.aut.chain m2.aut))) (.sh (pat (m2.aut.alt m.aut)))) (by cases o12 <;> cases o13 <;> rfl) ?_
    repeat' (walk_at "z")
    refine x_callL (is_lenN l1) rfl (by omega) ?_
    repeat' (walk_at "z")
    refine x_callL (is_lenN m2.steps_len) rfl (by omega) ?_
    repeat' (walk_at "z")
    refine y_fb (nde (by omega)) ?_
    repeat' (walk_at "z")
    refine x_callL (is_lenN l2) rfl (by omega) ?_
    repeat' (walk_at "z")
    refine x_callL (is_lenN l1) rfl (by omega) ?_
    repeat' (walk_at "z")
    refine y_fb (nde (by omega)) ?_
    repeat' (walk_at "z")
    refine x_call (is_uses (A := m.aut.chain m2.aut) (by omega)) rfl ?_
    repeat' (walk_at "z")
    refine x_call (is_uses (A := m2.aut.alt m.aut) (by omega)) rfl ?_
    repeat' (walk_at "z")
    refine o_neL (sortT_eq fun x => ?_) ?_
    · show x ∈ (m.aut.steps ++ m2.aut.steps).map _ ↔ x ∈ (m2.aut.steps ++ m.aut.steps).map _
      rw [List.map_append, List.map_append, List.mem_append, List.mem_append, or_comm]
    · repeat' (first | exact turn4 hs hm (h (some (pat (m.aut.chain m2.aut))) (some (pat (m2.aut.alt m.aut)))) | walk_at "z")
  · iterate 2 (walk_at "z")
    exact turn4 hs hm (h o12 o13)
theorem turn2 {d11 : D} {o12 o13 : Option D} {a b c : Int} {ts : List Str} (e11 : d11 = .lst ((sortT (m2.aut.steps.map (·.1))).map .str)) (hs : 0 < ss.length) (hm : m.size ≤ 16) (hm2 : m2.size ≤ 16) (h : ∀ o12 o13, Q .nx (evL ns d1 (.ow (dice a b c)) ss d4 d5 m m2 (.ow (.lst (ts.map .str))) (.sh d11) (opt o12) (opt o13))) : Wp E2 (evL ns d1 (.ow (dice a b c)) ss d4 d5 m m2 (.ow (.lst (ts.map .str))) (.sh d11) (opt o12) (opt o13)) Q := by
  have hz : sizeLine = 2 ^ 24 := rfl
  have sm : Sm m.aut := made_sm (by omega)
  have l0 := m.steps_len
  have l2 := m2.steps_len
  have l3 := sortT_len (m2.aut.steps.map (·.1))
  rw [List.length_map] at l3
  subst e11
  repeat' (walk_at "z")
  refine x_call (is_uses (A := m.aut) (by omega)) rfl ?_
  repeat' (walk_at "z")
  refine o_neL uses_made ?_
  repeat' (walk_at "z")
  refine x_callL (is_lenN m.steps_len) rfl (by omega) ?_
  repeat' (walk_at "z")
  refine y_fb (nde rfl) ?_
  repeat' (walk_at "z")
  refine o_sorts (by omega) ?_
  repeat' (walk_at "z")
  refine o_neL (srt_sortT _) ?_
  repeat' (walk_at "z")
  refine x_call (is_neg (A := m.aut)) rfl ?_
  repeat' (walk_at "z")
  refine x_callL (is_lenN (A := m.aut.maybe) m.steps_len) rfl (by omega) ?_
  repeat' (walk_at "z")
  refine y_fb (nde rfl) ?_
  repeat' (walk_at "z")
  refine x_call (is_pos sm) rfl ?_
  repeat' (walk_at "z")
  refine x_callL (is_lenN (A := m.aut.loop false) m.steps_len) rfl (by omega) ?_
  repeat' (walk_at "z")
  refine y_fb (nde rfl) ?_
  repeat' (walk_at "z")
  refine x_call (is_inv sm) rfl ?_
  repeat' (walk_at "z")
  refine x_callL (is_lenN (A := m.aut.loop true) m.steps_len) rfl (by omega) ?_
  repeat' (walk_at "z")
  refine y_fb (nde rfl) ?_
  iterate 2 (walk_at "z")
  exact turn3 hs hm hm2 h
theorem turn1 {o11 o12 o13 : Option D} {a b c : Int} {x10 : Sl} (hx : free x10 = true) (hs : 0 < ss.length) (hm : m.size ≤ 16) (hm2 : m2.size ≤ 16) (h : ∀ ts o11 o12 o13, Q .nx (evL ns d1 (.ow (dice a b c)) ss d4 d5 m m2 (.ow (.lst (List.map D.str ts))) (opt o11) (opt o12) (opt o13))) : Wp E1 (evL ns d1 (.ow (dice a b c)) ss d4 d5 m m2 x10 (opt o11) (opt o12) (opt o13)) Q := by
  have hz : sizeLine = 2 ^ 24 := rfl
  have sm : Sm m.aut := made_sm (by omega)
  have l0 := m.steps_len
  have l2 := m2.steps_len
  have l3 := sortT_len (m.aut.steps.map (·.1))
  rw [List.length_map] at l3
  obtain ⟨s, e0⟩ := at0 hs
  repeat' (walk_at "z")
  refine x_call (is_uses (A := m.aut) (by omega)) rfl ?_
  repeat' (walk_at "z")
  refine x_callL (is_lenN m.steps_len) rfl (by omega) ?_
  repeat' (walk_at "z")
  refine y_fb (nde rfl) ?_
  repeat' (walk_at "z")
  refine o_neL uses_made ?_
  repeat' (walk_at "z")
  refine o_ix e0 ?_
  repeat' (walk_at "z")
  · rw [List.length_map]; omega
  refine x_call (is_uses (A := m2.aut) (by omega)) rfl ?_
  have e1 : List.map D.str (sortT (List.map (fun x => x.fst) m.aut.steps)) ++ [D.str s] = (sortT (m.aut.steps.map (·.1)) ++ [s]).map D.str := by rw [List.map_append]; rfl
  have fin : Wp E2 (evL ns d1 (.ow (dice a b c)) ss d4 d5 m m2 (.ow (.lst (List.map D.str (sortT (List.map (fun x => x.fst) m.aut.steps)) ++ [D.str s]))) (.sh (.lst ((sortT (m2.aut.steps.map (·.1))).map .str))) (opt o12) (opt o13)) Q := by
    rw [e1]
    exact turn2 rfl hs hm hm2 fun o12 o13 => h _ (some _) o12 o13
  repeat' (first | exact fin | walk_at "z")
end
abbrev E0 : DM Fl := (frzM 4 (seqM (setM 5 (shD (fz (callA F_law_any (arLend 2 (arVal (get 3) (arVal (get 4) (arVal (ret (.int 5)) arNil))))))))
  (seqM (parM [6, 7] (fsCons (shD (fz (callA F_law_pattern (arVal (get 5) arNil)))) (fsCons (shD (fz (callA F_law_size (arVal (get 5) arNil)))) (ret []))))
  (seqM (setM 8 (shD (fz (callM sortD (consM (fz (callA F_law_symbols (arVal (get 5) arNil))) (ret []))))))
  (seqM (setM 9 (shD (fz (callA F_law_pattern (arVal (fz (callA F_law_any (arLend 2 (arVal (get 3) (arVal (get 4) (arVal (ret (.int 5)) arNil)))))) arNil)))))
  E1)))))
theorem turn0 {ns : List Int} {d1 : D} {ss rs : List Str} {Q : Fl → List Sl → Prop} {n : Nat} {a b c : Int} {o5 o6 o7 o8 o9 o11 o12 o13 : Option D} {x10 : Sl} (hx : x10 = .un ∨ ∃ ts : List Str, x10 = .ow (.lst (ts.map .str))) (hd : Ok n a b c) (hn : n < 100000) (hs : 0 < ss.length) (hs2 : ss.length < 1000) (hr : 0 < rs.length) (hr2 : rs.length < 1000)
    (h : ∀ a b c d5 (m m2 : Made) ts o11 o12 o13, Q .nx (evL ns d1 (.ow (dice a b c)) ss (.lst (rs.map .str)) d5 m m2 (.ow (.lst (List.map D.str ts))) (opt o11) (opt o12) (opt o13))) :
    Wp E0 [.sh (.scr ns), .sh d1, .ow (dice a b c), .sh (.lst (ss.map .str)), .ow (.lst (rs.map .str)), opt o5, opt o6, opt o7, opt o8, opt o9, x10, opt o11, opt o12, opt o13, .un] Q := by
  have hz : sizeLine = 2 ^ 24 := rfl
  have hf : free x10 = true := by
    rcases hx with rfl | ⟨ts, rfl⟩ <;> rfl
  repeat' (walk_at "y")
  refine (spec_any hd (by omega) hs hs2 hr hr2).imp ?_
  rintro _ _ ⟨m, a1, b1, c1, rfl, rfl, mf, md, msz, hd1⟩
  have hl : m.syms.length ≤ 2 ^ 13 := Nat.le_trans (syms_len m mf) (Nat.pow_le_pow_right (by decide) md)
  have key : Wp (seqM (setM 8 (shD (fz (callM sortD (consM (fz (callA F_law_symbols (arVal (get 5) arNil))) (ret []))))))
      (seqM (setM 9 (shD (fz (callA F_law_pattern (arVal (fz (callA F_law_any (arLend 2 (arVal (get 3) (arVal (get 4) (arVal (ret (.int 5)) arNil)))))) arNil))))) E1)) [.sh (.scr ns), .sh d1, .ow (dice a1 b1 c1), .sh (.lst (ss.map .str)), .sh (.lst (rs.map .str)), .sh m.enc, .sh (pat m.aut), .sh (.int m.size), opt o8, opt o9, x10, opt o11, opt o12, opt o13, .un] Q := by
    repeat' (walk_at "z")
    refine x_callD (is_symbols m 20 (by omega) mf (by omega)) rfl ?_
    repeat' (walk_at "z")
    refine o_sorts (by omega) ?_
    repeat' (walk_at "y")
    refine (spec_any hd1 (by omega) hs hs2 hr hr2).imp ?_
    rintro _ _ ⟨m2, a2, b2, c2, rfl, rfl, mf2, md2, msz2, hd2⟩
    repeat' (walk_at "z")
    refine x_call (is_pattern m2 20 (by omega) mf2) rfl ?_
    repeat' (first | exact turn1 hf hs msz msz2 fun ts o11 o12 o13 => h a2 b2 c2 m.enc m m2 ts o11 o12 o13 | walk_at "z")
  repeat' (walk_at "z")
  refine x_call (is_pattern m 20 (by omega) mf) rfl ?_
  rcases hx with rfl | ⟨ts, rfl⟩
  · repeat' (walk_at "z")
    refine x_call (is_size m 20 (by omega) mf) rfl ?_
    repeat' (walk_at "z")
    refine z_parQ (ρ' := [.sh (.scr ns), .sh d1, .ow (dice a1 b1 c1), .sh (.lst (ss.map .str)), .sh (.lst (rs.map .str)), .sh m.enc, .sh (pat m.aut), .sh (.int m.size), opt o8, opt o9, .un, opt o11, opt o12, opt o13, .un]) (by cases o6 <;> cases o7 <;> rfl) ?_
    exact key
  · repeat' (walk_at "z")
    refine x_call (is_size m 20 (by omega) mf) rfl ?_
    repeat' (walk_at "z")
    refine z_parQ (ρ' := [.sh (.scr ns), .sh d1, .ow (dice a1 b1 c1), .sh (.lst (ss.map .str)), .sh (.lst (rs.map .str)), .sh m.enc, .sh (pat m.aut), .sh (.int m.size), opt o8, opt o9, .ow (.lst (ts.map .str)), opt o11, opt o12, opt o13, .un]) (by cases o6 <;> cases o7 <;> rfl) ?_
    exact key
end FD.Law

set_option Elab.async false
set_option linter.all false
set_option maxRecDepth 100000
namespace FD.Law
open PySem L2 FD
local macro_rules | `(tactic| walk_at "y1") => `(tactic| with_reducible first | refine y_seq ?_ | refine x_fld ?_ | refine x_oop ?_ | refine x_oun ?_ | refine x_len ?_ | refine x_meth ?_ | refine x_mkM ?_ | refine x_callAD ?_ | refine x_sf ?_ | refine x_addB ?_ | refine x_itB ?_ | refine y_setM ?_ | refine y_shD ?_ | refine z_fz ?_ | refine z_datS ?_ | refine z_datO ?_ | refine y_opS ?_ | refine y_callM ?_ | refine y_consM ?_ | refine y_ret ?_ | refine y_nx ?_ | refine y_rt ?_ | refine y_bk ?_ | refine y_ct ?_ | refine z_forN ?_ | refine z_forC ?_ | refine z_forB ?_ | refine z_forR ?_ | refine y_retM ?_ | refine y_ifM ?_ | refine y_tupM ?_ | refine y_lstM ?_ | refine y_testM ?_ | refine y_truM ?_ | refine y_notM ?_ | refine y_andM ?_ | refine y_orM ?_ | refine y_andV ?_ | refine y_orV ?_ | refine y_notV ?_ | refine y_dropM ?_ | refine y_augM ?_ | refine y_methM ?_ | refine y_slM ?_ | refine y_part ?_ | refine y_negM ?_ | refine y_replM ?_ | refine y_callA ?_ | refine y_arVal ?_ | refine y_arNil ?_ | refine y_fsCons ?_ | refine z_st ?_ | refine z_asg ?_ | refine z_par ?_ | refine y_forM ?_ | refine y_chain ?_ | refine wp_callT ?_ | refine wp_itM ?_ | refine y_bnd ?_)
local macro_rules | `(tactic| walk_at "e") => `(tactic| focus ((try simp only [setSl, setSls, gN, gT, gs0, gs1, get0, getS, set0, setS, own?, borS, pinAll, pin_un, pin_sh, pin_ow, pin_pn, pin_opt, List.map_cons, List.map_nil, wipeS, restS, argSls, argSl, Option.map, Option.bind, frzS, if_true, ite_true, Option.isSome, zipB, bb_un, bb_sh, bb_ow, bb_pn, bb_os, bb_ps, bb_opt, unpin, un_un, un_sh, un_ow, un_pn, un_opt, back, back1, Sl.dat, outs, List.length_cons, List.length_nil, Nat.zero_add, Nat.reduceAdd, Int.reduceToNat]); first | done | exact rfl))
local macro_rules | `(tactic| walk_at "f") => `(tactic| focus (first | exact rfl | (simp only [List.all_cons, List.all_nil, fo_un, fo_sh, fo_opt, fo_pn, Made.flats_enc, Made.flat_enc, flats_strs, flats_ints, flats, flat, Bool.and_self]; done)))
local macro_rules | `(tactic| walk_at "o") => `(tactic| with_reducible first | refine o_isP ?_ | refine o_f1 ?_ | refine o_f2 ?_ | refine o_f3 ?_ | refine o_f4 ?_ | refine o_f5 ?_ | refine o_inI ?_ | refine o_ninI ?_ | refine o_inT ?_ | refine o_ninT ?_ | refine o_addN ?_ ?_ | refine o_addN0 ?_ ?_ | refine o_addNs ?_ ?_ | refine o_addSt ?_ ?_ | refine o_lenSt ?_ | refine o_listNs ?_ | refine o_itN ?_ | refine o_itNs ?_ | refine o_itSt ?_ | refine o_enNs ?_ | refine o_sum ?_ | refine o_any ?_ | refine o_min2 ?_ | refine o_max2 ?_ | refine o_min3 ?_ | refine o_add ?_ | refine o_sub ?_ | refine o_mod ?_ ?_ | refine o_mul ?_ ?_ | refine o_fdiv ?_ ?_ | refine o_pow ?_ ?_ | refine o_lt ?_ | refine o_le ?_ | refine o_gt ?_ | refine o_ge ?_ | refine o_eqi ?_ | refine o_nei ?_ | refine o_eqs ?_ | refine o_nes ?_ | refine o_len ?_ | refine o_lent ?_ | refine o_lenc ?_ | refine o_lens ?_ ?_ | refine o_abs ?_ | refine o_rng1 ?_ ?_ | refine o_rng2 ?_ ?_ | refine o_int ?_ | refine o_adds ?_ ?_ | refine o_addl ?_ ?_ | refine o_addt ?_ ?_)
local macro_rules | `(tactic| walk_at "y2") => `(tactic| first
  | ((with_reducible apply y_get); exact rfl)
  | ((with_reducible apply x_sfQ); (walk_at "e"); exact rfl; exact rfl; (walk_at "e"))
  | ((with_reducible apply x_mkF); (walk_at "e"); exact rfl)
  | ((with_reducible apply x_mkQ); (walk_at "e"))
  | ((with_reducible apply x_rt); exact rfl)
  | ((with_reducible apply y_setF); (walk_at "e"))
  | ((with_reducible apply y_setF); exact set_at rfl (by first | assumption | exact free_opt _) (by walk_at "e"))
  | ((with_reducible apply y_setF); exact setO_at rfl (by first | assumption | exact free_opt _) (by walk_at "e"))
  | ((with_reducible apply y_lend); exact rfl)
  | ((with_reducible apply z_bor); (walk_at "e"))
  | ((with_reducible apply z_borQ); exact rfl; (walk_at "f"); (walk_at "e"))
  | ((with_reducible apply z_callF); (walk_at "e"); exact rfl)
  | ((with_reducible apply z_backQ); (walk_at "e"))
  | ((with_reducible apply z_callF1); (walk_at "e"); exact rfl)
  | ((with_reducible apply z_back1Q); (walk_at "e"))
  | ((with_reducible apply z_prot); (walk_at "e"))
  | ((with_reducible apply z_unpQ); (walk_at "e"))
  | ((with_reducible apply z_rtK); (walk_at "e"))
  | ((with_reducible apply z_rtN); (walk_at "e"))
  | ((with_reducible apply z_app); (walk_at "e"))
  | ((with_reducible apply z_appQ); (walk_at "e"); (walk_at "e"))
  | ((with_reducible apply z_stK); (walk_at "e"))
  | ((with_reducible apply z_stQ); (walk_at "e"); exact rfl; (walk_at "e"); (walk_at "e"))
  | ((with_reducible apply z_tgQ); (walk_at "e"))
  | ((with_reducible apply z_parQ); (walk_at "e"))
  | ((with_reducible apply y_frzM); (walk_at "e"))
  | ((with_reducible apply y_mv); exact rfl)
  | (walk_at "o")
  | ((with_reducible apply y_lft); exact rfl)
  | ((with_reducible apply y_t))
  | ((with_reducible apply y_f))
  | ((with_reducible apply y_nt))
  | ((with_reducible apply y_nf))
  | ((with_reducible apply y_len); (exact big_le (Nat.le_of_ble_eq_true rfl)))
  | (with_reducible refine ⟨_, rfl, ?_⟩)
  | (with_reducible refine ⟨_, _, rfl, ?_⟩)
  | fail "y")
local macro_rules | `(tactic| walk_at "y") => `(tactic| first | walk_at "y1" | walk_at "y2" | fail "y")
local macro_rules | `(tactic| walk_at "z2") => `(tactic| first
  | ((with_reducible apply y_get); exact rfl)
  | ((with_reducible apply x_sfQ); (walk_at "e"); exact rfl; exact rfl; (walk_at "e"))
  | ((with_reducible apply x_mkQ); (walk_at "e"))
  | ((with_reducible apply x_rt); exact rfl)
  | ((with_reducible apply y_setF); (walk_at "e"))
  | ((with_reducible apply y_setF); exact set_at rfl (by first | assumption | exact free_opt _) (by walk_at "e"))
  | ((with_reducible apply y_setF); exact setO_at rfl (by first | assumption | exact free_opt _) (by walk_at "e"))
  | ((with_reducible apply y_lend); exact rfl)
  | ((with_reducible apply z_bor); (walk_at "e"))
  | ((with_reducible apply z_borQ); exact rfl; (walk_at "f"); (walk_at "e"))
  | ((with_reducible apply z_backQ); (walk_at "e"))
  | ((with_reducible apply z_back1Q); (walk_at "e"))
  | ((with_reducible apply z_prot); (walk_at "e"))
  | ((with_reducible apply z_unpQ); (walk_at "e"))
  | ((with_reducible apply z_rtK); (walk_at "e"))
  | ((with_reducible apply z_rtN); (walk_at "e"))
  | ((with_reducible apply z_app); (walk_at "e"))
  | ((with_reducible apply z_appQ); (walk_at "e"); (walk_at "e"))
  | ((with_reducible apply z_stK); (walk_at "e"))
  | ((with_reducible apply z_stQ); (walk_at "e"); exact rfl; (walk_at "e"); (walk_at "e"))
  | ((with_reducible apply z_tgQ); (walk_at "e"))
  | ((with_reducible apply z_parQ); (walk_at "e"))
  | ((with_reducible apply y_frzM); (walk_at "e"))
  | ((with_reducible apply y_mv); exact rfl)
  | (walk_at "o")
  | ((with_reducible apply y_lft); exact rfl)
  | ((with_reducible apply y_t))
  | ((with_reducible apply y_f))
  | ((with_reducible apply y_nt))
  | ((with_reducible apply y_nf))
  | ((with_reducible apply y_len); (exact big_le (Nat.le_of_ble_eq_true rfl)))
  | (with_reducible refine ⟨_, rfl, ?_⟩)
  | (with_reducible refine ⟨_, _, rfl, ?_⟩)
  | fail "y")
local macro_rules | `(tactic| walk_at "z") => `(tactic| first | walk_at "y1" | (with_reducible refine x_pat ?_) | walk_at "z2" | fail "z")
local macro_rules | `(tactic| walk_at "s") => `(tactic| first | (rw [hline]; omega) | (simp only [at_len, mv_len, List.length_map, List.length_append, hline]; omega) | fail "s")
local macro_rules | `(tactic| walk_at "zs") => `(tactic| first | walk_at "z" | walk_at "s" | fail "zs")
local macro_rules | `(tactic| walk_at "d") => `(tactic| first | (with_reducible refine y_tb (by decide +kernel) ?_) | (with_reducible refine y_fb (by decide +kernel) ?_) | fail "d")
local macro_rules | `(tactic| walk_at "zd") => `(tactic| first | walk_at "z" | walk_at "d" | fail "zd")
theorem law_turn {ns : List Int} {i : Nat} (hi : i < 10) {Q : Fl → List Sl → Prop} {o3 o4 o5 o6 o7 o8 o9 o11 o12 o13 : Option D} {x2 x10 : Sl} (h2 : free x2 = true) (hx : x10 = .un ∨ ∃ ts : List Str, x10 = .ow (.lst (ts.map .str)))
    (h : ∀ a b c (ss rs : List Str) d5 (m m2 : Made) ts o11 o12 o13, Q .nx (evL ns (.int (i : Nat)) (.ow (dice a b c)) ss (.lst (rs.map .str)) d5 m m2 (.ow (.lst (List.map D.str ts))) (opt o11) (opt o12) (opt o13))) :
    Wp (seqM (setM 2 (callA F_law_bag (arVal (get 0) (arVal (get 1) arNil))))
  (seqM (setM 3 (shD (fz (callA F_law_words (arLend 2 (arVal (fz (opS addS (ret (.int 1)) (fz (callA F_law_take (arLend 2 (arVal (ret (.int 5)) arNil)))))) arNil))))))
  (seqM (setM 4 (lcM [14] (bnd (consM (fz (opS addS (ret (.int 1)) (fz (callA F_law_take (arLend 2 (arVal (ret (.int 3)) arNil)))))) (ret [])) fun ds => lft (rng1 ds)) (gN 14) (ret true) (fz (callA F_law_name (arLend 2 (arVal (fz (lstM (ret []))) arNil))))))
  E0))) [.sh (.scr ns), .sh (.int (i : Nat)), x2, opt o3, opt o4, opt o5, opt o6, opt o7, opt o8, opt o9, x10, opt o11, opt o12, opt o13, .un] Q := by
  have hz : sizeLine = 2 ^ 24 := rfl
  repeat' (walk_at "y")
  refine (spec_bag (by omega) (by omega)).imp ?_
  rintro _ _ ⟨a, b, c, rfl, rfl, hd⟩
  repeat' (walk_at "y")
  refine (spec_take hd (by omega) (by omega) (by omega)).imp ?_
  rintro _ _ ⟨r, a1, b1, c1, rfl, rfl, r0, r1, hd1⟩
  repeat' (walk_at "y")
  refine (spec_words hd1 (by omega) (by omega) (by omega)).imp ?_
  rintro _ _ ⟨ss, a2, b2, c2, rfl, rfl, hs, hd2⟩
  have fin : ∀ (rs : List Str) a b c n, Ok n a b c → n < 1000 → 0 < rs.length → rs.length < 10 → Wp E0 [.sh (.scr ns), .sh (.int (i : Nat)), .ow (dice a b c), .sh (.lst (ss.map .str)), .ow (.lst (rs.map .str)), opt o5, opt o6, opt o7, opt o8, opt o9, x10, opt o11, opt o12, opt o13, .un] Q := fun rs a b c n ho hn h1 h2 =>
    turn0 hx ho (by omega) (by omega) (by omega) h1 (by omega) fun a b c d5 m m2 ts o11 o12 o13 => h a b c ss rs d5 m m2 ts o11 o12 o13
  iterate 6 (walk_at "y")
  refine wp_lcM ?_
  repeat' (walk_at "y")
  refine (spec_take hd2 (by omega) (by omega) (by omega)).imp ?_
  rintro _ _ ⟨r3, a3, b3, c3, rfl, rfl, r30, r31, hd3⟩
  repeat' (walk_at "y")
  · omega
  refine ⟨rfl, ?_⟩
  show Wp _ [.sh (.scr ns), .sh (.int (i : Nat)), .ow (dice a3 b3 c3), .sh (.lst (ss.map .str)), opt o4, opt o5, opt o6, opt o7, opt o8, opt o9, x10, opt o11, opt o12, opt o13, .un] _
  refine wp_lcL (fun k acc ρ => ∃ (a b c : Int) (rs : List Str), acc = rs.map .str ∧ rs.length = k ∧ ρ = [.sh (.scr ns), .sh (.int (i : Nat)), .ow (dice a b c), .sh (.lst (ss.map .str)), opt o4, opt o5, opt o6, opt o7, opt o8, opt o9, x10, opt o11, opt o12, opt o13, .un] ∧ Ok (200 + 9 * k) a b c) ⟨a3, b3, c3, [], rfl, rfl, rfl, hd3.mono (by omega)⟩ (fun k d acc ρ ek hi => ?_) (fun acc ρ hi => ?_)
  · obtain ⟨a, b, c, rs, rfl, hl, rfl, ho⟩ := hi
    obtain ⟨hk, rfl⟩ := range_get ek
    have hl2 : (List.map D.str rs).length = k := by rw [List.length_map, hl]
    rcases hx with rfl | ⟨ts, rfl⟩
    all_goals repeat' (walk_at "y")
    all_goals refine (spec_name (ts := []) ho (by omega)).imp ?_
    all_goals rintro _ _ ⟨s, a4, b4, c4, rfl, rfl, _, ho4⟩
    all_goals repeat' (walk_at "y")
    · exact ⟨rfl, by omega, a4, b4, c4, rs ++ [s], by rw [List.map_append]; rfl, by rw [List.length_append, hl]; rfl, rfl, ho4.mono (by omega)⟩
    · exact ⟨rfl, by omega, a4, b4, c4, rs ++ [s], by rw [List.map_append]; rfl, by rw [List.length_append, hl]; rfl, rfl, ho4.mono (by omega)⟩
  · obtain ⟨a, b, c, rs, rfl, hl, rfl, ho⟩ := hi
    rw [range_len] at hl ho
    show Wp _ [.sh (.scr ns), .sh (.int (i : Nat)), .ow (dice a b c), .sh (.lst (ss.map .str)), opt o4, opt o5, opt o6, opt o7, opt o8, opt o9, x10, opt o11, opt o12, opt o13, .un] _
    have := fin rs a b c _ ho (by omega) (by omega) (by omega)
    repeat' (first | exact this | walk_at "y")
theorem law_holds (ns : List Int) : Wp F_law [.sh (.scr ns)] (fun sl as => sl = .sh (.bl true)) := by
  have hz : sizeLine = 2 ^ 24 := rfl
  refine y_run (ρ := [.sh (.scr ns), .un, .un, .un, .un, .un, .un, .un, .un, .un, .un, .un, .un, .un, .un]) ⟨rfl, rfl⟩ rfl ?_
  unfold T_law
  repeat' (walk_at "y")
  · omega
  refine z_for (fun k ρ => ∃ (o1 o3 o4 o5 o6 o7 o8 o9 o11 o12 o13 : Option D) (x2 x10 : Sl), ρ = [.sh (.scr ns), opt o1, x2, opt o3, opt o4, opt o5, opt o6, opt o7, opt o8, opt o9, x10, opt o11, opt o12, opt o13, .un] ∧ free x2 = true ∧ (x10 = .un ∨ ∃ ts : List Str, x10 = .ow (.lst (ts.map .str)))) ⟨none, none, none, none, none, none, none, none, none, none, none, .un, .un, rfl, rfl, .inl rfl⟩ (fun k d ρ ek hi => ?_) (fun ρ hi => ?_)
  · obtain ⟨o1, o3, o4, o5, o6, o7, o8, o9, o11, o12, o13, x2, x10, rfl, h2, hx⟩ := hi
    obtain ⟨hk, rfl⟩ := range_get ek
    rw [Int.zero_add]
    refine ⟨_, gN_at (x := opt o1) rfl (free_opt _) (by walk_at "e"), ?_⟩
    refine law_turn (by omega) h2 hx fun a b c ss rs d5 m m2 ts o11 o12 o13 => ?_
    exact ⟨some _, some _, some _, some _, some _, some _, some _, some _, o11, o12, o13, _, _, rfl, rfl, .inr ⟨ts, rfl⟩⟩
  · obtain ⟨o1, o3, o4, o5, o6, o7, o8, o9, o11, o12, o13, x2, x10, rfl, h2, hx⟩ := hi
    repeat' (walk_at "y")
    rfl
end FD.Law

set_option Elab.async false
set_option linter.all false
set_option maxRecDepth 100000
set_option maxHeartbeats 4000000
namespace FD.Law
open PySem L2 FD
theorem all_mk {l : PySem.W.OpenLaw} {w : World} {K : PySem.W.Frag} {h : Heap} {mg : Str → Option Value} {fa f1 f2 f3 f4 f5 f6 f7 f8 f9 f10 f11 f12 f13 f14 f15 f16 f17 f18 f19 f20 f21 f22 f23 f24 f25 f26 f27 f28 f29 f30 f31 f32 C0 : Addr} (X : K.In h) (G : h.Ns mainGlobals mg) (hfa : mg "law" = some (.ref fa))
    {od1 an1 od2 an2 od3 an3 od4 an4 od5 an5 od6 an6 od7 an7 od8 an8 od9 an9 od10 an10 od11 an11 od12 an12 od13 an13 od14 an14 od15 an15 od16 an16 od17 an17 od18 an18 od19 an19 od20 an20 od21 an21 od22 an22 od23 an23 od24 an24 od25 an25 od26 an26 od27 an27 od28 an28 od29 an29 od30 an30 od31 an31 od32 an32 : Option Addr} {sl1 sl2 sl3 sl4 sl5 sl6 sl7 sl8 sl9 sl10 sl11 sl12 sl13 sl14 sl15 sl16 sl17 sl18 sl19 sl20 sl21 sl22 sl23 sl24 sl25 sl26 sl27 sl28 sl29 sl30 sl31 sl32 : Array (Option Value)} {oc1 kV1 dc1 pm1 cd1 ct1 oc2 kV2 dc2 pm2 cd2 ct2 oc3 kV3 dc3 pm3 cd3 ct3 oc4 kV4 dc4 pm4 cd4 ct4 oc5 kV5 dc5 pm5 cd5 ct5 oc6 kV6 dc6 pm6 cd6 ct6 oc7 kV7 dc7 pm7 cd7 ct7 oc8 kV8 dc8 pm8 cd8 ct8 oc9 kV9 dc9 pm9 cd9 ct9 oc10 kV10 dc10 pm10 cd10 ct10 oc11 kV11 dc11 pm11 cd11 ct11 oc12 kV12 dc12 pm12 cd12 ct12 oc13 kV13 dc13 pm13 cd13 ct13 oc14 kV14 dc14 pm14 cd14 ct14 oc15 kV15 dc15 pm15 cd15 ct15 oc16 kV16 dc16 pm16 cd16 ct16 oc17 kV17 dc17 pm17 cd17 ct17 oc18 kV18 dc18 pm18 cd18 ct18 oc19 kV19 dc19 pm19 cd19 ct19 oc20 kV20 dc20 pm20 cd20 ct20 oc21 kV21 dc21 pm21 cd21 ct21 oc22 kV22 dc22 pm22 cd22 ct22 oc23 kV23 dc23 pm23 cd23 ct23 oc24 kV24 dc24 pm24 cd24 ct24 oc25 kV25 dc25 pm25 cd25 ct25 oc26 kV26 dc26 pm26 cd26 ct26 oc27 kV27 dc27 pm27 cd27 ct27 oc28 kV28 dc28 pm28 cd28 ct28 oc29 kV29 dc29 pm29 cd29 ct29 oc30 kV30 dc30 pm30 cd30 ct30 oc31 kV31 dc31 pm31 cd31 ct31 oc32 kV32 dc32 pm32 cd32 ct32 : Value}
    (ca0 : PySem.W.nsIn K mainGlobals "Pattern" = some (some (.ref C0)))
    (cp0 : PySem.W.plainGet K C0 Str.empty = true)
    (ch0 : PySem.W.hasDictIn K C0 = true)
    (co0 : PySem.W.plainOver K C0 = true)
    (cs0 : PySem.W.findIn K (.ref C0) "__setattr__" = some (some (.builtin "object.__setattr__")))
    (cm0 : PySem.W.makesIn K C0 = true)
    (ck0 : PySem.W.keepIn K (.ref C0) = true)
    (cf0 : PySem.W.selfFirst K C0 = true)
    (cc0 : PySem.W.findIn K (.ref C0) "__class__" = some (some (.builtin "object.__class__")))
    (cr0 : PySem.W.mroIn K C0 (.type "object") = some true)
    (cd0_NoneType : PySem.W.kitOne K (.type "NoneType") (.ref C0) = some false)
    (cd0_bool : PySem.W.kitOne K (.type "bool") (.ref C0) = some false)
    (cd0_int : PySem.W.kitOne K (.type "int") (.ref C0) = some false)
    (cd0_str : PySem.W.kitOne K (.type "str") (.ref C0) = some false)
    (cd0_tuple : PySem.W.kitOne K (.type "tuple") (.ref C0) = some false)
    (cd0_list : PySem.W.kitOne K (.type "list") (.ref C0) = some false)
    (ce0_tuple : PySem.W.kitOne K (.ref C0) (.type "tuple") = some false)
    (ce0_str : PySem.W.kitOne K (.ref C0) (.type "str") = some false)
    (ce0_list : PySem.W.kitOne K (.ref C0) (.type "list") = some false)
    (ce0_int : PySem.W.kitOne K (.ref C0) (.type "int") = some false)
    (cx0_0 : PySem.W.kitOne K (.ref C0) (.ref C0) = some true)
    (cn0_steps : PySem.W.findIn K (.ref C0) "steps" = some none)
    (cn0_first : PySem.W.findIn K (.ref C0) "first" = some none)
    (cn0_follow : PySem.W.findIn K (.ref C0) "follow" = some none)
    (cn0_last : PySem.W.findIn K (.ref C0) "last" = some none)
    (cn0_empty : PySem.W.findIn K (.ref C0) "empty" = some none)
    (cu0_Mult : PySem.W.subIn K (.type "int") (.ref C0) = some false)
    {fo_Mult ro_Mult : Option Value}
    (ja_Mult : PySem.W.findIn K (.type "int") (PySem.dunder (Operator.Mult).info.2) = some fo_Mult)
    (jb_Mult : PySem.W.findIn K (.type "int") (PySem.dunderR (Operator.Mult).info.2) = some ro_Mult)
    {rg_0_Mult : Addr}
    (jc0_Mult : PySem.W.findIn K (.ref C0) (PySem.dunderR (Operator.Mult).info.2) = some (some (.ref rg_0_Mult)))
    (gg : PySem.W.specialIn K (.builtin "object.__class__") "__get__" = some (some (.builtin "getset_descriptor.__get__")))
    (gt : PySem.W.takesIn K (.builtin "object.__class__") = some true)
    {tk_MOST_TIMES : Tok}
    (k_MOST_TIMES : PySem.W.nsIn K mainGlobals "MOST_TIMES" = some (some (.int 9 tk_MOST_TIMES)))
    (a1 : PySem.W.nsIn K mainGlobals "moved" = some (some (.ref f1)))
    (l1 : K.lookup f1 = some ⟨oc1, od1, .func (PySem.W.fnOf "moved" "moved" (defArgs s_moved) (defBody s_moved) (defScope s_moved) .none kV1 dc1 pm1 an1 cd1 ct1), sl1⟩)
    (c1 : PySem.W.codeIn K cd1 "moved" = true)
    (k1 : PySem.W.keepIn K (.ref f1) = true)
    (a2 : PySem.W.nsIn K mainGlobals "merged" = some (some (.ref f2)))
    (l2 : K.lookup f2 = some ⟨oc2, od2, .func (PySem.W.fnOf "merged" "merged" (defArgs s_merged) (defBody s_merged) (defScope s_merged) .none kV2 dc2 pm2 an2 cd2 ct2), sl2⟩)
    (c2 : PySem.W.codeIn K cd2 "merged" = true)
    (k2 : PySem.W.keepIn K (.ref f2) = true)
    (a3 : PySem.W.findIn K (.ref C0) "__init__" = some (some (.ref f3)))
    (i3 : PySem.W.isFn K (.ref f3) = true)
    (l3 : K.lookup f3 = some ⟨oc3, od3, .func (PySem.W.fnOf "__init__" "Pattern.__init__" (defArgs s_Pattern_init) (defBody s_Pattern_init) (defScope s_Pattern_init) .none kV3 dc3 pm3 an3 cd3 ct3), sl3⟩)
    (c3 : PySem.W.codeIn K cd3 "Pattern.__init__" = true)
    (k3 : PySem.W.keepIn K (.ref f3) = true)
    (a4 : PySem.W.nsIn K mainGlobals "chained" = some (some (.ref f4)))
    (l4 : K.lookup f4 = some ⟨oc4, od4, .func (PySem.W.fnOf "chained" "chained" (defArgs s_chained) (defBody s_chained) (defScope s_chained) .none kV4 dc4 pm4 an4 cd4 ct4), sl4⟩)
    (c4 : PySem.W.codeIn K cd4 "chained" = true)
    (k4 : PySem.W.keepIn K (.ref f4) = true)
    (a5 : PySem.W.findIn K (.ref C0) "__add__" = some (some (.ref f5)))
    (i5 : PySem.W.isFn K (.ref f5) = true)
    (l5 : K.lookup f5 = some ⟨oc5, od5, .func (PySem.W.fnOf "__add__" "Pattern.__add__" (defArgs s_Pattern_add) (defBody s_Pattern_add) (defScope s_Pattern_add) .none kV5 dc5 pm5 an5 cd5 ct5), sl5⟩)
    (c5 : PySem.W.codeIn K cd5 "Pattern.__add__" = true)
    (k5 : PySem.W.keepIn K (.ref f5) = true)
    (a6 : PySem.W.findIn K (.ref C0) "__or__" = some (some (.ref f6)))
    (i6 : PySem.W.isFn K (.ref f6) = true)
    (l6 : K.lookup f6 = some ⟨oc6, od6, .func (PySem.W.fnOf "__or__" "Pattern.__or__" (defArgs s_Pattern_or) (defBody s_Pattern_or) (defScope s_Pattern_or) .none kV6 dc6 pm6 an6 cd6 ct6), sl6⟩)
    (c6 : PySem.W.codeIn K cd6 "Pattern.__or__" = true)
    (k6 : PySem.W.keepIn K (.ref f6) = true)
    (a7 : PySem.W.nsIn K mainGlobals "nothing" = some (some (.ref f7)))
    (l7 : K.lookup f7 = some ⟨oc7, od7, .func (PySem.W.fnOf "nothing" "nothing" (defArgs s_nothing) (defBody s_nothing) (defScope s_nothing) .none kV7 dc7 pm7 an7 cd7 ct7), sl7⟩)
    (c7 : PySem.W.codeIn K cd7 "nothing" = true)
    (k7 : PySem.W.keepIn K (.ref f7) = true)
    (a8 : PySem.W.nsIn K mainGlobals "repeated" = some (some (.ref f8)))
    (l8 : K.lookup f8 = some ⟨oc8, od8, .func (PySem.W.fnOf "repeated" "repeated" (defArgs s_repeated) (defBody s_repeated) (defScope s_repeated) .none kV8 dc8 pm8 an8 cd8 ct8), sl8⟩)
    (c8 : PySem.W.codeIn K cd8 "repeated" = true)
    (k8 : PySem.W.keepIn K (.ref f8) = true)
    (a9 : PySem.W.findIn K (.ref C0) "__mul__" = some (some (.ref f9)))
    (i9 : PySem.W.isFn K (.ref f9) = true)
    (l9 : K.lookup f9 = some ⟨oc9, od9, .func (PySem.W.fnOf "__mul__" "Pattern.__mul__" (defArgs s_Pattern_mul) (defBody s_Pattern_mul) (defScope s_Pattern_mul) .none kV9 dc9 pm9 an9 cd9 ct9), sl9⟩)
    (c9 : PySem.W.codeIn K cd9 "Pattern.__mul__" = true)
    (k9 : PySem.W.keepIn K (.ref f9) = true)
    (a10 : PySem.W.nsIn K mainGlobals "alternating" = some (some (.ref f10)))
    (l10 : K.lookup f10 = some ⟨oc10, od10, .func (PySem.W.fnOf "alternating" "alternating" (defArgs s_alternating) (defBody s_alternating) (defScope s_alternating) .none kV10 dc10 pm10 an10 cd10 ct10), sl10⟩)
    (c10 : PySem.W.codeIn K cd10 "alternating" = true)
    (k10 : PySem.W.keepIn K (.ref f10) = true)
    (a11 : PySem.W.findIn K (.ref C0) "__floordiv__" = some (some (.ref f11)))
    (i11 : PySem.W.isFn K (.ref f11) = true)
    (l11 : K.lookup f11 = some ⟨oc11, od11, .func (PySem.W.fnOf "__floordiv__" "Pattern.__floordiv__" (defArgs s_Pattern_floordiv) (defBody s_Pattern_floordiv) (defScope s_Pattern_floordiv) .none kV11 dc11 pm11 an11 cd11 ct11), sl11⟩)
    (c11 : PySem.W.codeIn K cd11 "Pattern.__floordiv__" = true)
    (k11 : PySem.W.keepIn K (.ref f11) = true)
    (a12 : PySem.W.findIn K (.ref C0) "__lshift__" = some (some (.ref f12)))
    (i12 : PySem.W.isFn K (.ref f12) = true)
    (l12 : K.lookup f12 = some ⟨oc12, od12, .func (PySem.W.fnOf "__lshift__" "Pattern.__lshift__" (defArgs s_Pattern_lshift) (defBody s_Pattern_lshift) (defScope s_Pattern_lshift) .none kV12 dc12 pm12 an12 cd12 ct12), sl12⟩)
    (c12 : PySem.W.codeIn K cd12 "Pattern.__lshift__" = true)
    (k12 : PySem.W.keepIn K (.ref f12) = true)
    (a13 : PySem.W.nsIn K mainGlobals "looped" = some (some (.ref f13)))
    (l13 : K.lookup f13 = some ⟨oc13, od13, .func (PySem.W.fnOf "looped" "looped" (defArgs s_looped) (defBody s_looped) (defScope s_looped) .none kV13 dc13 pm13 an13 cd13 ct13), sl13⟩)
    (c13 : PySem.W.codeIn K cd13 "looped" = true)
    (k13 : PySem.W.keepIn K (.ref f13) = true)
    (a14 : PySem.W.findIn K (.ref C0) "__rshift__" = some (some (.ref f14)))
    (i14 : PySem.W.isFn K (.ref f14) = true)
    (l14 : K.lookup f14 = some ⟨oc14, od14, .func (PySem.W.fnOf "__rshift__" "Pattern.__rshift__" (defArgs s_Pattern_rshift) (defBody s_Pattern_rshift) (defScope s_Pattern_rshift) .none kV14 dc14 pm14 an14 cd14 ct14), sl14⟩)
    (c14 : PySem.W.codeIn K cd14 "Pattern.__rshift__" = true)
    (k14 : PySem.W.keepIn K (.ref f14) = true)
    (a15 : PySem.W.findIn K (.ref C0) "__neg__" = some (some (.ref f15)))
    (i15 : PySem.W.isFn K (.ref f15) = true)
    (l15 : K.lookup f15 = some ⟨oc15, od15, .func (PySem.W.fnOf "__neg__" "Pattern.__neg__" (defArgs s_Pattern_neg) (defBody s_Pattern_neg) (defScope s_Pattern_neg) .none kV15 dc15 pm15 an15 cd15 ct15), sl15⟩)
    (c15 : PySem.W.codeIn K cd15 "Pattern.__neg__" = true)
    (k15 : PySem.W.keepIn K (.ref f15) = true)
    (a16 : PySem.W.findIn K (.ref C0) "__pos__" = some (some (.ref f16)))
    (i16 : PySem.W.isFn K (.ref f16) = true)
    (l16 : K.lookup f16 = some ⟨oc16, od16, .func (PySem.W.fnOf "__pos__" "Pattern.__pos__" (defArgs s_Pattern_pos) (defBody s_Pattern_pos) (defScope s_Pattern_pos) .none kV16 dc16 pm16 an16 cd16 ct16), sl16⟩)
    (c16 : PySem.W.codeIn K cd16 "Pattern.__pos__" = true)
    (k16 : PySem.W.keepIn K (.ref f16) = true)
    (a17 : PySem.W.findIn K (.ref C0) "__invert__" = some (some (.ref f17)))
    (i17 : PySem.W.isFn K (.ref f17) = true)
    (l17 : K.lookup f17 = some ⟨oc17, od17, .func (PySem.W.fnOf "__invert__" "Pattern.__invert__" (defArgs s_Pattern_invert) (defBody s_Pattern_invert) (defScope s_Pattern_invert) .none kV17 dc17 pm17 an17 cd17 ct17), sl17⟩)
    (c17 : PySem.W.codeIn K cd17 "Pattern.__invert__" = true)
    (k17 : PySem.W.keepIn K (.ref f17) = true)
    (a18 : PySem.W.findIn K (.ref C0) "__len__" = some (some (.ref f18)))
    (i18 : PySem.W.isFn K (.ref f18) = true)
    (l18 : K.lookup f18 = some ⟨oc18, od18, .func (PySem.W.fnOf "__len__" "Pattern.__len__" (defArgs s_Pattern_len) (defBody s_Pattern_len) (defScope s_Pattern_len) .none kV18 dc18 pm18 an18 cd18 ct18), sl18⟩)
    (c18 : PySem.W.codeIn K cd18 "Pattern.__len__" = true)
    (k18 : PySem.W.keepIn K (.ref f18) = true)
    (a19 : PySem.W.findIn K (.ref C0) "uses" = some (some (.ref f19)))
    (i19 : PySem.W.isFn K (.ref f19) = true)
    (l19 : K.lookup f19 = some ⟨oc19, od19, .func (PySem.W.fnOf "uses" "Pattern.uses" (defArgs s_Pattern_uses) (defBody s_Pattern_uses) (defScope s_Pattern_uses) .none kV19 dc19 pm19 an19 cd19 ct19), sl19⟩)
    (c19 : PySem.W.codeIn K cd19 "Pattern.uses" = true)
    (k19 : PySem.W.keepIn K (.ref f19) = true)
    (a20 : PySem.W.nsIn K mainGlobals "one" = some (some (.ref f20)))
    {T20 : Addr} {to20 : Obj} {ti20 : List Value} {tm20 : Nat}
    (l20 : K.lookup f20 = some ⟨oc20, od20, .func (PySem.W.fnOf "one" "one" (defArgs s_one) (defBody s_one) (defScope s_one) (.ref T20) kV20 dc20 pm20 an20 cd20 ct20), sl20⟩)
    (c20 : PySem.W.codeIn K cd20 "one" = true)
    (k20 : PySem.W.keepIn K (.ref f20) = true)
    (t20 : K.lookup T20 = some to20)
    (u20 : to20.data = .seq ti20.toArray tm20 ∧ Vals [.str "plain"] ti20)
    (a21 : PySem.W.nsIn K mainGlobals "_law_bag" = some (some (.ref f21)))
    (l21 : K.lookup f21 = some ⟨oc21, od21, .func (PySem.W.fnOf "_law_bag" "_law_bag" (defArgs s_law_bag) (defBody s_law_bag) (defScope s_law_bag) .none kV21 dc21 pm21 an21 cd21 ct21), sl21⟩)
    (c21 : PySem.W.codeIn K cd21 "_law_bag" = true)
    (k21 : PySem.W.keepIn K (.ref f21) = true)
    (a22 : PySem.W.nsIn K mainGlobals "_law_take" = some (some (.ref f22)))
    (l22 : K.lookup f22 = some ⟨oc22, od22, .func (PySem.W.fnOf "_law_take" "_law_take" (defArgs s_law_take) (defBody s_law_take) (defScope s_law_take) .none kV22 dc22 pm22 an22 cd22 ct22), sl22⟩)
    (c22 : PySem.W.codeIn K cd22 "_law_take" = true)
    (k22 : PySem.W.keepIn K (.ref f22) = true)
    (a23 : PySem.W.nsIn K mainGlobals "_law_of" = some (some (.ref f23)))
    (l23 : K.lookup f23 = some ⟨oc23, od23, .func (PySem.W.fnOf "_law_of" "_law_of" (defArgs s_law_of) (defBody s_law_of) (defScope s_law_of) .none kV23 dc23 pm23 an23 cd23 ct23), sl23⟩)
    (c23 : PySem.W.codeIn K cd23 "_law_of" = true)
    (k23 : PySem.W.keepIn K (.ref f23) = true)
    (a24 : PySem.W.nsIn K mainGlobals "_law_signs" = some (some (.ref f24)))
    (l24 : K.lookup f24 = some ⟨oc24, od24, .func (PySem.W.fnOf "_law_signs" "_law_signs" (defArgs s_law_signs) (defBody s_law_signs) (defScope s_law_signs) .none kV24 dc24 pm24 an24 cd24 ct24), sl24⟩)
    (c24 : PySem.W.codeIn K cd24 "_law_signs" = true)
    (k24 : PySem.W.keepIn K (.ref f24) = true)
    (a25 : PySem.W.nsIn K mainGlobals "_law_token" = some (some (.ref f25)))
    (l25 : K.lookup f25 = some ⟨oc25, od25, .func (PySem.W.fnOf "_law_token" "_law_token" (defArgs s_law_token) (defBody s_law_token) (defScope s_law_token) .none kV25 dc25 pm25 an25 cd25 ct25), sl25⟩)
    (c25 : PySem.W.codeIn K cd25 "_law_token" = true)
    (k25 : PySem.W.keepIn K (.ref f25) = true)
    (a26 : PySem.W.nsIn K mainGlobals "_law_name" = some (some (.ref f26)))
    (l26 : K.lookup f26 = some ⟨oc26, od26, .func (PySem.W.fnOf "_law_name" "_law_name" (defArgs s_law_name) (defBody s_law_name) (defScope s_law_name) .none kV26 dc26 pm26 an26 cd26 ct26), sl26⟩)
    (c26 : PySem.W.codeIn K cd26 "_law_name" = true)
    (k26 : PySem.W.keepIn K (.ref f26) = true)
    (a27 : PySem.W.nsIn K mainGlobals "_law_words" = some (some (.ref f27)))
    (l27 : K.lookup f27 = some ⟨oc27, od27, .func (PySem.W.fnOf "_law_words" "_law_words" (defArgs s_law_words) (defBody s_law_words) (defScope s_law_words) .none kV27 dc27 pm27 an27 cd27 ct27), sl27⟩)
    (c27 : PySem.W.codeIn K cd27 "_law_words" = true)
    (k27 : PySem.W.keepIn K (.ref f27) = true)
    (a28 : PySem.W.nsIn K mainGlobals "_law_size" = some (some (.ref f28)))
    (l28 : K.lookup f28 = some ⟨oc28, od28, .func (PySem.W.fnOf "_law_size" "_law_size" (defArgs s_law_size) (defBody s_law_size) (defScope s_law_size) .none kV28 dc28 pm28 an28 cd28 ct28), sl28⟩)
    (c28 : PySem.W.codeIn K cd28 "_law_size" = true)
    (k28 : PySem.W.keepIn K (.ref f28) = true)
    (a29 : PySem.W.nsIn K mainGlobals "_law_any" = some (some (.ref f29)))
    (l29 : K.lookup f29 = some ⟨oc29, od29, .func (PySem.W.fnOf "_law_any" "_law_any" (defArgs s_law_any) (defBody s_law_any) (defScope s_law_any) .none kV29 dc29 pm29 an29 cd29 ct29), sl29⟩)
    (c29 : PySem.W.codeIn K cd29 "_law_any" = true)
    (k29 : PySem.W.keepIn K (.ref f29) = true)
    (a30 : PySem.W.nsIn K mainGlobals "_law_pattern" = some (some (.ref f30)))
    (l30 : K.lookup f30 = some ⟨oc30, od30, .func (PySem.W.fnOf "_law_pattern" "_law_pattern" (defArgs s_law_pattern) (defBody s_law_pattern) (defScope s_law_pattern) .none kV30 dc30 pm30 an30 cd30 ct30), sl30⟩)
    (c30 : PySem.W.codeIn K cd30 "_law_pattern" = true)
    (k30 : PySem.W.keepIn K (.ref f30) = true)
    (a31 : PySem.W.nsIn K mainGlobals "_law_symbols" = some (some (.ref f31)))
    (l31 : K.lookup f31 = some ⟨oc31, od31, .func (PySem.W.fnOf "_law_symbols" "_law_symbols" (defArgs s_law_symbols) (defBody s_law_symbols) (defScope s_law_symbols) .none kV31 dc31 pm31 an31 cd31 ct31), sl31⟩)
    (c31 : PySem.W.codeIn K cd31 "_law_symbols" = true)
    (k31 : PySem.W.keepIn K (.ref f31) = true)
    (a32 : PySem.W.nsIn K mainGlobals "law" = some (some (.ref f32)))
    (l32 : K.lookup f32 = some ⟨oc32, od32, .func (PySem.W.fnOf "law" "law" (defArgs s_law) (defBody s_law) (defScope s_law) .none kV32 dc32 pm32 an32 cd32 ct32), sl32⟩)
    (c32 : PySem.W.codeIn K cd32 "law" = true)
    (k32 : PySem.W.keepIn K (.ref f32) = true)
    (z0 : PySem.W.nsIn K mainGlobals "abs" = some none)
    (z1 : PySem.W.nsIn K mainGlobals "enumerate" = some none)
    (z2 : PySem.W.nsIn K mainGlobals "int" = some none)
    (z3 : PySem.W.nsIn K mainGlobals "isinstance" = some none)
    (z4 : PySem.W.nsIn K mainGlobals "len" = some none)
    (z5 : PySem.W.nsIn K mainGlobals "list" = some none)
    (z6 : PySem.W.nsIn K mainGlobals "max" = some none)
    (z7 : PySem.W.nsIn K mainGlobals "min" = some none)
    (z8 : PySem.W.nsIn K mainGlobals "range" = some none)
    (z9 : PySem.W.nsIn K mainGlobals "sorted" = some none)
    (z10 : PySem.W.nsIn K mainGlobals "sum" = some none)
    : ∃ (fd : FuncData) (ct : List Addr), (∀ (s : Shared) (v : Value), BindsTo s fd ⟨[v], []⟩ [("_law_script", v)]) ∧ ∀ base : Heap, K.In base → base.Ns mainGlobals mg → FnOk l.prog w K mg base (L2.CX l.prog w) 36 fa fd ["_law_script"] (SpF K ct F_law) := by
  have e := hfa.symm.trans (PySem.W.mg_of X G a32)
  cases e
  have T0 : ClsF K mg "Pattern" C0 := clsF_of X G ca0 cp0 ch0 co0 cs0 cm0 ck0 cf0
  have Hsf : ∀ tb, SelfFirst K [C0] tb := fun tb c F C _ e1 => by
      match c, e1 with
      | 0, e1 => cases e1; exact cf0
      | n + 1, e1 => simp at e1
  have Hisi : IsiOk K [C0] sub := by
    refine ⟨fun c C l e1 e2 => ?_, gg, gt, fun c C n e1 _ hn => ?_, fun c C n e1 _ hn => ?_⟩
    · match c, e1, e2 with
      | 0, e1, e2 => cases e1; cases e2; exact ⟨T0.cls, cc0, cr0, fun c1 D1 e3 _ => by
          match c1, e3 with
          | 0, e3 => cases e3; exact cx0_0
          | n + 1, e3 => simp at e3⟩
      | n + 1, e1, _ => simp at e1
    · match c, e1 with
      | 0, e1 => cases e1; simp only [List.mem_cons, List.not_mem_nil, or_false] at hn; rcases hn with h | h | h | h | h | h <;> subst h <;> assumption
      | n + 1, e1 => simp at e1
    · match c, e1 with
      | 0, e1 => cases e1; simp only [List.mem_cons, List.not_mem_nil, or_false] at hn; rcases hn with h | h | h | h <;> subst h <;> assumption
      | n + 1, e1 => simp at e1
  have Hib_Mult : ∀ tb, IntBeside K [C0] tb .Mult := fun tb => by
    refine ⟨⟨_, ja_Mult⟩, ⟨_, jb_Mult⟩, fun c F C _ e1 => ?_, fun c F C _ e1 => ?_⟩
    · match c, e1 with
      | 0, e1 => cases e1; exact cu0_Mult
      | n + 1, e1 => simp at e1
    · match c, e1 with
      | 0, e1 => cases e1; exact ⟨_, jc0_Mult, .inr ⟨_, rfl⟩⟩
      | n + 1, e1 => simp at e1
  have U : Bn K mg [C0] := {
    abs := PySem.W.mg_none_of X G z0
    enumerate := PySem.W.mg_none_of X G z1
    int := PySem.W.mg_none_of X G z2
    isinstance := PySem.W.mg_none_of X G z3
    len := PySem.W.mg_none_of X G z4
    list := PySem.W.mg_none_of X G z5
    max := PySem.W.mg_none_of X G z6
    min := PySem.W.mg_none_of X G z7
    range := PySem.W.mg_none_of X G z8
    sorted := PySem.W.mg_none_of X G z9
    sum := PySem.W.mg_none_of X G z10
    k_MOST_TIMES := ⟨_, PySem.W.mg_of X G k_MOST_TIMES⟩
    c_Pattern := ⟨C0, T0.mg, rfl⟩
    f_steps := (FldOk.cons (C := C0) rfl T0.cls cn0_steps FldOk.nil)
    f_first := (FldOk.cons (C := C0) rfl T0.cls cn0_first FldOk.nil)
    f_follow := (FldOk.cons (C := C0) rfl T0.cls cn0_follow FldOk.nil)
    f_last := (FldOk.cons (C := C0) rfl T0.cls cn0_last FldOk.nil)
    f_empty := (FldOk.cons (C := C0) rfl T0.cls cn0_empty FldOk.nil)
    sf := Hsf
    isi := Hisi
    ib_Mult := Hib_Mult }
  have D1 : Dec K mg "moved" "moved" s_moved ["places", "by"] := dec_of X G a1 l1 c1 k1 (fun _ _ _ _ _ _ us hl => match us, hl with | [_, _], _ => rfl)
  have D2 : Dec K mg "merged" "merged" s_merged ["some", "more"] := dec_of X G a2 l2 c2 k2 (fun _ _ _ _ _ _ us hl => match us, hl with | [_, _], _ => rfl)
  have D3 : DecM K C0 "__init__" "Pattern.__init__" s_Pattern_init ["self", "steps", "first", "follow", "last", "empty"] := decM_of a3 i3 l3 c3 k3 (fun _ _ _ _ _ _ us hl => match us, hl with | [_, _, _, _, _, _], _ => rfl)
  have D4 : Dec K mg "chained" "chained" s_chained ["some", "more"] := dec_of X G a4 l4 c4 k4 (fun _ _ _ _ _ _ us hl => match us, hl with | [_, _], _ => rfl)
  have D5 : DecM K C0 "__add__" "Pattern.__add__" s_Pattern_add ["self", "other"] := decM_of a5 i5 l5 c5 k5 (fun _ _ _ _ _ _ us hl => match us, hl with | [_, _], _ => rfl)
  have D6 : DecM K C0 "__or__" "Pattern.__or__" s_Pattern_or ["self", "other"] := decM_of a6 i6 l6 c6 k6 (fun _ _ _ _ _ _ us hl => match us, hl with | [_, _], _ => rfl)
  have D7 : Dec K mg "nothing" "nothing" s_nothing [] := dec_of X G a7 l7 c7 k7 (fun _ _ _ _ _ _ us hl => match us, hl with | [], _ => rfl)
  have D8 : Dec K mg "repeated" "repeated" s_repeated ["some", "count"] := dec_of X G a8 l8 c8 k8 (fun _ _ _ _ _ _ us hl => match us, hl with | [_, _], _ => rfl)
  have D9 : DecM K C0 "__mul__" "Pattern.__mul__" s_Pattern_mul ["self", "count"] := decM_of a9 i9 l9 c9 k9 (fun _ _ _ _ _ _ us hl => match us, hl with | [_, _], _ => rfl)
  have D10 : Dec K mg "alternating" "alternating" s_alternating ["some", "mark", "is_last_free"] := dec_of X G a10 l10 c10 k10 (fun _ _ _ _ _ _ us hl => match us, hl with | [_, _, _], _ => rfl)
  have D11 : DecM K C0 "__floordiv__" "Pattern.__floordiv__" s_Pattern_floordiv ["self", "other"] := decM_of a11 i11 l11 c11 k11 (fun _ _ _ _ _ _ us hl => match us, hl with | [_, _], _ => rfl)
  have D12 : DecM K C0 "__lshift__" "Pattern.__lshift__" s_Pattern_lshift ["self", "other"] := decM_of a12 i12 l12 c12 k12 (fun _ _ _ _ _ _ us hl => match us, hl with | [_, _], _ => rfl)
  have D13 : Dec K mg "looped" "looped" s_looped ["some", "empty"] := dec_of X G a13 l13 c13 k13 (fun _ _ _ _ _ _ us hl => match us, hl with | [_, _], _ => rfl)
  have D14 : DecM K C0 "__rshift__" "Pattern.__rshift__" s_Pattern_rshift ["self", "other"] := decM_of a14 i14 l14 c14 k14 (fun _ _ _ _ _ _ us hl => match us, hl with | [_, _], _ => rfl)
  have D15 : DecM K C0 "__neg__" "Pattern.__neg__" s_Pattern_neg ["self"] := decM_of a15 i15 l15 c15 k15 (fun _ _ _ _ _ _ us hl => match us, hl with | [_], _ => rfl)
  have D16 : DecM K C0 "__pos__" "Pattern.__pos__" s_Pattern_pos ["self"] := decM_of a16 i16 l16 c16 k16 (fun _ _ _ _ _ _ us hl => match us, hl with | [_], _ => rfl)
  have D17 : DecM K C0 "__invert__" "Pattern.__invert__" s_Pattern_invert ["self"] := decM_of a17 i17 l17 c17 k17 (fun _ _ _ _ _ _ us hl => match us, hl with | [_], _ => rfl)
  have D18 : DecM K C0 "__len__" "Pattern.__len__" s_Pattern_len ["self"] := decM_of a18 i18 l18 c18 k18 (fun _ _ _ _ _ _ us hl => match us, hl with | [_], _ => rfl)
  have D19 : DecM K C0 "uses" "Pattern.uses" s_Pattern_uses ["self"] := decM_of a19 i19 l19 c19 k19 (fun _ _ _ _ _ _ us hl => match us, hl with | [_], _ => rfl)
  have D20 : DecD K mg "one" "one" s_one ["symbol", "role"] [.str "plain"] := decD_of X G a20 l20 c20 k20 t20 u20.1 u20.2 (by simp) (by simp) (fun n j hn hj T kV doc pm an cdv ct us its h1 h2 => by
    match its, h2 with
    | [v0], _ => 
      rcases hj with rfl | rfl
      · match us, (h1.trans (show n = 1 by simp at hn; omega)) with | [_], _ => exact ⟨_, rfl, rfl⟩
      · match us, (h1.trans (show n = 2 by simp at hn; omega)) with | [_, _], _ => exact ⟨_, rfl, rfl⟩)
  have D21 : Dec K mg "_law_bag" "_law_bag" s_law_bag ["_law_script", "_law_at"] := dec_of X G a21 l21 c21 k21 (fun _ _ _ _ _ _ us hl => match us, hl with | [_, _], _ => rfl)
  have D22 : Dec K mg "_law_take" "_law_take" s_law_take ["_law_dice", "_law_many"] := dec_of X G a22 l22 c22 k22 (fun _ _ _ _ _ _ us hl => match us, hl with | [_, _], _ => rfl)
  have D23 : Dec K mg "_law_of" "_law_of" s_law_of ["_law_dice", "_law_some"] := dec_of X G a23 l23 c23 k23 (fun _ _ _ _ _ _ us hl => match us, hl with | [_, _], _ => rfl)
  have D24 : Dec K mg "_law_signs" "_law_signs" s_law_signs [] := dec_of X G a24 l24 c24 k24 (fun _ _ _ _ _ _ us hl => match us, hl with | [], _ => rfl)
  have D25 : Dec K mg "_law_token" "_law_token" s_law_token ["_law_dice", "_law_taken"] := dec_of X G a25 l25 c25 k25 (fun _ _ _ _ _ _ us hl => match us, hl with | [_, _], _ => rfl)
  have D26 : Dec K mg "_law_name" "_law_name" s_law_name ["_law_dice", "_law_taken"] := dec_of X G a26 l26 c26 k26 (fun _ _ _ _ _ _ us hl => match us, hl with | [_, _], _ => rfl)
  have D27 : Dec K mg "_law_words" "_law_words" s_law_words ["_law_bag_here", "_law_many"] := dec_of X G a27 l27 c27 k27 (fun _ _ _ _ _ _ us hl => match us, hl with | [_, _], _ => rfl)
  have D28 : Dec K mg "_law_size" "_law_size" s_law_size ["_law_made"] := dec_of X G a28 l28 c28 k28 (fun _ _ _ _ _ _ us hl => match us, hl with | [_], _ => rfl)
  have D29 : Dec K mg "_law_any" "_law_any" s_law_any ["_law_bag_here", "_law_symbols_here", "_law_roles", "_law_most"] := dec_of X G a29 l29 c29 k29 (fun _ _ _ _ _ _ us hl => match us, hl with | [_, _, _, _], _ => rfl)
  have D30 : Dec K mg "_law_pattern" "_law_pattern" s_law_pattern ["_law_made"] := dec_of X G a30 l30 c30 k30 (fun _ _ _ _ _ _ us hl => match us, hl with | [_], _ => rfl)
  have D31 : Dec K mg "_law_symbols" "_law_symbols" s_law_symbols ["_law_made"] := dec_of X G a31 l31 c31 k31 (fun _ _ _ _ _ _ us hl => match us, hl with | [_], _ => rfl)
  refine ⟨PySem.W.fnOf "law" "law" (defArgs s_law) (defBody s_law) (defScope s_law) .none kV32 dc32 pm32 an32 cd32 ct32, [C0], fun s v => .of_eq rfl, fun base _ _ => ?_⟩
  have C_moved : Cal l.prog w K mg base [C0] "moved" 1 ["places", "by"] F_moved := cal_of D1 fun f fd Fu => fn_moved Fu U
  have C_merged : Cal l.prog w K mg base [C0] "merged" 1 ["some", "more"] F_merged := cal_of D2 fun f fd Fu => fn_merged Fu U
  have K_Pattern : KCal l.prog w K mg base [C0] "Pattern" 0 1 ["self", "steps", "first", "follow", "last", "empty"] F_Pattern_init := kcal_of rfl T0 D3 fun f fd Fu => fn_Pattern_init Fu U
  have C_chained : Cal l.prog w K mg base [C0] "chained" 3 ["some", "more"] F_chained := cal_of D4 fun f fd Fu => fn_chained Fu U C_moved C_merged K_Pattern
  have M_0_Pattern_add : MCal l.prog w K mg base [C0] 0 "__add__" 4 ["self", "other"] F_Pattern_add := mcal_of rfl T0 D5 fun f fd Fu => fn_Pattern_add Fu U C_chained
  have M_0_Pattern_or : MCal l.prog w K mg base [C0] 0 "__or__" 3 ["self", "other"] F_Pattern_or := mcal_of rfl T0 D6 fun f fd Fu => fn_Pattern_or Fu U C_moved K_Pattern
  have C_nothing : Cal l.prog w K mg base [C0] "nothing" 3 [] F_nothing := cal_of D7 fun f fd Fu => fn_nothing Fu U K_Pattern
  have C_repeated : Cal l.prog w K mg base [C0] "repeated" 14 ["some", "count"] F_repeated := cal_rec 3 D8 (fun j F f fd hj Cs Fu => fn_repeated Fu U hj Cs C_nothing C_chained) 11
  have M_0_Pattern_mul : MCal l.prog w K mg base [C0] 0 "__mul__" 15 ["self", "count"] F_Pattern_mul := mcal_of rfl T0 D9 fun f fd Fu => fn_Pattern_mul Fu U C_repeated
  have C_alternating : Cal l.prog w K mg base [C0] "alternating" 3 ["some", "mark", "is_last_free"] F_alternating := cal_of D10 fun f fd Fu => fn_alternating Fu U C_moved C_merged K_Pattern
  have M_0_Pattern_floordiv : MCal l.prog w K mg base [C0] 0 "__floordiv__" 4 ["self", "other"] F_Pattern_floordiv := mcal_of rfl T0 D11 fun f fd Fu => fn_Pattern_floordiv Fu U C_alternating
  have M_0_Pattern_lshift : MCal l.prog w K mg base [C0] 0 "__lshift__" 4 ["self", "other"] F_Pattern_lshift := mcal_of rfl T0 D12 fun f fd Fu => fn_Pattern_lshift Fu U C_alternating
  have C_looped : Cal l.prog w K mg base [C0] "looped" 3 ["some", "empty"] F_looped := cal_of D13 fun f fd Fu => fn_looped Fu U C_merged K_Pattern
  have M_0_Pattern_rshift : MCal l.prog w K mg base [C0] 0 "__rshift__" 4 ["self", "other"] F_Pattern_rshift := mcal_of rfl T0 D14 fun f fd Fu => fn_Pattern_rshift Fu U C_chained C_looped
  have M_0_Pattern_neg : MCal l.prog w K mg base [C0] 0 "__neg__" 3 ["self"] F_Pattern_neg := mcal_of rfl T0 D15 fun f fd Fu => fn_Pattern_neg Fu U K_Pattern
  have M_0_Pattern_pos : MCal l.prog w K mg base [C0] 0 "__pos__" 4 ["self"] F_Pattern_pos := mcal_of rfl T0 D16 fun f fd Fu => fn_Pattern_pos Fu U C_looped
  have M_0_Pattern_invert : MCal l.prog w K mg base [C0] 0 "__invert__" 4 ["self"] F_Pattern_invert := mcal_of rfl T0 D17 fun f fd Fu => fn_Pattern_invert Fu U C_looped
  have M_0_Pattern_len : MCal l.prog w K mg base [C0] 0 "__len__" 1 ["self"] F_Pattern_len := mcal_of rfl T0 D18 fun f fd Fu => fn_Pattern_len Fu U
  have M_0_Pattern_uses : MCal l.prog w K mg base [C0] 0 "uses" 1 ["self"] F_Pattern_uses := mcal_of rfl T0 D19 fun f fd Fu => fn_Pattern_uses Fu U
  obtain ⟨C_one, D_one⟩ : Cal l.prog w K mg base [C0] "one" 3 ["symbol", "role"] F_one ∧ CalD l.prog w K mg base [C0] "one" 3 ["symbol", "role"] [.str "plain"] F_one := calD_of D20 (fun _ => (.cons (.str _) .nil)) fun f fd Fu => fn_one Fu U K_Pattern
  have C_law_bag : Cal l.prog w K mg base [C0] "_law_bag" 1 ["_law_script", "_law_at"] F_law_bag := cal_of D21 fun f fd Fu => fn_law_bag Fu U
  have C_law_take : Cal l.prog w K mg base [C0] "_law_take" 1 ["_law_dice", "_law_many"] F_law_take := cal_of D22 fun f fd Fu => fn_law_take Fu U
  have C_law_of : Cal l.prog w K mg base [C0] "_law_of" 2 ["_law_dice", "_law_some"] F_law_of := cal_of D23 fun f fd Fu => fn_law_of Fu U C_law_take
  have C_law_signs : Cal l.prog w K mg base [C0] "_law_signs" 1 [] F_law_signs := cal_of D24 fun f fd Fu => fn_law_signs Fu U
  have C_law_token : Cal l.prog w K mg base [C0] "_law_token" 3 ["_law_dice", "_law_taken"] F_law_token := cal_of D25 fun f fd Fu => fn_law_token Fu U C_law_signs C_law_of
  have C_law_name : Cal l.prog w K mg base [C0] "_law_name" 3 ["_law_dice", "_law_taken"] F_law_name := cal_of D26 fun f fd Fu => fn_law_name Fu U C_law_of
  have C_law_words : Cal l.prog w K mg base [C0] "_law_words" 4 ["_law_bag_here", "_law_many"] F_law_words := cal_of D27 fun f fd Fu => fn_law_words Fu U C_law_take C_law_token C_law_name
  have C_law_size : Cal l.prog w K mg base [C0] "_law_size" 20 ["_law_made"] F_law_size := cal_rec 0 D28 (fun j F f fd hj Cs Fu => fn_law_size Fu U hj Cs) 20
  have C_law_any : Cal l.prog w K mg base [C0] "_law_any" 21 ["_law_bag_here", "_law_symbols_here", "_law_roles", "_law_most"] F_law_any := cal_of D29 fun f fd Fu => fn_law_any Fu U C_law_take C_law_of C_law_size
  have C_law_pattern : Cal l.prog w K mg base [C0] "_law_pattern" 35 ["_law_made"] F_law_pattern := cal_rec 15 D30 (fun j F f fd hj Cs Fu => fn_law_pattern Fu U hj Cs C_one C_nothing M_0_Pattern_neg M_0_Pattern_pos M_0_Pattern_invert M_0_Pattern_mul M_0_Pattern_add M_0_Pattern_or M_0_Pattern_floordiv M_0_Pattern_lshift M_0_Pattern_rshift) 20
  have C_law_symbols : Cal l.prog w K mg base [C0] "_law_symbols" 20 ["_law_made"] F_law_symbols := cal_rec 0 D31 (fun j F f fd hj Cs Fu => fn_law_symbols Fu U hj Cs) 20
  exact fn_law (fun_mk l32 c32 k32) U C_law_bag C_law_take C_law_words C_law_name C_law_any C_law_size C_law_pattern C_law_symbols M_0_Pattern_uses M_0_Pattern_len M_0_Pattern_invert M_0_Pattern_pos M_0_Pattern_neg M_0_Pattern_or M_0_Pattern_add D_one M_0_Pattern_mul
theorem cx_no {P : Program} {w : World} {H : Hp} {s : Shared} {e : Value} {s' : Shared} (h : L2.CX P w [] H s (fun _ _ _ => False) e s') : False := by
  obtain ⟨_, _, _, _, _, _, _, _, _, _, _, _, h⟩ := h
  exact h
theorem walk {l : PySem.W.OpenLaw} {q : Program} {loose : List Str} {XP : (Str → Option Value) → Heap → Prop} {YP : World → Heap → Prop} {d : DefRec} {K : Params → PySem.W.Frag} (hn : l.most = some 63) (hdf : d.params.defaults = [])
    (hY : ∀ (w : World) (h : Heap), YP w h → (K w.params).In h)
    (F : ∀ (w : World) (mg : Str → Option Value) (fa : Addr) (h : Heap), (K w.params).In h → h.Ns mainGlobals mg → mg d.name = some (.ref fa) →
      ∃ (fd : FuncData) (ct : List Addr), (∀ (s : Shared) (u : Value), BindsTo s fd ⟨[u], []⟩ [("_law_script", u)]) ∧ ∀ base : Heap, (K w.params).In base → base.Ns mainGlobals mg → FnOk l.prog w (K w.params) mg base (L2.CX l.prog w) 36 fa fd ["_law_script"] (SpF (K w.params) ct F_law)) :
    PySem.W.WalkO q loose XP YP l.row.toRowW d [] (fun f vs => PySem.call f vs) :=
  L2.walk_of (n := 63) (k := 36) (x := "_law_script") (CX := fun w => L2.CX l.prog w) (sp := fun w => spLaw (K w.params)) hn (by decide) hdf ⟨rfl, by decide, by decide⟩ hY (fun w mg fa h a b c => (by
    obtain ⟨fd, ct, hb, hf⟩ := F w mg fa h a b c
    exact ⟨fd, hb, fun base k1 k2 => (hf base k1 k2).imp fun vs H Q E hs => spf_law' (fun ns _ => by obtain ⟨sl, as, e, rfl⟩ := law_holds ns; exact ⟨as, e⟩) hs⟩)) (fun _ _ a ns hl _ hS => ⟨a, ns, rfl, hS, hl, fun _ => rfl⟩) fun _ _ _ _ _ z => cx_no z
end FD.Law
open PySem PySem.W PyProof.Rows
set_option maxRecDepth 100000 in
set_option maxHeartbeats 0 in
theorem PySem.Challenge.cw_silentslips_k11_made_of_and_symbols_holds : PySem.Challenge.rw_silentslips_k11_made_of_and_symbols.Holds := by
  w_on; o_law; k_head; (case hw => w_witness2)
  k_fill
  refine FD.Law.walk (l := PySem.Challenge.rw_silentslips_k11_made_of_and_symbols) rfl rfl (fun w h Y => PySem.W.kIn_of Y) ?F
  case F =>
    intro w mg fa h KX G hmg
    refine' FD.Law.all_mk KX G hmg ?ca0 ?cp0 ?ch0 ?co0 ?cs0 ?cm0 ?ck0 ?cf0 ?cc0 ?cr0 ?cd0_NoneType ?cd0_bool ?cd0_int ?cd0_str ?cd0_tuple ?cd0_list ?ce0_tuple ?ce0_str ?ce0_list ?ce0_int ?cx0_0 ?cn0_steps ?cn0_first ?cn0_follow ?cn0_last ?cn0_empty ?cu0_Mult ?ja_Mult ?jb_Mult ?jc0_Mult ?gg ?gt ?k_MOST_TIMES ?a1 ?l1 ?c1 ?k1 ?a2 ?l2 ?c2 ?k2 ?a3 ?i3 ?l3 ?c3 ?k3 ?a4 ?l4 ?c4 ?k4 ?a5 ?i5 ?l5 ?c5 ?k5 ?a6 ?i6 ?l6 ?c6 ?k6 ?a7 ?l7 ?c7 ?k7 ?a8 ?l8 ?c8 ?k8 ?a9 ?i9 ?l9 ?c9 ?k9 ?a10 ?l10 ?c10 ?k10 ?a11 ?i11 ?l11 ?c11 ?k11 ?a12 ?i12 ?l12 ?c12 ?k12 ?a13 ?l13 ?c13 ?k13 ?a14 ?i14 ?l14 ?c14 ?k14 ?a15 ?i15 ?l15 ?c15 ?k15 ?a16 ?i16 ?l16 ?c16 ?k16 ?a17 ?i17 ?l17 ?c17 ?k17 ?a18 ?i18 ?l18 ?c18 ?k18 ?a19 ?i19 ?l19 ?c19 ?k19 ?a20 ?l20 ?c20 ?k20 ?t20 ?u20 ?a21 ?l21 ?c21 ?k21 ?a22 ?l22 ?c22 ?k22 ?a23 ?l23 ?c23 ?k23 ?a24 ?l24 ?c24 ?k24 ?a25 ?l25 ?c25 ?k25 ?a26 ?l26 ?c26 ?k26 ?a27 ?l27 ?c27 ?k27 ?a28 ?l28 ?c28 ?k28 ?a29 ?l29 ?c29 ?k29 ?a30 ?l30 ?c30 ?k30 ?a31 ?l31 ?c31 ?k31 ?a32 ?l32 ?c32 ?k32 ?z0 ?z1 ?z2 ?z3 ?z4 ?z5 ?z6 ?z7 ?z8 ?z9 ?z10
    (case ca0 => k_is)
    (case cp0 => k_is)
    (case ch0 => k_is)
    (case co0 => k_is)
    (case cs0 => k_is)
    (case cm0 => k_is)
    (case ck0 => k_is)
    (case cf0 => k_is)
    (case cc0 => k_is)
    (case cr0 => k_is)
    (case cd0_NoneType => first | kit_is | k_is)
    (case cd0_bool => first | kit_is | k_is)
    (case cd0_int => first | kit_is | k_is)
    (case cd0_str => first | kit_is | k_is)
    (case cd0_tuple => first | kit_is | k_is)
    (case cd0_list => first | kit_is | k_is)
    (case ce0_tuple => first | kit_is | k_is)
    (case ce0_str => first | kit_is | k_is)
    (case ce0_list => first | kit_is | k_is)
    (case ce0_int => first | kit_is | k_is)
    (case cx0_0 => first | kit_is | k_is)
    (case cn0_steps => k_is)
    (case cn0_first => k_is)
    (case cn0_follow => k_is)
    (case cn0_last => k_is)
    (case cn0_empty => k_is)
    (case cu0_Mult => k_is)
    (case ja_Mult => k_is)
    (case jb_Mult => k_is)
    (case jc0_Mult => k_is)
    (case gg => k_is)
    (case gt => k_is)
    (case k_MOST_TIMES => k_is)
    (case a1 => k_is)
    (case l1 => k_is)
    (case c1 => k_is)
    (case k1 => k_is)
    (case a2 => k_is)
    (case l2 => k_is)
    (case c2 => k_is)
    (case k2 => k_is)
    (case a3 => k_is)
    (case i3 => k_is)
    (case l3 => k_is)
    (case c3 => k_is)
    (case k3 => k_is)
    (case a4 => k_is)
    (case l4 => k_is)
    (case c4 => k_is)
    (case k4 => k_is)
    (case a5 => k_is)
    (case i5 => k_is)
    (case l5 => k_is)
    (case c5 => k_is)
    (case k5 => k_is)
    (case a6 => k_is)
    (case i6 => k_is)
    (case l6 => k_is)
    (case c6 => k_is)
    (case k6 => k_is)
    (case a7 => k_is)
    (case l7 => k_is)
    (case c7 => k_is)
    (case k7 => k_is)
    (case a8 => k_is)
    (case l8 => k_is)
    (case c8 => k_is)
    (case k8 => k_is)
    (case a9 => k_is)
    (case i9 => k_is)
    (case l9 => k_is)
    (case c9 => k_is)
    (case k9 => k_is)
    (case a10 => k_is)
    (case l10 => k_is)
    (case c10 => k_is)
    (case k10 => k_is)
    (case a11 => k_is)
    (case i11 => k_is)
    (case l11 => k_is)
    (case c11 => k_is)
    (case k11 => k_is)
    (case a12 => k_is)
    (case i12 => k_is)
    (case l12 => k_is)
    (case c12 => k_is)
    (case k12 => k_is)
    (case a13 => k_is)
    (case l13 => k_is)
    (case c13 => k_is)
    (case k13 => k_is)
    (case a14 => k_is)
    (case i14 => k_is)
    (case l14 => k_is)
    (case c14 => k_is)
    (case k14 => k_is)
    (case a15 => k_is)
    (case i15 => k_is)
    (case l15 => k_is)
    (case c15 => k_is)
    (case k15 => k_is)
    (case a16 => k_is)
    (case i16 => k_is)
    (case l16 => k_is)
    (case c16 => k_is)
    (case k16 => k_is)
    (case a17 => k_is)
    (case i17 => k_is)
    (case l17 => k_is)
    (case c17 => k_is)
    (case k17 => k_is)
    (case a18 => k_is)
    (case i18 => k_is)
    (case l18 => k_is)
    (case c18 => k_is)
    (case k18 => k_is)
    (case a19 => k_is)
    (case i19 => k_is)
    (case l19 => k_is)
    (case c19 => k_is)
    (case k19 => k_is)
    (case a20 => k_is)
    (case l20 => k_is)
    (case c20 => k_is)
    (case k20 => k_is)
    (case t20 => k_is)
    (case u20 => exact ⟨rfl, .cons ⟨_, rfl⟩ .nil⟩)
    (case a21 => k_is)
    (case l21 => k_is)
    (case c21 => k_is)
    (case k21 => k_is)
    (case a22 => k_is)
    (case l22 => k_is)
    (case c22 => k_is)
    (case k22 => k_is)
    (case a23 => k_is)
    (case l23 => k_is)
    (case c23 => k_is)
    (case k23 => k_is)
    (case a24 => k_is)
    (case l24 => k_is)
    (case c24 => k_is)
    (case k24 => k_is)
    (case a25 => k_is)
    (case l25 => k_is)
    (case c25 => k_is)
    (case k25 => k_is)
    (case a26 => k_is)
    (case l26 => k_is)
    (case c26 => k_is)
    (case k26 => k_is)
    (case a27 => k_is)
    (case l27 => k_is)
    (case c27 => k_is)
    (case k27 => k_is)
    (case a28 => k_is)
    (case l28 => k_is)
    (case c28 => k_is)
    (case k28 => k_is)
    (case a29 => k_is)
    (case l29 => k_is)
    (case c29 => k_is)
    (case k29 => k_is)
    (case a30 => k_is)
    (case l30 => k_is)
    (case c30 => k_is)
    (case k30 => k_is)
    (case a31 => k_is)
    (case l31 => k_is)
    (case c31 => k_is)
    (case k31 => k_is)
    (case a32 => k_is)
    (case l32 => k_is)
    (case c32 => k_is)
    (case k32 => k_is)
    (case z0 => k_is)
    (case z1 => k_is)
    (case z2 => k_is)
    (case z3 => k_is)
    (case z4 => k_is)
    (case z5 => k_is)
    (case z6 => k_is)
    (case z7 => k_is)
    (case z8 => k_is)
    (case z9 => k_is)
    (case z10 => k_is)

