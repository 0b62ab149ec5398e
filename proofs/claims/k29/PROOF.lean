import PyProof.Rows.All
import Wide.All
import OpenK.AllK
import Wide.FinOn
import HandS.ForMost
import HandS.ForExc
import HandS.Wide
import HandS.TupAny
import HandS.TupMul
import HandS.TupLe
import HandS.IsInst
import HandS.Flow
import HandS.Conv
import HandS.CallSlots
import HandS.Deep
import KE.DataEq
import HandS.Replace
import HandS.ReplaceList
import HandS.Style
import HandS.ReplaceLit
import HandS.ReplaceDef
import HandS.Codes
import PySem.Challenge.RW_silentslips_k29_tokens_of_a_text
set_option Elab.async false
set_option linter.all false
set_option maxRecDepth 100000
/-! FD: Python's data as plain Lean data, the locals as slots; denotations and their walks. -/
namespace FD
open PySem L2

/-! ### data -/
inductive D where
  | non | bl (b : Bool) | int (i : Int) | str (x : Str)
  | tup (xs : List D) | lst (xs : List D)
  | obj (c : Nat) (fs : List (Str × D))
  | scr (ns : List Int)
  | opq (v : V)

mutual
inductive R (K : PySem.W.Frag) (ct : List Addr) (G : Hp) : V → D → Prop
  | non : R K ct G .non .non
  | bl (b : Bool) : R K ct G (.bl b) (.bl b)
  | int (i : Int) : R K ct G (.int i) (.int i)
  | str (x : Str) : R K ct G (.str x) (.str x)
  | tup {a : Addr} {xs : List V} {ds : List D} : SqT K G a xs → Rs K ct G xs ds → R K ct G (.ref a) (.tup ds)
  | lst {a : Addr} {xs : List V} {ds : List D} : G a = some (.lst xs) → Rs K ct G xs ds → R K ct G (.ref a) (.lst ds)
  | obj {a C dx : Addr} {fs : List (Str × V)} {c : Nat} {ds : List (Str × D)} : ct[c]? = some C → G a = some (.ins C dx fs) → Rf K ct G fs ds → R K ct G (.ref a) (.obj c ds)
  | scr {a : Addr} {ns : List Int} : SqL K G a (ns.map V.int) → R K ct G (.ref a) (.scr ns)
  | opq (v : V) : R K ct G v (.opq v)
inductive Rs (K : PySem.W.Frag) (ct : List Addr) (G : Hp) : List V → List D → Prop
  | nil : Rs K ct G [] []
  | cons {v : V} {d : D} {vs : List V} {ds : List D} : R K ct G v d → Rs K ct G vs ds → Rs K ct G (v :: vs) (d :: ds)
inductive Rf (K : PySem.W.Frag) (ct : List Addr) (G : Hp) : List (Str × V) → List (Str × D) → Prop
  | nil : Rf K ct G [] []
  | cons {f : Str} {v : V} {d : D} {vs : List (Str × V)} {ds : List (Str × D)} : R K ct G v d → Rf K ct G vs ds → Rf K ct G ((f, v) :: vs) ((f, d) :: ds)
end

theorem Same.seqT {K : PySem.W.Frag} {H H' : Hp} {a : Addr} {xs : List V} (e : Same H H') (h : SqT K H a xs) : SqT K H' a xs := by
  rcases h with (h | ⟨o, h⟩) | h
  · exact .inl (.inl (e _ _ h))
  · exact .inl (.inr ⟨o, e _ _ h⟩)
  · exact .inr h

section
variable {K : PySem.W.Frag} {ct : List Addr} {G G' : Hp}
mutual
theorem R.mono (s : Same G G') : ∀ {v : V} {d : D}, R K ct G v d → R K ct G' v d
  | _, _, .non => .non
  | _, _, .bl b => .bl b
  | _, _, .int i => .int i
  | _, _, .str x => .str x
  | _, _, .tup h r => .tup (Same.seqT s h) (Rs.mono s r)
  | _, _, .lst h r => .lst (s _ _ h) (Rs.mono s r)
  | _, _, .scr h => .scr (L2.Same.seq s h)
  | _, _, .obj hc h r => .obj hc (s _ _ h) (Rf.mono s r)
  | _, _, .opq v => .opq v
theorem Rs.mono (s : Same G G') : ∀ {vs : List V} {ds : List D}, Rs K ct G vs ds → Rs K ct G' vs ds
  | _, _, .nil => .nil
  | _, _, .cons r t => .cons (R.mono s r) (Rs.mono s t)
theorem Rf.mono (s : Same G G') : ∀ {vs : List (Str × V)} {ds : List (Str × D)}, Rf K ct G vs ds → Rf K ct G' vs ds
  | _, _, .nil => .nil
  | _, _, .cons r t => .cons (R.mono s r) (Rf.mono s t)
end

theorem Rs.length : ∀ {vs : List V} {ds : List D}, Rs K ct G vs ds → vs.length = ds.length
  | _, _, .nil => rfl
  | _, _, .cons _ t => congrArg (· + 1) (Rs.length t)
theorem Rs.get : ∀ {vs : List V} {ds : List D} {i : Nat} {d : D}, Rs K ct G vs ds → ds[i]? = some d → ∃ v, vs[i]? = some v ∧ R K ct G v d
  | _, _, _, _, .nil, e => by simp at e
  | _, _, 0, _, .cons r _, e => by simp at e; subst e; exact ⟨_, rfl, r⟩
  | _, _, i + 1, _, .cons _ t, e => by
    obtain ⟨u, h1, h2⟩ := Rs.get (i := i) t (by simpa using e)
    exact ⟨u, by simpa using h1, h2⟩
theorem Rs.get' {vs : List V} {ds : List D} {i : Nat} {v : V} (r : Rs K ct G vs ds) (e : vs[i]? = some v) : ∃ d, ds[i]? = some d ∧ R K ct G v d := by
  have h1 : i < vs.length := (List.getElem?_eq_some_iff.mp e).1
  have h2 : i < ds.length := by rw [← r.length]; exact h1
  obtain ⟨u, e2, q⟩ := r.get (List.getElem?_eq_getElem h2)
  rw [e] at e2; cases e2
  exact ⟨_, List.getElem?_eq_getElem h2, q⟩
theorem Rs.append : ∀ {vs us : List V} {ds es : List D}, Rs K ct G vs ds → Rs K ct G us es → Rs K ct G (vs ++ us) (ds ++ es)
  | _, _, _, _, .nil, s => s
  | _, _, _, _, .cons r t, s => .cons r (Rs.append t s)
theorem Rs.take : ∀ {vs : List V} {ds : List D} (n : Nat), Rs K ct G vs ds → Rs K ct G (vs.take n) (ds.take n)
  | _, _, 0, _ => .nil
  | _, _, _ + 1, .nil => .nil
  | _, _, n + 1, .cons r t => .cons r (Rs.take n t)
theorem Rs.drop : ∀ {vs : List V} {ds : List D} (n : Nat), Rs K ct G vs ds → Rs K ct G (vs.drop n) (ds.drop n)
  | _, _, 0, r => r
  | _, _, _ + 1, .nil => .nil
  | _, _, n + 1, .cons _ t => Rs.drop n t
theorem Rs.set : ∀ {vs : List V} {ds : List D} (i : Nat) {v : V} {d : D}, Rs K ct G vs ds → R K ct G v d → Rs K ct G (vs.set i v) (ds.set i d)
  | _, _, _, _, _, .nil, _ => .nil
  | _, _, 0, _, _, .cons _ t, r => .cons r t
  | _, _, i + 1, _, _, .cons q t, r => .cons q (Rs.set i t r)
theorem Rf.lookup : ∀ {vs : List (Str × V)} {ds : List (Str × D)} {f : Str} {d : D}, Rf K ct G vs ds → ds.lookup f = some d → ∃ v, vs.lookup f = some v ∧ R K ct G v d
  | _, _, f, d, .nil, e => by simp at e
  | _, _, f, d, .cons (f := g) r t, e => by
    rw [List.lookup_cons] at e
    rw [List.lookup_cons]
    cases h : (f == g) with
    | true => rw [h] at e; cases e; exact ⟨_, rfl, r⟩
    | false => rw [h] at e; exact Rf.lookup t e
theorem Rf.lookup_none : ∀ {vs : List (Str × V)} {ds : List (Str × D)} {f : Str}, Rf K ct G vs ds → ds.lookup f = none → vs.lookup f = none
  | _, _, f, .nil, e => rfl
  | _, _, f, .cons (f := g) r t, e => by
    rw [List.lookup_cons] at e ⊢
    cases h : (f == g) with
    | true => rw [h] at e; cases e
    | false => rw [h] at e; exact Rf.lookup_none t e
theorem Rf.length : ∀ {vs : List (Str × V)} {ds : List (Str × D)}, Rf K ct G vs ds → vs.length = ds.length
  | _, _, .nil => rfl
  | _, _, .cons _ t => congrArg (· + 1) (Rf.length t)
end

/-! ### slots -/
/-- un: not assigned or given up; sh: data that nothing changes; ow: a list or an object that this def has made and may change; pn: one that the caller has lent -/
inductive Sl where
  | un | sh (d : D) | ow (d : D) | pn (d : D)
/-- what stands at an owned address -/
def HoR (K : PySem.W.Frag) (ct : List Addr) (G H : Hp) (p : Addr) : D → Prop
  | .lst ds => ∃ vs, H p = some (.lst vs) ∧ Rs K ct G vs ds
  | .obj c ds => ∃ C dx fs, ct[c]? = some C ∧ H p = some (.ins C dx fs) ∧ Rf K ct G fs ds
  | _ => False
section
variable {K : PySem.W.Frag} {ct : List Addr} {G G' H H' : Hp} {p : Addr} {d : D}
theorem HoR.mono (h : HoR K ct G H p d) (s : Same G G') (e : H' p = H p) : HoR K ct G' H' p d := by
  cases d with
  | lst ds => obtain ⟨vs, h1, h2⟩ := h; exact ⟨vs, e.trans h1, h2.mono s⟩
  | obj c ds => obtain ⟨C, dx, fs, h0, h1, h2⟩ := h; exact ⟨C, dx, fs, h0, e.trans h1, h2.mono s⟩
  | _ => exact h.elim
theorem HoR.there (h : HoR K ct G H p d) : ∃ o, H p = some o := by
  cases d with
  | lst ds => obtain ⟨vs, h1, h2⟩ := h; exact ⟨_, h1⟩
  | obj c ds => obtain ⟨C, dx, fs, h0, h1, h2⟩ := h; exact ⟨_, h1⟩
  | _ => exact h.elim
/-- given up: it stands in the view from now on -/
theorem HoR.frz (h : HoR K ct G H p d) (n : G p = none) : ∃ o, H p = some o ∧ Same G (upd G p o) ∧ R K ct (upd G p o) (.ref p) d := by
  cases d with
  | lst ds =>
    obtain ⟨vs, h1, h2⟩ := h
    have s : Same G (upd G p (.lst vs)) := fun b x e => by rw [upd_ne (ne_of_none e n)]; exact e
    exact ⟨_, h1, s, .lst upd_same (h2.mono s)⟩
  | obj c ds =>
    obtain ⟨C, dx, fs, h0, h1, h2⟩ := h
    have s : Same G (upd G p (.ins C dx fs)) := fun b x e => by rw [upd_ne (ne_of_none e n)]; exact e
    exact ⟨_, h1, s, .obj h0 upd_same (h2.mono s)⟩
  | _ => exact h.elim
end

/-- the frame's entry: the heap, the view, the lent things -/
structure Fm where
  H : Hp
  G : Hp
  pins : List (Nat × Addr)

def isOwn : Option Sl → Option D
  | some (.ow d) => some d
  | some (.pn d) => some d
  | _ => none

structure EnvS (K : PySem.W.Frag) (ct : List Addr) (Φ : Fm) (G H : Hp) (σ : St) (ρ : List Sl) : Prop where
  len : ρ.length = σ.length
  gh : Same G H
  g0 : Same Φ.G G
  fr : ∀ b o, Φ.H b = some o → (∀ i, (i, b) ∉ Φ.pins) → H b = some o
  dom : ∀ b o, Φ.H b = some o → ∃ o', H b = some o'
  gn : ∀ b o, Φ.H b = some o → Φ.G b = none → G b = none
  pin : ∀ (i : Nat) (p : Addr), (i, p) ∈ Φ.pins → σ[i]? = some (some (.ref p)) ∧ ∃ d, ρ[i]? = some (.pn d)
  sh : ∀ (i : Nat) (d : D), ρ[i]? = some (.sh d) → ∃ v, σ[i]? = some (some v) ∧ R K ct G v d
  own : ∀ (i : Nat) (d : D), isOwn ρ[i]? = some d → ∃ p, σ[i]? = some (some (.ref p)) ∧ G p = none ∧ HoR K ct G H p d ∧ (ρ[i]? = some (.pn d) → (i, p) ∈ Φ.pins) ∧ (ρ[i]? = some (.ow d) → Φ.H p = none)
  ne : ∀ (i j : Nat) (di dj : D) (p : Addr), i ≠ j → isOwn ρ[i]? = some di → isOwn ρ[j]? = some dj → σ[i]? = some (some (.ref p)) → σ[j]? ≠ some (some (.ref p))

/-- an error: its class, its fields -/
structure Exn where
  c : Nat
  fs : List (Str × D)
def ExR (K : PySem.W.Frag) (ct : List Addr) (G : Hp) (cls : Value) (dx : Option Addr) (x : Exn) : Prop :=
  ∃ C, ct[x.c]? = some C ∧ cls = .ref C ∧ ((x.fs = [] ∧ dx = none) ∨ ∃ d fvs, dx = some d ∧ G d = some (.xd fvs) ∧ Rf K ct G fvs x.fs)

inductive Out (α : Type) where
  | ok (a : α) (ρ : List Sl)
  | ex (x : Exn) (ρ : List Sl)
abbrev DM (α : Type) := List Sl → Option (Out α)
def ret {α : Type} (a : α) : DM α := fun ρ => some (.ok a ρ)
def bnd {α β : Type} (t : DM α) (f : α → DM β) : DM β := fun ρ => match t ρ with
  | some (.ok a ρ') => f a ρ'
  | some (.ex x ρ') => some (.ex x ρ')
  | none => none
def lft {α : Type} (o : Option α) : DM α := fun ρ => match o with
  | some a => some (.ok a ρ)
  | none => none

section
variable (K : PySem.W.Frag) (ct : List Addr)
/-- what is wanted behind an outcome -/
def Post (Φ : Fm) (W : WX) (σ : St) (G : Hp) {α : Type} (o : Option (Out α)) (k : α → List Sl → Hp → Hp → Prop) : Prop :=
  match o with
  | none => False
  | some (.ok a ρ') => ∀ G' H', Same G G' → EnvS K ct Φ G' H' σ ρ' → k a ρ' G' H'
  | some (.ex x ρ') => ∀ G' H' cls dx, Same G G' → EnvS K ct Φ G' H' σ ρ' → ExR K ct G' cls dx x → W cls dx σ H'
end
section
variable {K : PySem.W.Frag} {ct : List Addr} {Φ : Fm} {W : WX} {σ : St} {G G' : Hp} {α β : Type}
theorem Post.mono {o : Option (Out α)} {k : α → List Sl → Hp → Hp → Prop} (h : Post K ct Φ W σ G o k) (s : Same G G') : Post K ct Φ W σ G' o k := by
  cases o with
  | none => exact h
  | some o =>
    cases o with
    | ok a ρ' => exact fun G2 H2 s2 E => h G2 H2 (s.trans s2) E
    | ex x ρ' => exact fun G2 H2 c dx s2 E => h G2 H2 c dx (s.trans s2) E
theorem Post.bnd {t : DM α} {f : α → DM β} {ρ : List Sl} {k : β → List Sl → Hp → Hp → Prop} (h : Post K ct Φ W σ G (bnd t f ρ) k) :
    Post K ct Φ W σ G (t ρ) (fun a ρ' G' H' => EnvS K ct Φ G' H' σ ρ' ∧ Post K ct Φ W σ G' (f a ρ') k) := by
  unfold FD.bnd at h
  cases e : t ρ with
  | none => rw [e] at h; exact h
  | some o =>
    rw [e] at h
    cases o with
    | ok a ρ' => exact fun G2 H2 s2 E => ⟨E, Post.mono h s2⟩
    | ex x ρ' => exact h
theorem Post.imp {o : Option (Out α)} {k k' : α → List Sl → Hp → Hp → Prop} (h : Post K ct Φ W σ G o k) (hk : ∀ a ρ' G' H', Same G G' → EnvS K ct Φ G' H' σ ρ' → k a ρ' G' H' → k' a ρ' G' H') : Post K ct Φ W σ G o k' := by
  cases o with
  | none => exact h
  | some o =>
    cases o with
    | ok a ρ' => exact fun G2 H2 s2 E => hk _ _ _ _ s2 E (h G2 H2 s2 E)
    | ex x ρ' => exact h
end

/-! ### readings -/
/-- fresh or shared -/
def RF (K : PySem.W.Frag) (ct : List Addr) (Φ : Fm) (G H : Hp) (σ : St) (ρ : List Sl) (v : V) : Sl → Prop
  | .sh d => R K ct G v d
  | .ow d => ∃ p, v = .ref p ∧ G p = none ∧ HoR K ct G H p d ∧ Φ.H p = none ∧ ∀ (i : Nat) (d' : D), isOwn ρ[i]? = some d' → σ[i]? ≠ some (some (.ref p))
  | _ => False
def tF (K : PySem.W.Frag) (ct : List Addr) (W : WX) (t : DM Sl) : TE := fun σ H Q => ∃ Φ G ρ, EnvS K ct Φ G H σ ρ ∧ Post K ct Φ W σ G (t ρ) (fun sl ρ' G' H' => ∀ v, RF K ct Φ G' H' σ ρ' v sl → Q v H')
def tD (K : PySem.W.Frag) (ct : List Addr) (W : WX) (t : DM D) : TE := fun σ H Q => ∃ Φ G ρ, EnvS K ct Φ G H σ ρ ∧ Post K ct Φ W σ G (t ρ) (fun d _ G' H' => ∀ v, R K ct G' v d → Q v H')
def tTD (K : PySem.W.Frag) (ct : List Addr) (W : WX) (t : DM Bool) : TT := fun σ H Q => ∃ Φ G ρ, EnvS K ct Φ G H σ ρ ∧ Post K ct Φ W σ G (t ρ) (fun b _ _ H' => Q b H')
/-- an argument: data, or a thing lent -/
inductive Ar where
  | val (d : D) | lend (i : Nat)
def ArR (K : PySem.W.Frag) (ct : List Addr) (G : Hp) (σ : St) (v : V) : Ar → Prop
  | .val d => R K ct G v d
  | .lend i => σ[i]? = some (some v)
inductive ArRs (K : PySem.W.Frag) (ct : List Addr) (G : Hp) (σ : St) : List V → List Ar → Prop
  | nil : ArRs K ct G σ [] []
  | cons {v vs a as} : ArR K ct G σ v a → ArRs K ct G σ vs as → ArRs K ct G σ (v :: vs) (a :: as)
theorem ArR.mono {K : PySem.W.Frag} {ct : List Addr} {G G' : Hp} {σ : St} {v : V} {a : Ar} (h : ArR K ct G σ v a) (s : Same G G') : ArR K ct G' σ v a := by
  cases a with
  | val d => exact R.mono s h
  | lend i => exact h
def tAs (K : PySem.W.Frag) (ct : List Addr) (W : WX) (t : DM (List Ar)) : TA := fun σ H Q => ∃ Φ G ρ, EnvS K ct Φ G H σ ρ ∧ Post K ct Φ W σ G (t ρ) (fun as _ G' H' => ∀ vs, ArRs K ct G' σ vs as → Q vs H')

/-! ### judgements -/
section
variable (X : Cx) (ct : List Addr) (W : WX)
abbrev PEF (e : Expr) (t : DM Sl) : Prop := PE X e (tF X.K ct W t)
abbrev PED (e : Expr) (t : DM D) : Prop := PE X e (tD X.K ct W t)
abbrev PTD (e : Expr) (t : DM Bool) : Prop := PT X e (tTD X.K ct W t)
abbrev PAD (es : List Expr) (t : DM (List Ar)) : Prop := PA X es (tAs X.K ct W t)
end
theorem weakE {X : Cx} {e : Expr} {t t' : TE} (h : PE X e t) (hw : ∀ σ H Q, t' σ H Q → t σ H Q) : PE X e t' := ⟨fun pins s σ H Q I q => h.run pins s σ H Q I (hw σ H Q q)⟩
theorem weakT {X : Cx} {e : Expr} {t t' : TT} (h : PT X e t) (hw : ∀ σ H Q, t' σ H Q → t σ H Q) : PT X e t' := ⟨fun pins s σ H Q I q => h.run pins s σ H Q I (hw σ H Q q)⟩
theorem weakA {X : Cx} {e : List Expr} {t t' : TA} (h : PA X e t) (hw : ∀ σ H Q, t' σ H Q → t σ H Q) : PA X e t' := ⟨fun pos pins s σ H Q I q => h.run pos pins s σ H Q I (hw σ H Q q)⟩
theorem weakS {X : Cx} {e : Stmt} {t t' : TS} (h : PS X e t) (hw : ∀ D σ H, t' D σ H → t D σ H) : PS X e t' := ⟨fun pins s σ H D I q => h.run pins s σ H D I (hw D σ H q)⟩
theorem weakSs {X : Cx} {e : List Stmt} {t t' : TS} (h : PSs X e t) (hw : ∀ D σ H, t' D σ H → t D σ H) : PSs X e t' := ⟨fun pins s σ H D I q => h.run pins s σ H D I (hw D σ H q)⟩
end FD

set_option Elab.async false
set_option linter.all false
set_option maxRecDepth 100000
namespace FD
open PySem L2

/-- the heap and the view have grown by new things alone -/
structure Ext (G H G' H' : Hp) : Prop where
  hh : Same H H'
  gg : Same G G'
  gh : Same G' H'
  old : ∀ b o, H b = some o → G' b = G b
theorem Ext.refl {G H : Hp} (s : Same G H) : Ext G H G H := ⟨Same.refl _, Same.refl _, s, fun _ _ _ => rfl⟩
theorem Ext.trans {G H G1 H1 G2 H2 : Hp} (a : Ext G H G1 H1) (b : Ext G1 H1 G2 H2) : Ext G H G2 H2 :=
  ⟨a.hh.trans b.hh, a.gg.trans b.gg, b.gh, fun c o e => (b.old c o (a.hh c o e)).trans (a.old c o e)⟩
theorem same_upd {H : Hp} {p : Addr} {o : HO} (h : H p = none) : Same H (upd H p o) := fun b x e => by rw [upd_ne (ne_of_none e h)]; exact e
theorem free_of {G H : Hp} {p : Addr} (s : Same G H) (h : H p = none) : G p = none := s.free h
/-- a new thing that nobody will change -/
theorem Ext.new {G H : Hp} {p : Addr} {o : HO} (s : Same G H) (h : H p = none) : Ext G H (upd G p o) (upd H p o) :=
  ⟨same_upd h, same_upd (s.free h), fun b x e => by
    by_cases hb : b = p
    · subst hb; rw [upd_same] at e ⊢; exact e
    · rw [upd_ne hb] at e ⊢; exact s b x e, fun b x e => upd_ne (ne_of_none e h)⟩
/-- a new thing of one's own -/
theorem Ext.own {G H : Hp} {p : Addr} {o : HO} (s : Same G H) (h : H p = none) : Ext G H G (upd H p o) :=
  ⟨same_upd h, Same.refl _, s.trans (same_upd h), fun _ _ _ => rfl⟩

section
variable {K : PySem.W.Frag} {ct : List Addr} {Φ : Fm} {G G' H H' : Hp} {σ : St} {ρ : List Sl} {i : Nat} {d : D} {v : V} {p : Addr} {o : HO}
theorem EnvS.ownH (E : EnvS K ct Φ G H σ ρ) {j : Nat} {d : D} (h : isOwn ρ[j]? = some d) {p : Addr} (e : σ[j]? = some (some (.ref p))) : ∃ o, H p = some o := by
  obtain ⟨q, e2, _, h2, _⟩ := E.own j d h
  rw [e] at e2; cases e2
  exact h2.there
theorem EnvS.ext (E : EnvS K ct Φ G H σ ρ) (x : Ext G H G' H') : EnvS K ct Φ G' H' σ ρ where
  len := E.len
  gh := x.gh
  g0 := E.g0.trans x.gg
  fr := fun b o h n => x.hh b o (E.fr b o h n)
  dom := fun b o h => let ⟨o', e⟩ := E.dom b o h; ⟨o', x.hh b o' e⟩
  gn := fun b o h n => by
    obtain ⟨o', e⟩ := E.dom b o h
    rw [x.old b o' e]; exact E.gn b o h n
  pin := E.pin
  sh := fun j d h => let ⟨v, e, r⟩ := E.sh j d h; ⟨v, e, r.mono x.gg⟩
  own := fun j d h => by
    obtain ⟨p, e, g, hr, h1, h2⟩ := E.own j d h
    obtain ⟨o, ho⟩ := hr.there
    exact ⟨p, e, by rw [x.old p o ho]; exact g, hr.mono x.gg ((x.hh p o ho).trans ho.symm), h1, h2⟩
  ne := E.ne
/-- what is new and one's own is given to the view -/
theorem EnvS.give (E : EnvS K ct Φ G H σ ρ) (h : H p = some o) (g : G p = none) (f : Φ.H p = none) (n : ∀ (j : Nat) (d' : D), isOwn ρ[j]? = some d' → σ[j]? ≠ some (some (.ref p))) : EnvS K ct Φ (upd G p o) H σ ρ where
  len := E.len
  gh := fun b x e => by
    by_cases hb : b = p
    · subst hb; rw [upd_same] at e; rw [h]; exact e
    · rw [upd_ne hb] at e; exact E.gh b x e
  g0 := E.g0.trans (same_upd g)
  fr := E.fr
  dom := E.dom
  gn := fun b x h1 h2 => by
    have hb : b ≠ p := fun z => by rw [z, f] at h1; cases h1
    rw [upd_ne hb]; exact E.gn b x h1 h2
  pin := E.pin
  sh := fun j d h => let ⟨v, e, r⟩ := E.sh j d h; ⟨v, e, r.mono (same_upd g)⟩
  own := fun j d hj => by
    obtain ⟨q, e, g', hr, h1, h2⟩ := E.own j d hj
    have hq : q ≠ p := fun z => n j d hj (by rw [e, z])
    exact ⟨q, e, by rw [upd_ne hq]; exact g', hr.mono (same_upd g) rfl, h1, h2⟩
  ne := E.ne
theorem RF.give (E : EnvS K ct Φ G H σ ρ) {sl : Sl} (r : RF K ct Φ G H σ ρ v sl) : ∃ G' d, Same G G' ∧ EnvS K ct Φ G' H σ ρ ∧ R K ct G' v d ∧ (sl = .sh d ∨ sl = .ow d) := by
  cases sl with
  | un => exact r.elim
  | pn d => exact r.elim
  | sh d => exact ⟨G, d, Same.refl _, E, r, .inl rfl⟩
  | ow d =>
    obtain ⟨p, rfl, g, hr, f, n⟩ := r
    obtain ⟨o, ho, s, rr⟩ := hr.frz g
    exact ⟨_, d, s, E.give ho g f n, rr, .inr rfl⟩
/-- the data of a slot's value -/
def Sl.dat : Sl → D
  | .sh d => d
  | .ow d => d
  | .pn d => d
  | .un => .non
end

/-! ### freezing -/
def fz (t : DM Sl) : DM D := bnd t fun sl => ret sl.dat
section
variable {X : Cx} {ct : List Addr} {W : WX} {e : Expr}
theorem dF {t : DM Sl} (h : PEF X ct W e t) : PED X ct W e (fz t) := by
  refine weakE h fun σ H Q q => ?_
  obtain ⟨Φ, G, ρ, E, q⟩ := q
  refine ⟨Φ, G, ρ, E, (Post.bnd q).imp fun sl ρ' G' H' s E' q v r => ?_⟩
  obtain ⟨G2, d, s2, E2, r2, hd⟩ := RF.give E' r
  have hd' : sl.dat = d := by rcases hd with h | h <;> rw [h] <;> rfl
  exact q.2 G2 H' s2 E2 v (by rw [hd']; exact r2)
/-- data as a value -/
def shD (t : DM D) : DM Sl := bnd t fun d => ret (.sh d)
theorem fD {t : DM D} (h : PED X ct W e t) : PEF X ct W e (shD t) := by
  refine weakE h fun σ H Q q => ?_
  obtain ⟨Φ, G, ρ, E, q⟩ := q
  exact ⟨Φ, G, ρ, E, (Post.bnd q).imp fun d ρ' G' H' s E' q v r => q.2 G' H' (Same.refl _) E' v r⟩

/-! ### constants and names -/
theorem dInt {i j pos} : PED X ct W (.Constant (.int i) j pos) (ret (.int i)) := weakE pe_int fun _ H Q ⟨_, G, _, E, q⟩ => q G H (Same.refl _) E _ (.int i)
theorem dBl {i j pos} : PED X ct W (.Constant (.bool i) j pos) (ret (.bl i)) := weakE pe_bl fun _ H Q ⟨_, G, _, E, q⟩ => q G H (Same.refl _) E _ (.bl i)
theorem dNon {j pos} : PED X ct W (.Constant .none j pos) (ret .non) := weakE pe_non fun _ H Q ⟨_, G, _, E, q⟩ => q G H (Same.refl _) E _ .non
theorem dStr {i j pos} : PED X ct W (.Constant (.str i) j pos) (ret (.str i)) := weakE pe_str fun _ H Q ⟨_, G, _, E, q⟩ => q G H (Same.refl _) E _ (.str i)
/-- a name that holds data -/
def get (i : Nat) : DM D := fun ρ => match ρ[i]? with
  | some (.sh d) => some (.ok d ρ)
  | _ => none
theorem dV (i : Nat) {x : Str} {pos : Pos} (hN : X.N[i]? = some x := by rfl) (hv : Vis X.env.scope x := by first | exact Or.inl rfl | exact Or.inr (Or.inl rfl) | exact Or.inr (Or.inr rfl)) (hd : (x == ("__debug__" : Str)) = false := by decide)
    (hcd : (x == ("__classdict__" : Str)) = false := by decide) : PED X ct W (.Name x pos) (get i) := by
  refine weakE (pe_var hN hv hd hcd) fun σ H Q q => ?_
  obtain ⟨Φ, G, ρ, E, q⟩ := q
  unfold get at q
  cases h : ρ[i]? with
  | none => rw [h] at q; exact q.elim
  | some sl =>
    rw [h] at q
    cases sl with
    | un => exact q.elim
    | ow d => exact q.elim
    | pn d => exact q.elim
    | sh d =>
      obtain ⟨v, ev, r⟩ := E.sh i d h
      exact ⟨v, ev, q G H (Same.refl _) E v r⟩
end

/-! ### operators on data -/
/-- the value of an operator: data, or a new thing -/
def RN (K : PySem.W.Frag) (ct : List Addr) (G' H H' : Hp) (v : V) : Sl → Prop
  | .sh d => R K ct G' v d
  | .ow d => ∃ p, v = .ref p ∧ H p = none ∧ G' p = none ∧ HoR K ct G' H' p d
  | _ => False
theorem RN.rf {K : PySem.W.Frag} {ct : List Addr} {Φ : Fm} {G G' H H' : Hp} {σ : St} {ρ : List Sl} {v : V} {sl : Sl} (r : RN K ct G' H H' v sl) (E : EnvS K ct Φ G H σ ρ) : RF K ct Φ G' H' σ ρ v sl := by
  cases sl with
  | un => exact r.elim
  | pn d => exact r.elim
  | sh d => exact r
  | ow d =>
    obtain ⟨p, rfl, hp, g, h⟩ := r
    refine ⟨p, rfl, g, h, ?_, fun j d' hj ej => ?_⟩
    · cases e : Φ.H p with
      | none => rfl
      | some o => obtain ⟨o', e'⟩ := E.dom p o e; rw [hp] at e'; cases e'
    · obtain ⟨o, ho⟩ := E.ownH hj ej
      rw [hp] at ho; cases ho
def rF (K : PySem.W.Frag) (ct : List Addr) (g : D → D → Option Sl) : R2 := fun x y H Q => ∃ G dx dy sl, Same G H ∧ R K ct G x dx ∧ R K ct G y dy ∧ g dx dy = some sl ∧ ∀ v G' H', Ext G H G' H' → RN K ct G' H H' v sl → Q v H'
def lftS (o : Option Sl) : DM Sl := lft o
def opS (g : D → D → Option Sl) (ta tb : DM D) : DM Sl := bnd ta fun a => bnd tb fun b => lft (g a b)
theorem lft_post {K : PySem.W.Frag} {ct : List Addr} {Φ : Fm} {W : WX} {σ : St} {G : Hp} {α : Type} {o : Option α} {ρ : List Sl} {k : α → List Sl → Hp → Hp → Prop} (h : Post K ct Φ W σ G (lft o ρ) k) :
    ∃ a, o = some a ∧ ∀ G' H', Same G G' → EnvS K ct Φ G' H' σ ρ → k a ρ G' H' := by
  unfold lft at h
  cases o with
  | none => exact h.elim
  | some a => exact ⟨a, rfl, h⟩
section
variable {X : Cx} {ct : List Addr} {W : WX} {a b : Expr} {ta tb : DM D} {pos : Pos}
theorem tOpF {g : D → D → Option Sl} {σ : St} {H : Hp} {Q : VK} (q : tF X.K ct W (opS g ta tb) σ H Q) : tOp (rF X.K ct g) (tD X.K ct W ta) (tD X.K ct W tb) σ H Q := by
  obtain ⟨Φ, G, ρ, E, q⟩ := q
  refine ⟨Φ, G, ρ, E, (Post.bnd q).imp fun d1 ρ1 G1 H1 s1 E1 q1 v1 r1 => ?_⟩
  refine ⟨Φ, G1, ρ1, E1, (Post.bnd q1.2).imp fun d2 ρ2 G2 H2 s2 E2 q2 v2 r2 => ?_⟩
  obtain ⟨sl, e, k⟩ := lft_post q2.2
  exact ⟨G2, d1, d2, sl, E2.gh, r1.mono s2, r2, e, fun v G' H' x r => k G' H' x.gg (E2.ext x) v (r.rf E2)⟩
theorem fOp {op : Operator} {g : D → D → Option Sl} (ho : OpR X (binaryOp op) (rF X.K ct g)) (ha : PED X ct W a ta) (hb : PED X ct W b tb) : PEF X ct W (.BinOp a op b pos) (opS g ta tb) :=
  weakE (pe_op ho ha hb) fun _ _ _ q => tOpF q
theorem fCmp {op : CmpOp} {g : D → D → Option Sl} (ho : OpR X (compareOp op) (rF X.K ct g)) (ha : PED X ct W a ta) (hb : PED X ct W b tb) (hm : behindInMarks op b = false) : PEF X ct W (.Compare a [op] [b] pos) (opS g ta tb) :=
  weakE (pe_cmpR ho ha hb hm) fun _ _ _ q => tOpF q
end
theorem OpR.weak {X : Cx} {f : Value → Value → Sem Value} {r r' : R2} (h : OpR X f r) (hw : ∀ x y H Q, r' x y H Q → r x y H Q) : OpR X f r' := fun pins s σ H x y v u Q I rx ry q => h pins s σ H x y v u Q I rx ry (hw x y H Q q)
end FD

set_option Elab.async false
set_option linter.all false
set_option maxRecDepth 100000
namespace FD
open PySem L2

/-! ### operators on data -/
def addS : D → D → Option Sl
  | .int i, .int j => some (.sh (.int (i + j)))
  | .str a, .str b => if a.length + b.length ≤ sizeLine then some (.sh (.str (a ++ b))) else none
  | .lst a, .lst b => if a.length + b.length ≤ sizeLine then some (.ow (.lst (a ++ b))) else none
  | .tup a, .tup b => if a.length + b.length ≤ sizeLine then some (.sh (.tup (a ++ b))) else none
  | _, _ => none
def subS : D → D → Option Sl
  | .int i, .int j => some (.sh (.int (i - j)))
  | _, _ => none
def mulS : D → D → Option Sl
  | .int i, .int j => if i.natAbs.log2 + j.natAbs.log2 < 1000000 then some (.sh (.int (i * j))) else none
  | .lst a, .int k => if -(2 ^ 63) ≤ k ∧ k < 2 ^ 63 ∧ a.length * k.toNat ≤ sizeLine then some (.ow (.lst (List.replicate k.toNat a).flatten)) else none
  | _, _ => none
def fdivS : D → D → Option Sl
  | .int i, .int j => if 0 < j ∧ j.natAbs.log2 < 9000 then some (.sh (.int (i / j))) else none
  | _, _ => none
def modS : D → D → Option Sl
  | .int i, .int j => if 0 < j then some (.sh (.int (i % j))) else none
  | _, _ => none
def powS : D → D → Option Sl
  | .int i, .int j => if 0 ≤ j ∧ j ≤ 1000000 ∧ i.natAbs < 2 ^ 64 then some (.sh (.int (i ^ j.toNat))) else none
  | _, _ => none
def ltS : D → D → Option Sl
  | .int i, .int j => some (.sh (.bl (decide (i < j))))
  | _, _ => none
def leS : D → D → Option Sl
  | .int i, .int j => some (.sh (.bl (decide (i ≤ j))))
  | _, _ => none
def gtS : D → D → Option Sl
  | .int i, .int j => some (.sh (.bl (decide (j < i))))
  | _, _ => none
def geS : D → D → Option Sl
  | .int i, .int j => some (.sh (.bl (decide (j ≤ i))))
  | _, _ => none
mutual
def toPy : D → PyData
  | .non => .none
  | .bl b => .bool b
  | .int i => .int i
  | .str x => .str x
  | .tup xs => .tuple (toPys xs)
  | .lst xs => .list (toPys xs)
  | .obj _ _ => .none
  | .scr _ => .none
  | .opq _ => .none
def toPys : List D → List PyData
  | [] => []
  | x :: r => toPy x :: toPys r
end
mutual
def plainN : Nat → D → Bool
  | _, .non => true
  | _, .bl _ => true
  | _, .int _ => true
  | _, .str _ => true
  | 0, .tup _ => false
  | 0, .lst _ => false
  | n + 1, .tup xs => plainNs n xs
  | n + 1, .lst xs => plainNs n xs
  | _, _ => false
def plainNs : Nat → List D → Bool
  | _, [] => true
  | n, x :: r => plainN n x && plainNs n r
end
/-- None, truth values, numbers, texts, tuples and lists of these, not too deep -/
abbrev plain : D → Bool := plainN 60
mutual
def deq : D → D → Bool
  | .non, .non => true
  | .bl a, .bl b => a == b
  | .bl a, .int j => (if a then 1 else 0) == j
  | .int i, .bl b => i == (if b then 1 else 0)
  | .int i, .int j => i == j
  | .str x, .str y => x == y
  | .tup xs, .tup ys => deqs xs ys
  | .lst xs, .lst ys => deqs xs ys
  | _, _ => false
def deqs : List D → List D → Bool
  | [], [] => true
  | x :: xs, y :: ys => deq x y && deqs xs ys
  | _, _ => false
end
def eqS : D → D → Option Sl := fun a b => if plain a && plain b then some (.sh (.bl (deq a b))) else none
def neS : D → D → Option Sl := fun a b => if plain a && plain b then some (.sh (.bl (!deq a b))) else none
def inS : D → D → Option Sl
  | .str a, .str b => some (.sh (.bl (!(Builtin.Str.occurrences b a 0 b.length 1).isEmpty)))
  | a, .lst b => if plain a && plain (.lst b) then some (.sh (.bl (b.any fun y => deq y a))) else none
  | a, .tup b => if plain a && plain (.tup b) then some (.sh (.bl (b.any fun y => deq y a))) else none
  | _, _ => none
def ninS : D → D → Option Sl
  | .str a, .str b => some (.sh (.bl (!!(Builtin.Str.occurrences b a 0 b.length 1).isEmpty)))
  | a, .lst b => if plain a && plain (.lst b) then some (.sh (.bl (!b.any fun y => deq y a))) else none
  | a, .tup b => if plain a && plain (.tup b) then some (.sh (.bl (!b.any fun y => deq y a))) else none
  | _, _ => none

section
variable {X : Cx} {ct : List Addr}
theorem RN.of_ext {K : PySem.W.Frag} {ct : List Addr} {G H : Hp} {Q : VK} {sl : Sl} (s : Same G H) (k : ∀ v G' H', Ext G H G' H' → RN K ct G' H H' v sl → Q v H') {d : D} (e : sl = .sh d) {v : V} (r : R K ct G v d) : Q v H :=
  k v G H (.refl s) (by rw [e]; exact r)
theorem dAdd : OpR X (binaryOp .Add) (rF X.K ct addS) := by
  intro pins s σ H x y v u Q I rx ry h
  obtain ⟨G, dx, dy, sl, sg, r1, r2, e, k⟩ := h
  cases r1 with
  | int i =>
    cases r2 with
    | int j => cases e; exact op_add pins s σ H _ _ v u Q I rx ry ⟨i, j, rfl, rfl, RN.of_ext sg k rfl (.int _)⟩
    | _ => simp [addS] at e
  | str a =>
    cases r2 with
    | str b =>
      simp only [addS] at e
      split at e
      · cases e; exact op_add_str pins s σ H _ _ v u Q I rx ry ⟨a, b, rfl, rfl, by assumption, RN.of_ext sg k rfl (.str _)⟩
      · cases e
    | _ => simp [addS] at e
  | lst ha ra =>
    cases r2 with
    | lst hb rb =>
      simp only [addS] at e
      split at e
      · rename_i hz
        cases e
        refine op_cat pins s σ H _ _ v u Q I rx ry ⟨_, _, _, _, rfl, rfl, sg _ _ ha, sg _ _ hb, by rw [ra.length, rb.length]; exact hz, fun p hp => ?_⟩
        exact k _ G _ (.own sg hp) ⟨p, rfl, hp, sg.free hp, _, upd_same, ra.append rb⟩
      · cases e
    | _ => simp [addS] at e
  | tup ha ra =>
    cases r2 with
    | tup hb rb =>
      simp only [addS] at e
      split at e
      · rename_i hz
        cases e
        refine op_catA pins s σ H _ _ v u Q I rx ry ⟨_, _, _, _, rfl, rfl, Same.seqT sg ha, Same.seqT sg hb, by rw [ra.length, rb.length]; exact hz, fun z => ?_, fun _ z => ?_, fun _ _ p hp => ?_⟩
        · subst z
          cases ra
          exact RN.of_ext sg k rfl (.tup hb rb)
        · subst z
          cases rb
          exact RN.of_ext sg k (by rw [List.append_nil]) (.tup ha ra)
        · refine k _ _ _ (.new sg hp) (R.tup (.inl (.inl upd_same)) ((ra.append rb).mono (same_upd (sg.free hp))))
      · cases e
    | _ => simp [addS] at e
  | _ => simp [addS] at e
theorem dSub : OpR X (binaryOp .Sub) (rF X.K ct subS) := by
  intro pins s σ H x y v u Q I rx ry h
  obtain ⟨G, dx, dy, sl, sg, r1, r2, e, k⟩ := h
  cases r1 with
  | int i =>
    cases r2 with
    | int j => cases e; exact op_sub pins s σ H _ _ v u Q I rx ry ⟨i, j, rfl, rfl, RN.of_ext sg k rfl (.int _)⟩
    | _ => simp [subS] at e
  | _ => simp [subS] at e
theorem Rs.replicate {K : PySem.W.Frag} {ct : List Addr} {G : Hp} {xs : List V} {ds : List D} (r : Rs K ct G xs ds) : ∀ n : Nat, Rs K ct G (List.replicate n xs).flatten (List.replicate n ds).flatten
  | 0 => .nil
  | n + 1 => by rw [List.replicate_succ, List.replicate_succ, List.flatten_cons, List.flatten_cons]; exact r.append (Rs.replicate r n)
theorem dMul : OpR X (binaryOp .Mult) (rF X.K ct mulS) := by
  intro pins s σ H x y v u Q I rx ry h
  obtain ⟨G, dx, dy, sl, sg, r1, r2, e, k⟩ := h
  cases r1 with
  | int i =>
    cases r2 with
    | int j =>
      simp only [mulS] at e
      split at e
      · cases e; exact op_mulW pins s σ H _ _ v u Q I rx ry ⟨i, j, rfl, rfl, by assumption, RN.of_ext sg k rfl (.int _)⟩
      · cases e
    | _ => simp [mulS] at e
  | lst ha ra =>
    cases r2 with
    | int j =>
      simp only [mulS] at e
      split at e
      · rename_i hz
        cases e
        refine op_rep pins s σ H _ _ v u Q I rx ry ⟨_, _, _, rfl, rfl, sg _ _ ha, hz.1, hz.2.1, by rw [ra.length]; exact hz.2.2, fun p hp => ?_⟩
        exact k _ G _ (.own sg hp) ⟨p, rfl, hp, sg.free hp, _, upd_same, ra.replicate _⟩
      · cases e
    | _ => simp [mulS] at e
  | _ => simp [mulS] at e
theorem dFdiv : OpR X (binaryOp .FloorDiv) (rF X.K ct fdivS) := by
  intro pins s σ H x y v u Q I rx ry h
  obtain ⟨G, dx, dy, sl, sg, r1, r2, e, k⟩ := h
  cases r1 with
  | int i =>
    cases r2 with
    | int j =>
      simp only [fdivS] at e
      split at e
      · cases e; exact op_fdivW pins s σ H _ _ v u Q I rx ry ⟨i, j, rfl, rfl, by assumption, RN.of_ext sg k rfl (.int _)⟩
      · cases e
    | _ => simp [fdivS] at e
  | _ => simp [fdivS] at e
theorem dMod : OpR X (binaryOp .Mod) (rF X.K ct modS) := by
  intro pins s σ H x y v u Q I rx ry h
  obtain ⟨G, dx, dy, sl, sg, r1, r2, e, k⟩ := h
  cases r1 with
  | int i =>
    cases r2 with
    | int j =>
      simp only [modS] at e
      split at e
      · cases e; exact op_mod pins s σ H _ _ v u Q I rx ry ⟨i, j, rfl, rfl, by assumption, RN.of_ext sg k rfl (.int _)⟩
      · cases e
    | _ => simp [modS] at e
  | _ => simp [modS] at e
theorem dPow : OpR X (binaryOp .Pow) (rF X.K ct powS) := by
  intro pins s σ H x y v u Q I rx ry h
  obtain ⟨G, dx, dy, sl, sg, r1, r2, e, k⟩ := h
  cases r1 with
  | int i =>
    cases r2 with
    | int j =>
      simp only [powS] at e
      split at e
      · cases e; exact op_pow pins s σ H _ _ v u Q I rx ry ⟨i, j, rfl, rfl, by assumption, RN.of_ext sg k rfl (.int _)⟩
      · cases e
    | _ => simp [powS] at e
  | _ => simp [powS] at e
theorem dLt : OpR X (compareOp .Lt) (rF X.K ct ltS) := by
  intro pins s σ H x y v u Q I rx ry h
  obtain ⟨G, dx, dy, sl, sg, r1, r2, e, k⟩ := h
  cases r1 with
  | int i =>
    cases r2 with
    | int j => cases e; exact op_lt pins s σ H _ _ v u Q I rx ry ⟨i, j, rfl, rfl, RN.of_ext sg k rfl (.bl _)⟩
    | _ => simp [ltS] at e
  | _ => simp [ltS] at e
theorem dLe : OpR X (compareOp .LtE) (rF X.K ct leS) := by
  intro pins s σ H x y v u Q I rx ry h
  obtain ⟨G, dx, dy, sl, sg, r1, r2, e, k⟩ := h
  cases r1 with
  | int i =>
    cases r2 with
    | int j => cases e; exact op_le pins s σ H _ _ v u Q I rx ry ⟨i, j, rfl, rfl, RN.of_ext sg k rfl (.bl _)⟩
    | _ => simp [leS] at e
  | _ => simp [leS] at e
theorem dGt : OpR X (compareOp .Gt) (rF X.K ct gtS) := by
  intro pins s σ H x y v u Q I rx ry h
  obtain ⟨G, dx, dy, sl, sg, r1, r2, e, k⟩ := h
  cases r1 with
  | int i =>
    cases r2 with
    | int j => cases e; exact op_gt pins s σ H _ _ v u Q I rx ry ⟨i, j, rfl, rfl, RN.of_ext sg k rfl (.bl _)⟩
    | _ => simp [gtS] at e
  | _ => simp [gtS] at e
theorem dGe : OpR X (compareOp .GtE) (rF X.K ct geS) := by
  intro pins s σ H x y v u Q I rx ry h
  obtain ⟨G, dx, dy, sl, sg, r1, r2, e, k⟩ := h
  cases r1 with
  | int i =>
    cases r2 with
    | int j => cases e; exact op_ge pins s σ H _ _ v u Q I rx ry ⟨i, j, rfl, rfl, RN.of_ext sg k rfl (.bl _)⟩
    | _ => simp [geS] at e
  | _ => simp [geS] at e

mutual
theorem toPy_plain : ∀ (n : Nat) (d : D), plainN n d = true → (toPy d).plain = true ∧ (toPy d).depth ≤ n + 1
  | n, .non, _ => by simp [toPy, PyData.plain, PyData.depth]
  | n, .bl _, _ => by simp [toPy, PyData.plain, PyData.depth]
  | n, .int _, _ => by simp [toPy, PyData.plain, PyData.depth]
  | n, .str _, _ => by simp [toPy, PyData.plain, PyData.depth]
  | n + 1, .tup xs, h => by
    have := toPys_plain n xs (by simpa [plainN] using h)
    simp only [toPy, PyData.plain, PyData.depth]
    exact ⟨this.1, by omega⟩
  | n + 1, .lst xs, h => by
    have := toPys_plain n xs (by simpa [plainN] using h)
    simp only [toPy, PyData.plain, PyData.depth]
    exact ⟨this.1, by omega⟩
  | 0, .tup xs, h => by simp [plainN] at h
  | 0, .lst xs, h => by simp [plainN] at h
  | n, .obj _ _, h => by simp [plainN] at h
  | n, .scr _, h => by simp [plainN] at h
  | n, .opq _, h => by simp [plainN] at h
theorem toPys_plain : ∀ (n : Nat) (ds : List D), plainNs n ds = true → PyData.plainAll (toPys ds) = true ∧ PyData.depthAll (toPys ds) ≤ n + 1
  | n, [], _ => by simp [toPys, PyData.plainAll, PyData.depthAll]
  | n, x :: r, h => by
    simp only [plainNs, Bool.and_eq_true] at h
    have h1 := toPy_plain n x h.1
    have h2 := toPys_plain n r h.2
    simp only [toPys, PyData.plainAll, PyData.depthAll, Bool.and_eq_true]
    exact ⟨⟨h1.1, h2.1⟩, by omega⟩
end
mutual
theorem R.dp {K : PySem.W.Frag} {ct : List Addr} {G H : Hp} (s : Same G H) : ∀ (n : Nat) (d : D) (v : V), plainN n d = true → R K ct G v d → Dp K H v (toPy d)
  | n, .non, _, _, .non => .non
  | n, .bl b, _, _, .bl _ => .bl b
  | n, .int b, _, _, .int _ => .int b
  | n, .str b, _, _, .str _ => .str b
  | n + 1, .tup xs, _, h, .tup h1 h2 => .tup (Same.seqT s h1) (Rs.dp s n xs _ (by simpa [plainN] using h) h2)
  | n + 1, .lst xs, _, h, .lst h1 h2 => .lst (.inl (.inl (s _ _ h1))) (Rs.dp s n xs _ (by simpa [plainN] using h) h2)
  | 0, .tup xs, _, h, _ => by simp [plainN] at h
  | 0, .lst xs, _, h, _ => by simp [plainN] at h
  | n, .obj _ _, _, h, _ => by simp [plainN] at h
  | n, .scr _, _, h, _ => by simp [plainN] at h
  | n, .opq _, _, h, _ => by simp [plainN] at h
theorem Rs.dp {K : PySem.W.Frag} {ct : List Addr} {G H : Hp} (s : Same G H) : ∀ (n : Nat) (ds : List D) (vs : List V), plainNs n ds = true → Rs K ct G vs ds → DpAll K H vs (toPys ds)
  | n, [], _, _, .nil => .nil
  | n, x :: r, _, h, .cons h1 h2 => by
    simp only [plainNs, Bool.and_eq_true] at h
    exact .cons (R.dp s n x _ h.1 h1) (Rs.dp s n r _ h.2 h2)
end
mutual
theorem deq_py : ∀ (a b : D) (n m : Nat), plainN n a = true → plainN m b = true → PyData.eqv (toPy a) (toPy b) = deq a b := by
  intro a b n m ha hb
  cases a with
  | tup xs =>
    cases n with
    | zero => simp [plainN] at ha
    | succ n =>
      cases b with
      | tup ys =>
        cases m with
        | zero => simp [plainN] at hb
        | succ m => simp only [toPy, PyData.eqv, deq]; exact deqs_py xs ys n m (by simpa [plainN] using ha) (by simpa [plainN] using hb)
      | obj _ _ => simp [plainN] at hb
      | scr _ => simp [plainN] at hb
      | opq _ => simp [plainN] at hb
      | _ => simp [toPy, PyData.eqv, deq]
  | lst xs =>
    cases n with
    | zero => simp [plainN] at ha
    | succ n =>
      cases b with
      | lst ys =>
        cases m with
        | zero => simp [plainN] at hb
        | succ m => simp only [toPy, PyData.eqv, deq]; exact deqs_py xs ys n m (by simpa [plainN] using ha) (by simpa [plainN] using hb)
      | obj _ _ => simp [plainN] at hb
      | scr _ => simp [plainN] at hb
      | opq _ => simp [plainN] at hb
      | _ => simp [toPy, PyData.eqv, deq]
  | obj _ _ => simp [plainN] at ha
  | scr _ => simp [plainN] at ha
  | opq _ => simp [plainN] at ha
  | _ =>
    cases b with
    | obj _ _ => simp [plainN] at hb
    | scr _ => simp [plainN] at hb
    | opq _ => simp [plainN] at hb
    | _ => simp [toPy, PyData.eqv, deq]
theorem deqs_py : ∀ (a b : List D) (n m : Nat), plainNs n a = true → plainNs m b = true → PyData.eqvAll (toPys a) (toPys b) = deqs a b
  | [], [], _, _, _, _ => by simp [toPys, PyData.eqvAll, deqs]
  | [], _ :: _, _, _, _, _ => by simp [toPys, PyData.eqvAll, deqs]
  | _ :: _, [], _, _, _, _ => by simp [toPys, PyData.eqvAll, deqs]
  | x :: xs, y :: ys, n, m, ha, hb => by
    simp only [plainNs, Bool.and_eq_true] at ha hb
    simp only [toPys, PyData.eqvAll, deqs]
    rw [deq_py x y n m ha.1 hb.1, deqs_py xs ys n m ha.2 hb.2]
end
theorem dEq (hu : X.A.units + 64 < cLine) : OpR X (compareOp .Eq) (rF X.K ct eqS) := by
  intro pins s σ H x y v u Q I rx ry h
  obtain ⟨G, dx, dy, sl, sg, r1, r2, e, k⟩ := h
  unfold eqS at e
  split at e
  · rename_i hp
    cases e
    rw [Bool.and_eq_true] at hp
    obtain ⟨as, q1⟩ := Dp.reads I _ x v (R.dp sg 60 dx x hp.1 r1) rx
    obtain ⟨bs, q2⟩ := Dp.reads I _ y u (R.dp sg 60 dy y hp.2 r2) ry
    have a1 := toPy_plain 60 dx hp.1
    have a2 := toPy_plain 60 dy hp.2
    refine SeqAt.eq_plain q1 q2 a1.1 a2.1 (by omega) ?_
    rw [deq_py dx dy 60 60 hp.1 hp.2]
    exact ⟨.bl _, H, I, rfl, RN.of_ext sg k rfl (.bl _)⟩
  · cases e
theorem dNe (hu : X.A.units + 64 < cLine) : OpR X (compareOp .NotEq) (rF X.K ct neS) := by
  intro pins s σ H x y v u Q I rx ry h
  obtain ⟨G, dx, dy, sl, sg, r1, r2, e, k⟩ := h
  unfold neS at e
  split at e
  · rename_i hp
    cases e
    rw [Bool.and_eq_true] at hp
    obtain ⟨as, q1⟩ := Dp.reads I _ x v (R.dp sg 60 dx x hp.1 r1) rx
    obtain ⟨bs, q2⟩ := Dp.reads I _ y u (R.dp sg 60 dy y hp.2 r2) ry
    have a1 := toPy_plain 60 dx hp.1
    have a2 := toPy_plain 60 dy hp.2
    refine SeqAt.ne_plain q1 q2 a1.1 a2.1 (by omega) ?_
    rw [deq_py dx dy 60 60 hp.1 hp.2]
    exact ⟨.bl _, H, I, rfl, RN.of_ext sg k rfl (.bl _)⟩
  · cases e
end
end FD

set_option Elab.async false
set_option linter.all false
set_option maxRecDepth 100000
namespace FD
open PySem L2

section
variable {X : Cx} {ct : List Addr}
/-! ### in, not in -/
theorem occ_cases {P : Prop} {a b : Str} : True := trivial
theorem dIn (hu : X.A.units + 64 < cLine) : OpR X (compareOp .In) (rF X.K ct inS) := by
  intro pins s σ H x y v u Q I rx ry h
  obtain ⟨G, dx, dy, sl, sg, r1, r2, e, k⟩ := h
  have seq : ∀ (n : Nat) (b : List D) (pb : PyData), (pb = .list (toPys b) ∨ pb = .tuple (toPys b)) → plainN 60 dx = true → plainNs 59 b = true → Dp X.K H y pb → sl = .sh (.bl (b.any fun z => deq z dx)) →
      wpAny (model X.prog X.w) X.A (compareOp .In v u) (EP X pins σ Q) X.xe s := by
    intro n b pb hpb p1 p2 hy es
    obtain ⟨as, q1⟩ := Dp.reads I _ x v (R.dp sg 60 dx x p1 r1) rx
    obtain ⟨bs, q2⟩ := Dp.reads I _ y u hy ry
    have a1 := toPy_plain 60 dx p1
    have a2 := toPys_plain 59 b p2
    have eb : (toPys b).any (fun z => PyData.eqv z (toPy dx)) = b.any fun z => deq z dx := by
      clear hy q2 es a2 hpb
      induction b with
      | nil => rfl
      | cons z r ih =>
        simp only [plainNs, Bool.and_eq_true] at p2
        simp only [toPys, List.any_cons]
        rw [deq_py z dx 59 60 p2.1 p1, ih p2.2]
    have fin : EP X pins σ Q (.bool ((toPys b).any fun z => PyData.eqv z (toPy dx))) s := ⟨.bl _, H, I, rfl, by rw [eb]; exact RN.of_ext sg k es (.bl _)⟩
    rcases hpb with z | z
    · subst z
      exact SeqAt.in_list_data q2 q1 a2.1 a1.1 (by omega) fin
    · subst z
      exact SeqAt.in_tuple_data q2 q1 a2.1 a1.1 (by omega) fin
  cases r2 with
  | str b =>
    cases r1 with
    | str a => cases e; exact op_in_str pins s σ H _ _ v u Q I rx ry ⟨a, b, rfl, rfl, RN.of_ext sg k rfl (.bl _)⟩
    | _ => simp [inS] at e
  | lst hb rb =>
    rename_i b
    have e' : (if plain dx && plain (.lst b) then some (Sl.sh (.bl (b.any fun y => deq y dx))) else none) = some sl := by
      cases dx <;> exact e
    split at e'
    · rename_i hp
      rw [Bool.and_eq_true] at hp
      have p2 : plainNs 59 b = true := by simpa [plainN] using hp.2
      exact seq 0 b _ (.inl rfl) hp.1 p2 (.lst (.inl (.inl (sg _ _ hb))) (Rs.dp sg 59 b _ p2 rb)) (Option.some.inj e').symm
    · cases e'
  | tup hb rb =>
    rename_i b
    have e' : (if plain dx && plain (.tup b) then some (Sl.sh (.bl (b.any fun y => deq y dx))) else none) = some sl := by
      cases dx <;> exact e
    split at e'
    · rename_i hp
      rw [Bool.and_eq_true] at hp
      have p2 : plainNs 59 b = true := by simpa [plainN] using hp.2
      exact seq 0 b _ (.inr rfl) hp.1 p2 (.tup (Same.seqT sg hb) (Rs.dp sg 59 b _ p2 rb)) (Option.some.inj e').symm
    · cases e'
  | _ => exfalso; revert e; cases dx <;> simp [inS]
theorem dNotIn (hu : X.A.units + 64 < cLine) : OpR X (compareOp .NotIn) (rF X.K ct ninS) := by
  intro pins s σ H x y v u Q I rx ry h
  obtain ⟨G, dx, dy, sl, sg, r1, r2, e, k⟩ := h
  have seq : ∀ (n : Nat) (b : List D) (pb : PyData), (pb = .list (toPys b) ∨ pb = .tuple (toPys b)) → plainN 60 dx = true → plainNs 59 b = true → Dp X.K H y pb → sl = .sh (.bl (!b.any fun z => deq z dx)) →
      wpAny (model X.prog X.w) X.A (compareOp .NotIn v u) (EP X pins σ Q) X.xe s := by
    intro n b pb hpb p1 p2 hy es
    obtain ⟨as, q1⟩ := Dp.reads I _ x v (R.dp sg 60 dx x p1 r1) rx
    obtain ⟨bs, q2⟩ := Dp.reads I _ y u hy ry
    have a1 := toPy_plain 60 dx p1
    have a2 := toPys_plain 59 b p2
    have eb : (toPys b).any (fun z => PyData.eqv z (toPy dx)) = b.any fun z => deq z dx := by
      clear hy q2 es a2 hpb
      induction b with
      | nil => rfl
      | cons z r ih =>
        simp only [plainNs, Bool.and_eq_true] at p2
        simp only [toPys, List.any_cons]
        rw [deq_py z dx 59 60 p2.1 p1, ih p2.2]
    have fin : EP X pins σ Q (.bool (!(toPys b).any fun z => PyData.eqv z (toPy dx))) s := ⟨.bl _, H, I, rfl, by rw [eb]; exact RN.of_ext sg k es (.bl _)⟩
    rcases hpb with z | z
    · subst z
      exact SeqAt.notIn_list_data q2 q1 a2.1 a1.1 (by omega) fin
    · subst z
      exact SeqAt.notIn_tuple_data q2 q1 a2.1 a1.1 (by omega) fin
  cases r2 with
  | str b =>
    cases r1 with
    | str a => cases e; exact op_notin_str pins s σ H _ _ v u Q I rx ry ⟨a, b, rfl, rfl, RN.of_ext sg k rfl (.bl _)⟩
    | _ => simp [ninS] at e
  | lst hb rb =>
    rename_i b
    have e' : (if plain dx && plain (.lst b) then some (Sl.sh (.bl (!b.any fun y => deq y dx))) else none) = some sl := by
      cases dx <;> exact e
    split at e'
    · rename_i hp
      rw [Bool.and_eq_true] at hp
      have p2 : plainNs 59 b = true := by simpa [plainN] using hp.2
      exact seq 0 b _ (.inl rfl) hp.1 p2 (.lst (.inl (.inl (sg _ _ hb))) (Rs.dp sg 59 b _ p2 rb)) (Option.some.inj e').symm
    · cases e'
  | tup hb rb =>
    rename_i b
    have e' : (if plain dx && plain (.tup b) then some (Sl.sh (.bl (!b.any fun y => deq y dx))) else none) = some sl := by
      cases dx <;> exact e
    split at e'
    · rename_i hp
      rw [Bool.and_eq_true] at hp
      have p2 : plainNs 59 b = true := by simpa [plainN] using hp.2
      exact seq 0 b _ (.inr rfl) hp.1 p2 (.tup (Same.seqT sg hb) (Rs.dp sg 59 b _ p2 rb)) (Option.some.inj e').symm
    · cases e'
  | _ => exfalso; revert e; cases dx <;> simp [ninS]
/-! ### is, is not -/
def isS : D → D → Option Sl
  | .non, .non => some (.sh (.bl true))
  | .bl _, .non => some (.sh (.bl false))
  | .int _, .non => some (.sh (.bl false))
  | .str _, .non => some (.sh (.bl false))
  | .tup _, .non => some (.sh (.bl false))
  | .lst _, .non => some (.sh (.bl false))
  | .obj _ _, .non => some (.sh (.bl false))
  | .bl a, .bl b => some (.sh (.bl (decide (a = b))))
  | _, _ => none
def nisS : D → D → Option Sl
  | .non, .non => some (.sh (.bl false))
  | .bl _, .non => some (.sh (.bl true))
  | .int _, .non => some (.sh (.bl true))
  | .str _, .non => some (.sh (.bl true))
  | .tup _, .non => some (.sh (.bl true))
  | .lst _, .non => some (.sh (.bl true))
  | .obj _ _, .non => some (.sh (.bl true))
  | .bl a, .bl b => some (.sh (.bl (!decide (a = b))))
  | _, _ => none
theorem dIs : OpR X (compareOp .Is) (rF X.K ct isS) := by
  intro pins s σ H x y v u Q I rx ry h
  obtain ⟨G, dx, dy, sl, sg, r1, r2, e, k⟩ := h
  cases r2 with
  | non =>
    refine op_isN pins s σ H _ _ v u Q I rx ry ⟨rfl, ?_⟩
    cases r1 with
    | scr => simp [isS] at e
    | opq => simp [isS] at e
    | _ => (cases e; exact RN.of_ext sg k rfl (.bl _))
  | bl b =>
    cases r1 with
    | bl a => cases e; exact op_is_bl pins s σ H _ _ v u Q I rx ry ⟨a, b, rfl, rfl, RN.of_ext sg k rfl (.bl _)⟩
    | _ => simp [isS] at e
  | _ => exfalso; revert e; cases dx <;> simp [isS]
theorem dIsNot : OpR X (compareOp .IsNot) (rF X.K ct nisS) := by
  intro pins s σ H x y v u Q I rx ry h
  obtain ⟨G, dx, dy, sl, sg, r1, r2, e, k⟩ := h
  cases r2 with
  | non =>
    refine op_notN pins s σ H _ _ v u Q I rx ry ⟨rfl, ?_⟩
    cases r1 with
    | scr => simp [nisS] at e
    | opq => simp [nisS] at e
    | _ => (cases e; exact RN.of_ext sg k rfl (.bl _))
  | bl b =>
    cases r1 with
    | bl a => cases e; exact op_isnot_bl pins s σ H _ _ v u Q I rx ry ⟨a, b, rfl, rfl, RN.of_ext sg k rfl (.bl _)⟩
    | _ => simp [nisS] at e
  | _ => exfalso; revert e; cases dx <;> simp [nisS]

/-! ### items -/
def ixS : D → D → Option Sl
  | .lst xs, .int i => (atI xs i).map .sh
  | .tup xs, .int i => (atI xs i).map .sh
  | .scr ns, .int i => (atI ns i).map fun n => .sh (.int n)
  | .str z, .int i => if z.length ≤ sizeLine then (atI z.cps.toList i).map fun c => .sh (.str ⟨#[c]⟩) else none
  | _, _ => none
theorem atI_rs {K : PySem.W.Frag} {ct : List Addr} {G : Hp} {vs : List V} {ds : List D} {i : Int} {d : D} (r : Rs K ct G vs ds) (h : atI ds i = some d) : ∃ v, atI vs i = some v ∧ R K ct G v d := by
  unfold atI at h ⊢
  rw [r.length]
  cases e : ixN ds.length i with
  | none => rw [e] at h; simp at h
  | some j =>
    rw [e] at h
    exact r.get h
theorem dIx : IxR X (rF X.K ct ixS) := by
  intro value slice pins s σ H x y v u Q I rx ry h hs
  obtain ⟨G, dx, dy, sl, sg, r1, r2, e, k⟩ := h
  cases r2 with
  | int i =>
    cases r1 with
    | lst ha ra =>
      simp only [ixS, Option.map_eq_some_iff] at e
      obtain ⟨d, ed, rfl⟩ := e
      obtain ⟨z, ez, rz⟩ := atI_rs ra ed
      exact ix_list value slice pins s σ H _ _ v u Q I rx ry ⟨_, _, i, z, rfl, rfl, .inl (.inl (sg _ _ ha)), ez, RN.of_ext sg k rfl rz⟩ hs
    | tup ha ra =>
      simp only [ixS, Option.map_eq_some_iff] at e
      obtain ⟨d, ed, rfl⟩ := e
      obtain ⟨z, ez, rz⟩ := atI_rs ra ed
      exact ix_tup value slice pins s σ H _ _ v u Q I rx ry ⟨_, _, i, z, rfl, rfl, Same.seqT sg ha, ez, RN.of_ext sg k rfl rz⟩ hs
    | scr ha =>
      simp only [ixS, Option.map_eq_some_iff] at e
      obtain ⟨n, ed, rfl⟩ := e
      refine ix_list value slice pins s σ H _ _ v u Q I rx ry ⟨_, _, i, .int n, rfl, rfl, sg.seq ha, ?_, RN.of_ext sg k rfl (.int n)⟩ hs
      unfold atI at ed ⊢
      rw [List.length_map]
      cases e : ixN (List.length _) i with
      | none => rw [e] at ed; simp at ed
      | some j =>
        rw [e] at ed
        simp only [Option.bind_some] at ed ⊢
        rw [List.getElem?_map, ed]; rfl
    | str z =>
      simp only [ixS] at e
      split at e
      · rename_i hz
        simp only [Option.map_eq_some_iff] at e
        obtain ⟨c, ec, rfl⟩ := e
        exact ix_str value slice pins s σ H _ _ v u Q I rx ry ⟨z, i, c, rfl, rfl, hz, ec, RN.of_ext sg k rfl (.str _)⟩ hs
      · cases e
    | _ => simp [ixS] at e
  | _ => exfalso; revert e; cases dx <;> simp [ixS]
end
section
variable {X : Cx} {ct : List Addr} {W : WX} {a b : Expr} {ta tb : DM D} {pos : Pos}
theorem fIx (ha : PED X ct W a ta) (hb : PED X ct W b tb) (hs : PlainIx b) : PEF X ct W (.Subscript a b pos) (opS ixS ta tb) :=
  weakE (pe_ix dIx ha hb hs) fun _ _ _ q => tOpF q
end

/-! ### slices -/
def cutD {α : Type} (xs : List α) (lo hi : Option Int) : List α := (xs.drop (HT.sIx xs.length 0 lo)).take (HT.sIx xs.length xs.length hi - HT.sIx xs.length 0 lo)
def slS : D → Option Int → Option Int → Option Sl
  | .lst xs, lo, hi => some (.ow (.lst (cutD xs lo hi)))
  | .tup xs, lo, hi => some (.sh (.tup (cutD xs lo hi)))
  | .str z, lo, hi => if z.length ≤ sizeLine then some (.sh (.str (cutS z lo hi))) else none
  | _, _, _ => none
def rSl (K : PySem.W.Frag) (ct : List Addr) : V → Option Int → Option Int → Hp → VK → Prop := fun x lo hi H Q => ∃ G dx sl, Same G H ∧ R K ct G x dx ∧ slS dx lo hi = some sl ∧ ∀ v G' H', Ext G H G' H' → RN K ct G' H H' v sl → Q v H'
theorem Rs.cut {K : PySem.W.Frag} {ct : List Addr} {G : Hp} {vs : List V} {ds : List D} (r : Rs K ct G vs ds) (lo hi : Option Int) : Rs K ct G (cutV vs lo hi) (cutD ds lo hi) := by
  unfold cutV cutD
  rw [r.length]
  exact (r.drop _).take _
section
variable {X : Cx} {ct : List Addr} {W : WX} {e : Expr} {te : DM D} {pos p2 : Pos}
theorem dSl : SlR X (rSl X.K ct) := by
  intro pins s σ H x v vl vu lo hi sl Q I rx hs pl pu h
  obtain ⟨G, dx, w, sg, r1, ew, k⟩ := h
  cases r1 with
  | lst ha ra =>
    cases ew
    refine sl_list pins s σ H _ v vl vu lo hi sl Q I rx hs pl pu ⟨_, _, rfl, .inl (.inl (sg _ _ ha)), fun p hp => ?_⟩
    exact k _ G _ (.own sg hp) ⟨p, rfl, hp, sg.free hp, _, upd_same, ra.cut lo hi⟩
  | tup ha ra =>
    rename_i ds
    cases ew
    refine sl_tupA pins s σ H _ v vl vu lo hi sl Q I rx hs pl pu ⟨_, _, rfl, Same.seqT sg ha, fun z => ?_, fun _ p hp => ?_⟩
    · have e2 : cutD ds lo hi = ds := by
        unfold cutD
        rw [← ra.length, z.1, z.2, List.drop_zero, Nat.sub_zero, ra.length, List.take_length]
      exact RN.of_ext sg k rfl (by rw [e2]; exact .tup ha ra)
    · exact k _ _ _ (.new sg hp) (R.tup (.inl (.inl upd_same)) ((ra.cut lo hi).mono (same_upd (sg.free hp))))
  | str z =>
    simp only [slS] at ew
    split at ew
    · rename_i hz
      cases ew
      exact sl_str pins s σ H _ v vl vu lo hi sl Q I rx hs pl pu ⟨z, rfl, hz, RN.of_ext sg k rfl (.str _)⟩
    · cases ew
  | _ => simp [slS] at ew
def tOi (K : PySem.W.Frag) (ct : List Addr) (W : WX) (t : DM (Option Int)) : TO := fun σ H Q => ∃ Φ G ρ, EnvS K ct Φ G H σ ρ ∧ Post K ct Φ W σ G (t ρ) (fun o _ _ H' => Q o H')
def asI : D → Option (Option Int)
  | .int i => some (some i)
  | _ => none
def part (t : DM D) : DM (Option Int) := bnd t fun d => lft (asI d)
theorem oNone : PO X none (tOi X.K ct W (ret none)) := by
  refine ⟨fun pins s σ H Q I q => po_none.run pins s σ H Q I ?_⟩
  obtain ⟨Φ, G, ρ, E, q⟩ := q
  exact q G H (Same.refl _) E
theorem oSome (h : PED X ct W e te) : PO X (some e) (tOi X.K ct W (part te)) := by
  refine ⟨fun pins s σ H Q I q => (po_some h).run pins s σ H Q I ?_⟩
  obtain ⟨Φ, G, ρ, E, q⟩ := q
  refine ⟨Φ, G, ρ, E, (Post.bnd q).imp fun d ρ1 G1 H1 s1 E1 q1 v r => ?_⟩
  obtain ⟨o, eo, k⟩ := lft_post q1.2
  cases r with
  | int i => cases eo; exact ⟨i, rfl, k G1 H1 (Same.refl _) E1⟩
  | _ => cases eo
def slM (te : DM D) (tl th : DM (Option Int)) : DM Sl := bnd te fun x => bnd tl fun l => bnd th fun u => lft (slS x l u)
theorem fSl {lo hi : Option Expr} {tl th : DM (Option Int)} (he : PED X ct W e te) (hl : PO X lo (tOi X.K ct W tl)) (hu : PO X hi (tOi X.K ct W th)) : PEF X ct W (.Subscript e (.Slice lo hi none p2) pos) (slM te tl th) := by
  refine weakE (pe_slice (r := rSl X.K ct) dSl he hl hu) fun σ H Q q => ?_
  obtain ⟨Φ, G, ρ, E, q⟩ := q
  refine ⟨Φ, G, ρ, E, (Post.bnd q).imp fun d ρ1 G1 H1 s1 E1 q1 v1 r1 => ?_⟩
  refine ⟨Φ, G1, ρ1, E1, (Post.bnd q1.2).imp fun l ρ2 G2 H2 s2 E2 q2 => ?_⟩
  refine ⟨Φ, G2, ρ2, E2, (Post.bnd q2.2).imp fun u ρ3 G3 H3 s3 E3 q3 => ?_⟩
  obtain ⟨sl, es, k⟩ := lft_post q3.2
  exact ⟨G3, d, sl, E3.gh, r1.mono (s2.trans s3), es, fun v G' H' x r => k G' H' x.gg (E3.ext x) v (r.rf E3)⟩
end

/-! ### lists of data, displays -/
def tDs (K : PySem.W.Frag) (ct : List Addr) (W : WX) (t : DM (List D)) : TA := fun σ H Q => ∃ Φ G ρ, EnvS K ct Φ G H σ ρ ∧ Post K ct Φ W σ G (t ρ) (fun ds _ G' H' => ∀ vs, Rs K ct G' vs ds → Q vs H')
abbrev PDs (X : Cx) (ct : List Addr) (W : WX) (es : List Expr) (t : DM (List D)) : Prop := PA X es (tDs X.K ct W t)
def consM (t : DM D) (r : DM (List D)) : DM (List D) := bnd t fun d => bnd r fun ds => ret (d :: ds)
section
variable {X : Cx} {ct : List Addr} {W : WX} {e : Expr} {es : List Expr} {t : DM D} {r : DM (List D)} {pos : Pos}
theorem aNil : PDs X ct W [] (ret []) := by
  refine weakA pa_nil fun σ H Q q => ?_
  obtain ⟨Φ, G, ρ, E, q⟩ := q
  exact q G H (Same.refl _) E [] .nil
theorem aCons (h : PED X ct W e t) (hr : PDs X ct W es r) (hs : starEach (e :: es) X.env = (false, eval e X.env) :: starEach es X.env := by rfl) : PDs X ct W (e :: es) (consM t r) := by
  refine weakA (pa_cons h hr hs) fun σ H Q q => ?_
  obtain ⟨Φ, G, ρ, E, q⟩ := q
  refine ⟨Φ, G, ρ, E, (Post.bnd q).imp fun d ρ1 G1 H1 s1 E1 q1 v1 r1 => ?_⟩
  refine ⟨Φ, G1, ρ1, E1, (Post.bnd q1.2).imp fun ds ρ2 G2 H2 s2 E2 q2 vs r2 => ?_⟩
  exact q2.2 G2 H2 (Same.refl _) E2 _ (.cons (r1.mono s2) r2)
def tupM (t : DM (List D)) : DM Sl := bnd t fun ds => lft (if ds.length ≤ sizeLine then some (.sh (.tup ds)) else none)
def lstM (t : DM (List D)) : DM Sl := bnd t fun ds => lft (if ds.length ≤ sizeLine then some (.ow (.lst ds)) else none)
theorem fTup {x1} (h : PDs X ct W es r) : PEF X ct W (.Tuple es x1 pos) (tupM r) := by
  refine weakE (pe_tup h) fun σ H Q q => ?_
  obtain ⟨Φ, G, ρ, E, q⟩ := q
  refine ⟨Φ, G, ρ, E, (Post.bnd q).imp fun ds ρ1 G1 H1 s1 E1 q1 vs r1 => ?_⟩
  obtain ⟨sl, e, k⟩ := lft_post q1.2
  split at e
  · rename_i hz
    cases e
    refine ⟨by rw [r1.length]; exact hz, fun p hp => ?_⟩
    have x : Ext G1 H1 (upd G1 p (.tup vs)) (upd H1 p (.tup vs)) := .new E1.gh hp
    exact k _ _ x.gg (E1.ext x) _ (R.tup (.inl (.inl upd_same)) (r1.mono x.gg))
  · cases e
theorem fLst (h : PDs X ct W es r) : PEF X ct W (.List es pos) (lstM r) := by
  refine weakE (pe_lst h) fun σ H Q q => ?_
  obtain ⟨Φ, G, ρ, E, q⟩ := q
  refine ⟨Φ, G, ρ, E, (Post.bnd q).imp fun ds ρ1 G1 H1 s1 E1 q1 vs r1 => ?_⟩
  obtain ⟨sl, e, k⟩ := lft_post q1.2
  split at e
  · rename_i hz
    cases e
    refine ⟨by rw [r1.length]; exact hz, fun p hp => ?_⟩
    have x : Ext G1 H1 G1 (upd H1 p (.lst vs)) := .own E1.gh hp
    refine k _ _ x.gg (E1.ext x) _ (RN.rf (H := H1) ?_ E1)
    exact ⟨p, rfl, hp, E1.gh.free hp, vs, upd_same, r1⟩
  · cases e

/-! ### calls of built-ins -/
def rC (K : PySem.W.Frag) (ct : List Addr) (g : List D → Option Sl) : List V → Hp → VK → Prop := fun vs H Q => ∃ G ds sl, Same G H ∧ Rs K ct G vs ds ∧ g ds = some sl ∧ ∀ v G' H', Ext G H G' H' → RN K ct G' H H' v sl → Q v H'
def callM (g : List D → Option Sl) (t : DM (List D)) : DM Sl := bnd t fun ds => lft (g ds)
theorem tCBF {g : List D → Option Sl} {σ : St} {H : Hp} {Q : VK} (q : tF X.K ct W (callM g r) σ H Q) : tCB (rC X.K ct g) (tDs X.K ct W r) σ H Q := by
  obtain ⟨Φ, G, ρ, E, q⟩ := q
  refine ⟨Φ, G, ρ, E, (Post.bnd q).imp fun ds ρ1 G1 H1 s1 E1 q1 vs r1 => ?_⟩
  obtain ⟨sl, e, k⟩ := lft_post q1.2
  exact ⟨G1, ds, sl, E1.gh, r1, e, fun v G' H' x rr => k G' H' x.gg (E1.ext x) v (rr.rf E1)⟩
theorem fB {x : Str} {id : String} {p : Pos} {g : List D → Option Sl} (hc : CallR X (.builtin id) (rC X.K ct g)) (hg : Gl X x) (hm : X.mg x = none) (hv : bootBuiltins x = some (.builtin id)) (ha : PDs X ct W (e :: es) r) (hn : x ≠ "__name__" := by decide) (hdb : (x == ("__debug__" : Str)) = false := by decide)
    (he : starEach (e :: es) X.env = (false, eval e X.env) :: starEach es X.env := by rfl) (hpl : (backTo pos (starEach es X.env)).any (·.1) = false := by rfl) : PEF X ct W (.Call (.Name x p) (e :: es) [] pos) (callM g r) :=
  weakE (pe_callB hc hg hm hv ha hn hdb he hpl) fun _ _ _ q => tCBF q
theorem fTy {x : Str} {T : String} {p : Pos} {g : List D → Option Sl} (hc : CallR X (.type T) (rC X.K ct g)) (hg : Gl X x) (hm : X.mg x = none) (hv : bootBuiltins x = some (.type T)) (ha : PDs X ct W (e :: es) r) (hn : x ≠ "__name__" := by decide) (hdb : (x == ("__debug__" : Str)) = false := by decide)
    (he : starEach (e :: es) X.env = (false, eval e X.env) :: starEach es X.env := by rfl) (hpl : (backTo pos (starEach es X.env)).any (·.1) = false := by rfl) : PEF X ct W (.Call (.Name x p) (e :: es) [] pos) (callM g r) :=
  weakE (pe_callTy hc hg hm hv ha hn hdb he hpl) fun _ _ _ q => tCBF q
end
def lenS : List D → Option Sl
  | [.lst xs] => some (.sh (.int xs.length))
  | [.tup xs] => some (.sh (.int xs.length))
  | [.scr xs] => some (.sh (.int xs.length))
  | [.str z] => if z.length ≤ sizeLine then some (.sh (.int z.length)) else none
  | _ => none
def absS : List D → Option Sl
  | [.int i] => some (.sh (.int (if i < 0 then -i else i)))
  | _ => none
def intS : List D → Option Sl
  | [.int i] => some (.sh (.int i))
  | [.bl k] => some (.sh (.int (if k then 1 else 0)))
  | _ => none
def maxS : List D → Option Sl
  | [.int i, .int j] => some (.sh (.int (if j > i then j else i)))
  | _ => none
def minS : List D → Option Sl
  | [.int i, .int j] => some (.sh (.int (if j < i then j else i)))
  | _ => none
def listS : List D → Option Sl
  | [.lst xs] => some (.ow (.lst xs))
  | [.tup xs] => some (.ow (.lst xs))
  | _ => none
def tupleS : List D → Option Sl
  | [.lst xs] => some (.sh (.tup xs))
  | [.tup xs] => some (.sh (.tup xs))
  | _ => none
section
variable {X : Cx} {ct : List Addr}
theorem cLen : CallR X (.builtin "len") (rC X.K ct lenS) := by
  intro pins s σ H vs us Q I r h
  obtain ⟨G, ds, sl, sg, rs, e, k⟩ := h
  cases rs with
  | nil => cases e
  | cons r1 r2 =>
    cases r2 with
    | cons _ _ => revert e; (rename_i d _ _ _ _ _ _; cases d <;> simp [lenS])
    | nil =>
      cases r1 with
      | lst ha ra => cases e; exact call_len_seq pins s σ H _ us Q I r ⟨_, _, rfl, .inl (.inl (.inl (sg _ _ ha))), RN.of_ext sg k rfl (by rw [ra.length]; exact .int _)⟩
      | tup ha ra => cases e; exact call_len_seq pins s σ H _ us Q I r ⟨_, _, rfl, .inr (Same.seqT sg ha), RN.of_ext sg k rfl (by rw [ra.length]; exact .int _)⟩
      | scr ha => cases e; exact call_len_seq pins s σ H _ us Q I r ⟨_, _, rfl, .inl (sg.seq ha), RN.of_ext sg k rfl (by rw [List.length_map]; exact .int _)⟩
      | str z =>
        simp only [lenS] at e
        split at e
        · rename_i hz
          cases e
          exact call_len pins s σ H _ us Q I r ⟨_, z.length, rfl, ⟨hz, rfl⟩, RN.of_ext sg k rfl (.int _)⟩
        · cases e
      | _ => simp [lenS] at e
theorem cAbs : CallR X (.builtin "abs") (rC X.K ct absS) := by
  intro pins s σ H vs us Q I r h
  obtain ⟨G, ds, sl, sg, rs, e, k⟩ := h
  unfold absS at e
  split at e
  · cases e
    cases rs with
    | cons r1 r2 =>
      cases r2; cases r1
      exact call_abs pins s σ H _ us Q I r ⟨_, rfl, RN.of_ext sg k rfl (.int _)⟩
  · cases e
theorem cInt : CallR X (.type "int") (rC X.K ct intS) := by
  intro pins s σ H vs us Q I r h
  obtain ⟨G, ds, sl, sg, rs, e, k⟩ := h
  unfold intS at e
  split at e
  · cases e
    cases rs with
    | cons r1 r2 =>
      cases r2; cases r1
      exact call_int1 pins s σ H _ us Q I r (.inl ⟨_, rfl, RN.of_ext sg k rfl (.int _)⟩)
  · cases e
    cases rs with
    | cons r1 r2 =>
      cases r2; cases r1
      exact call_int1 pins s σ H _ us Q I r (.inr ⟨_, rfl, RN.of_ext sg k rfl (.int _)⟩)
  · cases e
theorem cMax (hc : X.calm = true) : CallR X (.builtin "max") (rC X.K ct maxS) := by
  intro pins s σ H vs us Q I r h
  obtain ⟨G, ds, sl, sg, rs, e, k⟩ := h
  unfold maxS at e
  split at e
  · cases e
    cases rs with
    | cons r1 r2 =>
      cases r2 with
      | cons r3 r4 =>
        cases r4; cases r1; cases r3
        exact call_max2 hc pins s σ H _ us Q I r ⟨_, _, rfl, RN.of_ext sg k rfl (.int _)⟩
  · cases e
theorem cMin (hc : X.calm = true) : CallR X (.builtin "min") (rC X.K ct minS) := by
  intro pins s σ H vs us Q I r h
  obtain ⟨G, ds, sl, sg, rs, e, k⟩ := h
  unfold minS at e
  split at e
  · cases e
    cases rs with
    | cons r1 r2 =>
      cases r2 with
      | cons r3 r4 =>
        cases r4; cases r1; cases r3
        exact call_min2 hc pins s σ H _ us Q I r ⟨_, _, rfl, RN.of_ext sg k rfl (.int _)⟩
  · cases e
theorem cList : CallR X (.type "list") (rC X.K ct listS) := by
  intro pins s σ H vs us Q I r h
  obtain ⟨G, ds, sl, sg, rs, e, k⟩ := h
  unfold listS at e
  split at e
  · cases e
    cases rs with
    | cons r1 r2 =>
      cases r2
      cases r1 with
      | lst ha ra => exact call_list_of pins s σ H _ us Q I r ⟨_, _, rfl, .inl (.inl (.inl (sg _ _ ha))), fun p hp => k _ G _ (.own sg hp) ⟨p, rfl, hp, sg.free hp, _, upd_same, ra⟩⟩
  · cases e
    cases rs with
    | cons r1 r2 =>
      cases r2
      cases r1 with
      | tup ha ra => exact call_list_of pins s σ H _ us Q I r ⟨_, _, rfl, .inr (Same.seqT sg ha), fun p hp => k _ G _ (.own sg hp) ⟨p, rfl, hp, sg.free hp, _, upd_same, ra⟩⟩
  · cases e
theorem cTuple : CallR X (.type "tuple") (rC X.K ct tupleS) := by
  intro pins s σ H vs us Q I r h
  obtain ⟨G, ds, sl, sg, rs, e, k⟩ := h
  unfold tupleS at e
  split at e
  · cases e
    cases rs with
    | cons r1 r2 =>
      cases r2
      cases r1 with
      | lst ha ra => exact call_tuple_of pins s σ H _ us Q I r ⟨_, _, rfl, .inl ⟨.inl (.inl (sg _ _ ha)), fun p hp => k _ _ _ (.new sg hp) (R.tup (.inl (.inl upd_same)) (ra.mono (same_upd (sg.free hp))))⟩⟩
  · cases e
    cases rs with
    | cons r1 r2 =>
      cases r2
      cases r1 with
      | tup ha ra => exact call_tuple_of pins s σ H _ us Q I r ⟨_, _, rfl, .inr ⟨Same.seqT sg ha, RN.of_ext sg k rfl (.tup ha ra)⟩⟩
  · cases e
end
end FD

set_option Elab.async false
set_option linter.all false
set_option maxRecDepth 100000
namespace FD
open PySem L2

/-! ### truth, tests -/
def truD : D → Option Bool
  | .non => some false
  | .bl b => some b
  | .int i => some (i != 0)
  | .str y => if y.length ≤ sizeLine then some ((y.length : Int) != 0) else none
  | .lst xs => some (!xs.isEmpty)
  | .tup xs => some (!xs.isEmpty)
  | _ => none
theorem Rs.isEmpty {K : PySem.W.Frag} {ct : List Addr} {G : Hp} {vs : List V} {ds : List D} (r : Rs K ct G vs ds) : vs.isEmpty = ds.isEmpty := by cases r <;> rfl
theorem R.tru {K : PySem.W.Frag} {ct : List Addr} {G H : Hp} {v : V} {d : D} {b : Bool} (s : Same G H) (r : R K ct G v d) (e : truD d = some b) : TruV K v H b := by
  cases r with
  | non => cases e; rfl
  | bl k => cases e; rfl
  | int i => cases e; rfl
  | str y =>
    simp only [truD] at e
    split at e
    · cases e; exact ⟨by assumption, rfl⟩
    · cases e
  | lst h rs => cases e; exact .inl ⟨_, .inl (.inl (s _ _ h)), by rw [rs.isEmpty]⟩
  | tup h rs => cases e; exact .inr (.inl ⟨_, Same.seqT s h, by rw [rs.isEmpty]⟩)
  | _ => cases e
def asB : Sl → Option Bool
  | .sh (.bl b) => some b
  | _ => none
def truM (t : DM D) : DM Bool := bnd t fun d => lft (truD d)
def testM (t : DM Sl) : DM Bool := bnd t fun sl => lft (asB sl)
def notM (t : DM Bool) : DM Bool := bnd t fun b => ret (!b)
def andM (t u : DM Bool) : DM Bool := bnd t fun b => if b then u else ret false
def orM (t u : DM Bool) : DM Bool := bnd t fun b => if b then ret true else u
def ifM {α : Type} (c : DM Bool) (t u : DM α) : DM α := bnd c fun b => if b then t else u
section
variable {X : Cx} {ct : List Addr} {W : WX} {a b c e : Expr} {ta tb : DM D} {pos : Pos} {rest : List Expr}
theorem cTru (h : PED X ct W e ta) (he : ∀ whole, isTrue e X.env whole = (do let v ← whole; standAt e.pos; holding [v] (truthy v)) := by intro _; rfl) : PTD X ct W e (truM ta) := by
  refine weakT (pt_truth h he) fun σ H Q q => ?_
  obtain ⟨Φ, G, ρ, E, q⟩ := q
  refine ⟨Φ, G, ρ, E, (Post.bnd q).imp fun d ρ1 G1 H1 s1 E1 q1 v r => ?_⟩
  obtain ⟨b, eb, k⟩ := lft_post q1.2
  exact ⟨b, r.tru E1.gh eb, k G1 H1 (Same.refl _) E1⟩
theorem cCmp {op : CmpOp} {g : D → D → Option Sl} (ho : OpR X (compareOp op) (rF X.K ct g)) (ha : PED X ct W a ta) (hb : PED X ct W b tb) (hm : behindInMarks op b = false) : PTD X ct W (.Compare a [op] [b] pos) (testM (opS g ta tb)) := by
  refine weakT (pt_cmpR ho ha hb hm) fun σ H Q q => ?_
  obtain ⟨Φ, G, ρ, E, q⟩ := q
  refine tOpF ⟨Φ, G, ρ, E, (Post.bnd q).imp fun sl ρ1 G1 H1 s1 E1 q1 v r => ?_⟩
  obtain ⟨b, eb, k⟩ := lft_post q1.2
  unfold asB at eb
  split at eb
  · cases eb
    cases r
    exact ⟨_, rfl, k G1 H1 (Same.refl _) E1⟩
  · cases eb
theorem cNot {t : DM Bool} (h : PTD X ct W e t) : PTD X ct W (.UnaryOp .Not e pos) (notM t) := by
  refine weakT (pt_not h) fun σ H Q q => ?_
  obtain ⟨Φ, G, ρ, E, q⟩ := q
  exact ⟨Φ, G, ρ, E, (Post.bnd q).imp fun b ρ1 G1 H1 s1 E1 q1 => q1.2 G1 H1 (Same.refl _) E1⟩
abbrev PWD (X : Cx) (ct : List Addr) (W : WX) (e : Expr) (t : DM Bool) : Prop := PW X e (tTD X.K ct W t)
theorem weakW {X : Cx} {e : Expr} {t t' : TT} (h : PW X e t) (hw : ∀ σ H Q, t' σ H Q → t σ H Q) : PW X e t' := ⟨fun wh pins s σ H Q I q => h.run wh pins s σ H Q I (hw σ H Q q)⟩
theorem wAnd1 {t : DM Bool} (h : PTD X ct W a t) : PWD X ct W (.BoolOp .And [a] pos) t := pw_and1 h
theorem wOr1 {t : DM Bool} (h : PTD X ct W a t) : PWD X ct W (.BoolOp .Or [a] pos) t := pw_or1 h
theorem wAnd {t u : DM Bool} (h : PTD X ct W a t) (hb : PWD X ct W (.BoolOp .And (b :: rest) pos) u) : PWD X ct W (.BoolOp .And (a :: b :: rest) pos) (andM t u) := by
  refine weakW (pw_and h hb) fun σ H Q q => ?_
  obtain ⟨Φ, G, ρ, E, q⟩ := q
  refine ⟨Φ, G, ρ, E, (Post.bnd q).imp fun b ρ1 G1 H1 s1 E1 q1 => ?_⟩
  cases b with
  | true => exact iteT ⟨Φ, G1, ρ1, q1.1, q1.2⟩
  | false => exact iteF (q1.2 G1 H1 (Same.refl _) E1)
theorem wOr {t u : DM Bool} (h : PTD X ct W a t) (hb : PWD X ct W (.BoolOp .Or (b :: rest) pos) u) : PWD X ct W (.BoolOp .Or (a :: b :: rest) pos) (orM t u) := by
  refine weakW (pw_or h hb) fun σ H Q q => ?_
  obtain ⟨Φ, G, ρ, E, q⟩ := q
  refine ⟨Φ, G, ρ, E, (Post.bnd q).imp fun b ρ1 G1 H1 s1 E1 q1 => ?_⟩
  cases b with
  | true => exact iteT (q1.2 G1 H1 (Same.refl _) E1)
  | false => exact iteF ⟨Φ, G1, ρ1, q1.1, q1.2⟩
theorem cW {t : DM Bool} (h : PWD X ct W e t) : PTD X ct W e t := h.pt
/-- a if c else b -/
theorem fIf {c : Expr} {tc : DM Bool} {t u : DM Sl} (hc : PTD X ct W c tc) (ha : PEF X ct W a t) (hb : PEF X ct W b u) : PEF X ct W (.IfExp c a b pos) (ifM tc t u) := by
  refine weakE (pe_ifExp hc ha hb) fun σ H Q q => ?_
  obtain ⟨Φ, G, ρ, E, q⟩ := q
  refine ⟨Φ, G, ρ, E, (Post.bnd q).imp fun b ρ1 G1 H1 s1 E1 q1 => ?_⟩
  cases b with
  | true => exact iteT ⟨Φ, G1, ρ1, q1.1, q1.2⟩
  | false => exact iteF ⟨Φ, G1, ρ1, q1.1, q1.2⟩
/-- a and b, a or b, not a, as values -/
def andV (ta tb : DM D) : DM D := bnd ta fun a => bnd (lft (truD a)) fun k => if k then tb else ret a
def orV (ta tb : DM D) : DM D := bnd ta fun a => bnd (lft (truD a)) fun k => if k then ret a else tb
def notV (ta : DM D) : DM D := bnd ta fun a => bnd (lft (truD a)) fun k => ret (.bl (!k))
theorem vOne {op} (h : PED X ct W a ta) : PED X ct W (.BoolOp op [a] pos) ta := pe_one h
theorem vAnd (h : PED X ct W a ta) (hb : PED X ct W (.BoolOp .And (b :: rest) pos) tb) : PED X ct W (.BoolOp .And (a :: b :: rest) pos) (andV ta tb) := by
  refine weakE (pe_andT h hb) fun σ H Q q => ?_
  obtain ⟨Φ, G, ρ, E, q⟩ := q
  refine ⟨Φ, G, ρ, E, (Post.bnd q).imp fun d ρ1 G1 H1 s1 E1 q1 v r => ?_⟩
  obtain ⟨k, ek, kk⟩ := lft_post (Post.bnd q1.2)
  refine ⟨k, r.tru E1.gh ek, ?_⟩
  have z := kk G1 H1 (Same.refl _) E1
  cases k with
  | true => exact iteT ⟨Φ, G1, ρ1, z.1, z.2⟩
  | false => exact iteF (z.2 G1 H1 (Same.refl _) E1 v r)
theorem vOr (h : PED X ct W a ta) (hb : PED X ct W (.BoolOp .Or (b :: rest) pos) tb) : PED X ct W (.BoolOp .Or (a :: b :: rest) pos) (orV ta tb) := by
  refine weakE (pe_orT h hb) fun σ H Q q => ?_
  obtain ⟨Φ, G, ρ, E, q⟩ := q
  refine ⟨Φ, G, ρ, E, (Post.bnd q).imp fun d ρ1 G1 H1 s1 E1 q1 v r => ?_⟩
  obtain ⟨k, ek, kk⟩ := lft_post (Post.bnd q1.2)
  refine ⟨k, r.tru E1.gh ek, ?_⟩
  have z := kk G1 H1 (Same.refl _) E1
  cases k with
  | true => exact iteT (z.2 G1 H1 (Same.refl _) E1 v r)
  | false => exact iteF ⟨Φ, G1, ρ1, z.1, z.2⟩
theorem vNot (h : PED X ct W a ta) : PED X ct W (.UnaryOp .Not a pos) (notV ta) := by
  refine weakE (pe_notT h) fun σ H Q q => ?_
  obtain ⟨Φ, G, ρ, E, q⟩ := q
  refine ⟨Φ, G, ρ, E, (Post.bnd q).imp fun d ρ1 G1 H1 s1 E1 q1 v r => ?_⟩
  obtain ⟨k, ek, kk⟩ := lft_post (Post.bnd q1.2)
  have z := kk G1 H1 (Same.refl _) E1
  exact ⟨k, r.tru E1.gh ek, z.2 G1 H1 (Same.refl _) E1 _ (.bl _)⟩
/-- a op1 b op2 c -/
def chainM (g h : D → D → Option Sl) (ta tb tc : DM D) : DM Sl := bnd ta fun x => bnd tb fun y => bnd (lft ((g x y).bind asB)) fun k => if k then bnd tc fun z => lft (h y z) else ret (.sh (.bl false))
theorem RN.bl {K : PySem.W.Frag} {ct : List Addr} {G H H' : Hp} {v : V} {sl : Sl} {b : Bool} (r : RN K ct G H H' v sl) (e : asB sl = some b) : v = .bl b := by
  unfold asB at e
  split at e
  · cases e; cases r; rfl
  · cases e
theorem tChainF {g h : D → D → Option Sl} {tc : DM D} {σ : St} {H : Hp} {Q : VK} (q : tF X.K ct W (chainM g h ta tb tc) σ H Q) : tChain (rF X.K ct g) (rF X.K ct h) (tD X.K ct W ta) (tD X.K ct W tb) (tD X.K ct W tc) σ H Q := by
  obtain ⟨Φ, G, ρ, E, q⟩ := q
  refine ⟨Φ, G, ρ, E, (Post.bnd q).imp fun d1 ρ1 G1 H1 s1 E1 q1 v1 r1 => ?_⟩
  refine ⟨Φ, G1, ρ1, E1, (Post.bnd q1.2).imp fun d2 ρ2 G2 H2 s2 E2 q2 v2 r2 => ?_⟩
  obtain ⟨k, ek, kk⟩ := lft_post (Post.bnd q2.2)
  rw [Option.bind_eq_some_iff] at ek
  obtain ⟨sl, e1, e2⟩ := ek
  refine ⟨G2, d1, d2, sl, E2.gh, r1.mono s2, r2, e1, fun v G' H' x r => ?_⟩
  have ev := r.bl e2
  refine ⟨k, ev, ?_⟩
  have z := kk G' H' x.gg (E2.ext x)
  cases k with
  | false => exact iteF (z.2 G' H' (Same.refl _) (E2.ext x) _ (R.bl false))
  | true =>
    refine iteT ⟨Φ, G', ρ2, z.1, (Post.bnd z.2).imp fun d3 ρ3 G3 H3 s3 E3 q3 v3 r3 => ?_⟩
    obtain ⟨sl2, e3, k3⟩ := lft_post q3.2
    exact ⟨G3, d2, d3, sl2, E3.gh, (r2.mono x.gg).mono s3, r3, e3, fun v G4 H4 x4 r4 => k3 G4 H4 x4.gg (E3.ext x4) v (r4.rf E3)⟩
theorem fChain {op op' : CmpOp} {g h : D → D → Option Sl} {tc : DM D} (ho : OpR X (compareOp op) (rF X.K ct g)) (ho' : OpR X (compareOp op') (rF X.K ct h)) (ha : PED X ct W a ta) (hb : PED X ct W b tb) (hc : PED X ct W c tc)
    (hm : lastMarks [op, op'] [b, c] = false := by with_unfolding_all rfl) : PEF X ct W (.Compare a [op, op'] [b, c] pos) (chainM g h ta tb tc) :=
  weakE (pe_chain ho ho' ha hb hc hm) fun _ _ _ q => tChainF q
theorem cChain {op op' : CmpOp} {g h : D → D → Option Sl} {tc : DM D} (ho : OpR X (compareOp op) (rF X.K ct g)) (ho' : OpR X (compareOp op') (rF X.K ct h)) (ha : PED X ct W a ta) (hb : PED X ct W b tb) (hc : PED X ct W c tc)
    (hm : lastMarks [op, op'] [b, c] = false := by with_unfolding_all rfl) : PTD X ct W (.Compare a [op, op'] [b, c] pos) (testM (chainM g h ta tb tc)) := by
  refine weakT (pt_chain ho ho' ha hb hc hm) fun σ H Q q => ?_
  obtain ⟨Φ, G, ρ, E, q⟩ := q
  refine tChainF ⟨Φ, G, ρ, E, (Post.bnd q).imp fun sl ρ1 G1 H1 s1 E1 q1 v r => ?_⟩
  obtain ⟨b, eb, k⟩ := lft_post q1.2
  unfold asB at eb
  split at eb
  · cases eb
    cases r
    exact ⟨_, rfl, k G1 H1 (Same.refl _) E1⟩
  · cases eb
end

/-! ### methods of texts -/
def rM (K : PySem.W.Frag) (ct : List Addr) (g : D → List D → Option Sl) : V → List V → Hp → VK → Prop := fun x vs H Q => ∃ G d ds sl, Same G H ∧ R K ct G x d ∧ Rs K ct G vs ds ∧ g d ds = some sl ∧ ∀ v G' H', Ext G H G' H' → RN K ct G' H H' v sl → Q v H'
def methM (g : D → List D → Option Sl) (to : DM D) (t : DM (List D)) : DM Sl := bnd to fun x => match x with
  | .str s => bnd t fun ds => lft (g (.str s) ds)
  | _ => fun _ => none
section
variable {X : Cx} {ct : List Addr} {W : WX} {o e : Expr} {es : List Expr} {to : DM D} {t : DM (List D)} {id : String} {name : Str} {apos cpos : Pos} {g : D → List D → Option Sl}
theorem fM (slot : Slot "str" name id) (hty : typeOf (.builtin id) = pure (.type "method_descriptor")) (hm : MtR X id (rM X.K ct g)) (ho : PED X ct W o to) (ha : PDs X ct W (e :: es) t)
    (hbase : attributeBase o name X.env (eval o X.env) = eval o X.env := by rfl)
    (hfew : ((backTo cpos (starEach (e :: es) X.env)).all (fun x => !x.1) && (backToKw cpos (keywordEach [] X.env)).all (fun x => x.1.isSome)
      && decide ((e :: es).length + ([] : List Keyword).length + (if ([] : List Keyword).isEmpty then 0 else 1) < 30)) = true := by rfl)
    (hline : (apos.endLine == cpos.line) = true := by rfl) (hs : starEach (e :: es) X.env = (false, eval e X.env) :: starEach es X.env := by rfl) (hplain : (backTo cpos (starEach es X.env)).any (·.1) = false := by rfl) :
    PEF X ct W (.Call (.Attribute o name apos) (e :: es) [] cpos) (methM g to t) := by
  refine weakE (pe_bm (r := rM X.K ct g) F.plainAttrs_str slot hty hm ho ha hbase hfew hline hs hplain) fun σ H Q q => ?_
  obtain ⟨Φ, G, ρ, E, q⟩ := q
  refine ⟨Φ, G, ρ, E, (Post.bnd q).imp fun d ρ1 G1 H1 s1 E1 q1 v1 r1 => ?_⟩
  cases r1 with
  | str x =>
    refine ⟨rfl, Φ, G1, ρ1, E1, (Post.bnd q1.2).imp fun ds ρ2 G2 H2 s2 E2 q2 vs rs => ?_⟩
    obtain ⟨sl, es', k⟩ := lft_post q2.2
    exact ⟨G2, .str x, ds, sl, E2.gh, .str x, rs, es', fun v G' H' x r => k G' H' x.gg (E2.ext x) v (r.rf E2)⟩
  | _ => exact q1.2.elim
theorem fM0 (slot : Slot "str" name id) (hty : typeOf (.builtin id) = pure (.type "method_descriptor")) (hm : MtR X id (rM X.K ct g)) (ho : PED X ct W o to)
    (hbase : attributeBase o name X.env (eval o X.env) = eval o X.env := by rfl) (hline : (apos.endLine == cpos.line) = true := by rfl) : PEF X ct W (.Call (.Attribute o name apos) [] [] cpos) (methM g to (ret [])) := by
  refine weakE (pe_bm0 (r := rM X.K ct g) F.plainAttrs_str slot hty hm ho hbase hline) fun σ H Q q => ?_
  obtain ⟨Φ, G, ρ, E, q⟩ := q
  refine ⟨Φ, G, ρ, E, (Post.bnd q).imp fun d ρ1 G1 H1 s1 E1 q1 v1 r1 => ?_⟩
  cases r1 with
  | str x =>
    obtain ⟨sl, es', k⟩ := lft_post (o := g (.str x) []) q1.2
    exact ⟨rfl, G1, .str x, [], sl, E1.gh, .str x, .nil, es', fun v G' H' x r => k G' H' x.gg (E1.ext x) v (r.rf E1)⟩
  | _ => exact q1.2.elim
end
/-- the texts of a list -/
def strsOf : List D → Option (List Str)
  | [] => some []
  | .str x :: r => (strsOf r).map (x :: ·)
  | _ => none
theorem strsOf_rs {K : PySem.W.Frag} {ct : List Addr} {G : Hp} : ∀ {vs : List V} {ds : List D} {ss : List Str}, Rs K ct G vs ds → strsOf ds = some ss → vs = ss.map V.str
  | _, _, _, .nil, e => by cases e; rfl
  | _, d :: ds, ss, .cons r t, e => by
    cases r with
    | str x =>
      simp only [strsOf, Option.map_eq_some_iff] at e
      obtain ⟨l, e1, e2⟩ := e
      subst e2
      rw [strsOf_rs t e1]; rfl
    | _ => simp [strsOf] at e
def splitS : D → List D → Option Sl
  | .str a, [.str b] => if (b.length == 0) = false ∧ a.length + 2 ≤ sizeLine then some (.ow (.lst ((Txt.split a b).map .str))) else none
  | _, _ => none
def joinS : D → List D → Option Sl
  | .str a, [.lst xs] => (strsOf xs).bind fun ys => if (ys.map (·.length)).sum + ys.length * a.length ≤ 16777216 then some (.sh (.str (Txt.join a ys))) else none
  | .str a, [.tup xs] => (strsOf xs).bind fun ys => if (ys.map (·.length)).sum + ys.length * a.length ≤ 16777216 then some (.sh (.str (Txt.join a ys))) else none
  | _, _ => none
def countS : D → List D → Option Sl
  | .str a, [.str b] => some (.sh (.int (Txt.count a b)))
  | _, _ => none
def upperS : D → List D → Option Sl
  | .str a, [] => if a.length ≤ 5592405 then some (.sh (.str (Txt.upper a))) else none
  | _, _ => none
theorem Rs.strs {K : PySem.W.Frag} {ct : List Addr} {G : Hp} : ∀ (ys : List Str), Rs K ct G (ys.map V.str) (ys.map .str)
  | [] => .nil
  | y :: r => .cons (.str y) (Rs.strs r)
section
variable {X : Cx} {ct : List Addr}
theorem mSplit : MtR X "str.split" (rM X.K ct splitS) := by
  intro pins s σ H x xs v us Q I rx rs h
  obtain ⟨G, d, ds, sl, sg, r1, r2, e, k⟩ := h
  unfold splitS at e
  split at e
  · split at e
    · rename_i hz
      cases e
      cases r1
      cases r2 with
      | cons r3 r4 =>
        cases r4; cases r3
        refine mt_split pins s σ H _ _ v us Q I rx rs ⟨_, _, rfl, rfl, hz.1, hz.2, fun p hp => ?_⟩
        exact k _ G _ (.own sg hp) ⟨p, rfl, hp, sg.free hp, _, upd_same, Rs.strs _⟩
    · cases e
  · cases e
theorem mJoin : MtR X "str.join" (rM X.K ct joinS) := by
  intro pins s σ H x xs v us Q I rx rs h
  obtain ⟨G, d, ds, sl, sg, r1, r2, e, k⟩ := h
  unfold joinS at e
  split at e
  · rw [Option.bind_eq_some_iff] at e
    obtain ⟨ys, e1, e2⟩ := e
    split at e2
    · rename_i hz
      cases e2
      cases r1
      cases r2 with
      | cons r3 r4 =>
        cases r4
        cases r3 with
        | lst ha ra =>
          have ev := strsOf_rs ra e1
          subst ev
          exact mt_join pins s σ H _ _ v us Q I rx rs ⟨_, _, ys, rfl, rfl, .inl (.inl (.inl (sg _ _ ha))), hz, RN.of_ext sg k rfl (.str _)⟩
    · cases e2
  · rw [Option.bind_eq_some_iff] at e
    obtain ⟨ys, e1, e2⟩ := e
    split at e2
    · rename_i hz
      cases e2
      cases r1
      cases r2 with
      | cons r3 r4 =>
        cases r4
        cases r3 with
        | tup ha ra =>
          have ev := strsOf_rs ra e1
          subst ev
          exact mt_join pins s σ H _ _ v us Q I rx rs ⟨_, _, ys, rfl, rfl, .inr (Same.seqT sg ha), hz, RN.of_ext sg k rfl (.str _)⟩
    · cases e2
  · cases e
theorem mCount : MtR X "str.count" (rM X.K ct countS) := by
  intro pins s σ H x xs v us Q I rx rs h
  obtain ⟨G, d, ds, sl, sg, r1, r2, e, k⟩ := h
  unfold countS at e
  split at e
  · cases e
    cases r1
    cases r2 with
    | cons r3 r4 =>
      cases r4; cases r3
      exact mt_count pins s σ H _ _ v us Q I rx rs ⟨_, _, rfl, rfl, RN.of_ext sg k rfl (.int _)⟩
  · cases e
theorem mUpper : MtR X "str.upper" (rM X.K ct upperS) := by
  intro pins s σ H x xs v us Q I rx rs h
  obtain ⟨G, d, ds, sl, sg, r1, r2, e, k⟩ := h
  unfold upperS at e
  split at e
  · split at e
    · rename_i hz
      cases e
      cases r1
      cases r2
      exact mt_upper pins s σ H _ _ v us Q I rx rs ⟨_, rfl, rfl, hz, RN.of_ext sg k rfl (.str _)⟩
    · cases e
  · cases e
end
end FD

set_option Elab.async false
set_option linter.all false
set_option maxRecDepth 100000
namespace FD
open PySem L2

/-! ### statements -/
inductive Fl where
  | nx | rt (sl : Sl) | bk | ct
section
variable (K : PySem.W.Frag) (ct : List Addr)
def FlK (Φ : Fm) (D : Ends) (fl : Fl) (σ : St) (ρ : List Sl) (G H : Hp) : Prop := match fl with
  | .nx => D.nx σ H
  | .bk => D.bk σ H
  | .ct => D.ct σ H
  | .rt sl => ∀ v, RF K ct Φ G H σ ρ v sl → D.rt v H
def PostS (Φ : Fm) (W : WX) (G : Hp) (o : Option (Out Fl)) (D : Ends) : Prop := match o with
  | none => False
  | some (.ok fl ρ') => ∀ σ' G' H', Same G G' → EnvS K ct Φ G' H' σ' ρ' → FlK K ct Φ D fl σ' ρ' G' H'
  | some (.ex x ρ') => ∀ σ' G' H' cls dx, Same G G' → EnvS K ct Φ G' H' σ' ρ' → ExR K ct G' cls dx x → W cls dx σ' H'
def tS (W : WX) (t : DM Fl) : TS := fun D σ H => ∃ Φ G ρ, EnvS K ct Φ G H σ ρ ∧ PostS K ct Φ W G (t ρ) D
end
section
variable {K : PySem.W.Frag} {ct : List Addr} {Φ : Fm} {W : WX} {σ : St} {G G' H : Hp} {D : Ends} {ρ : List Sl}
theorem PostS.mono {o : Option (Out Fl)} (h : PostS K ct Φ W G o D) (s : Same G G') : PostS K ct Φ W G' o D := by
  cases o with
  | none => exact h
  | some o =>
    cases o with
    | ok a ρ' => exact fun σ2 G2 H2 s2 E => h σ2 G2 H2 (s.trans s2) E
    | ex x ρ' => exact fun σ2 G2 H2 c dx s2 E => h σ2 G2 H2 c dx (s.trans s2) E
/-- an expression, then what a statement makes of it -/
theorem PostS.bnd {α : Type} {t : DM α} {f : α → DM Fl} (h : PostS K ct Φ W G (bnd t f ρ) D) :
    Post K ct Φ W σ G (t ρ) (fun a ρ' G' H' => EnvS K ct Φ G' H' σ ρ' ∧ PostS K ct Φ W G' (f a ρ') D) := by
  unfold FD.bnd at h
  cases e : t ρ with
  | none => rw [e] at h; exact h
  | some o =>
    rw [e] at h
    cases o with
    | ok a ρ' => exact fun G2 H2 s2 E => ⟨E, PostS.mono h s2⟩
    | ex x ρ' => exact fun G2 H2 c dx s2 E r => h σ G2 H2 c dx s2 E r
end
section
variable (X : Cx) (ct : List Addr) (W : WX)
abbrev PSD (st : Stmt) (t : DM Fl) : Prop := PS X st (tS X.K ct W t)
abbrev PSsD (st : List Stmt) (t : DM Fl) : Prop := PSs X st (tS X.K ct W t)
end
def seqM (t u : DM Fl) : DM Fl := bnd t fun fl => match fl with
  | .nx => u
  | fl => ret fl
section
variable {X : Cx} {ct : List Addr} {W : WX} {st : Stmt} {rest : List Stmt} {t u : DM Fl} {pos : Pos}
theorem sNil : PSsD X ct W [] (ret .nx) := by
  refine weakSs pss_nil fun D σ H q => ?_
  obtain ⟨Φ, G, ρ, E, q⟩ := q
  exact q σ G H (Same.refl _) E
theorem sCons (h1 : PSD X ct W st t) (h2 : PSsD X ct W rest u) : PSsD X ct W (st :: rest) (seqM t u) := by
  refine weakSs (pss_cons h1 h2) fun D σ H q => ?_
  obtain ⟨Φ, G, ρ, E, q⟩ := q
  refine ⟨Φ, G, ρ, E, ?_⟩
  unfold seqM FD.bnd at q
  cases e : t ρ with
  | none => rw [e] at q; exact q
  | some o =>
    rw [e] at q
    cases o with
    | ex x ρ' => exact q
    | ok fl ρ' =>
      cases fl with
      | nx => exact fun σ2 G2 H2 s2 E2 => ⟨Φ, G2, ρ', E2, PostS.mono q s2⟩
      | rt sl => exact q
      | bk => exact q
      | ct => exact q
theorem sOne (h1 : PSD X ct W st t) : PSsD X ct W [st] t := pss_one h1
theorem sPass : PSD X ct W (.Pass pos) (ret .nx) := by
  refine weakS ps_pass fun D σ H q => ?_
  obtain ⟨Φ, G, ρ, E, q⟩ := q
  exact q σ G H (Same.refl _) E
theorem sBreak : PSD X ct W (.Break pos) (ret .bk) := by
  refine weakS ps_break fun D σ H q => ?_
  obtain ⟨Φ, G, ρ, E, q⟩ := q
  exact q σ G H (Same.refl _) E
theorem sCont : PSD X ct W (.Continue pos) (ret .ct) := by
  refine weakS ps_continue fun D σ H q => ?_
  obtain ⟨Φ, G, ρ, E, q⟩ := q
  exact q σ G H (Same.refl _) E
def dropM (t : DM Sl) : DM Fl := bnd t fun _ => ret .nx
theorem sExpr {e : Expr} {t : DM Sl} (h : PEF X ct W e t) (hs : swapsWith e none pos.line X.env = pure false := by rfl) : PSD X ct W (.Expr e pos) (dropM t) := by
  refine weakS (ps_expr h hs) fun D σ H q => ?_
  obtain ⟨Φ, G, ρ, E, q⟩ := q
  exact ⟨Φ, G, ρ, E, (PostS.bnd q).imp fun sl ρ1 G1 H1 s1 E1 q1 v r => q1.2 σ G1 H1 (Same.refl _) E1⟩
def retM (t : DM Sl) : DM Fl := bnd t fun sl => ret (.rt sl)
theorem sRet {e : Expr} {t : DM Sl} (h : PEF X ct W e t) : PSD X ct W (.Return (some e) pos) (retM t) := by
  refine weakS (ps_ret h) fun D σ H q => ?_
  obtain ⟨Φ, G, ρ, E, q⟩ := q
  exact ⟨Φ, G, ρ, E, (PostS.bnd q).imp fun sl ρ1 G1 H1 s1 E1 q1 v r => q1.2 σ G1 H1 (Same.refl _) E1 v r⟩
theorem sRetN : PSD X ct W (.Return none pos) (ret (.rt (.sh .non))) := by
  refine weakS ps_retN fun D σ H q => ?_
  obtain ⟨Φ, G, ρ, E, q⟩ := q
  exact q σ G H (Same.refl _) E .non R.non
theorem sIf {c : Expr} {a b : List Stmt} {tc : DM Bool} (hc : PTD X ct W c tc) (ha : PSsD X ct W a t) (hb : PSsD X ct W b u) : PSD X ct W (.If c a b pos) (ifM tc t u) := by
  refine weakS (ps_if hc ha hb) fun D σ H q => ?_
  obtain ⟨Φ, G, ρ, E, q⟩ := q
  refine ⟨Φ, G, ρ, E, (PostS.bnd q).imp fun b ρ1 G1 H1 s1 E1 q1 => ?_⟩
  cases b with
  | true => exact iteT ⟨Φ, G1, ρ1, q1.1, q1.2⟩
  | false => exact iteF ⟨Φ, G1, ρ1, q1.1, q1.2⟩
end

/-! ### slots are set -/
def setSl (i : Nat) (sl : Sl) (ρ : List Sl) : Option (List Sl) := match ρ[i]?, sl with
  | some (.pn _), _ => none
  | some _, .sh d => some (ρ.set i (.sh d))
  | some _, .ow d => some (ρ.set i (.ow d))
  | _, _ => none
theorem isOwn_set_ne {ρ : List Sl} {i j : Nat} {sl : Sl} (h : i ≠ j) : (ρ.set i sl)[j]? = ρ[j]? := List.getElem?_set_ne h
section
variable {K : PySem.W.Frag} {ct : List Addr} {Φ : Fm} {G G' H : Hp} {σ : St} {ρ ρ' : List Sl} {i : Nat} {sl : Sl} {v : V}
theorem EnvS.set (E : EnvS K ct Φ G H σ ρ) (r : RF K ct Φ G H σ ρ v sl) (e : setSl i sl ρ = some ρ') : EnvS K ct Φ G H (σ.set i (some v)) ρ' := by
  have hi : ∃ s0, ρ[i]? = some s0 ∧ (∀ d, s0 ≠ .pn d) ∧ ρ' = ρ.set i sl ∧ (∀ d, sl ≠ .pn d) ∧ sl ≠ .un := by
    unfold setSl at e
    cases h : ρ[i]? with
    | none => rw [h] at e; cases e
    | some s0 =>
      rw [h] at e
      cases s0 <;> cases sl <;> first | (cases e; done) | (cases e; exact ⟨_, rfl, by simp, rfl, by simp, by simp⟩)
  obtain ⟨s0, h0, hp, rfl, hs1, hs2⟩ := hi
  have hl : i < ρ.length := (List.getElem?_eq_some_iff.mp h0).1
  have hl2 : i < σ.length := by rw [← E.len]; exact hl
  have hown : ∀ (j : Nat) (d : D), isOwn (ρ.set i sl)[j]? = some d → (j ≠ i ∧ isOwn ρ[j]? = some d) ∨ (j = i ∧ sl = .ow d) := fun j d h => by
    by_cases hj : i = j
    · subst hj
      rw [List.getElem?_set_self hl] at h
      cases sl with
      | ow d' => cases h; exact .inr ⟨rfl, rfl⟩
      | pn d' => exact absurd rfl (hs1 d')
      | _ => cases h
    · rw [List.getElem?_set_ne hj] at h
      exact .inl ⟨fun z => hj z.symm, h⟩
  refine ⟨by simpa using E.len, E.gh, E.g0, E.fr, E.dom, E.gn, fun j p hj => ?_, fun j d hj => ?_, fun j d hj => ?_, fun j k dj dk p hjk hj hk ej ek => ?_⟩
  · obtain ⟨h1, d, h2⟩ := E.pin j p hj
    have hne : i ≠ j := fun z => by
      subst z
      rw [h0] at h2
      cases h2
      exact hp d rfl
    rw [List.getElem?_set_ne hne, List.getElem?_set_ne hne]
    exact ⟨h1, d, h2⟩
  · by_cases hij : i = j
    · subst hij
      rw [List.getElem?_set_self hl] at hj
      cases sl with
      | sh d' => cases hj; exact ⟨v, List.getElem?_set_self hl2, r⟩
      | _ => cases hj
    · rw [List.getElem?_set_ne hij] at hj ⊢
      exact E.sh j d hj
  · rcases hown j d hj with ⟨hne, h⟩ | ⟨rfl, rfl⟩
    · obtain ⟨p, h1, h2, h3, h4, h5⟩ := E.own j d h
      rw [List.getElem?_set_ne (Ne.symm hne), List.getElem?_set_ne (Ne.symm hne)]
      exact ⟨p, h1, h2, h3, h4, h5⟩
    · obtain ⟨p, rfl, h1, h2, h3, h4⟩ := r
      refine ⟨p, List.getElem?_set_self hl2, h1, h2, fun z => ?_, fun _ => h3⟩
      rw [List.getElem?_set_self hl] at z
      cases z
  · rcases hown j dj hj with ⟨hne, h⟩ | ⟨rfl, rfl⟩
    · rw [List.getElem?_set_ne (Ne.symm hne)] at ej
      rcases hown k dk hk with ⟨hne2, h2⟩ | ⟨rfl, rfl⟩
      · rw [List.getElem?_set_ne (Ne.symm hne2)] at ek
        exact E.ne j k dj dk p hjk h h2 ej ek
      · obtain ⟨q, rfl, _, _, _, h4⟩ := r
        rw [List.getElem?_set_self hl2] at ek
        cases ek
        exact h4 j dj h ej
    · obtain ⟨q, rfl, _, _, _, h4⟩ := r
      rw [List.getElem?_set_self hl2] at ej
      cases ej
      rcases hown k dk hk with ⟨hne2, h2⟩ | ⟨rfl, _⟩
      · rw [List.getElem?_set_ne (Ne.symm hne2)] at ek
        exact h4 k dk h2 ek
      · exact hjk rfl
end
def setF (i : Nat) (sl : Sl) : DM Fl := fun ρ => match setSl i sl ρ with
  | some ρ' => some (.ok .nx ρ')
  | none => none
def setM (i : Nat) (t : DM Sl) : DM Fl := bnd t (setF i)
theorem setF_post {K : PySem.W.Frag} {ct : List Addr} {Φ : Fm} {W : WX} {σ : St} {G H : Hp} {D : Ends} {ρ : List Sl} {i : Nat} {sl : Sl} {v : V} (h : PostS K ct Φ W G (setF i sl ρ) D) (E : EnvS K ct Φ G H σ ρ) (r : RF K ct Φ G H σ ρ v sl) : D.nx (σ.set i (some v)) H := by
  unfold setF at h
  cases e : setSl i sl ρ with
  | none => rw [e] at h; exact h.elim
  | some ρ' => rw [e] at h; exact h _ G H (Same.refl _) (E.set r e)
section
variable {X : Cx} {ct : List Addr} {W : WX} {pos : Pos}
theorem sSet (i : Nat) {x : Str} {e : Expr} {t : DM Sl} {pos' : Pos} (hN : X.N.Nodup) (h : PEF X ct W e t) (hi : X.N[i]? = some x := by rfl) (hx : Loc X.env.scope x := by first | exact Or.inl rfl | exact Or.inr rfl) (hs : swapsWith e (some (.Name x pos')) pos.line X.env = pure false := by rfl)
    (hf : X.fn x = true ∨ X.env.scope.names.lookup x = some .local := by first | exact .inl rfl | exact .inr rfl | assumption) : PSD X ct W (.Assign [.Name x pos'] e pos) (setM i t) := by
  refine weakS (ps_set (i := i) hN hi hx h hs hf) fun D σ H q => ?_
  obtain ⟨Φ, G, ρ, E, q⟩ := q
  exact ⟨Φ, G, ρ, E, (PostS.bnd q).imp fun sl ρ1 G1 H1 s1 E1 q1 v r => setF_post q1.2 E1 r⟩

/-! ### targets, data unpacked -/
abbrev Tg := D → List Sl → Option (List Sl)
def tGd (K : PySem.W.Frag) (ct : List Addr) (m : Tg) : TG := fun v σ H Q => ∃ Φ G ρ d ρ', EnvS K ct Φ G H σ ρ ∧ R K ct G v d ∧ m d ρ = some ρ' ∧ ∀ σ' G' H', Same G G' → EnvS K ct Φ G' H' σ' ρ' → Q σ' H'
def tGds (K : PySem.W.Frag) (ct : List Addr) (m : List D → List Sl → Option (List Sl)) : TGs := fun vs σ H Q => ∃ Φ G ρ ds ρ', EnvS K ct Φ G H σ ρ ∧ Rs K ct G vs ds ∧ m ds ρ = some ρ' ∧ ∀ σ' G' H', Same G G' → EnvS K ct Φ G' H' σ' ρ' → Q σ' H'
theorem weakG {X : Cx} {e : Expr} {t t' : TG} (h : PG X e t) (hw : ∀ v σ H Q, t' v σ H Q → t v σ H Q) : PG X e t' := ⟨fun pins s σ H v u Q I r q => h.run pins s σ H v u Q I r (hw v σ H Q q)⟩
theorem weakGs {X : Cx} {e : List Expr} {t t' : TGs} (h : PGs X e t) (hw : ∀ v σ H Q, t' v σ H Q → t v σ H Q) : PGs X e t' := ⟨fun pins s σ H v u Q I r q => h.run pins s σ H v u Q I r (hw v σ H Q q)⟩
abbrev PGD (X : Cx) (ct : List Addr) (e : Expr) (m : Tg) : Prop := PG X e (tGd X.K ct m)
abbrev PGsD (X : Cx) (ct : List Addr) (e : List Expr) (m : List D → List Sl → Option (List Sl)) : Prop := PGs X e (tGds X.K ct m)
def gN (i : Nat) : Tg := fun d ρ => setSl i (.sh d) ρ
theorem gName (i : Nat) {x : Str} (hN : X.N.Nodup) (hi : X.N[i]? = some x := by rfl) (hx : Loc X.env.scope x := by first | exact Or.inl rfl | exact Or.inr rfl) (hf : X.fn x = true ∨ X.env.scope.names.lookup x = some .local := by first | exact .inl rfl | exact .inr rfl | assumption) : PGD X ct (.Name x pos) (gN i) := by
  refine weakG (pg_name (i := i) hN hi hx hf) fun v σ H Q q => ?_
  obtain ⟨Φ, G, ρ, d, ρ', E, r, e, k⟩ := q
  exact k _ G H (Same.refl _) (E.set (sl := .sh d) r e)
def gs0 : List D → List Sl → Option (List Sl) := fun ds ρ => match ds with
  | [] => some ρ
  | _ => none
def gs1 (m : Tg) (r : List D → List Sl → Option (List Sl)) : List D → List Sl → Option (List Sl) := fun ds ρ => match ds with
  | d :: ds => (m d ρ).bind (r ds)
  | _ => none
theorem gsNil : PGsD X ct [] gs0 := by
  refine weakGs pgs_nil fun vs σ H Q q => ?_
  obtain ⟨Φ, G, ρ, ds, ρ', E, r, e, k⟩ := q
  cases r with
  | nil => cases e; exact ⟨rfl, k σ G H (Same.refl _) E⟩
  | cons _ _ => cases e
theorem gsCons {e : Expr} {es : List Expr} {m : Tg} {r : List D → List Sl → Option (List Sl)} (h1 : PGD X ct e m) (h2 : PGsD X ct es r)
    (hs : (assignEach (e :: es) X.env).map (·.2) = assign e X.env :: (assignEach es X.env).map (·.2) := by rfl) : PGsD X ct (e :: es) (gs1 m r) := by
  refine weakGs (pgs_cons h1 h2 hs) fun vs σ H Q q => ?_
  obtain ⟨Φ, G, ρ, ds, ρ', E, rr, e, k⟩ := q
  cases rr with
  | nil => cases e
  | cons r1 r2 =>
    simp only [gs1, Option.bind_eq_some_iff] at e
    obtain ⟨ρ1, e1, e2⟩ := e
    exact ⟨_, _, rfl, Φ, G, ρ, _, ρ1, E, r1, e1, fun σ1 G1 H1 s1 E1 => ⟨Φ, G1, ρ1, _, ρ', E1, r2.mono s1, e2, fun σ2 G2 H2 s2 E2 => k σ2 G2 H2 (s1.trans s2) E2⟩⟩
def gT (n : Nat) (r : List D → List Sl → Option (List Sl)) : Tg := fun d ρ => match d with
  | .tup ds => if ds.length = n then r ds ρ else none
  | _ => none
theorem gTup {es : List Expr} {k n : Nat} {r : List D → List Sl → Option (List Sl)} (hc : X.calm = true) (h : PGsD X ct es r)
    (hn : (assignEach es X.env).length = n := by rfl) (hst : (assignEach es X.env).findIdx? (·.1) = none := by rfl) : PGD X ct (.Tuple es k pos) (gT n r) := by
  refine weakG (pg_tup (n := n) hc h hn hst) fun v σ H Q q => ?_
  obtain ⟨Φ, G, ρ, d, ρ', E, rr, e, k⟩ := q
  cases rr with
  | tup h1 h2 =>
    simp only [gT] at e
    split at e
    · rename_i hl
      exact ⟨_, _, rfl, Same.seqT E.gh h1, by rw [h2.length]; exact hl, Φ, G, ρ, _, ρ', E, h2, e, k⟩
    · cases e
  | _ => cases e
/-- target = data -/
def asgM (m : Tg) (t : DM D) : DM Fl := bnd t fun d ρ => match m d ρ with
  | some ρ' => some (.ok .nx ρ')
  | none => none
theorem sAsg {tg e : Expr} {t : DM D} {m : Tg} (h : PED X ct W e t) (hg : PGD X ct tg m) (hs : swapsWithSole [tg] e pos.line X.env = pure false := by rfl) (hw : swappedStores [tg] e X.env = pure none := by rfl)
    (h1 : (assignEach [tg] X.env).map (·.2) = [assign tg X.env] := by rfl) : PSD X ct W (.Assign [tg] e pos) (asgM m t) := by
  refine weakS (ps_asg h hg hs hw h1) fun D σ H q => ?_
  obtain ⟨Φ, G, ρ, E, q⟩ := q
  refine ⟨Φ, G, ρ, E, (PostS.bnd q).imp fun d ρ1 G1 H1 s1 E1 q1 v r => ?_⟩
  have z := q1.2
  cases e : m d ρ1 with
  | none => rw [e] at z; exact z.elim
  | some ρ' =>
    rw [e] at z
    exact ⟨Φ, G1, ρ1, d, ρ', E1, r, e, fun σ' G' H' s' E' => z σ' G' H' s' E'⟩
end
end FD

set_option Elab.async false
set_option linter.all false
set_option maxRecDepth 100000
namespace FD
open PySem L2

/-! ### what a loop walks -/
/-- J hands out the data ds, one after another -/
def ItD (K : PySem.W.Frag) (ct : List Addr) (G : Hp) (J : It) (ds : List D) : Prop := ∀ (i : Nat) (G1 H1 : Hp), Same G G1 → Same G1 H1 →
  (∀ d, ds[i]? = some d → J.go i H1 ∧ ∀ x H2, J.yld i H1 x H2 → ∃ G2, Ext G1 H1 G2 H2 ∧ R K ct G2 x d) ∧ (ds.length ≤ i → J.stop i H1)
def tI (K : PySem.W.Frag) (ct : List Addr) (W : WX) (t : DM (List D)) : TI := fun σ H Rr => ∃ Φ G ρ, EnvS K ct Φ G H σ ρ ∧ Post K ct Φ W σ G (t ρ) (fun ds _ G' H' => ∀ J, ItD K ct G' J ds → Rr J H')
abbrev PID (X : Cx) (ct : List Addr) (W : WX) (tg e : Expr) (t : DM (List D)) : Prop := PI X tg e (tI X.K ct W t)
theorem weakI {X : Cx} {tg e : Expr} {t t' : TI} (h : PI X tg e t) (hw : ∀ σ H Q, t' σ H Q → t σ H Q) : PI X tg e t' := ⟨fun pins s σ H Q I q => h.run pins s σ H Q I (hw σ H Q q)⟩
def itemsD : D → Option (List D)
  | .lst ds => some ds
  | _ => none
def itemsT : D → Option (List D)
  | .tup ds => some ds
  | _ => none
def itemsS : D → Option (List D)
  | .str z => some (z.cps.toList.map fun c => .str ⟨#[c]⟩)
  | _ => none
def rangeL (lo : Int) (n : Nat) : List D := (List.range n).map fun (k : Nat) => .int (lo + (k : Nat))
def rng1 : List D → Option (List D)
  | [.int j] => if -(2 ^ 62) ≤ j ∧ j < 2 ^ 62 then some (rangeL 0 j.toNat) else none
  | _ => none
def rng2 : List D → Option (List D)
  | [.int i, .int j] => if -(2 ^ 62) ≤ i ∧ i < 2 ^ 62 ∧ -(2 ^ 62) ≤ j ∧ j < 2 ^ 62 then some (rangeL i (j - i).toNat) else none
  | _ => none
def enumL : Nat → List D → List D
  | _, [] => []
  | n, d :: ds => .tup [.int n, d] :: enumL (n + 1) ds
def enumD : List D → Option (List D)
  | [.lst ds] => some (enumL 0 ds)
  | _ => none
theorem enumL_get : ∀ (ds : List D) (n i : Nat), (enumL n ds)[i]? = ds[i]?.map fun d => .tup [.int ((n + i : Nat) : Int), d]
  | [], _, _ => by simp [enumL]
  | d :: ds, n, 0 => by simp [enumL]
  | d :: ds, n, i + 1 => by
    simp only [enumL, List.getElem?_cons_succ]
    rw [enumL_get ds (n + 1) i, show n + 1 + i = n + (i + 1) by omega]
theorem enumL_length : ∀ (ds : List D) (n : Nat), (enumL n ds).length = ds.length
  | [], _ => rfl
  | d :: ds, n => by simp [enumL, enumL_length ds]
section
variable {X : Cx} {ct : List Addr} {W : WX} {tg e : Expr} {t : DM D} {r : DM (List D)} {pos p : Pos}
theorem iLst (h : PED X ct W e t) : PID X ct W tg e (bnd t fun d => lft (itemsD d)) := by
  refine weakI (pi_list h) fun σ H Q q => ?_
  obtain ⟨Φ, G, ρ, E, q⟩ := q
  refine ⟨Φ, G, ρ, E, (Post.bnd q).imp fun d ρ1 G1 H1 s1 E1 q1 v r => ?_⟩
  obtain ⟨ds, ed, k⟩ := lft_post q1.2
  cases r with
  | lst ha ra =>
    cases ed
    refine ⟨_, rfl, ⟨_, .inl (.inl (E1.gh _ _ ha))⟩, k G1 H1 (Same.refl _) E1 _ fun i G2 H2 s2 s3 => ⟨fun d hd => ?_, fun hi => ?_⟩⟩
    · obtain ⟨x, hx, rx⟩ := ra.get hd
      have sq : SqL X.K H2 _ _ := .inl (.inl (s3 _ _ (s2 _ _ ha)))
      exact ⟨⟨_, x, sq, hx⟩, fun y H3 hy => ⟨G2, by rw [hy.1]; exact .refl s3, by
        have := hy.2 _ sq
        rw [hx] at this; cases this
        exact rx.mono s2⟩⟩
    · exact ⟨_, .inl (.inl (s3 _ _ (s2 _ _ ha))), by rw [ra.length]; exact hi⟩
  | _ => cases ed
theorem iTup (h : PED X ct W e t) : PID X ct W tg e (bnd t fun d => lft (itemsT d)) := by
  refine weakI (pi_tup h) fun σ H Q q => ?_
  obtain ⟨Φ, G, ρ, E, q⟩ := q
  refine ⟨Φ, G, ρ, E, (Post.bnd q).imp fun d ρ1 G1 H1 s1 E1 q1 v r => ?_⟩
  obtain ⟨ds, ed, k⟩ := lft_post q1.2
  cases r with
  | tup ha ra =>
    cases ed
    refine ⟨_, rfl, ⟨_, Same.seqT E1.gh ha⟩, k G1 H1 (Same.refl _) E1 _ fun i G2 H2 s2 s3 => ⟨fun d hd => ?_, fun hi => ?_⟩⟩
    · obtain ⟨x, hx, rx⟩ := ra.get hd
      have sq : SqT X.K H2 _ _ := Same.seqT s3 (Same.seqT s2 ha)
      exact ⟨⟨_, x, sq, hx⟩, fun y H3 hy => ⟨G2, by rw [hy.1]; exact .refl s3, by
        have := hy.2 _ sq
        rw [hx] at this; cases this
        exact rx.mono s2⟩⟩
    · exact ⟨_, Same.seqT s3 (Same.seqT s2 ha), by rw [ra.length]; exact hi⟩
  | _ => cases ed
theorem iStrD (h : PED X ct W e t) : PID X ct W tg e (bnd t fun d => lft (itemsS d)) := by
  refine weakI (pi_str h) fun σ H Q q => ?_
  obtain ⟨Φ, G, ρ, E, q⟩ := q
  refine ⟨Φ, G, ρ, E, (Post.bnd q).imp fun d ρ1 G1 H1 s1 E1 q1 v r => ?_⟩
  obtain ⟨ds, ed, k⟩ := lft_post q1.2
  cases r with
  | str z =>
    cases ed
    refine ⟨z, rfl, k G1 H1 (Same.refl _) E1 _ fun i G2 H2 s2 s3 => ⟨fun d hd => ?_, fun hi => ?_⟩⟩
    · rw [List.getElem?_map, Option.map_eq_some_iff] at hd
      obtain ⟨c, hc, rfl⟩ := hd
      have hc' : z.cps[i]? = some c := by rw [← Array.getElem?_toList]; exact hc
      refine ⟨(Array.getElem?_eq_some_iff.mp hc').1, fun y H3 hy => ⟨G2, by rw [hy.1]; exact .refl s3, ?_⟩⟩
      obtain ⟨c', h1, rfl⟩ := hy.2
      rw [hc'] at h1; cases h1
      exact .str _
    · show z.cps.size ≤ i
      simpa using hi
  | _ => cases ed
theorem rangeL_get (lo : Int) (n i : Nat) : (rangeL lo n)[i]? = if i < n then some (.int (lo + i)) else none := by
  unfold rangeL
  rw [List.getElem?_map]
  by_cases h : i < n
  · rw [if_pos h, List.getElem?_range h]; rfl
  · rw [if_neg h, List.getElem?_eq_none (by simpa using h)]; rfl
theorem itR {K : PySem.W.Frag} {G : Hp} (lo : Int) (n : Nat) : ItD K ct G (Itr lo n) (rangeL lo n) := fun i G2 H2 s2 s3 => by
  refine ⟨fun d hd => ?_, fun hi => ?_⟩
  · rw [rangeL_get] at hd
    split at hd
    · rename_i h
      cases hd
      exact ⟨h, fun y H3 hy => ⟨G2, by rw [hy.1]; exact .refl s3, by rw [hy.2]; exact .int _⟩⟩
    · cases hd
  · have : (rangeL lo n).length = n := by simp [rangeL]
    show n ≤ i
    omega
theorem iRng1 {a : Expr} (hg : Gl X "range") (hm : X.mg "range" = none) (ha : PDs X ct W [a] r) (hs : starEach [a] X.env = [(false, eval a X.env)] := by rfl) : PID X ct W tg (.Call (.Name "range" p) [a] [] pos) (bnd r fun ds => lft (rng1 ds)) := by
  refine weakI (pi_range1 hg hm ha hs) fun σ H Q q => ?_
  obtain ⟨Φ, G, ρ, E, q⟩ := q
  refine ⟨Φ, G, ρ, E, (Post.bnd q).imp fun ds ρ1 G1 H1 s1 E1 q1 vs rs => ?_⟩
  obtain ⟨ds', ed, k⟩ := lft_post q1.2
  unfold rng1 at ed
  split at ed
  · split at ed
    · rename_i h
      cases ed
      cases rs with
      | cons r1 r2 =>
        cases r2; cases r1
        exact ⟨_, rfl, h.1, h.2, k G1 H1 (Same.refl _) E1 _ (itR _ _)⟩
    · cases ed
  · cases ed
theorem iRng2 {a b : Expr} (hg : Gl X "range") (hm : X.mg "range" = none) (ha : PDs X ct W [a, b] r) (hs : starEach [a, b] X.env = [(false, eval a X.env), (false, eval b X.env)] := by rfl) (hs2 : starEach [b] X.env = [(false, eval b X.env)] := by rfl) :
    PID X ct W tg (.Call (.Name "range" p) [a, b] [] pos) (bnd r fun ds => lft (rng2 ds)) := by
  refine weakI (pi_range2 hg hm ha hs hs2) fun σ H Q q => ?_
  obtain ⟨Φ, G, ρ, E, q⟩ := q
  refine ⟨Φ, G, ρ, E, (Post.bnd q).imp fun ds ρ1 G1 H1 s1 E1 q1 vs rs => ?_⟩
  obtain ⟨ds', ed, k⟩ := lft_post q1.2
  unfold rng2 at ed
  split at ed
  · split at ed
    · rename_i h
      cases ed
      cases rs with
      | cons r1 r2 =>
        cases r2 with
        | cons r3 r4 =>
          cases r4; cases r1; cases r3
          exact ⟨_, _, rfl, h, k G1 H1 (Same.refl _) E1 _ (itR _ _)⟩
    · cases ed
  · cases ed
theorem iEnumD {elts : List Expr} {kk : Nat} {tpos : Pos} (hg : Gl X "enumerate") (hm : X.mg "enumerate" = none) (ha : PDs X ct W [e] r) (hs : starEach [e] X.env = [(false, eval e X.env)] := by rfl) :
    PID X ct W (.Tuple elts kk tpos) (.Call (.Name "enumerate" p) [e] [] pos) (bnd r fun ds => lft (enumD ds)) := by
  refine weakI (pi_enum hg hm ha hs) fun σ H Q q => ?_
  obtain ⟨Φ, G, ρ, E, q⟩ := q
  refine ⟨Φ, G, ρ, E, (Post.bnd q).imp fun ds ρ1 G1 H1 s1 E1 q1 vs rs => ?_⟩
  obtain ⟨ds', ed, k⟩ := lft_post q1.2
  unfold enumD at ed
  split at ed
  · cases ed
    cases rs with
    | cons r1 r2 =>
      cases r2
      cases r1 with
      | lst ha ra =>
        refine ⟨_, _, rfl, .inl (.inl (E1.gh _ _ ha)), k G1 H1 (Same.refl _) E1 _ fun i G2 H2 s2 s3 => ⟨fun d hd => ?_, fun hi => ?_⟩⟩
        · rw [enumL_get, Option.map_eq_some_iff] at hd
          obtain ⟨d0, hd0, rfl⟩ := hd
          obtain ⟨x, hx, rx⟩ := ra.get hd0
          have sq : SqL X.K H2 _ _ := .inl (.inl (s3 _ _ (s2 _ _ ha)))
          refine ⟨⟨_, x, sq, hx⟩, fun y H3 hy => ?_⟩
          obtain ⟨T, z, rfl, hT, rfl, hz⟩ := hy
          have := hz _ sq
          rw [hx] at this; cases this
          have ex : Ext G2 H2 (upd G2 T (.tup [.int (i : Nat), x])) (upd H2 T (.tup [.int (i : Nat), x])) := .new s3 hT
          refine ⟨_, ex, .tup (.inl (.inl upd_same)) (.cons ?_ (.cons ((rx.mono s2).mono ex.gg) .nil))⟩
          rw [Nat.zero_add]
          exact .int _
        · exact ⟨_, .inl (.inl (s3 _ _ (s2 _ _ ha))), by rw [ra.length, ← enumL_length _ 0]; exact hi⟩
  · cases ed
end

/-! ### for, while -/
def forL (m : Tg) (b : DM Fl) : List D → DM Fl
  | [] => ret .nx
  | d :: ds => fun ρ => match m d ρ with
    | none => none
    | some ρ1 => match b ρ1 with
      | some (.ok .nx ρ2) => forL m b ds ρ2
      | some (.ok .ct ρ2) => forL m b ds ρ2
      | some (.ok .bk ρ2) => some (.ok .nx ρ2)
      | some (.ok (.rt sl) ρ2) => some (.ok (.rt sl) ρ2)
      | some (.ex x ρ2) => some (.ex x ρ2)
      | none => none
def forM (m : Tg) (b : DM Fl) (t : DM (List D)) : DM Fl := bnd t fun ds => forL m b ds
def whileN (c : DM Bool) (b : DM Fl) : Nat → DM Fl
  | 0 => fun _ => none
  | n + 1 => bnd c fun k => if k then (fun ρ => match b ρ with
      | some (.ok .nx ρ2) => whileN c b n ρ2
      | some (.ok .ct ρ2) => whileN c b n ρ2
      | some (.ok .bk ρ2) => some (.ok .nx ρ2)
      | some (.ok (.rt sl) ρ2) => some (.ok (.rt sl) ρ2)
      | some (.ex x ρ2) => some (.ex x ρ2)
      | none => none) else ret .nx
section
variable {X : Cx} {ct : List Addr} {W : WX} {tg iter : Expr} {body : List Stmt} {t : DM (List D)} {b : DM Fl} {m : Tg} {pos : Pos}
theorem sFor (hp : PassesOwn (model X.prog X.w) X.A X.env X.xe) (hc : X.calm = true) (hi : PID X ct W tg iter t) (hg : PGD X ct tg m) (hb : PSsD X ct W body b)
    (hs : ∀ x, foldedSetIterable iter X.env x = pure x := by intro _; rfl) : PSD X ct W (.For tg iter body [] pos) (forM m b t) := by
  refine weakS (ps_for hp hc hi hg hb hs) fun D σ H q => ?_
  obtain ⟨Φ, G, ρ, E, q⟩ := q
  refine ⟨Φ, G, ρ, E, (PostS.bnd q).imp fun ds ρ1 G1 H1 s1 E1 q1 J hJ => ?_⟩
  refine ⟨fun i n σ' H' => n = ds.length - i ∧ i ≤ ds.length ∧ ∃ G' ρ', Same G1 G' ∧ EnvS X.K ct Φ G' H' σ' ρ' ∧ PostS X.K ct Φ W G' (forL m b (ds.drop i) ρ') D, ⟨ds.length, by omega, Nat.zero_le _, G1, ρ1, Same.refl _, E1, q1.2⟩, ?_⟩
  rintro i n σ2 H2 ⟨rfl, hi, G2, ρ2, s2, E2, q2⟩
  by_cases hlt : i < ds.length
  · have hd : ds[i]? = some ds[i] := List.getElem?_eq_getElem hlt
    have e : ds.drop i = ds[i] :: ds.drop (i + 1) := List.drop_eq_getElem_cons hlt
    rw [e] at q2
    unfold forL at q2
    obtain ⟨go, yl⟩ := (hJ i G2 H2 s2 E2.gh).1 _ hd
    cases em : m ds[i] ρ2 with
    | none => rw [em] at q2; exact q2.elim
    | some ρ3 =>
      rw [em] at q2
      simp only at q2
      refine .inr ⟨go, fun σ' H' => ∃ G' ρ', Same G1 G' ∧ EnvS X.K ct Φ G' H' σ' ρ' ∧ PostS X.K ct Φ W G' (forL m b (ds.drop (i + 1)) ρ') D, fun σ' H' ⟨G', ρ', a1, a2, a3⟩ => ⟨_, ?_, rfl, hlt, G', ρ', a1, a2, a3⟩, fun x H3 hx => ?_⟩
      · omega
      · obtain ⟨G3, ex, rx⟩ := yl x H3 hx
        refine ⟨Φ, G3, ρ2, _, ρ3, E2.ext ex, rx, em, fun σ4 G4 H4 s4 E4 => ⟨Φ, G4, ρ3, E4, ?_⟩⟩
        have sm : Same G2 G4 := ex.gg.trans s4
        cases eb : b ρ3 with
        | none => rw [eb] at q2; exact q2.elim
        | some o =>
          rw [eb] at q2
          cases o with
          | ex x ρ5 => exact PostS.mono (o := some (.ex x ρ5)) q2 sm
          | ok fl ρ5 =>
            cases fl with
            | nx => exact fun σ5 G5 H5 s5 E5 => ⟨G5, ρ5, s2.trans (sm.trans s5), E5, PostS.mono q2 (sm.trans s5)⟩
            | ct => exact fun σ5 G5 H5 s5 E5 => ⟨G5, ρ5, s2.trans (sm.trans s5), E5, PostS.mono q2 (sm.trans s5)⟩
            | bk => exact fun σ5 G5 H5 s5 E5 => q2 σ5 G5 H5 (sm.trans s5) E5
            | rt sl => exact fun σ5 G5 H5 s5 E5 => q2 σ5 G5 H5 (sm.trans s5) E5
  · have e : ds.drop i = [] := List.drop_eq_nil_of_le (by omega)
    rw [e] at q2
    exact .inl ⟨(hJ i G2 H2 s2 E2.gh).2 (by omega), q2 σ2 G2 H2 (Same.refl _) E2⟩
theorem sWhile {c : Expr} {tc : DM Bool} (n : Nat) (hp : PassesOwn (model X.prog X.w) X.A X.env X.xe) (hc : PTD X ct W c tc) (hb : PSsD X ct W body b) : PSD X ct W (.While c body [] pos) (whileN tc b n) := by
  refine weakS (ps_while hp hc hb) fun D σ H q => ?_
  obtain ⟨Φ, G, ρ, E, q⟩ := q
  refine ⟨fun k σ' H' => ∃ G' ρ', EnvS X.K ct Φ G' H' σ' ρ' ∧ PostS X.K ct Φ W G' (whileN tc b k ρ') D, ⟨n, G, ρ, E, q⟩, ?_⟩
  rintro k σ2 H2 ⟨G2, ρ2, E2, q2⟩
  cases k with
  | zero => exact q2.elim
  | succ k =>
    unfold whileN at q2
    refine ⟨Φ, G2, ρ2, E2, (PostS.bnd q2).imp fun bb ρ3 G3 H3 s3 E3 q3 => ?_⟩
    cases bb with
    | false => exact iteF (q3.2 σ2 G3 H3 (Same.refl _) E3)
    | true =>
      have q4 := q3.2
      refine iteT ⟨fun σ' H' => ∃ G' ρ', EnvS X.K ct Φ G' H' σ' ρ' ∧ PostS X.K ct Φ W G' (whileN tc b k ρ') D, fun σ' H' z => ⟨k, Nat.lt_succ_self k, z⟩, Φ, G3, ρ3, E3, ?_⟩
      simp only [if_true] at q4
      cases eb : b ρ3 with
      | none => rw [eb] at q4; exact q4.elim
      | some o =>
        rw [eb] at q4
        cases o with
        | ex x ρ5 => exact q4
        | ok fl ρ5 =>
          cases fl with
          | nx => exact fun σ5 G5 H5 s5 E5 => ⟨G5, ρ5, E5, PostS.mono q4 s5⟩
          | ct => exact fun σ5 G5 H5 s5 E5 => ⟨G5, ρ5, E5, PostS.mono q4 s5⟩
          | bk => exact fun σ5 G5 H5 s5 E5 => q4 σ5 G5 H5 s5 E5
          | rt sl => exact fun σ5 G5 H5 s5 E5 => q4 σ5 G5 H5 s5 E5
end

/-! ### things of one's own are changed -/
def own? : Option Sl → Option (D × (D → Sl))
  | some (.ow d) => some (d, .ow)
  | some (.pn d) => some (d, .pn)
  | _ => none
section
variable {K : PySem.W.Frag} {ct : List Addr} {Φ : Fm} {G H : Hp} {σ : St} {ρ : List Sl} {i : Nat} {d d' : D} {f : D → Sl} {p : Addr} {o : HO}
theorem own_is (h : own? ρ[i]? = some (d, f)) : isOwn ρ[i]? = some d ∧ ((ρ[i]? = some (.ow d) ∧ f = Sl.ow) ∨ (ρ[i]? = some (.pn d) ∧ f = Sl.pn)) := by
  unfold own? at h
  split at h
  · rename_i e; cases h; rw [e]; exact ⟨rfl, .inl ⟨rfl, rfl⟩⟩
  · rename_i e; cases h; rw [e]; exact ⟨rfl, .inr ⟨rfl, rfl⟩⟩
  · cases h
theorem EnvS.write (E : EnvS K ct Φ G H σ ρ) (h : own? ρ[i]? = some (d, f)) (ep : σ[i]? = some (some (.ref p))) (hr : HoR K ct G (upd H p o) p d') : EnvS K ct Φ G (upd H p o) σ (ρ.set i (f d')) := by
  obtain ⟨ho, hk⟩ := own_is h
  obtain ⟨q, e1, e2, e3, e4, e5⟩ := E.own i d ho
  rw [ep] at e1; cases e1
  have hl : i < ρ.length := by
    cases z : ρ[i]? with
    | none => rw [z] at ho; cases ho
    | some s => exact (List.getElem?_eq_some_iff.mp z).1
  have hf : isOwn (some (f d')) = some d' := by rcases hk with ⟨_, e⟩ | ⟨_, e⟩ <;> rw [e] <;> rfl
  have hown : ∀ (j : Nat) (dj : D), isOwn (ρ.set i (f d'))[j]? = some dj → (j ≠ i ∧ isOwn ρ[j]? = some dj) ∨ (j = i ∧ dj = d') := fun j dj hj => by
    by_cases hij : i = j
    · subst hij
      rw [List.getElem?_set_self hl, hf] at hj
      cases hj
      exact .inr ⟨rfl, rfl⟩
    · rw [List.getElem?_set_ne hij] at hj
      exact .inl ⟨Ne.symm hij, hj⟩
  have hne : ∀ (j : Nat) (dj : D) (q : Addr), j ≠ i → isOwn ρ[j]? = some dj → σ[j]? = some (some (.ref q)) → q ≠ p := fun j dj q hj h1 h2 z => by
    subst z
    exact E.ne j i dj d q hj h1 ho h2 ep
  refine ⟨by simpa using E.len, fun b x e => ?_, E.g0, fun b x h1 h2 => ?_, fun b x h1 => ?_, E.gn, fun j q hj => ?_, fun j dj hj => ?_, fun j dj hj => ?_, fun j k dj dk q hjk hj hk' ej ek => ?_⟩
  · have hb : b ≠ p := fun z => by rw [z, e2] at e; cases e
    rw [upd_ne hb]; exact E.gh b x e
  · have hb : b ≠ p := fun z => by
      subst z
      rcases hk with ⟨k1, _⟩ | ⟨k1, _⟩
      · rw [e5 k1] at h1; cases h1
      · exact h2 i (e4 k1)
    rw [upd_ne hb]; exact E.fr b x h1 h2
  · by_cases hb : b = p
    · subst hb; exact ⟨o, upd_same⟩
    · rw [upd_ne hb]; exact E.dom b x h1
  · obtain ⟨a1, a2, a3⟩ := E.pin j q hj
    refine ⟨a1, ?_⟩
    by_cases hij : i = j
    · subst hij
      rcases hk with ⟨k1, _⟩ | ⟨k1, kf⟩
      · rw [k1] at a3; cases a3
      · rw [List.getElem?_set_self hl, kf]; exact ⟨d', rfl⟩
    · rw [List.getElem?_set_ne hij]; exact ⟨a2, a3⟩
  · by_cases hij : i = j
    · subst hij
      rw [List.getElem?_set_self hl] at hj
      rcases hk with ⟨_, e⟩ | ⟨_, e⟩ <;> (rw [e] at hj; cases hj)
    · rw [List.getElem?_set_ne hij] at hj
      exact E.sh j dj hj
  · rcases hown j dj hj with ⟨h1, h2⟩ | ⟨rfl, rfl⟩
    · obtain ⟨q, a1, a2, a3, a4, a5⟩ := E.own j dj h2
      rw [List.getElem?_set_ne (Ne.symm h1)]
      exact ⟨q, a1, a2, a3.mono (Same.refl _) (upd_ne (hne j dj q h1 h2 a1)), a4, a5⟩
    · refine ⟨p, ep, e2, hr, fun z => ?_, fun z => ?_⟩
      · rw [List.getElem?_set_self hl] at z
        rcases hk with ⟨k1, e⟩ | ⟨k1, e⟩
        · rw [e] at z; cases z
        · exact e4 k1
      · rw [List.getElem?_set_self hl] at z
        rcases hk with ⟨k1, e⟩ | ⟨k1, e⟩
        · exact e5 k1
        · rw [e] at z; cases z
  · rcases hown j dj hj with ⟨h1, h2⟩ | ⟨rfl, rfl⟩
    · rcases hown k dk hk' with ⟨h3, h4⟩ | ⟨rfl, rfl⟩
      · exact E.ne j k dj dk q hjk h2 h4 ej ek
      · exact E.ne j k dj d q hjk h2 ho ej ek
    · rcases hown k dk hk' with ⟨h3, h4⟩ | ⟨rfl, rfl⟩
      · exact E.ne j k d dk q hjk ho h4 ej ek
      · exact hjk rfl
end
/-- xs.append(e) -/
def appF (i : Nat) (d : D) : DM Fl := fun ρ => match own? ρ[i]? with
  | some (.lst xs, f) => if xs.length < sizeLine then some (.ok .nx (ρ.set i (f (.lst (xs ++ [d]))))) else none
  | _ => none
def appM (i : Nat) (t : DM (List D)) : DM Fl := fun ρ => match own? ρ[i]? with
  | some (.lst _, _) => bnd t (fun ds => match ds with | [d] => appF i d | _ => fun _ => none) ρ
  | _ => none
/-- xs[k] = e -/
def stF (i : Nat) (d k : D) : DM Fl := fun ρ => match own? ρ[i]?, k with
  | some (.lst xs, f), .int j => match ixN xs.length j with
    | some n => some (.ok .nx (ρ.set i (f (.lst (xs.set n d)))))
    | none => none
  | _, _ => none
def stM (i : Nat) (tk te : DM D) : DM Fl := bnd te fun d => fun ρ => match own? ρ[i]? with
  | some (.lst _, _) => bnd tk (fun k => stF i d k) ρ
  | _ => none
section
variable {X : Cx} {ct : List Addr} {W : WX} {pos p1 p2 p3 p4 : Pos} {x : Str} {e : Expr}
theorem sApp (i : Nat) {t : DM (List D)} {apos cpos : Pos} (h : PDs X ct W [e] t) (hN : X.N[i]? = some x := by rfl) (hv : Vis X.env.scope x := by first | exact Or.inl rfl | exact Or.inr (Or.inl rfl) | exact Or.inr (Or.inr rfl)) (hd : (x == ("__debug__" : Str)) = false := by decide) (hcd : (x == ("__classdict__" : Str)) = false := by decide)
    (hbase : attributeBase (.Name x p1) "append" X.env (eval (.Name x p1) X.env) = eval (.Name x p1) X.env := by rfl)
    (hfew : ((backTo cpos (starEach [e] X.env)).all (fun x => !x.1) && (backToKw cpos (keywordEach [] X.env)).all (fun x => x.1.isSome)
      && decide ([e].length + ([] : List Keyword).length + (if ([] : List Keyword).isEmpty then 0 else 1) < 30)) = true := by rfl)
    (hline : (apos.endLine == cpos.line) = true := by rfl) (hs : starEach [e] X.env = (false, eval e X.env) :: starEach [] X.env := by rfl) (hplain : (backTo cpos (starEach [] X.env)).any (·.1) = false := by rfl)
    (hsw : swapsWith (.Call (.Attribute (.Name x p1) "append" apos) [e] [] cpos) none pos.line X.env = pure false := by rfl) :
    PSD X ct W (.Expr (.Call (.Attribute (.Name x p1) "append" apos) [e] [] cpos) pos) (appM i t) := by
  refine weakS (ps_expr (pe_bm F.plainAttrs_list F.slot_list_append F.type_list_append mt_append (pe_var (i := i) hN hv hd hcd) h hbase hfew hline hs hplain) hsw) fun D σ H q => ?_
  obtain ⟨Φ, G, ρ, E, q⟩ := q
  unfold appM at q
  cases ho : own? ρ[i]? with
  | none => rw [ho] at q; exact q.elim
  | some dd =>
    rw [ho] at q
    obtain ⟨d0, f0⟩ := dd
    cases d0 with
    | lst xs0 =>
      obtain ⟨p, e1, e2, e3, _⟩ := E.own i _ (own_is ho).1
      obtain ⟨vs0, e4, e5⟩ := e3
      refine ⟨.ref p, e1, .inl ⟨rfl, vs0, .inl (.inl e4)⟩, Φ, G, ρ, E, (PostS.bnd q).imp fun ds ρ1 G1 H1 s1 E1 q1 vs rs => ?_⟩
      have q2 := q1.2
      cases rs with
      | nil => exact q2.elim
      | cons r1 r2 =>
        cases r2 with
        | cons _ _ => exact q2.elim
        | nil =>
          unfold appF at q2
          cases ho1 : own? ρ1[i]? with
          | none => simp only [ho1] at q2; exact q2.elim
          | some dd1 =>
            simp only [ho1] at q2
            obtain ⟨d1, f1⟩ := dd1
            cases d1 with
            | lst xs1 =>
              simp only at q2
              split at q2
              · rename_i hz
                obtain ⟨p', a1, a2, a3, _⟩ := E1.own i _ (own_is ho1).1
                rw [e1] at a1; cases a1
                obtain ⟨vs1, a4, a5⟩ := a3
                refine ⟨p, vs1, _, rfl, rfl, a4, by rw [a5.length]; exact hz, ?_⟩
                exact q2 σ G1 _ (Same.refl _) (E1.write (o := .lst (vs1 ++ [_])) ho1 e1 ⟨_, upd_same, a5.append (.cons r1 .nil)⟩)
              · exact q2.elim
            | _ => exact q2.elim
    | _ => exact q.elim
theorem sStore (i : Nat) {k : Expr} {tk te : DM D} (h : PED X ct W e te) (hk : PED X ct W k tk) (hN : X.N[i]? = some x := by rfl) (hv : Vis X.env.scope x := by first | exact Or.inl rfl | exact Or.inr (Or.inl rfl) | exact Or.inr (Or.inr rfl)) (hd : (x == ("__debug__" : Str)) = false := by decide) (hcd : (x == ("__classdict__" : Str)) = false := by decide)
    (ha : ∀ v, assign (.Subscript (.Name x p1) k p2) X.env v = (do
      let ov ← holding [v] (eval (.Name x p1) X.env)
      let iv ← holding [v, ov] (eval k X.env)
      standAt p2
      holding [v, ov, iv] (setItem ov iv v)
      release [v, ov, iv] []) := by intro _; rfl)
    (hs : swapsWithSole [.Subscript (.Name x p1) k p2] e pos.line X.env = pure false := by rfl) (hw : swappedStores [.Subscript (.Name x p1) k p2] e X.env = pure none := by rfl)
    (h1 : (assignEach [.Subscript (.Name x p1) k p2] X.env).map (·.2) = [assign (.Subscript (.Name x p1) k p2) X.env] := by rfl) : PSD X ct W (.Assign [.Subscript (.Name x p1) k p2] e pos) (stM i tk te) := by
  refine weakS (ps_asg h (pg_sub (pe_var (i := i) hN hv hd hcd) hk set_list ha) hs hw h1) fun D σ H q => ?_
  obtain ⟨Φ, G, ρ, E, q⟩ := q
  refine ⟨Φ, G, ρ, E, (PostS.bnd q).imp fun d ρ1 G1 H1 s1 E1 q1 v r => ?_⟩
  have q2 := q1.2
  cases ho : own? ρ1[i]? with
  | none => rw [ho] at q2; exact q2.elim
  | some dd =>
    rw [ho] at q2
    obtain ⟨d0, f0⟩ := dd
    cases d0 with
    | lst xs0 =>
      obtain ⟨p, e1, e2, e3, _⟩ := E1.own i _ (own_is ho).1
      refine ⟨.ref p, e1, Φ, G1, ρ1, E1, (PostS.bnd q2).imp fun kk ρ2 G2 H2 s2 E2 q3 kv rk => ?_⟩
      have q4 := q3.2
      unfold stF at q4
      cases ho1 : own? ρ2[i]? with
      | none => rw [ho1] at q4; exact q4.elim
      | some dd1 =>
        rw [ho1] at q4
        obtain ⟨d1, f1⟩ := dd1
        cases d1 with
        | lst xs1 =>
          cases rk with
          | int j =>
            simp only at q4
            cases en : ixN xs1.length j with
            | none => rw [en] at q4; exact q4.elim
            | some n =>
              rw [en] at q4
              obtain ⟨p', a1, a2, a3, _⟩ := E2.own i _ (own_is ho1).1
              rw [e1] at a1; cases a1
              obtain ⟨vs1, a4, a5⟩ := a3
              refine ⟨p, vs1, j, n, rfl, rfl, a4, by rw [a5.length]; exact en, ?_⟩
              exact q4 σ G2 _ (Same.refl _) (E2.write (o := .lst (vs1.set n v)) ho1 e1 ⟨_, upd_same, a5.set n (r.mono s2)⟩)
          | _ => exact q4.elim
        | _ => exact q4.elim
    | _ => exact q2.elim
/-- x op= e -/
def augM (i : Nat) (g : D → D → Option Sl) (t : DM D) : DM Fl := bnd (opS g (get i) t) (setF i)
theorem sAug (i : Nat) {op : Operator} {g : D → D → Option Sl} {t : DM D} (hN : X.N.Nodup) (ho : OpR X (inplaceOp op) (rF X.K ct g)) (h : PED X ct W e t) (hi : X.N[i]? = some x := by rfl) (hx : Loc X.env.scope x := by first | exact Or.inl rfl | exact Or.inr rfl)
    (hf : X.fn x = true ∨ X.env.scope.names.lookup x = some .local := by first | exact .inl rfl | exact .inr rfl | assumption) : PSD X ct W (.AugAssign (.Name x p1) op e pos) (augM i g t) := by
  refine weakS (ps_aug (i := i) hN hi hx h ho hf) fun D σ H q => ?_
  obtain ⟨Φ, G, ρ, E, q⟩ := q
  have q0 := Post.bnd (PostS.bnd (σ := σ) q)
  unfold get at q0
  cases hs : ρ[i]? with
  | none => rw [hs] at q0; exact q0.elim
  | some sl =>
    rw [hs] at q0
    cases sl with
    | un => exact q0.elim
    | ow d => exact q0.elim
    | pn d => exact q0.elim
    | sh d =>
      obtain ⟨v, ev, r⟩ := E.sh i d hs
      obtain ⟨_, q1⟩ := q0 G H (Same.refl _) E
      refine ⟨v, ev, Φ, G, ρ, E, (Post.bnd q1).imp fun d2 ρ2 G2 H2 s2 E2 q2 v2 r2 => ?_⟩
      obtain ⟨sl, es, k⟩ := lft_post q2.2
      exact ⟨G2, d, d2, sl, E2.gh, r.mono s2, r2, es, fun z G' H' xx rr => setF_post (k G' H' xx.gg (E2.ext xx)).2 (E2.ext xx) (rr.rf E2)⟩
def iaddS : D → D → Option Sl
  | .int i, .int j => some (.sh (.int (i + j)))
  | _, _ => none
theorem dIadd : OpR X (inplaceOp .Add) (rF X.K ct iaddS) := by
  intro pins s σ H x y v u Q I rx ry h
  obtain ⟨G, dx, dy, sl, sg, r1, r2, e, k⟩ := h
  cases r1 with
  | int i =>
    cases r2 with
    | int j => cases e; exact iop_add pins s σ H _ _ v u Q I rx ry ⟨i, j, rfl, rfl, RN.of_ext sg k rfl (.int _)⟩
    | _ => simp [iaddS] at e
  | _ => simp [iaddS] at e
end
end FD

set_option Elab.async false
set_option linter.all false
set_option maxRecDepth 100000
namespace FD
open PySem L2

/-! ### the promise of a def -/
/-- from the arguments' slots to the value and what became of the lent things -/
abbrev DF := List Sl → Option (Out Sl)
def SpF (K : PySem.W.Frag) (ct : List Addr) (F : DF) : Sp := fun vs H Q E => tF K ct (fun c d _ H' => E c d H') F (vs.map some) H Q

/-! ### a call: what is lent, what comes back -/
def argSl (ρ : List Sl) : Ar → Option Sl
  | .val d => some (.sh d)
  | .lend i => (own? ρ[i]?).map fun x => .pn x.1
def argSls (ρ : List Sl) : List Ar → Option (List Sl)
  | [] => some []
  | a :: r => (argSl ρ a).bind fun s => (argSls ρ r).map (s :: ·)
def lends : List Ar → List Nat
  | [] => []
  | .val _ :: r => lends r
  | .lend i :: r => i :: lends r
def nodupN : List Nat → Bool
  | [] => true
  | i :: r => !r.contains i && nodupN r
def back1 (ρ : List Sl) (i : Nat) (d : D) : List Sl := match own? ρ[i]? with
  | some (_, f) => ρ.set i (f d)
  | none => ρ
def back : List Sl → List Ar → List Sl → List Sl
  | ρ, .lend i :: ars, s :: as => back (back1 ρ i s.dat) ars as
  | ρ, .val _ :: ars, _ :: as => back ρ ars as
  | ρ, _, _ => ρ
def callF (F : DF) (ars : List Ar) : DM Sl := fun ρ => match argSls ρ ars with
  | none => none
  | some as => if nodupN (lends ars) then (match F as with
      | some (.ok sl as') => some (.ok sl (back ρ ars as'))
      | some (.ex x as') => some (.ex x (back ρ ars as'))
      | none => none) else none

section
variable {K : PySem.W.Frag} {ct : List Addr} {Φ : Fm} {G H : Hp} {σ : St} {ρ : List Sl}
theorem argSls_get : ∀ {ars : List Ar} {as : List Sl} {vs : List V}, argSls ρ ars = some as → ArRs K ct G σ vs ars → as.length = ars.length ∧ vs.length = ars.length ∧ ∀ (j : Nat) (a : Ar), ars[j]? = some a → ∃ s v, as[j]? = some s ∧ vs[j]? = some v ∧ argSl ρ a = some s ∧ ArR K ct G σ v a
  | [], as, _, h, .nil => by cases h; exact ⟨rfl, rfl, fun j a e => by simp at e⟩
  | a :: r, as, _, h, .cons r1 r2 => by
    simp only [argSls, Option.bind_eq_some_iff, Option.map_eq_some_iff] at h
    obtain ⟨s, e1, l, e2, rfl⟩ := h
    obtain ⟨h1, h2, h3⟩ := argSls_get e2 r2
    refine ⟨by simp [h1], by simp [h2], fun j b e => ?_⟩
    cases j with
    | zero => cases e; exact ⟨s, _, rfl, rfl, e1, r1⟩
    | succ j => exact h3 j b (by simpa using e)
theorem lends_mem : ∀ {ars : List Ar} {j i : Nat}, ars[j]? = some (.lend i) → i ∈ lends ars
  | a :: r, 0, i, h => by cases h; exact List.mem_cons_self
  | .val _ :: r, j + 1, i, h => lends_mem (ars := r) (j := j) (by simpa using h)
  | .lend k :: r, j + 1, i, h => List.mem_cons_of_mem _ (lends_mem (ars := r) (j := j) (by simpa using h))
theorem lends_inj : ∀ {ars : List Ar} {j k i : Nat}, nodupN (lends ars) = true → ars[j]? = some (.lend i) → ars[k]? = some (.lend i) → j = k
  | a :: r, 0, 0, i, _, _, _ => rfl
  | a :: r, 0, k + 1, i, h, e1, e2 => by
    cases e1
    simp only [lends, nodupN, Bool.and_eq_true, Bool.not_eq_true'] at h
    have := lends_mem (ars := r) (j := k) (by simpa using e2)
    have h1 := h.1
    simp [this] at h1
  | a :: r, j + 1, 0, i, h, e1, e2 => by
    cases e2
    simp only [lends, nodupN, Bool.and_eq_true, Bool.not_eq_true'] at h
    have := lends_mem (ars := r) (j := j) (by simpa using e1)
    have h1 := h.1
    simp [this] at h1
  | a :: r, j + 1, k + 1, i, h, e1, e2 => by
    have h' : nodupN (lends r) = true := by
      cases a with
      | val d => exact h
      | lend n =>
        simp only [lends, nodupN, Bool.and_eq_true] at h
        exact h.2
    exact congrArg (· + 1) (lends_inj h' (by simpa using e1) (by simpa using e2))
/-- the pins of a call -/
def pinsA (ars : List Ar) (vs : List V) : List (Nat × Addr) := (List.range ars.length).filterMap fun (j : Nat) => match (ars[j]? : Option Ar), (vs[j]? : Option V) with
  | some (.lend _), some (.ref p) => some (j, p)
  | _, _ => none
theorem mem_pinsA {ars : List Ar} {vs : List V} {j : Nat} {p : Addr} : (j, p) ∈ pinsA ars vs ↔ ∃ i, ars[j]? = some (.lend i) ∧ vs[j]? = some (.ref p) := by
  unfold pinsA
  rw [List.mem_filterMap]
  constructor
  · rintro ⟨k, hk, e⟩
    split at e
    · rename_i i p' h1 h2
      cases e
      exact ⟨i, h1, h2⟩
    · cases e
  · rintro ⟨i, h1, h2⟩
    refine ⟨j, ?_, by rw [h1, h2]⟩
    rw [List.mem_range]
    exact (List.getElem?_eq_some_iff.mp h1).1
theorem EnvS.entry (E : EnvS K ct Φ G H σ ρ) {ars : List Ar} {as : List Sl} {vs : List V} (h : argSls ρ ars = some as) (hn : nodupN (lends ars) = true) (r : ArRs K ct G σ vs ars) : EnvS K ct ⟨H, G, pinsA ars vs⟩ G H (vs.map some) as := by
  obtain ⟨l1, l2, hg⟩ := argSls_get h r
  have hv : ∀ j, (vs.map some)[j]? = vs[j]?.map some := fun j => List.getElem?_map
  have ha : ∀ (j : Nat) (s : Sl), as[j]? = some s → ∃ a v, ars[j]? = some a ∧ vs[j]? = some v ∧ argSl ρ a = some s ∧ ArR K ct G σ v a := fun j s e => by
    have hj : j < ars.length := by rw [← l1]; exact (List.getElem?_eq_some_iff.mp e).1
    obtain ⟨s', v, e1, e2, e3, e4⟩ := hg j _ (List.getElem?_eq_getElem hj)
    rw [e] at e1; cases e1
    exact ⟨_, v, List.getElem?_eq_getElem hj, e2, e3, e4⟩
  have hown : ∀ (j : Nat) (d : D), isOwn as[j]? = some d → ∃ i p f, ars[j]? = some (.lend i) ∧ vs[j]? = some (.ref p) ∧ own? ρ[i]? = some (d, f) ∧ σ[i]? = some (some (.ref p)) ∧ as[j]? = some (.pn d) ∧ G p = none ∧ HoR K ct G H p d := fun j d e => by
    cases q : as[j]? with
    | none => rw [q] at e; cases e
    | some s =>
      obtain ⟨a, v, e1, e2, e3, e4⟩ := ha j s q
      cases a with
      | val d' => cases e3; rw [q] at e; cases e
      | lend i =>
        simp only [argSl, Option.map_eq_some_iff] at e3
        obtain ⟨⟨d', f⟩, e5, rfl⟩ := e3
        rw [q] at e; cases e
        obtain ⟨p, b1, b2, b3, _⟩ := E.own i _ (own_is e5).1
        have : σ[i]? = some (some v) := e4
        rw [b1] at this; cases this
        exact ⟨i, p, f, e1, e2, e5, b1, rfl, b2, b3⟩
  refine ⟨by rw [List.length_map, l1, l2], E.gh, Same.refl _, fun b o h _ => h, fun b o h => ⟨o, h⟩, fun b o _ h => h, fun j p hj => ?_, fun j d hj => ?_, fun j d hj => ?_, fun j k dj dk p hjk hj hk ej ek => ?_⟩
  · obtain ⟨i, h1, h2⟩ := mem_pinsA.mp hj
    obtain ⟨s, v, e1, e2, e3, e4⟩ := hg j _ h1
    simp only [argSl, Option.map_eq_some_iff] at e3
    obtain ⟨⟨d', f⟩, e5, rfl⟩ := e3
    exact ⟨by rw [hv, h2]; rfl, d', e1⟩
  · obtain ⟨a, v, e1, e2, e3, e4⟩ := ha j _ hj
    cases a with
    | val d' => cases e3; exact ⟨v, by rw [hv, e2]; rfl, e4⟩
    | lend i =>
      simp only [argSl, Option.map_eq_some_iff] at e3
      obtain ⟨_, _, z⟩ := e3
      cases z
  · obtain ⟨i, p, f, h1, h2, h3, h4, h5, h6, h7⟩ := hown j d hj
    exact ⟨p, by rw [hv, h2]; rfl, h6, h7, fun _ => mem_pinsA.mpr ⟨i, h1, h2⟩, fun z => by rw [h5] at z; cases z⟩
  · obtain ⟨i, q, f, h1, h2, h3, h4, h5, h6, h7⟩ := hown j dj hj
    obtain ⟨i', q', f', g1, g2, g3, g4, g5, g6, g7⟩ := hown k dk hk
    rw [hv, h2] at ej
    rw [hv, g2] at ek
    cases ej
    cases ek
    by_cases hii : i = i'
    · subst hii
      exact hjk (lends_inj hn h1 g1)
    · exact E.ne i i' dj dk _ hii (own_is h3).1 (own_is g3).1 h4 g4
theorem back1_length (ρ : List Sl) (i : Nat) (d : D) : (back1 ρ i d).length = ρ.length := by
  unfold back1
  split
  · exact List.length_set
  · rfl
theorem back1_ne {i j : Nat} {d : D} (h : i ≠ j) : (back1 ρ i d)[j]? = ρ[j]? := by
  unfold back1
  split
  · exact List.getElem?_set_ne h
  · rfl
theorem back_length : ∀ (ars : List Ar) (as ρ : List Sl), (back ρ ars as).length = ρ.length
  | [], _, _ => by simp [back]
  | .val _ :: r, [], _ => by simp [back]
  | .lend _ :: r, [], _ => by simp [back]
  | .val _ :: r, s :: as, ρ => by simp only [back]; exact back_length r as ρ
  | .lend i :: r, s :: as, ρ => by simp only [back]; rw [back_length r as, back1_length]
theorem back_ne : ∀ (ars : List Ar) (as ρ : List Sl) (i : Nat), i ∉ lends ars → (back ρ ars as)[i]? = ρ[i]?
  | [], _, _, _, _ => by simp [back]
  | .val _ :: r, [], _, _, _ => by simp [back]
  | .lend _ :: r, [], _, _, _ => by simp [back]
  | .val _ :: r, s :: as, ρ, i, h => by simp only [back]; exact back_ne r as ρ i h
  | .lend k :: r, s :: as, ρ, i, h => by
    simp only [lends, List.mem_cons, not_or] at h
    simp only [back]
    rw [back_ne r as _ i h.2, back1_ne (Ne.symm h.1)]
theorem back_eq : ∀ (ars : List Ar) (as ρ : List Sl) (j i : Nat) (s : Sl) (d : D) (f : D → Sl), nodupN (lends ars) = true → ars[j]? = some (.lend i) → as[j]? = some s → own? ρ[i]? = some (d, f) → (back ρ ars as)[i]? = some (f s.dat)
  | [], _, _, _, _, _, _, _, _, h, _, _ => by simp at h
  | .val _ :: r, [], _, j, _, _, _, _, _, _, h, _ => by simp at h
  | .lend _ :: r, [], _, j, _, _, _, _, _, _, h, _ => by simp at h
  | .val _ :: r, s0 :: as, ρ, 0, i, s, d, f, hn, h1, h2, h3 => by simp at h1
  | .val _ :: r, s0 :: as, ρ, j + 1, i, s, d, f, hn, h1, h2, h3 => by
    simp only [back]
    exact back_eq r as ρ j i s d f hn (by simpa using h1) (by simpa using h2) h3
  | .lend k :: r, s0 :: as, ρ, 0, i, s, d, f, hn, h1, h2, h3 => by
    have hki : k = i := by simpa using h1
    subst hki
    cases h2
    simp only [lends, nodupN, Bool.and_eq_true, Bool.not_eq_true'] at hn
    have hi : k ∉ lends r := by
      intro z
      have := hn.1
      simp [z] at this
    simp only [back]
    rw [back_ne r as _ k hi]
    unfold back1
    rw [h3]
    have hl : k < ρ.length := by
      cases z : ρ[k]? with
      | none => rw [z] at h3; cases h3
      | some s => exact (List.getElem?_eq_some_iff.mp z).1
    exact List.getElem?_set_self hl
  | .lend k :: r, s0 :: as, ρ, j + 1, i, s, d, f, hn, h1, h2, h3 => by
    simp only [lends, nodupN, Bool.and_eq_true, Bool.not_eq_true'] at hn
    have hk : k ≠ i := by
      intro z
      subst z
      have hm := lends_mem (ars := r) (j := j) (i := k) (by simpa using h1)
      have := hn.1
      simp [hm] at this
    simp only [back]
    exact back_eq r as _ j i s d f hn.2 (by simpa using h1) (by simpa using h2) (by rw [back1_ne hk]; exact h3)
theorem mem_lends : ∀ {ars : List Ar} {i : Nat}, i ∈ lends ars → ∃ j : Nat, ars[j]? = some (.lend i)
  | .val _ :: r, i, h => by
    obtain ⟨j, e⟩ := mem_lends (ars := r) h
    exact ⟨j + 1, by simpa using e⟩
  | .lend k :: r, i, h => by
    simp only [lends, List.mem_cons] at h
    rcases h with rfl | h
    · exact ⟨0, rfl⟩
    · obtain ⟨j, e⟩ := mem_lends (ars := r) h
      exact ⟨j + 1, by simpa using e⟩
theorem EnvS.exit {G' H' : Hp} (E : EnvS K ct Φ G H σ ρ) {ars : List Ar} {as as' : List Sl} {vs : List V} (h : argSls ρ ars = some as) (hn : nodupN (lends ars) = true) (r : ArRs K ct G σ vs ars) (s : Same G G') (E' : EnvS K ct ⟨H, G, pinsA ars vs⟩ G' H' (vs.map some) as') :
    EnvS K ct Φ G' H' σ (back ρ ars as') := by
  obtain ⟨l1, l2, hg⟩ := argSls_get h r
  have hv : ∀ j, (vs.map some)[j]? = vs[j]?.map some := fun j => List.getElem?_map
  -- a lent slot
  have lent : ∀ i, i ∈ lends ars → ∃ d d' f p, own? ρ[i]? = some (d, f) ∧ σ[i]? = some (some (.ref p)) ∧ (back ρ ars as')[i]? = some (f d') ∧ G' p = none ∧ HoR K ct G' H' p d' := fun i hi => by
    obtain ⟨j, hj⟩ := mem_lends hi
    obtain ⟨s1, v, e1, e2, e3, e4⟩ := hg j _ hj
    simp only [argSl, Option.map_eq_some_iff] at e3
    obtain ⟨⟨d, f⟩, e5, rfl⟩ := e3
    obtain ⟨p, b1, b2, b3, _⟩ := E.own i _ (own_is e5).1
    have e4' : σ[i]? = some (some v) := e4
    rw [b1] at e4'; cases e4'
    obtain ⟨c1, d', c2⟩ := E'.pin j p (mem_pinsA.mpr ⟨i, hj, e2⟩)
    obtain ⟨p', a1, a2, a3, _⟩ := E'.own j d' (by rw [c2]; rfl)
    rw [c1] at a1; cases a1
    exact ⟨d, d', f, p, e5, b1, back_eq ars as' ρ j i _ d f hn hj c2 e5, a2, a3⟩
  have npin : ∀ i p, i ∉ lends ars → isOwn ρ[i]? ≠ none → σ[i]? = some (some (.ref p)) → ∀ j, (j, p) ∉ pinsA ars vs := fun i p hi ho hp j hj => by
    obtain ⟨i', h1, h2⟩ := mem_pinsA.mp hj
    obtain ⟨d, d', f, p', a1, a2, _⟩ := lent i' (lends_mem h1)
    obtain ⟨s1, v, e1, e2, e3, e4⟩ := hg j _ h1
    have e4' : σ[i']? = some (some v) := e4
    rw [h2] at e2; cases e2
    have hne : i ≠ i' := fun z => hi (z ▸ lends_mem h1)
    cases q : isOwn ρ[i]? with
    | none => exact ho q
    | some d0 => exact E.ne i i' d0 d p hne q (own_is a1).1 hp e4'
  have hown : ∀ (i : Nat) (d : D), isOwn (back ρ ars as')[i]? = some d → ∃ d0, isOwn ρ[i]? = some d0 := fun i d hi => by
    by_cases hl : i ∈ lends ars
    · obtain ⟨d1, _, f, _, a1, _⟩ := lent i hl
      exact ⟨d1, (own_is a1).1⟩
    · rw [back_ne ars as' ρ i hl] at hi
      exact ⟨d, hi⟩
  refine ⟨by rw [back_length]; exact E.len, E'.gh, E.g0.trans s, fun b o h1 h2 => ?_, fun b o h1 => ?_, fun b o h1 h2 => ?_, fun i p hi => ?_, fun i d hi => ?_, fun i d hi => ?_, fun i j di dj p hij hi hj ei ej => ?_⟩
  · refine E'.fr b o (E.fr b o h1 h2) fun j hj => ?_
    obtain ⟨i, g1, g2⟩ := mem_pinsA.mp hj
    obtain ⟨d, d', f, p, a1, a2, _⟩ := lent i (lends_mem g1)
    obtain ⟨s1, v, e1, e2, e3, e4⟩ := hg j _ g1
    rw [g2] at e2; cases e2
    have e4' : σ[i]? = some (some (.ref b)) := e4
    obtain ⟨q, b1, _, _, b4, b5⟩ := E.own i d (own_is a1).1
    rw [e4'] at b1; cases b1
    rcases (own_is a1).2 with ⟨z, _⟩ | ⟨z, _⟩
    · rw [b5 z] at h1; cases h1
    · exact h2 i (b4 z)
  · obtain ⟨o', e⟩ := E.dom b o h1
    exact E'.dom b o' e
  · obtain ⟨o', e⟩ := E.dom b o h1
    exact E'.gn b o' e (E.gn b o h1 h2)
  · obtain ⟨a1, d, a2⟩ := E.pin i p hi
    refine ⟨a1, ?_⟩
    by_cases hl : i ∈ lends ars
    · obtain ⟨d1, d2, f, _, b1, _, b3, _⟩ := lent i hl
      rcases (own_is b1).2 with ⟨z, _⟩ | ⟨_, z⟩
      · rw [a2] at z; cases z
      · rw [b3, z]; exact ⟨d2, rfl⟩
    · rw [back_ne ars as' ρ i hl]; exact ⟨d, a2⟩
  · by_cases hl : i ∈ lends ars
    · obtain ⟨d1, d2, f, _, b1, _, b3, _⟩ := lent i hl
      rw [b3] at hi
      rcases (own_is b1).2 with ⟨_, z⟩ | ⟨_, z⟩ <;> (rw [z] at hi; cases hi)
    · rw [back_ne ars as' ρ i hl] at hi
      obtain ⟨v, e1, e2⟩ := E.sh i d hi
      exact ⟨v, e1, e2.mono s⟩
  · by_cases hl : i ∈ lends ars
    · obtain ⟨d1, d2, f, p, b1, b2, b3, b4, b5⟩ := lent i hl
      obtain ⟨q, c1, _, _, c4, c5⟩ := E.own i d1 (own_is b1).1
      rw [b2] at c1; cases c1
      rw [b3] at hi ⊢
      rcases (own_is b1).2 with ⟨z1, z⟩ | ⟨z1, z⟩
      · rw [z] at hi ⊢; cases hi
        exact ⟨p, b2, b4, b5, (fun y => by cases y), fun _ => c5 z1⟩
      · rw [z] at hi ⊢; cases hi
        exact ⟨p, b2, b4, b5, (fun _ => c4 z1), (fun y => by cases y)⟩
    · rw [back_ne ars as' ρ i hl] at hi ⊢
      obtain ⟨p, c1, c2, c3, c4, c5⟩ := E.own i d hi
      obtain ⟨o, ho⟩ := c3.there
      exact ⟨p, c1, E'.gn p o ho c2, c3.mono s ((E'.fr p o ho (npin i p hl (by rw [hi]; simp) c1)).trans ho.symm), c4, c5⟩
  · obtain ⟨d1, z1⟩ := hown i di hi
    obtain ⟨d2, z2⟩ := hown j dj hj
    exact E.ne i j d1 d2 p hij z1 z2 ei ej
theorem RF.exit {G' H' : Hp} (E : EnvS K ct Φ G H σ ρ) {ars : List Ar} {as as' : List Sl} {vs : List V} (h : argSls ρ ars = some as) (hn : nodupN (lends ars) = true) (r : ArRs K ct G σ vs ars) {v : V} {sl : Sl}
    (q : RF K ct ⟨H, G, pinsA ars vs⟩ G' H' (vs.map some) as' v sl) : RF K ct Φ G' H' σ (back ρ ars as') v sl := by
  cases sl with
  | un => exact q.elim
  | pn d => exact q.elim
  | sh d => exact q
  | ow d =>
    obtain ⟨p, rfl, h1, h2, h3, h4⟩ := q
    have h3' : H p = none := h3
    refine ⟨p, rfl, h1, h2, ?_, fun i d' hi ei => ?_⟩
    · cases e : Φ.H p with
      | none => rfl
      | some o => obtain ⟨o', e'⟩ := E.dom p o e; rw [h3'] at e'; cases e'
    · obtain ⟨l1, l2, hg⟩ := argSls_get h r
      have : ∃ d0, isOwn ρ[i]? = some d0 := by
        by_cases hl : i ∈ lends ars
        · obtain ⟨j, hj⟩ := mem_lends hl
          obtain ⟨s1, v, e1, e2, e3, e4⟩ := hg j _ hj
          simp only [argSl, Option.map_eq_some_iff] at e3
          obtain ⟨⟨d, f⟩, e5, rfl⟩ := e3
          exact ⟨d, (own_is e5).1⟩
        · rw [back_ne ars as' ρ i hl] at hi
          exact ⟨d', hi⟩
      obtain ⟨d0, z⟩ := this
      obtain ⟨o, ho⟩ := E.ownH z ei
      rw [h3'] at ho; cases ho
/-- the call of a def by its promise -/
theorem call_post {W : WX} {F : DF} {ars : List Ar} {vs : List V} {k : Sl → List Sl → Hp → Hp → Prop} (E : EnvS K ct Φ G H σ ρ) (q : Post K ct Φ W σ G (callF F ars ρ) k) (r : ArRs K ct G σ vs ars) {Q : VK}
    (hk : ∀ sl ρ' G' H', Same G G' → EnvS K ct Φ G' H' σ ρ' → k sl ρ' G' H' → ∀ v, RF K ct Φ G' H' σ ρ' v sl → Q v H') : SpF K ct F vs H Q (fun c d H' => W c d σ H') := by
  unfold callF at q
  cases h : argSls ρ ars with
  | none => rw [h] at q; exact q.elim
  | some as =>
    rw [h] at q
    simp only at q
    split at q
    · rename_i hn
      refine ⟨⟨H, G, pinsA ars vs⟩, G, as, E.entry h hn r, ?_⟩
      cases hF : F as with
      | none => rw [hF] at q; exact q.elim
      | some o =>
        rw [hF] at q
        cases o with
        | ok sl as' => exact fun G' H' s E' v rv => hk sl _ G' H' s (E.exit h hn r s E') (q G' H' s (E.exit h hn r s E')) v (RF.exit E h hn r rv)
        | ex x as' => exact fun G' H' c dx s E' rx => q G' H' c dx s (E.exit h hn r s E') rx
    · exact q.elim
end
/-! ### arguments with things lent -/
def arNil : DM (List Ar) := ret []
def arVal (t : DM D) (r : DM (List Ar)) : DM (List Ar) := bnd t fun d => bnd r fun as => ret (.val d :: as)
def arLend (i : Nat) (r : DM (List Ar)) : DM (List Ar) := fun ρ => match own? ρ[i]? with
  | some _ => bnd r (fun as => ret (.lend i :: as)) ρ
  | none => none
section
variable {X : Cx} {ct : List Addr} {W : WX} {e : Expr} {es : List Expr} {pos p : Pos} {x : Str}
theorem rNil : PAD X ct W [] arNil := by
  refine weakA pa_nil fun σ H Q q => ?_
  obtain ⟨Φ, G, ρ, E, q⟩ := q
  exact q G H (Same.refl _) E [] .nil
theorem rVal {t : DM D} {r : DM (List Ar)} (h : PED X ct W e t) (hr : PAD X ct W es r) (hs : starEach (e :: es) X.env = (false, eval e X.env) :: starEach es X.env := by rfl) : PAD X ct W (e :: es) (arVal t r) := by
  refine weakA (pa_cons h hr hs) fun σ H Q q => ?_
  obtain ⟨Φ, G, ρ, E, q⟩ := q
  refine ⟨Φ, G, ρ, E, (Post.bnd q).imp fun d ρ1 G1 H1 s1 E1 q1 v1 r1 => ?_⟩
  refine ⟨Φ, G1, ρ1, E1, (Post.bnd q1.2).imp fun as ρ2 G2 H2 s2 E2 q2 vs r2 => ?_⟩
  exact q2.2 G2 H2 (Same.refl _) E2 _ (.cons (show ArR X.K ct G2 σ v1 (.val d) from r1.mono s2) r2)
theorem rLend (i : Nat) {r : DM (List Ar)} (hr : PAD X ct W es r) (hN : X.N[i]? = some x := by rfl) (hv : Vis X.env.scope x := by first | exact Or.inl rfl | exact Or.inr (Or.inl rfl) | exact Or.inr (Or.inr rfl)) (hd : (x == ("__debug__" : Str)) = false := by decide) (hcd : (x == ("__classdict__" : Str)) = false := by decide)
    (hs : starEach (.Name x p :: es) X.env = (false, eval (.Name x p) X.env) :: starEach es X.env := by rfl) : PAD X ct W (.Name x p :: es) (arLend i r) := by
  refine weakA (pa_cons (pe_var (i := i) hN hv hd hcd) hr hs) fun σ H Q q => ?_
  obtain ⟨Φ, G, ρ, E, q⟩ := q
  unfold arLend at q
  cases ho : own? ρ[i]? with
  | none => rw [ho] at q; exact q.elim
  | some dd =>
    rw [ho] at q
    obtain ⟨pa, e1, _⟩ := E.own i _ (own_is (d := dd.1) (f := dd.2) ho).1
    refine ⟨.ref pa, e1, Φ, G, ρ, E, (Post.bnd q).imp fun as ρ2 G2 H2 s2 E2 q2 vs r2 => ?_⟩
    exact q2.2 G2 H2 (Same.refl _) E2 _ (.cons (show ArR X.K ct G2 σ (.ref pa) (.lend i) from e1) r2)
def callA (F : DF) (t : DM (List Ar)) : DM Sl := bnd t fun ars => callF F ars
/-- f(e, ..) -/
theorem fCall {F : DF} {t : DM (List Ar)} {k : Nat} {f : Addr} {fd : FuncData} {ps : List Str} (tk : Takes X W) (hF : FnOk X.prog X.w X.K X.mg X.base (L2.CX X.prog X.w) k f fd ps (SpF X.K ct F)) (hr : Room k X.A) (hm : X.mg x = some (.ref f)) (hk : PySem.W.keepIn X.K (.ref f) = true) (hb : Binds X.K fd ps [])
    (ha : PAD X ct W (e :: es) t) (hg : Gl X x := by rfl) (hdb : (x == ("__debug__" : Str)) = false := by decide) (he : starEach (e :: es) X.env = (false, eval e X.env) :: starEach es X.env := by rfl) (hpl : (backTo pos (starEach es X.env)).any (·.1) = false := by rfl) :
    PEF X ct W (.Call (.Name x p) (e :: es) [] pos) (callA F t) := by
  refine weakE (pe_callS hF hr hg hm hk hb (fun σ => passAt tk σ) ha hdb he hpl) fun σ H Q q => ?_
  obtain ⟨Φ, G, ρ, E, q⟩ := q
  refine ⟨Φ, G, ρ, E, (Post.bnd q).imp fun ars ρ1 G1 H1 s1 E1 q1 vs rs => ?_⟩
  exact call_post E1 q1.2 rs fun sl ρ' G' H' s E' kk v rv => kk v rv
end
end FD

set_option Elab.async false
set_option linter.all false
set_option maxRecDepth 100000
namespace FD
open PySem L2

/-! ### a def's body and its promise -/
def outs : List Sl → List Sl → List Sl
  | .pn _ :: as, s :: ρ => s :: outs as ρ
  | a :: as, _ :: ρ => a :: outs as ρ
  | as, _ => as
def noOw : List Sl → Bool
  | [] => true
  | .sh _ :: r => noOw r
  | .pn _ :: r => noOw r
  | _ => false
def runF (n m : Nat) (T : DM Fl) : DF := fun as => if as.length = n ∧ noOw as = true then (match T (as ++ List.replicate (m - n) .un) with
  | some (.ok (.rt sl) ρ') => some (.ok sl (outs as ρ'))
  | some (.ok .nx ρ') => some (.ok (.sh .non) (outs as ρ'))
  | some (.ex x ρ') => some (.ex x (outs as ρ'))
  | _ => none) else none
theorem outs_length : ∀ (as ρ : List Sl), (outs as ρ).length = as.length
  | [], _ => by simp [outs]
  | a :: as, [] => by cases a <;> simp [outs]
  | a :: as, s :: ρ => by cases a <;> simp [outs, outs_length as ρ]
theorem outs_pn : ∀ (as ρ : List Sl) (i : Nat) (d : D) (s : Sl), as[i]? = some (.pn d) → ρ[i]? = some s → (outs as ρ)[i]? = some s
  | [], _, _, _, _, h, _ => by simp at h
  | _ :: _, [], _, _, _, _, h => by simp at h
  | a :: as, s0 :: ρ, 0, d, s, h1, h2 => by cases h1; cases h2; rfl
  | a :: as, s0 :: ρ, i + 1, d, s, h1, h2 => by
    have ih := outs_pn as ρ i d s (by simpa using h1) (by simpa using h2)
    cases a <;> simpa [outs] using ih
theorem outs_sh : ∀ (as ρ : List Sl) (i : Nat) (a : Sl), as[i]? = some a → (∀ d, a ≠ .pn d) → (outs as ρ)[i]? = some a
  | [], _, _, _, h, _ => by simp at h
  | a :: as, [], i, b, h, _ => by cases a <;> simpa [outs] using h
  | a :: as, s0 :: ρ, 0, b, h1, h2 => by
    cases h1
    cases a with
    | pn d => exact absurd rfl (h2 d)
    | _ => rfl
  | a :: as, s0 :: ρ, i + 1, b, h1, h2 => by
    have ih := outs_sh as ρ i b (by simpa using h1) h2
    cases a <;> simpa [outs] using ih
theorem noOw_get : ∀ (as : List Sl) (i : Nat) (s : Sl), noOw as = true → as[i]? = some s → (∃ d, s = .sh d) ∨ ∃ d, s = .pn d
  | [], _, _, _, h => by simp at h
  | a :: as, 0, s, h1, h2 => by
    cases h2
    cases a with
    | sh d => exact .inl ⟨d, rfl⟩
    | pn d => exact .inr ⟨d, rfl⟩
    | un => cases h1
    | ow d => cases h1
  | a :: as, i + 1, s, h1, h2 => by
    have h1' : noOw as = true := by
      cases a with
      | sh d => exact h1
      | pn d => exact h1
      | un => cases h1
      | ow d => cases h1
    exact noOw_get as i s h1' (by simpa using h2)
section
variable {K : PySem.W.Frag} {ct : List Addr} {Φ : Fm} {G G' H H' : Hp} {σ σ' : St} {as ρ ρ' : List Sl}
theorem EnvS.pad (E : EnvS K ct Φ G H σ as) (n : Nat) : EnvS K ct Φ G H (σ ++ List.replicate n none) (as ++ List.replicate n .un) := by
  have hs : ∀ (i : Nat) (s : Sl), (as ++ List.replicate n Sl.un)[i]? = some s → s ≠ .un → as[i]? = some s := fun i s h hn => by
    by_cases hi : i < as.length
    · rwa [List.getElem?_append_left hi] at h
    · rw [List.getElem?_append_right (by omega)] at h
      have := List.mem_of_getElem? h
      rw [List.mem_replicate] at this
      exact absurd this.2 hn
  have ho : ∀ (i : Nat) (d : D), isOwn (as ++ List.replicate n Sl.un)[i]? = some d → isOwn as[i]? = some d ∧ (as ++ List.replicate n Sl.un)[i]? = as[i]? := fun i d h => by
    cases e : (as ++ List.replicate n Sl.un)[i]? with
    | none => rw [e] at h; cases h
    | some s =>
      rw [e] at h
      have := hs i s e (by intro z; subst z; cases h)
      rw [this]
      exact ⟨h, rfl⟩
  have hv : ∀ (i : Nat) (x : Option V), σ[i]? = some x → (σ ++ List.replicate n none)[i]? = some x := fun i x h => by
    rw [List.getElem?_append_left (List.getElem?_eq_some_iff.mp h).1]; exact h
  refine ⟨by simp [E.len], E.gh, E.g0, E.fr, E.dom, E.gn, fun i p h => ?_, fun i d h => ?_, fun i d h => ?_, fun i j di dj p hij hi hj ei ej => ?_⟩
  · obtain ⟨a1, d, a2⟩ := E.pin i p h
    exact ⟨hv i _ a1, d, by rw [List.getElem?_append_left (List.getElem?_eq_some_iff.mp a2).1]; exact a2⟩
  · obtain ⟨v, e1, e2⟩ := E.sh i d (hs i _ h (by simp))
    exact ⟨v, hv i _ e1, e2⟩
  · obtain ⟨h1, h2⟩ := ho i d h
    obtain ⟨p, a1, a2, a3, a4, a5⟩ := E.own i d h1
    rw [h2]
    exact ⟨p, hv i _ a1, a2, a3, a4, a5⟩
  · obtain ⟨h1, _⟩ := ho i di hi
    obtain ⟨h2, _⟩ := ho j dj hj
    obtain ⟨p1, a1, _⟩ := E.own i di h1
    obtain ⟨p2, b1, _⟩ := E.own j dj h2
    rw [hv i _ a1] at ei; cases ei
    rw [hv j _ b1] at ej; cases ej
    exact E.ne i j di dj _ hij h1 h2 a1 b1
theorem EnvS.outs (E : EnvS K ct Φ G H σ as) (hn : noOw as = true) (s : Same G G') (E' : EnvS K ct Φ G' H' σ' ρ') : EnvS K ct Φ G' H' σ (outs as ρ') := by
  have hp : ∀ (i : Nat) (d : D), as[i]? = some (.pn d) → ∃ p d', (i, p) ∈ Φ.pins ∧ σ[i]? = some (some (.ref p)) ∧ σ'[i]? = some (some (.ref p)) ∧ ρ'[i]? = some (.pn d') ∧ (FD.outs as ρ')[i]? = some (.pn d') := fun i d h => by
    obtain ⟨p, a1, a2, a3, a4, a5⟩ := E.own i d (by rw [h]; rfl)
    obtain ⟨b1, d', b2⟩ := E'.pin i p (a4 h)
    exact ⟨p, d', a4 h, a1, b1, b2, outs_pn as ρ' i d _ h b2⟩
  have hc : ∀ (i : Nat) (s : Sl), (FD.outs as ρ')[i]? = some s → (∃ d, as[i]? = some (.sh d) ∧ s = .sh d) ∨ ∃ d, as[i]? = some (.pn d) := fun i s h => by
    have hi : i < as.length := by
      have := (List.getElem?_eq_some_iff.mp h).1
      rwa [outs_length] at this
    rcases noOw_get as i _ hn (List.getElem?_eq_getElem hi) with ⟨d, e⟩ | ⟨d, e⟩
    · have e2 : as[i]? = some (.sh d) := by rw [List.getElem?_eq_getElem hi, e]
      have := outs_sh as ρ' i _ e2 (by simp)
      rw [this] at h; cases h
      exact .inl ⟨d, e2, rfl⟩
    · exact .inr ⟨d, by rw [List.getElem?_eq_getElem hi, e]⟩
  have ho : ∀ (i : Nat) (d : D), isOwn (FD.outs as ρ')[i]? = some d → ∃ d0, as[i]? = some (.pn d0) := fun i d h => by
    cases e : (FD.outs as ρ')[i]? with
    | none => rw [e] at h; cases h
    | some s =>
      rcases hc i s e with ⟨d1, _, e2⟩ | z
      · rw [e, e2] at h; cases h
      · exact z
  refine ⟨by rw [outs_length]; exact E.len, E'.gh, E'.g0, E'.fr, E'.dom, E'.gn, fun i p h => ?_, fun i d h => ?_, fun i d h => ?_, fun i j di dj p hij hi hj ei ej => ?_⟩
  · obtain ⟨a1, d, a2⟩ := E.pin i p h
    obtain ⟨p', d', _, _, _, _, b5⟩ := hp i d a2
    exact ⟨a1, d', b5⟩
  · rcases hc i _ h with ⟨d1, e1, e2⟩ | ⟨d1, e1⟩
    · cases e2
      obtain ⟨v, c1, c2⟩ := E.sh i d e1
      exact ⟨v, c1, c2.mono s⟩
    · obtain ⟨_, _, _, _, _, _, b5⟩ := hp i d1 e1
      rw [b5] at h; cases h
  · obtain ⟨d0, e0⟩ := ho i d h
    obtain ⟨p, d', b1, b2, b3, b4, b5⟩ := hp i d0 e0
    rw [b5] at h ⊢
    cases h
    obtain ⟨p', c1, c2, c3, c4, c5⟩ := E'.own i d (by rw [b4]; rfl)
    rw [b3] at c1; cases c1
    exact ⟨p, b2, c2, c3, (fun _ => b1), (fun z => by cases z)⟩
  · obtain ⟨d0, e0⟩ := ho i di hi
    obtain ⟨d1, e1⟩ := ho j dj hj
    exact E.ne i j d0 d1 p hij (by rw [e0]; rfl) (by rw [e1]; rfl) ei ej
theorem RF.outs (E : EnvS K ct Φ G H σ as) (hn : noOw as = true) (E' : EnvS K ct Φ G' H' σ' ρ') {v : V} {sl : Sl} (r : RF K ct Φ G' H' σ' ρ' v sl) : RF K ct Φ G' H' σ (outs as ρ') v sl := by
  cases sl with
  | un => exact r.elim
  | pn d => exact r.elim
  | sh d => exact r
  | ow d =>
    obtain ⟨p, rfl, h1, h2, h3, h4⟩ := r
    refine ⟨p, rfl, h1, h2, h3, fun i d' hi ei => ?_⟩
    cases e : (FD.outs as ρ')[i]? with
    | none => rw [e] at hi; cases hi
    | some s =>
      have hl : i < as.length := by
        have := (List.getElem?_eq_some_iff.mp e).1
        rwa [outs_length] at this
      rcases noOw_get as i _ hn (List.getElem?_eq_getElem hl) with ⟨d1, e1⟩ | ⟨d1, e1⟩
      · have := outs_sh as ρ' i (.sh d1) (by rw [List.getElem?_eq_getElem hl, e1]) (by simp)
        rw [this] at hi; cases hi
      · have e2 : as[i]? = some (.pn d1) := by rw [List.getElem?_eq_getElem hl, e1]
        obtain ⟨q, a1, a2, a3, a4, a5⟩ := E.own i d1 (by rw [e2]; rfl)
        rw [ei] at a1; cases a1
        obtain ⟨b1, d2, b2⟩ := E'.pin i p (a4 e2)
        exact h4 i d2 (by rw [b2]; rfl) b1
end
theorem spf_len {K : PySem.W.Frag} {ct : List Addr} {N ps : List Str} {T : DM Fl} {vs : List V} {H : Hp} {Q : VK} {E : XK} (h : SpF K ct (runF ps.length N.length T) vs H Q E) : vs.length = ps.length := by
  obtain ⟨Φ, G, as, En, q⟩ := h
  unfold runF at q
  split at q
  · rename_i hl
    have := En.len
    rw [List.length_map] at this
    rw [← this]; exact hl.1
  · exact q.elim
theorem spf_start {K : PySem.W.Frag} {ct : List Addr} {N ps : List Str} {T : DM Fl} {vs : List V} {H : Hp} {Q : VK} {E : XK} (h : SpF K ct (runF ps.length N.length T) vs H Q E) :
    tS K ct (fun c d _ H' => E c d H') T { nx := fun _ H' => Q .non H', rt := Q } (L2.start N vs) H := by
  have hlen := spf_len h
  obtain ⟨Φ, G, as, En, q⟩ := h
  unfold runF at q
  split at q
  · rename_i hl
    refine ⟨Φ, G, as ++ List.replicate (N.length - ps.length) .un, ?_, ?_⟩
    · unfold L2.start
      rw [hlen]
      exact En.pad _
    · cases e : T (as ++ List.replicate (N.length - ps.length) .un) with
      | none => rw [e] at q; exact q.elim
      | some o =>
        rw [e] at q
        cases o with
        | ex z ρ' => exact fun σ' G' H' c dx s' E' rx => q G' H' c dx s' (En.outs hl.2 s' E') rx
        | ok fl ρ' =>
          cases fl with
          | nx => exact fun σ' G' H' s' E' => q G' H' s' (En.outs hl.2 s' E') .non R.non
          | rt sl => exact fun σ' G' H' s' E' v rv => q G' H' s' (En.outs hl.2 s' E') v (RF.outs En hl.2 E' rv)
          | bk => exact q.elim
          | ct => exact q.elim
  · exact q.elim
theorem fn_d {P : Program} {w : World} {K : PySem.W.Frag} {mg : Str → Option Value} {base : Heap} {ct : List Addr} {x qual : Str} {st : Stmt} {f : Addr} {fd : FuncData} {N ps : List Str} {k : Nat} {T : DM Fl} (F : Fun K x qual st f fd) (S : FnScope N ps (defScope st))
    (hbody : ∀ (cdv : Value) (A : Around) (outer : List Env) (s : Shared) (H : Hp) (E : XK), Room k (A.deeper (PyProof.Rows.envOfC qual (defScope st) s.heap.objs.size f cdv)) →
      PSsD (cxOf (L2.CX P w) P w K mg base N qual (defScope st) f cdv A outer s H E) ct (fun c d _ H' => E c d H') (defBody st) T) :
    FnOk P w K mg base (L2.CX P w) (k + 1) f fd ps (SpF K ct (runF ps.length N.length T)) :=
  F.okX S (fun _ _ _ _ h => spf_len h) fun cdv A outer s H _ _ E hr h => ⟨_, hbody cdv A outer s H E hr, spf_start h⟩
end FD

set_option Elab.async false
set_option linter.all false
set_option maxRecDepth 100000
namespace FD
open PySem L2

/-! ### another entry -/
def pin1 : Sl → Sl
  | .ow d => .pn d
  | s => s
def pinAll (ρ : List Sl) : List Sl := ρ.map pin1
def un1 : Sl → Sl → Sl
  | .ow _, .pn d => .ow d
  | _, s => s
def unpin : List Sl → List Sl → List Sl
  | s :: r, s' :: r' => un1 s s' :: unpin r r'
  | _, r' => r'
def pinsOf (σ : St) (ρ : List Sl) : List (Nat × Addr) := (List.range ρ.length).filterMap fun (i : Nat) => match isOwn (ρ[i]? : Option Sl), (σ[i]? : Option (Option V)) with
  | some _, some (some (.ref p)) => some (i, p)
  | _, _ => none
theorem mem_pinsOf {σ : St} {ρ : List Sl} {i : Nat} {p : Addr} : (i, p) ∈ pinsOf σ ρ ↔ (∃ d, isOwn ρ[i]? = some d) ∧ σ[i]? = some (some (.ref p)) := by
  unfold pinsOf
  rw [List.mem_filterMap]
  constructor
  · rintro ⟨k, hk, e⟩
    split at e
    · rename_i d p' h1 h2
      cases e
      exact ⟨⟨d, h1⟩, h2⟩
    · cases e
  · rintro ⟨⟨d, h1⟩, h2⟩
    refine ⟨i, ?_, by rw [h1, h2]⟩
    rw [List.mem_range]
    cases z : ρ[i]? with
    | none => rw [z] at h1; cases h1
    | some s => exact (List.getElem?_eq_some_iff.mp z).1
theorem pinAll_get (ρ : List Sl) (i : Nat) : (pinAll ρ)[i]? = ρ[i]?.map pin1 := List.getElem?_map
theorem pinAll_own (ρ : List Sl) (i : Nat) : isOwn (pinAll ρ)[i]? = isOwn ρ[i]? := by
  rw [pinAll_get]
  cases ρ[i]? with
  | none => rfl
  | some s => cases s <;> rfl
theorem unpin_get : ∀ (ρ ρ' : List Sl) (i : Nat), (unpin ρ ρ')[i]? = match (ρ[i]? : Option Sl), (ρ'[i]? : Option Sl) with
    | some s, some s' => some (un1 s s')
    | _, x => x
  | [], ρ', i => by simp [unpin]
  | s :: r, [], i => by simp [unpin]
  | s :: r, s' :: r', 0 => rfl
  | s :: r, s' :: r', i + 1 => by
    simp only [unpin, List.getElem?_cons_succ]
    exact unpin_get r r' i
theorem unpin_length : ∀ (ρ ρ' : List Sl), (unpin ρ ρ').length = ρ'.length
  | [], ρ' => by simp [unpin]
  | s :: r, [] => by simp [unpin]
  | s :: r, s' :: r' => by simp [unpin, unpin_length r r']
section
variable {K : PySem.W.Frag} {ct : List Addr} {Φ : Fm} {G G' H H' : Hp} {σ σ' : St} {ρ ρ' : List Sl} {p : Addr} {o : HO}
theorem EnvS.rebase (E : EnvS K ct Φ G H σ ρ) : EnvS K ct ⟨H, G, pinsOf σ ρ⟩ G H σ (pinAll ρ) := by
  have hpn : ∀ (i : Nat) (d : D), isOwn (pinAll ρ)[i]? = some d → (pinAll ρ)[i]? = some (.pn d) ∧ isOwn ρ[i]? = some d := fun i d h => by
    rw [pinAll_own] at h
    refine ⟨?_, h⟩
    rw [pinAll_get]
    cases e : ρ[i]? with
    | none => rw [e] at h; cases h
    | some s => rw [e] at h; cases s <;> cases h <;> rfl
  refine ⟨by rw [pinAll, List.length_map]; exact E.len, E.gh, Same.refl _, fun b o h _ => h, fun b o h => ⟨o, h⟩, fun b o _ h => h, fun i p h => ?_, fun i d h => ?_, fun i d h => ?_, fun i j di dj p hij hi hj ei ej => ?_⟩
  · obtain ⟨⟨d, h1⟩, h2⟩ := mem_pinsOf.mp h
    exact ⟨h2, d, (hpn i d (by rw [pinAll_own]; exact h1)).1⟩
  · rw [pinAll_get] at h
    refine E.sh i d ?_
    cases e : ρ[i]? with
    | none => rw [e] at h; cases h
    | some s => rw [e] at h; cases s <;> cases h <;> rfl
  · obtain ⟨h1, h2⟩ := hpn i d h
    obtain ⟨p, a1, a2, a3, _⟩ := E.own i d h2
    exact ⟨p, a1, a2, a3, (fun _ => mem_pinsOf.mpr ⟨⟨d, h2⟩, a1⟩), (fun z => by rw [h1] at z; cases z)⟩
  · exact E.ne i j di dj p hij (hpn i di hi).2 (hpn j dj hj).2 ei ej
theorem EnvS.unbase (E : EnvS K ct Φ G H σ ρ) (s : Same G G') (E' : EnvS K ct ⟨H, G, pinsOf σ ρ⟩ G' H' σ' ρ') : EnvS K ct Φ G' H' σ' (unpin ρ ρ') := by
  have ho : ∀ (i : Nat) (d : D), isOwn (unpin ρ ρ')[i]? = some d → isOwn ρ'[i]? = some d := fun i d h => by
    rw [unpin_get] at h
    cases e1 : ρ[i]? with
    | none => rw [e1] at h; exact h
    | some a =>
      cases e2 : ρ'[i]? with
      | none => rw [e1, e2] at h; cases h
      | some b => rw [e1, e2] at h; cases a <;> cases b <;> first | exact h | (cases h; done)
  -- an owned slot of ρ stands as it stood
  have st : ∀ (i : Nat) (d : D), isOwn ρ[i]? = some d → ∃ p d', σ[i]? = some (some (.ref p)) ∧ σ'[i]? = some (some (.ref p)) ∧ ρ'[i]? = some (.pn d') := fun i d h => by
    obtain ⟨p, a1, _⟩ := E.own i d h
    obtain ⟨b1, d', b2⟩ := E'.pin i p (mem_pinsOf.mpr ⟨⟨d, h⟩, a1⟩)
    exact ⟨p, d', a1, b1, b2⟩
  refine ⟨by rw [unpin_length]; exact E'.len, E'.gh, E.g0.trans s, fun b x h1 h2 => ?_, fun b x h1 => ?_, fun b x h1 h2 => ?_, fun i p h => ?_, fun i d h => ?_, fun i d h => ?_, fun i j di dj p hij hi hj ei ej => ?_⟩
  · refine E'.fr b x (E.fr b x h1 h2) fun i hi => ?_
    obtain ⟨⟨d, g1⟩, g2⟩ := mem_pinsOf.mp hi
    obtain ⟨q, a1, _, _, a4, a5⟩ := E.own i d g1
    rw [g2] at a1; cases a1
    cases e : ρ[i]? with
    | none => rw [e] at g1; cases g1
    | some sl =>
      rw [e] at g1 a4 a5
      cases sl <;> cases g1
      · have := a5 rfl; rw [this] at h1; cases h1
      · exact h2 i (a4 rfl)
  · obtain ⟨o', e⟩ := E.dom b x h1
    exact E'.dom b o' e
  · obtain ⟨o', e⟩ := E.dom b x h1
    exact E'.gn b o' e (E.gn b x h1 h2)
  · obtain ⟨a1, d, a2⟩ := E.pin i p h
    obtain ⟨q, d', b1, b2, b3⟩ := st i d (by rw [a2]; rfl)
    rw [a1] at b1; cases b1
    refine ⟨b2, d', ?_⟩
    rw [unpin_get, a2, b3]; rfl
  · rw [unpin_get] at h
    refine E'.sh i d ?_
    cases e1 : ρ[i]? with
    | none => rw [e1] at h; exact h
    | some a =>
      cases e2 : ρ'[i]? with
      | none => rw [e1, e2] at h; cases h
      | some b => rw [e1, e2] at h; cases a <;> cases b <;> first | exact h | (cases h; done)
  · have h' := ho i d h
    obtain ⟨q, c1, c2, c3, c4, c5⟩ := E'.own i d h'
    refine ⟨q, c1, c2, c3, fun z => ?_, fun z => ?_⟩
    · rw [unpin_get] at z
      cases e1 : ρ[i]? with
      | none =>
        rw [e1] at z
        obtain ⟨⟨d0, g1⟩, g2⟩ := mem_pinsOf.mp (c4 z)
        rw [e1] at g1; cases g1
      | some a =>
        cases e2 : ρ'[i]? with
        | none => rw [e1, e2] at z; cases z
        | some b =>
          rw [e1, e2] at z
          have hb : b = .pn d := by cases a <;> cases b <;> first | (cases z; rfl) | (cases z; done)
          subst hb
          obtain ⟨⟨d0, g1⟩, g2⟩ := mem_pinsOf.mp (c4 e2)
          obtain ⟨q', f1, _, _, f4, f5⟩ := E.own i d0 g1
          rw [g2] at f1; cases f1
          cases a with
          | ow d1 => cases z
          | pn d1 => rw [e1] at g1 f4; cases g1; exact f4 rfl
          | un => rw [e1] at g1; cases g1
          | sh d1 => rw [e1] at g1; cases g1
    · rw [unpin_get] at z
      cases e1 : ρ[i]? with
      | none =>
        rw [e1] at z
        have := c5 z
        cases e : Φ.H q with
        | none => rfl
        | some x => obtain ⟨o', y⟩ := E.dom q x e; rw [show H q = none from this] at y; cases y
      | some a =>
        cases e2 : ρ'[i]? with
        | none => rw [e1, e2] at z; cases z
        | some b =>
          rw [e1, e2] at z
          cases b with
          | ow d2 =>
            have : H q = none := c5 (by rw [e2] at h' ⊢; cases h'; rfl)
            cases e : Φ.H q with
            | none => rfl
            | some x => obtain ⟨o', y⟩ := E.dom q x e; rw [this] at y; cases y
          | pn d2 =>
            cases a with
            | ow d1 =>
              obtain ⟨p1, f1, _, _, _, f5⟩ := E.own i d1 (by rw [e1]; rfl)
              obtain ⟨p2, d', g1, g2, g3⟩ := st i d1 (by rw [e1]; rfl)
              rw [f1] at g1; cases g1
              rw [c1] at g2; cases g2
              exact f5 e1
            | un => cases z
            | sh d1 => cases z
            | pn d1 => cases z
          | un => cases a <;> cases z
          | sh d2 => cases a <;> cases z
  · exact E'.ne i j di dj p hij (ho i di hi) (ho j dj hj) ei ej
/-- a thing that nobody knows yet is changed -/
theorem EnvS.poke (E : EnvS K ct Φ G H σ ρ) (g : G p = none) (f : Φ.H p = none) (n : ∀ (j : Nat) (d' : D), isOwn ρ[j]? = some d' → σ[j]? ≠ some (some (.ref p))) : EnvS K ct Φ G (upd H p o) σ ρ := by
  refine ⟨E.len, fun b x e => ?_, E.g0, fun b x h1 h2 => ?_, fun b x h1 => ?_, E.gn, E.pin, E.sh, fun i d h => ?_, E.ne⟩
  · have hb : b ≠ p := fun z => by rw [z, g] at e; cases e
    rw [upd_ne hb]; exact E.gh b x e
  · have hb : b ≠ p := fun z => by rw [z, f] at h1; cases h1
    rw [upd_ne hb]; exact E.fr b x h1 h2
  · have hb : b ≠ p := fun z => by rw [z, f] at h1; cases h1
    rw [upd_ne hb]; exact E.dom b x h1
  · obtain ⟨q, a1, a2, a3, a4, a5⟩ := E.own i d h
    have hq : q ≠ p := fun z => n i d h (by rw [a1, z])
    exact ⟨q, a1, a2, a3.mono (Same.refl _) (upd_ne hq), a4, a5⟩
end
/-- run with all that is owned held fast -/
def prot {α : Type} (t : DM α) : DM α := fun ρ => match t (pinAll ρ) with
  | some (.ok a ρ') => some (.ok a (unpin ρ ρ'))
  | some (.ex x ρ') => some (.ex x (unpin ρ ρ'))
  | none => none

/-! ### several values, some of them new -/
def RFs (K : PySem.W.Frag) (ct : List Addr) (Φ : Fm) (G H : Hp) (σ : St) (ρ : List Sl) : List V → List Sl → Prop
  | [], [] => True
  | v :: vs, sl :: sls => RF K ct Φ G H σ ρ v sl ∧ RFs K ct Φ G H σ ρ vs sls ∧ ∀ d, sl = .ow d → ∀ (k : Nat) (d' : D), sls[k]? = some (.ow d') → vs[k]? ≠ some v
  | _, _ => False
def tFs (K : PySem.W.Frag) (ct : List Addr) (W : WX) (t : DM (List Sl)) : TA := fun σ H Q => ∃ Φ G ρ, EnvS K ct Φ G H σ ρ ∧ Post K ct Φ W σ G (t ρ) (fun sls ρ' G' H' => ∀ vs, RFs K ct Φ G' H' σ ρ' vs sls → Q vs H')
abbrev PFs (X : Cx) (ct : List Addr) (W : WX) (es : List Expr) (t : DM (List Sl)) : Prop := PA X es (tFs X.K ct W t)
section
variable {K : PySem.W.Frag} {ct : List Addr} {Φ : Fm} {W : WX} {G G' H H' : Hp} {σ σ' : St} {ρ ρ' : List Sl} {v : V} {sl : Sl} {α : Type}
/-- a new thing outlives what runs with everything held fast -/
theorem RF.over (E : EnvS K ct Φ G H σ ρ) (r : RF K ct Φ G H σ ρ v sl) (s : Same G G') (E' : EnvS K ct ⟨H, G, pinsOf σ ρ⟩ G' H' σ ρ') : RF K ct Φ G' H' σ (unpin ρ ρ') v sl := by
  cases sl with
  | un => exact r.elim
  | pn d => exact r.elim
  | sh d => exact R.mono s r
  | ow d =>
    obtain ⟨p, rfl, h1, h2, h3, h4⟩ := r
    obtain ⟨o, ho⟩ := h2.there
    have np : ∀ i, (i, p) ∉ pinsOf σ ρ := fun i hi => by
      obtain ⟨⟨d0, g1⟩, g2⟩ := mem_pinsOf.mp hi
      exact h4 i d0 g1 g2
    refine ⟨p, rfl, E'.gn p o ho h1, h2.mono s ((E'.fr p o ho np).trans ho.symm), h3, fun i d' hi ei => ?_⟩
    have hi' : isOwn ρ'[i]? = some d' := by
      rw [unpin_get] at hi
      cases e1 : ρ[i]? with
      | none => rw [e1] at hi; exact hi
      | some a =>
        cases e2 : ρ'[i]? with
        | none => rw [e1, e2] at hi; cases hi
        | some b => rw [e1, e2] at hi; cases a <;> cases b <;> first | exact hi | (cases hi; done)
    obtain ⟨q, c1, c2, c3, c4, c5⟩ := E'.own i d' hi'
    rw [ei] at c1; cases c1
    cases e2 : ρ'[i]? with
    | none => rw [e2] at hi'; cases hi'
    | some b =>
      rw [e2] at hi' c4 c5
      cases b with
      | ow d2 => cases hi'; have : H p = none := c5 rfl; rw [ho] at this; cases this
      | pn d2 => cases hi'; exact np i (c4 rfl)
      | un => cases hi'
      | sh d2 => cases hi'
theorem RF.base (E : EnvS K ct Φ G H σ ρ) (r : RF K ct ⟨H, G, pinsOf σ ρ⟩ G' H' σ ρ' v sl) : RF K ct Φ G' H' σ (unpin ρ ρ') v sl := by
  cases sl with
  | un => exact r.elim
  | pn d => exact r.elim
  | sh d => exact r
  | ow d =>
    obtain ⟨p, rfl, h1, h2, h3, h4⟩ := r
    have h3' : H p = none := h3
    refine ⟨p, rfl, h1, h2, ?_, fun i d' hi ei => ?_⟩
    · cases e : Φ.H p with
      | none => rfl
      | some x => obtain ⟨o', y⟩ := E.dom p x e; rw [h3'] at y; cases y
    · refine h4 i d' ?_ ei
      rw [unpin_get] at hi
      cases e1 : ρ[i]? with
      | none => rw [e1] at hi; exact hi
      | some a =>
        cases e2 : ρ'[i]? with
        | none => rw [e1, e2] at hi; cases hi
        | some b => rw [e1, e2] at hi; cases a <;> cases b <;> first | exact hi | (cases hi; done)
theorem prot_post {t : DM α} {k : α → List Sl → Hp → Hp → Prop} (E : EnvS K ct Φ G H σ ρ) (h : Post K ct Φ W σ G (prot t ρ) k) :
    Post K ct ⟨H, G, pinsOf σ ρ⟩ W σ G (t (pinAll ρ)) (fun a ρ' G' H' => Same G G' ∧ EnvS K ct ⟨H, G, pinsOf σ ρ⟩ G' H' σ ρ' ∧ EnvS K ct Φ G' H' σ (unpin ρ ρ') ∧ k a (unpin ρ ρ') G' H') := by
  unfold prot at h
  cases e : t (pinAll ρ) with
  | none => rw [e] at h; exact h
  | some o =>
    rw [e] at h
    cases o with
    | ok a ρ' => exact fun G2 H2 s2 E2 => ⟨s2, E2, E.unbase s2 E2, h G2 H2 s2 (E.unbase s2 E2)⟩
    | ex x ρ' => exact fun G2 H2 c dx s2 E2 rx => h G2 H2 c dx s2 (E.unbase s2 E2) rx
end
def fsCons (t : DM Sl) (r : DM (List Sl)) : DM (List Sl) := bnd t fun sl => bnd (prot r) fun sls => ret (sl :: sls)
section
variable {X : Cx} {ct : List Addr} {W : WX} {e : Expr} {es : List Expr} {pos : Pos}
theorem nNil : PFs X ct W [] (ret []) := by
  refine weakA pa_nil fun σ H Q q => ?_
  obtain ⟨Φ, G, ρ, E, q⟩ := q
  exact q G H (Same.refl _) E [] trivial
theorem RFs.base {K : PySem.W.Frag} {ct : List Addr} {Φ : Fm} {G G' H H' : Hp} {σ : St} {ρ ρ' : List Sl} (E : EnvS K ct Φ G H σ ρ) : ∀ {vs : List V} {sls : List Sl}, RFs K ct ⟨H, G, pinsOf σ ρ⟩ G' H' σ ρ' vs sls → RFs K ct Φ G' H' σ (unpin ρ ρ') vs sls
  | [], [], _ => trivial
  | v :: vs, sl :: sls, h => ⟨RF.base E h.1, RFs.base E h.2.1, h.2.2⟩
  | [], _ :: _, h => h.elim
  | _ :: _, [], h => h.elim
theorem RFs.fresh {K : PySem.W.Frag} {ct : List Addr} {Φ : Fm} {G H : Hp} {σ : St} {ρ : List Sl} : ∀ {vs : List V} {sls : List Sl}, RFs K ct Φ G H σ ρ vs sls → ∀ (k : Nat) (d : D) (v : V), sls[k]? = some (.ow d) → vs[k]? = some v → RF K ct Φ G H σ ρ v (.ow d)
  | [], [], _, k, d, v, e, _ => by simp at e
  | v0 :: vs, sl :: sls, h, 0, d, v, e1, e2 => by
    have e1' : sl = .ow d := by simpa using e1
    have e2' : v0 = v := by simpa using e2
    subst e1' e2'
    exact h.1
  | v0 :: vs, sl :: sls, h, k + 1, d, v, e1, e2 => RFs.fresh h.2.1 k d v (by simpa using e1) (by simpa using e2)
  | [], _ :: _, h, _, _, _, _, _ => h.elim
  | _ :: _, [], h, _, _, _, _, _ => h.elim
theorem nCons {t : DM Sl} {r : DM (List Sl)} (h : PEF X ct W e t) (hr : PFs X ct W es r) (hs : starEach (e :: es) X.env = (false, eval e X.env) :: starEach es X.env := by rfl) : PFs X ct W (e :: es) (fsCons t r) := by
  refine weakA (pa_cons h hr hs) fun σ H Q q => ?_
  obtain ⟨Φ, G, ρ, E, q⟩ := q
  refine ⟨Φ, G, ρ, E, (Post.bnd q).imp fun sl ρ1 G1 H1 s1 E1 q1 v1 r1 => ?_⟩
  refine ⟨_, G1, pinAll ρ1, E1.rebase, (prot_post E1 (Post.bnd q1.2)).imp fun sls ρ2 G2 H2 s2 E2 q2 vs r2 => ?_⟩
  obtain ⟨s3, E3, E4, _, q3⟩ := q2
  refine q3 G2 H2 (Same.refl _) E4 (v1 :: vs) ⟨RF.over E1 r1 s3 E3, RFs.base E1 r2, fun d ed k d' ek ev => ?_⟩
  subst ed
  obtain ⟨p, rfl, _, h2, _⟩ := r1
  obtain ⟨o, ho⟩ := h2.there
  obtain ⟨p', e', _, _, h3, _⟩ := RFs.fresh r2 k d' _ ek ev
  cases e'
  have : H1 p = none := h3
  rw [ho] at this; cases this
/-- a, b = x, y -/
def setSls : List Nat → List Sl → List Sl → Option (List Sl)
  | [], [], ρ => some ρ
  | i :: is, sl :: sls, ρ => (setSl i sl ρ).bind (setSls is sls)
  | _, _, _ => none
def parM (is : List Nat) (t : DM (List Sl)) : DM Fl := bnd t fun sls ρ => match setSls is sls ρ with
  | some ρ' => some (.ok .nx ρ')
  | none => none
end
section
variable {K : PySem.W.Frag} {ct : List Addr} {Φ : Fm} {G H : Hp} {σ : St} {ρ ρ' : List Sl}
theorem RF.set {v v' : V} {sl sl' : Sl} {i : Nat} (r : RF K ct Φ G H σ ρ v sl) (r' : RF K ct Φ G H σ ρ v' sl') (e : setSl i sl ρ = some ρ') (ne : ∀ d d', sl = .ow d → sl' = .ow d' → v' ≠ v) : RF K ct Φ G H (σ.set i (some v)) ρ' v' sl' := by
  have hi : i < ρ.length ∧ ρ' = ρ.set i sl ∧ (∀ d, sl ≠ .pn d) := by
    unfold setSl at e
    cases h : ρ[i]? with
    | none => rw [h] at e; cases e
    | some s0 =>
      rw [h] at e
      have := (List.getElem?_eq_some_iff.mp h).1
      cases s0 <;> cases sl <;> first | (cases e; done) | (cases e; exact ⟨this, rfl, by simp⟩)
  obtain ⟨hl, rfl, hp⟩ := hi
  cases sl' with
  | un => exact r'.elim
  | pn d => exact r'.elim
  | sh d => exact r'
  | ow d =>
    obtain ⟨p, rfl, h1, h2, h3, h4⟩ := r'
    refine ⟨p, rfl, h1, h2, h3, fun j d' hj ej => ?_⟩
    by_cases hij : i = j
    · subst hij
      rw [List.getElem?_set_self hl] at hj
      cases sl with
      | ow d1 =>
        have hv : v = .ref p := by
          have hl2 : i < σ.length := by
            rcases Nat.lt_or_ge i σ.length with z | z
            · exact z
            · rw [List.getElem?_eq_none (by simpa using z)] at ej; cases ej
          rw [List.getElem?_set_self hl2] at ej
          cases ej; rfl
        exact ne d1 d rfl rfl hv.symm
      | pn d1 => exact absurd rfl (hp d1)
      | un => cases hj
      | sh d1 => cases hj
    · rw [List.getElem?_set_ne hij] at hj ej
      exact h4 j d' hj ej
theorem RFs.set {v : V} {sl : Sl} {i : Nat} (r : RF K ct Φ G H σ ρ v sl) (e : setSl i sl ρ = some ρ') : ∀ {vs : List V} {sls : List Sl}, RFs K ct Φ G H σ ρ vs sls → (∀ d, sl = .ow d → ∀ (k : Nat) (d' : D), sls[k]? = some (.ow d') → vs[k]? ≠ some v) → RFs K ct Φ G H (σ.set i (some v)) ρ' vs sls
  | [], [], _, _ => trivial
  | w :: vs, s :: sls, h, hn => ⟨RF.set r h.1 e (fun d d' e1 e2 ev => hn d e1 0 d' (by rw [e2]; rfl) (by rw [ev]; rfl)), RFs.set r e h.2.1 (fun d ed k d' e1 => hn d ed (k + 1) d' (by simpa using e1)), h.2.2⟩
  | [], _ :: _, h, _ => h.elim
  | _ :: _, [], h, _ => h.elim
/-- the values stored, one after another -/
def setAll : List Nat → List V → St → St
  | i :: is, v :: vs, σ => setAll is vs (σ.set i (some v))
  | _, _, σ => σ
theorem EnvS.setAll : ∀ {is : List Nat} {vs : List V} {sls : List Sl} {σ : St} {ρ ρ' : List Sl}, EnvS K ct Φ G H σ ρ → RFs K ct Φ G H σ ρ vs sls → setSls is sls ρ = some ρ' → EnvS K ct Φ G H (setAll is vs σ) ρ' ∧ vs.length = is.length
  | [], [], [], σ, ρ, ρ', E, _, e => by cases e; exact ⟨E, rfl⟩
  | i :: is, v :: vs, sl :: sls, σ, ρ, ρ', E, r, e => by
    simp only [setSls, Option.bind_eq_some_iff] at e
    obtain ⟨ρ1, e1, e2⟩ := e
    obtain ⟨h1, h2⟩ := EnvS.setAll (E.set r.1 e1) (RFs.set r.1 e1 r.2.1 r.2.2) e2
    exact ⟨h1, by simp [h2]⟩
  | [], _ :: _, _ :: _, _, _, _, _, _, e => by cases e
  | i :: is, [], [], _, _, _, _, _, e => by cases e
  | _, [], _ :: _, _, _, _, _, r, _ => r.elim
  | _, _ :: _, [], _, _, _, _, r, _ => r.elim
end
section
variable {X : Cx} {ct : List Addr} {W : WX} {pos : Pos}
theorem sPar2 (i j : Nat) {x y : Str} {a b : Expr} {t : DM (List Sl)} {px py pt pt2 : Pos} {kt k2 : Nat} (hc : X.calm = true) (hN : X.N.Nodup) (ha : PFs X ct W [a, b] t) (hi : X.N[i]? = some x := by rfl) (hj : X.N[j]? = some y := by rfl) (hij : i ≠ j := by decide)
    (hx : X.env.scope.names.lookup x = some .local := by rfl) (hy : X.env.scope.names.lookup y = some .local := by rfl)
    (hw : swappedStores [.Tuple [.Name x px, .Name y py] kt pt] (.Tuple [a, b] k2 pt2) X.env = pure (some [x, y]) := by rfl)
    (hs : swapsWithSole [.Tuple [.Name x px, .Name y py] kt pt] (.Tuple [a, b] k2 pt2) pos.line X.env = pure false := by rfl) :
    PSD X ct W (.Assign [.Tuple [.Name x px, .Name y py] kt pt] (.Tuple [a, b] k2 pt2) pos) (parM [i, j] t) := by
  refine weakS (ps_par hc hN hi hj hij hx hy ha hw hs) fun D σ H q => ?_
  obtain ⟨Φ, G, ρ, E, q⟩ := q
  refine ⟨Φ, G, ρ, E, (PostS.bnd q).imp fun sls ρ1 G1 H1 s1 E1 q1 vs rs => ?_⟩
  have q2 := q1.2
  cases e : setSls [i, j] sls ρ1 with
  | none => rw [e] at q2; exact q2.elim
  | some ρ' =>
    rw [e] at q2
    obtain ⟨h1, h2⟩ := EnvS.setAll E1 rs e
    match vs, h2 with
    | [v, w], _ => exact ⟨v, w, rfl, q2 _ G1 H1 (Same.refl _) h1⟩
end
end FD

set_option Elab.async false
set_option linter.all false
set_option maxRecDepth 100000
namespace FD
open PySem L2

section
variable {X : Cx} {ct : List Addr} {W : WX} {pos : Pos}
theorem sPar3 (i j l : Nat) {x y z : Str} {a b c : Expr} {t : DM (List Sl)} {px py pz pt pt2 : Pos} {kt k2 : Nat} (hc : X.calm = true) (hN : X.N.Nodup) (ha : PFs X ct W [a, b, c] t) (hi : X.N[i]? = some x := by rfl) (hj : X.N[j]? = some y := by rfl) (hl : X.N[l]? = some z := by rfl) (hij : i ≠ j := by decide) (hil : i ≠ l := by decide) (hjl : j ≠ l := by decide)
    (hx : X.env.scope.names.lookup x = some .local := by rfl) (hy : X.env.scope.names.lookup y = some .local := by rfl) (hz : X.env.scope.names.lookup z = some .local := by rfl)
    (hw : swappedStores [.Tuple [.Name x px, .Name y py, .Name z pz] kt pt] (.Tuple [a, b, c] k2 pt2) X.env = pure (some [x, y, z]) := by rfl)
    (hs : swapsWithSole [.Tuple [.Name x px, .Name y py, .Name z pz] kt pt] (.Tuple [a, b, c] k2 pt2) pos.line X.env = pure false := by rfl) :
    PSD X ct W (.Assign [.Tuple [.Name x px, .Name y py, .Name z pz] kt pt] (.Tuple [a, b, c] k2 pt2) pos) (parM [i, j, l] t) := by
  refine weakS (ps_par3 hc hN hi hj hl hij hil hjl hx hy hz ha hw hs) fun D σ H q => ?_
  obtain ⟨Φ, G, ρ, E, q⟩ := q
  refine ⟨Φ, G, ρ, E, (PostS.bnd q).imp fun sls ρ1 G1 H1 s1 E1 q1 vs rs => ?_⟩
  have q2 := q1.2
  cases e : setSls [i, j, l] sls ρ1 with
  | none => rw [e] at q2; exact q2.elim
  | some ρ' =>
    rw [e] at q2
    obtain ⟨h1, h2⟩ := EnvS.setAll E1 rs e
    match vs, h2 with
    | [u, v, w], _ => exact ⟨u, v, w, rfl, q2 _ G1 H1 (Same.refl _) h1⟩
end

/-! ### comprehensions -/
def wipeS (ρ : List Sl) : List Nat → List Sl
  | [] => ρ
  | v :: vs => (wipeS ρ vs).set v .un
def plainAt (ρ : List Sl) (vs : List Nat) : Bool := vs.all fun (i : Nat) => match (ρ[i]? : Option Sl) with
  | some .un => true
  | some (.sh _) => true
  | _ => false
def restS (ρ0 : List Sl) (vs : List Nat) (ρ : List Sl) : List Sl := match vs with
  | [] => ρ
  | v :: vs => match ρ0[v]? with
    | some s => (restS ρ0 vs ρ).set v s
    | none => restS ρ0 vs ρ
theorem wipeS_length (ρ : List Sl) : ∀ vs : List Nat, (wipeS ρ vs).length = ρ.length
  | [] => rfl
  | v :: vs => by unfold wipeS; rw [List.length_set, wipeS_length ρ vs]
theorem wipeS_get (ρ : List Sl) : ∀ (vs : List Nat) (i : Nat), (wipeS ρ vs)[i]? = if i ∈ vs then (ρ[i]?.map fun _ => Sl.un) else ρ[i]?
  | [], i => by simp [wipeS]
  | v :: vs, i => by
    unfold wipeS
    by_cases h : v = i
    · subst h
      rw [if_pos List.mem_cons_self]
      by_cases hl : v < ρ.length
      · rw [List.getElem?_set_self (by rw [wipeS_length]; exact hl), List.getElem?_eq_getElem hl]; rfl
      · rw [List.getElem?_eq_none (by rw [List.length_set, wipeS_length]; omega), List.getElem?_eq_none (by omega)]; rfl
    · rw [List.getElem?_set_ne h, wipeS_get ρ vs i]
      by_cases h2 : i ∈ vs
      · rw [if_pos h2, if_pos (List.mem_cons_of_mem _ h2)]
      · rw [if_neg h2, if_neg (by simp only [List.mem_cons, not_or]; exact ⟨fun z => h z.symm, h2⟩)]
theorem wipe_get (σ : St) : ∀ (vs : List Nat) (i : Nat), (wipe σ vs)[i]? = if i ∈ vs then (σ[i]?.map fun _ => none) else σ[i]?
  | [], i => by simp [wipe]
  | v :: vs, i => by
    unfold wipe
    by_cases h : v = i
    · subst h
      rw [if_pos List.mem_cons_self]
      by_cases hl : v < σ.length
      · rw [List.getElem?_set_self (by rw [wipe_length]; exact hl), List.getElem?_eq_getElem hl]; rfl
      · rw [List.getElem?_eq_none (by rw [List.length_set, wipe_length]; omega), List.getElem?_eq_none (by omega)]; rfl
    · rw [List.getElem?_set_ne h, wipe_get σ vs i]
      by_cases h2 : i ∈ vs
      · rw [if_pos h2, if_pos (List.mem_cons_of_mem _ h2)]
      · rw [if_neg h2, if_neg (by simp only [List.mem_cons, not_or]; exact ⟨fun z => h z.symm, h2⟩)]
theorem restS_length (ρ0 : List Sl) : ∀ (vs : List Nat) (ρ : List Sl), (restS ρ0 vs ρ).length = ρ.length
  | [], ρ => rfl
  | v :: vs, ρ => by
    unfold restS
    split
    · rw [List.length_set, restS_length ρ0 vs ρ]
    · exact restS_length ρ0 vs ρ
theorem restS_get (ρ0 : List Sl) : ∀ (vs : List Nat) (ρ : List Sl) (i : Nat), ρ.length = ρ0.length → (restS ρ0 vs ρ)[i]? = if i ∈ vs then ρ0[i]? else ρ[i]?
  | [], ρ, i, _ => by simp [restS]
  | v :: vs, ρ, i, hl => by
    have ih := restS_get ρ0 vs ρ i hl
    unfold restS
    by_cases h : v = i
    · subst h
      rw [if_pos List.mem_cons_self]
      cases e : ρ0[v]? with
      | none =>
        simp only
        rw [List.getElem?_eq_none]
        rw [restS_length, hl]
        exact List.getElem?_eq_none_iff.mp e
      | some s =>
        simp only
        rw [List.getElem?_set_self]
        rw [restS_length, hl]
        exact (List.getElem?_eq_some_iff.mp e).1
    · have e2 : (match ρ0[v]? with | some s => (restS ρ0 vs ρ).set v s | none => restS ρ0 vs ρ)[i]? = (restS ρ0 vs ρ)[i]? := by
        split
        · exact List.getElem?_set_ne h
        · rfl
      rw [e2, ih]
      by_cases h2 : i ∈ vs
      · rw [if_pos h2, if_pos (List.mem_cons_of_mem _ h2)]
      · rw [if_neg h2, if_neg (by simp only [List.mem_cons, not_or]; exact ⟨fun z => h z.symm, h2⟩)]
theorem plainAt_get {ρ : List Sl} {vs : List Nat} {i : Nat} (h : plainAt ρ vs = true) (hi : i ∈ vs) : ρ[i]? = some .un ∨ ∃ d, ρ[i]? = some (.sh d) := by
  have := List.all_eq_true.mp h i hi
  split at this
  · rename_i e; exact .inl e
  · rename_i d e; exact .inr ⟨d, e⟩
  · cases this
section
variable {K : PySem.W.Frag} {ct : List Addr} {Φ : Fm} {G G' H H' : Hp} {σ σ' : St} {ρ ρ' : List Sl} {vs : List Nat}
theorem EnvS.wipe (E : EnvS K ct Φ G H σ ρ) (hp : plainAt ρ vs = true) : EnvS K ct Φ G H (L2.wipe σ vs) (wipeS ρ vs) := by
  have hn : ∀ (i : Nat) (s : Sl), (wipeS ρ vs)[i]? = some s → s ≠ .un → i ∉ vs ∧ ρ[i]? = some s := fun i s h hs => by
    rw [wipeS_get] at h
    by_cases hi : i ∈ vs
    · rw [if_pos hi] at h
      cases e : ρ[i]? with
      | none => rw [e] at h; cases h
      | some x => rw [e] at h; cases h; exact absurd rfl hs
    · rw [if_neg hi] at h; exact ⟨hi, h⟩
  have ho : ∀ (i : Nat) (d : D), isOwn (wipeS ρ vs)[i]? = some d → i ∉ vs ∧ isOwn ρ[i]? = some d ∧ (wipeS ρ vs)[i]? = ρ[i]? := fun i d h => by
    cases e : (wipeS ρ vs)[i]? with
    | none => rw [e] at h; cases h
    | some s =>
      rw [e] at h
      obtain ⟨h1, h2⟩ := hn i s e (by intro z; subst z; cases h)
      rw [h2]; exact ⟨h1, h, rfl⟩
  have hv : ∀ i, i ∉ vs → (L2.wipe σ vs)[i]? = σ[i]? := fun i hi => by rw [wipe_get, if_neg hi]
  refine ⟨by rw [wipeS_length, wipe_length]; exact E.len, E.gh, E.g0, E.fr, E.dom, E.gn, fun i p h => ?_, fun i d h => ?_, fun i d h => ?_, fun i j di dj p hij hi hj ei ej => ?_⟩
  · obtain ⟨a1, d, a2⟩ := E.pin i p h
    have hi : i ∉ vs := fun z => by
      rcases plainAt_get hp z with e | ⟨d', e⟩ <;> (rw [e] at a2; cases a2)
    rw [hv i hi, wipeS_get, if_neg hi]
    exact ⟨a1, d, a2⟩
  · obtain ⟨h1, h2⟩ := hn i _ h (by simp)
    rw [hv i h1]
    exact E.sh i d h2
  · obtain ⟨h1, h2, h3⟩ := ho i d h
    rw [hv i h1, h3]
    exact E.own i d h2
  · obtain ⟨h1, h2, _⟩ := ho i di hi
    obtain ⟨h3, h4, _⟩ := ho j dj hj
    rw [hv i h1] at ei
    rw [hv j h3] at ej
    exact E.ne i j di dj p hij h2 h4 ei ej
theorem EnvS.restore (E : EnvS K ct Φ G H σ ρ) (hp : plainAt ρ vs = true) (s : Same G G') (E' : EnvS K ct Φ G' H' (L2.wipe σ vs) ρ') : EnvS K ct Φ G' H' σ (restS ρ vs ρ') := by
  have hl : ρ'.length = ρ.length := by rw [E'.len, wipe_length, ← E.len]
  have hg : ∀ i, (restS ρ vs ρ')[i]? = if i ∈ vs then ρ[i]? else ρ'[i]? := fun i => restS_get ρ vs ρ' i hl
  have hv : ∀ i, i ∉ vs → (L2.wipe σ vs)[i]? = σ[i]? := fun i hi => by rw [wipe_get, if_neg hi]
  have ho : ∀ (i : Nat) (d : D), isOwn (restS ρ vs ρ')[i]? = some d → i ∉ vs ∧ isOwn ρ'[i]? = some d ∧ (restS ρ vs ρ')[i]? = ρ'[i]? := fun i d h => by
    by_cases hi : i ∈ vs
    · rw [hg, if_pos hi] at h
      rcases plainAt_get hp hi with e | ⟨d', e⟩ <;> (rw [e] at h; cases h)
    · rw [hg, if_neg hi] at h
      exact ⟨hi, h, by rw [hg, if_neg hi]⟩
  refine ⟨by rw [restS_length, hl]; exact E.len, E'.gh, E'.g0, E'.fr, E'.dom, E'.gn, fun i p h => ?_, fun i d h => ?_, fun i d h => ?_, fun i j di dj p hij hi hj ei ej => ?_⟩
  · obtain ⟨a1, d, a2⟩ := E.pin i p h
    have hi : i ∉ vs := fun z => by
      rcases plainAt_get hp z with e | ⟨d', e⟩ <;> (rw [e] at a2; cases a2)
    obtain ⟨b1, d', b2⟩ := E'.pin i p h
    exact ⟨a1, d', by rw [hg, if_neg hi]; exact b2⟩
  · by_cases hi : i ∈ vs
    · rw [hg, if_pos hi] at h
      obtain ⟨v, e1, e2⟩ := E.sh i d h
      exact ⟨v, e1, e2.mono s⟩
    · rw [hg, if_neg hi] at h
      obtain ⟨v, e1, e2⟩ := E'.sh i d h
      rw [hv i hi] at e1
      exact ⟨v, e1, e2⟩
  · obtain ⟨h1, h2, h3⟩ := ho i d h
    rw [h3]
    have := E'.own i d h2
    rw [hv i h1] at this
    exact this
  · obtain ⟨h1, h2, _⟩ := ho i di hi
    obtain ⟨h3, h4, _⟩ := ho j dj hj
    rw [← hv i h1] at ei
    rw [← hv j h3] at ej
    exact E'.ne i j di dj p hij h2 h4 ei ej
end
/-- targets of a comprehension: they touch the block's own slots alone -/
def tGw (K : PySem.W.Frag) (ct : List Addr) (vs : List Nat) (m : Tg) : TG := fun v σ H Q => ∃ Φ G ρ d ρ', EnvS K ct Φ G H σ ρ ∧ R K ct G v d ∧ m d ρ = some ρ' ∧ ∀ σ' G' H', Same G G' → EnvS K ct Φ G' H' σ' ρ' → σ'.length = σ.length → (∀ j, j ∉ vs → σ'[j]? = σ[j]?) → Q σ' H'
def tGws (K : PySem.W.Frag) (ct : List Addr) (vs : List Nat) (m : List D → List Sl → Option (List Sl)) : TGs := fun us σ H Q => ∃ Φ G ρ ds ρ', EnvS K ct Φ G H σ ρ ∧ Rs K ct G us ds ∧ m ds ρ = some ρ' ∧ ∀ σ' G' H', Same G G' → EnvS K ct Φ G' H' σ' ρ' → σ'.length = σ.length → (∀ j, j ∉ vs → σ'[j]? = σ[j]?) → Q σ' H'
abbrev PGw (X : Cx) (ct : List Addr) (vs : List Nat) (e : Expr) (m : Tg) : Prop := PG X e (tGw X.K ct vs m)
abbrev PGws (X : Cx) (ct : List Addr) (vs : List Nat) (e : List Expr) (m : List D → List Sl → Option (List Sl)) : Prop := PGs X e (tGws X.K ct vs m)
section
variable {X : Cx} {ct : List Addr} {W : WX} {pos : Pos} {vs : List Nat}
theorem wName (i : Nat) {x : Str} (hN : X.N.Nodup) (hv : i ∈ vs := by decide) (hi : X.N[i]? = some x := by rfl) (hx : Loc X.env.scope x := by first | exact Or.inl rfl | exact Or.inr rfl) (hf : X.fn x = true ∨ X.env.scope.names.lookup x = some .local := by first | exact .inl rfl | exact .inr rfl | assumption) : PGw X ct vs (.Name x pos) (gN i) := by
  refine weakG (pg_name (i := i) hN hi hx hf) fun v σ H Q q => ?_
  obtain ⟨Φ, G, ρ, d, ρ', E, r, e, k⟩ := q
  exact k _ G H (Same.refl _) (E.set (sl := .sh d) r e) List.length_set fun j hj => List.getElem?_set_ne (show i ≠ j from fun z => hj (z ▸ hv))
theorem wsNil : PGws X ct vs [] gs0 := by
  refine weakGs pgs_nil fun us σ H Q q => ?_
  obtain ⟨Φ, G, ρ, ds, ρ', E, r, e, k⟩ := q
  cases r with
  | nil => cases e; exact ⟨rfl, k σ G H (Same.refl _) E rfl fun _ _ => rfl⟩
  | cons _ _ => cases e
theorem wsCons {e : Expr} {es : List Expr} {m : Tg} {r : List D → List Sl → Option (List Sl)} (h1 : PGw X ct vs e m) (h2 : PGws X ct vs es r)
    (hs : (assignEach (e :: es) X.env).map (·.2) = assign e X.env :: (assignEach es X.env).map (·.2) := by rfl) : PGws X ct vs (e :: es) (gs1 m r) := by
  refine weakGs (pgs_cons h1 h2 hs) fun us σ H Q q => ?_
  obtain ⟨Φ, G, ρ, ds, ρ', E, rr, e, k⟩ := q
  cases rr with
  | nil => cases e
  | cons r1 r2 =>
    simp only [gs1, Option.bind_eq_some_iff] at e
    obtain ⟨ρ1, e1, e2⟩ := e
    exact ⟨_, _, rfl, Φ, G, ρ, _, ρ1, E, r1, e1, fun σ1 G1 H1 s1 E1 l1 w1 => ⟨Φ, G1, ρ1, _, ρ', E1, r2.mono s1, e2, fun σ2 G2 H2 s2 E2 l2 w2 => k σ2 G2 H2 (s1.trans s2) E2 (l2.trans l1) fun j hj => (w2 j hj).trans (w1 j hj)⟩⟩
theorem wTup {es : List Expr} {k n : Nat} {r : List D → List Sl → Option (List Sl)} (hc : X.calm = true) (h : PGws X ct vs es r)
    (hn : (assignEach es X.env).length = n := by rfl) (hst : (assignEach es X.env).findIdx? (·.1) = none := by rfl) : PGw X ct vs (.Tuple es k pos) (gT n r) := by
  refine weakG (pg_tup (n := n) hc h hn hst) fun v σ H Q q => ?_
  obtain ⟨Φ, G, ρ, d, ρ', E, rr, e, k⟩ := q
  cases rr with
  | tup h1 h2 =>
    simp only [gT] at e
    split at e
    · rename_i hl
      exact ⟨_, _, rfl, Same.seqT E.gh h1, by rw [h2.length]; exact hl, Φ, G, ρ, _, ρ', E, h2, e, k⟩
    · cases e
  | _ => cases e
end
def W0 : WX := fun _ _ _ _ => False
/-- one turn -/
def itM (m : Tg) (c : DM Bool) (e : DM D) (d : D) : DM (Option D) := fun ρ => match m d ρ with
  | none => none
  | some ρ1 => bnd c (fun b => if b then bnd e fun y => ret (some y) else ret none) ρ1
def lcL (vs : List Nat) (m : Tg) (c : DM Bool) (e : DM D) : List D → List D → DM (List D)
  | [], acc => ret acc
  | d :: ds, acc => fun ρ => match prot (itM m c e d) ρ with
    | some (.ok (some y) ρ') => if plainAt ρ' vs && decide (acc.length < sizeLine) then lcL vs m c e ds (acc ++ [y]) (wipeS ρ' vs) else none
    | some (.ok none ρ') => if plainAt ρ' vs then lcL vs m c e ds acc (wipeS ρ' vs) else none
    | _ => none
def lcE (ρ : List Sl) (vs : List Nat) : Option (Out (List D)) → Option (Out Sl)
  | some (.ok acc ρ') => some (.ok (.ow (.lst acc)) (restS ρ vs ρ'))
  | _ => none
def lcM (vs : List Nat) (t : DM (List D)) (m : Tg) (c : DM Bool) (e : DM D) : DM Sl := bnd t fun ds ρ => if plainAt ρ vs then lcE ρ vs (lcL vs m c e ds [] (wipeS ρ vs)) else none
abbrev PTsD (X : Cx) (ct : List Addr) (W : WX) (ifs : List Expr) (t : DM Bool) : Prop := PTs X ifs (tTD X.K ct W t)
section
variable {X : Cx} {ct : List Addr} {W : WX}
theorem ifs0 : PTsD X ct W [] (ret true) := ⟨fun pins s σ H Q I q => pts_nil.run pins s σ H Q I (by obtain ⟨Φ, G, ρ, E, q⟩ := q; exact q G H (Same.refl _) E)⟩
theorem ifs1 {c : Expr} {t : DM Bool} (h : PTD X ct W c t) : PTsD X ct W [c] t := pts_one h
theorem wipe_eq {σ σ' : St} {vs : List Nat} (hl : σ'.length = σ.length) (h : ∀ j, j ∉ vs → σ'[j]? = σ[j]?) : wipe σ' vs = wipe σ vs := by
  apply List.ext_getElem?
  intro i
  rw [wipe_get, wipe_get]
  by_cases hi : i ∈ vs
  · rw [if_pos hi, if_pos hi]
    by_cases hlt : i < σ.length
    · rw [List.getElem?_eq_getElem hlt, List.getElem?_eq_getElem (by rw [hl]; exact hlt)]; rfl
    · have a1 : σ[i]? = none := List.getElem?_eq_none (by omega)
      have a2 : σ'[i]? = none := List.getElem?_eq_none (by omega)
      rw [a1, a2]
  · rw [if_neg hi, if_neg hi, h i hi]
theorem wipe_wipe (σ : St) (vs : List Nat) : wipe (wipe σ vs) vs = wipe σ vs := wipe_eq (wipe_length σ vs) fun j hj => by rw [wipe_get, if_neg hj]
theorem tLcF {own : List (Str × Nat)} {t : DM (List D)} {m : Tg} {c : DM Bool} {e : DM D} {σ : St} {H : Hp} {Q : VK} (q : tF X.K ct W (lcM (own.map (·.2)) t m c e) σ H Q) : tLc (tI X.K ct W t) (tGw X.K ct (own.map (·.2)) m) (tTD X.K ct W0 c) (tD X.K ct W0 e) (own.map (·.2)) σ H Q := by
  generalize own.map (·.2) = vs at q ⊢
  obtain ⟨Φ, G, ρ, E, q⟩ := q
  refine ⟨Φ, G, ρ, E, (Post.bnd q).imp fun ds ρ1 G1 H1 s1 E1 q1 J hJ D hD => ?_⟩
  have q2 := q1.2
  by_cases hpl : plainAt ρ1 vs = true
  case neg => rw [if_neg hpl] at q2; exact q2.elim
  rw [if_pos hpl] at q2
  have fD : Φ.H D = none := by
    cases z : Φ.H D with
    | none => rfl
    | some o => obtain ⟨o', y⟩ := E1.dom D o z; rw [hD] at y; cases y
  -- the invariant: the new list at D, what is left
  refine ⟨fun i n H' => n = ds.length - i ∧ i ≤ ds.length ∧ ∃ G' ρ' acc avs, Same G1 G' ∧ EnvS X.K ct Φ G' H' (wipe σ vs) ρ' ∧ plainAt ρ' vs = true ∧ wipeS ρ' vs = ρ' ∧ G' D = none ∧ H' D = some (.lst avs) ∧ Rs X.K ct G' avs acc ∧
      (∀ (j : Nat) (d' : FD.D), isOwn ρ'[j]? = some d' → (wipe σ vs)[j]? ≠ some (some (.ref D))) ∧
      Post X.K ct Φ W σ G' (lcE ρ1 vs (lcL vs m c e (ds.drop i) acc ρ')) (fun sl ρ' G' H' => ∀ v, RF X.K ct Φ G' H' σ ρ' v sl → Q v H'),
    ⟨ds.length, by omega, Nat.zero_le _, G1, wipeS ρ1 vs, [], [], Same.refl _, ?_, ?_, ?_, E1.gh.free hD, upd_same, .nil, ?_, q2⟩, ?_⟩
  · refine (E1.wipe hpl).poke (E1.gh.free hD) fD fun j d' hj ej => ?_
    obtain ⟨o, ho⟩ := (E1.wipe hpl).ownH hj ej
    rw [hD] at ho; cases ho
  · refine List.all_eq_true.mpr fun i hi => ?_
    rcases plainAt_get hpl hi with z | ⟨d, z⟩ <;> (rw [wipeS_get, if_pos hi, z]; rfl)
  · apply List.ext_getElem?
    intro i
    rw [wipeS_get, wipeS_get]
    by_cases hi : i ∈ vs
    · rw [if_pos hi, if_pos hi]; cases ρ1[i]? <;> rfl
    · rw [if_neg hi, if_neg hi]
  · intro j d' hj ej
    obtain ⟨o, ho⟩ := (E1.wipe hpl).ownH hj ej
    rw [hD] at ho; cases ho
  · rintro i n H2 ⟨rfl, hi, G2, ρ2, acc, avs, s2, E2, pl2, w2, gD, hD2, rD, nD, q3⟩
    by_cases hlt : i < ds.length
    · have hd : ds[i]? = some ds[i] := List.getElem?_eq_getElem hlt
      have ed : ds.drop i = ds[i] :: ds.drop (i + 1) := List.drop_eq_getElem_cons hlt
      rw [ed] at q3
      obtain ⟨go, yl⟩ := (hJ i G2 H2 s2 E2.gh).1 _ hd
      refine .inr ⟨go, fun H' => ∃ G' ρ' acc avs, Same G1 G' ∧ EnvS X.K ct Φ G' H' (wipe σ vs) ρ' ∧ plainAt ρ' vs = true ∧ wipeS ρ' vs = ρ' ∧ G' D = none ∧ H' D = some (.lst avs) ∧ Rs X.K ct G' avs acc ∧
          (∀ (j : Nat) (d' : FD.D), isOwn ρ'[j]? = some d' → (wipe σ vs)[j]? ≠ some (some (.ref D))) ∧
          Post X.K ct Φ W σ G' (lcE ρ1 vs (lcL vs m c e (ds.drop (i + 1)) acc ρ')) (fun sl ρ' G' H' => ∀ v, RF X.K ct Φ G' H' σ ρ' v sl → Q v H'),
        fun H' ⟨G', ρ', a1, a2, z⟩ => ⟨ds.length - (i + 1), by omega, rfl, hlt, G', ρ', a1, a2, z⟩, fun x H3 hx => ?_⟩
      obtain ⟨G3, ex, rx⟩ := yl x H3 hx
      have E3 := E2.ext ex
      have hD3 : H3 D = some (.lst avs) := ex.hh D _ hD2
      have gD3 : G3 D = none := by rw [ex.old D _ hD2]; exact gD
      unfold lcL at q3
      have key : ∀ (o : Option FD.D) (ρ4 : List Sl), itM m c e ds[i] (pinAll ρ2) = some (.ok o ρ4) → ∀ (G5 H5 : Hp) (σ5 : St), Same G3 G5 → EnvS X.K ct ⟨H3, G3, pinsOf (wipe σ vs) ρ2⟩ G5 H5 σ5 ρ4 → wipe σ5 vs = wipe σ vs → plainAt (unpin ρ2 ρ4) vs = true →
          EnvS X.K ct Φ G5 H5 (wipe σ vs) (wipeS (unpin ρ2 ρ4) vs) ∧ H5 D = some (.lst avs) ∧ G5 D = none ∧ (∀ (j : Nat) (d' : FD.D), isOwn (wipeS (unpin ρ2 ρ4) vs)[j]? = some d' → (wipe σ vs)[j]? ≠ some (some (.ref D))) ∧ plainAt (wipeS (unpin ρ2 ρ4) vs) vs = true ∧ wipeS (wipeS (unpin ρ2 ρ4) vs) vs = wipeS (unpin ρ2 ρ4) vs := by
        intro o ρ4 ho G5 H5 σ5 s5 E5 w5 pl5
        have E6 := E3.unbase s5 E5
        have E7 := E6.wipe pl5
        rw [w5] at E7
        have np : ∀ j, (j, D) ∉ pinsOf (wipe σ vs) ρ2 := fun j hj => by
          obtain ⟨⟨d0, g1⟩, g2⟩ := mem_pinsOf.mp hj
          exact nD j d0 g1 g2
        have hD5 : H5 D = some (.lst avs) := E5.fr D _ hD3 np
        have gD5 : G5 D = none := E5.gn D _ hD3 gD3
        refine ⟨E7, hD5, gD5, fun j d' hj ej => ?_, ?_, ?_⟩
        · obtain ⟨p, a1, a2, a3, a4, a5⟩ := E7.own j d' hj
          rw [ej] at a1; cases a1
          have hj' : isOwn (unpin ρ2 ρ4)[j]? = some d' := by
            rw [wipeS_get] at hj
            by_cases hjv : j ∈ vs
            · rw [if_pos hjv] at hj
              cases z : (unpin ρ2 ρ4)[j]? with
              | none => rw [z] at hj; cases hj
              | some y => rw [z] at hj; cases hj
            · rw [if_neg hjv] at hj; exact hj
          have hj4 : isOwn ρ4[j]? = some d' := by
            rw [unpin_get] at hj'
            cases e1 : ρ2[j]? with
            | none => rw [e1] at hj'; exact hj'
            | some a =>
              cases e2 : ρ4[j]? with
              | none => rw [e1, e2] at hj'; cases hj'
              | some b => rw [e1, e2] at hj'; cases a <;> cases b <;> first | exact hj' | (cases hj'; done)
          have hjv : j ∉ vs := fun z => by
            rcases plainAt_get pl5 z with y | ⟨d2, y⟩ <;> (rw [y] at hj'; cases hj')
          have e5 : σ5[j]? = some (some (.ref D)) := by
            have : (wipe σ5 vs)[j]? = σ5[j]? := by rw [wipe_get, if_neg hjv]
            rw [← this, w5]; exact ej
          obtain ⟨p', b1, b2, b3, b4, b5⟩ := E5.own j d' hj4
          rw [e5] at b1; cases b1
          cases e2 : ρ4[j]? with
          | none => rw [e2] at hj4; cases hj4
          | some b =>
            rw [e2] at hj4 b4 b5
            cases b with
            | ow d2 => cases hj4; have : H3 D = none := b5 rfl; rw [hD3] at this; cases this
            | pn d2 => cases hj4; exact np j (b4 rfl)
            | un => cases hj4
            | sh d2 => cases hj4
        · refine List.all_eq_true.mpr fun k hk => ?_
          rcases plainAt_get pl5 hk with z | ⟨d, z⟩ <;> (rw [wipeS_get, if_pos hk, z]; rfl)
        · apply List.ext_getElem?
          intro k
          rw [wipeS_get, wipeS_get]
          by_cases hk : k ∈ vs
          · rw [if_pos hk, if_pos hk]; cases (unpin ρ2 ρ4)[k]? <;> rfl
          · rw [if_neg hk, if_neg hk]
      unfold prot at q3
      have hw2 : wipe (wipe σ vs) vs = wipe σ vs := wipe_wipe σ vs
      cases em : m ds[i] (pinAll ρ2) with
      | none => simp only [itM, em] at q3; exact q3.elim
      | some ρ3 =>
        refine ⟨_, G3, pinAll ρ2, _, ρ3, E3.rebase, rx, em, fun σ4 G4 H4 s4 E4 l4 k4 => ?_⟩
        have w4 : wipe σ4 vs = wipe σ vs := (wipe_eq l4 k4).trans hw2
        refine ⟨w4, _, G4, ρ3, E4, ?_⟩
        cases hc : c ρ3 with
        | none => simp only [itM, em, FD.bnd, hc] at q3; exact q3.elim
        | some oc =>
          cases oc with
          | ex z ρz => simp only [itM, em, FD.bnd, hc] at q3; exact q3.elim
          | ok b ρ5 =>
            intro G5 H5 s5 E5
            cases b with
            | false =>
              refine iteF ?_
              have hi : itM m c e ds[i] (pinAll ρ2) = some (.ok none ρ5) := by simp only [itM, em, FD.bnd, hc]; rfl
              rw [hi] at q3
              simp only at q3
              by_cases pl5 : plainAt (unpin ρ2 ρ5) vs = true
              · rw [if_pos pl5] at q3
                obtain ⟨k1, k2, k3, k4', k5, k6⟩ := key none ρ5 hi G5 H5 σ4 (s4.trans s5) E5 w4 pl5
                have sm : Same G2 G5 := ex.gg.trans (s4.trans s5)
                exact ⟨G5, _, acc, avs, s2.trans sm, k1, k5, k6, k3, k2, rD.mono sm, k4', Post.mono q3 sm⟩
              · rw [if_neg pl5] at q3; exact q3.elim
            | true =>
              refine iteT ⟨_, G5, ρ5, E5, ?_⟩
              cases he : e ρ5 with
              | none => simp only [itM, em, FD.bnd, hc, he, if_true] at q3; exact q3.elim
              | some oe =>
                cases oe with
                | ex z ρz => simp only [itM, em, FD.bnd, hc, he, if_true] at q3; exact q3.elim
                | ok y ρ6 =>
                  intro G6 H6 s6 E6 v rv
                  have hi : itM m c e ds[i] (pinAll ρ2) = some (.ok (some y) ρ6) := by simp only [itM, em, FD.bnd, hc, if_true, he]; rfl
                  rw [hi] at q3
                  simp only at q3
                  by_cases pl6 : (plainAt (unpin ρ2 ρ6) vs && decide (acc.length < sizeLine)) = true
                  · rw [if_pos pl6] at q3
                    rw [Bool.and_eq_true, decide_eq_true_eq] at pl6
                    obtain ⟨k1, k2, k3, k4', k5, k6⟩ := key (some y) ρ6 hi G6 H6 σ4 (s4.trans (s5.trans s6)) E6 w4 pl6.1
                    have sm : Same G2 G6 := ex.gg.trans (s4.trans (s5.trans s6))
                    refine ⟨avs, k2, by rw [rD.length]; exact pl6.2, G6, _, acc ++ [y], avs ++ [v], s2.trans sm, k1.poke k3 fD k4', k5, k6, k3, upd_same, (rD.mono sm).append (.cons rv .nil), k4', Post.mono q3 sm⟩
                  · rw [if_neg pl6] at q3; exact q3.elim
    · have ed : ds.drop i = [] := List.drop_eq_nil_of_le (by omega)
      rw [ed] at q3
      refine .inl ⟨(hJ i G2 H2 s2 E2.gh).2 (by omega), ?_⟩
      have q4 : Post X.K ct Φ W σ G2 (some (.ok (.ow (.lst acc)) (restS ρ1 vs ρ2))) (fun sl ρ' G' H' => ∀ v, RF X.K ct Φ G' H' σ ρ' v sl → Q v H') := q3
      have E5 := E1.restore hpl s2 E2
      refine q4 G2 H2 (Same.refl _) E5 (.ref D) ⟨D, rfl, gD, ⟨avs, hD2, rD⟩, fD, fun j d' hj ej => ?_⟩
      obtain ⟨p, a1, _⟩ := E5.own j d' hj
      have hl : ρ2.length = ρ1.length := by rw [E2.len, wipe_length, ← E1.len]
      rw [restS_get ρ1 vs ρ2 j hl] at hj
      by_cases hjv : j ∈ vs
      · rw [if_pos hjv] at hj
        rcases plainAt_get hpl hjv with y | ⟨d2, y⟩ <;> (rw [y] at hj; cases hj)
      · rw [if_neg hjv] at hj
        refine nD j d' hj ?_
        rw [wipe_get, if_neg hjv]; exact ej
end
end FD

set_option Elab.async false
set_option linter.all false
set_option maxRecDepth 100000
namespace FD
open PySem L2

section
variable {X : Cx} {ct : List Addr} {W : WX}
/-- [e for target in iter if c] -/
theorem fLc (own : List (Str × Nat)) {elt tg iter : Expr} {ifs : List Expr} {scope : Scope} {pos : Pos} {t : DM (List D)} {m : Tg} {c : DM Bool} {e : DM D} (hc : X.calm = true) (hN : X.N.Nodup) (hi : PID X ct W tg iter t) (ok : BlkOk X.N X.env.scope scope own)
    (hg : ∀ (s : Shared) (H : Hp) (C : Addr) (cl : List (Str × Addr)) (fp : List Addr), PGw (X.blk s H scope (compEnvC scope cl C X.env) fp) ct (own.map (·.2)) tg m)
    (ht : ∀ (s : Shared) (H : Hp) (C : Addr) (cl : List (Str × Addr)) (fp : List Addr), PTsD (X.blk s H scope (compEnvC scope cl C X.env) fp) ct W0 ifs c)
    (he : ∀ (s : Shared) (H : Hp) (C : Addr) (cl : List (Str × Addr)) (fp : List Addr), PED (X.blk s H scope (compEnvC scope cl C X.env) fp) ct W0 elt e) (hs : ∀ x, foldedSetIterable iter X.env x = pure x := by intro _; rfl) :
    PEF X ct W (.ListComp elt [⟨tg, iter, ifs, 0⟩] scope pos) (lcM (own.map (·.2)) t m c e) :=
  weakE (pe_lc (own := own) (g := tGw X.K ct (own.map (·.2)) m) (tt := tTD X.K ct W0 c) (te := tD X.K ct W0 e) hc hN hi ok hg ht he hs) fun _ _ _ q => tLcF q
theorem sSetLc (i : Nat) (own : List (Str × Nat)) {y : Str} {py : Pos} {elt tg iter : Expr} {ifs : List Expr} {scope : Scope} {pos spos : Pos} {t : DM (List D)} {m : Tg} {c : DM Bool} {e : DM D} (hc : X.calm = true) (hN : X.N.Nodup) (hi : PID X ct W tg iter t) (ok : BlkOk X.N X.env.scope scope own)
    (hg : ∀ (s : Shared) (H : Hp) (C : Addr) (cl : List (Str × Addr)) (fp : List Addr), PGw (X.blk s H scope (compEnvC scope cl C X.env) fp) ct (own.map (·.2)) tg m)
    (ht : ∀ (s : Shared) (H : Hp) (C : Addr) (cl : List (Str × Addr)) (fp : List Addr), PTsD (X.blk s H scope (compEnvC scope cl C X.env) fp) ct W0 ifs c)
    (he : ∀ (s : Shared) (H : Hp) (C : Addr) (cl : List (Str × Addr)) (fp : List Addr), PED (X.blk s H scope (compEnvC scope cl C X.env) fp) ct W0 elt e)
    (hy : X.N[i]? = some y := by rfl) (hyl : X.env.scope.names.lookup y = some .local := by rfl)
    (hsw : swapsWith (.ListComp elt [⟨tg, iter, ifs, 0⟩] scope pos) (some (.Name y py)) spos.line X.env = pure true := by exact sw_true rfl rfl rfl (by decide +kernel)) (hs : ∀ x, foldedSetIterable iter X.env x = pure x := by intro _; rfl) :
    PSD X ct W (.Assign [.Name y py] (.ListComp elt [⟨tg, iter, ifs, 0⟩] scope pos) spos) (setM i (lcM (own.map (·.2)) t m c e)) := by
  refine weakS (ps_setLc (own := own) (g := tGw X.K ct (own.map (·.2)) m) (tt := tTD X.K ct W0 c) (te := tD X.K ct W0 e) hc hN hy hyl hsw hi ok hg ht he hs) fun D σ H q => ?_
  obtain ⟨Φ, G, ρ, E, q⟩ := q
  exact tLcF (own := own) ⟨Φ, G, ρ, E, (PostS.bnd q).imp fun sl ρ1 G1 H1 s1 E1 q1 v r => setF_post q1.2 E1 r⟩

/-! ### what is owned is given away, frozen, read -/
/-- a local thing of one's own is given away -/
def mv (i : Nat) : DM Sl := fun ρ => match ρ[i]? with
  | some (.ow d) => some (.ok (.ow d) (ρ.set i .un))
  | _ => none
/-- .. is frozen: it will not be changed any more -/
def frzS (i : Nat) (ρ : List Sl) : Option (List Sl) := match ρ[i]? with
  | some (.ow d) => some (ρ.set i (.sh d))
  | some (.sh _) => some ρ
  | _ => none
def frzM (i : Nat) (t : DM Fl) : DM Fl := fun ρ => (frzS i ρ).bind t
end
section
variable {K : PySem.W.Frag} {ct : List Addr} {Φ : Fm} {G G' H H' : Hp} {σ σ' : St} {ρ ρ' : List Sl} {i : Nat} {d : D}
theorem EnvS.drop (E : EnvS K ct Φ G H σ ρ) (h : ρ[i]? = some (.ow d)) : EnvS K ct Φ G H σ (ρ.set i .un) := by
  have hl : i < ρ.length := (List.getElem?_eq_some_iff.mp h).1
  have ho : ∀ (j : Nat) (d' : D), isOwn (ρ.set i Sl.un)[j]? = some d' → i ≠ j ∧ isOwn ρ[j]? = some d' ∧ (ρ.set i Sl.un)[j]? = ρ[j]? := fun j d' hj => by
    by_cases hij : i = j
    · subst hij; rw [List.getElem?_set_self hl] at hj; cases hj
    · rw [List.getElem?_set_ne hij] at hj ⊢; exact ⟨hij, hj, rfl⟩
  refine ⟨by simpa using E.len, E.gh, E.g0, E.fr, E.dom, E.gn, fun j p hj => ?_, fun j d' hj => ?_, fun j d' hj => ?_, fun j k dj dk p hjk hj hk ej ek => ?_⟩
  · obtain ⟨a1, d2, a2⟩ := E.pin j p hj
    have hij : i ≠ j := fun z => by subst z; rw [h] at a2; cases a2
    rw [List.getElem?_set_ne hij]; exact ⟨a1, d2, a2⟩
  · by_cases hij : i = j
    · subst hij; rw [List.getElem?_set_self hl] at hj; cases hj
    · rw [List.getElem?_set_ne hij] at hj; exact E.sh j d' hj
  · obtain ⟨_, h2, h3⟩ := ho j d' hj
    rw [h3]; exact E.own j d' h2
  · exact E.ne j k dj dk p hjk (ho j dj hj).2.1 (ho k dk hk).2.1 ej ek
theorem EnvS.taken (E : EnvS K ct Φ G H σ ρ) (h : ρ[i]? = some (.ow d)) : ∃ v, σ[i]? = some (some v) ∧ RF K ct Φ G H σ (ρ.set i .un) v (.ow d) := by
  obtain ⟨p, a1, a2, a3, a4, a5⟩ := E.own i d (by rw [h]; rfl)
  have hl : i < ρ.length := (List.getElem?_eq_some_iff.mp h).1
  refine ⟨.ref p, a1, p, rfl, a2, a3, a5 h, fun j d' hj ej => ?_⟩
  by_cases hij : i = j
  · subst hij; rw [List.getElem?_set_self hl] at hj; cases hj
  · rw [List.getElem?_set_ne hij] at hj
    exact E.ne i j d d' p hij (by rw [h]; rfl) hj a1 ej
theorem EnvS.frz (E : EnvS K ct Φ G H σ ρ) (e : frzS i ρ = some ρ') : ∃ G', Same G G' ∧ EnvS K ct Φ G' H σ ρ' := by
  unfold frzS at e
  split at e
  · rename_i d h
    cases e
    obtain ⟨v, hv, r⟩ := E.taken h
    have E1 := E.drop h
    obtain ⟨G', d', s, E2, r2, hd⟩ := RF.give E1 r
    have hdd : d' = d := by rcases hd with z | z <;> cases z <;> rfl
    subst hdd
    refine ⟨G', s, ?_⟩
    have hl : i < ρ.length := (List.getElem?_eq_some_iff.mp h).1
    have := E2.set (i := i) (sl := .sh d') (v := v) r2 (ρ' := (ρ.set i .un).set i (.sh d')) (by unfold setSl; rw [List.getElem?_set_self hl])
    rw [List.set_set] at this
    have hσ : σ.set i (some v) = σ := by
      apply List.ext_getElem?
      intro j
      by_cases hij : i = j
      · subst hij
        rw [List.getElem?_set_self (by rw [← E.len]; exact hl)]; exact hv.symm
      · rw [List.getElem?_set_ne hij]
    rw [hσ] at this
    exact this
  · cases e; exact ⟨G, Same.refl _, E⟩
  · cases e
end
section
variable {X : Cx} {ct : List Addr} {W : WX} {st : List Stmt} {t : DM Fl} {pos : Pos}
theorem fMv (i : Nat) {x : Str} (hN : X.N[i]? = some x := by rfl) (hv : Vis X.env.scope x := by first | exact Or.inl rfl | exact Or.inr (Or.inl rfl) | exact Or.inr (Or.inr rfl)) (hd : (x == ("__debug__" : Str)) = false := by decide)
    (hcd : (x == ("__classdict__" : Str)) = false := by decide) : PEF X ct W (.Name x pos) (mv i) := by
  refine weakE (pe_var hN hv hd hcd) fun σ H Q q => ?_
  obtain ⟨Φ, G, ρ, E, q⟩ := q
  unfold mv at q
  split at q
  · rename_i d h
    obtain ⟨v, ev, r⟩ := E.taken h
    exact ⟨v, ev, q G H (Same.refl _) (E.drop h) v r⟩
  · exact q.elim
theorem sFrz (i : Nat) (h : PSsD X ct W st t) : PSsD X ct W st (frzM i t) := by
  refine weakSs h fun D σ H q => ?_
  obtain ⟨Φ, G, ρ, E, q⟩ := q
  unfold frzM at q
  cases e : frzS i ρ with
  | none => rw [e] at q; exact q.elim
  | some ρ' =>
    rw [e] at q
    obtain ⟨G', s, E'⟩ := E.frz e
    exact ⟨Φ, G', ρ', E', PostS.mono q s⟩
end
/-! ### read while owned -/
mutual
/-- no list, no object within -/
def flat : D → Bool
  | .non => true
  | .bl _ => true
  | .int _ => true
  | .str _ => true
  | .tup xs => flats xs
  | _ => false
def flats : List D → Bool
  | [] => true
  | x :: r => flat x && flats r
end
section
variable {K : PySem.W.Frag} {ct : List Addr} {G G' : Hp}
/-- flat data don't lean on lists and objects -/
theorem SqT.keep {a : Addr} {xs : List V} (k : ∀ b o, G b = some o → (∀ ys, o ≠ .lst ys) → (∀ C dx fs, o ≠ .ins C dx fs) → G' b = some o) (h : SqT K G a xs) : SqT K G' a xs := by
  rcases h with (h | ⟨o, h⟩) | h
  · exact .inl (.inl (k _ _ h (by intro ys z; cases z) (by intro _ _ _ z; cases z)))
  · exact .inl (.inr ⟨o, k _ _ h (by intro ys z; cases z) (by intro _ _ _ z; cases z)⟩)
  · exact .inr h
mutual
theorem R.flat (k : ∀ b o, G b = some o → (∀ ys, o ≠ .lst ys) → (∀ C dx fs, o ≠ .ins C dx fs) → G' b = some o) : ∀ (d : D) (v : V), FD.flat d = true → R K ct G v d → R K ct G' v d
  | .non, _, _, .non => .non
  | .bl b, _, _, .bl _ => .bl b
  | .int b, _, _, .int _ => .int b
  | .str b, _, _, .str _ => .str b
  | .tup xs, _, h, .tup h1 h2 => .tup (SqT.keep k h1) (Rs.flat k xs _ (by simpa [FD.flat] using h) h2)
  | .lst _, _, h, _ => by simp [FD.flat] at h
  | .obj _ _, _, h, _ => by simp [FD.flat] at h
  | .scr _, _, h, _ => by simp [FD.flat] at h
  | .opq _, _, h, _ => by simp [FD.flat] at h
theorem Rs.flat (k : ∀ b o, G b = some o → (∀ ys, o ≠ .lst ys) → (∀ C dx fs, o ≠ .ins C dx fs) → G' b = some o) : ∀ (ds : List D) (vs : List V), FD.flats ds = true → Rs K ct G vs ds → Rs K ct G' vs ds
  | [], _, _, .nil => .nil
  | x :: r, _, h, .cons h1 h2 => by
    simp only [flats, Bool.and_eq_true] at h
    exact .cons (R.flat k x _ h.1 h1) (Rs.flat k r _ h.2 h2)
end
end
/-- while slot i is lent out to be read: all else that is owned is held fast -/
def borS (i : Nat) (ρ : List Sl) : Option (List Sl) := match own? ρ[i]? with
  | some (d, _) => some ((pinAll ρ).set i (.sh d))
  | none => none
/-- what is held by owned things is flat -/
def flatO : Sl → Bool
  | .pn (.lst xs) => flats xs
  | .pn _ => false
  | .ow _ => false
  | _ => true
def bb1 : Sl → Sl → Sl
  | .ow _, .pn d => .ow d
  | .pn _, .pn d => .pn d
  | s, _ => s
def zipB : List Sl → List Sl → List Sl
  | s :: r, s' :: r' => bb1 s s' :: zipB r r'
  | r, _ => r
def flatR : Sl → Bool
  | .sh d => flat d
  | .ow (.lst xs) => flats xs
  | _ => false
def bor {α : Type} (fl : α → Bool) (i : Nat) (t : DM α) : DM α := fun ρ => match borS i ρ with
  | some ρ1 => match t ρ1 with
    | some (.ok a ρ2) => if fl a && ρ2.all flatO then some (.ok a (zipB ρ ρ2)) else none
    | _ => none
  | _ => none
theorem zipB_length : ∀ (ρ ρ' : List Sl), (zipB ρ ρ').length = ρ.length
  | [], _ => by simp [zipB]
  | s :: r, [] => by simp [zipB]
  | s :: r, s' :: r' => by simp [zipB, zipB_length r r']
theorem zipB_get : ∀ (ρ ρ' : List Sl) (i : Nat), ρ'.length = ρ.length → (zipB ρ ρ')[i]? = match (ρ[i]? : Option Sl), (ρ'[i]? : Option Sl) with
    | some s, some s' => some (bb1 s s')
    | x, _ => x
  | [], ρ', i, h => by simp [zipB]
  | s :: r, [], i, h => by simp at h
  | s :: r, s' :: r', 0, h => rfl
  | s :: r, s' :: r', i + 1, h => by
    simp only [zipB, List.getElem?_cons_succ]
    exact zipB_get r r' i (by simpa using h)
section
variable {K : PySem.W.Frag} {ct : List Addr} {Φ : Fm} {G G' H H' : Hp} {σ σ' : St} {ρ ρ' ρ1 ρ2 : List Sl} {i : Nat} {d : D}
def pinsB (i : Nat) (σ : St) (ρ : List Sl) : List (Nat × Addr) := (pinsOf σ ρ).filter fun x => x.1 != i
theorem mem_pinsB {j : Nat} {p : Addr} : (j, p) ∈ pinsB i σ ρ ↔ (j, p) ∈ pinsOf σ ρ ∧ j ≠ i := by
  unfold pinsB
  rw [List.mem_filter]
  simp
theorem EnvS.borrow (E : EnvS K ct Φ G H σ ρ) (h : borS i ρ = some ρ1) : ∃ p o, σ[i]? = some (some (.ref p)) ∧ G p = none ∧ H p = some o ∧ ((∃ ys, o = .lst ys) ∨ ∃ C dx fs, o = .ins C dx fs) ∧ (∃ d, isOwn ρ[i]? = some d) ∧ EnvS K ct ⟨H, upd G p o, pinsB i σ ρ⟩ (upd G p o) H σ ρ1 := by
  unfold borS at h
  cases ho : own? ρ[i]? with
  | none => rw [ho] at h; cases h
  | some dd =>
    rw [ho] at h
    obtain ⟨d, f⟩ := dd
    cases h
    obtain ⟨p, a1, a2, a3, a4, a5⟩ := E.own i d (own_is ho).1
    obtain ⟨o, b1, b2, b3⟩ := a3.frz a2
    have hl : i < ρ.length := by
      cases z : ρ[i]? with
      | none => rw [z] at ho; cases ho
      | some s => exact (List.getElem?_eq_some_iff.mp z).1
    have hl2 : i < (pinAll ρ).length := by rw [pinAll, List.length_map]; exact hl
    have hoo : (∃ ys, o = .lst ys) ∨ ∃ C dx fs, o = .ins C dx fs := by
      cases d with
      | lst ds => obtain ⟨vs, c1, _⟩ := a3; rw [b1] at c1; cases c1; exact .inl ⟨_, rfl⟩
      | obj c ds => obtain ⟨C, dx, fs, _, c1, _⟩ := a3; rw [b1] at c1; cases c1; exact .inr ⟨_, _, _, rfl⟩
      | _ => exact a3.elim
    have Er := E.rebase
    have hown : ∀ (j : Nat) (dj : D), isOwn ((pinAll ρ).set i (.sh d))[j]? = some dj → i ≠ j ∧ isOwn (pinAll ρ)[j]? = some dj ∧ ((pinAll ρ).set i (.sh d))[j]? = (pinAll ρ)[j]? := fun j dj hj => by
      by_cases hij : i = j
      · subst hij; rw [List.getElem?_set_self hl2] at hj; cases hj
      · rw [List.getElem?_set_ne hij] at hj ⊢; exact ⟨hij, hj, rfl⟩
    have hne : ∀ (j : Nat) (dj : D) (q : Addr), i ≠ j → isOwn (pinAll ρ)[j]? = some dj → σ[j]? = some (some (.ref q)) → q ≠ p := fun j dj q hij h1 h2 z => by
      subst z
      rw [pinAll_own] at h1
      exact E.ne i j d dj q hij (own_is ho).1 h1 a1 h2
    refine ⟨p, o, a1, a2, b1, hoo, ⟨d, (own_is ho).1⟩, by simpa using Er.len, ?_, Same.refl _, fun b x h _ => h, fun b x h => ⟨x, h⟩, fun b x _ h => h, fun j q hj => ?_, fun j dj hj => ?_, fun j dj hj => ?_, fun j k dj dk q hjk hj hk ej ek => ?_⟩
    · intro b x e
      by_cases hb : b = p
      · subst hb; rw [upd_same] at e; rw [b1]; exact e
      · rw [upd_ne hb] at e; exact E.gh b x e
    · obtain ⟨h1, h2⟩ := mem_pinsB.mp hj
      obtain ⟨c1, dj, c2⟩ := Er.pin j q h1
      rw [List.getElem?_set_ne (Ne.symm h2)]
      exact ⟨c1, dj, c2⟩
    · by_cases hij : i = j
      · subst hij; rw [List.getElem?_set_self hl2] at hj; cases hj
        exact ⟨.ref p, a1, b3⟩
      · rw [List.getElem?_set_ne hij] at hj
        obtain ⟨v, c1, c2⟩ := Er.sh j dj hj
        exact ⟨v, c1, c2.mono b2⟩
    · obtain ⟨h1, h2, h3⟩ := hown j dj hj
      obtain ⟨q, c1, c2, c3, c4, c5⟩ := Er.own j dj h2
      rw [h3]
      refine ⟨q, c1, by rw [upd_ne (hne j dj q h1 h2 c1)]; exact c2, c3.mono b2 rfl, fun z => mem_pinsB.mpr ⟨c4 z, Ne.symm h1⟩, fun z => ?_⟩
      exfalso
      rw [pinAll_get] at z
      cases y : ρ[j]? with
      | none => rw [y] at z; cases z
      | some s => rw [y] at z; cases s <;> cases z
    · exact Er.ne j k dj dk q hjk (hown j dj hj).2.1 (hown k dk hk).2.1 ej ek
def cutH (G : Hp) (p : Addr) : Hp := fun b => if b = p then none else G b
theorem cutH_ne {G : Hp} {p b : Addr} (h : b ≠ p) : cutH G p b = G b := by unfold cutH; rw [if_neg h]
theorem EnvS.unborrow {p : Addr} {o : HO} (E : EnvS K ct Φ G H σ ρ) (e1 : σ[i]? = some (some (.ref p))) (g : G p = none) (hp : H p = some o) (ho : (∃ ys, o = .lst ys) ∨ ∃ C dx fs, o = .ins C dx fs) (hi : ∃ d, isOwn ρ[i]? = some d)
    (s : Same (upd G p o) G') (E' : EnvS K ct ⟨H, upd G p o, pinsB i σ ρ⟩ G' H' σ ρ2) (hf : ρ2.all flatO = true) : Same G (cutH G' p) ∧ EnvS K ct Φ (cutH G' p) H' σ (zipB ρ ρ2) ∧ (∀ b x, G' b = some x → (∀ ys, x ≠ .lst ys) → (∀ C dx fs, x ≠ .ins C dx fs) → cutH G' p b = some x) := by
  have hl : ρ2.length = ρ.length := by rw [E'.len, ← E.len]
  have gp : G' p = some o := s p o upd_same
  have hG : Same G (cutH G' p) := fun b x e => by
    have hb : b ≠ p := ne_of_none e g
    rw [cutH_ne hb]; exact s b x (by rw [upd_ne hb]; exact e)
  have hk : ∀ b x, G' b = some x → (∀ ys, x ≠ .lst ys) → (∀ C dx fs, x ≠ .ins C dx fs) → cutH G' p b = some x := fun b x e n1 n2 => by
    have hb : b ≠ p := fun z => by
      subst z
      rw [gp] at e; cases e
      rcases ho with ⟨ys, rfl⟩ | ⟨C, dx, fs, rfl⟩
      · exact n1 ys rfl
      · exact n2 C dx fs rfl
    rw [cutH_ne hb]; exact e
  -- owned slots
  have ow : ∀ (j : Nat) (d : D), isOwn ρ[j]? = some d → i ≠ j → ∃ q d2 f, own? ρ[j]? = some (d, f) ∧ σ[j]? = some (some (.ref q)) ∧ ρ2[j]? = some (.pn d2) ∧ (zipB ρ ρ2)[j]? = some (f d2) ∧ cutH G' p q = none ∧ HoR K ct (cutH G' p) H' q d2 := fun j d h hij => by
    obtain ⟨q, a1, a2, a3, a4, a5⟩ := E.own j d h
    obtain ⟨b1, d2, b2⟩ := E'.pin j q (mem_pinsB.mpr ⟨mem_pinsOf.mpr ⟨⟨d, h⟩, a1⟩, Ne.symm hij⟩)
    obtain ⟨q', c1, c2, c3, _⟩ := E'.own j d2 (by rw [b2]; rfl)
    rw [a1] at c1; cases c1
    have hfl : flatO (.pn d2) = true := List.all_eq_true.mp hf _ (List.mem_of_getElem? b2)
    have hq : cutH G' p q = none := by
      by_cases z : q = p
      · subst z; unfold cutH; rw [if_pos rfl]
      · rw [cutH_ne z]; exact c2
    have hh : HoR K ct (cutH G' p) H' q d2 := by
      cases d2 with
      | lst ds => obtain ⟨vs, z1, z2⟩ := c3; exact ⟨vs, z1, Rs.flat hk ds vs hfl z2⟩
      | _ => cases hfl
    cases y : ρ[j]? with
    | none => rw [y] at h; cases h
    | some sl =>
      have hz : (zipB ρ ρ2)[j]? = some (bb1 sl (.pn d2)) := by rw [zipB_get ρ ρ2 j hl, y, b2]
      rw [y] at h
      cases sl with
      | ow d' => cases h; exact ⟨q, d2, Sl.ow, rfl, a1, b2, hz, hq, hh⟩
      | pn d' => cases h; exact ⟨q, d2, Sl.pn, rfl, a1, b2, hz, hq, hh⟩
      | un => cases h
      | sh d' => cases h
  -- the lent slot
  obtain ⟨di, hdi⟩ := hi
  have slot : (zipB ρ ρ2)[i]? = ρ[i]? := by
    rw [zipB_get ρ ρ2 i hl]
    cases y : ρ[i]? with
    | none => cases ρ2[i]? <;> rfl
    | some sl =>
      cases y2 : ρ2[i]? with
      | none => rfl
      | some s2 =>
        cases s2 with
        | pn d2 =>
          exfalso
          obtain ⟨q, c1, c2, c3, c4, c5⟩ := E'.own i d2 (by rw [y2]; rfl)
          exact (mem_pinsB.mp (c4 y2)).2 rfl
        | un => cases sl <;> rfl
        | sh _ => cases sl <;> rfl
        | ow _ => cases sl <;> rfl
  have oth : ∀ (j : Nat), isOwn ρ[j]? = none → (zipB ρ ρ2)[j]? = ρ[j]? := fun j h => by
    rw [zipB_get ρ ρ2 j hl]
    cases y : ρ[j]? with
    | none => cases ρ2[j]? <;> rfl
    | some sl =>
      rw [y] at h
      cases y2 : ρ2[j]? with
      | none => rfl
      | some s2 => cases sl <;> cases s2 <;> first | rfl | cases h
  have hown : ∀ (j : Nat) (d : D), isOwn (zipB ρ ρ2)[j]? = some d → ∃ d0, isOwn ρ[j]? = some d0 := fun j d h => by
    cases y : isOwn ρ[j]? with
    | some d0 => exact ⟨d0, rfl⟩
    | none => rw [oth j y, y] at h; cases h
  refine ⟨hG, ⟨by rw [zipB_length]; exact E.len, ?_, E.g0.trans hG, fun b x h1 h2 => ?_, fun b x h1 => ?_, fun b x h1 h2 => ?_, fun j q hj => ?_, fun j d hj => ?_, fun j d hj => ?_, fun j k dj dk q hjk hj hk' ej ek => ?_⟩, hk⟩
  · intro b x e
    have hb : b ≠ p := fun z => by subst z; unfold cutH at e; rw [if_pos rfl] at e; cases e
    rw [cutH_ne hb] at e; exact E'.gh b x e
  · refine E'.fr b x (E.fr b x h1 h2) fun j hj => ?_
    obtain ⟨hj1, _⟩ := mem_pinsB.mp hj
    obtain ⟨⟨d0, g1⟩, g2⟩ := mem_pinsOf.mp hj1
    obtain ⟨q, a1, _, _, a4, a5⟩ := E.own j d0 g1
    rw [g2] at a1; cases a1
    cases y : ρ[j]? with
    | none => rw [y] at g1; cases g1
    | some sl =>
      rw [y] at g1 a4 a5
      cases sl <;> cases g1
      · have := a5 rfl; rw [this] at h1; cases h1
      · exact h2 j (a4 rfl)
  · obtain ⟨o', e⟩ := E.dom b x h1
    exact E'.dom b o' e
  · by_cases hb : b = p
    · subst hb; unfold cutH; rw [if_pos rfl]
    · rw [cutH_ne hb]
      obtain ⟨o', e⟩ := E.dom b x h1
      exact E'.gn b o' e (by show upd G p o b = none; rw [upd_ne hb]; exact E.gn b x h1 h2)
  · obtain ⟨a1, d0, a2⟩ := E.pin j q hj
    refine ⟨a1, ?_⟩
    by_cases hij : i = j
    · subst hij; rw [slot]; exact ⟨d0, a2⟩
    · obtain ⟨q', d2, f, b1, _, _, b4, _⟩ := ow j d0 (by rw [a2]; rfl) hij
      rw [a2] at b1; cases b1
      exact ⟨d2, b4⟩
  · by_cases hij : i = j
    · subst hij; rw [slot] at hj
      rw [hj] at hdi; cases hdi
    · have hn : isOwn ρ[j]? = none := by
        cases y : isOwn ρ[j]? with
        | none => rfl
        | some d0 =>
          obtain ⟨q, d2, f, b1, _, _, b4, _⟩ := ow j d0 y hij
          rw [b4] at hj
          rcases (own_is b1).2 with ⟨_, z⟩ | ⟨_, z⟩ <;> (rw [z] at hj; cases hj)
      rw [oth j hn] at hj
      obtain ⟨v, c1, c2⟩ := E.sh j d hj
      exact ⟨v, c1, c2.mono hG⟩
  · by_cases hij : i = j
    · subst hij
      rw [slot] at hj ⊢
      obtain ⟨q, c1, c2, c3, c4, c5⟩ := E.own i d hj
      rw [e1] at c1; cases c1
      exact ⟨p, e1, by unfold cutH; rw [if_pos rfl], c3.mono hG ((E'.gh p o gp).trans hp.symm), c4, c5⟩
    · obtain ⟨d0, hd0⟩ := hown j d hj
      obtain ⟨q, d2, f, b1, b2, b3, b4, b5, b6⟩ := ow j d0 hd0 hij
      obtain ⟨q', c1, _, _, c4, c5⟩ := E.own j d0 hd0
      rw [b2] at c1; cases c1
      rw [b4] at hj ⊢
      rcases (own_is b1).2 with ⟨z1, z⟩ | ⟨z1, z⟩
      · rw [z] at hj ⊢; cases hj
        exact ⟨q, b2, b5, b6, (fun y => by cases y), (fun _ => c5 z1)⟩
      · rw [z] at hj ⊢; cases hj
        exact ⟨q, b2, b5, b6, (fun _ => c4 z1), (fun y => by cases y)⟩
  · obtain ⟨d1, z1⟩ := hown j dj hj
    obtain ⟨d2, z2⟩ := hown k dk hk'
    exact E.ne j k d1 d2 q hjk z1 z2 ej ek
end
section
variable {X : Cx} {ct : List Addr} {W : WX} {e : Expr}
theorem fBor (i : Nat) {t : DM Sl} (h : PEF X ct W e t) : PEF X ct W e (bor flatR i t) := by
  refine weakE h fun σ H Q q => ?_
  obtain ⟨Φ, G, ρ, E, q⟩ := q
  unfold bor at q
  cases hb : borS i ρ with
  | none => rw [hb] at q; exact q.elim
  | some ρ1 =>
    rw [hb] at q
    obtain ⟨p, o, a1, a2, a3, a4, a5, E1⟩ := E.borrow hb
    refine ⟨_, _, ρ1, E1, ?_⟩
    cases ht : t ρ1 with
    | none => simp only [ht] at q; exact q.elim
    | some oo =>
      cases oo with
      | ex x ρ2 => simp only [ht] at q; exact q.elim
      | ok a ρ2 =>
        simp only [ht] at q
        split at q
        · rename_i hf
          rw [Bool.and_eq_true] at hf
          intro G2 H2 s2 E2 v r
          obtain ⟨sg, E3, hk⟩ := E.unborrow a1 a2 a3 a4 a5 s2 E2 hf.2
          refine q _ H2 sg E3 v ?_
          cases a with
          | un => exact r.elim
          | pn d => exact r.elim
          | sh d => exact R.flat hk d v hf.1 r
          | ow d =>
            cases d with
            | lst xs =>
              obtain ⟨p', rfl, h1, ⟨vs, h2, h2'⟩, h3, h4⟩ := r
              have hp' : p' ≠ p := fun z => by subst z; rw [show H p' = none from h3] at a3; cases a3
              refine ⟨p', rfl, by rw [cutH_ne hp']; exact h1, ⟨vs, h2, Rs.flat hk xs vs hf.1 h2'⟩, ?_, fun j d' hj ej => ?_⟩
              · cases z : Φ.H p' with
                | none => rfl
                | some x => obtain ⟨o', y⟩ := E.dom p' x z; rw [show H p' = none from h3] at y; cases y
              · obtain ⟨q', c1, c2, c3, c4, c5⟩ := E3.own j d' hj
                have hown : ∃ d0, isOwn ρ[j]? = some d0 := by
                  cases y : isOwn ρ[j]? with
                  | some d0 => exact ⟨d0, rfl⟩
                  | none =>
                    exfalso
                    have hl : ρ2.length = ρ.length := by rw [E2.len, ← E.len]
                    rw [zipB_get ρ ρ2 j hl] at hj
                    cases z1 : ρ[j]? with
                    | none => rw [z1] at hj; cases hj
                    | some sl =>
                      rw [z1] at hj y
                      cases z2 : ρ2[j]? with
                      | none => rw [z2] at hj; rw [y] at hj; cases hj
                      | some s2' => rw [z2] at hj; cases sl <;> cases s2' <;> first | (cases hj; done) | (cases y; done)
                obtain ⟨d0, hd0⟩ := hown
                obtain ⟨o', ho'⟩ := E.ownH hd0 ej
                rw [show H p' = none from h3] at ho'; cases ho'
            | _ => cases hf.1
        · exact q.elim
theorem cBor (i : Nat) {t : DM Bool} (h : PTD X ct W e t) : PTD X ct W e (bor (fun _ => true) i t) := by
  refine weakT h fun σ H Q q => ?_
  obtain ⟨Φ, G, ρ, E, q⟩ := q
  unfold bor at q
  cases hb : borS i ρ with
  | none => rw [hb] at q; exact q.elim
  | some ρ1 =>
    rw [hb] at q
    obtain ⟨p, o, a1, a2, a3, a4, a5, E1⟩ := E.borrow hb
    refine ⟨_, _, ρ1, E1, ?_⟩
    cases ht : t ρ1 with
    | none => simp only [ht] at q; exact q.elim
    | some oo =>
      cases oo with
      | ex x ρ2 => simp only [ht] at q; exact q.elim
      | ok a ρ2 =>
        simp only [ht] at q
        split at q
        · rename_i hf
          rw [Bool.and_eq_true] at hf
          intro G2 H2 s2 E2
          obtain ⟨sg, E3, hk⟩ := E.unborrow a1 a2 a3 a4 a5 s2 E2 hf.2
          exact q _ H2 sg E3
        · exact q.elim
end
end FD

set_option Elab.async false
set_option linter.all false
set_option maxRecDepth 100000
namespace FD
open PySem L2

section
variable {X : Cx} {ct : List Addr} {W : WX} {pos p : Pos} {x : Str}
/-- f() -/
theorem fCall0 {F : DF} {k : Nat} {f : Addr} {fd : FuncData} (tk : Takes X W) (hF : FnOk X.prog X.w X.K X.mg X.base (L2.CX X.prog X.w) k f fd [] (SpF X.K ct F)) (hr : Room k X.A) (hm : X.mg x = some (.ref f)) (hk : PySem.W.keepIn X.K (.ref f) = true) (hb : Binds X.K fd [] [])
    (hg : Gl X x := by rfl) (hdb : (x == ("__debug__" : Str)) = false := by decide) : PEF X ct W (.Call (.Name x p) [] [] pos) (callA F arNil) := by
  refine ⟨fun pins s σ H Q I h => wpAny_Call_Name_kw (ld_glob I hg hm (PySem.W.callWith_K0 I.kIn hk (run_fnS (E := WE W) (vs := []) (us := []) hF hr hb (passAt tk σ) I .nil ?_)) hdb)⟩
  obtain ⟨Φ, G, ρ, E, q⟩ := h
  exact call_post (ars := []) E q .nil fun sl ρ' G' H' s E' kk v rv => kk v rv
/-- a built-in class as a value -/
theorem dTy {T : String} (hm : X.mg x = none) (hv : bootBuiltins x = some (.type T)) (hg : Gl X x := by rfl) (hn : x ≠ "__name__" := by decide) (hd : (x == ("__debug__" : Str)) = false := by decide) : PED X ct W (.Name x pos) (ret (.opq (.ty T))) :=
  weakE (pe_bltn (v := .ty T) hg hm hv rfl hn hd) fun _ H Q ⟨_, G, _, E, q⟩ => q G H (Same.refl _) E _ (.opq _)
/-- a constant of the module -/
theorem dGlI {i : Int} {t : Tok} (hm : X.mg x = some (.int i t)) (hg : Gl X x := by rfl) (hd : (x == ("__debug__" : Str)) = false := by decide) : PED X ct W (.Name x pos) (ret (.int i)) :=
  weakE (pe_glob (v := .int i) hg hm ⟨t, rfl⟩ hd) fun _ H Q ⟨_, G, _, E, q⟩ => q G H (Same.refl _) E _ (.int i)
theorem dGlS {i : Str} {t : Tok} (hm : X.mg x = some (.str i t)) (hg : Gl X x := by rfl) (hd : (x == ("__debug__" : Str)) = false := by decide) : PED X ct W (.Name x pos) (ret (.str i)) :=
  weakE (pe_glob (v := .str i) hg hm ⟨t, rfl⟩ hd) fun _ H Q ⟨_, G, _, E, q⟩ => q G H (Same.refl _) E _ (.str i)
def tyN : D → Option String
  | .non => some "NoneType"
  | .bl _ => some "bool"
  | .int _ => some "int"
  | .str _ => some "str"
  | .tup _ => some "tuple"
  | .lst _ => some "list"
  | _ => none
def isiS : List D → Option Sl
  | [d, .opq (.ty T)] => (tyN d).bind fun n => (kitB n T).map fun b => .sh (.bl b)
  | _ => none
theorem R.ty {K : PySem.W.Frag} {ct : List Addr} {G H : Hp} {v : V} {d : D} {n : String} (s : Same G H) (r : R K ct G v d) (e : tyN d = some n) : TyX K H v (.type n) := by
  cases r with
  | tup h _ =>
    cases e
    rcases h with (h | ⟨o, h⟩) | ⟨o, its, k, h1, h2, _⟩
    · exact .base (.tup (s _ _ h))
    · exact .fTuple (s _ _ h)
    · exact .kTuple h1 h2
  | lst h _ => cases e; exact .base (.lst (s _ _ h))
  | non => cases e; exact .base .non
  | bl b => cases e; exact .base (.bl b)
  | int b => cases e; exact .base (.int b)
  | str b => cases e; exact .base (.str b)
  | _ => cases e
theorem cIsi : CallR X (.builtin "isinstance") (rC X.K ct isiS) := by
  intro pins s σ H vs us Q I r h
  obtain ⟨G, ds, sl, sg, rs, e, k⟩ := h
  unfold isiS at e
  split at e
  · rename_i d T
    rw [Option.bind_eq_some_iff] at e
    obtain ⟨n, e1, e2⟩ := e
    rw [Option.map_eq_some_iff] at e2
    obtain ⟨b, e3, rfl⟩ := e2
    cases rs with
    | cons r1 r2 =>
      cases r2 with
      | cons r3 r4 =>
        cases r4
        cases r3
        exact call_isi pins s σ H _ us Q I r ⟨_, _, _, _, b, rfl, .ty T, R.ty sg r1 e1, kit_ty e3, RN.of_ext sg k rfl (.bl b)⟩
  · cases e
end
end FD

set_option Elab.async false
set_option linter.all false
set_option maxRecDepth 100000
namespace FD
open PySem L2 PySem.Spec PyProof.Rows

/-! ### a comprehension whose source wants a token that is out: what is walked is told at the one state -/
section
variable {X : Cx}
theorem lcAt {pins : List (Addr × Obj)} {s : Shared} {σ : L2.St} {H : Hp} {Q : VK} {elt tg iter : Expr} {ifs : List Expr} {scope : Scope} {own : List (Str × Nat)} {pos : Pos} {g : TG} {tt : TT} {te : TE}
    (hc : X.calm = true) (hN : X.N.Nodup) (ok : BlkOk X.N X.env.scope scope own)
    (hg : ∀ s H C cl fp, PG (X.blk s H scope (compEnvC scope cl C X.env) fp) tg g)
    (ht : ∀ s H C cl fp, PTs (X.blk s H scope (compEnvC scope cl C X.env) fp) ifs tt)
    (he : ∀ s H C cl fp, PE (X.blk s H scope (compEnvC scope cl C X.env) fp) elt te)
    (hs : ∀ x, foldedSetIterable iter X.env x = pure x)
    (I : L2.Inv X pins σ H s)
    (src : wpAny (model X.prog X.w) X.A (eval iter X.env) (fun v s1 => wpAny (model X.prog X.w) X.A (pyIter v) (PIE X pins σ tg fun J H1 => tLc (fun _ _ R => R J H1) g tt te (own.map (·.2)) σ H Q) X.xe s1) X.xe s) :
    wpAny (model X.prog X.w) X.A (eval (.ListComp elt [⟨tg, iter, ifs, 0⟩] scope pos) X.env) (EP X pins σ Q) X.xe s := by
  rw [eval_ListComp]
  have cells : ∀ y ∈ scope.names, y.2 = .free → ∃ c, X.env.cells.lookup y.1 = some c := by
    intro y hy e
    exact (ok.free y hy e).elim (fun k => I.ok.has _ (.inl k)) (fun k => I.ok.has _ (.inr k))
  refine wpAny_comprehension_free (use := none) rfl hs (closure_ok cells) ok.kind (by intro y hy e; rw [ok.uniq y hy, e]) ?_
  refine thn src fun xv s1 hx => thn hx fun itv s2 got => ?_
  obtain ⟨it, fp, tn, J, H2, rfl, I2, T, t2, f2, q⟩ := got
  refine wpAny_newObj_type (newEnv_comp ?_) (by show 0 ≤ sizeLine; decide)
  -- the new list L
  generalize eL : s2.heap.objs.size = L
  have nL : H2 L = none := I2.hok.fresh (Nat.le_of_eq eL)
  obtain ⟨W, ⟨m0, w0⟩, turn⟩ := q L nL
  generalize e3 : ({ s2 with heap := s2.heap.push { cls := .type "list", data := .seq ([] : List Value).toArray } } : Shared) = s3
  have eh : s3.heap = s2.heap.push { cls := .type "list", data := .seq ([] : List Value).toArray } := by subst e3; rfl
  have I3 : L2.Inv X pins σ (upd H2 L (.lst [])) s3 := by
    subst e3
    refine I2.laid (t' := s2.toks) (fun b o z => Heap.get?_push_of_some _ z) (Nat.le_of_eq eL) ⟨Nat.zero_le _, [], 0, .nil, ?_⟩
    subst eL
    exact Heap.get?_push_size _ rfl
  have f3 : ∀ b ∈ fp, FpOk X pins (upd H2 L (.lst [])) b ∧ b < s3.heap.objs.size := by
    intro b hb
    obtain ⟨o, z, _⟩ := T.obj _ _ t2 b hb
    have lt := Heap.lt_size z
    have nb : b ≠ L := by rw [← eL]; exact Nat.ne_of_lt lt
    exact ⟨⟨(upd_ne nb).trans (f2 b hb).1, (f2 b hb).2⟩, by rw [eh, Heap.size_push]; exact Nat.lt_succ_of_lt lt⟩
  have t3 : tn 0 s3.heap := T.keep _ _ _ t2 (by intro b _ o z; rw [eh]; exact Heap.get?_push_of_some _ z)
  -- the block
  have I4 := block_start I3 ok hN f3
  generalize eC : cellsFrom (s3.heap.objs.size + 1) scope.names (cloFrom X.env.cells scope.names []) = cl at I4
  have pg := hg s3 (upd H2 L (.lst [])) s3.heap.objs.size cl fp
  have pt := ht s3 (upd H2 L (.lst [])) s3.heap.objs.size cl fp
  have pe := he s3 (upd H2 L (.lst [])) s3.heap.objs.size cl fp
  have nfp : ∀ b ∈ fp, (upd H2 L (.lst [])) b = none := fun b hb => (f3 b hb).1.1
  show codeAny _ _ (.compStart _ 0 (.ref it) (.ref L) (compEnvC scope cl s3.heap.objs.size X.env)) (compPost _ _ _ _ _ _ s3.heap.objs.size) ({ s3 with heap := _ } : Shared)
  generalize eE : compEnvC scope cl s3.heap.objs.size X.env = ce at I4 pg pt pe ⊢
  have cL : ce.locals = s3.heap.objs.size := by subst eE; rfl
  generalize eH : upd H2 L (.lst []) = H3 at I3 I4 pg pt pe w0 nfp f3
  generalize e4 : ({ s3 with heap := pushCells (s3.heap.push { cls := .type "dict", data := .dict #[] }) scope.names } : Shared) = s4 at I4 ⊢
  have t4 : tn 0 s4.heap := T.keep _ _ _ t3 (by intro b _ o z; subst e4; exact pushCells_keeps _ _ _ _ (Heap.get?_push_of_some _ z))
  have fpb : ∀ {σ' H' s'}, L2.Inv (X.blk s3 H3 scope ce fp) [] σ' H' s' → (∀ b ∈ fp, H' b = none) → ∀ b ∈ fp, FpOk (X.blk s3 H3 scope ce fp) [] H' b := by
    intro σ' H' s' J' nn b hb
    exact ⟨nn b hb, (J'.ok.exf b hb).1, J'.ok.exfs b hb, .inl hb, (fun x c z => (J'.ok.exf b hb).2 x c z), fun p hp => absurd hp (by show ¬ p ∈ ([] : List (Addr × Obj)) ++ []; simp)⟩
  have loop : codeAny (model X.prog X.w) X.A (.compLoop (.ListComp elt [⟨tg, iter, ifs, 0⟩] scope pos) 0 (.ref it) (.ref L) ce) (compPost (model X.prog X.w) X.A X.xe none (EP X pins σ Q) (.ref L) s3.heap.objs.size) s4 := by
    refine compLoop_any (fun n s' => ∃ i H', L2.Inv (X.blk s3 H3 scope ce fp) [] (wipe σ (own.map (·.2))) H' s' ∧ tn i s'.heap ∧ (∀ b ∈ fp, H' b = none) ∧ W i n H') ?_ m0 ⟨0, H3, I4, t4, nfp, w0⟩
    rintro n s5 ⟨i, H5, I5, t5, n5, w5⟩
    rcases turn i n H5 w5 with ⟨stop, fin⟩ | ⟨go, Nx, hNx, step⟩
    · refine thnF (T.done (X.blk s3 H3 scope ce fp) rfl rfl rfl hc i [] s5 _ H5 (fun _ _ => False) I5 (fpb I5 n5) t5 stop) fun r s6 hr => ?_
      obtain ⟨rfl, I6⟩ := hr
      have I7 : L2.Inv X pins σ H5 s6 := I3.call' (ch := fp) I6.os I6.base I6.hok I6.bare (by intro b hb; exact ⟨(f3 b hb).1.2.2.2.1, (f3 b hb).1.2.1, (f3 b hb).1.2.2.2.2.1, (f3 b hb).1.2.2.2.2.2⟩)
      have nC : H5 s3.heap.objs.size = none := cL ▸ (show H5 ce.locals = none from I6.free)
      obtain ⟨m, hn, _⟩ := I6.loc
      refine ⟨m, cL ▸ (show s6.heap.Ns ce.locals m from hn), fun h'' sb => ?_⟩
      obtain ⟨f0, f1, _, a3, a4, a5⟩ := I3.fpOk (H' := H5) (Nat.le_refl _) nC
      exact ⟨.ref L, H5, I7.turned (t' := s6.toks) (fun b o hb z => (sb.2 b hb).trans z) f0 f1 a3 a4 a5, rfl, fin⟩
    · refine thnF (T.item (X.blk s3 H3 scope ce fp) rfl rfl rfl hc i [] s5 _ H5 (fun _ _ => False) I5 (fpb I5 n5) t5 go) fun r s6 hr => ?_
      obtain ⟨u, rfl, h6⟩ := hr
      refine thnF h6 fun _ s7 h7 => ?_
      obtain ⟨x, H7, I7, r7, y7, t7, n7⟩ := h7
      refine thnF (pg.run _ s7 _ H7 x u _ (I7.pinned (fpb I7 n7) (T.obj _ _ t7)) r7 (step x H7 y7)) fun _ s8 h8 => ?_
      obtain ⟨σ8, H8, I8, w8, q8⟩ := h8
      refine thnF (pt.run _ s8 σ8 H8 _ I8 q8) fun b s9 h9 => ?_
      obtain ⟨H9, I9, q9⟩ := h9
      have again : ∀ {s' H'}, L2.Inv (X.blk s3 H3 scope ce fp) ([] ++ pinsAt fp s7.heap) σ8 H' s' → Nx H' → ∃ m, m < n ∧ ∃ i H', L2.Inv (X.blk s3 H3 scope ce fp) [] (wipe σ (own.map (·.2))) H' s' ∧ tn i s'.heap ∧ (∀ b ∈ fp, H' b = none) ∧ W i m H' := by
        intro s' H' J' nx
        obtain ⟨m', lt, w'⟩ := hNx H' nx
        have kept : ∀ b ∈ fp, ∀ o, s7.heap.get? b = some o → s'.heap.get? b = some o ∧ H' b = none := by
          intro b hb o z
          have y := J'.pin (b, o) (List.mem_append_right _ (List.mem_append_right _ (mem_pinsAt hb z)))
          exact ⟨y.1, y.2.1⟩
        have len : (wipe σ (own.map (·.2))).length = σ8.length := by rw [← w8, wipe_length]
        refine ⟨m', lt, i + 1, H', (J'.unpinned (pins := [])).weak len ?_, T.keep _ _ _ t7 (fun b hb o z => (kept b hb o z).1), ?_, w'⟩
        · intro j v z
          rw [← w8] at z
          exact (wipe_some z).1
        · intro b hb
          obtain ⟨o, z, _⟩ := T.obj _ _ t7 b hb
          exact (kept b hb o z).2
      cases b with
      | false => exact again I9 q9
      | true =>
        refine thnF (pe.run _ s9 σ8 H9 _ I9 q9) fun z s10 h10 => ?_
        obtain ⟨yv, H10, I10, r10, acc, hA, hz, nx⟩ := h10
        exact app_ok (X := X.blk s3 H3 scope ce fp) I10 hA hz r10 fun s11 I11 => again I11 nx
  exact codeAny_compStart_list loop (T.self X.A 0 _ _ _ t4 loop)
end
end FD

set_option Elab.async false
set_option linter.all false
set_option maxRecDepth 100000
namespace FD
open PySem L2 PySem.Spec PyProof.Rows

/-! ### text.replace(a, b).split(c), of written texts, as a comprehension's source -/
section
variable {X : Cx} {ct : List Addr} {W : WX}
theorem fn_dT {P : Program} {w : World} {K : PySem.W.Frag} {mg : Str → Option Value} {base : Heap} {ct : List Addr} {x qual : Str} {st : Stmt} {f : Addr} {fd : FuncData} {N ps : List Str} {k : Nat} {T : DM Fl} (F : Fun K x qual st f fd) (S : FnScope N ps (defScope st))
    (hnc : ∀ y ∈ (defScope st).names, y.2 ≠ .cell) (hps : 1 ≤ ps.length)
    (hbody : ∀ (cdv : Value) (A : Around) (outer : List Env) (s : Shared) (H : Hp) (E : XK), Room k (A.deeper (PyProof.Rows.envOfC qual (defScope st) s.heap.objs.size f cdv)) →
      PSsT (cxOf (L2.CX P w) P w K mg base N qual (defScope st) f cdv A outer s H E) (defBody st) (tS K ct (fun c d _ H' => E c d H') T)) :
    FnOk P w K mg base (L2.CX P w) (k + 1) f fd ps (SpF K ct (runF ps.length N.length T)) := by
  obtain ⟨oc, od, kV, doc, pm, an, cdv, ctv, osl, rfl, lk, hcd⟩ := F.ex
  exact fn_ofT lk hcd S hnc hps (fun _ _ _ _ h => spf_len h) fun A outer s H _ _ E hr h => ⟨_, hbody cdv A outer s H E hr, spf_start h⟩
def replS (y z : Str) : D → Option D
  | .str x => if x.length + (x.length + 1) * z.length ≤ 16777216 then some (.str (Txt.replace x y z)) else none
  | _ => none
def replM (y z : Str) (t : DM D) : DM D := bnd t fun d => lft (replS y z d)
theorem pRepl {o : Expr} {t : DM D} {y z : Str} {j k : Nat} {c0 c1 apos pos : Pos} (ho : PED X ct W o t) (hyz : (y == z) = false := by decide)
    (hst : starEach [.Constant (.str y) j c0, .Constant (.str z) k c1] X.env = [(false, eval (.Constant (.str y) j c0) X.env), (false, eval (.Constant (.str z) k c1) X.env)] := by rfl)
    (hbase : attributeBase o "replace" X.env (eval o X.env) = eval o X.env := by rfl) (hline : (apos.endLine == pos.line) = true := by rfl) :
    PET X (.Call (.Attribute o "replace" apos) [.Constant (.str y) j c0, .Constant (.str z) k c1] [] pos) (tD X.K ct W (replM y z t)) := fun pins s σ H Q h0 I h => by
  refine CwR.pet_replC ho hyz hst hbase hline pins s σ H Q h0 I ?_
  obtain ⟨Φ, G, ρ, E, q⟩ := h
  refine ⟨Φ, G, ρ, E, (Post.bnd q).imp fun d ρ1 G1 H1 s1 E1 q1 v r => ?_⟩
  obtain ⟨d', ed, kk⟩ := lft_post q1.2
  cases r with
  | str x =>
    simp only [replS] at ed
    split at ed
    · rename_i hb
      cases ed
      exact ⟨x, rfl, hb, kk G1 H1 (Same.refl _) E1 _ (.str _)⟩
    · cases ed
  | _ => cases ed
theorem pSplit {o : Expr} {t : DM D} {b : Str} {j : Nat} {c0 apos pos : Pos} (ho : PET X o (tD X.K ct W t)) (hs : starEach [.Constant (.str b) j c0] X.env = [(false, eval (.Constant (.str b) j c0) X.env)] := by rfl)
    (hbase : attributeBase o "split" X.env (eval o X.env) = eval o X.env := by rfl) (hline : (apos.endLine == pos.line) = true := by rfl) :
    PET X (.Call (.Attribute o "split" apos) [.Constant (.str b) j c0] [] pos) (tF X.K ct W (bnd t fun d => lft (splitS d [.str b]))) := fun pins s σ H Q h0 I h => by
  obtain ⟨Φ, G, ρ, E, q⟩ := h
  refine PySem.Call_method1 hbase hs hline (thn (ho pins s σ H (fun v H1 => ∃ G1 ρ1 d, EnvS X.K ct Φ G1 H1 σ ρ1 ∧ R X.K ct G1 v d ∧ Post X.K ct Φ W σ G1 (lft (splitS d [.str b]) ρ1) (fun sl ρ' G' H' => ∀ v, RF X.K ct Φ G' H' σ ρ' v sl → Q v H')) h0 I ⟨Φ, G, ρ, E, (Post.bnd q).imp fun d ρ1 G1 H1 s1 E1 q1 v r => ⟨G1, ρ1, d, E1, r, q1.2⟩⟩) fun v s1 hv => ?_)
  obtain ⟨x, H1, I1, r1, G1, ρ1, d, E1, rd, q1⟩ := hv
  obtain ⟨sl, es, kk⟩ := lft_post q1
  cases rd with
  | str a =>
    obtain ⟨tk, rfl⟩ := _root_.id r1
    refine ⟨"str", _, F.plainAttrs_str, F.slot_str_split, F.type_str_split, typeIs_str _ _ _, (fun _ e => nomatch e), Calls.callWith_builtin rfl (Calls.evalArgs_plain (Calls.spliced_cons ?_))⟩
    refine Calls.Constant_str (Calls.spliced_nil ?_)
    refine mSplit (ct := ct) pins _ σ H1 (.str a) [.str b] _ _ Q (I1.tok _) ⟨tk, rfl⟩ (.cons ⟨_, rfl⟩ .nil) ⟨G1, .str a, [.str b], sl, E1.gh, .str a, .cons (.str b) .nil, es, fun v G' H' x r => ?_⟩
    exact kk G' H' x.gg (E1.ext x) v (r.rf E1)
  | _ => cases es
theorem pFz {e : Expr} {t : DM Sl} (h : PET X e (tF X.K ct W t)) : PET X e (tD X.K ct W (fz t)) := fun pins s σ H Q h0 I q => by
  refine h pins s σ H Q h0 I ?_
  obtain ⟨Φ, G, ρ, E, q⟩ := q
  refine ⟨Φ, G, ρ, E, (Post.bnd q).imp fun sl ρ' G' H' s E' q v r => ?_⟩
  obtain ⟨G2, d, s2, E2, r2, hd⟩ := RF.give E' r
  have hd' : sl.dat = d := by rcases hd with h | h <;> rw [h] <;> rfl
  exact q.2 G2 H' s2 E2 v (by rw [hd']; exact r2)
/-- as a list that is walked -/
theorem pLst {tg e : Expr} {t : DM D} (h : PET X e (tD X.K ct W t)) : PIT X tg e (tI X.K ct W (bnd t fun d => lft (itemsD d))) := fun pins s σ H Rr h0 I q => by
  refine pit_list (tl := tD X.K ct W t) h pins s σ H Rr h0 I ?_
  obtain ⟨Φ, G, ρ, E, q⟩ := q
  refine ⟨Φ, G, ρ, E, (Post.bnd q).imp fun d ρ1 G1 H1 s1 E1 q1 v r => ?_⟩
  obtain ⟨ds, ed, k⟩ := lft_post q1.2
  cases r with
  | lst ha ra =>
    cases ed
    refine ⟨_, rfl, ⟨_, .inl (.inl (E1.gh _ _ ha))⟩, k G1 H1 (Same.refl _) E1 _ fun i G2 H2 s2 s3 => ⟨fun d hd => ?_, fun hi => ?_⟩⟩
    · obtain ⟨x, hx, rx⟩ := ra.get hd
      have sq : SqL X.K H2 _ _ := .inl (.inl (s3 _ _ (s2 _ _ ha)))
      exact ⟨⟨_, x, sq, hx⟩, fun y H3 hy => ⟨G2, by rw [hy.1]; exact .refl s3, by
        have := hy.2 _ sq
        rw [hx] at this; cases this
        exact rx.mono s2⟩⟩
    · exact ⟨_, .inl (.inl (s3 _ _ (s2 _ _ ha))), by rw [ra.length]; exact hi⟩
  | _ => cases ed
theorem pLc (own : List (Str × Nat)) {elt tg iter : Expr} {ifs : List Expr} {scope : Scope} {pos : Pos} {t : DM (List D)} {m : Tg} {c : DM Bool} {e : DM D} (hc : X.calm = true) (hN : X.N.Nodup) (hi : PIT X tg iter (tI X.K ct W t)) (ok : BlkOk X.N X.env.scope scope own)
    (hg : ∀ (s : Shared) (H : Hp) (C : Addr) (cl : List (Str × Addr)) (fp : List Addr), PGw (X.blk s H scope (compEnvC scope cl C X.env) fp) ct (own.map (·.2)) tg m)
    (ht : ∀ (s : Shared) (H : Hp) (C : Addr) (cl : List (Str × Addr)) (fp : List Addr), PTsD (X.blk s H scope (compEnvC scope cl C X.env) fp) ct W0 ifs c)
    (he : ∀ (s : Shared) (H : Hp) (C : Addr) (cl : List (Str × Addr)) (fp : List Addr), PED (X.blk s H scope (compEnvC scope cl C X.env) fp) ct W0 elt e) (hs : ∀ x, foldedSetIterable iter X.env x = pure x := by intro _; rfl) :
    PET X (.ListComp elt [⟨tg, iter, ifs, 0⟩] scope pos) (tF X.K ct W (lcM (own.map (·.2)) t m c e)) := fun pins s σ H Q h0 I q => by
  have h := tLcF (own := own) q
  refine lcAt (own := own) (g := tGw X.K ct (own.map fun x => x.2) m) (tt := tTD X.K ct W0 c) (te := tD X.K ct W0 e) hc hN ok hg ht he hs I ?_
  exact hi pins s σ H _ h0 I h
theorem pRet {e : Expr} {t : DM Sl} {pos : Pos} (h : PET X e (tF X.K ct W t)) : PSsT X [.Return (some e) pos] (tS X.K ct W (retM t)) := fun pins s σ H D h0 I q => by
  refine CwR.psst_one (CwR.pst_ret h) pins s σ H D h0 I ?_
  obtain ⟨Φ, G, ρ, E, q⟩ := q
  exact ⟨Φ, G, ρ, E, (PostS.bnd q).imp fun sl ρ1 G1 H1 s1 E1 q1 v r => q1.2 σ G1 H1 (Same.refl _) E1 v r⟩
end
end FD

set_option Elab.async false
set_option linter.all false
set_option maxRecDepth 100000
namespace FD
open PySem L2

/-! ### defs that may be called -/
structure Cal (P : Program) (w : World) (K : PySem.W.Frag) (mg : Str → Option Value) (base : Heap) (ct : List Addr) (x : Str) (k : Nat) (ps : List Str) (F : DF) : Prop where
  ex : ∃ f fd, mg x = some (.ref f) ∧ PySem.W.keepIn K (.ref f) = true ∧ Binds K fd ps [] ∧ FnOk P w K mg base (L2.CX P w) k f fd ps (SpF K ct F)
structure Dec (K : PySem.W.Frag) (mg : Str → Option Value) (x qual : Str) (st : Stmt) (ps : List Str) : Prop where
  ex : ∃ f fd, Fun K x qual st f fd ∧ mg x = some (.ref f) ∧ Binds K fd ps []
theorem cal_of {P : Program} {w : World} {K : PySem.W.Frag} {mg : Str → Option Value} {base : Heap} {ct : List Addr} {x qual : Str} {st : Stmt} {k : Nat} {ps : List Str} {F : DF} (d : Dec K mg x qual st ps)
    (h : ∀ f fd, Fun K x qual st f fd → FnOk P w K mg base (L2.CX P w) k f fd ps (SpF K ct F)) : Cal P w K mg base ct x k ps F := by
  obtain ⟨f, fd, F1, m, b⟩ := d.ex
  exact ⟨f, fd, m, F1.kp, b, h f fd F1⟩
theorem dec_of {K : PySem.W.Frag} {mg : Str → Option Value} {h : Heap} {x qual : Str} {st : Stmt} {f : Addr} {oc : Value} {od an : Option Addr} {osl : Array (Option Value)} {kV doc pm cdv ct : Value} {ps : List Str} (X : K.In h) (G : h.Ns mainGlobals mg)
    (a : PySem.W.nsIn K mainGlobals x = some (some (.ref f))) (l : K.lookup f = some ⟨oc, od, .func (PySem.W.fnOf x qual (defArgs st) (defBody st) (defScope st) .none kV doc pm an cdv ct), osl⟩)
    (c : PySem.W.codeIn K cdv qual = true) (k : PySem.W.keepIn K (.ref f) = true)
    (hb : ∀ (kV doc pm : Value) (an : Option Addr) (cdv ct : Value) (us : List Value), us.length = ps.length → bindArgs (PySem.W.fnOf x qual (defArgs st) (defBody st) (defScope st) .none kV doc pm an cdv ct) ⟨us, []⟩ = pure (ps.zip us)) : Dec K mg x qual st ps :=
  ⟨f, _, fun_mk l c k, PySem.W.mg_of X G a, (fun_mk l c k).binds hb⟩
section
variable {X : Cx} {ct : List Addr} {W : WX} {e : Expr} {es : List Expr} {pos p : Pos} {x : Str}
theorem fC {F : DF} {t : DM (List Ar)} {k : Nat} {ps : List Str} (tk : Takes X W) (C : Cal X.prog X.w X.K X.mg X.base ct x k ps F) (hr : Room k X.A)
    (ha : PAD X ct W (e :: es) t) (hg : Gl X x := by rfl) (hdb : (x == ("__debug__" : Str)) = false := by decide) (he : starEach (e :: es) X.env = (false, eval e X.env) :: starEach es X.env := by rfl) (hpl : (backTo pos (starEach es X.env)).any (·.1) = false := by rfl) :
    PEF X ct W (.Call (.Name x p) (e :: es) [] pos) (callA F t) := by
  obtain ⟨f, fd, m, kp, b, hF⟩ := C.ex
  exact fCall tk hF hr m kp b ha hg hdb he hpl
theorem fC0 {F : DF} {k : Nat} (tk : Takes X W) (C : Cal X.prog X.w X.K X.mg X.base ct x k [] F) (hr : Room k X.A) (hg : Gl X x := by rfl) (hdb : (x == ("__debug__" : Str)) = false := by decide) : PEF X ct W (.Call (.Name x p) [] [] pos) (callA F arNil) := by
  obtain ⟨f, fd, m, kp, b, hF⟩ := C.ex
  exact fCall0 tk hF hr m kp b hg hdb
/-- -e -/
def negS : D → Option D
  | .int i => some (.int (-i))
  | _ => none
def negM (t : DM D) : DM D := bnd t fun d => lft (negS d)
theorem dNeg {t : DM D} (h : PED X ct W e t) : PED X ct W (.UnaryOp .USub e pos) (negM t) := by
  refine weakE (pe_un un_neg h) fun σ H Q q => ?_
  obtain ⟨Φ, G, ρ, E, q⟩ := q
  refine ⟨Φ, G, ρ, E, (Post.bnd q).imp fun d ρ1 G1 H1 s1 E1 q1 v r => ?_⟩
  obtain ⟨d', ed, k⟩ := lft_post q1.2
  cases r with
  | int i => cases ed; exact ⟨i, rfl, k G1 H1 (Same.refl _) E1 _ (.int _)⟩
  | _ => cases ed
end
/-! ### the law's own end -/
theorem spf_law {K : PySem.W.Frag} {ct : List Addr} {F : DF} (h : ∀ ns : List Int, ns.length ≤ 63 → ∃ as, F [.sh (.scr ns)] = some (.ok (.sh (.bl true)) as)) {H : Hp} {a : Addr} {ns : List Int} (hl : ns.length ≤ 63) (hS : SqL K H a (ns.map V.int)) :
    SpF K ct F [.ref a] H (fun v _ => v = .bl true) fun _ _ _ => False := by
  obtain ⟨as, e⟩ := h ns hl
  have sG : Same (fun b => if b = a then H a else none) H := fun b o z => by
    simp only at z
    split at z
    · rename_i hb; rw [hb]; exact z
    · cases z
  refine ⟨⟨H, (fun b => if b = a then H a else none), []⟩, (fun b => if b = a then H a else none), [.sh (.scr ns)], ?_, ?_⟩
  · refine ⟨rfl, sG, Same.refl _, fun b o z _ => z, fun b o z => ⟨o, z⟩, fun b o _ z => z, (fun i p z => nomatch z), fun i d z => ?_, fun i d z => ?_, fun i j di dj p hij hi hj _ _ => ?_⟩
    · cases i with
      | zero =>
        cases z
        refine ⟨.ref a, rfl, .scr ?_⟩
        rcases hS with (z | ⟨o, z⟩) | z
        · exact .inl (.inl (by simp only [if_true]; exact z))
        · exact .inl (.inr ⟨o, by simp only [if_true]; exact z⟩)
        · exact .inr z
      | succ i => simp at z
    · cases i with
      | zero => cases z
      | succ i => simp [isOwn] at z
    · cases i with
      | zero => cases hi
      | succ i => simp [isOwn] at hi
  · show Post K ct _ _ _ _ (F [.sh (.scr ns)]) _
    rw [e]
    intro G' H' s E v r
    cases r
    rfl
end FD

set_option Elab.async false
set_option linter.all false
set_option maxRecDepth 100000
namespace FD
open PySem L2

/-! ### a new thing lent at once: f(g(..), ..), the first parameter's thing is changed -/
section
variable {K : PySem.W.Frag} {ct : List Addr} {Φ : Fm} {G H G' H' : Hp} {σ : St} {ρ : List Sl} {v : V} {d : D}
theorem app_get {α : Type} (l : List α) (x : α) (i : Nat) : (l ++ [x])[i]? = if i = l.length then some x else l[i]? := by
  by_cases h : i < l.length
  · rw [List.getElem?_append_left h, if_neg (by omega)]
  · by_cases h2 : i = l.length
    · subst h2; rw [if_pos rfl, List.getElem?_append_right (Nat.le_refl _)]; simp
    · rw [if_neg h2, List.getElem?_eq_none (by simp; omega), List.getElem?_eq_none (by omega)]
theorem EnvS.push (E : EnvS K ct Φ G H σ ρ) (r : RF K ct Φ G H σ ρ v (.ow d)) : EnvS K ct Φ G H (σ ++ [some v]) (ρ ++ [.ow d]) := by
  have h := E.pad 1
  have hl : ρ.length < (ρ ++ List.replicate 1 Sl.un).length := by simp
  have e := h.set (i := ρ.length) (sl := .ow d) (v := v) (ρ' := ρ ++ [.ow d]) ?_ ?_
  · have e1 : (σ ++ List.replicate 1 none).set ρ.length (some v) = σ ++ [some v] := by
      rw [E.len]; simp
    rw [e1] at e
    exact e
  · obtain ⟨p, rfl, h1, h2, h3, h4⟩ := r
    refine ⟨p, rfl, h1, h2, h3, fun i d' hi ei => ?_⟩
    have e1 : (ρ ++ List.replicate 1 Sl.un)[i]? = if i = ρ.length then some .un else ρ[i]? := app_get ρ .un i
    rw [e1] at hi
    split at hi
    · cases hi
    · rename_i hne
      have e2 : (σ ++ List.replicate 1 none)[i]? = if i = σ.length then some none else σ[i]? := app_get σ none i
      rw [e2, if_neg (by rw [← E.len]; exact hne)] at ei
      exact h4 i d' hi ei
  · unfold setSl
    have e1 : (ρ ++ List.replicate 1 Sl.un)[ρ.length]? = some .un := by
      have := app_get ρ Sl.un ρ.length
      rw [if_pos rfl] at this; exact this
    rw [e1]
    simp
theorem EnvS.pop {s : Sl} {x : Option V} (hl : ρ.length = σ.length) (E : EnvS K ct Φ G H (σ ++ [x]) (ρ ++ [s])) (hs : ∀ d, s ≠ .pn d) : EnvS K ct Φ G H σ ρ := by
  have g1 : ∀ (i : Nat) (y : Sl), ρ[i]? = some y → (ρ ++ [s])[i]? = some y ∧ i ≠ σ.length := fun i y h => by
    have := (List.getElem?_eq_some_iff.mp h).1
    exact ⟨by rw [List.getElem?_append_left this]; exact h, by omega⟩
  have g2 : ∀ (i : Nat), i ≠ σ.length → (σ ++ [x])[i]? = σ[i]? := fun i h => by rw [app_get, if_neg h]
  have g3 : ∀ (i : Nat) (d : D), isOwn ρ[i]? = some d → isOwn (ρ ++ [s])[i]? = some d ∧ (ρ ++ [s])[i]? = ρ[i]? ∧ i ≠ σ.length := fun i d h => by
    cases e : ρ[i]? with
    | none => rw [e] at h; cases h
    | some y =>
      obtain ⟨a, b⟩ := g1 i y e
      rw [e] at h
      rw [a]; exact ⟨h, rfl, b⟩
  refine ⟨hl, E.gh, E.g0, E.fr, E.dom, E.gn, fun i p h => ?_, fun i d h => ?_, fun i d h => ?_, fun i j di dj p hij hi hj ei ej => ?_⟩
  · obtain ⟨a1, d, a2⟩ := E.pin i p h
    have hi : i ≠ σ.length := fun z => by
      rw [app_get, if_pos (by omega)] at a2
      cases a2
      exact hs d rfl
    rw [g2 i hi] at a1
    rw [app_get, if_neg (by omega)] at a2
    exact ⟨a1, d, a2⟩
  · obtain ⟨a, b⟩ := g1 i _ h
    obtain ⟨v, e1, e2⟩ := E.sh i d a
    rw [g2 i b] at e1
    exact ⟨v, e1, e2⟩
  · obtain ⟨a, b, c⟩ := g3 i d h
    have := E.own i d a
    rw [g2 i c, b] at this
    exact this
  · obtain ⟨a, _, c⟩ := g3 i di hi
    obtain ⟨a', _, c'⟩ := g3 j dj hj
    rw [← g2 i c] at ei
    rw [← g2 j c'] at ej
    exact E.ne i j di dj p hij a a' ei ej
theorem own_app {i : Nat} {s : Sl} (h : i < ρ.length) : own? (ρ ++ [s])[i]? = own? ρ[i]? := by rw [List.getElem?_append_left h]
theorem argSls_app {s : Sl} : ∀ {ars : List Ar} {as : List Sl}, argSls ρ ars = some as → argSls (ρ ++ [s]) ars = some as ∧ ∀ i ∈ lends ars, i < ρ.length
  | [], as, h => by cases h; exact ⟨rfl, fun i z => nomatch z⟩
  | .val d :: r, as, h => by
    simp only [argSls, argSl, Option.bind_some, Option.map_eq_some_iff] at h
    obtain ⟨l, e, rfl⟩ := h
    obtain ⟨a, b⟩ := argSls_app (s := s) e
    refine ⟨?_, b⟩
    simp only [argSls, argSl, Option.bind_some, a]; rfl
  | .lend k :: r, as, h => by
    simp only [argSls, argSl, Option.bind_eq_some_iff, Option.map_eq_some_iff] at h
    obtain ⟨s1, ⟨⟨d, f⟩, e1, rfl⟩, l, e2, rfl⟩ := h
    obtain ⟨a, b⟩ := argSls_app (s := s) e2
    have hk : k < ρ.length := by
      cases z : ρ[k]? with
      | none => rw [z] at e1; cases e1
      | some y => exact (List.getElem?_eq_some_iff.mp z).1
    refine ⟨?_, fun i hi => ?_⟩
    · simp only [argSls, argSl, own_app hk, e1, a]; rfl
    · rcases List.mem_cons.mp hi with rfl | hi
      · exact hk
      · exact b i hi
theorem back1_app {s : Sl} {i : Nat} (h : i < ρ.length) : back1 (ρ ++ [s]) i d = back1 ρ i d ++ [s] := by
  unfold back1
  rw [own_app h]
  cases own? ρ[i]? with
  | none => rfl
  | some x => simp only; rw [List.set_append_left _ _ h]
theorem back_app {s : Sl} : ∀ (ars : List Ar) (as ρ : List Sl), (∀ i ∈ lends ars, i < ρ.length) → back (ρ ++ [s]) ars as = back ρ ars as ++ [s]
  | [], _, _, _ => by simp [back]
  | .val _ :: r, [], _, _ => by simp [back]
  | .lend _ :: r, [], _, _ => by simp [back]
  | .val _ :: r, x :: as, ρ, h => by simp only [back]; exact back_app r as ρ h
  | .lend i :: r, x :: as, ρ, h => by
    simp only [back]
    rw [back1_app (h i List.mem_cons_self)]
    exact back_app r as _ fun j hj => by rw [back1_length]; exact h j (List.mem_cons_of_mem _ hj)
end
def callF1 (F : DF) (d : D) (ars : List Ar) : DM Sl := fun ρ => match argSls ρ ars with
  | none => none
  | some as => if nodupN (lends ars) then (match F (.pn d :: as) with
      | some (.ok sl (_ :: as')) => some (.ok sl (back ρ ars as'))
      | some (.ex x (_ :: as')) => some (.ex x (back ρ ars as'))
      | _ => none) else none
def callT (F : DF) (t0 : DM Sl) (t : DM (List Ar)) : DM Sl := bnd t0 fun sl => match sl with
  | .ow d => bnd (prot t) fun ars => callF1 F d ars
  | _ => fun _ => none
section
variable {K : PySem.W.Frag} {ct : List Addr} {Φ : Fm} {G H : Hp} {σ : St} {ρ : List Sl}
theorem ArR.push {G : Hp} {x : Option V} : ∀ {vs : List V} {ars : List Ar}, ArRs K ct G σ vs ars → ArRs K ct G (σ ++ [x]) vs ars
  | _, _, .nil => .nil
  | _, .val d :: r, .cons h t => .cons h (ArR.push t)
  | _, .lend i :: r, .cons (v := v) h t => by
    have h' : σ[i]? = some (some v) := h
    refine .cons ?_ (ArR.push t)
    show (σ ++ [x])[i]? = some (some v)
    rw [List.getElem?_append_left (List.getElem?_eq_some_iff.mp h').1]; exact h'
theorem call_post1 {W : WX} {F : DF} {ars : List Ar} {v : V} {d : D} {vs : List V} {k : Sl → List Sl → Hp → Hp → Prop} (E : EnvS K ct Φ G H σ ρ) (r0 : RF K ct Φ G H σ ρ v (.ow d)) (q : Post K ct Φ W σ G (callF1 F d ars ρ) k) (r : ArRs K ct G σ vs ars) {Q : VK}
    (hk : ∀ sl ρ' G' H', Same G G' → EnvS K ct Φ G' H' σ ρ' → k sl ρ' G' H' → ∀ v, RF K ct Φ G' H' σ ρ' v sl → Q v H') : SpF K ct F (v :: vs) H Q (fun c d H' => W c d σ H') := by
  unfold callF1 at q
  cases h : argSls ρ ars with
  | none => rw [h] at q; exact q.elim
  | some as =>
    rw [h] at q
    simp only at q
    split at q
    · rename_i hn
      have E1 := E.push r0
      obtain ⟨h1, hlt⟩ := argSls_app (s := .ow d) h
      have hrl : ρ.length = σ.length := E.len
      have h2 : argSls (ρ ++ [.ow d]) (.lend ρ.length :: ars) = some (.pn d :: as) := by
        have e1 : (ρ ++ [Sl.ow d])[ρ.length]? = some (.ow d) := by rw [app_get, if_pos rfl]
        simp only [argSls, argSl, e1, own?, h1]; rfl
      have hn2 : nodupN (lends (.lend ρ.length :: ars)) = true := by
        simp only [lends, nodupN, Bool.and_eq_true, Bool.not_eq_true', hn, and_true]
        simp only [List.contains_eq_mem, decide_eq_false_iff_not]
        intro z
        exact absurd (hlt _ z) (Nat.lt_irrefl _)
      have r2 : ArRs K ct G (σ ++ [some v]) (v :: vs) (.lend ρ.length :: ars) := by
        refine .cons ?_ (ArR.push r)
        show (σ ++ [some v])[ρ.length]? = some (some v)
        rw [app_get, if_pos hrl]
      have bk : ∀ (s0 : Sl) (as' : List Sl), back (ρ ++ [.ow d]) (.lend ρ.length :: ars) (s0 :: as') = back ρ ars as' ++ [.ow s0.dat] := fun s0 as' => by
        have e1 : back1 (ρ ++ [.ow d]) ρ.length s0.dat = ρ ++ [.ow s0.dat] := by
          have e1 : (ρ ++ [Sl.ow d])[ρ.length]? = some (.ow d) := by rw [app_get, if_pos rfl]
          unfold back1
          rw [e1]
          simp [own?]
        simp only [back]
        rw [e1, back_app ars as' ρ hlt]
      refine ⟨_, G, _, E1.entry h2 hn2 r2, ?_⟩
      cases hF : F (.pn d :: as) with
      | none => rw [hF] at q; exact q.elim
      | some o =>
        rw [hF] at q
        cases o with
        | ok sl as' =>
          cases as' with
          | nil => exact q.elim
          | cons s0 as' =>
            intro G' H' s E' v' rv
            have E2 := E1.exit h2 hn2 r2 s E'
            rw [bk] at E2
            have E3 := EnvS.pop (by rw [back_length]; exact hrl) E2 (by simp)
            have rv2 := RF.exit E1 h2 hn2 r2 rv
            rw [bk] at rv2
            refine hk sl _ G' H' s E3 (q G' H' s E3) v' ?_
            cases sl with
            | un => exact rv2.elim
            | pn d => exact rv2.elim
            | sh d => exact rv2
            | ow d2 =>
              obtain ⟨p, rfl, z1, z2, z3, z4⟩ := rv2
              refine ⟨p, rfl, z1, z2, z3, fun i d' hi ei => ?_⟩
              have hil : i < (back ρ ars as').length := by
                cases y : (back ρ ars as')[i]? with
                | none => rw [y] at hi; cases hi
                | some y' => exact (List.getElem?_eq_some_iff.mp y).1
              refine z4 i d' (by rw [List.getElem?_append_left hil]; exact hi) ?_
              rw [List.getElem?_append_left (by rw [back_length] at hil; omega)]; exact ei
        | ex x as' =>
          cases as' with
          | nil => exact q.elim
          | cons s0 as' =>
            intro G' H' c dx s E' rx
            have E2 := E1.exit h2 hn2 r2 s E'
            rw [bk] at E2
            exact q G' H' c dx s (EnvS.pop (by rw [back_length]; exact hrl) E2 (by simp)) rx
    · exact q.elim
end
section
variable {X : Cx} {ct : List Addr} {W : WX} {e : Expr} {es : List Expr} {pos p : Pos} {x : Str}
/-- the arguments, the first one a new thing -/
def tTm (K : PySem.W.Frag) (ct : List Addr) (W : WX) (t0 : DM Sl) (t : DM (List Ar)) : TA := fun σ H Q => ∃ Φ G ρ, EnvS K ct Φ G H σ ρ ∧ Post K ct Φ W σ G (bnd t0 (fun sl => match sl with | .ow d => bnd (prot t) fun ars => ret (d, ars) | _ => fun _ => none) ρ)
    (fun dd ρ' G' H' => ∀ v vs, RF K ct Φ G' H' σ ρ' v (.ow dd.1) → ArRs K ct G' σ vs dd.2 → Q (v :: vs) H')
theorem fCT {F : DF} {t0 : DM Sl} {t : DM (List Ar)} {k : Nat} {ps : List Str} (tk : Takes X W) (C : Cal X.prog X.w X.K X.mg X.base ct x k ps F) (hr : Room k X.A)
    (h0 : PEF X ct W e t0) (ha : PAD X ct W es t) (hg : Gl X x := by rfl) (hdb : (x == ("__debug__" : Str)) = false := by decide) (he : starEach (e :: es) X.env = (false, eval e X.env) :: starEach es X.env := by rfl) (hpl : (backTo pos (starEach es X.env)).any (·.1) = false := by rfl) :
    PEF X ct W (.Call (.Name x p) (e :: es) [] pos) (callT F t0 t) := by
  obtain ⟨f, fd, m, kp, b, hF⟩ := C.ex
  refine weakE (pe_callS hF hr hg m kp b (fun σ => passAt tk σ) (pa_cons h0 ha he) hdb he hpl) fun σ H Q q => ?_
  obtain ⟨Φ, G, ρ, E, q⟩ := q
  refine ⟨Φ, G, ρ, E, (Post.bnd q).imp fun sl ρ1 G1 H1 s1 E1 q1 v1 r1 => ?_⟩
  cases sl with
  | un => exact q1.2.elim
  | pn d => exact q1.2.elim
  | sh d => exact q1.2.elim
  | ow d =>
    refine ⟨_, G1, pinAll ρ1, E1.rebase, (prot_post E1 (Post.bnd q1.2)).imp fun ars ρ2 G2 H2 s2 E2 q2 vs rs => ?_⟩
    obtain ⟨s3, E3, E4, _, q3⟩ := q2
    exact call_post1 E4 (RF.over E1 r1 s3 E3) q3 rs fun sl ρ' G' H' s E' kk v rv => kk v rv
end
/-! ### a list, a tuple, a text walked -/
def itemsA : D → Option (List D)
  | .lst ds => some ds
  | .tup ds => some ds
  | .str z => some (z.cps.toList.map fun c => .str ⟨#[c]⟩)
  | _ => none
theorem iAny {X : Cx} {ct : List Addr} {W : WX} {tg e : Expr} {t : DM D} (h : PED X ct W e t) : PID X ct W tg e (bnd t fun d => lft (itemsA d)) := by
  refine ⟨fun pins s σ H Q I q => ?_⟩
  obtain ⟨Φ, G, ρ, E, q⟩ := q
  have key : ∀ (g : D → Option (List D)), (∀ d ρ', t ρ = some (.ok d ρ') → g d = itemsA d) → tI X.K ct W (bnd t fun d => lft (g d)) σ H Q := fun g hg => by
    refine ⟨Φ, G, ρ, E, ?_⟩
    unfold bnd at q ⊢
    cases e : t ρ with
    | none => rw [e] at q; exact q
    | some o =>
      rw [e] at q
      cases o with
      | ex x ρ' => exact q
      | ok d ρ' => simp only [hg d ρ' e]; exact q
  cases e : t ρ with
  | none => exact (iLst h).run pins s σ H Q I (key itemsD (by intro d ρ' z; rw [e] at z; cases z))
  | some o =>
    cases o with
    | ex x ρ' => exact (iLst h).run pins s σ H Q I (key itemsD (by intro d ρ' z; rw [e] at z; cases z))
    | ok d ρ' =>
      cases d with
      | tup ds => exact (iTup h).run pins s σ H Q I (key itemsT (by intro d ρ' z; rw [e] at z; cases z; rfl))
      | str z => exact (iStrD h).run pins s σ H Q I (key itemsS (by intro d ρ' z; rw [e] at z; cases z; rfl))
      | _ => exact (iLst h).run pins s σ H Q I (key itemsD (by intro d ρ' z; rw [e] at z; cases z; rfl))
end FD

set_option Elab.async false
set_option linter.all false
set_option maxRecDepth 100000
namespace FD
open PySem L2

/-! ### reckoning with denotations -/
def Wp {α : Type} (t : DM α) (ρ : List Sl) (Q : α → List Sl → Prop) : Prop := ∃ a ρ', t ρ = some (.ok a ρ') ∧ Q a ρ'
section
variable {α β : Type} {ρ : List Sl}
theorem Wp.imp {t : DM α} {Q Q' : α → List Sl → Prop} (h : Wp t ρ Q) (hq : ∀ a ρ', Q a ρ' → Q' a ρ') : Wp t ρ Q' := by
  obtain ⟨a, ρ', e, q⟩ := h
  exact ⟨a, ρ', e, hq a ρ' q⟩
theorem ok_iff {x : α} {y : List Sl} {Q : α → List Sl → Prop} : (∃ a ρ', some (Out.ok x y) = some (Out.ok a ρ') ∧ Q a ρ') ↔ Q x y :=
  ⟨fun ⟨_, _, e, q⟩ => by cases e; exact q, fun q => ⟨x, y, rfl, q⟩⟩
theorem wp_bnd {t : DM α} {f : α → DM β} {Q : β → List Sl → Prop} : Wp (bnd t f) ρ Q ↔ Wp t ρ (fun a ρ1 => Wp (f a) ρ1 Q) := by
  unfold Wp bnd
  constructor
  · rintro ⟨b, ρ', e, q⟩
    cases h : t ρ with
    | none => rw [h] at e; cases e
    | some o =>
      cases o with
      | ex x ρ1 => rw [h] at e; cases e
      | ok a ρ1 => rw [h] at e; exact ⟨a, ρ1, rfl, b, ρ', e, q⟩
  · rintro ⟨a, ρ1, h, b, ρ', e, q⟩
    rw [h]
    exact ⟨b, ρ', e, q⟩
theorem wp_ret {a : α} {Q : α → List Sl → Prop} : Wp (ret a) ρ Q ↔ Q a ρ := by
  unfold Wp ret
  constructor
  · rintro ⟨b, ρ', e, q⟩; cases e; exact q
  · intro q; exact ⟨a, ρ, rfl, q⟩
theorem wp_lft {o : Option α} {Q : α → List Sl → Prop} : Wp (lft o) ρ Q ↔ ∃ a, o = some a ∧ Q a ρ := by
  unfold Wp lft
  cases o with
  | none => simp
  | some a => rw [ok_iff]; simp
theorem wp_get {i : Nat} {Q : D → List Sl → Prop} : Wp (get i) ρ Q ↔ ∃ d, ρ[i]? = some (.sh d) ∧ Q d ρ := by
  unfold Wp get
  cases h : ρ[i]? with
  | none => simp
  | some s => cases s <;> first | (rw [ok_iff]; simp; done) | simp
theorem wp_setF {i : Nat} {sl : Sl} {Q : Fl → List Sl → Prop} : Wp (setF i sl) ρ Q ↔ ∃ ρ', setSl i sl ρ = some ρ' ∧ Q .nx ρ' := by
  unfold Wp setF
  cases h : setSl i sl ρ with
  | none => simp
  | some s => simp only; rw [ok_iff]; simp
theorem wp_ite {p : Prop} [Decidable p] {t u : DM α} {Q : α → List Sl → Prop} : Wp (if p then t else u) ρ Q ↔ (p → Wp t ρ Q) ∧ (¬ p → Wp u ρ Q) := by
  by_cases h : p <;> simp [h]
def flK (u : DM Fl) (Q : Fl → List Sl → Prop) : Fl → List Sl → Prop := fun fl ρ => match fl with
  | .nx => Wp u ρ Q
  | fl => Q fl ρ
theorem flK_nx {u : DM Fl} {Q : Fl → List Sl → Prop} : flK u Q .nx ρ = Wp u ρ Q := rfl
theorem flK_rt {u : DM Fl} {Q : Fl → List Sl → Prop} {sl : Sl} : flK u Q (.rt sl) ρ = Q (.rt sl) ρ := rfl
theorem flK_bk {u : DM Fl} {Q : Fl → List Sl → Prop} : flK u Q .bk ρ = Q .bk ρ := rfl
theorem flK_ct {u : DM Fl} {Q : Fl → List Sl → Prop} : flK u Q .ct ρ = Q .ct ρ := rfl
theorem wp_seq {t u : DM Fl} {Q : Fl → List Sl → Prop} : Wp (seqM t u) ρ Q ↔ Wp t ρ (flK u Q) := by
  unfold seqM
  rw [wp_bnd]
  constructor
  · intro h
    refine h.imp fun fl ρ' q => ?_
    cases fl with
    | nx => exact q
    | rt sl => exact (wp_ret (a := Fl.rt sl) (Q := Q)).mp q
    | bk => exact (wp_ret (a := Fl.bk) (Q := Q)).mp q
    | ct => exact (wp_ret (a := Fl.ct) (Q := Q)).mp q
  · intro h
    refine h.imp fun fl ρ' q => ?_
    cases fl with
    | nx => exact q
    | rt sl => exact (wp_ret (a := Fl.rt sl)).mpr q
    | bk => exact (wp_ret (a := Fl.bk)).mpr q
    | ct => exact (wp_ret (a := Fl.ct)).mpr q
/-- a test's fork -/
theorem wp_ifM {c : DM Bool} {t u : DM α} {Q : α → List Sl → Prop} : Wp (ifM c t u) ρ Q ↔ Wp c ρ (fun b ρ1 => if b = true then Wp t ρ1 Q else Wp u ρ1 Q) := by
  unfold ifM
  rw [wp_bnd]
  constructor <;> (intro h; refine h.imp fun b ρ' q => ?_; cases b <;> exact q)
theorem wp_bor {fl : α → Bool} {i : Nat} {t : DM α} {Q : α → List Sl → Prop} : Wp (bor fl i t) ρ Q ↔ ∃ ρ1, borS i ρ = some ρ1 ∧ Wp t ρ1 (fun a ρ2 => fl a = true ∧ ρ2.all flatO = true ∧ Q a (zipB ρ ρ2)) := by
  unfold Wp bor
  cases h : borS i ρ with
  | none => simp
  | some ρ1 =>
    simp only [Option.some.injEq, exists_eq_left']
    cases h2 : t ρ1 with
    | none => simp
    | some o =>
      cases o with
      | ex x ρ2 => simp
      | ok a ρ2 =>
        simp only
        rw [ok_iff (Q := fun a ρ2 => fl a = true ∧ ρ2.all flatO = true ∧ Q a (zipB ρ ρ2))]
        by_cases hc : (fl a && ρ2.all flatO) = true
        · rw [if_pos hc, ok_iff]
          rw [Bool.and_eq_true] at hc
          exact ⟨fun q => ⟨hc.1, hc.2, q⟩, fun q => q.2.2⟩
        · rw [if_neg hc]
          constructor
          · rintro ⟨_, _, e, _⟩; cases e
          · rintro ⟨h1, h2, _⟩; rw [h1, h2] at hc; exact absurd rfl hc
theorem wp_prot {t : DM α} {Q : α → List Sl → Prop} : Wp (prot t) ρ Q ↔ Wp t (pinAll ρ) (fun a ρ' => Q a (unpin ρ ρ')) := by
  unfold Wp prot
  cases h : t (pinAll ρ) with
  | none => simp
  | some o =>
    cases o with
    | ex x ρ2 => simp
    | ok a ρ2 => simp only; rw [ok_iff, ok_iff (Q := fun a ρ' => Q a (unpin ρ ρ'))]
theorem wp_callF {F : DF} {ars : List Ar} {Q : Sl → List Sl → Prop} : Wp (callF F ars) ρ Q ↔ ∃ as, argSls ρ ars = some as ∧ nodupN (lends ars) = true ∧ Wp F as (fun sl as' => Q sl (back ρ ars as')) := by
  unfold Wp callF
  cases h : argSls ρ ars with
  | none => simp
  | some as =>
    simp only [Option.some.injEq, exists_eq_left']
    by_cases hn : nodupN (lends ars) = true
    · rw [if_pos hn]
      cases h2 : F as with
      | none => simp
      | some o =>
        cases o with
        | ex x ρ2 => simp
        | ok a ρ2 => simp only; rw [ok_iff, ok_iff (Q := fun sl as' => Q sl (back ρ ars as'))]; exact ⟨fun q => ⟨hn, q⟩, fun q => q.2⟩
    · rw [if_neg hn]
      constructor
      · rintro ⟨_, _, e, _⟩; cases e
      · rintro ⟨h1, _⟩; exact absurd h1 hn
theorem wp_callF1 {F : DF} {d : D} {ars : List Ar} {Q : Sl → List Sl → Prop} (h : ∃ as, argSls ρ ars = some as ∧ nodupN (lends ars) = true ∧ Wp F (.pn d :: as) (fun sl as' => ∃ s0 as2, as' = s0 :: as2 ∧ Q sl (back ρ ars as2))) : Wp (callF1 F d ars) ρ Q := by
  obtain ⟨as, e, hn, sl, as', e2, s0, as2, rfl, q⟩ := h
  unfold Wp callF1
  rw [e]
  simp only
  rw [if_pos hn, e2]
  exact ⟨_, _, rfl, q⟩
theorem wp_callT {F : DF} {t0 : DM Sl} {t : DM (List Ar)} {Q : Sl → List Sl → Prop} (h : Wp t0 ρ (fun sl ρ1 => ∃ d, sl = .ow d ∧ Wp (prot t) ρ1 (fun ars ρ2 => Wp (callF1 F d ars) ρ2 Q))) : Wp (callT F t0 t) ρ Q := by
  unfold callT
  rw [wp_bnd]
  refine h.imp fun sl ρ1 q => ?_
  obtain ⟨d, rfl, q⟩ := q
  exact wp_bnd.mpr q
theorem wp_lend {i : Nat} {r : DM (List Ar)} {Q : List Ar → List Sl → Prop} : Wp (arLend i r) ρ Q ↔ (own? ρ[i]?).isSome = true ∧ Wp r ρ (fun as ρ1 => Q (.lend i :: as) ρ1) := by
  unfold arLend
  cases h : own? ρ[i]? with
  | none => simp [Wp, h]
  | some x =>
    simp only [Option.isSome_some, true_and]
    constructor
    · intro z
      have z' : Wp (bnd r fun as => ret (.lend i :: as)) ρ Q := by
        obtain ⟨a, ρ', e, q⟩ := z
        simp only [h] at e
        exact ⟨a, ρ', e, q⟩
      rw [wp_bnd] at z'
      exact z'.imp fun as ρ1 q => wp_ret.mp q
    · intro z
      have z' : Wp (bnd r fun as => ret (.lend i :: as)) ρ Q := wp_bnd.mpr (z.imp fun as ρ1 q => wp_ret.mpr q)
      obtain ⟨a, ρ', e, q⟩ := z'
      refine ⟨a, ρ', ?_, q⟩
      simp only [h]; exact e
/-- a def's value -/
def rtK (as : List Sl) (Q : Sl → List Sl → Prop) : Fl → List Sl → Prop := fun fl ρ' => match fl with
  | .rt sl => Q sl (outs as ρ')
  | .nx => Q (.sh .non) (outs as ρ')
  | _ => False
theorem wp_runF {n m : Nat} {T : DM Fl} {as : List Sl} {Q : Sl → List Sl → Prop} : Wp (runF n m T) as Q ↔ (as.length = n ∧ noOw as = true) ∧ Wp T (as ++ List.replicate (m - n) .un) (rtK as Q) := by
  unfold runF
  by_cases hc : as.length = n ∧ noOw as = true
  · have e : ∀ x, (if as.length = n ∧ noOw as = true then x else none) = (x : Option (Out Sl)) := fun x => if_pos hc
    unfold Wp
    simp only [e, hc, and_self, true_and]
    cases h : T (as ++ List.replicate (m - n) .un) with
    | none => simp
    | some o =>
      cases o with
      | ex x ρ2 => simp
      | ok fl ρ2 =>
        rw [ok_iff (Q := rtK as Q)]
        cases fl with
        | nx => simp only [rtK]; exact ok_iff
        | rt sl => simp only [rtK]; exact ok_iff
        | bk => simp [rtK]
        | ct => simp [rtK]
  · have e : ∀ x, (if as.length = n ∧ noOw as = true then x else none) = (none : Option (Out Sl)) := fun x => if_neg hc
    unfold Wp
    simp only [e]
    simp [hc]
theorem wp_appM {i : Nat} {t : DM (List D)} {Q : Fl → List Sl → Prop} : Wp (appM i t) ρ Q ↔ (∃ xs f, own? ρ[i]? = some (.lst xs, f)) ∧ Wp t ρ (fun ds ρ1 => ∃ d xs f, ds = [d] ∧ own? ρ1[i]? = some (.lst xs, f) ∧ xs.length < sizeLine ∧ Q .nx (ρ1.set i (f (.lst (xs ++ [d]))))) := by
  constructor
  · rintro ⟨a, ρ', e, q⟩
    unfold appM at e
    split at e
    · rename_i xs f h
      refine ⟨⟨xs, f, h⟩, ?_⟩
      unfold bnd at e
      split at e
      · rename_i ds ρ1 h1
        refine ⟨ds, ρ1, h1, ?_⟩
        match ds, e with
        | [d], e =>
          simp only [appF] at e
          split at e
          · rename_i xs1 f1 h2
            split at e
            · rename_i hz
              cases e
              exact ⟨d, xs1, f1, rfl, h2, hz, q⟩
            · cases e
          · cases e
        | [], e => cases e
        | _ :: _ :: _, e => cases e
      · cases e
      · cases e
    · cases e
  · rintro ⟨⟨xs, f, e⟩, ds, ρ1, e2, d, xs1, f1, rfl, e3, hz, q⟩
    unfold Wp appM
    rw [e]
    simp only [bnd, e2, appF, e3]
    rw [if_pos hz]
    exact ⟨_, _, rfl, q⟩
theorem wp_stM {i : Nat} {tk te : DM D} {Q : Fl → List Sl → Prop} : Wp (stM i tk te) ρ Q ↔ Wp te ρ (fun d ρ1 => (∃ xs f, own? ρ1[i]? = some (.lst xs, f)) ∧ Wp tk ρ1 (fun k ρ2 => ∃ j n xs f, k = .int j ∧ own? ρ2[i]? = some (.lst xs, f) ∧ ixN xs.length j = some n ∧ Q .nx (ρ2.set i (f (.lst (xs.set n d)))))) := by
  unfold stM
  rw [wp_bnd]
  constructor
  · intro h
    refine h.imp fun d ρ1 z => ?_
    obtain ⟨a, ρ', e, q⟩ := z
    simp only at e
    split at e
    · rename_i xs f h1
      refine ⟨⟨xs, f, h1⟩, ?_⟩
      unfold bnd at e
      split at e
      · rename_i k ρ2 h2
        refine ⟨k, ρ2, h2, ?_⟩
        simp only [stF] at e
        split at e
        · rename_i xs1 f1 j h3
          split at e
          · rename_i n h4
            cases e
            exact ⟨j, n, xs1, f1, rfl, h3, h4, q⟩
          · cases e
        · cases e
      · cases e
      · cases e
    · cases e
  · intro h
    refine h.imp fun d ρ1 z => ?_
    obtain ⟨⟨xs0, f0, e2⟩, k, ρ2, e3, j, n, xs, f, rfl, e4, e5, q⟩ := z
    unfold Wp
    simp only [e2, bnd, e3, stF, e4, e5]
    exact ⟨_, _, rfl, q⟩
theorem wp_frzM {i : Nat} {t : DM Fl} {Q : Fl → List Sl → Prop} : Wp (frzM i t) ρ Q ↔ ∃ ρ1, frzS i ρ = some ρ1 ∧ Wp t ρ1 Q := by
  unfold Wp frzM
  cases h : frzS i ρ with
  | none => simp
  | some ρ1 => simp
theorem wp_mv {i : Nat} {Q : Sl → List Sl → Prop} : Wp (mv i) ρ Q ↔ ∃ d, ρ[i]? = some (.ow d) ∧ Q (.ow d) (ρ.set i .un) := by
  unfold Wp mv
  cases h : ρ[i]? with
  | none => simp
  | some s => cases s <;> first | (rw [ok_iff]; simp; done) | simp
theorem wp_asgM {m : Tg} {t : DM D} {Q : Fl → List Sl → Prop} : Wp (asgM m t) ρ Q ↔ Wp t ρ (fun d ρ1 => ∃ ρ2, m d ρ1 = some ρ2 ∧ Q .nx ρ2) := by
  unfold asgM
  rw [wp_bnd]
  constructor
  · intro h
    refine h.imp fun d ρ1 q => ?_
    obtain ⟨a, ρ', e, q⟩ := q
    cases z : m d ρ1 with
    | none => simp only [z] at e; cases e
    | some ρ2 => simp only [z] at e; cases e; exact ⟨_, rfl, q⟩
  · intro h
    refine h.imp fun d ρ1 q => ?_
    obtain ⟨ρ2, e, q⟩ := q
    exact ⟨.nx, ρ2, by simp only [e], q⟩
theorem wp_parM {is : List Nat} {t : DM (List Sl)} {Q : Fl → List Sl → Prop} : Wp (parM is t) ρ Q ↔ Wp t ρ (fun sls ρ1 => ∃ ρ2, setSls is sls ρ1 = some ρ2 ∧ Q .nx ρ2) := by
  unfold parM
  rw [wp_bnd]
  constructor
  · intro h
    refine h.imp fun d ρ1 q => ?_
    obtain ⟨a, ρ', e, q⟩ := q
    cases z : setSls is d ρ1 with
    | none => simp only [z] at e; cases e
    | some ρ2 => simp only [z] at e; cases e; exact ⟨_, rfl, q⟩
  · intro h
    refine h.imp fun d ρ1 q => ?_
    obtain ⟨ρ2, e, q⟩ := q
    exact ⟨.nx, ρ2, by simp only [e], q⟩
/-- a loop by what holds between its turns -/
theorem wp_for {m : Tg} {b : DM Fl} {ds : List D} {Q : Fl → List Sl → Prop} (I : Nat → List Sl → Prop) (h0 : I 0 ρ)
    (hs : ∀ k d ρ, ds[k]? = some d → I k ρ → ∃ ρ1, m d ρ = some ρ1 ∧ Wp b ρ1 (fun fl ρ2 => match fl with | .nx => I (k + 1) ρ2 | .ct => I (k + 1) ρ2 | .bk => Q .nx ρ2 | .rt sl => Q (.rt sl) ρ2))
    (hd : ∀ ρ, I ds.length ρ → Q .nx ρ) : Wp (forL m b ds) ρ Q := by
  induction ds generalizing I ρ with
  | nil => exact wp_ret.mpr (hd ρ h0)
  | cons d ds ih =>
    obtain ⟨ρ1, e1, fl, ρ2, e2, q⟩ := hs 0 d ρ rfl h0
    unfold Wp forL
    simp only [e1, e2]
    cases fl with
    | nx => exact ih (fun k => I (k + 1)) q (fun k d ρ hk hi => hs (k + 1) d ρ (by simpa using hk) hi) (fun ρ hi => hd ρ (by simpa using hi))
    | ct => exact ih (fun k => I (k + 1)) q (fun k d ρ hk hi => hs (k + 1) d ρ (by simpa using hk) hi) (fun ρ hi => hd ρ (by simpa using hi))
    | bk => exact ⟨_, _, rfl, q⟩
    | rt sl => exact ⟨_, _, rfl, q⟩
theorem wp_while {c : DM Bool} {b : DM Fl} {n : Nat} {Q : Fl → List Sl → Prop} (I : Nat → List Sl → Prop) (h0 : ∃ k, k < n ∧ I k ρ)
    (hs : ∀ k ρ, I k ρ → Wp c ρ (fun r ρ1 => if r = true then Wp b ρ1 (fun fl ρ2 => match fl with | .nx => ∃ k', k' < k ∧ I k' ρ2 | .ct => ∃ k', k' < k ∧ I k' ρ2 | .bk => Q .nx ρ2 | .rt sl => Q (.rt sl) ρ2) else Q .nx ρ1)) : Wp (whileN c b n) ρ Q := by
  induction n generalizing ρ with
  | zero => obtain ⟨k, hk, _⟩ := h0; omega
  | succ n ih =>
    obtain ⟨k, hk, hi⟩ := h0
    unfold whileN
    rw [wp_bnd]
    refine (hs k ρ hi).imp fun r ρ1 q => ?_
    cases r with
    | false => exact wp_ret.mpr q
    | true =>
      simp only [if_true] at q ⊢
      obtain ⟨fl, ρ2, e2, q⟩ := q
      unfold Wp
      simp only [e2]
      cases fl with
      | nx => obtain ⟨k', lt, z⟩ := q; exact ih ⟨k', by omega, z⟩
      | ct => obtain ⟨k', lt, z⟩ := q; exact ih ⟨k', by omega, z⟩
      | bk => exact ⟨_, _, rfl, q⟩
      | rt sl => exact ⟨_, _, rfl, q⟩
theorem wp_lcM {vs : List Nat} {t : DM (List D)} {m : Tg} {c : DM Bool} {e : DM D} {Q : Sl → List Sl → Prop} (h : Wp t ρ (fun ds ρ1 => plainAt ρ1 vs = true ∧ Wp (lcL vs m c e ds []) (wipeS ρ1 vs) (fun acc ρ2 => Q (.ow (.lst acc)) (restS ρ1 vs ρ2)))) : Wp (lcM vs t m c e) ρ Q := by
  unfold lcM
  rw [wp_bnd]
  refine h.imp fun ds ρ1 q => ?_
  obtain ⟨hp, acc, ρ2, e2, q⟩ := q
  unfold Wp
  simp only [hp, if_true, e2, lcE]
  exact ⟨_, _, rfl, q⟩
theorem wp_lcL {vs : List Nat} {m : Tg} {c : DM Bool} {e : DM D} {ds : List D} {acc0 : List D} {Q : List D → List Sl → Prop} (I : Nat → List D → List Sl → Prop) (h0 : I 0 acc0 ρ)
    (hs : ∀ k d acc ρ, ds[k]? = some d → I k acc ρ → Wp (prot (itM m c e d)) ρ (fun o ρ1 => plainAt ρ1 vs = true ∧ match o with | some y => acc.length < sizeLine ∧ I (k + 1) (acc ++ [y]) (wipeS ρ1 vs) | none => I (k + 1) acc (wipeS ρ1 vs)))
    (hd : ∀ acc ρ, I ds.length acc ρ → Q acc ρ) : Wp (lcL vs m c e ds acc0) ρ Q := by
  induction ds generalizing I ρ acc0 with
  | nil => exact wp_ret.mpr (hd acc0 ρ h0)
  | cons d ds ih =>
    obtain ⟨o, ρ1, e1, hp, q⟩ := hs 0 d acc0 ρ rfl h0
    unfold Wp lcL
    simp only [e1]
    cases o with
    | none =>
      simp only [hp, if_true]
      exact ih (fun k => I (k + 1)) q (fun k d acc ρ hk hi => hs (k + 1) d acc ρ (by simpa using hk) hi) (fun acc ρ hi => hd acc ρ (by simpa using hi))
    | some y =>
      simp only [hp, q.1, decide_true, Bool.and_self, if_true]
      exact ih (fun k => I (k + 1)) q.2 (fun k d acc ρ hk hi => hs (k + 1) d acc ρ (by simpa using hk) hi) (fun acc ρ hi => hd acc ρ (by simpa using hi))
theorem wp_itM {m : Tg} {c : DM Bool} {e : DM D} {d : D} {Q : Option D → List Sl → Prop} (h : ∃ ρ1, m d ρ = some ρ1 ∧ Wp c ρ1 (fun b ρ2 => if b = true then Wp e ρ2 (fun y ρ3 => Q (some y) ρ3) else Q none ρ2)) : Wp (itM m c e d) ρ Q := by
  obtain ⟨ρ1, e1, b, ρ2, e2, q⟩ := h
  unfold Wp itM
  simp only [e1, bnd, e2]
  cases b with
  | false => exact ⟨_, _, rfl, q⟩
  | true =>
    simp only [if_true] at q ⊢
    obtain ⟨y, ρ3, e3, q⟩ := q
    refine ⟨some y, ρ3, ?_, q⟩
    unfold bnd
    rw [e3]
    rfl
theorem ite_some_iff {p : Prop} [Decidable p] {a b : α} : (if p then some a else none) = some b ↔ p ∧ a = b := by
  by_cases h : p <;> simp [h]
end
end FD

set_option Elab.async false
set_option linter.all false
set_option maxRecDepth 100000
namespace FD
open PySem L2

/-! ### one step at a time -/
section
variable {α β : Type} {ρ ρ' : List Sl}
theorem y_bnd {t : DM α} {f : α → DM β} {Q : β → List Sl → Prop} (h : Wp t ρ (fun a ρ1 => Wp (f a) ρ1 Q)) : Wp (bnd t f) ρ Q := wp_bnd.mpr h
theorem y_ret {a : α} {Q : α → List Sl → Prop} (h : Q a ρ) : Wp (ret a) ρ Q := wp_ret.mpr h
theorem y_lft {o : Option α} {a : α} {Q : α → List Sl → Prop} (e : o = some a) (h : Q a ρ) : Wp (lft o) ρ Q := wp_lft.mpr ⟨a, e, h⟩
theorem y_lftc {o : Option α} {c : Prop} [Decidable c] {a : α} {Q : α → List Sl → Prop} (e : o = if c then some a else none) (hc : c) (h : Q a ρ) : Wp (lft o) ρ Q := wp_lft.mpr ⟨a, by rw [e, if_pos hc], h⟩
theorem y_get {i : Nat} {d : D} {Q : D → List Sl → Prop} (e : ρ[i]? = some (.sh d)) (h : Q d ρ) : Wp (get i) ρ Q := wp_get.mpr ⟨d, e, h⟩
theorem y_setF {i : Nat} {sl : Sl} {Q : Fl → List Sl → Prop} (e : setSl i sl ρ = some ρ') (h : Q .nx ρ') : Wp (setF i sl) ρ Q := wp_setF.mpr ⟨ρ', e, h⟩
theorem y_setM {i : Nat} {t : DM Sl} {Q : Fl → List Sl → Prop} (h : Wp t ρ (fun sl ρ1 => Wp (setF i sl) ρ1 Q)) : Wp (setM i t) ρ Q := y_bnd h
theorem y_seq {t u : DM Fl} {Q : Fl → List Sl → Prop} (h : Wp t ρ (flK u Q)) : Wp (seqM t u) ρ Q := wp_seq.mpr h
theorem y_nx {u : DM Fl} {Q : Fl → List Sl → Prop} (h : Wp u ρ Q) : flK u Q .nx ρ := h
theorem y_rt {u : DM Fl} {sl : Sl} {Q : Fl → List Sl → Prop} (h : Q (.rt sl) ρ) : flK u Q (.rt sl) ρ := h
theorem y_bk {u : DM Fl} {Q : Fl → List Sl → Prop} (h : Q .bk ρ) : flK u Q .bk ρ := h
theorem y_ct {u : DM Fl} {Q : Fl → List Sl → Prop} (h : Q .ct ρ) : flK u Q .ct ρ := h
theorem y_ifM {c : DM Bool} {t u : DM α} {Q : α → List Sl → Prop} (h : Wp c ρ (fun b ρ1 => if b = true then Wp t ρ1 Q else Wp u ρ1 Q)) : Wp (ifM c t u) ρ Q := wp_ifM.mpr h
theorem y_fz {t : DM Sl} {Q : D → List Sl → Prop} (h : Wp t ρ (fun sl ρ1 => Q sl.dat ρ1)) : Wp (fz t) ρ Q := y_bnd (h.imp fun _ _ q => y_ret q)
theorem y_shD {t : DM D} {Q : Sl → List Sl → Prop} (h : Wp t ρ (fun d ρ1 => Q (.sh d) ρ1)) : Wp (shD t) ρ Q := y_bnd (h.imp fun _ _ q => y_ret q)
theorem y_opS {g : D → D → Option Sl} {ta tb : DM D} {Q : Sl → List Sl → Prop} (h : Wp ta ρ (fun a ρ1 => Wp tb ρ1 (fun b ρ2 => Wp (lft (g a b)) ρ2 Q))) : Wp (opS g ta tb) ρ Q := y_bnd (h.imp fun _ _ q => y_bnd q)
theorem y_callM {g : List D → Option Sl} {t : DM (List D)} {Q : Sl → List Sl → Prop} (h : Wp t ρ (fun ds ρ1 => Wp (lft (g ds)) ρ1 Q)) : Wp (callM g t) ρ Q := y_bnd h
theorem y_consM {t : DM D} {r : DM (List D)} {Q : List D → List Sl → Prop} (h : Wp t ρ (fun d ρ1 => Wp r ρ1 (fun ds ρ2 => Q (d :: ds) ρ2))) : Wp (consM t r) ρ Q := y_bnd (h.imp fun _ _ q => y_bnd (q.imp fun _ _ q => y_ret q))
theorem y_tupM {t : DM (List D)} {Q : Sl → List Sl → Prop} (h : Wp t ρ (fun ds ρ1 => ds.length ≤ sizeLine ∧ Q (.sh (.tup ds)) ρ1)) : Wp (tupM t) ρ Q := y_bnd (h.imp fun ds _ q => y_lftc (c := ds.length ≤ sizeLine) rfl q.1 q.2)
theorem y_lstM {t : DM (List D)} {Q : Sl → List Sl → Prop} (h : Wp t ρ (fun ds ρ1 => ds.length ≤ sizeLine ∧ Q (.ow (.lst ds)) ρ1)) : Wp (lstM t) ρ Q := y_bnd (h.imp fun ds _ q => y_lftc (c := ds.length ≤ sizeLine) rfl q.1 q.2)
theorem y_testM {t : DM Sl} {Q : Bool → List Sl → Prop} (h : Wp t ρ (fun sl ρ1 => ∃ b, sl = .sh (.bl b) ∧ Q b ρ1)) : Wp (testM t) ρ Q := y_bnd (h.imp fun sl _ ⟨b, e, q⟩ => y_lft (by rw [e]; rfl) q)
theorem y_truM {t : DM D} {Q : Bool → List Sl → Prop} (h : Wp t ρ (fun d ρ1 => Wp (lft (truD d)) ρ1 Q)) : Wp (truM t) ρ Q := y_bnd h
theorem y_notM {t : DM Bool} {Q : Bool → List Sl → Prop} (h : Wp t ρ (fun b ρ1 => Q (!b) ρ1)) : Wp (notM t) ρ Q := y_bnd (h.imp fun _ _ q => y_ret q)
theorem y_andM {t u : DM Bool} {Q : Bool → List Sl → Prop} (h : Wp t ρ (fun b ρ1 => if b = true then Wp u ρ1 Q else Q false ρ1)) : Wp (andM t u) ρ Q := y_bnd (h.imp fun b _ q => by cases b with | true => exact q | false => exact y_ret q)
theorem y_orM {t u : DM Bool} {Q : Bool → List Sl → Prop} (h : Wp t ρ (fun b ρ1 => if b = true then Q true ρ1 else Wp u ρ1 Q)) : Wp (orM t u) ρ Q := y_bnd (h.imp fun b _ q => by cases b with | true => exact y_ret q | false => exact q)
theorem y_andV {t u : DM D} {Q : D → List Sl → Prop} (h : Wp t ρ (fun a ρ1 => Wp (lft (truD a)) ρ1 (fun k ρ2 => if k = true then Wp u ρ2 Q else Q a ρ2))) : Wp (andV t u) ρ Q := y_bnd (h.imp fun a _ q => y_bnd (q.imp fun k _ q => by cases k with | true => exact q | false => exact y_ret q))
theorem y_orV {t u : DM D} {Q : D → List Sl → Prop} (h : Wp t ρ (fun a ρ1 => Wp (lft (truD a)) ρ1 (fun k ρ2 => if k = true then Q a ρ2 else Wp u ρ2 Q))) : Wp (orV t u) ρ Q := y_bnd (h.imp fun a _ q => y_bnd (q.imp fun k _ q => by cases k with | true => exact y_ret q | false => exact q))
theorem y_notV {t : DM D} {Q : D → List Sl → Prop} (h : Wp t ρ (fun a ρ1 => Wp (lft (truD a)) ρ1 (fun k ρ2 => Q (.bl (!k)) ρ2))) : Wp (notV t) ρ Q := y_bnd (h.imp fun a _ q => y_bnd (q.imp fun k _ q => y_ret q))
theorem y_retM {t : DM Sl} {Q : Fl → List Sl → Prop} (h : Wp t ρ (fun sl ρ1 => Q (.rt sl) ρ1)) : Wp (retM t) ρ Q := y_bnd (h.imp fun _ _ q => y_ret q)
theorem y_dropM {t : DM Sl} {Q : Fl → List Sl → Prop} (h : Wp t ρ (fun _ ρ1 => Q .nx ρ1)) : Wp (dropM t) ρ Q := y_bnd (h.imp fun _ _ q => y_ret q)
theorem y_augM {i : Nat} {g : D → D → Option Sl} {t : DM D} {Q : Fl → List Sl → Prop} (h : Wp (get i) ρ (fun a ρ1 => Wp t ρ1 (fun b ρ2 => Wp (lft (g a b)) ρ2 (fun sl ρ3 => Wp (setF i sl) ρ3 Q)))) : Wp (augM i g t) ρ Q := y_bnd (y_opS h)
theorem y_methM {g : D → List D → Option Sl} {to : DM D} {t : DM (List D)} {Q : Sl → List Sl → Prop} (h : Wp to ρ (fun d ρ1 => ∃ s, d = .str s ∧ Wp t ρ1 (fun ds ρ2 => Wp (lft (g (.str s) ds)) ρ2 Q))) : Wp (methM g to t) ρ Q := y_bnd (h.imp fun d _ ⟨s, e, q⟩ => by subst e; exact y_bnd q)
theorem y_slM {te : DM D} {tl th : DM (Option Int)} {Q : Sl → List Sl → Prop} (h : Wp te ρ (fun d ρ1 => Wp tl ρ1 (fun l ρ2 => Wp th ρ2 (fun u ρ3 => Wp (lft (slS d l u)) ρ3 Q)))) : Wp (slM te tl th) ρ Q := y_bnd (h.imp fun _ _ q => y_bnd (q.imp fun _ _ q => y_bnd q))
theorem y_part {t : DM D} {Q : Option Int → List Sl → Prop} (h : Wp t ρ (fun d ρ1 => ∃ i, d = .int i ∧ Q (some i) ρ1)) : Wp (part t) ρ Q := y_bnd (h.imp fun d _ ⟨i, e, q⟩ => y_lft (by rw [e]; rfl) q)
theorem y_negM {t : DM D} {Q : D → List Sl → Prop} (h : Wp t ρ (fun d ρ1 => ∃ i, d = .int i ∧ Q (.int (-i)) ρ1)) : Wp (negM t) ρ Q := y_bnd (h.imp fun d _ ⟨i, e, q⟩ => y_lft (by rw [e]; rfl) q)
theorem y_replM {y z : Str} {t : DM D} {Q : D → List Sl → Prop} (h : Wp t ρ (fun d ρ1 => Wp (lft (replS y z d)) ρ1 Q)) : Wp (replM y z t) ρ Q := y_bnd h
theorem y_callA {F : DF} {t : DM (List Ar)} {Q : Sl → List Sl → Prop} (h : Wp t ρ (fun ars ρ1 => Wp (callF F ars) ρ1 Q)) : Wp (callA F t) ρ Q := y_bnd h
theorem y_arVal {t : DM D} {r : DM (List Ar)} {Q : List Ar → List Sl → Prop} (h : Wp t ρ (fun d ρ1 => Wp r ρ1 (fun as ρ2 => Q (.val d :: as) ρ2))) : Wp (arVal t r) ρ Q := y_bnd (h.imp fun _ _ q => y_bnd (q.imp fun _ _ q => y_ret q))
theorem y_arNil {Q : List Ar → List Sl → Prop} (h : Q [] ρ) : Wp arNil ρ Q := y_ret h
theorem y_lend {i : Nat} {r : DM (List Ar)} {Q : List Ar → List Sl → Prop} (e : (own? ρ[i]?).isSome = true) (h : Wp r ρ (fun as ρ1 => Q (.lend i :: as) ρ1)) : Wp (arLend i r) ρ Q := wp_lend.mpr ⟨e, h⟩
theorem y_callF {F : DF} {ars : List Ar} {as : List Sl} {Q : Sl → List Sl → Prop} (e : argSls ρ ars = some as) (n : nodupN (lends ars) = true) (h : Wp F as (fun sl as' => Q sl (back ρ ars as'))) : Wp (callF F ars) ρ Q := wp_callF.mpr ⟨as, e, n, h⟩
theorem y_bor {fl : α → Bool} {i : Nat} {t : DM α} {Q : α → List Sl → Prop} (e : borS i ρ = some ρ') (h : Wp t ρ' (fun a ρ2 => fl a = true ∧ ρ2.all flatO = true ∧ Q a (zipB ρ ρ2))) : Wp (bor fl i t) ρ Q := wp_bor.mpr ⟨ρ', e, h⟩
theorem y_prot {t : DM α} {Q : α → List Sl → Prop} (h : Wp t (pinAll ρ) (fun a ρ' => Q a (unpin ρ ρ'))) : Wp (prot t) ρ Q := wp_prot.mpr h
theorem y_fsCons {t : DM Sl} {r : DM (List Sl)} {Q : List Sl → List Sl → Prop} (h : Wp t ρ (fun sl ρ1 => Wp (prot r) ρ1 (fun sls ρ2 => Q (sl :: sls) ρ2))) : Wp (fsCons t r) ρ Q := y_bnd (h.imp fun _ _ q => y_bnd (q.imp fun _ _ q => y_ret q))
theorem y_appM {i : Nat} {t : DM (List D)} {xs0 : List D} {f0 : D → Sl} {Q : Fl → List Sl → Prop} (e : own? ρ[i]? = some (.lst xs0, f0)) (h : Wp t ρ (fun ds ρ1 => ∃ d xs f, ds = [d] ∧ own? ρ1[i]? = some (.lst xs, f) ∧ xs.length < sizeLine ∧ Q .nx (ρ1.set i (f (.lst (xs ++ [d])))))) : Wp (appM i t) ρ Q := wp_appM.mpr ⟨⟨_, _, e⟩, h⟩
theorem y_stM {i : Nat} {tk te : DM D} {Q : Fl → List Sl → Prop} (h : Wp te ρ (fun d ρ1 => (∃ xs f, own? ρ1[i]? = some (.lst xs, f)) ∧ Wp tk ρ1 (fun k ρ2 => ∃ j n xs f, k = .int j ∧ own? ρ2[i]? = some (.lst xs, f) ∧ ixN xs.length j = some n ∧ Q .nx (ρ2.set i (f (.lst (xs.set n d))))))) : Wp (stM i tk te) ρ Q := wp_stM.mpr h
theorem y_frzM {i : Nat} {t : DM Fl} {Q : Fl → List Sl → Prop} (e : frzS i ρ = some ρ') (h : Wp t ρ' Q) : Wp (frzM i t) ρ Q := wp_frzM.mpr ⟨ρ', e, h⟩
theorem y_mv {i : Nat} {d : D} {Q : Sl → List Sl → Prop} (e : ρ[i]? = some (.ow d)) (h : Q (.ow d) (ρ.set i .un)) : Wp (mv i) ρ Q := wp_mv.mpr ⟨d, e, h⟩
theorem y_asgM {m : Tg} {t : DM D} {Q : Fl → List Sl → Prop} (h : Wp t ρ (fun d ρ1 => ∃ ρ2, m d ρ1 = some ρ2 ∧ Q .nx ρ2)) : Wp (asgM m t) ρ Q := wp_asgM.mpr h
theorem y_parM {is : List Nat} {t : DM (List Sl)} {Q : Fl → List Sl → Prop} (h : Wp t ρ (fun sls ρ1 => ∃ ρ2, setSls is sls ρ1 = some ρ2 ∧ Q .nx ρ2)) : Wp (parM is t) ρ Q := wp_parM.mpr h
theorem y_forM {m : Tg} {b : DM Fl} {t : DM (List D)} {Q : Fl → List Sl → Prop} (h : Wp t ρ (fun ds ρ1 => Wp (forL m b ds) ρ1 Q)) : Wp (forM m b t) ρ Q := y_bnd h
theorem y_runF {n m : Nat} {T : DM Fl} {as : List Sl} {Q : Sl → List Sl → Prop} (e : as.length = n ∧ noOw as = true) (h : Wp T (as ++ List.replicate (m - n) .un) (rtK as Q)) : Wp (runF n m T) as Q := wp_runF.mpr ⟨e, h⟩
theorem y_rtK {as : List Sl} {sl : Sl} {Q : Sl → List Sl → Prop} (h : Q sl (outs as ρ)) : rtK as Q (.rt sl) ρ := h
theorem y_rtN {as : List Sl} {Q : Sl → List Sl → Prop} (h : Q (.sh .non) (outs as ρ)) : rtK as Q .nx ρ := h
theorem y_chain {g h : D → D → Option Sl} {ta tb tc : DM D} {Q : Sl → List Sl → Prop} (p : Wp ta ρ (fun a ρ1 => Wp tb ρ1 (fun b ρ2 => ∃ k, g a b = some (.sh (.bl k)) ∧ if k = true then Wp tc ρ2 (fun c ρ3 => Wp (lft (h b c)) ρ3 Q) else Q (.sh (.bl false)) ρ2))) : Wp (chainM g h ta tb tc) ρ Q := by
  unfold chainM
  refine y_bnd (p.imp fun a ρ1 q => y_bnd (q.imp fun b ρ2 q => ?_))
  obtain ⟨k, e, q⟩ := q
  refine y_bnd (y_lft (a := k) (by rw [e]; rfl) ?_)
  cases k with
  | true => exact y_bnd q
  | false => exact y_ret q
end
/-- a list's item, a list's new item, written out -/
theorem set0 {α : Type} (x y : α) (l : List α) : (x :: l).set 0 y = y :: l := rfl
theorem setS {α : Type} (x y : α) (l : List α) (n : Nat) : (x :: l).set (n + 1) y = x :: l.set n y := rfl
theorem get0 {α : Type} (x : α) (l : List α) : (x :: l)[0]? = some x := rfl
theorem getS {α : Type} (x : α) (l : List α) (n : Nat) : (x :: l)[n + 1]? = l[n]? := by simp
end FD

set_option Elab.async false
set_option linter.all false
set_option maxRecDepth 100000
namespace FD
open PySem L2
section
variable {α β : Type} {ρ ρ' : List Sl}
theorem y_run {n m : Nat} {T : DM Fl} {as ρ : List Sl} {Q : Sl → List Sl → Prop} (e : as.length = n ∧ noOw as = true) (e2 : as ++ List.replicate (m - n) .un = ρ) (h : Wp T ρ (rtK as Q)) : Wp (runF n m T) as Q := wp_runF.mpr ⟨e, by rw [e2]; exact h⟩
theorem y_dec {c : Prop} [Decidable c] {A B : Prop} (h1 : c → A) (h2 : ¬ c → B) : if decide c = true then A else B := by
  by_cases h : c
  · rw [if_pos (by simpa using h)]; exact h1 h
  · rw [if_neg (by simpa using h)]; exact h2 h
theorem y_ndec {c : Prop} [Decidable c] {A B : Prop} (h1 : ¬ c → A) (h2 : c → B) : if (!decide c) = true then A else B := by
  by_cases h : c
  · rw [if_neg (by simpa using h)]; exact h2 h
  · rw [if_pos (by simpa using h)]; exact h1 h
theorem y_t {A B : Prop} (h : A) : if (true : Bool) = true then A else B := h
theorem y_f {A B : Prop} (h : B) : if (false : Bool) = true then A else B := h
theorem y_tb {b : Bool} {A B : Prop} (e : b = true) (h : A) : if b = true then A else B := by rw [if_pos e]; exact h
theorem y_fb {b : Bool} {A B : Prop} (e : b = false) (h : B) : if b = true then A else B := by rw [e]; exact h
theorem y_nt {A B : Prop} (h : B) : if (!true : Bool) = true then A else B := h
theorem y_nf {A B : Prop} (h : A) : if (!false : Bool) = true then A else B := h
theorem y_len {ds : List D} {A : Prop} (h1 : ds.length ≤ sizeLine) (h : A) : ds.length ≤ sizeLine ∧ A := ⟨h1, h⟩
/-- what comes after -/
def BorQ (fl : α → Bool) (ρ : List Sl) (Q : α → List Sl → Prop) (a : α) (ρ2 : List Sl) : Prop := fl a = true ∧ ρ2.all flatO = true ∧ Q a (zipB ρ ρ2)
theorem z_bor {fl : α → Bool} {i : Nat} {t : DM α} {Q : α → List Sl → Prop} (e : borS i ρ = some ρ') (h : Wp t ρ' (BorQ fl ρ Q)) : Wp (bor fl i t) ρ Q := wp_bor.mpr ⟨ρ', e, h⟩
theorem z_borQ {fl : α → Bool} {Q : α → List Sl → Prop} {a : α} {ρ2 ρ3 : List Sl} (h1 : fl a = true) (h2 : ρ2.all flatO = true) (e : zipB ρ ρ2 = ρ3) (h : Q a ρ3) : BorQ fl ρ Q a ρ2 := ⟨h1, h2, by rw [e]; exact h⟩
def BackQ (ρ : List Sl) (ars : List Ar) (Q : Sl → List Sl → Prop) (a : Sl) (as' : List Sl) : Prop := Q a (back ρ ars as')
theorem z_callF {F : DF} {ars : List Ar} {as : List Sl} {Q : Sl → List Sl → Prop} (e : argSls ρ ars = some as) (n : nodupN (lends ars) = true) (h : Wp F as (BackQ ρ ars Q)) : Wp (callF F ars) ρ Q := wp_callF.mpr ⟨as, e, n, h⟩
theorem z_backQ {ars : List Ar} {Q : Sl → List Sl → Prop} {a : Sl} {as' ρ3 : List Sl} (e : back ρ ars as' = ρ3) (h : Q a ρ3) : BackQ ρ ars Q a as' := by unfold BackQ; rw [e]; exact h
def Back1Q (ρ : List Sl) (ars : List Ar) (Q : Sl → List Sl → Prop) (a : Sl) (as' : List Sl) : Prop := ∃ s0 as2, as' = s0 :: as2 ∧ Q a (back ρ ars as2)
theorem z_callF1 {F : DF} {d : D} {ars : List Ar} {as : List Sl} {Q : Sl → List Sl → Prop} (e : argSls ρ ars = some as) (n : nodupN (lends ars) = true) (h : Wp F (.pn d :: as) (Back1Q ρ ars Q)) : Wp (callF1 F d ars) ρ Q := wp_callF1 ⟨as, e, n, h⟩
theorem z_back1Q {ars : List Ar} {Q : Sl → List Sl → Prop} {a s0 : Sl} {as2 ρ3 : List Sl} (e : back ρ ars as2 = ρ3) (h : Q a ρ3) : Back1Q ρ ars Q a (s0 :: as2) := ⟨s0, as2, rfl, by rw [e]; exact h⟩
def UnpQ (ρ : List Sl) (Q : α → List Sl → Prop) (a : α) (ρ' : List Sl) : Prop := Q a (unpin ρ ρ')
theorem z_prot {t : DM α} {Q : α → List Sl → Prop} (e : pinAll ρ = ρ') (h : Wp t ρ' (UnpQ ρ Q)) : Wp (prot t) ρ Q := wp_prot.mpr (by rw [e]; exact h)
theorem z_unpQ {Q : α → List Sl → Prop} {a : α} {ρ3 : List Sl} (e : unpin ρ ρ' = ρ3) (h : Q a ρ3) : UnpQ ρ Q a ρ' := by unfold UnpQ; rw [e]; exact h
theorem z_rtK {as as' : List Sl} {sl : Sl} {Q : Sl → List Sl → Prop} (e : outs as ρ = as') (h : Q sl as') : rtK as Q (.rt sl) ρ := by unfold rtK; simp only; rw [e]; exact h
theorem z_rtN {as as' : List Sl} {Q : Sl → List Sl → Prop} (e : outs as ρ = as') (h : Q (.sh .non) as') : rtK as Q .nx ρ := by unfold rtK; simp only; rw [e]; exact h
def AppQ (i : Nat) (Q : Fl → List Sl → Prop) (ds : List D) (ρ1 : List Sl) : Prop := ∃ d xs f, ds = [d] ∧ own? ρ1[i]? = some (.lst xs, f) ∧ xs.length < sizeLine ∧ Q .nx (ρ1.set i (f (.lst (xs ++ [d]))))
theorem z_app {i : Nat} {t : DM (List D)} {xs0 : List D} {f0 : D → Sl} {Q : Fl → List Sl → Prop} (e : own? ρ[i]? = some (.lst xs0, f0)) (h : Wp t ρ (AppQ i Q)) : Wp (appM i t) ρ Q := wp_appM.mpr ⟨⟨_, _, e⟩, h⟩
theorem z_appQ {i : Nat} {Q : Fl → List Sl → Prop} {d : D} {xs : List D} {f : D → Sl} (e : own? ρ[i]? = some (.lst xs, f)) (e2 : ρ.set i (f (.lst (xs ++ [d]))) = ρ') (hz : xs.length < sizeLine) (h : Q .nx ρ') : AppQ i Q [d] ρ := ⟨d, xs, f, rfl, e, hz, by rw [e2]; exact h⟩
def StQ (i : Nat) (d : D) (Q : Fl → List Sl → Prop) (k : D) (ρ2 : List Sl) : Prop := ∃ j n xs f, k = .int j ∧ own? ρ2[i]? = some (.lst xs, f) ∧ ixN xs.length j = some n ∧ Q .nx (ρ2.set i (f (.lst (xs.set n d))))
def StK (i : Nat) (tk : DM D) (Q : Fl → List Sl → Prop) (d : D) (ρ1 : List Sl) : Prop := (∃ xs f, own? ρ1[i]? = some (.lst xs, f)) ∧ Wp tk ρ1 (StQ i d Q)
theorem z_st {i : Nat} {tk te : DM D} {Q : Fl → List Sl → Prop} (h : Wp te ρ (StK i tk Q)) : Wp (stM i tk te) ρ Q := wp_stM.mpr h
theorem z_stK {i : Nat} {tk : DM D} {Q : Fl → List Sl → Prop} {d : D} {xs : List D} {f : D → Sl} (e : own? ρ[i]? = some (.lst xs, f)) (h : Wp tk ρ (StQ i d Q)) : StK i tk Q d ρ := ⟨⟨_, _, e⟩, h⟩
theorem z_stQ {i : Nat} {d : D} {Q : Fl → List Sl → Prop} {j : Int} {n : Nat} {xs xs' : List D} {f : D → Sl} (e : own? ρ[i]? = some (.lst xs, f)) (en : ixN xs.length j = some n) (e3 : xs.set n d = xs') (e2 : ρ.set i (f (.lst xs')) = ρ') (h : Q .nx ρ') : StQ i d Q (.int j) ρ := ⟨j, n, xs, f, rfl, e, en, by rw [e3, e2]; exact h⟩
def TgQ (m : Tg) (Q : Fl → List Sl → Prop) (d : D) (ρ1 : List Sl) : Prop := ∃ ρ2, m d ρ1 = some ρ2 ∧ Q .nx ρ2
theorem z_asg {m : Tg} {t : DM D} {Q : Fl → List Sl → Prop} (h : Wp t ρ (TgQ m Q)) : Wp (asgM m t) ρ Q := wp_asgM.mpr h
theorem z_tgQ {m : Tg} {Q : Fl → List Sl → Prop} {d : D} (e : m d ρ = some ρ') (h : Q .nx ρ') : TgQ m Q d ρ := ⟨ρ', e, h⟩
def ParQ (is : List Nat) (Q : Fl → List Sl → Prop) (sls : List Sl) (ρ1 : List Sl) : Prop := ∃ ρ2, setSls is sls ρ1 = some ρ2 ∧ Q .nx ρ2
theorem z_par {is : List Nat} {t : DM (List Sl)} {Q : Fl → List Sl → Prop} (h : Wp t ρ (ParQ is Q)) : Wp (parM is t) ρ Q := wp_parM.mpr h
theorem z_parQ {is : List Nat} {Q : Fl → List Sl → Prop} {sls : List Sl} (e : setSls is sls ρ = some ρ') (h : Q .nx ρ') : ParQ is Q sls ρ := ⟨ρ', e, h⟩
def DatQ (Q : D → List Sl → Prop) (sl : Sl) (ρ : List Sl) : Prop := Q sl.dat ρ
theorem z_fz {t : DM Sl} {Q : D → List Sl → Prop} (h : Wp t ρ (DatQ Q)) : Wp (fz t) ρ Q := y_fz h
theorem z_datS {Q : D → List Sl → Prop} {d : D} (h : Q d ρ) : DatQ Q (.sh d) ρ := h
theorem z_datO {Q : D → List Sl → Prop} {d : D} (h : Q d ρ) : DatQ Q (.ow d) ρ := h
section
variable {Q : Sl → List Sl → Prop} {i j : Int} {a b : Str} {xs ys : List D}
theorem o_add (h : Q (.sh (.int (i + j))) ρ) : Wp (lft (addS (.int i) (.int j))) ρ Q := y_lft rfl h
theorem o_adds (hz : a.length + b.length ≤ sizeLine) (h : Q (.sh (.str (a ++ b))) ρ) : Wp (lft (addS (.str a) (.str b))) ρ Q := y_lftc rfl hz h
theorem o_addl (hz : xs.length + ys.length ≤ sizeLine) (h : Q (.ow (.lst (xs ++ ys))) ρ) : Wp (lft (addS (.lst xs) (.lst ys))) ρ Q := y_lftc rfl hz h
theorem o_addt (hz : xs.length + ys.length ≤ sizeLine) (h : Q (.sh (.tup (xs ++ ys))) ρ) : Wp (lft (addS (.tup xs) (.tup ys))) ρ Q := y_lftc rfl hz h
theorem o_sub (h : Q (.sh (.int (i - j))) ρ) : Wp (lft (subS (.int i) (.int j))) ρ Q := y_lft rfl h
theorem o_mul (hz : i.natAbs.log2 + j.natAbs.log2 < 1000000) (h : Q (.sh (.int (i * j))) ρ) : Wp (lft (mulS (.int i) (.int j))) ρ Q := y_lftc rfl hz h
theorem o_fdiv (hz : 0 < j ∧ j.natAbs.log2 < 9000) (h : Q (.sh (.int (i / j))) ρ) : Wp (lft (fdivS (.int i) (.int j))) ρ Q := y_lftc rfl hz h
theorem o_mod (hz : 0 < j) (h : Q (.sh (.int (i % j))) ρ) : Wp (lft (modS (.int i) (.int j))) ρ Q := y_lftc rfl hz h
theorem o_pow (hz : 0 ≤ j ∧ j ≤ 1000000 ∧ i.natAbs < 2 ^ 64) (h : Q (.sh (.int (i ^ j.toNat))) ρ) : Wp (lft (powS (.int i) (.int j))) ρ Q := y_lftc rfl hz h
theorem o_lt (h : Q (.sh (.bl (decide (i < j)))) ρ) : Wp (lft (ltS (.int i) (.int j))) ρ Q := y_lft rfl h
theorem o_le (h : Q (.sh (.bl (decide (i ≤ j)))) ρ) : Wp (lft (leS (.int i) (.int j))) ρ Q := y_lft rfl h
theorem o_gt (h : Q (.sh (.bl (decide (j < i)))) ρ) : Wp (lft (gtS (.int i) (.int j))) ρ Q := y_lft rfl h
theorem o_ge (h : Q (.sh (.bl (decide (j ≤ i)))) ρ) : Wp (lft (geS (.int i) (.int j))) ρ Q := y_lft rfl h
theorem o_eqi (h : Q (.sh (.bl (decide (i = j)))) ρ) : Wp (lft (eqS (.int i) (.int j))) ρ Q := y_lft (a := .sh (.bl (decide (i = j)))) (by simp only [eqS, plain, plainN, Bool.and_self, if_true, deq]; congr 3) h
theorem o_nei (h : Q (.sh (.bl (!decide (i = j)))) ρ) : Wp (lft (neS (.int i) (.int j))) ρ Q := y_lft (a := .sh (.bl (!decide (i = j)))) (by simp only [neS, plain, plainN, Bool.and_self, if_true, deq]; congr 4) h
theorem o_eqs (h : Q (.sh (.bl (decide (a = b)))) ρ) : Wp (lft (eqS (.str a) (.str b))) ρ Q := y_lft (a := .sh (.bl (decide (a = b)))) (by simp only [eqS, plain, plainN, Bool.and_self, if_true, deq]; congr 3) h
theorem o_nes (h : Q (.sh (.bl (!decide (a = b)))) ρ) : Wp (lft (neS (.str a) (.str b))) ρ Q := y_lft (a := .sh (.bl (!decide (a = b)))) (by simp only [neS, plain, plainN, Bool.and_self, if_true, deq]; congr 4) h
theorem o_len (h : Q (.sh (.int xs.length)) ρ) : Wp (lft (lenS [.lst xs])) ρ Q := y_lft rfl h
theorem o_lent (h : Q (.sh (.int xs.length)) ρ) : Wp (lft (lenS [.tup xs])) ρ Q := y_lft rfl h
theorem o_lenc {ns : List Int} (h : Q (.sh (.int ns.length)) ρ) : Wp (lft (lenS [.scr ns])) ρ Q := y_lft rfl h
theorem o_sls {lo hi : Option Int} (hz : a.length ≤ sizeLine) (h : Q (.sh (.str (cutS a lo hi))) ρ) : Wp (lft (slS (.str a) lo hi)) ρ Q := y_lftc rfl hz h
theorem o_sll {lo hi : Option Int} (h : Q (.ow (.lst (cutD xs lo hi))) ρ) : Wp (lft (slS (.lst xs) lo hi)) ρ Q := y_lft rfl h
theorem o_slt {lo hi : Option Int} (h : Q (.sh (.tup (cutD xs lo hi))) ρ) : Wp (lft (slS (.tup xs) lo hi)) ρ Q := y_lft rfl h
theorem o_lens (hz : a.length ≤ sizeLine) (h : Q (.sh (.int a.length)) ρ) : Wp (lft (lenS [.str a])) ρ Q := y_lftc rfl hz h
theorem o_abs (h : Q (.sh (.int (if i < 0 then -i else i))) ρ) : Wp (lft (absS [.int i])) ρ Q := y_lft rfl h
theorem o_int (h : Q (.sh (.int i)) ρ) : Wp (lft (intS [.int i])) ρ Q := y_lft rfl h
theorem o_ix {d : D} (e : atI xs i = some d) (h : Q (.sh d) ρ) : Wp (lft (ixS (.lst xs) (.int i))) ρ Q := y_lft (by simp only [ixS, e, Option.map_some]) h
theorem o_ixt {d : D} (e : atI xs i = some d) (h : Q (.sh d) ρ) : Wp (lft (ixS (.tup xs) (.int i))) ρ Q := y_lft (by simp only [ixS, e, Option.map_some]) h
theorem o_ixc {ns : List Int} {d : Int} (e : atI ns i = some d) (h : Q (.sh (.int d)) ρ) : Wp (lft (ixS (.scr ns) (.int i))) ρ Q := y_lft (by simp only [ixS, e, Option.map_some]) h
theorem o_ixs {c : Nat} (hz : a.length ≤ sizeLine) (e : atI a.cps.toList i = some c) (h : Q (.sh (.str ⟨#[c]⟩)) ρ) : Wp (lft (ixS (.str a) (.int i))) ρ Q := y_lft (by simp only [ixS, if_pos hz, e, Option.map_some]) h
end
theorem atI_pos {α : Type} {xs : List α} {i : Int} (h0 : 0 ≤ i) (h1 : i < xs.length) : ∃ x, atI xs i = some x ∧ xs[i.toNat]? = some x := by
  have h2 : i.toNat < xs.length := by omega
  refine ⟨xs[i.toNat], ?_, by simp [h2]⟩
  unfold atI ixN
  simp [h0, h1, h2]
/-! loops -/
def ForQ (I : Nat → List Sl → Prop) (k : Nat) (Q : Fl → List Sl → Prop) (fl : Fl) (ρ : List Sl) : Prop := match fl with
  | .nx => I (k + 1) ρ
  | .ct => I (k + 1) ρ
  | .bk => Q .nx ρ
  | .rt sl => Q (.rt sl) ρ
section
variable {I : Nat → List Sl → Prop} {k : Nat} {Q : Fl → List Sl → Prop}
theorem z_forN (h : I (k + 1) ρ) : ForQ I k Q .nx ρ := h
theorem z_forC (h : I (k + 1) ρ) : ForQ I k Q .ct ρ := h
theorem z_forB (h : Q .nx ρ) : ForQ I k Q .bk ρ := h
theorem z_forR {sl : Sl} (h : Q (.rt sl) ρ) : ForQ I k Q (.rt sl) ρ := h
theorem z_for {m : Tg} {b : DM Fl} {ds : List D} (I : Nat → List Sl → Prop) (h0 : I 0 ρ)
    (hs : ∀ k d ρ, ds[k]? = some d → I k ρ → ∃ ρ1, m d ρ = some ρ1 ∧ Wp b ρ1 (ForQ I k Q))
    (hd : ∀ ρ, I ds.length ρ → Q .nx ρ) : Wp (forL m b ds) ρ Q := by
  refine wp_for I h0 (fun k d ρ e i => ?_) hd
  obtain ⟨ρ1, e1, h⟩ := hs k d ρ e i
  refine ⟨ρ1, e1, h.imp fun fl ρ2 q => ?_⟩
  cases fl <;> exact q
end
def free : Sl → Bool
  | .pn _ => false
  | _ => true
/-- a slot that is unset or shared -/
def opt : Option D → Sl
  | none => .un
  | some d => .sh d
theorem free_opt (o : Option D) : free (opt o) = true := by cases o <;> rfl
theorem pin_un : pin1 .un = .un := rfl
theorem pin_sh (d : D) : pin1 (.sh d) = .sh d := rfl
theorem pin_ow (d : D) : pin1 (.ow d) = .pn d := rfl
theorem pin_pn (d : D) : pin1 (.pn d) = .pn d := rfl
theorem pin_opt (o : Option D) : pin1 (opt o) = opt o := by cases o <;> rfl
theorem un_un (s : Sl) : un1 .un s = s := rfl
theorem un_sh (d : D) (s : Sl) : un1 (.sh d) s = s := rfl
theorem un_ow (d e : D) : un1 (.ow d) (.pn e) = .ow e := rfl
theorem un_pn (d : D) (s : Sl) : un1 (.pn d) s = s := rfl
theorem un_opt (o : Option D) (s : Sl) : un1 (opt o) s = s := by cases o <;> rfl
theorem bb_un (s : Sl) : bb1 .un s = .un := rfl
theorem bb_sh (d : D) (s : Sl) : bb1 (.sh d) s = .sh d := rfl
theorem bb_ow (d e : D) : bb1 (.ow d) (.pn e) = .ow e := rfl
theorem bb_pn (d e : D) : bb1 (.pn d) (.pn e) = .pn e := rfl
theorem bb_os (d e : D) : bb1 (.ow d) (.sh e) = .ow d := rfl
theorem bb_ps (d e : D) : bb1 (.pn d) (.sh e) = .pn d := rfl
theorem bb_opt (o : Option D) (s : Sl) : bb1 (opt o) s = opt o := by cases o <;> rfl
theorem fo_un : flatO .un = true := rfl
theorem fo_sh (d : D) : flatO (.sh d) = true := rfl
theorem fo_opt (o : Option D) : flatO (opt o) = true := by cases o <;> rfl
theorem fo_pn (xs : List D) : flatO (.pn (.lst xs)) = flats xs := rfl
theorem flats_strs : ∀ ts : List Str, flats (ts.map .str) = true
  | [] => rfl
  | t :: ts => by simp only [List.map_cons, flats, flat, flats_strs ts, Bool.and_self]
theorem flats_ints : ∀ ts : List Int, flats (ts.map .int) = true
  | [] => rfl
  | t :: ts => by simp only [List.map_cons, flats, flat, flats_ints ts, Bool.and_self]
theorem set_at {i : Nat} {x : Sl} {d : D} (e : ρ[i]? = some x) (h : free x = true) (e2 : ρ.set i (.sh d) = ρ') : setSl i (.sh d) ρ = some ρ' := by
  unfold setSl
  rw [e]
  cases x <;> first | (simp [free] at h; done) | (simp only; rw [e2])
theorem gN_at {i : Nat} {x : Sl} {d : D} (e : ρ[i]? = some x) (h : free x = true) (e2 : ρ.set i (.sh d) = ρ') : gN i d ρ = some ρ' := set_at e h e2
theorem g2_at {i j : Nat} {x y : Sl} {d1 d2 : D} {ρ1 ρ2 : List Sl} (e1 : ρ[i]? = some x) (hx : free x = true) (ea : ρ.set i (.sh d1) = ρ1) (e2 : ρ1[j]? = some y) (hy : free y = true) (eb : ρ1.set j (.sh d2) = ρ2) : gT 2 (gs1 (gN i) (gs1 (gN j) gs0)) (.tup [d1, d2]) ρ = some ρ2 := by
  simp only [gT, gs1, gs0, List.length_cons, List.length_nil, gN_at e1 hx ea, gN_at e2 hy eb, Option.bind, if_true]
theorem setO_at {i : Nat} {x : Sl} {d : D} (e : ρ[i]? = some x) (h : free x = true) (e2 : ρ.set i (.ow d) = ρ') : setSl i (.ow d) ρ = some ρ' := by
  unfold setSl
  rw [e]
  cases x <;> first | (simp [free] at h; done) | (simp only; rw [e2])
theorem lc_map {vs : List Nat} {m : Tg} {c : DM Bool} {e : DM D} {g : D → Option D} : ∀ (ds acc : List D), acc.length + ds.length ≤ sizeLine → (∀ d ∈ ds, ∃ ρ1, prot (itM m c e d) ρ = some (.ok (g d) ρ1) ∧ plainAt ρ1 vs = true ∧ wipeS ρ1 vs = ρ) → lcL vs m c e ds acc ρ = some (.ok (acc ++ ds.filterMap g) ρ)
  | [], acc, _, _ => by simp [lcL, ret]
  | d :: ds, acc, hz, h => by
    obtain ⟨ρ1, e1, e2, e3⟩ := h d List.mem_cons_self
    unfold lcL
    rw [e1]
    rw [List.length_cons] at hz
    cases z : g d with
    | none =>
      simp only [e2, if_true]
      rw [e3, lc_map ds acc (by omega) fun d hd => h d (List.mem_cons_of_mem _ hd), List.filterMap_cons_none z]
    | some y =>
      simp only [e2, show acc.length < sizeLine by omega, decide_true, Bool.and_self, if_true]
      rw [e3, lc_map ds (acc ++ [y]) (by rw [List.length_append, List.length_singleton]; omega) fun d hd => h d (List.mem_cons_of_mem _ hd), List.filterMap_cons_some z]
      simp
/-- a comprehension whose turns leave all as it was -/
theorem z_lc {vs : List Nat} {t : DM (List D)} {m : Tg} {c : DM Bool} {e : DM D} {Q : Sl → List Sl → Prop} (g : D → Option D)
    (h : Wp t ρ (fun ds ρ1 => ds.length ≤ sizeLine ∧ plainAt ρ1 vs = true ∧ restS ρ1 vs (wipeS ρ1 vs) = ρ1 ∧ (∀ d ∈ ds, Wp (prot (itM m c e d)) (wipeS ρ1 vs) (fun o ρ2 => o = g d ∧ plainAt ρ2 vs = true ∧ wipeS ρ2 vs = wipeS ρ1 vs)) ∧ Q (.ow (.lst (ds.filterMap g))) ρ1)) : Wp (lcM vs t m c e) ρ Q := by
  refine wp_lcM (h.imp fun ds ρ1 q => ?_)
  obtain ⟨hz, hp, hr, hs, q⟩ := q
  refine ⟨hp, _, _, lc_map (g := g) ds [] (by simpa using hz) (fun d hd => ?_), ?_⟩
  · obtain ⟨o, ρ2, e1, rfl, e2, e3⟩ := hs d hd
    exact ⟨ρ2, e1, e2, e3⟩
  · show Q (.ow (.lst ([] ++ ds.filterMap g))) (restS ρ1 vs (wipeS ρ1 vs))
    rw [hr, List.nil_append]; exact q
theorem range_get {n k : Nat} {lo : Int} {d : D} (h : (rangeL lo n)[k]? = some d) : k < n ∧ d = .int (lo + (k : Nat)) := by
  unfold rangeL at h
  rw [List.getElem?_map] at h
  by_cases hk : k < n
  · rw [List.getElem?_range hk] at h
    cases h
    exact ⟨hk, rfl⟩
  · rw [List.getElem?_eq_none (by simpa using hk)] at h
    cases h
theorem range_len {n : Nat} {lo : Int} : (rangeL lo n).length = n := by simp [rangeL]
section
variable {Q : List D → List Sl → Prop} {i j : Int}
theorem o_rng1 (hz : -(2 ^ 62) ≤ j ∧ j < 2 ^ 62) (h : Q (rangeL 0 j.toNat) ρ) : Wp (lft (rng1 [.int j])) ρ Q := y_lftc rfl hz h
theorem o_rng2 (hz : -(2 ^ 62) ≤ i ∧ i < 2 ^ 62 ∧ -(2 ^ 62) ≤ j ∧ j < 2 ^ 62) (h : Q (rangeL i (j - i).toNat) ρ) : Wp (lft (rng2 [.int i, .int j])) ρ Q := y_lftc rfl hz h
end
theorem y_eq {P : List Sl → Prop} (e : ρ = ρ') (h : P ρ') : P ρ := by rw [e]; exact h
theorem big_le : ∀ {n : Nat}, n ≤ 1000 → n ≤ sizeLine := fun h => Nat.le_trans h (by decide)
end
end FD

set_option linter.all false
set_option maxRecDepth 100000
namespace FD
open PySem L2 PySem.StrLaws
/-! ### tokens of a text, on lists of signs -/
def tokL : List Nat → List Nat → List (List Nat)
  | acc, [] => if acc = [] then [] else [acc]
  | acc, c :: r => if c = 10 ∨ c = 32 then (if acc = [] then tokL [] r else acc :: tokL [] r) else tokL (acc ++ [c]) r
def spc (c : Nat) : Nat := if c = 10 then 32 else c
theorem replL_map : ∀ l : List Nat, replL [10] [32] l = l.map spc
  | [] => replL_nil
  | c :: r => by
    by_cases h : c = 10
    · subst h
      rw [replL_hit (by simp) (by simp)]
      simp [spc, replL_map r]
    · rw [replL_miss (by simpa using h), replL_map r]
      simp [spc, h]
theorem spl_tok : ∀ (l acc : List Nat), (TL.spl [32] 0 acc (l.map spc)).filter (fun x => decide (x ≠ [])) = tokL acc l
  | [], acc => by
    rw [List.map_nil, TL.spl_nil, tokL]
    by_cases h : acc = [] <;> simp [h]
  | c :: r, acc => by
    rw [List.map_cons, tokL]
    by_cases h : c = 10 ∨ c = 32
    · have e : spc c = 32 := by rcases h with h | h <;> subst h <;> rfl
      rw [if_pos h, e, TL.spl_hit (by simp [TL.pre])]
      have ih := spl_tok r []
      by_cases ha : acc = []
      · rw [if_pos ha, List.filter_cons_of_neg (by simp [ha])]; exact ih
      · rw [if_neg ha, List.filter_cons_of_pos (by simp [ha])]; exact congrArg _ ih
    · have e : spc c = c := by unfold spc; rw [if_neg (fun z => h (.inl z))]
      rw [if_neg h, e, TL.spl_miss (TL.pre_of_head _ _ (fun z => h (.inr z)))]
      exact spl_tok r (acc ++ [c])
theorem tl_nl : TL.tl ("\n" : Str) = [10] := rfl
theorem split_tok (x : Str) : ((Txt.split (Txt.replace x "\n" " ") " ").map TL.tl).filter (fun x => decide (x ≠ [])) = tokL [] (TL.tl x) := by
  rw [TL.split_spl _ _ (by decide) (TL.kind_ok (by decide +kernel))]
  have e : TL.tl (Txt.replace x "\n" " ") = (TL.tl x).map spc := by
    show (Txt.replace x "\n" " ").cps.toList = _
    rw [replace_list (by decide)]
    exact replL_map _
  rw [e]
  exact spl_tok _ _
/-! white signs, runs without -/
def wht (l : List Nat) : Prop := ∀ c ∈ l, c = 10 ∨ c = 32
def blk (l : List Nat) : Prop := ∀ c ∈ l, ¬ (c = 10 ∨ c = 32)
def hdw : List Nat → Prop
  | [] => True
  | c :: _ => c = 10 ∨ c = 32
theorem tok_wht : ∀ (g l : List Nat), wht g → tokL [] (g ++ l) = tokL [] l
  | [], _, _ => rfl
  | c :: g, l, h => by
    rw [List.cons_append, tokL, if_pos (h c List.mem_cons_self), if_pos rfl]
    exact tok_wht g l fun c hc => h c (List.mem_cons_of_mem _ hc)
theorem tok_acc : ∀ (p acc l : List Nat), blk p → tokL acc (p ++ l) = tokL (acc ++ p) l
  | [], acc, l, _ => by simp
  | c :: p, acc, l, h => by
    rw [List.cons_append, tokL, if_neg (h c List.mem_cons_self), tok_acc p _ l fun c hc => h c (List.mem_cons_of_mem _ hc)]
    simp
theorem tok_end {acc l : List Nat} (ha : acc ≠ []) (h : hdw l) : tokL acc l = acc :: tokL [] l := by
  cases l with
  | nil => simp [tokL, ha]
  | cons c r =>
    have hc : c = 10 ∨ c = 32 := h
    rw [tokL, if_pos hc, if_neg ha]
    rw [tokL, if_pos hc, if_pos rfl]
theorem tok_run {p l : List Nat} (hp : p ≠ []) (hb : blk p) (h : hdw l) : tokL [] (p ++ l) = p :: tokL [] l := by
  rw [tok_acc p [] l hb, List.nil_append]
  exact tok_end hp h
theorem wht_hdw {g l : List Nat} (h : wht g) (hg : g ≠ []) : hdw (g ++ l) := by
  cases g with
  | nil => exact absurd rfl hg
  | cons c g => exact h c List.mem_cons_self
theorem wht_hdw0 {g : List Nat} (h : wht g) : hdw g := by
  cases g with
  | nil => trivial
  | cons c g => exact h c List.mem_cons_self
theorem tok_white {g : List Nat} (h : wht g) : tokL [] g = [] := by
  have := tok_wht g [] h
  rw [List.append_nil] at this
  rw [this]; rfl
def tokS (x : Str) : List Str := (tokL [] (TL.tl x)).map fun l => ⟨l.toArray⟩
theorem spl_len : ∀ (l acc : List Nat), (TL.spl [32] 0 acc (l.map spc)).length ≤ l.length + 1
  | [], acc => by rw [List.map_nil, TL.spl_nil]; simp
  | c :: r, acc => by
    rw [List.map_cons]
    by_cases h : spc c = 32
    · rw [h, TL.spl_hit (by simp [TL.pre])]
      have ih := spl_len r []
      simp only [List.length_cons]
      exact Nat.succ_le_succ ih
    · rw [TL.spl_miss (TL.pre_of_head _ _ h)]
      exact Nat.le_trans (spl_len r (acc ++ [spc c])) (by rw [List.length_cons]; omega)
theorem tl_repl (x : Str) : TL.tl (Txt.replace x "\n" " ") = (TL.tl x).map spc := by
  show (Txt.replace x "\n" " ").cps.toList = _
  rw [replace_list (by decide)]
  exact replL_map _
theorem len_repl (x : Str) : (Txt.replace x "\n" " ").length = x.length := by rw [TL.len_tl, tl_repl, List.length_map, ← TL.len_tl]
theorem len_split (x : Str) : (Txt.split (Txt.replace x "\n" " ") " ").length ≤ x.length + 1 := by
  have h : ((Txt.split (Txt.replace x "\n" " ") " ").map TL.tl).length ≤ x.length + 1 := by
    rw [TL.split_spl _ _ (by decide) (TL.kind_ok (by decide +kernel)), tl_repl, TL.len_tl]
    exact spl_len _ _
  rwa [List.length_map] at h
def neD : D → Option D
  | .str s => if s = "" then none else some (.str s)
  | _ => none
theorem tl_nil {s : Str} : TL.tl s = [] ↔ s = "" := ⟨fun h => TL.ext_tl h, fun h => by subst h; rfl⟩
theorem fm_strs : ∀ (l : List Str), (l.map D.str).filterMap neD = (((l.map TL.tl).filter (fun x => decide (x ≠ []))).map fun l => (⟨l.toArray⟩ : Str)).map D.str
  | [] => rfl
  | s :: l => by
    rw [List.map_cons, List.map_cons]
    by_cases h : s = ""
    · rw [List.filterMap_cons_none (by simp [neD, h]), List.filter_cons_of_neg (by simp [tl_nil.mpr h])]
      exact fm_strs l
    · rw [List.filterMap_cons_some (b := .str s) (by simp [neD, h]), List.filter_cons_of_pos (by simp only [decide_eq_true_eq]; exact fun z => h (tl_nil.mp z)), fm_strs l]
      simp only [List.map_cons, TL.mk_tl]
theorem split_strs (x : Str) : ((Txt.split (Txt.replace x "\n" " ") " ").map D.str).filterMap neD = (tokS x).map D.str := by
  rw [fm_strs, split_tok]; rfl
/-! texts in lists -/
theorem plain_strs (n : Nat) : ∀ ts : List Str, plainNs n (ts.map .str) = true
  | [] => rfl
  | t :: ts => by simp only [List.map_cons, plainNs, plainN, plain_strs n ts, Bool.and_self]
theorem any_strs (a : Str) : ∀ ts : List Str, ((ts.map D.str).any fun y => deq y (.str a)) = decide (a ∈ ts)
  | [] => rfl
  | t :: ts => by
    simp only [List.map_cons, List.any_cons, any_strs a ts, deq, List.mem_cons]
    by_cases h : t = a
    · subst h; simp
    · have : ¬ a = t := fun z => h z.symm
      simp [h, this]
theorem inS_strs (a : Str) (ts : List Str) : inS (.str a) (.lst (ts.map .str)) = some (.sh (.bl (decide (a ∈ ts)))) := by
  have h1 : plain (.lst (ts.map .str)) = true := plain_strs 59 ts
  show (if plain (.str a) && plain (.lst (ts.map .str)) then some (Sl.sh (.bl ((ts.map D.str).any fun y => deq y (.str a)))) else none) = _
  rw [h1, any_strs]
  rfl
theorem ninS_strs (a : Str) (ts : List Str) : ninS (.str a) (.lst (ts.map .str)) = some (.sh (.bl (!decide (a ∈ ts)))) := by
  have h1 : plain (.lst (ts.map .str)) = true := plain_strs 59 ts
  show (if plain (.str a) && plain (.lst (ts.map .str)) then some (Sl.sh (.bl (!(ts.map D.str).any fun y => deq y (.str a)))) else none) = _
  rw [h1, any_strs]
  rfl
theorem deqs_strs : ∀ ts us : List Str, deqs (ts.map .str) (us.map .str) = decide (ts = us)
  | [], [] => by simp [deqs]
  | [], _ :: _ => by simp [deqs]
  | _ :: _, [] => by simp [deqs]
  | t :: ts, u :: us => by
    simp only [List.map_cons, deqs, deq, deqs_strs ts us, List.cons.injEq, Bool.decide_and]
    rfl
theorem eqS_strs (ts us : List Str) : eqS (.lst (ts.map .str)) (.lst (us.map .str)) = some (.sh (.bl (decide (ts = us)))) := by
  have h1 : plain (.lst (ts.map .str)) = true := plain_strs 59 ts
  have h2 : plain (.lst (us.map .str)) = true := plain_strs 59 us
  unfold eqS
  rw [h1, h2]
  show some (Sl.sh (.bl (deqs (ts.map .str) (us.map .str)))) = _
  rw [deqs_strs]
theorem neS_strs (ts us : List Str) : neS (.lst (ts.map .str)) (.lst (us.map .str)) = some (.sh (.bl (!decide (ts = us)))) := by
  have h1 : plain (.lst (ts.map .str)) = true := plain_strs 59 ts
  have h2 : plain (.lst (us.map .str)) = true := plain_strs 59 us
  unfold neS
  rw [h1, h2]
  show some (Sl.sh (.bl (!deqs (ts.map .str) (us.map .str)))) = _
  rw [deqs_strs]
theorem tl_cut0 (s : Str) (k : Nat) : TL.tl (cutS s none (some (k : Int))) = (TL.tl s).take k := by
  show ((s.cps.toList.drop 0).take (HT.sIx s.length s.length (some (k : Int)) - 0)) = _
  rw [HT.sIx_nat, List.drop_zero, Nat.sub_zero]
  by_cases h : k ≤ s.length
  · rw [Nat.min_eq_left h]
  · rw [Nat.min_eq_right (by omega), List.take_of_length_le (by rw [← TL.len_tl]; exact Nat.le_refl _)]
    exact (List.take_of_length_le (by rw [← TL.len_tl]; omega)).symm
theorem pigeon {α : Type} [BEq α] [LawfulBEq α] : ∀ (l ts : List α), l.Nodup → (∀ x ∈ l, x ∈ ts) → l.length ≤ ts.length
  | [], _, _, _ => Nat.zero_le _
  | x :: l, ts, hn, h => by
    rw [List.nodup_cons] at hn
    have h1 := h x List.mem_cons_self
    have ih := pigeon l (ts.erase x) hn.2 fun y hy => (List.mem_erase_of_ne (a := y) (b := x) (fun z => by subst z; exact hn.1 hy)).mpr (h y (List.mem_cons_of_mem _ hy))
    rw [List.length_erase_of_mem h1] at ih
    have : 0 < ts.length := List.length_pos_of_mem h1
    rw [List.length_cons]; omega
theorem len_app (x y : Str) : (x ++ y).length = x.length + y.length := by
  rw [TL.len_tl, TL.len_tl, TL.len_tl, TL.tl_append, List.length_append]
theorem len_one (k : Nat) : (⟨#[k]⟩ : Str).length = 1 := rfl
theorem blk_app {x y : Str} (h1 : blk (TL.tl x)) (h2 : blk (TL.tl y)) : blk (TL.tl (x ++ y)) := by
  intro c hc
  rw [TL.tl_append, List.mem_append] at hc
  exact hc.elim (h1 c) (h2 c)
end FD

set_option Elab.async false
set_option linter.all false
set_option maxRecDepth 100000
set_option maxHeartbeats 4000000
namespace FD.Law
open PySem L2 FD
/-! the text -/
def topS (i : Nat) : Stmt := PySem.Challenge.pw_silentslips_k29_tokens_of_a_text.main.body.getD i (.Pass ⟨0, 0, 0, 0⟩)
abbrev s_split_tokens : Stmt := topS 1
abbrev N_split_tokens : List Str := ["text", "part"]
theorem sc_split_tokens : FnScope N_split_tokens ["text"] (defScope s_split_tokens) := ⟨rfl, rfl, rfl, by decide +kernel, rfl, by decide +kernel, by decide +kernel⟩
abbrev s_tokens_of : Stmt := topS 3
abbrev N_tokens_of : List Str := ["text"]
theorem sc_tokens_of : FnScope N_tokens_of ["text"] (defScope s_tokens_of) := ⟨rfl, rfl, rfl, by decide +kernel, rfl, by decide +kernel, by decide +kernel⟩
abbrev s_law_bag : Stmt := topS 5
abbrev N_law_bag : List Str := ["_law_script", "_law_at", "_law_cell", "_law_digits"]
theorem sc_law_bag : FnScope N_law_bag ["_law_script", "_law_at"] (defScope s_law_bag) := ⟨rfl, rfl, rfl, by decide +kernel, rfl, by decide +kernel, by decide +kernel⟩
abbrev s_law_take : Stmt := topS 6
abbrev N_law_take : List Str := ["_law_dice", "_law_many", "_law_digit", "_law_mixed"]
theorem sc_law_take : FnScope N_law_take ["_law_dice", "_law_many"] (defScope s_law_take) := ⟨rfl, rfl, rfl, by decide +kernel, rfl, by decide +kernel, by decide +kernel⟩
abbrev s_law_of : Stmt := topS 7
abbrev N_law_of : List Str := ["_law_dice", "_law_some"]
theorem sc_law_of : FnScope N_law_of ["_law_dice", "_law_some"] (defScope s_law_of) := ⟨rfl, rfl, rfl, by decide +kernel, rfl, by decide +kernel, by decide +kernel⟩
abbrev s_law_signs : Stmt := topS 8
abbrev N_law_signs : List Str := ["_law_some"]
theorem sc_law_signs : FnScope N_law_signs [] (defScope s_law_signs) := ⟨rfl, rfl, rfl, by decide +kernel, rfl, by decide +kernel, by decide +kernel⟩
abbrev s_law_token : Stmt := topS 9
abbrev N_law_token : List Str := ["_law_dice", "_law_taken", "_law_chars", "_law_made", "_law_turn", "_law_base", "_law_sign"]
theorem sc_law_token : FnScope N_law_token ["_law_dice", "_law_taken"] (defScope s_law_token) := ⟨rfl, rfl, rfl, by decide +kernel, rfl, by decide +kernel, by decide +kernel⟩
abbrev s_law_laid : Stmt := topS 10
abbrev N_law_laid : List Str := ["_law_bag_here", "_law_tokens", "_law_text", "_law_line", "_law_lines", "_law_at", "_law_token_here", "_law_gap"]
theorem sc_law_laid : FnScope N_law_laid ["_law_bag_here", "_law_tokens"] (defScope s_law_laid) := ⟨rfl, rfl, rfl, by decide +kernel, rfl, by decide +kernel, by decide +kernel⟩
abbrev s_law : Stmt := topS 11
abbrev N_law : List Str := ["_law_script", "_law_bag_here", "_law_runs", "_law_turn", "_law_run", "_law_text", "_law_lines", "_law_first", "_law_second"]
theorem sc_law : FnScope N_law ["_law_script"] (defScope s_law) := ⟨rfl, rfl, rfl, by decide +kernel, rfl, by decide +kernel, by decide +kernel⟩
/-! what it computes -/
def T_split_tokens : DM Fl :=
  (retM (lcM [1] (bnd (fz (bnd (replM "\n" " " (get 0)) fun d => lft (splitS d [.str " "]))) fun d => lft (itemsD d)) (gN 1) (testM (opS neS (get 1) (ret (.str "")))) (get 1)))
def F_split_tokens : DF := runF 1 2 T_split_tokens
def T_tokens_of : DM Fl :=
  (retM (callA F_split_tokens (arVal (get 0) arNil)))
def F_tokens_of : DF := runF 1 1 T_tokens_of
def T_law_bag : DM Fl :=
  (seqM (setM 2 (shD (fz (ifM (testM (opS ltS (get 1) (fz (callM lenS (consM (get 0) (ret [])))))) (opS ixS (get 0) (get 1)) (shD (ret (.int 0)))))))
  (seqM (setM 3 (shD (fz (ifM (testM (opS geS (fz (callM absS (consM (get 2) (ret [])))) (fz (opS powS (ret (.int 10)) (ret (.int 18)))))) (callM absS (consM (get 2) (ret []))) (shD (ret (.int 0)))))))
  (retM (lstM (consM (get 3) (consM (fz (opS addS (fz (opS addS (fz (opS mulS (fz (opS modS (fz (callM intS (consM (get 2) (ret [])))) (ret (.int 2305843009213693951)))) (ret (.int 5)))) (fz (opS mulS (ret (.int 8191)) (get 1))))) (ret (.int 6007)))) (consM (ret (.int 0)) (ret []))))))))
def F_law_bag : DF := runF 2 4 T_law_bag
def T_law_take : DM Fl :=
  (seqM (ifM (testM (opS gtS (fz (bor flatR 0 (opS ixS (get 0) (ret (.int 0))))) (ret (.int 0)))) (seqM (setM 2 (shD (fz (opS modS (fz (callM intS (consM (fz (bor flatR 0 (opS ixS (get 0) (ret (.int 0))))) (ret [])))) (get 1)))))
  (seqM (stM 0 (ret (.int 0)) (fz (opS fdivS (fz (bor flatR 0 (opS ixS (get 0) (ret (.int 0))))) (get 1))))
  (retM (shD (get 2))))) (ret .nx))
  (seqM (stM 0 (ret (.int 2)) (fz (opS addS (fz (bor flatR 0 (opS ixS (get 0) (ret (.int 2))))) (ret (.int 1)))))
  (seqM (setM 3 (shD (fz (opS modS (fz (callM intS (consM (fz (opS powS (fz (opS addS (fz (bor flatR 0 (opS ixS (get 0) (ret (.int 1))))) (fz (opS mulS (ret (.int 1000081)) (fz (bor flatR 0 (opS ixS (get 0) (ret (.int 2))))))))) (ret (.int 3)))) (ret [])))) (ret (.int 2305843009213693921))))))
  (seqM (setM 3 (shD (fz (opS modS (fz (callM intS (consM (fz (opS powS (fz (opS addS (get 3) (fz (opS mulS (ret (.int 32452867)) (fz (bor flatR 0 (opS ixS (get 0) (ret (.int 2))))))))) (ret (.int 2)))) (ret [])))) (ret (.int 2305843009213693951))))))
  (retM (opS modS (fz (callM intS (consM (fz (opS fdivS (get 3) (ret (.int 4096)))) (ret [])))) (get 1)))))))
def F_law_take : DF := runF 2 4 T_law_take
def T_law_of : DM Fl :=
  (retM (opS ixS (get 1) (fz (callA F_law_take (arLend 0 (arVal (fz (callM lenS (consM (get 1) (ret [])))) arNil))))))
def F_law_of : DF := runF 2 2 T_law_of
def T_law_signs : DM Fl :=
  (seqM (setM 0 (shD (ret (.str "!\"#$&'()*+,-./0123456789:;<=>?@ABCDEFGHIJKLMNOPQRSTUVWXYZ[\\]^_`"))))
  (retM (opS addS (get 0) (ret (.str "abcdefghijklmnopqrstuvwxyz{|}~")))))
def F_law_signs : DF := runF 0 1 T_law_signs
def T_law_token : DM Fl :=
  (seqM (parM [2, 3] (fsCons (shD (fz (callA F_law_signs arNil))) (fsCons (shD (ret (.str ""))) (ret []))))
  (seqM (forM (gN 4) (setM 3 (shD (fz (opS addS (get 3) (fz (callA F_law_of (arLend 0 (arVal (get 2) arNil)))))))) (bnd (consM (fz (callA F_law_of (arLend 0 (arVal (fz (lstM (consM (ret (.int 1)) (consM (ret (.int 1)) (consM (ret (.int 1)) (consM (ret (.int 2)) (consM (ret (.int 3)) (consM (ret (.int 4)) (ret []))))))))) arNil)))) (ret [])) fun ds => lft (rng1 ds)))
  (seqM (setM 5 (shD (fz (slM (get 3) (ret none) (part (ret (.int 3)))))))
  (seqM (forM (gN 6) (ifM (testM (opS inS (get 3) (get 1))) (setM 3 (shD (fz (opS addS (get 5) (get 6))))) (ret .nx)) (bnd (get 2) fun d => lft (itemsA d)))
  (retM (shD (get 3)))))))
def F_law_token : DF := runF 2 7 T_law_token
def T_law_laid : DM Fl :=
  (seqM (parM [2, 3, 4] (fsCons (shD (ret (.str ""))) (fsCons (shD (ret (.int 1))) (fsCons (lstM (ret [])) (ret [])))))
  (seqM (forM (gT 2 (gs1 (gN 5) (gs1 (gN 6) gs0))) (seqM (setM 7 (shD (fz (callA F_law_of (arLend 0 (arVal (fz (lstM (consM (ret (.str " ")) (consM (ret (.str " ")) (consM (ret (.str " ")) (consM (ret (.str "  ")) (consM (ret (.str "\n")) (consM (ret (.str " \n ")) (consM (ret (.str "\n\n")) (ret [])))))))))) arNil))))))
  (seqM (ifM (testM (opS eqS (get 5) (ret (.int 0)))) (setM 7 (shD (fz (callA F_law_of (arLend 0 (arVal (fz (lstM (consM (ret (.str "")) (consM (ret (.str "")) (consM (ret (.str " ")) (consM (ret (.str "\n")) (ret []))))))) arNil)))))) (ret .nx))
  (seqM (setM 2 (shD (fz (opS addS (fz (opS addS (get 2) (get 7))) (get 6)))))
  (seqM (setM 3 (shD (fz (opS addS (get 3) (fz (methM countS (get 7) (consM (ret (.str "\n")) (ret []))))))))
  (appM 4 (consM (get 3) (ret []))))))) (bnd (consM (get 1) (ret [])) fun ds => lft (enumD ds)))
  (frzM 4 (retM (tupM (consM (fz (opS addS (get 2) (fz (callA F_law_of (arLend 0 (arVal (fz (lstM (consM (ret (.str "")) (consM (ret (.str "")) (consM (ret (.str " ")) (consM (ret (.str "\n")) (consM (ret (.str "\n \n")) (ret [])))))))) arNil)))))) (consM (get 4) (ret []))))))))
def F_law_laid : DF := runF 2 8 T_law_laid
def T_law : DM Fl :=
  (seqM (setM 1 (callA F_law_bag (arVal (get 0) (arVal (ret (.int 0)) arNil))))
  (seqM (setM 2 (lstM (ret [])))
  (seqM (forM (gN 3) (seqM (setM 4 (shD (fz (callA F_law_token (arLend 1 (arVal (fz (lstM (ret []))) arNil))))))
  (seqM (ifM (testM (opS eqS (fz (callA F_law_take (arLend 1 (arVal (ret (.int 3)) arNil)))) (ret (.int 0)))) (setM 4 (shD (fz (opS addS (get 4) (fz (callA F_law_token (arLend 1 (arVal (fz (lstM (ret []))) arNil)))))))) (ret .nx))
  (appM 2 (consM (get 4) (ret []))))) (bnd (consM (fz (callA F_law_take (arLend 1 (arVal (ret (.int 40)) arNil)))) (ret [])) fun ds => lft (rng1 ds)))
  (frzM 2 (seqM (asgM (gT 2 (gs1 (gN 5) (gs1 (gN 6) gs0))) (fz (callT F_law_laid (callA F_law_bag (arVal (get 0) (arVal (ret (.int 1)) arNil))) (arVal (get 2) arNil))))
  (seqM (setM 7 (callA F_tokens_of (arVal (get 5) arNil)))
  (seqM (ifM (orM (notM (truM (fz (bor flatR 7 (callM isiS (consM (get 7) (consM (ret (.opq (.ty "list"))) (ret [])))))))) (bor (fun _ => true) 7 (testM (opS neS (get 7) (get 2))))) (retM (shD (ret (.bl false)))) (ret .nx))
  (seqM (appM 7 (consM (ret (.str "x")) (ret [])))
  (frzM 7 (seqM (setM 8 (shD (fz (callA F_tokens_of (arVal (get 5) arNil)))))
  (seqM (ifM (orM (notM (truM (fz (callM isiS (consM (get 8) (consM (ret (.opq (.ty "list"))) (ret []))))))) (orM (testM (opS neS (get 8) (get 2))) (testM (opS neS (get 7) (fz (opS addS (get 2) (fz (lstM (consM (ret (.str "x")) (ret [])))))))))) (retM (shD (ret (.bl false)))) (ret .nx))
  (retM (shD (andV (fz (opS eqS (fz (callA F_tokens_of (arVal (ret (.str "")) arNil))) (fz (lstM (ret []))))) (andV (fz (opS eqS (fz (callA F_tokens_of (arVal (ret (.str " \n  \n")) arNil))) (fz (lstM (ret []))))) (fz (opS eqS (fz (callA F_tokens_of (arVal (ret (.str "a\nb ")) arNil))) (fz (lstM (consM (ret (.str "a")) (consM (ret (.str "b")) (ret []))))))))))))))))))))))
def F_law : DF := runF 1 9 T_law
/-! the walk -/
structure Bn (mg : Str → Option Value) : Prop where
  abs : mg "abs" = none
  enumerate : mg "enumerate" = none
  int : mg "int" = none
  isinstance : mg "isinstance" = none
  len : mg "len" = none
  list : mg "list" = none
  range : mg "range" = none
section
variable {P : Program} {w : World} {K : PySem.W.Frag} {mg : Str → Option Value} {base : Heap} {ct : List Addr}
theorem fn_split_tokens {f : Addr} {fd : FuncData} (Fu : Fun K "split_tokens" "split_tokens" s_split_tokens f fd) (U : Bn mg) : FnOk P w K mg base (L2.CX P w) 1 f fd ["text"] (SpF K ct F_split_tokens) := by
  refine fn_dT (k := 0) Fu sc_split_tokens (by decide +kernel) (by decide) fun cdv A outer s H E hr => ?_
  exact (pRet (pLc [("part", 1)] rfl sc_split_tokens.nd (pLst (pFz (pSplit (pRepl (dV 0))))) (blkOk_by (own := [("part", 1)]) (N := N_split_tokens) (sc := defScope s_split_tokens) (by decide +kernel)) (fun _ _ _ _ _ => (wName 1 sc_split_tokens.nd)) (fun _ _ _ _ _ => (ifs1 (cCmp (dNe hr.units) (dV 1) dStr (nomark _)))) (fun _ _ _ _ _ => (dV 1))))
theorem fn_tokens_of {f : Addr} {fd : FuncData} (Fu : Fun K "tokens_of" "tokens_of" s_tokens_of f fd) (U : Bn mg) (C_split_tokens : Cal P w K mg base ct "split_tokens" 1 ["text"] F_split_tokens) : FnOk P w K mg base (L2.CX P w) 2 f fd ["text"] (SpF K ct F_tokens_of) := by
  refine fn_d (k := 1) Fu sc_tokens_of fun cdv A outer s H E hr => ?_
  have tk : Takes (cxOf (L2.CX P w) P w K mg base N_tokens_of "tokens_of" (defScope s_tokens_of) f cdv A outer s H E) (fun c d _ H' => E c d H') := takes_of rfl rfl rfl rfl
  exact (sOne (sRet (fC tk C_split_tokens (hr.mono (by decide)) (rVal (dV 0) rNil))))
theorem fn_law_bag {f : Addr} {fd : FuncData} (Fu : Fun K "_law_bag" "_law_bag" s_law_bag f fd) (U : Bn mg) : FnOk P w K mg base (L2.CX P w) 1 f fd ["_law_script", "_law_at"] (SpF K ct F_law_bag) := by
  refine fn_d (k := 0) Fu sc_law_bag fun cdv A outer s H E hr => ?_
  have tk : Takes (cxOf (L2.CX P w) P w K mg base N_law_bag "_law_bag" (defScope s_law_bag) f cdv A outer s H E) (fun c d _ H' => E c d H') := takes_of rfl rfl rfl rfl
  exact (sCons (sSet 2 sc_law_bag.nd (fD (dF (fIf (cCmp dLt (dV 1) (dF (fB cLen (by rfl) U.len (by decide +kernel) (aCons (dV 0) aNil))) (nomark _)) (fIx (dV 0) (dV 1) (fun _ _ => rfl)) (fD dInt)))))
    (sCons (sSet 3 sc_law_bag.nd (fD (dF (fIf (cCmp dGe (dF (fB cAbs (by rfl) U.abs (by decide +kernel) (aCons (dV 2) aNil))) (dF (fOp dPow dInt dInt)) (nomark _)) (fB cAbs (by rfl) U.abs (by decide +kernel) (aCons (dV 2) aNil)) (fD dInt)))))
    (sOne (sRet (fLst (aCons (dV 3) (aCons (dF (fOp dAdd (dF (fOp dAdd (dF (fOp dMul (dF (fOp dMod (dF (fTy cInt (by rfl) U.int (by decide +kernel) (aCons (dV 2) aNil))) dInt)) dInt)) (dF (fOp dMul dInt (dV 1))))) dInt)) (aCons dInt aNil))))))))
theorem fn_law_take {f : Addr} {fd : FuncData} (Fu : Fun K "_law_take" "_law_take" s_law_take f fd) (U : Bn mg) : FnOk P w K mg base (L2.CX P w) 1 f fd ["_law_dice", "_law_many"] (SpF K ct F_law_take) := by
  refine fn_d (k := 0) Fu sc_law_take fun cdv A outer s H E hr => ?_
  have tk : Takes (cxOf (L2.CX P w) P w K mg base N_law_take "_law_take" (defScope s_law_take) f cdv A outer s H E) (fun c d _ H' => E c d H') := takes_of rfl rfl rfl rfl
  exact (sCons (sIf (cCmp dGt (dF (fBor 0 (fIx (dV 0) dInt (fun _ _ => rfl)))) dInt (nomark _)) (sCons (sSet 2 sc_law_take.nd (fD (dF (fOp dMod (dF (fTy cInt (by rfl) U.int (by decide +kernel) (aCons (dF (fBor 0 (fIx (dV 0) dInt (fun _ _ => rfl)))) aNil))) (dV 1)))))
    (sCons (sStore 0 (dF (fOp dFdiv (dF (fBor 0 (fIx (dV 0) dInt (fun _ _ => rfl)))) (dV 1))) dInt)
    (sOne (sRet (fD (dV 2)))))) sNil)
    (sCons (sStore 0 (dF (fOp dAdd (dF (fBor 0 (fIx (dV 0) dInt (fun _ _ => rfl)))) dInt)) dInt)
    (sCons (sSet 3 sc_law_take.nd (fD (dF (fOp dMod (dF (fTy cInt (by rfl) U.int (by decide +kernel) (aCons (dF (fOp dPow (dF (fOp dAdd (dF (fBor 0 (fIx (dV 0) dInt (fun _ _ => rfl)))) (dF (fOp dMul dInt (dF (fBor 0 (fIx (dV 0) dInt (fun _ _ => rfl)))))))) dInt)) aNil))) dInt))))
    (sCons (sSet 3 sc_law_take.nd (fD (dF (fOp dMod (dF (fTy cInt (by rfl) U.int (by decide +kernel) (aCons (dF (fOp dPow (dF (fOp dAdd (dV 3) (dF (fOp dMul dInt (dF (fBor 0 (fIx (dV 0) dInt (fun _ _ => rfl)))))))) dInt)) aNil))) dInt))))
    (sOne (sRet (fOp dMod (dF (fTy cInt (by rfl) U.int (by decide +kernel) (aCons (dF (fOp dFdiv (dV 3) dInt)) aNil))) (dV 1))))))))
theorem fn_law_of {f : Addr} {fd : FuncData} (Fu : Fun K "_law_of" "_law_of" s_law_of f fd) (U : Bn mg) (C_law_take : Cal P w K mg base ct "_law_take" 1 ["_law_dice", "_law_many"] F_law_take) : FnOk P w K mg base (L2.CX P w) 2 f fd ["_law_dice", "_law_some"] (SpF K ct F_law_of) := by
  refine fn_d (k := 1) Fu sc_law_of fun cdv A outer s H E hr => ?_
  have tk : Takes (cxOf (L2.CX P w) P w K mg base N_law_of "_law_of" (defScope s_law_of) f cdv A outer s H E) (fun c d _ H' => E c d H') := takes_of rfl rfl rfl rfl
  exact (sOne (sRet (fIx (dV 1) (dF (fC tk C_law_take (hr.mono (by decide)) (rLend 0 (rVal (dF (fB cLen (by rfl) U.len (by decide +kernel) (aCons (dV 1) aNil))) rNil)))) (fun _ _ => rfl))))
theorem fn_law_signs {f : Addr} {fd : FuncData} (Fu : Fun K "_law_signs" "_law_signs" s_law_signs f fd) (U : Bn mg) : FnOk P w K mg base (L2.CX P w) 1 f fd [] (SpF K ct F_law_signs) := by
  refine fn_d (k := 0) Fu sc_law_signs fun cdv A outer s H E hr => ?_
  have tk : Takes (cxOf (L2.CX P w) P w K mg base N_law_signs "_law_signs" (defScope s_law_signs) f cdv A outer s H E) (fun c d _ H' => E c d H') := takes_of rfl rfl rfl rfl
  exact (sCons (sSet 0 sc_law_signs.nd (fD dStr))
    (sOne (sRet (fOp dAdd (dV 0) dStr))))
theorem fn_law_token {f : Addr} {fd : FuncData} (Fu : Fun K "_law_token" "_law_token" s_law_token f fd) (U : Bn mg) (C_law_signs : Cal P w K mg base ct "_law_signs" 1 [] F_law_signs) (C_law_of : Cal P w K mg base ct "_law_of" 2 ["_law_dice", "_law_some"] F_law_of) : FnOk P w K mg base (L2.CX P w) 3 f fd ["_law_dice", "_law_taken"] (SpF K ct F_law_token) := by
  refine fn_d (k := 2) Fu sc_law_token fun cdv A outer s H E hr => ?_
  have tk : Takes (cxOf (L2.CX P w) P w K mg base N_law_token "_law_token" (defScope s_law_token) f cdv A outer s H E) (fun c d _ H' => E c d H') := takes_of rfl rfl rfl rfl
  have po : PassesOwn (model P w) (cxOf (L2.CX P w) P w K mg base N_law_token "_law_token" (defScope s_law_token) f cdv A outer s H E).A (cxOf (L2.CX P w) P w K mg base N_law_token "_law_token" (defScope s_law_token) f cdv A outer s H E).env (cxOf (L2.CX P w) P w K mg base N_law_token "_law_token" (defScope s_law_token) f cdv A outer s H E).xe := passes_of rfl
  exact (sCons (sPar2 2 3 rfl sc_law_token.nd (nCons (fD (dF (fC0 tk C_law_signs (hr.mono (by decide))))) (nCons (fD dStr) nNil)))
    (sCons (sFor po rfl (iRng1 (by rfl) U.range (aCons (dF (fC tk C_law_of (hr.mono (by decide)) (rLend 0 (rVal (dF (fLst (aCons dInt (aCons dInt (aCons dInt (aCons dInt (aCons dInt (aCons dInt aNil)))))))) rNil)))) aNil)) (gName 4 sc_law_token.nd) (sOne (sSet 3 sc_law_token.nd (fD (dF (fOp dAdd (dV 3) (dF (fC tk C_law_of (hr.mono (by decide)) (rLend 0 (rVal (dV 2) rNil))))))))))
    (sCons (sSet 5 sc_law_token.nd (fD (dF (fSl (dV 3) oNone (oSome dInt)))))
    (sCons (sFor po rfl (iAny (dV 2)) (gName 6 sc_law_token.nd) (sOne (sIf (cCmp (dIn hr.units) (dV 3) (dV 1) (by rfl)) (sOne (sSet 3 sc_law_token.nd (fD (dF (fOp dAdd (dV 5) (dV 6)))))) sNil)))
    (sOne (sRet (fD (dV 3))))))))
theorem fn_law_laid {f : Addr} {fd : FuncData} (Fu : Fun K "_law_laid" "_law_laid" s_law_laid f fd) (U : Bn mg) (C_law_of : Cal P w K mg base ct "_law_of" 2 ["_law_dice", "_law_some"] F_law_of) : FnOk P w K mg base (L2.CX P w) 3 f fd ["_law_bag_here", "_law_tokens"] (SpF K ct F_law_laid) := by
  refine fn_d (k := 2) Fu sc_law_laid fun cdv A outer s H E hr => ?_
  have tk : Takes (cxOf (L2.CX P w) P w K mg base N_law_laid "_law_laid" (defScope s_law_laid) f cdv A outer s H E) (fun c d _ H' => E c d H') := takes_of rfl rfl rfl rfl
  have po : PassesOwn (model P w) (cxOf (L2.CX P w) P w K mg base N_law_laid "_law_laid" (defScope s_law_laid) f cdv A outer s H E).A (cxOf (L2.CX P w) P w K mg base N_law_laid "_law_laid" (defScope s_law_laid) f cdv A outer s H E).env (cxOf (L2.CX P w) P w K mg base N_law_laid "_law_laid" (defScope s_law_laid) f cdv A outer s H E).xe := passes_of rfl
  exact (sCons (sPar3 2 3 4 rfl sc_law_laid.nd (nCons (fD dStr) (nCons (fD dInt) (nCons (fLst aNil) nNil))))
    (sCons (sFor po rfl (iEnumD (by rfl) U.enumerate (aCons (dV 1) aNil)) (gTup rfl (gsCons (gName 5 sc_law_laid.nd) (gsCons (gName 6 sc_law_laid.nd) gsNil))) (sCons (sSet 7 sc_law_laid.nd (fD (dF (fC tk C_law_of (hr.mono (by decide)) (rLend 0 (rVal (dF (fLst (aCons dStr (aCons dStr (aCons dStr (aCons dStr (aCons dStr (aCons dStr (aCons dStr aNil))))))))) rNil))))))
    (sCons (sIf (cCmp (dEq hr.units) (dV 5) dInt (nomark _)) (sOne (sSet 7 sc_law_laid.nd (fD (dF (fC tk C_law_of (hr.mono (by decide)) (rLend 0 (rVal (dF (fLst (aCons dStr (aCons dStr (aCons dStr (aCons dStr aNil)))))) rNil))))))) sNil)
    (sCons (sSet 2 sc_law_laid.nd (fD (dF (fOp dAdd (dF (fOp dAdd (dV 2) (dV 7))) (dV 6)))))
    (sCons (sSet 3 sc_law_laid.nd (fD (dF (fOp dAdd (dV 3) (dF (fM F.slot_str_count F.type_str_count mCount (dV 7) (aCons dStr aNil)))))))
    (sOne (sApp 4 (aCons (dV 3) aNil))))))))
    (sFrz 4 (sOne (sRet (fTup (aCons (dF (fOp dAdd (dV 2) (dF (fC tk C_law_of (hr.mono (by decide)) (rLend 0 (rVal (dF (fLst (aCons dStr (aCons dStr (aCons dStr (aCons dStr (aCons dStr aNil))))))) rNil)))))) (aCons (dV 4) aNil))))))))
theorem fn_law {f : Addr} {fd : FuncData} (Fu : Fun K "law" "law" s_law f fd) (U : Bn mg) (C_law_bag : Cal P w K mg base ct "_law_bag" 1 ["_law_script", "_law_at"] F_law_bag) (C_law_take : Cal P w K mg base ct "_law_take" 1 ["_law_dice", "_law_many"] F_law_take) (C_law_token : Cal P w K mg base ct "_law_token" 3 ["_law_dice", "_law_taken"] F_law_token) (C_law_laid : Cal P w K mg base ct "_law_laid" 3 ["_law_bag_here", "_law_tokens"] F_law_laid) (C_tokens_of : Cal P w K mg base ct "tokens_of" 2 ["text"] F_tokens_of) : FnOk P w K mg base (L2.CX P w) 4 f fd ["_law_script"] (SpF K ct F_law) := by
  refine fn_d (k := 3) Fu sc_law fun cdv A outer s H E hr => ?_
  have tk : Takes (cxOf (L2.CX P w) P w K mg base N_law "law" (defScope s_law) f cdv A outer s H E) (fun c d _ H' => E c d H') := takes_of rfl rfl rfl rfl
  have po : PassesOwn (model P w) (cxOf (L2.CX P w) P w K mg base N_law "law" (defScope s_law) f cdv A outer s H E).A (cxOf (L2.CX P w) P w K mg base N_law "law" (defScope s_law) f cdv A outer s H E).env (cxOf (L2.CX P w) P w K mg base N_law "law" (defScope s_law) f cdv A outer s H E).xe := passes_of rfl
  exact (sCons (sSet 1 sc_law.nd (fC tk C_law_bag (hr.mono (by decide)) (rVal (dV 0) (rVal dInt rNil))))
    (sCons (sSet 2 sc_law.nd (fLst aNil))
    (sCons (sFor po rfl (iRng1 (by rfl) U.range (aCons (dF (fC tk C_law_take (hr.mono (by decide)) (rLend 1 (rVal dInt rNil)))) aNil)) (gName 3 sc_law.nd) (sCons (sSet 4 sc_law.nd (fD (dF (fC tk C_law_token (hr.mono (by decide)) (rLend 1 (rVal (dF (fLst aNil)) rNil))))))
    (sCons (sIf (cCmp (dEq hr.units) (dF (fC tk C_law_take (hr.mono (by decide)) (rLend 1 (rVal dInt rNil)))) dInt (nomark _)) (sOne (sSet 4 sc_law.nd (fD (dF (fOp dAdd (dV 4) (dF (fC tk C_law_token (hr.mono (by decide)) (rLend 1 (rVal (dF (fLst aNil)) rNil))))))))) sNil)
    (sOne (sApp 2 (aCons (dV 4) aNil))))))
    (sFrz 2 (sCons (sAsg (dF (fCT tk C_law_laid (hr.mono (by decide)) (fC tk C_law_bag (hr.mono (by decide)) (rVal (dV 0) (rVal dInt rNil))) (rVal (dV 2) rNil))) (gTup rfl (gsCons (gName 5 sc_law.nd) (gsCons (gName 6 sc_law.nd) gsNil))))
    (sCons (sSet 7 sc_law.nd (fC tk C_tokens_of (hr.mono (by decide)) (rVal (dV 5) rNil)))
    (sCons (sIf (cW (wOr (cNot (cTru (dF (fBor 7 (fB cIsi (by rfl) U.isinstance (by decide +kernel) (aCons (dV 7) (aCons (dTy U.list (by decide +kernel)) aNil))))))) (wOr1 (cBor 7 (cCmp (dNe hr.units) (dV 7) (dV 2) (nomark _)))))) (sOne (sRet (fD dBl))) sNil)
    (sCons (sApp 7 (aCons dStr aNil))
    (sFrz 7 (sCons (sSet 8 sc_law.nd (fD (dF (fC tk C_tokens_of (hr.mono (by decide)) (rVal (dV 5) rNil)))))
    (sCons (sIf (cW (wOr (cNot (cTru (dF (fB cIsi (by rfl) U.isinstance (by decide +kernel) (aCons (dV 8) (aCons (dTy U.list (by decide +kernel)) aNil)))))) (wOr (cCmp (dNe hr.units) (dV 8) (dV 2) (nomark _)) (wOr1 (cCmp (dNe hr.units) (dV 7) (dF (fOp dAdd (dV 2) (dF (fLst (aCons dStr aNil))))) (nomark _)))))) (sOne (sRet (fD dBl))) sNil)
    (sOne (sRet (fD (vAnd (dF (fCmp (dEq hr.units) (dF (fC tk C_tokens_of (hr.mono (by decide)) (rVal dStr rNil))) (dF (fLst aNil)) (nomark _))) (vAnd (dF (fCmp (dEq hr.units) (dF (fC tk C_tokens_of (hr.mono (by decide)) (rVal dStr rNil))) (dF (fLst aNil)) (nomark _))) (vOne (dF (fCmp (dEq hr.units) (dF (fC tk C_tokens_of (hr.mono (by decide)) (rVal dStr rNil))) (dF (fLst (aCons dStr (aCons dStr aNil)))) (nomark _))))))))))))))))))))
end
end FD.Law

set_option linter.all false
set_option maxRecDepth 100000
namespace FD.Law
open PySem L2 FD
local macro_rules | `(tactic| walk_at "y1") => `(tactic| with_reducible first | refine y_seq ?_ | refine y_setM ?_ | refine y_shD ?_ | refine z_fz ?_ | refine z_datS ?_ | refine z_datO ?_ | refine y_opS ?_ | refine y_callM ?_ | refine y_consM ?_ | refine y_ret ?_ | refine y_nx ?_ | refine y_rt ?_ | refine y_bk ?_ | refine y_ct ?_ | refine z_forN ?_ | refine z_forC ?_ | refine z_forB ?_ | refine z_forR ?_ | refine y_retM ?_ | refine y_ifM ?_ | refine y_tupM ?_ | refine y_lstM ?_ | refine y_testM ?_ | refine y_truM ?_ | refine y_notM ?_ | refine y_andM ?_ | refine y_orM ?_ | refine y_andV ?_ | refine y_orV ?_ | refine y_notV ?_ | refine y_dropM ?_ | refine y_augM ?_ | refine y_methM ?_ | refine y_slM ?_ | refine y_part ?_ | refine y_negM ?_ | refine y_replM ?_ | refine y_callA ?_ | refine y_arVal ?_ | refine y_arNil ?_ | refine y_fsCons ?_ | refine z_st ?_ | refine z_asg ?_ | refine z_par ?_ | refine y_forM ?_ | refine y_chain ?_ | refine wp_callT ?_ | refine wp_itM ?_ | refine y_bnd ?_)
local macro_rules | `(tactic| walk_at "e") => `(tactic| focus ((try simp only [setSl, setSls, gN, gT, gs0, gs1, get0, getS, set0, setS, own?, borS, pinAll, pin_un, pin_sh, pin_ow, pin_pn, pin_opt, List.map_cons, List.map_nil, wipeS, restS, argSls, argSl, Option.map, Option.bind, frzS, if_true, ite_true, Option.isSome, zipB, bb_un, bb_sh, bb_ow, bb_pn, bb_os, bb_ps, bb_opt, unpin, un_un, un_sh, un_ow, un_pn, un_opt, back, back1, Sl.dat, outs, List.length_cons, List.length_nil, Nat.zero_add, Nat.reduceAdd, Int.reduceToNat]); first | done | exact rfl))
local macro_rules | `(tactic| walk_at "f") => `(tactic| focus (first | exact rfl | (simp only [List.all_cons, List.all_nil, fo_un, fo_sh, fo_opt, fo_pn, flats_strs, flats_ints, flats, flat, Bool.and_self]; done)))
local macro_rules | `(tactic| walk_at "o") => `(tactic| with_reducible first | refine o_add ?_ | refine o_sub ?_ | refine o_mod ?_ ?_ | refine o_mul ?_ ?_ | refine o_fdiv ?_ ?_ | refine o_pow ?_ ?_ | refine o_lt ?_ | refine o_le ?_ | refine o_gt ?_ | refine o_ge ?_ | refine o_eqi ?_ | refine o_nei ?_ | refine o_eqs ?_ | refine o_nes ?_ | refine o_len ?_ | refine o_lent ?_ | refine o_lenc ?_ | refine o_lens ?_ ?_ | refine o_abs ?_ | refine o_rng1 ?_ ?_ | refine o_rng2 ?_ ?_ | refine o_int ?_ | refine o_adds ?_ ?_ | refine o_addl ?_ ?_ | refine o_addt ?_ ?_)
local macro_rules | `(tactic| walk_at "y2") => `(tactic| first
  | ((with_reducible apply y_get); exact rfl)
  | ((with_reducible apply y_setF); (walk_at "e"))
  | ((with_reducible apply y_setF); exact set_at rfl (by first | assumption | exact free_opt _) (by walk_at "e"))
  | ((with_reducible apply y_setF); exact setO_at rfl (by first | assumption | exact free_opt _) (by walk_at "e"))
  | ((with_reducible apply y_lend); exact rfl)
  | ((with_reducible apply z_bor); (walk_at "e"))
  | ((with_reducible apply z_borQ); exact rfl; (walk_at "f"); (walk_at "e"))
  | ((with_reducible apply z_callF); (walk_at "e"); exact rfl)
  | ((with_reducible apply z_backQ); (walk_at "e"))
  | ((with_reducible apply z_callF1); (walk_at "e"); exact rfl)
  | ((with_reducible apply z_back1Q); (walk_at "e"))
  | ((with_reducible apply z_prot); (walk_at "e"))
  | ((with_reducible apply z_unpQ); (walk_at "e"))
  | ((with_reducible apply z_rtK); (walk_at "e"))
  | ((with_reducible apply z_rtN); (walk_at "e"))
  | ((with_reducible apply z_app); (walk_at "e"))
  | ((with_reducible apply z_appQ); (walk_at "e"); (walk_at "e"))
  | ((with_reducible apply z_stK); (walk_at "e"))
  | ((with_reducible apply z_stQ); (walk_at "e"); exact rfl; (walk_at "e"); (walk_at "e"))
  | ((with_reducible apply z_tgQ); (walk_at "e"))
  | ((with_reducible apply z_parQ); (walk_at "e"))
  | ((with_reducible apply y_frzM); (walk_at "e"))
  | ((with_reducible apply y_mv); exact rfl)
  | (walk_at "o")
  | ((with_reducible apply y_lft); exact rfl)
  | ((with_reducible apply y_t))
  | ((with_reducible apply y_f))
  | ((with_reducible apply y_nt))
  | ((with_reducible apply y_nf))
  | ((with_reducible apply y_len); (exact big_le (Nat.le_of_ble_eq_true rfl)))
  | (with_reducible refine ⟨_, rfl, ?_⟩)
  | fail "y")
local macro_rules | `(tactic| walk_at "y") => `(tactic| first | walk_at "y1" | walk_at "y2" | fail "y")
/-! ### dice -/
@[reducible] def dice (a b c : Int) : D := .lst [.int a, .int b, .int c]
structure Ok (n : Nat) (a b c : Int) : Prop where
  h1 : 0 ≤ a
  h2 : 0 ≤ b
  h3 : b ≤ 11529215046070000000
  h4 : 0 ≤ c
  h5 : c ≤ n
theorem Ok.mono {n m : Nat} {a b c : Int} (h : Ok n a b c) (le : n ≤ m) : Ok m a b c := ⟨h.h1, h.h2, h.h3, h.h4, by have := h.h5; omega⟩
theorem log2_small {n : Nat} (h : n < 2 ^ 64) : n.log2 < 64 := by
  by_cases z : n = 0
  · subst z; decide
  · exact (Nat.log2_lt z).mpr h
theorem spec_bag {ns : List Int} {i : Int} (h0 : 0 ≤ i) (h1 : i < 100) : Wp F_law_bag [.sh (.scr ns), .sh (.int i)] (fun sl as => ∃ a b c, sl = .ow (dice a b c) ∧ as = [.sh (.scr ns), .sh (.int i)] ∧ Ok 0 a b c) := by
  have key : ∀ x : Int, Wp (seqM (setM 3 (shD (fz (ifM (testM (opS geS (fz (callM absS (consM (get 2) (ret [])))) (fz (opS powS (ret (.int 10)) (ret (.int 18)))))) (callM absS (consM (get 2) (ret []))) (shD (ret (.int 0)))))))
      (retM (lstM (consM (get 3) (consM (fz (opS addS (fz (opS addS (fz (opS mulS (fz (opS modS (fz (callM intS (consM (get 2) (ret [])))) (ret (.int 2305843009213693951)))) (ret (.int 5)))) (fz (opS mulS (ret (.int 8191)) (get 1))))) (ret (.int 6007)))) (consM (ret (.int 0)) (ret [])))))))
      [.sh (.scr ns), .sh (.int i), .sh (.int x), .un] (rtK [.sh (.scr ns), .sh (.int i)] (fun sl as => ∃ a b c, sl = .ow (dice a b c) ∧ as = [.sh (.scr ns), .sh (.int i)] ∧ Ok 0 a b c)) := by
    intro x
    have hm := Int.emod_nonneg x (b := 2305843009213693951) (by decide)
    have hm2 := Int.emod_lt_of_pos x (b := 2305843009213693951) (by decide)
    have l1 : (x % 2305843009213693951).natAbs.log2 < 64 := log2_small (by omega)
    have l2 : i.natAbs.log2 < 64 := log2_small (by omega)
    have e5 : (Int.natAbs 5).log2 = 2 := by decide
    have e8 : (Int.natAbs 8191).log2 = 12 := by decide
    have ax : 0 ≤ (if x < 0 then -x else x) := by split <;> omega
    repeat' (walk_at "y")
    · exact ⟨by decide, by decide, by decide⟩
    · refine y_dec (fun ha => ?_) (fun ha => ?_)
      · repeat' (walk_at "y")
        · decide
        · omega
        · omega
        · exact ⟨_, _, _, rfl, rfl, ax, by omega, by omega, by omega, by omega⟩
      · repeat' (walk_at "y")
        · decide
        · omega
        · omega
        · exact ⟨_, _, _, rfl, rfl, by omega, by omega, by omega, by omega, by omega⟩
  refine y_run (ρ := [.sh (.scr ns), .sh (.int i), .un, .un]) ⟨rfl, rfl⟩ rfl ?_
  unfold T_law_bag
  repeat' (walk_at "y")
  refine y_dec (fun ha => ?_) (fun ha => ?_)
  · repeat' (walk_at "y")
    obtain ⟨x, e, _⟩ := atI_pos h0 ha
    refine o_ixc e ?_
    iterate 3 (walk_at "y")
    exact key _
  · iterate 5 (walk_at "y")
    exact key _
theorem spec_take {n : Nat} {m a b c : Int} (hd : Ok n a b c) (hn : n < 1000000000) (hm : 0 < m) (hm2 : m < 2 ^ 63) : Wp F_law_take [.pn (dice a b c), .sh (.int m)] (fun sl as => ∃ r a' b' c', sl = .sh (.int r) ∧ as = [.pn (dice a' b' c'), .sh (.int m)] ∧ 0 ≤ r ∧ r < m ∧ Ok (n + 1) a' b' c') := by
  obtain ⟨h1, h2, h3, h4, h5⟩ := hd
  refine y_run (ρ := [.pn (dice a b c), .sh (.int m), .un, .un]) ⟨rfl, rfl⟩ rfl ?_
  unfold T_law_take
  have lm : m.natAbs.log2 < 64 := log2_small (by omega)
  have lc : (c + 1).natAbs.log2 < 64 := log2_small (by omega)
  repeat' (walk_at "y")
  refine y_dec (fun ha => ?_) (fun ha => ?_)
  · repeat' (walk_at "y")
    · exact hm
    · exact ⟨hm, by omega⟩
    · exact ⟨_, _, _, _, rfl, rfl, Int.emod_nonneg a (by omega), Int.emod_lt_of_pos a hm, Int.ediv_nonneg h1 (by omega), h2, h3, h4, by omega⟩
  · have e1 : (Int.natAbs 1000081).log2 = 19 := by decide
    have e2 : (Int.natAbs 32452867).log2 = 24 := by decide
    repeat' (walk_at "y")
    · omega
    · exact ⟨by decide, by decide, by omega⟩
    · decide
    · omega
    · exact ⟨by decide, by decide, by have := Int.emod_nonneg ((b + 1000081 * (c + 1)) ^ Int.toNat 3) (b := 2305843009213693921) (by decide); have := Int.emod_lt_of_pos ((b + 1000081 * (c + 1)) ^ Int.toNat 3) (b := 2305843009213693921) (by decide); omega⟩
    · decide
    · exact ⟨by decide, by decide⟩
    · exact hm
    · exact ⟨_, _, _, _, rfl, rfl, Int.emod_nonneg _ (by omega), Int.emod_lt_of_pos _ hm, h1, h2, h3, by omega, by omega⟩
theorem spec_of {n : Nat} {a b c : Int} {xs : List D} (hd : Ok n a b c) (hn : n < 1000000000) (hx : 0 < xs.length) (hx2 : xs.length < 2 ^ 62) : Wp F_law_of [.pn (dice a b c), .sh (.lst xs)] (fun sl as => ∃ d a' b' c', sl = .sh d ∧ as = [.pn (dice a' b' c'), .sh (.lst xs)] ∧ d ∈ xs ∧ Ok (n + 1) a' b' c') := by
  refine y_run (ρ := [.pn (dice a b c), .sh (.lst xs)]) ⟨rfl, rfl⟩ rfl ?_
  unfold T_law_of
  repeat' (walk_at "y")
  refine (spec_take hd hn (by omega) (by omega)).imp ?_
  rintro _ _ ⟨r, a', b', c', rfl, rfl, r0, r1, hd'⟩
  repeat' (walk_at "y")
  obtain ⟨x, e, e2⟩ := atI_pos r0 r1
  refine o_ix e ?_
  repeat' (walk_at "y")
  exact ⟨_, _, _, _, rfl, rfl, List.mem_of_getElem? e2, hd'⟩
theorem spec_ofs {n : Nat} {a b c : Int} {s : Str} (hd : Ok n a b c) (hn : n < 1000000000) (hx : 0 < s.length) (hx2 : s.length ≤ sizeLine) : Wp F_law_of [.pn (dice a b c), .sh (.str s)] (fun sl as => ∃ k a' b' c', sl = .sh (.str ⟨#[k]⟩) ∧ as = [.pn (dice a' b' c'), .sh (.str s)] ∧ k ∈ s.cps.toList ∧ Ok (n + 1) a' b' c') := by
  refine y_run (ρ := [.pn (dice a b c), .sh (.str s)]) ⟨rfl, rfl⟩ rfl ?_
  unfold T_law_of
  have hz : sizeLine = 2 ^ 24 := rfl
  repeat' (walk_at "y")
  · exact hx2
  · refine (spec_take hd hn (by omega) (by omega)).imp ?_
    rintro _ _ ⟨r, a', b', c', rfl, rfl, r0, r1, hd'⟩
    repeat' (walk_at "y")
    obtain ⟨x, e, e2⟩ := atI_pos (xs := s.cps.toList) r0 (by rw [← TL.len_tl]; exact r1)
    refine o_ixs hx2 e ?_
    repeat' (walk_at "y")
    exact ⟨_, _, _, _, rfl, rfl, List.mem_of_getElem? e2, hd'⟩
/-! ### tokens -/
structure SgOk (s : Str) : Prop where
  len : s.length = 93
  blk : blk (TL.tl s)
  nd : (TL.tl s).Nodup
theorem spec_signs : Wp F_law_signs [] (fun sl as => ∃ s, sl = .sh (.str s) ∧ as = [] ∧ SgOk s) := by
  refine y_run (ρ := [.un]) ⟨rfl, rfl⟩ rfl ?_
  unfold T_law_signs
  repeat' (walk_at "y")
  · decide +kernel
  · refine ⟨rfl, by decide +kernel, ?_, by decide +kernel⟩
    have h : ∀ c ∈ TL.tl (("!\"#$&'()*+,-./0123456789:;<=>?@ABCDEFGHIJKLMNOPQRSTUVWXYZ[\\]^_`" : Str) ++ ("abcdefghijklmnopqrstuvwxyz{|}~" : Str)), 33 ≤ c := by decide +kernel
    intro c hc z
    have := h c hc
    omega
structure TkOk (n : Nat) (s : Str) : Prop where
  len : 0 < s.length ∧ s.length ≤ n
  blk : blk (TL.tl s)
theorem spec_token {n : Nat} {a b c : Int} {ts : List Str} (hd : Ok n a b c) (hn : n < 100000000) : Wp F_law_token [.pn (dice a b c), .sh (.lst (ts.map .str))] (fun sl as => ∃ s a' b' c', sl = .sh (.str s) ∧ as = [.pn (dice a' b' c'), .sh (.lst (ts.map .str))] ∧ TkOk 4 s ∧ (ts.length < 93 → s ∉ ts) ∧ Ok (n + 5) a' b' c') := by
  have hz : sizeLine = 2 ^ 24 := rfl
  refine y_run (ρ := [.pn (dice a b c), .sh (.lst (ts.map .str)), .un, .un, .un, .un, .un]) ⟨rfl, rfl⟩ rfl ?_
  unfold T_law_token
  repeat' (walk_at "y")
  refine spec_signs.imp ?_
  rintro _ _ ⟨sg, rfl, rfl, hs⟩
  have hsl := hs.len
  repeat' (walk_at "y")
  refine (spec_of hd (by omega) (by simp) (by simp)).imp ?_
  rintro _ _ ⟨d, a', b', c', rfl, rfl, hm, hd'⟩
  obtain ⟨j, rfl, j0, j1⟩ : ∃ j : Int, d = .int j ∧ 1 ≤ j ∧ j ≤ 4 := by
    simp only [List.mem_cons, List.not_mem_nil, or_false] at hm
    rcases hm with h | h | h | h | h | h <;> subst h <;> exact ⟨_, rfl, by decide, by decide⟩
  repeat' (walk_at "y")
  · omega
  refine z_for (fun k ρ => ∃ a b c s x, ρ = [.pn (dice a b c), .sh (.lst (ts.map .str)), .sh (.str sg), .sh (.str s), x, .un, .un] ∧ free x = true ∧ s.length = k ∧ blk (TL.tl s) ∧ Ok (n + 1 + k) a b c) ⟨a', b', c', "", .un, rfl, rfl, rfl, fun _ h => (by cases h), hd'⟩ (fun k d ρ ek hi => ?_) (fun ρ hi => ?_)
  · obtain ⟨a1, b1, c1, s, x, rfl, hx, hl, hb, ho⟩ := hi
    obtain ⟨hk, rfl⟩ := range_get ek
    refine ⟨_, gN_at (x := x) rfl hx (by walk_at "e"), ?_⟩
    repeat' (walk_at "y")
    refine (spec_ofs ho (by omega) (by omega) (by omega)).imp ?_
    rintro _ _ ⟨q, a2, b2, c2, rfl, rfl, hq, ho2⟩
    repeat' (walk_at "y")
    · rw [len_one]; omega
    · refine ⟨_, _, _, _, _, rfl, rfl, by rw [len_app, hl]; rfl, blk_app hb fun c hc => hs.blk c ?_, ho2⟩
      cases hc with
      | head => exact hq
      | tail _ h => cases h
  · obtain ⟨a1, b1, c1, s, x, rfl, hx, hl, hb, ho⟩ := hi
    rw [range_len] at hl ho
    repeat' (walk_at "y")
    refine o_sls (by omega) ?_
    repeat' (walk_at "y")
    have hc3 : TL.tl (cutS s none (some 3)) = (TL.tl s).take 3 := tl_cut0 s 3
    generalize cutS s none (some 3) = s3 at hc3 ⊢
    have l3 : s3.length ≤ 3 := by rw [TL.len_tl, hc3, List.length_take]; omega
    have b3 : blk (TL.tl s3) := fun c hc => hb c (List.mem_of_mem_take (hc3 ▸ hc))
    refine z_for (fun k ρ => ∃ s y, ρ = [.pn (dice a1 b1 c1), .sh (.lst (ts.map .str)), .sh (.str sg), .sh (.str s), x, .sh (.str s3), y] ∧ free y = true ∧ TkOk 4 s ∧ (s ∈ ts → ∀ i, i < k → ∀ c, (TL.tl sg)[i]? = some c → s3 ++ (⟨#[c]⟩ : Str) ∈ ts)) ⟨s, .un, rfl, rfl, ⟨⟨by omega, by omega⟩, hb⟩, fun _ i h => by omega⟩ (fun k d ρ ek hi => ?_) (fun ρ hi => ?_)
    · obtain ⟨s, y, rfl, hy, hk, hi⟩ := hi
      obtain ⟨q, hq, rfl⟩ : ∃ q, (TL.tl sg)[k]? = some q ∧ d = .str ⟨#[q]⟩ := by
        have ek2 : (((TL.tl sg).map fun c => D.str ⟨#[c]⟩)[k]? : Option D) = some d := ek
        rw [List.getElem?_map] at ek2
        cases e : (TL.tl sg)[k]? with
        | none => rw [e] at ek2; cases ek2
        | some q => rw [e] at ek2; cases ek2; exact ⟨q, rfl, rfl⟩
      refine ⟨_, gN_at (x := y) rfl hy (by walk_at "e"), ?_⟩
      repeat' (walk_at "y")
      refine y_lft (inS_strs s ts) ?_
      repeat' (walk_at "y")
      refine y_dec (fun hin => ?_) (fun hin => ?_)
      · repeat' (walk_at "y")
        · rw [len_one]; omega
        · refine ⟨_, _, rfl, rfl, ⟨⟨?_, ?_⟩, ?_⟩, fun hin2 i hi2 c hc => ?_⟩
          · rw [len_app, len_one]; omega
          · rw [len_app, len_one]; omega
          · refine blk_app b3 fun c hc => hs.blk c ?_
            cases hc with
            | head => exact List.mem_of_getElem? hq
            | tail _ h => cases h
          · by_cases z : i = k
            · subst z; rw [hq] at hc; cases hc; exact hin2
            · exact hi hin i (by omega) c hc
      · repeat' (walk_at "y")
        exact ⟨_, _, rfl, rfl, hk, fun z => absurd z hin⟩
    · obtain ⟨s, y, rfl, hy, hk, hi⟩ := hi
      repeat' (walk_at "y")
      refine ⟨_, _, _, _, rfl, rfl, hk, fun lt hin => ?_, ho.mono (by omega)⟩
      have hl2 : (List.map (fun c => D.str ⟨#[c]⟩) sg.cps.toList).length = 93 := by rw [List.length_map]; exact hsl
      rw [hl2] at hi
      have inj : ((TL.tl sg).map fun c => s3 ++ (⟨#[c]⟩ : Str)).Nodup := by
        rw [List.nodup_iff_pairwise_ne, List.pairwise_map]
        refine (List.nodup_iff_pairwise_ne.mp hs.nd).imp fun {p q} hpq z => hpq ?_
        have := congrArg TL.tl z
        rw [TL.tl_append, TL.tl_append] at this
        exact (List.cons.inj (List.append_cancel_left this)).1
      have le := pigeon _ ts inj fun y hy => by
        rw [List.mem_map] at hy
        obtain ⟨c, hc, rfl⟩ := hy
        obtain ⟨i, hi2⟩ := List.getElem?_of_mem hc
        exact hi hin i (by have := (List.getElem?_eq_some_iff.mp hi2).1; rw [← TL.len_tl, hsl] at this; exact this) c hi2
      rw [List.length_map, ← TL.len_tl, hsl] at le
      omega
end FD.Law

set_option linter.all false
set_option maxRecDepth 100000
namespace FD.Law
open PySem L2 FD
local macro_rules | `(tactic| walk_at "y1") => `(tactic| with_reducible first | refine y_seq ?_ | refine y_setM ?_ | refine y_shD ?_ | refine z_fz ?_ | refine z_datS ?_ | refine z_datO ?_ | refine y_opS ?_ | refine y_callM ?_ | refine y_consM ?_ | refine y_ret ?_ | refine y_nx ?_ | refine y_rt ?_ | refine y_bk ?_ | refine y_ct ?_ | refine z_forN ?_ | refine z_forC ?_ | refine z_forB ?_ | refine z_forR ?_ | refine y_retM ?_ | refine y_ifM ?_ | refine y_tupM ?_ | refine y_lstM ?_ | refine y_testM ?_ | refine y_truM ?_ | refine y_notM ?_ | refine y_andM ?_ | refine y_orM ?_ | refine y_andV ?_ | refine y_orV ?_ | refine y_notV ?_ | refine y_dropM ?_ | refine y_augM ?_ | refine y_methM ?_ | refine y_slM ?_ | refine y_part ?_ | refine y_negM ?_ | refine y_replM ?_ | refine y_callA ?_ | refine y_arVal ?_ | refine y_arNil ?_ | refine y_fsCons ?_ | refine z_st ?_ | refine z_asg ?_ | refine z_par ?_ | refine y_forM ?_ | refine y_chain ?_ | refine wp_callT ?_ | refine wp_itM ?_ | refine y_bnd ?_)
local macro_rules | `(tactic| walk_at "e") => `(tactic| focus ((try simp only [setSl, setSls, gN, gT, gs0, gs1, get0, getS, set0, setS, own?, borS, pinAll, pin_un, pin_sh, pin_ow, pin_pn, pin_opt, List.map_cons, List.map_nil, wipeS, restS, argSls, argSl, Option.map, Option.bind, frzS, if_true, ite_true, Option.isSome, zipB, bb_un, bb_sh, bb_ow, bb_pn, bb_os, bb_ps, bb_opt, unpin, un_un, un_sh, un_ow, un_pn, un_opt, back, back1, Sl.dat, outs, List.length_cons, List.length_nil, Nat.zero_add, Nat.reduceAdd, Int.reduceToNat]); first | done | exact rfl))
local macro_rules | `(tactic| walk_at "f") => `(tactic| focus (first | exact rfl | (simp only [List.all_cons, List.all_nil, fo_un, fo_sh, fo_opt, fo_pn, flats_strs, flats_ints, flats, flat, Bool.and_self]; done)))
local macro_rules | `(tactic| walk_at "o") => `(tactic| with_reducible first | refine o_add ?_ | refine o_sub ?_ | refine o_mod ?_ ?_ | refine o_mul ?_ ?_ | refine o_fdiv ?_ ?_ | refine o_pow ?_ ?_ | refine o_lt ?_ | refine o_le ?_ | refine o_gt ?_ | refine o_ge ?_ | refine o_eqi ?_ | refine o_nei ?_ | refine o_eqs ?_ | refine o_nes ?_ | refine o_len ?_ | refine o_lent ?_ | refine o_lenc ?_ | refine o_lens ?_ ?_ | refine o_abs ?_ | refine o_rng1 ?_ ?_ | refine o_rng2 ?_ ?_ | refine o_int ?_ | refine o_adds ?_ ?_ | refine o_addl ?_ ?_ | refine o_addt ?_ ?_)
local macro_rules | `(tactic| walk_at "y2") => `(tactic| first
  | ((with_reducible apply y_get); exact rfl)
  | ((with_reducible apply y_setF); (walk_at "e"))
  | ((with_reducible apply y_setF); exact set_at rfl (by first | assumption | exact free_opt _) (by walk_at "e"))
  | ((with_reducible apply y_setF); exact setO_at rfl (by first | assumption | exact free_opt _) (by walk_at "e"))
  | ((with_reducible apply y_lend); exact rfl)
  | ((with_reducible apply z_bor); (walk_at "e"))
  | ((with_reducible apply z_borQ); exact rfl; (walk_at "f"); (walk_at "e"))
  | ((with_reducible apply z_callF); (walk_at "e"); exact rfl)
  | ((with_reducible apply z_backQ); (walk_at "e"))
  | ((with_reducible apply z_callF1); (walk_at "e"); exact rfl)
  | ((with_reducible apply z_back1Q); (walk_at "e"))
  | ((with_reducible apply z_prot); (walk_at "e"))
  | ((with_reducible apply z_unpQ); (walk_at "e"))
  | ((with_reducible apply z_rtK); (walk_at "e"))
  | ((with_reducible apply z_rtN); (walk_at "e"))
  | ((with_reducible apply z_app); (walk_at "e"))
  | ((with_reducible apply z_appQ); (walk_at "e"); (walk_at "e"))
  | ((with_reducible apply z_stK); (walk_at "e"))
  | ((with_reducible apply z_stQ); (walk_at "e"); exact rfl; (walk_at "e"); (walk_at "e"))
  | ((with_reducible apply z_tgQ); (walk_at "e"))
  | ((with_reducible apply z_parQ); (walk_at "e"))
  | ((with_reducible apply y_frzM); (walk_at "e"))
  | ((with_reducible apply y_mv); exact rfl)
  | (walk_at "o")
  | ((with_reducible apply y_lft); exact rfl)
  | ((with_reducible apply y_t))
  | ((with_reducible apply y_f))
  | ((with_reducible apply y_nt))
  | ((with_reducible apply y_nf))
  | ((with_reducible apply y_len); (exact big_le (Nat.le_of_ble_eq_true rfl)))
  | (with_reducible refine ⟨_, rfl, ?_⟩)
  | fail "y")
local macro_rules | `(tactic| walk_at "y") => `(tactic| first | walk_at "y1" | walk_at "y2" | fail "y")
theorem spec_split {x : Str} (hx : x.length ≤ 1000000) : Wp F_split_tokens [.sh (.str x)] (fun sl as => sl = .ow (.lst ((tokS x).map .str)) ∧ as = [.sh (.str x)]) := by
  have hz : sizeLine = 2 ^ 24 := rfl
  refine y_run (ρ := [.sh (.str x), .un]) ⟨rfl, rfl⟩ rfl ?_
  unfold T_split_tokens
  have h1 : (" " : Str).length = 1 := by decide +kernel
  have h2 := len_split x
  refine y_retM (z_lc neD ?_)
  repeat' (walk_at "y")
  refine y_lftc rfl (by rw [h1]; omega) ?_
  repeat' (walk_at "y")
  refine y_lftc (a := .ow (.lst ((Txt.split (Txt.replace x "\n" " ") " ").map .str))) rfl ⟨by decide +kernel, by rw [len_repl]; omega⟩ ?_
  repeat' (walk_at "y")
  refine ⟨by rw [List.length_map]; omega, rfl, rfl, fun d hd => ?_, ?_⟩
  · rw [List.mem_map] at hd
    obtain ⟨s, _, rfl⟩ := hd
    simp only [wipeS, set0, setS]
    repeat' (walk_at "y")
    refine y_ndec (fun h => ?_) (fun h => ?_)
    · repeat' (walk_at "y")
      exact ⟨by simp [neD, h], rfl, rfl⟩
    · repeat' (walk_at "y")
      exact ⟨by simp [neD, h], rfl, rfl⟩
  · repeat' (walk_at "y")
    rw [split_strs]
    exact ⟨rfl, rfl⟩
theorem spec_tokens {x : Str} (hx : x.length ≤ 1000000) : Wp F_tokens_of [.sh (.str x)] (fun sl as => sl = .ow (.lst ((tokS x).map .str)) ∧ as = [.sh (.str x)]) := by
  refine y_run (ρ := [.sh (.str x)]) ⟨rfl, rfl⟩ rfl ?_
  unfold T_tokens_of
  repeat' (walk_at "y")
  refine (spec_split hx).imp ?_
  rintro _ _ ⟨rfl, rfl⟩
  repeat' (walk_at "y")
  exact ⟨rfl, rfl⟩
/-! ### laid out -/
theorem wht1 : wht (TL.tl (" " : Str)) ∧ wht (TL.tl ("  " : Str)) ∧ wht (TL.tl ("\n" : Str)) ∧ wht (TL.tl (" \n " : Str)) ∧ wht (TL.tl ("\n\n" : Str)) ∧ wht (TL.tl ("\n \n" : Str)) ∧ wht (TL.tl ("" : Str)) := by
  unfold wht; decide +kernel
theorem spec_laid {n : Nat} {a b c : Int} {rs : List Str} (hd : Ok n a b c) (hn : n < 100000000) (hr : rs.length ≤ 10000) (hk : ∀ r ∈ rs, TkOk 8 r) : Wp F_law_laid [.pn (dice a b c), .sh (.lst (rs.map .str))] (fun sl as => ∃ x ls a' b' c', sl = .sh (.tup [.str x, .lst ls]) ∧ as = [.pn (dice a' b' c'), .sh (.lst (rs.map .str))] ∧ x.length ≤ 11 * rs.length + 3 ∧ tokS x = rs ∧ Ok (n + (2 * rs.length + 1)) a' b' c') := by
  have hz : sizeLine = 2 ^ 24 := rfl
  refine y_run (ρ := [.pn (dice a b c), .sh (.lst (rs.map .str)), .un, .un, .un, .un, .un, .un]) ⟨rfl, rfl⟩ rfl ?_
  unfold T_law_laid
  repeat' (walk_at "y")
  refine z_for (fun k ρ => ∃ a b c text line ls x y z, ρ = [.pn (dice a b c), .sh (.lst (rs.map .str)), .sh (.str text), .sh (.int line), .ow (.lst ls), x, y, z] ∧ free x = true ∧ free y = true ∧ free z = true ∧ text.length ≤ 11 * k ∧ ls.length = k ∧ Ok (n + 2 * k) a b c ∧ (k = 0 → text = "") ∧ ∀ rest, hdw rest → tokL [] (TL.tl text ++ rest) = (rs.take k).map TL.tl ++ tokL [] rest)
    ⟨a, b, c, "", 1, [], .un, .un, .un, rfl, rfl, rfl, rfl, by decide, rfl, hd, fun _ => rfl, fun _ _ => rfl⟩ (fun k d ρ ek hi => ?_) (fun ρ hi => ?_)
  · obtain ⟨a1, b1, c1, text, line, ls, x, y, z, rfl, hx, hy, hz1, ht, hl, ho, h0, hi⟩ := hi
    rw [enumL_get, List.getElem?_map] at ek
    cases er : rs[k]? with
    | none => rw [er] at ek; cases ek
    | some r =>
    rw [er] at ek
    cases ek
    have hkl : k < rs.length := (List.getElem?_eq_some_iff.mp er).1
    have hrk := hk r (List.mem_of_getElem? er)
    refine ⟨_, g2_at (x := x) (y := y) rfl hx (by walk_at "e") rfl hy (by walk_at "e"), ?_⟩
    repeat' (walk_at "y")
    refine (spec_of ho (by omega) (by simp) (by simp)).imp ?_
    rintro _ _ ⟨d, a2, b2, c2, rfl, rfl, hm, hd2⟩
    obtain ⟨g, rfl, hg, gl, gw⟩ : ∃ g : Str, d = .str g ∧ g ≠ "" ∧ g.length ≤ 3 ∧ wht (TL.tl g) := by
      simp only [List.mem_cons, List.not_mem_nil, or_false] at hm
      rcases hm with h | h | h | h | h | h | h <;> subst h <;> exact ⟨_, rfl, by decide +kernel, by decide +kernel, by simp only [wht1]⟩
    repeat' (walk_at "y")
    have go : ∀ (Q : Fl → List Sl → Prop) (g : Str) (a2 b2 c2 : Int), (k = 0 ∨ g ≠ "") → g.length ≤ 3 → wht (TL.tl g) → Ok (n + 2 * k + 2) a2 b2 c2 →
        Wp (seqM (setM 2 (shD (fz (opS addS (fz (opS addS (get 2) (get 7))) (get 6)))))
          (seqM (setM 3 (shD (fz (opS addS (get 3) (fz (methM countS (get 7) (consM (ret (.str "\n")) (ret [])))))))) (appM 4 (consM (get 3) (ret [])))))
        [.pn (dice a2 b2 c2), .sh (.lst (rs.map .str)), .sh (.str text), .sh (.int line), .ow (.lst ls), .sh (.int ((k : Nat) : Int)), .sh (.str r), .sh (.str g)]
        (ForQ (fun k ρ => ∃ a b c text line ls x y z, ρ = [.pn (dice a b c), .sh (.lst (rs.map .str)), .sh (.str text), .sh (.int line), .ow (.lst ls), x, y, z] ∧ free x = true ∧ free y = true ∧ free z = true ∧ text.length ≤ 11 * k ∧ ls.length = k ∧ Ok (n + 2 * k) a b c ∧ (k = 0 → text = "") ∧ ∀ rest, hdw rest → tokL [] (TL.tl text ++ rest) = (rs.take k).map TL.tl ++ tokL [] rest) k Q) := fun Q g a2 b2 c2 hg gl gw ho2 => by
      have rl := hrk.len
      have gl2 := len_app text g
      repeat' (walk_at "y")
      · omega
      · omega
      · omega
      · refine ⟨_, _, _, _, _, _, _, _, _, rfl, rfl, rfl, rfl, ?_, by rw [List.length_append, hl]; rfl, ho2.mono (by omega), fun z => by omega, fun rest hrest => ?_⟩
        · rw [len_app]; omega
        · have e1 : TL.tl (text ++ g ++ r) ++ rest = TL.tl text ++ (TL.tl g ++ (TL.tl r ++ rest)) := by simp [TL.tl_append]
          have e2 : (rs.take (k + 1)).map TL.tl = (rs.take k).map TL.tl ++ [TL.tl r] := by
            rw [List.take_add_one, er]; simp
          have rn : TL.tl r ≠ [] := fun z => by
            have := rl.1
            rw [TL.len_tl, z] at this
            exact absurd this (by decide)
          have e3 : tokL [] (TL.tl g ++ (TL.tl r ++ rest)) = TL.tl r :: tokL [] rest := by rw [tok_wht _ _ gw, tok_run rn hrk.blk hrest]
          rw [e1, e2]
          rcases hg with hk0 | hg
          · rw [h0 hk0, hk0, show TL.tl ("" : Str) = [] from rfl, List.nil_append, e3]; simp
          · rw [hi _ (wht_hdw gw (fun z => hg (tl_nil.mp z))), e3]; simp
    refine y_dec (fun hk0 => ?_) (fun hk0 => ?_)
    · repeat' (walk_at "y")
      refine (spec_of hd2 (by omega) (by simp) (by simp)).imp ?_
      rintro _ _ ⟨d, a3, b3, c3, rfl, rfl, hm, hd3⟩
      obtain ⟨g, rfl, gl, gw⟩ : ∃ g : Str, d = .str g ∧ g.length ≤ 3 ∧ wht (TL.tl g) := by
        simp only [List.mem_cons, List.not_mem_nil, or_false] at hm
        rcases hm with h | h | h | h <;> subst h <;> exact ⟨_, rfl, by decide +kernel, by simp only [wht1]⟩
      iterate 4 (walk_at "y")
      exact go _ g _ _ _ (.inl (by omega)) gl gw hd3
    · iterate 2 (walk_at "y")
      exact go _ g _ _ _ (.inr hg) gl gw (hd2.mono (by omega))
  · obtain ⟨a1, b1, c1, text, line, ls, x, y, z, rfl, hx, hy, hz1, ht, hl, ho, h0, hi⟩ := hi
    rw [enumL_length, List.length_map] at *
    repeat' (walk_at "y")
    refine (spec_of ho (by omega) (by simp) (by simp)).imp ?_
    rintro _ _ ⟨d, a2, b2, c2, rfl, rfl, hm, hd2⟩
    obtain ⟨g, rfl, gl, gw⟩ : ∃ g : Str, d = .str g ∧ g.length ≤ 3 ∧ wht (TL.tl g) := by
      simp only [List.mem_cons, List.not_mem_nil, or_false] at hm
      rcases hm with h | h | h | h | h <;> subst h <;> exact ⟨_, rfl, by decide +kernel, by simp only [wht1]⟩
    repeat' (walk_at "y")
    · omega
    · refine ⟨_, _, _, _, _, rfl, rfl, by rw [len_app]; omega, ?_, hd2.mono (by omega)⟩
      unfold tokS
      rw [TL.tl_append, hi _ (wht_hdw0 gw), tok_white gw, List.append_nil, List.take_length, List.map_map]
      have : ((fun l => (⟨l.toArray⟩ : Str)) ∘ TL.tl) = id := funext fun s => TL.mk_tl s
      rw [this, List.map_id]
end FD.Law

set_option linter.all false
set_option maxRecDepth 100000
namespace FD.Law
open PySem L2 FD
local macro_rules | `(tactic| walk_at "y1") => `(tactic| with_reducible first | refine y_seq ?_ | refine y_setM ?_ | refine y_shD ?_ | refine z_fz ?_ | refine z_datS ?_ | refine z_datO ?_ | refine y_opS ?_ | refine y_callM ?_ | refine y_consM ?_ | refine y_ret ?_ | refine y_nx ?_ | refine y_rt ?_ | refine y_bk ?_ | refine y_ct ?_ | refine z_forN ?_ | refine z_forC ?_ | refine z_forB ?_ | refine z_forR ?_ | refine y_retM ?_ | refine y_ifM ?_ | refine y_tupM ?_ | refine y_lstM ?_ | refine y_testM ?_ | refine y_truM ?_ | refine y_notM ?_ | refine y_andM ?_ | refine y_orM ?_ | refine y_andV ?_ | refine y_orV ?_ | refine y_notV ?_ | refine y_dropM ?_ | refine y_augM ?_ | refine y_methM ?_ | refine y_slM ?_ | refine y_part ?_ | refine y_negM ?_ | refine y_replM ?_ | refine y_callA ?_ | refine y_arVal ?_ | refine y_arNil ?_ | refine y_fsCons ?_ | refine z_st ?_ | refine z_asg ?_ | refine z_par ?_ | refine y_forM ?_ | refine y_chain ?_ | refine wp_callT ?_ | refine wp_itM ?_ | refine y_bnd ?_)
local macro_rules | `(tactic| walk_at "e") => `(tactic| focus ((try simp only [setSl, setSls, gN, gT, gs0, gs1, get0, getS, set0, setS, own?, borS, pinAll, pin_un, pin_sh, pin_ow, pin_pn, pin_opt, List.map_cons, List.map_nil, wipeS, restS, argSls, argSl, Option.map, Option.bind, frzS, if_true, ite_true, Option.isSome, zipB, bb_un, bb_sh, bb_ow, bb_pn, bb_os, bb_ps, bb_opt, unpin, un_un, un_sh, un_ow, un_pn, un_opt, back, back1, Sl.dat, outs, List.length_cons, List.length_nil, Nat.zero_add, Nat.reduceAdd, Int.reduceToNat]); first | done | exact rfl))
local macro_rules | `(tactic| walk_at "f") => `(tactic| focus (first | exact rfl | (simp only [List.all_cons, List.all_nil, fo_un, fo_sh, fo_opt, fo_pn, flats_strs, flats_ints, flats, flat, Bool.and_self]; done)))
local macro_rules | `(tactic| walk_at "o") => `(tactic| with_reducible first | refine o_add ?_ | refine o_sub ?_ | refine o_mod ?_ ?_ | refine o_mul ?_ ?_ | refine o_fdiv ?_ ?_ | refine o_pow ?_ ?_ | refine o_lt ?_ | refine o_le ?_ | refine o_gt ?_ | refine o_ge ?_ | refine o_eqi ?_ | refine o_nei ?_ | refine o_eqs ?_ | refine o_nes ?_ | refine o_len ?_ | refine o_lent ?_ | refine o_lenc ?_ | refine o_lens ?_ ?_ | refine o_abs ?_ | refine o_rng1 ?_ ?_ | refine o_rng2 ?_ ?_ | refine o_int ?_ | refine o_adds ?_ ?_ | refine o_addl ?_ ?_ | refine o_addt ?_ ?_)
local macro_rules | `(tactic| walk_at "y2") => `(tactic| first
  | ((with_reducible apply y_get); exact rfl)
  | ((with_reducible apply y_setF); (walk_at "e"))
  | ((with_reducible apply y_setF); exact set_at rfl (by first | assumption | exact free_opt _) (by walk_at "e"))
  | ((with_reducible apply y_setF); exact setO_at rfl (by first | assumption | exact free_opt _) (by walk_at "e"))
  | ((with_reducible apply y_lend); exact rfl)
  | ((with_reducible apply z_bor); (walk_at "e"))
  | ((with_reducible apply z_borQ); exact rfl; (walk_at "f"); (walk_at "e"))
  | ((with_reducible apply z_callF); (walk_at "e"); exact rfl)
  | ((with_reducible apply z_backQ); (walk_at "e"))
  | ((with_reducible apply z_callF1); (walk_at "e"); exact rfl)
  | ((with_reducible apply z_back1Q); (walk_at "e"))
  | ((with_reducible apply z_prot); (walk_at "e"))
  | ((with_reducible apply z_unpQ); (walk_at "e"))
  | ((with_reducible apply z_rtK); (walk_at "e"))
  | ((with_reducible apply z_rtN); (walk_at "e"))
  | ((with_reducible apply z_app); (walk_at "e"))
  | ((with_reducible apply z_appQ); (walk_at "e"); (walk_at "e"))
  | ((with_reducible apply z_stK); (walk_at "e"))
  | ((with_reducible apply z_stQ); (walk_at "e"); exact rfl; (walk_at "e"); (walk_at "e"))
  | ((with_reducible apply z_tgQ); (walk_at "e"))
  | ((with_reducible apply z_parQ); (walk_at "e"))
  | ((with_reducible apply y_frzM); (walk_at "e"))
  | ((with_reducible apply y_mv); exact rfl)
  | (walk_at "o")
  | ((with_reducible apply y_lft); exact rfl)
  | ((with_reducible apply y_t))
  | ((with_reducible apply y_f))
  | ((with_reducible apply y_nt))
  | ((with_reducible apply y_nf))
  | ((with_reducible apply y_len); (exact big_le (Nat.le_of_ble_eq_true rfl)))
  | (with_reducible refine ⟨_, rfl, ?_⟩)
  | fail "y")
local macro_rules | `(tactic| walk_at "y") => `(tactic| first | walk_at "y1" | walk_at "y2" | fail "y")
theorem tokS_lit1 : tokS "" = [] := by decide +kernel
theorem tokS_lit2 : tokS " \n  \n" = [] := by decide +kernel
theorem tokS_lit3 : tokS "a\nb " = [("a" : Str), ("b" : Str)] := by decide +kernel
theorem law_holds (ns : List Int) : Wp F_law [.sh (.scr ns)] (fun sl as => sl = .sh (.bl true)) := by
  have hz : sizeLine = 2 ^ 24 := rfl
  refine y_run (ρ := [.sh (.scr ns), .un, .un, .un, .un, .un, .un, .un, .un]) ⟨rfl, rfl⟩ rfl ?_
  unfold T_law
  repeat' (walk_at "y")
  refine (spec_bag (by decide) (by decide)).imp ?_
  rintro _ _ ⟨a, b, c, rfl, rfl, hd⟩
  repeat' (walk_at "y")
  refine (spec_take hd (by decide) (by decide) (by decide)).imp ?_
  rintro _ _ ⟨r, a1, b1, c1, rfl, rfl, r0, r1, hd1⟩
  repeat' (walk_at "y")
  · omega
  refine z_for (fun k ρ => ∃ a b c rs x y, ρ = [.sh (.scr ns), .ow (dice a b c), .ow (.lst (rs.map .str)), opt x, opt y, .un, .un, .un, .un] ∧ rs.length = k ∧ (∀ r ∈ rs, TkOk 8 r) ∧ Ok (1 + 20 * k) a b c)
    ⟨a1, b1, c1, [], none, none, rfl, rfl, fun _ h => (by cases h), hd1⟩ (fun k d ρ ek hi => ?_) (fun ρ hi => ?_)
  · obtain ⟨a, b, c, rs, x, y, rfl, hl, hk, ho⟩ := hi
    obtain ⟨hkr, rfl⟩ := range_get ek
    refine ⟨_, gN_at (x := opt x) rfl (free_opt _) (by walk_at "e"), ?_⟩
    repeat' (walk_at "y")
    refine (spec_token (ts := []) ho (by omega)).imp ?_
    rintro _ _ ⟨s, a2, b2, c2, rfl, rfl, hs, _, ho2⟩
    have sl := hs.len
    repeat' (walk_at "y")
    refine (spec_take ho2 (by omega) (by decide) (by decide)).imp ?_
    rintro _ _ ⟨q, a3, b3, c3, rfl, rfl, q0, q1, ho3⟩
    repeat' (walk_at "y")
    refine y_dec (fun hq => ?_) (fun hq => ?_)
    · repeat' (walk_at "y")
      refine (spec_token (ts := []) ho3 (by omega)).imp ?_
      rintro _ _ ⟨s2, a4, b4, c4, rfl, rfl, hs2, _, ho4⟩
      have sl2 := hs2.len
      repeat' (walk_at "y")
      · omega
      · rw [List.length_map]; omega
      · refine ⟨_, _, _, rs ++ [s ++ s2], some _, some _, by rw [List.map_append]; rfl, by rw [List.length_append, hl]; rfl, fun r hr => ?_, ho4.mono (by omega)⟩
        rw [List.mem_append] at hr
        rcases hr with hr | hr
        · exact hk r hr
        · rw [List.mem_singleton] at hr
          subst hr
          exact ⟨⟨by rw [len_app]; omega, by rw [len_app]; omega⟩, blk_app hs.blk hs2.blk⟩
    · repeat' (walk_at "y")
      · rw [List.length_map]; omega
      · refine ⟨_, _, _, rs ++ [s], some _, some _, by rw [List.map_append]; rfl, by rw [List.length_append, hl]; rfl, fun r hr => ?_, ho3.mono (by omega)⟩
        rw [List.mem_append] at hr
        rcases hr with hr | hr
        · exact hk r hr
        · rw [List.mem_singleton] at hr
          subst hr
          exact ⟨⟨by omega, by omega⟩, hs.blk⟩
  · obtain ⟨a, b, c, rs, x, y, rfl, hl, hk, ho⟩ := hi
    rw [range_len] at hl ho
    have hl40 : rs.length ≤ 40 := by omega
    repeat' (walk_at "y")
    refine (spec_bag (by decide) (by decide)).imp ?_
    rintro _ _ ⟨a5, b5, c5, rfl, rfl, hd5⟩
    repeat' (walk_at "y")
    refine (spec_laid hd5 (by decide) (by omega) hk).imp ?_
    rintro _ _ ⟨t, ls, a6, b6, c6, rfl, rfl, ht, htok, hd6⟩
    repeat' (walk_at "y")
    refine (spec_tokens (by omega)).imp ?_
    rintro _ _ ⟨rfl, rfl⟩
    rw [htok]
    repeat' (walk_at "y")
    refine y_lft (neS_strs rs rs) ?_
    rw [decide_eq_true (rfl : rs = rs)]
    repeat' (walk_at "y")
    · rw [List.length_map]; omega
    refine (spec_tokens (by omega)).imp ?_
    rintro _ _ ⟨rfl, rfl⟩
    rw [htok]
    repeat' (walk_at "y")
    refine y_lft (neS_strs rs rs) ?_
    rw [decide_eq_true (rfl : rs = rs)]
    repeat' (walk_at "y")
    · rw [List.length_map]; show rs.length + 1 ≤ _; omega
    have e1 : List.map D.str rs ++ [D.str (Str.ofString "x")] = (rs ++ [("x" : Str)]).map .str := by rw [List.map_append]; rfl
    rw [e1]
    refine y_lft (neS_strs _ _) ?_
    rw [decide_eq_true (rfl : rs ++ [("x" : Str)] = rs ++ [("x" : Str)])]
    repeat' (walk_at "y")
    refine (spec_tokens (x := "") (by decide)).imp ?_
    rintro _ _ ⟨rfl, rfl⟩
    rw [tokS_lit1]
    repeat' (walk_at "y")
    refine y_tb (by rfl) ?_
    repeat' (walk_at "y")
    refine (spec_tokens (x := " \n  \n") (by decide)).imp ?_
    rintro _ _ ⟨rfl, rfl⟩
    rw [tokS_lit2]
    repeat' (walk_at "y")
    refine y_tb (by rfl) ?_
    repeat' (walk_at "y")
    refine (spec_tokens (x := "a\nb ") (by decide)).imp ?_
    rintro _ _ ⟨rfl, rfl⟩
    rw [tokS_lit3]
    repeat' (walk_at "y")
    rfl
end FD.Law

set_option Elab.async false
set_option linter.all false
set_option maxRecDepth 100000
set_option maxHeartbeats 4000000
namespace FD.Law
open PySem L2 FD
theorem all_mk {l : PySem.W.OpenLaw} {w : World} {K : PySem.W.Frag} {h : Heap} {mg : Str → Option Value} {fa f1 f2 f3 f4 f5 f6 f7 f8 f9 : Addr} (X : K.In h) (G : h.Ns mainGlobals mg) (hfa : mg "law" = some (.ref fa))
    {od1 an1 od2 an2 od3 an3 od4 an4 od5 an5 od6 an6 od7 an7 od8 an8 od9 an9 : Option Addr} {sl1 sl2 sl3 sl4 sl5 sl6 sl7 sl8 sl9 : Array (Option Value)} {oc1 kV1 dc1 pm1 cd1 ct1 oc2 kV2 dc2 pm2 cd2 ct2 oc3 kV3 dc3 pm3 cd3 ct3 oc4 kV4 dc4 pm4 cd4 ct4 oc5 kV5 dc5 pm5 cd5 ct5 oc6 kV6 dc6 pm6 cd6 ct6 oc7 kV7 dc7 pm7 cd7 ct7 oc8 kV8 dc8 pm8 cd8 ct8 oc9 kV9 dc9 pm9 cd9 ct9 : Value}
    (a1 : PySem.W.nsIn K mainGlobals "split_tokens" = some (some (.ref f1))) (l1 : K.lookup f1 = some ⟨oc1, od1, .func (PySem.W.fnOf "split_tokens" "split_tokens" (defArgs s_split_tokens) (defBody s_split_tokens) (defScope s_split_tokens) .none kV1 dc1 pm1 an1 cd1 ct1), sl1⟩) (c1 : PySem.W.codeIn K cd1 "split_tokens" = true) (k1 : PySem.W.keepIn K (.ref f1) = true)
    (a2 : PySem.W.nsIn K mainGlobals "tokens_of" = some (some (.ref f2))) (l2 : K.lookup f2 = some ⟨oc2, od2, .func (PySem.W.fnOf "tokens_of" "tokens_of" (defArgs s_tokens_of) (defBody s_tokens_of) (defScope s_tokens_of) .none kV2 dc2 pm2 an2 cd2 ct2), sl2⟩) (c2 : PySem.W.codeIn K cd2 "tokens_of" = true) (k2 : PySem.W.keepIn K (.ref f2) = true)
    (a3 : PySem.W.nsIn K mainGlobals "_law_bag" = some (some (.ref f3))) (l3 : K.lookup f3 = some ⟨oc3, od3, .func (PySem.W.fnOf "_law_bag" "_law_bag" (defArgs s_law_bag) (defBody s_law_bag) (defScope s_law_bag) .none kV3 dc3 pm3 an3 cd3 ct3), sl3⟩) (c3 : PySem.W.codeIn K cd3 "_law_bag" = true) (k3 : PySem.W.keepIn K (.ref f3) = true)
    (a4 : PySem.W.nsIn K mainGlobals "_law_take" = some (some (.ref f4))) (l4 : K.lookup f4 = some ⟨oc4, od4, .func (PySem.W.fnOf "_law_take" "_law_take" (defArgs s_law_take) (defBody s_law_take) (defScope s_law_take) .none kV4 dc4 pm4 an4 cd4 ct4), sl4⟩) (c4 : PySem.W.codeIn K cd4 "_law_take" = true) (k4 : PySem.W.keepIn K (.ref f4) = true)
    (a5 : PySem.W.nsIn K mainGlobals "_law_of" = some (some (.ref f5))) (l5 : K.lookup f5 = some ⟨oc5, od5, .func (PySem.W.fnOf "_law_of" "_law_of" (defArgs s_law_of) (defBody s_law_of) (defScope s_law_of) .none kV5 dc5 pm5 an5 cd5 ct5), sl5⟩) (c5 : PySem.W.codeIn K cd5 "_law_of" = true) (k5 : PySem.W.keepIn K (.ref f5) = true)
    (a6 : PySem.W.nsIn K mainGlobals "_law_signs" = some (some (.ref f6))) (l6 : K.lookup f6 = some ⟨oc6, od6, .func (PySem.W.fnOf "_law_signs" "_law_signs" (defArgs s_law_signs) (defBody s_law_signs) (defScope s_law_signs) .none kV6 dc6 pm6 an6 cd6 ct6), sl6⟩) (c6 : PySem.W.codeIn K cd6 "_law_signs" = true) (k6 : PySem.W.keepIn K (.ref f6) = true)
    (a7 : PySem.W.nsIn K mainGlobals "_law_token" = some (some (.ref f7))) (l7 : K.lookup f7 = some ⟨oc7, od7, .func (PySem.W.fnOf "_law_token" "_law_token" (defArgs s_law_token) (defBody s_law_token) (defScope s_law_token) .none kV7 dc7 pm7 an7 cd7 ct7), sl7⟩) (c7 : PySem.W.codeIn K cd7 "_law_token" = true) (k7 : PySem.W.keepIn K (.ref f7) = true)
    (a8 : PySem.W.nsIn K mainGlobals "_law_laid" = some (some (.ref f8))) (l8 : K.lookup f8 = some ⟨oc8, od8, .func (PySem.W.fnOf "_law_laid" "_law_laid" (defArgs s_law_laid) (defBody s_law_laid) (defScope s_law_laid) .none kV8 dc8 pm8 an8 cd8 ct8), sl8⟩) (c8 : PySem.W.codeIn K cd8 "_law_laid" = true) (k8 : PySem.W.keepIn K (.ref f8) = true)
    (a9 : PySem.W.nsIn K mainGlobals "law" = some (some (.ref f9))) (l9 : K.lookup f9 = some ⟨oc9, od9, .func (PySem.W.fnOf "law" "law" (defArgs s_law) (defBody s_law) (defScope s_law) .none kV9 dc9 pm9 an9 cd9 ct9), sl9⟩) (c9 : PySem.W.codeIn K cd9 "law" = true) (k9 : PySem.W.keepIn K (.ref f9) = true)
    (z0 : PySem.W.nsIn K mainGlobals "abs" = some none)
    (z1 : PySem.W.nsIn K mainGlobals "enumerate" = some none)
    (z2 : PySem.W.nsIn K mainGlobals "int" = some none)
    (z3 : PySem.W.nsIn K mainGlobals "isinstance" = some none)
    (z4 : PySem.W.nsIn K mainGlobals "len" = some none)
    (z5 : PySem.W.nsIn K mainGlobals "list" = some none)
    (z6 : PySem.W.nsIn K mainGlobals "range" = some none)
    : ∃ fd : FuncData, (∀ (s : Shared) (v : Value), BindsTo s fd ⟨[v], []⟩ [("_law_script", v)]) ∧ ∀ base : Heap, K.In base → base.Ns mainGlobals mg → FnOk l.prog w K mg base (L2.CX l.prog w) 4 fa fd ["_law_script"] (SpF K [] F_law) := by
  have e := hfa.symm.trans (PySem.W.mg_of X G a9)
  cases e
  have U : Bn mg := ⟨PySem.W.mg_none_of X G z0, PySem.W.mg_none_of X G z1, PySem.W.mg_none_of X G z2, PySem.W.mg_none_of X G z3, PySem.W.mg_none_of X G z4, PySem.W.mg_none_of X G z5, PySem.W.mg_none_of X G z6⟩
  have D1 : Dec K mg "split_tokens" "split_tokens" s_split_tokens ["text"] := dec_of X G a1 l1 c1 k1 (fun _ _ _ _ _ _ us hl => match us, hl with | [_], _ => rfl)
  have D2 : Dec K mg "tokens_of" "tokens_of" s_tokens_of ["text"] := dec_of X G a2 l2 c2 k2 (fun _ _ _ _ _ _ us hl => match us, hl with | [_], _ => rfl)
  have D3 : Dec K mg "_law_bag" "_law_bag" s_law_bag ["_law_script", "_law_at"] := dec_of X G a3 l3 c3 k3 (fun _ _ _ _ _ _ us hl => match us, hl with | [_, _], _ => rfl)
  have D4 : Dec K mg "_law_take" "_law_take" s_law_take ["_law_dice", "_law_many"] := dec_of X G a4 l4 c4 k4 (fun _ _ _ _ _ _ us hl => match us, hl with | [_, _], _ => rfl)
  have D5 : Dec K mg "_law_of" "_law_of" s_law_of ["_law_dice", "_law_some"] := dec_of X G a5 l5 c5 k5 (fun _ _ _ _ _ _ us hl => match us, hl with | [_, _], _ => rfl)
  have D6 : Dec K mg "_law_signs" "_law_signs" s_law_signs [] := dec_of X G a6 l6 c6 k6 (fun _ _ _ _ _ _ us hl => match us, hl with | [], _ => rfl)
  have D7 : Dec K mg "_law_token" "_law_token" s_law_token ["_law_dice", "_law_taken"] := dec_of X G a7 l7 c7 k7 (fun _ _ _ _ _ _ us hl => match us, hl with | [_, _], _ => rfl)
  have D8 : Dec K mg "_law_laid" "_law_laid" s_law_laid ["_law_bag_here", "_law_tokens"] := dec_of X G a8 l8 c8 k8 (fun _ _ _ _ _ _ us hl => match us, hl with | [_, _], _ => rfl)
  refine ⟨PySem.W.fnOf "law" "law" (defArgs s_law) (defBody s_law) (defScope s_law) .none kV9 dc9 pm9 an9 cd9 ct9, fun s v => .of_eq rfl, fun base _ _ => ?_⟩
  have C_split_tokens : Cal l.prog w K mg base [] "split_tokens" 1 ["text"] F_split_tokens := cal_of D1 fun f fd Fu => fn_split_tokens Fu U
  have C_tokens_of : Cal l.prog w K mg base [] "tokens_of" 2 ["text"] F_tokens_of := cal_of D2 fun f fd Fu => fn_tokens_of Fu U C_split_tokens
  have C_law_bag : Cal l.prog w K mg base [] "_law_bag" 1 ["_law_script", "_law_at"] F_law_bag := cal_of D3 fun f fd Fu => fn_law_bag Fu U
  have C_law_take : Cal l.prog w K mg base [] "_law_take" 1 ["_law_dice", "_law_many"] F_law_take := cal_of D4 fun f fd Fu => fn_law_take Fu U
  have C_law_of : Cal l.prog w K mg base [] "_law_of" 2 ["_law_dice", "_law_some"] F_law_of := cal_of D5 fun f fd Fu => fn_law_of Fu U C_law_take
  have C_law_signs : Cal l.prog w K mg base [] "_law_signs" 1 [] F_law_signs := cal_of D6 fun f fd Fu => fn_law_signs Fu U
  have C_law_token : Cal l.prog w K mg base [] "_law_token" 3 ["_law_dice", "_law_taken"] F_law_token := cal_of D7 fun f fd Fu => fn_law_token Fu U C_law_signs C_law_of
  have C_law_laid : Cal l.prog w K mg base [] "_law_laid" 3 ["_law_bag_here", "_law_tokens"] F_law_laid := cal_of D8 fun f fd Fu => fn_law_laid Fu U C_law_of
  exact fn_law (fun_mk l9 c9 k9) U C_law_bag C_law_take C_law_token C_law_laid C_tokens_of
theorem cx_no {P : Program} {w : World} {H : Hp} {s : Shared} {e : Value} {s' : Shared} (h : L2.CX P w [] H s (fun _ _ _ => False) e s') : False := by
  obtain ⟨_, _, _, _, _, _, _, _, _, _, _, _, h⟩ := h
  exact h
theorem walk {l : PySem.W.OpenLaw} {q : Program} {loose : List Str} {XP : (Str → Option Value) → Heap → Prop} {YP : World → Heap → Prop} {d : DefRec} {K : Params → PySem.W.Frag} (hn : l.most = some 63) (hdf : d.params.defaults = [])
    (hY : ∀ (w : World) (h : Heap), YP w h → (K w.params).In h)
    (F : ∀ (w : World) (mg : Str → Option Value) (fa : Addr) (h : Heap), (K w.params).In h → h.Ns mainGlobals mg → mg d.name = some (.ref fa) →
      ∃ fd : FuncData, (∀ (s : Shared) (u : Value), BindsTo s fd ⟨[u], []⟩ [("_law_script", u)]) ∧ ∀ base : Heap, (K w.params).In base → base.Ns mainGlobals mg → FnOk l.prog w (K w.params) mg base (L2.CX l.prog w) 4 fa fd ["_law_script"] (SpF (K w.params) [] F_law)) :
    PySem.W.WalkO q loose XP YP l.row.toRowW d [] (fun f vs => PySem.call f vs) :=
  L2.walk_of (n := 63) (k := 4) (x := "_law_script") (CX := fun w => L2.CX l.prog w) (sp := fun w => SpF (K w.params) [] F_law) hn (by decide) hdf ⟨rfl, by decide, by decide⟩ hY F (fun _ _ a ns hl _ hS => spf_law (fun ns _ => by obtain ⟨sl, as, e, rfl⟩ := law_holds ns; exact ⟨as, e⟩) hl hS) fun _ _ _ _ _ z => cx_no z
end FD.Law
open PySem PySem.W PyProof.Rows
set_option maxRecDepth 100000 in
set_option maxHeartbeats 0 in
theorem PySem.Challenge.cw_silentslips_k29_tokens_of_a_text_holds : PySem.Challenge.rw_silentslips_k29_tokens_of_a_text.Holds := by
  w_on; o_law; k_head; (case hw => w_witness2)
  k_fill
  refine FD.Law.walk (l := PySem.Challenge.rw_silentslips_k29_tokens_of_a_text) rfl rfl (fun w h Y => PySem.W.kIn_of Y) ?F
  case F =>
    intro w mg fa h KX G hmg
    refine' FD.Law.all_mk KX G hmg ?a1 ?l1 ?c1 ?k1 ?a2 ?l2 ?c2 ?k2 ?a3 ?l3 ?c3 ?k3 ?a4 ?l4 ?c4 ?k4 ?a5 ?l5 ?c5 ?k5 ?a6 ?l6 ?c6 ?k6 ?a7 ?l7 ?c7 ?k7 ?a8 ?l8 ?c8 ?k8 ?a9 ?l9 ?c9 ?k9 ?z0 ?z1 ?z2 ?z3 ?z4 ?z5 ?z6
    (case a1 => k_is); (case l1 => k_is); (case c1 => k_is); (case k1 => k_is)
    (case a2 => k_is); (case l2 => k_is); (case c2 => k_is); (case k2 => k_is)
    (case a3 => k_is); (case l3 => k_is); (case c3 => k_is); (case k3 => k_is)
    (case a4 => k_is); (case l4 => k_is); (case c4 => k_is); (case k4 => k_is)
    (case a5 => k_is); (case l5 => k_is); (case c5 => k_is); (case k5 => k_is)
    (case a6 => k_is); (case l6 => k_is); (case c6 => k_is); (case k6 => k_is)
    (case a7 => k_is); (case l7 => k_is); (case c7 => k_is); (case k7 => k_is)
    (case a8 => k_is); (case l8 => k_is); (case c8 => k_is); (case k8 => k_is)
    (case a9 => k_is); (case l9 => k_is); (case c9 => k_is); (case k9 => k_is)
    (case z0 => k_is)
    (case z1 => k_is)
    (case z2 => k_is)
    (case z3 => k_is)
    (case z4 => k_is)
    (case z5 => k_is)
    (case z6 => k_is)

