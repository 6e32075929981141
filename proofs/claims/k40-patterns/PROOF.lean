import PyProof.Rows.All
import Wide.All
import OpenK.AllK
import Wide.FinOn
import HandS.ForMost
import HandS.Walk
import HandS.Deep
import HandS.Conv
import HandS.More
import HandS.Style
import KE.SortData
import PyProof.ReprRoads
import PyProof.ListStr
import PyProof.StrLawsRepr
import PySem.Challenge.RW_barelybetter_k40_patterns
set_option Elab.async false
set_option linter.all false
set_option maxRecDepth 100000
set_option maxHeartbeats 4000000
/-! Value semantics over the hand layer: data, what a value shows, the state's relation, steps. -/
namespace VI
open PySem PySem.Spec PyProof.Rows L2

/-- data without addresses -/
inductive D where
  | non | bl (b : Bool) | int (i : Int) | str (x : Str)
  | tup (xs : List D) | lst (xs : List D)
  | dK (es : List (Key × D)) | dT (es : List (List Key × D))
  | ins (C : Addr) (fs : List (Str × D))
  | ptr (a : Addr)
  | seq (xs : List D) | tupK (xs : List D)
  deriving Inhabited

mutual
inductive Rep (K : PySem.W.Frag) (F : Hp) : V → D → Prop
  | non : Rep K F .non .non
  | bl (b : Bool) : Rep K F (.bl b) (.bl b)
  | int (i : Int) : Rep K F (.int i) (.int i)
  | str (x : Str) : Rep K F (.str x) (.str x)
  | tup {a : Addr} {vs : List V} {ds : List D} : F a = some (.tup vs) → RepL K F vs ds → Rep K F (.ref a) (.tup ds)
  | lst {a : Addr} {vs : List V} {ds : List D} : F a = some (.lst vs) → RepL K F vs ds → Rep K F (.ref a) (.lst ds)
  | dK {a : Addr} {kvs : List (Key × V)} {es : List (Key × D)} : F a = some (.dK kvs) → kvs.map Prod.fst = es.map Prod.fst → RepL K F (kvs.map Prod.snd) (es.map Prod.snd) → Rep K F (.ref a) (.dK es)
  | dT {a : Addr} {kvs : List (List Key × V)} {es : List (List Key × D)} : F a = some (.dT kvs) → kvs.map Prod.fst = es.map Prod.fst → RepL K F (kvs.map Prod.snd) (es.map Prod.snd) → Rep K F (.ref a) (.dT es)
  | ins {a C dx : Addr} {vfs : List (Str × V)} {fs : List (Str × D)} : F a = some (.ins C dx vfs) → vfs.map Prod.fst = fs.map Prod.fst → RepL K F (vfs.map Prod.snd) (fs.map Prod.snd) → Rep K F (.ref a) (.ins C fs)
  | ptr (a : Addr) : Rep K F (.ref a) (.ptr a)
  | seq {a : Addr} {vs : List V} {ds : List D} : SqL K F a vs → RepL K F vs ds → Rep K F (.ref a) (.seq ds)
  | tupK {a : Addr} {vs : List V} {ds : List D} : SqT K F a vs → RepL K F vs ds → Rep K F (.ref a) (.tupK ds)
inductive RepL (K : PySem.W.Frag) (F : Hp) : List V → List D → Prop
  | nil : RepL K F [] []
  | cons {v : V} {vs : List V} {d : D} {ds : List D} : Rep K F v d → RepL K F vs ds → RepL K F (v :: vs) (d :: ds)
end

def Le (F H : Hp) : Prop := ∀ a o, F a = some o → H a = some o
theorem Le.refl (F : Hp) : Le F F := fun _ _ h => h
theorem Le.trans {F G H : Hp} (a : Le F G) (b : Le G H) : Le F H := fun x o h => b x o (a x o h)
theorem Le.rd {F H : Hp} {a : Addr} {u : HO} (e : Le F H) (h : Rd F a u) : Rd H a u := by
  rcases h with h | ⟨o, h⟩
  · exact .inl (e a _ h)
  · exact .inr ⟨o, e a _ h⟩
theorem Le.sqL {K : PySem.W.Frag} {F H : Hp} {a : Addr} {xs : List V} (e : Le F H) (h : SqL K F a xs) : SqL K H a xs := by
  rcases h with h | h
  · exact .inl (e.rd h)
  · exact .inr h
theorem Le.sqT {K : PySem.W.Frag} {F H : Hp} {a : Addr} {xs : List V} (e : Le F H) (h : SqT K F a xs) : SqT K H a xs := by
  rcases h with h | h
  · exact .inl (e.rd h)
  · exact .inr h
theorem Le.upd {F : Hp} {p : Addr} {o : HO} (h : F p = none) : Le F (upd F p o) := fun a u e => by
  rw [upd_ne (ne_of_none e h)]; exact e
theorem Le.upd2 {F H : Hp} {p : Addr} {o : HO} (e : Le F H) (h : F p = none) : Le F (L2.upd H p o) := fun a u q => by
  rw [upd_ne (ne_of_none q h)]; exact e a u q
theorem Le.both {F H : Hp} {p : Addr} {o : HO} (e : Le F H) : Le (L2.upd F p o) (L2.upd H p o) := fun a u q => by
  by_cases h : a = p
  · subst h; rw [upd_same] at q ⊢; exact q
  · rw [upd_ne h] at q ⊢; exact e a u q
theorem Le.none {F H : Hp} {p : Addr} (e : Le F H) (h : H p = Option.none) : F p = Option.none := by
  cases q : F p with
  | none => rfl
  | some o => rw [e p o q] at h; cases h

theorem Rep.mono {K : PySem.W.Frag} {F H : Hp} (e : Le F H) {v : V} {d : D} (h : Rep K F v d) : Rep K H v d :=
  Rep.rec (motive_1 := fun v d _ => Rep K H v d) (motive_2 := fun vs ds _ => RepL K H vs ds) .non .bl .int .str (fun h1 _ q => .tup (e _ _ h1) q) (fun h1 _ q => .lst (e _ _ h1) q)
    (fun h1 h2 _ q => .dK (e _ _ h1) h2 q) (fun h1 h2 _ q => .dT (e _ _ h1) h2 q) (fun h1 h2 _ q => .ins (e _ _ h1) h2 q) .ptr (fun h1 _ q => .seq (e.sqL h1) q) (fun h1 _ q => .tupK (e.sqT h1) q) .nil (fun _ _ q r => .cons q r) h
theorem RepL.mono {K : PySem.W.Frag} {F H : Hp} (e : Le F H) {vs : List V} {ds : List D} (h : RepL K F vs ds) : RepL K H vs ds := by
  induction ds generalizing vs with
  | nil => cases h; exact .nil
  | cons d ds ih => cases h with | cons h1 h2 => exact .cons (h1.mono e) (ih h2)

section
variable {K : PySem.W.Frag} {F H : Hp} {vs : List V} {ds : List D}
theorem RepL.length : ∀ {vs : List V} {ds : List D}, RepL K F vs ds → vs.length = ds.length
  | _, _, .nil => rfl
  | _, _, .cons _ t => by rw [List.length_cons, List.length_cons, RepL.length t]
theorem RepL.get : ∀ {vs : List V} {ds : List D} {i : Nat} {v : V}, RepL K F vs ds → vs[i]? = some v → ∃ d, ds[i]? = some d ∧ Rep K F v d
  | _, _, _, _, .nil, e => by simp at e
  | _, _, 0, _, .cons r _, e => by simp at e; subst e; exact ⟨_, rfl, r⟩
  | _, _, i + 1, v, .cons _ t, e => by
    obtain ⟨d, h1, h2⟩ := RepL.get (i := i) (v := v) t (by simpa using e)
    exact ⟨d, by simpa using h1, h2⟩
theorem RepL.getD : ∀ {vs : List V} {ds : List D} {i : Nat} {d : D}, RepL K F vs ds → ds[i]? = some d → ∃ v, vs[i]? = some v ∧ Rep K F v d
  | _, _, _, _, .nil, e => by simp at e
  | _, _, 0, _, .cons r _, e => by simp at e; subst e; exact ⟨_, rfl, r⟩
  | _, _, i + 1, d, .cons _ t, e => by
    obtain ⟨v, h1, h2⟩ := RepL.getD (i := i) (d := d) t (by simpa using e)
    exact ⟨v, by simpa using h1, h2⟩
theorem RepL.append : ∀ {vs ws : List V} {ds es : List D}, RepL K F vs ds → RepL K F ws es → RepL K F (vs ++ ws) (ds ++ es)
  | _, _, _, _, .nil, q => q
  | _, _, _, _, .cons r t, q => .cons r (t.append q)
theorem RepL.take : ∀ {vs : List V} {ds : List D} (n : Nat), RepL K F vs ds → RepL K F (vs.take n) (ds.take n)
  | _, _, 0, _ => .nil
  | _, _, _ + 1, .nil => .nil
  | _, _, n + 1, .cons r t => .cons r (t.take n)
theorem RepL.drop : ∀ {vs : List V} {ds : List D} (n : Nat), RepL K F vs ds → RepL K F (vs.drop n) (ds.drop n)
  | _, _, 0, r => r
  | _, _, _ + 1, .nil => .nil
  | _, _, n + 1, .cons _ t => t.drop n
theorem RepL.set {v : V} {d : D} (r : Rep K F v d) : ∀ {vs : List V} {ds : List D} (n : Nat), RepL K F vs ds → RepL K F (vs.set n v) (ds.set n d)
  | _, _, _, .nil => .nil
  | _, _, 0, .cons _ t => .cons r t
  | _, _, n + 1, .cons q t => .cons q (t.set r n)
theorem RepL.eraseIdx : ∀ {vs : List V} {ds : List D} (n : Nat), RepL K F vs ds → RepL K F (vs.eraseIdx n) (ds.eraseIdx n)
  | _, _, _, .nil => .nil
  | _, _, 0, .cons _ t => t
  | _, _, n + 1, .cons q t => .cons q (t.eraseIdx n)
theorem RepL.reverse : ∀ {vs : List V} {ds : List D}, RepL K F vs ds → RepL K F vs.reverse ds.reverse
  | _, _, .nil => .nil
  | _, _, .cons r t => by
    rw [List.reverse_cons, List.reverse_cons]
    exact t.reverse.append (.cons r .nil)
theorem RepL.dropLast : ∀ {vs : List V} {ds : List D}, RepL K F vs ds → RepL K F vs.dropLast ds.dropLast
  | _, _, .nil => .nil
  | _, _, .cons _ .nil => .nil
  | _, _, .cons r (.cons q t) => .cons r (RepL.dropLast (.cons q t))
theorem RepL.one {v : V} {d : D} (h : Rep K F v d) : RepL K F [v] [d] := .cons h .nil
end

/-! ### slots -/
inductive Md where | fz | own | par | lent
  deriving DecidableEq
structure Sl where
  m : Md
  d : D
abbrev Rho := List (Option Sl)

/-- an object that nobody else holds -/
def OwnAt (K : PySem.W.Frag) (F H : Hp) (p : Addr) : D → Prop
  | .lst ds => ∃ vs, H p = some (.lst vs) ∧ RepL K F vs ds
  | .dK es => ∃ kvs : List (Key × V), H p = some (.dK kvs) ∧ kvs.map Prod.fst = es.map Prod.fst ∧ RepL K F (kvs.map Prod.snd) (es.map Prod.snd)
  | .dT es => ∃ kvs : List (List Key × V), H p = some (.dT kvs) ∧ kvs.map Prod.fst = es.map Prod.fst ∧ RepL K F (kvs.map Prod.snd) (es.map Prod.snd)
  | .ins C fs => ∃ dx vfs, H p = some (.ins C dx vfs) ∧ vfs.map Prod.fst = fs.map Prod.fst ∧ RepL K F (vfs.map Prod.snd) (fs.map Prod.snd)
  | _ => False
theorem OwnAt.has {K : PySem.W.Frag} {F H : Hp} {p : Addr} {d : D} (h : OwnAt K F H p d) : ∃ o, H p = some o := by
  cases d <;> first | exact h.elim | (obtain ⟨vs, h, _⟩ := h; exact ⟨_, h⟩) | (obtain ⟨dx, vs, h, _⟩ := h; exact ⟨_, h⟩)
theorem OwnAt.mono {K : PySem.W.Frag} {F F' H H' : Hp} {p : Addr} {d : D} (h : OwnAt K F H p d) (e : Le F F') (q : H' p = H p) : OwnAt K F' H' p d := by
  cases d with
  | lst ds => obtain ⟨vs, h1, h2⟩ := h; exact ⟨vs, q.trans h1, h2.mono e⟩
  | dK es => obtain ⟨vs, h1, h2, h3⟩ := h; exact ⟨vs, q.trans h1, h2, h3.mono e⟩
  | dT es => obtain ⟨vs, h1, h2, h3⟩ := h; exact ⟨vs, q.trans h1, h2, h3.mono e⟩
  | ins C fs => obtain ⟨dx, vs, h1, h2, h3⟩ := h; exact ⟨dx, vs, q.trans h1, h2, h3.mono e⟩
  | _ => exact h.elim
/-- frozen, it is data -/
theorem OwnAt.rep {K : PySem.W.Frag} {F H : Hp} {p : Addr} {d : D} (h : OwnAt K F H p d) : ∃ o, H p = some o ∧ ∀ F', Le F F' → F' p = some o → Rep K F' (.ref p) d := by
  cases d with
  | lst ds => obtain ⟨vs, h1, h2⟩ := h; exact ⟨_, h1, fun F' e q => .lst q (h2.mono e)⟩
  | dK es => obtain ⟨vs, h1, h2, h3⟩ := h; exact ⟨_, h1, fun F' e q => .dK q h2 (h3.mono e)⟩
  | dT es => obtain ⟨vs, h1, h2, h3⟩ := h; exact ⟨_, h1, fun F' e q => .dT q h2 (h3.mono e)⟩
  | ins C fs => obtain ⟨dx, vs, h1, h2, h3⟩ := h; exact ⟨_, h1, fun F' e q => .ins q h2 (h3.mono e)⟩
  | _ => exact h.elim

def SlOk (K : PySem.W.Frag) (F H : Hp) (v : V) (s : Sl) : Prop :=
  match s.m with
  | .fz => Rep K F v s.d
  | _ => ∃ p, v = .ref p ∧ F p = none ∧ OwnAt K F H p s.d
theorem SlOk.fz {K : PySem.W.Frag} {F H : Hp} {v : V} {s : Sl} (h : SlOk K F H v s) (e : s.m = .fz) : Rep K F v s.d := by
  unfold SlOk at h; rw [e] at h; exact h
theorem SlOk.nfz {K : PySem.W.Frag} {F H : Hp} {v : V} {s : Sl} (h : SlOk K F H v s) (e : s.m ≠ .fz) : ∃ p, v = .ref p ∧ F p = none ∧ OwnAt K F H p s.d := by
  unfold SlOk at h
  cases q : s.m with
  | fz => exact absurd q e
  | own => rw [q] at h; exact h
  | par => rw [q] at h; exact h
  | lent => rw [q] at h; exact h
theorem SlOk.mk_fz {K : PySem.W.Frag} {F H : Hp} {v : V} {s : Sl} (e : s.m = .fz) (h : Rep K F v s.d) : SlOk K F H v s := by
  unfold SlOk; rw [e]; exact h
theorem SlOk.mk_n {K : PySem.W.Frag} {F H : Hp} {p : Addr} {s : Sl} (e : s.m ≠ .fz) (h : F p = none) (q : OwnAt K F H p s.d) : SlOk K F H (.ref p) s := by
  unfold SlOk
  cases z : s.m with
  | fz => exact absurd z e
  | own => exact ⟨p, rfl, h, q⟩
  | par => exact ⟨p, rfl, h, q⟩
  | lent => exact ⟨p, rfl, h, q⟩

structure Rel (K : PySem.W.Frag) (F : Hp) (ρ : Rho) (σ : L2.St) (H : Hp) : Prop where
  le : Le F H
  len : ρ.length = σ.length
  at_ : ∀ (i : Nat) (s : Sl), ρ[i]? = some (some s) → ∃ v, σ[i]? = some (some v) ∧ SlOk K F H v s
  ne : ∀ (i j : Nat) (s t : Sl) (p : Addr), ρ[i]? = some (some s) → ρ[j]? = some (some t) → s.m ≠ .fz → t.m ≠ .fz → σ[i]? = some (some (.ref p)) → σ[j]? = some (some (.ref p)) → i = j

/-- what may be written -/
def Own (ρ : Rho) (σ : L2.St) (a : Addr) : Prop := ∃ (i : Nat) (s : Sl), ρ[i]? = some (some s) ∧ (s.m = .own ∨ s.m = .par) ∧ σ[i]? = some (some (.ref a))
def OwnO (ρ : Rho) (σ : L2.St) (a : Addr) : Prop := ∃ (i : Nat) (s : Sl), ρ[i]? = some (some s) ∧ s.m = .own ∧ σ[i]? = some (some (.ref a))
def Md.fixed : Md → Prop
  | .par => True
  | .lent => True
  | _ => False

structure Stp (F : Hp) (ρ : Rho) (σ : L2.St) (H : Hp) (F' : Hp) (ρ' : Rho) (σ' : L2.St) (H' : Hp) : Prop where
  le : Le F F'
  keep : ∀ a o, H a = some o → ¬ Own ρ σ a → H' a = some o
  there : ∀ a o, H a = some o → ∃ o', H' a = some o'
  newF : ∀ a o, F' a = some o → (∃ o', F a = some o') ∨ H a = none ∨ OwnO ρ σ a
  ownO : ∀ a, OwnO ρ' σ' a → OwnO ρ σ a ∨ H a = none
  fwd : ∀ (i : Nat) (m : Md) (d : D), m.fixed → ρ[i]? = some (some ⟨m, d⟩) → (∃ d', ρ'[i]? = some (some ⟨m, d'⟩)) ∧ σ'[i]? = σ[i]?
  bwd : ∀ (i : Nat) (m : Md) (d : D), m.fixed → ρ'[i]? = some (some ⟨m, d⟩) → ∃ d', ρ[i]? = some (some ⟨m, d'⟩)

theorem OwnO.own {ρ : Rho} {σ : L2.St} {a : Addr} (h : OwnO ρ σ a) : Own ρ σ a := by
  obtain ⟨i, s, h1, h2, h3⟩ := h; exact ⟨i, s, h1, .inl h2, h3⟩

section
variable {K : PySem.W.Frag} {F F1 F2 H H1 H2 : Hp} {ρ ρ1 ρ2 : Rho} {σ σ1 σ2 : L2.St}
theorem Stp.refl : Stp F ρ σ H F ρ σ H := ⟨Le.refl F, fun _ _ h _ => h, fun _ o h => ⟨o, h⟩, fun _ o h => .inl ⟨o, h⟩, fun _ h => .inl h, fun _ _ d _ h => ⟨⟨d, h⟩, rfl⟩, fun _ _ d _ h => ⟨d, h⟩⟩
/-- what is own behind a step was own ahead of it, or is new -/
theorem Stp.own (s : Stp F ρ σ H F1 ρ1 σ1 H1) {a : Addr} (h : Own ρ1 σ1 a) : Own ρ σ a ∨ H a = none := by
  obtain ⟨i, sl, h1, h2, h3⟩ := h
  rcases h2 with h2 | h2
  · rcases s.ownO a ⟨i, sl, h1, h2, h3⟩ with q | q
    · exact .inl q.own
    · exact .inr q
  · obtain ⟨m, d⟩ := sl
    cases h2
    obtain ⟨d', e⟩ := s.bwd i .par d trivial h1
    obtain ⟨_, e2⟩ := s.fwd i .par d' trivial e
    exact .inl ⟨i, _, e, .inr rfl, by rw [← e2]; exact h3⟩
theorem Stp.trans (s : Stp F ρ σ H F1 ρ1 σ1 H1) (t : Stp F1 ρ1 σ1 H1 F2 ρ2 σ2 H2) : Stp F ρ σ H F2 ρ2 σ2 H2 := by
  refine ⟨s.le.trans t.le, fun a o h n => ?_, fun a o h => ?_, fun a o h => ?_, fun a h => ?_, fun i m d hm h => ?_, fun i m d hm h => ?_⟩
  · refine t.keep a o (s.keep a o h n) fun q => ?_
    rcases s.own q with z | z
    · exact n z
    · rw [h] at z; cases z
  · obtain ⟨o1, h1⟩ := s.there a o h
    exact t.there a o1 h1
  · rcases t.newF a o h with ⟨o', q⟩ | q | q
    · exact s.newF a o' q
    · right; left
      cases z : H a with
      | none => rfl
      | some u => obtain ⟨o1, e1⟩ := s.there a u z; rw [e1] at q; cases q
    · rcases s.ownO a q with z | z
      · exact .inr (.inr z)
      · exact .inr (.inl z)
  · rcases t.ownO a h with q | q
    · exact s.ownO a q
    · right
      cases z : H a with
      | none => rfl
      | some u => obtain ⟨o1, e1⟩ := s.there a u z; rw [e1] at q; cases q
  · obtain ⟨⟨d', e⟩, e1⟩ := s.fwd i m d hm h
    obtain ⟨q, e2⟩ := t.fwd i m d' hm e
    exact ⟨q, e2.trans e1⟩
  · obtain ⟨d', e⟩ := t.bwd i m d hm h
    exact s.bwd i m d' hm e
end

/-- an expression's step: slots are kept, modes turn from own to frozen alone -/
structure StpE (F : Hp) (ρ : Rho) (σ : L2.St) (H : Hp) (F' : Hp) (ρ' : Rho) (H' : Hp) : Prop where
  stp : Stp F ρ σ H F' ρ' σ H'
  back : ∀ (j : Nat) (s' : Sl), ρ'[j]? = some (some s') → s'.m ≠ .fz → ∃ s, ρ[j]? = some (some s) ∧ s.m = s'.m
theorem StpE.refl {F H : Hp} {ρ : Rho} {σ : L2.St} : StpE F ρ σ H F ρ H := ⟨.refl, fun _ s h _ => ⟨s, h, rfl⟩⟩
theorem StpE.trans {F F1 F2 H H1 H2 : Hp} {ρ ρ1 ρ2 : Rho} {σ : L2.St} (s : StpE F ρ σ H F1 ρ1 H1) (t : StpE F1 ρ1 σ H1 F2 ρ2 H2) : StpE F ρ σ H F2 ρ2 H2 :=
  ⟨s.stp.trans t.stp, fun j s' h n => by
    obtain ⟨s1, e1, m1⟩ := t.back j s' h n
    obtain ⟨s0, e0, m0⟩ := s.back j s1 e1 (by rw [m1]; exact n)
    exact ⟨s0, e0, m0.trans m1⟩⟩

/-- a value that has come: data, or a new object of one's own (H: ahead) -/
def Res (K : PySem.W.Frag) (F' H H' : Hp) (v : V) (r : Sl) : Prop :=
  match r.m with
  | .fz => Rep K F' v r.d
  | .own => ∃ p, v = .ref p ∧ H p = none ∧ F' p = none ∧ OwnAt K F' H' p r.d
  | _ => False
theorem Res.fz {K : PySem.W.Frag} {F H H' : Hp} {v : V} {d : D} (h : Rep K F v d) : Res K F H H' v ⟨.fz, d⟩ := h
end VI

namespace VI
open PySem PySem.Spec PyProof.Rows L2

section
variable {K : PySem.W.Frag} {F F' F1 F2 H H' H1 H2 : Hp} {ρ ρ' ρ1 ρ2 : Rho} {σ : L2.St} {p : Addr} {o : HO}

/-- an address that no slot of one's own holds goes to the data -/
theorem Rel.freeze (R : Rel K F ρ σ H) (hF : F p = none) (hH : H p = some o) (hp : ∀ (j : Nat) (s : Sl), ρ[j]? = some (some s) → s.m ≠ .fz → σ[j]? ≠ some (some (.ref p))) : Rel K (upd F p o) ρ σ H := by
  have le : Le F (upd F p o) := Le.upd hF
  refine ⟨fun a u e => ?_, R.len, fun i s e => ?_, R.ne⟩
  · by_cases h : a = p
    · subst h; rw [upd_same] at e; cases e; exact hH
    · rw [upd_ne h] at e; exact R.le a u e
  · obtain ⟨v, hv, ok⟩ := R.at_ i s e
    refine ⟨v, hv, ?_⟩
    by_cases hm : s.m = .fz
    · exact .mk_fz hm ((ok.fz hm).mono le)
    · obtain ⟨q, rfl, fq, oq⟩ := ok.nfz hm
      have ne : q ≠ p := fun z => hp i s e hm (by rw [hv, z])
      exact .mk_n hm (by rw [upd_ne ne]; exact fq) (oq.mono le rfl)

theorem fresh_ne (R : Rel K F ρ σ H) (S : StpE F ρ σ H F' ρ' H') (hp : H p = none) : ∀ (j : Nat) (s : Sl), ρ'[j]? = some (some s) → s.m ≠ .fz → σ[j]? ≠ some (some (.ref p)) := fun j s e hm z => by
  obtain ⟨s0, e0, m0⟩ := S.back j s e hm
  obtain ⟨v, hv, ok⟩ := R.at_ j s0 e0
  obtain ⟨q, rfl, _, oq⟩ := ok.nfz (by rw [m0]; exact hm)
  obtain ⟨u, hu⟩ := oq.has
  rw [hv] at z
  cases z
  rw [hp] at hu; cases hu

/-- what comes of an operation on values: new objects alone -/
structure New (K : PySem.W.Frag) (F H F' H' : Hp) (v : V) (r : Sl) : Prop where
  leF : Le F F'
  leH : Le F' H'
  keep : Le H H'
  newF : ∀ a o, F' a = some o → (∃ o', F a = some o') ∨ H a = none
  res : Res K F' H H' v r

theorem SlOk.new {v : V} {s : Sl} {r : Sl} {w : V} (ok : SlOk K F H v s) (N : New K F H F' H' w r) : SlOk K F' H' v s := by
  by_cases hm : s.m = .fz
  · exact .mk_fz hm ((ok.fz hm).mono N.leF)
  · obtain ⟨q, rfl, fq, oq⟩ := ok.nfz hm
    obtain ⟨u, hu⟩ := oq.has
    refine .mk_n hm ?_ (oq.mono N.leF ((N.keep q u hu).trans hu.symm))
    cases z : F' q with
    | none => rfl
    | some w =>
      rcases N.newF q w z with ⟨o', e⟩ | e
      · rw [fq] at e; cases e
      · rw [hu] at e; cases e
theorem Rel.new {v : V} {r : Sl} (R : Rel K F ρ σ H) (N : New K F H F' H' v r) : Rel K F' ρ σ H' ∧ StpE F ρ σ H F' ρ H' := by
  refine ⟨⟨N.leH, R.len, fun i s e => ?_, R.ne⟩, ⟨⟨N.leF, fun a u h _ => N.keep a u h, fun a u h => ⟨u, N.keep a u h⟩, fun a u h => ?_, fun a h => .inl h, fun _ _ d _ h => ⟨⟨d, h⟩, rfl⟩, fun _ _ d _ h => ⟨d, h⟩⟩, fun _ s h _ => ⟨s, h, rfl⟩⟩⟩
  · obtain ⟨v, hv, ok⟩ := R.at_ i s e
    exact ⟨v, hv, ok.new N⟩
  · rcases N.newF a u h with q | q
    · exact .inl q
    · exact .inr (.inl q)
theorem New.same {v : V} {d : D} (hl : Le F H) (h : Rep K F v d) : New K F H F H v ⟨.fz, d⟩ := ⟨.refl F, hl, .refl H, fun _ o e => .inl ⟨o, e⟩, h⟩
theorem New.tup {vs : List V} {ds : List D} (hl : Le F H) (hp : H p = none) (h : RepL K F vs ds) : New K F H (upd F p (.tup vs)) (upd H p (.tup vs)) (.ref p) ⟨.fz, .tup ds⟩ := by
  have fp := hl.none hp
  refine ⟨Le.upd fp, hl.both, Le.upd hp, fun a u e => ?_, ?_⟩
  · by_cases z : a = p
    · subst z; exact .inr hp
    · rw [upd_ne z] at e; exact .inl ⟨u, e⟩
  · exact Rep.tup upd_same (h.mono (Le.upd fp))
theorem New.own {o : HO} {d : D} (hl : Le F H) (hp : H p = none) (h : OwnAt K F (upd H p o) p d) : New K F H F (upd H p o) (.ref p) ⟨.own, d⟩ :=
  ⟨.refl F, hl.upd2 (hl.none hp), Le.upd hp, fun _ u e => .inl ⟨u, e⟩, ⟨p, rfl, hp, hl.none hp, h⟩⟩
theorem New.lst {vs : List V} {ds : List D} (hl : Le F H) (hp : H p = none) (h : RepL K F vs ds) : New K F H F (upd H p (.lst vs)) (.ref p) ⟨.own, .lst ds⟩ :=
  New.own hl hp ⟨vs, upd_same, h⟩

/-! ### a view of a value -/
def Vw (K : PySem.W.Frag) (F H : Hp) (v : V) (d : D) : Prop := Rep K F v d ∨ ∃ p, v = .ref p ∧ F p = none ∧ OwnAt K F H p d
theorem SlOk.vw {v : V} {s : Sl} (ok : SlOk K F H v s) : Vw K F H v s.d := by
  by_cases hm : s.m = .fz
  · exact .inl (ok.fz hm)
  · exact .inr (ok.nfz hm)
theorem Vw.rep {v : V} {d : D} (h : Vw K F H v d) (l : Le F H) : Rep K H v d := by
  rcases h with h | ⟨p, rfl, _, h⟩
  · exact h.mono l
  · obtain ⟨o, e, q⟩ := h.rep
    exact q H l e
theorem Vw.int {v : V} {i : Int} (h : Vw K F H v (.int i)) : v = .int i := by
  rcases h with h | ⟨p, rfl, _, h⟩
  · cases h; rfl
  · exact h.elim
theorem Vw.str {v : V} {i : Str} (h : Vw K F H v (.str i)) : v = .str i := by
  rcases h with h | ⟨p, rfl, _, h⟩
  · cases h; rfl
  · exact h.elim
theorem Vw.bl {v : V} {i : Bool} (h : Vw K F H v (.bl i)) : v = .bl i := by
  rcases h with h | ⟨p, rfl, _, h⟩
  · cases h; rfl
  · exact h.elim
theorem Vw.non {v : V} (h : Vw K F H v .non) : v = .non := by
  rcases h with h | ⟨p, rfl, _, h⟩
  · cases h; rfl
  · exact h.elim
theorem Vw.lst {v : V} {ds : List D} (h : Vw K F H v (.lst ds)) (l : Le F H) : ∃ a vs, v = .ref a ∧ H a = some (.lst vs) ∧ RepL K F vs ds := by
  rcases h with h | ⟨p, rfl, _, h⟩
  · cases h with | lst h1 h2 => exact ⟨_, _, rfl, l _ _ h1, h2⟩
  · obtain ⟨vs, h1, h2⟩ := h; exact ⟨p, vs, rfl, h1, h2⟩
theorem Vw.seq {v : V} {ds : List D} (h : Vw K F H v (.seq ds)) (l : Le F H) : ∃ a vs, v = .ref a ∧ SqL K H a vs ∧ RepL K F vs ds := by
  rcases h with h | ⟨p, rfl, _, h⟩
  · cases h with | seq h1 h2 => exact ⟨_, _, rfl, l.sqL h1, h2⟩
  · exact h.elim
theorem Vw.tup {v : V} {ds : List D} (h : Vw K F H v (.tup ds)) (l : Le F H) : ∃ a vs, v = .ref a ∧ H a = some (.tup vs) ∧ RepL K F vs ds ∧ F a = some (.tup vs) := by
  rcases h with h | ⟨p, rfl, _, h⟩
  · cases h with | tup h1 h2 => exact ⟨_, _, rfl, l _ _ h1, h2, h1⟩
  · exact h.elim
theorem Vw.dK {v : V} {es : List (Key × D)} (h : Vw K F H v (.dK es)) (l : Le F H) : ∃ a kvs, v = .ref a ∧ H a = some (.dK kvs) ∧ kvs.map Prod.fst = es.map Prod.fst ∧ RepL K F (kvs.map Prod.snd) (es.map Prod.snd) := by
  rcases h with h | ⟨p, rfl, _, h⟩
  · cases h with | dK h1 h2 h3 => exact ⟨_, _, rfl, l _ _ h1, h2, h3⟩
  · obtain ⟨kvs, h1, h2, h3⟩ := h; exact ⟨p, kvs, rfl, h1, h2, h3⟩
theorem Vw.dT {v : V} {es : List (List Key × D)} (h : Vw K F H v (.dT es)) (l : Le F H) : ∃ a kvs, v = .ref a ∧ H a = some (.dT kvs) ∧ kvs.map Prod.fst = es.map Prod.fst ∧ RepL K F (kvs.map Prod.snd) (es.map Prod.snd) := by
  rcases h with h | ⟨p, rfl, _, h⟩
  · cases h with | dT h1 h2 h3 => exact ⟨_, _, rfl, l _ _ h1, h2, h3⟩
  · obtain ⟨kvs, h1, h2, h3⟩ := h; exact ⟨p, kvs, rfl, h1, h2, h3⟩
theorem Vw.ins {v : V} {C : Addr} {fs : List (Str × D)} (h : Vw K F H v (.ins C fs)) (l : Le F H) : ∃ a dx vfs, v = .ref a ∧ H a = some (.ins C dx vfs) ∧ vfs.map Prod.fst = fs.map Prod.fst ∧ RepL K F (vfs.map Prod.snd) (fs.map Prod.snd) := by
  rcases h with h | ⟨p, rfl, _, h⟩
  · cases h with | ins h1 h2 h3 => exact ⟨_, _, _, rfl, l _ _ h1, h2, h3⟩
  · obtain ⟨dx, kvs, h1, h2, h3⟩ := h; exact ⟨p, dx, kvs, rfl, h1, h2, h3⟩
inductive VwL (K : PySem.W.Frag) (F H : Hp) : List V → List D → Prop
  | nil : VwL K F H [] []
  | cons {v : V} {vs : List V} {d : D} {ds : List D} : Vw K F H v d → VwL K F H vs ds → VwL K F H (v :: vs) (d :: ds)
end

/-! ### expressions -/
abbrev ME := Rho → Option (Sl × Rho)
def tE (K : PySem.W.Frag) (f : ME) : TE := fun σ H Q => ∃ F ρ r ρ', Rel K F ρ σ H ∧ f ρ = some (r, ρ') ∧ ∀ v F' H', Rel K F' ρ' σ H' → StpE F ρ σ H F' ρ' H' → Res K F' H H' v r → Q v H'
abbrev VE (X : Cx) (e : Expr) (f : ME) : Prop := PE X e (tE X.K f)
theorem VE.of {X : Cx} {e : Expr} {t t' : TE} (h : PE X e t) (q : ∀ σ H Q, σ.length = X.N.length → t' σ H Q → t σ H Q) : PE X e t' := ⟨fun pins s σ H Q I w => h.run pins s σ H Q I (q σ H Q I.len w)⟩

def frz (f : ME) : ME := fun ρ => (f ρ).map fun x => (⟨.fz, x.1.d⟩, x.2)
section
variable {K : PySem.W.Frag} {σ : L2.St} {H : Hp} {Q : VK}
theorem Res.own_or {F' H H' : Hp} {v : V} {r : Sl} (h : Res K F' H H' v r) : (r.m = .fz ∧ Rep K F' v r.d) ∨ (r.m = .own ∧ ∃ p, v = .ref p ∧ H p = none ∧ F' p = none ∧ OwnAt K F' H' p r.d) := by
  unfold Res at h
  cases q : r.m with
  | fz => rw [q] at h; exact .inl ⟨rfl, h⟩
  | own => rw [q] at h; exact .inr ⟨rfl, h⟩
  | par => rw [q] at h; exact h.elim
  | lent => rw [q] at h; exact h.elim
/-- a value that has come is frozen -/
theorem Res.frozen {F F' H' : Hp} {ρ ρ' : Rho} {v : V} {r : Sl} (R0 : Rel K F ρ σ H) (R : Rel K F' ρ' σ H') (S : StpE F ρ σ H F' ρ' H') (h : Res K F' H H' v r) :
    ∃ F2, Rel K F2 ρ' σ H' ∧ StpE F ρ σ H F2 ρ' H' ∧ Rep K F2 v r.d := by
  rcases h.own_or with ⟨_, h⟩ | ⟨_, p, rfl, hp, fp, h⟩
  · exact ⟨F', R, S, h⟩
  · obtain ⟨o, ho, q⟩ := h.rep
    refine ⟨upd F' p o, R.freeze fp ho (fresh_ne R0 S hp), ⟨⟨S.stp.le.trans (Le.upd fp), S.stp.keep, S.stp.there, fun a u e => ?_, S.stp.ownO, S.stp.fwd, S.stp.bwd⟩, S.back⟩, q _ (Le.upd fp) upd_same⟩
    by_cases z : a = p
    · subst z; exact .inr (.inl hp)
    · rw [upd_ne z] at e; exact S.stp.newF a u e
theorem tE_frz {f : ME} (h : tE K (frz f) σ H Q) : tE K f σ H Q := by
  obtain ⟨F, ρ, r', ρ', R, e, post⟩ := h
  unfold frz at e
  cases q : f ρ with
  | none => rw [q] at e; cases e
  | some x =>
    obtain ⟨r, ρ1⟩ := x
    rw [q] at e
    cases e
    refine ⟨F, ρ, r, ρ1, R, q, fun v F1 H1 R1 S1 res => ?_⟩
    obtain ⟨F2, R2, S2, h2⟩ := res.frozen R R1 S1
    exact post v F2 H1 R2 S2 h2
end
theorem ve_frz {X : Cx} {e : Expr} {f : ME} (h : VE X e f) : VE X e (frz f) := VE.of h fun _ _ _ _ q => tE_frz q

/-- a constant -/
def fC (d : D) : ME := fun ρ => some (⟨.fz, d⟩, ρ)
theorem ve_c {X : Cx} {e : Expr} {v : V} {d : D} (h : PE X e (tC v)) (r : ∀ F, Rep X.K F v d) : VE X e (fC d) := VE.of h fun σ H Q _ ⟨F, ρ, s, ρ', R, e, post⟩ => by
  cases e
  exact post v F H R .refl (r F)
theorem ve_int {X : Cx} {i j pos} : VE X (.Constant (.int i) j pos) (fC (.int i)) := ve_c pe_int fun _ => .int i
theorem ve_str {X : Cx} {i j pos} : VE X (.Constant (.str i) j pos) (fC (.str i)) := ve_c pe_str fun _ => .str i
theorem ve_bl {X : Cx} {i j pos} : VE X (.Constant (.bool i) j pos) (fC (.bl i)) := ve_c pe_bl fun _ => .bl i
theorem ve_non {X : Cx} {j pos} : VE X (.Constant .none j pos) (fC .non) := ve_c pe_non fun _ => .non
/-- a constant of the module, by what stands in the module's names -/
theorem ve_glob {X : Cx} {x : Str} {v : V} {u : Value} {d : D} {pos : Pos} (hg : Gl X x) (hm : X.mg x = some u) (r : RelV v u) (q : ∀ F, Rep X.K F v d) (hd : (x == ("__debug__" : Str)) = false := by decide) : VE X (.Name x pos) (fC d) := ve_c (pe_glob hg hm r hd) q

/-- a name as a value: what is one's own is frozen -/
def fName (i : Nat) : ME := fun ρ => match ρ[i]? with
  | some (some ⟨.fz, d⟩) => some (⟨.fz, d⟩, ρ)
  | some (some ⟨.own, d⟩) => some (⟨.fz, d⟩, ρ.set i (some ⟨.fz, d⟩))
  | _ => none
theorem getElem?_set' {ρ : Rho} {i j : Nat} {x : Option Sl} {s : Sl} (h : (ρ.set i x)[j]? = some (some s)) : (j = i ∧ x = some s) ∨ (j ≠ i ∧ ρ[j]? = some (some s)) := by
  by_cases e : j = i
  · subst e
    rw [List.getElem?_set] at h
    simp only [if_true] at h
    split at h
    · exact .inl ⟨rfl, by simpa using h⟩
    · cases h
  · rw [List.getElem?_set_ne (Ne.symm e)] at h
    exact .inr ⟨e, h⟩
/-- the slot's own object goes to the data -/
theorem Rel.freezeSlot {K : PySem.W.Frag} {F H : Hp} {ρ : Rho} {σ : L2.St} {i : Nat} {d : D} (R : Rel K F ρ σ H) (e : ρ[i]? = some (some ⟨.own, d⟩)) :
    ∃ F2 v, σ[i]? = some (some v) ∧ Rel K F2 (ρ.set i (some ⟨.fz, d⟩)) σ H ∧ StpE F ρ σ H F2 (ρ.set i (some ⟨.fz, d⟩)) H ∧ Rep K F2 v d := by
  obtain ⟨v, hv, ok⟩ := R.at_ i _ e
  obtain ⟨p, rfl, fp, oa⟩ := ok.nfz (by intro z; cases z)
  obtain ⟨o, ho, q⟩ := oa.rep
  have le : Le F (upd F p o) := Le.upd fp
  have rp : Rep K (upd F p o) (.ref p) d := q _ le upd_same
  have hi : i < ρ.length := (List.getElem?_eq_some_iff.mp e).1
  refine ⟨upd F p o, .ref p, hv, ⟨fun a u z => ?_, by rw [List.length_set]; exact R.len, fun j s z => ?_, fun j k s t a h1 h2 m1 m2 h3 h4 => ?_⟩, ⟨⟨le, fun a u h _ => h, fun a u h => ⟨u, h⟩, fun a u z => ?_, fun a h => ?_, fun j m d' hm z => ?_, fun j m d' hm z => ?_⟩, fun j s z hm => ?_⟩, rp⟩
  · by_cases h : a = p
    · subst h; rw [upd_same] at z; cases z; exact ho
    · rw [upd_ne h] at z; exact R.le a u z
  · rcases getElem?_set' z with ⟨rfl, h⟩ | ⟨h, z⟩
    · cases h
      exact ⟨.ref p, hv, .mk_fz rfl rp⟩
    · obtain ⟨w, hw, ok'⟩ := R.at_ j s z
      refine ⟨w, hw, ?_⟩
      by_cases hm : s.m = .fz
      · exact .mk_fz hm ((ok'.fz hm).mono le)
      · obtain ⟨q', rfl, fq, oq⟩ := ok'.nfz hm
        have ne : q' ≠ p := fun zz => h (R.ne j i s _ p z e hm (by intro zz; cases zz) (by rw [hw, zz]) hv)
        exact .mk_n hm (by rw [upd_ne ne]; exact fq) (oq.mono le rfl)
  · rcases getElem?_set' h1 with ⟨_, h⟩ | ⟨_, h1⟩
    · cases h; exact absurd rfl m1
    · rcases getElem?_set' h2 with ⟨_, h⟩ | ⟨_, h2⟩
      · cases h; exact absurd rfl m2
      · exact R.ne j k s t a h1 h2 m1 m2 h3 h4
  · by_cases h : a = p
    · subst h; exact .inr (.inr ⟨i, _, e, rfl, hv⟩)
    · rw [upd_ne h] at z; exact .inl ⟨u, z⟩
  · obtain ⟨j, s, h1, h2, h3⟩ := h
    rcases getElem?_set' h1 with ⟨_, h⟩ | ⟨_, h1⟩
    · cases h; cases h2
    · exact .inl ⟨j, s, h1, h2, h3⟩
  · have ne : j ≠ i := fun h => by subst h; rw [e] at z; cases z; exact hm
    rw [List.getElem?_set_ne (Ne.symm ne)]
    exact ⟨⟨d', z⟩, rfl⟩
  · rcases getElem?_set' z with ⟨_, h⟩ | ⟨_, h⟩
    · cases h; exact hm.elim
    · exact ⟨d', h⟩
  · rcases getElem?_set' z with ⟨_, h⟩ | ⟨_, h⟩
    · cases h; exact absurd rfl hm
    · exact ⟨s, h, rfl⟩
theorem tE_name {K : PySem.W.Frag} {i : Nat} {σ : L2.St} {H : Hp} {Q : VK} (h : tE K (fName i) σ H Q) : tVar i σ H Q := by
  obtain ⟨F, ρ, r, ρ', R, e, post⟩ := h
  unfold fName at e
  split at e
  · rename_i d hd
    cases e
    obtain ⟨v, hv, ok⟩ := R.at_ i _ hd
    exact ⟨v, hv, post v F H R .refl (ok.fz rfl)⟩
  · rename_i d hd
    cases e
    obtain ⟨F2, v, hv, R2, S2, rp⟩ := R.freezeSlot hd
    exact ⟨v, hv, post v F2 H R2 S2 rp⟩
  · cases e
theorem ve_name {X : Cx} (i : Nat) {x : Str} {pos : Pos} (h : PE X (.Name x pos) (tVar i)) : VE X (.Name x pos) (fName i) := VE.of h fun _ _ _ _ q => tE_name q

/-! ### operands -/
inductive Pk where | sl (i : Nat) | vl (d : D)
inductive Opd where | sl (i : Nat) | ex (f : ME)
def evalO : Opd → Rho → Option (Pk × Rho)
  | .sl i, ρ => match ρ[i]? with
    | some (some _) => some (.sl i, ρ)
    | _ => none
  | .ex f, ρ => match f ρ with
    | some (r, ρ') => some (.vl r.d, ρ')
    | none => none
def look : Pk → Rho → Option D
  | .sl i, ρ => match ρ[i]? with
    | some (some s) => some s.d
    | _ => none
  | .vl d, _ => some d
def PkOk (K : PySem.W.Frag) (F : Hp) (σ : L2.St) (v : V) : Pk → Prop
  | .sl i => σ[i]? = some (some v)
  | .vl d => Rep K F v d
theorem PkOk.mono {K : PySem.W.Frag} {F F' : Hp} {σ : L2.St} {v : V} {pk : Pk} (e : Le F F') (h : PkOk K F σ v pk) : PkOk K F' σ v pk := by
  cases pk with
  | sl i => exact h
  | vl d => exact Rep.mono e h
theorem PkOk.vw {K : PySem.W.Frag} {F H : Hp} {ρ : Rho} {σ : L2.St} {v : V} {pk : Pk} {d : D} (R : Rel K F ρ σ H) (h : PkOk K F σ v pk) (e : look pk ρ = some d) : Vw K F H v d := by
  cases pk with
  | vl d' => cases e; exact .inl h
  | sl i =>
    unfold look at e
    simp only at e
    split at e
    · rename_i s hs
      cases e
      obtain ⟨w, hw, ok⟩ := R.at_ i s hs
      have h' : σ[i]? = some (some v) := h
      rw [h'] at hw; cases hw
      exact ok.vw
    · cases e
def tO (K : PySem.W.Frag) (o : Opd) : TE := fun σ H Q => ∃ F ρ pk ρ', Rel K F ρ σ H ∧ evalO o ρ = some (pk, ρ') ∧ ∀ v F' H', Rel K F' ρ' σ H' → StpE F ρ σ H F' ρ' H' → PkOk K F' σ v pk → Q v H'
abbrev VO (X : Cx) (e : Expr) (o : Opd) : Prop := PE X e (tO X.K o)
theorem vo_sl {X : Cx} (i : Nat) {x : Str} {pos : Pos} (h : PE X (.Name x pos) (tVar i)) : VO X (.Name x pos) (.sl i) := VE.of h fun σ H Q _ ⟨F, ρ, pk, ρ', R, e, post⟩ => by
  unfold evalO at e
  simp only at e
  split at e
  · rename_i s hs
    cases e
    obtain ⟨v, hv, ok⟩ := R.at_ i s hs
    exact ⟨v, hv, post v F H R .refl hv⟩
  · cases e
theorem vo_ex {X : Cx} {e : Expr} {f : ME} (h : VE X e f) : VO X e (.ex f) := VE.of h fun σ H Q _ ⟨F, ρ, pk, ρ', R, e, post⟩ => by
  unfold evalO at e
  simp only at e
  split at e
  · rename_i r ρ1 hr
    cases e
    refine ⟨F, ρ, r, _, R, hr, fun v F1 H1 R1 S1 res => ?_⟩
    obtain ⟨F2, R2, S2, h2⟩ := res.frozen R R1 S1
    exact post v F2 H1 R2 S2 h2
  · cases e

/-! ### two operands -/
def fOp2 (g : D → D → Option Sl) (a b : Opd) : ME := fun ρ => do
  let (pa, ρ1) ← evalO a ρ
  let (pb, ρ2) ← evalO b ρ1
  let d ← look pa ρ2
  let e ← look pb ρ2
  let r ← g d e
  pure (r, ρ2)
def Op2 (K : PySem.W.Frag) (r : R2) (g : D → D → Option Sl) : Prop := ∀ (F H : Hp) (x y : V) (d e : D) (s : Sl) (Q : VK), Le F H → Vw K F H x d → Vw K F H y e → g d e = some s → (∀ v F' H', New K F H F' H' v s → Q v H') → r x y H Q
theorem bind_some {α β : Type} {x : Option α} {f : α → Option β} {b : β} (h : (x >>= f) = some b) : ∃ a, x = some a ∧ f a = some b := by
  cases x with
  | none => cases h
  | some a => exact ⟨a, rfl, h⟩
theorem tE_op2 {K : PySem.W.Frag} {r : R2} {g : D → D → Option Sl} {a b : Opd} {σ : L2.St} {H : Hp} {Q : VK} (hg : Op2 K r g) (h : tE K (fOp2 g a b) σ H Q) : tOp r (tO K a) (tO K b) σ H Q := by
  obtain ⟨F, ρ, s, ρ2, R, e, post⟩ := h
  obtain ⟨⟨pa, ρ1⟩, e1, e⟩ := bind_some e
  obtain ⟨⟨pb, ρ2'⟩, e2, e⟩ := bind_some e
  obtain ⟨d, e3, e⟩ := bind_some e
  obtain ⟨d', e4, e⟩ := bind_some e
  obtain ⟨s', e5, e⟩ := bind_some e
  cases e
  refine ⟨F, ρ, pa, ρ1, R, e1, fun x F1 H1 R1 S1 P1 => ⟨F1, ρ1, pb, ρ2, R1, e2, fun y F2 H2 R2 S2 P2 => ?_⟩⟩
  refine hg F2 H2 x y d d' s _ R2.le ((P1.mono S2.stp.le).vw R2 e3) (P2.vw R2 e4) e5 fun v F3 H3 N => ?_
  obtain ⟨R3, S3⟩ := R2.new N
  have S : StpE F ρ σ H F3 ρ2 H3 := (S1.trans S2).trans S3
  refine post v F3 H3 R3 S ?_
  rcases N.res.own_or with ⟨m, q⟩ | ⟨m, p, rfl, hp, fp, q⟩
  · unfold Res; rw [m]; exact q
  · unfold Res; rw [m]
    refine ⟨p, rfl, ?_, fp, q⟩
    cases z : H p with
    | none => rfl
    | some u =>
      obtain ⟨o1, z1⟩ := S1.stp.there p u z
      obtain ⟨o2, z2⟩ := S2.stp.there p o1 z1
      rw [z2] at hp; cases hp
theorem ve_op {X : Cx} {op : Operator} {r : R2} {g : D → D → Option Sl} {a b : Expr} {oa ob : Opd} {pos : Pos} (ho : OpR X (binaryOp op) r) (hg : Op2 X.K r g) (ha : VO X a oa) (hb : VO X b ob) : VE X (.BinOp a op b pos) (fOp2 g oa ob) :=
  VE.of (pe_op ho ha hb) fun _ _ _ _ q => tE_op2 hg q
theorem ve_cmp {X : Cx} {op : CmpOp} {r : R2} {g : D → D → Option Sl} {a b : Expr} {oa ob : Opd} {pos : Pos} (ho : OpR X (compareOp op) r) (hg : Op2 X.K r g) (ha : VO X a oa) (hb : VO X b ob) (hm : behindInMarks op b = false) : VE X (.Compare a [op] [b] pos) (fOp2 g oa ob) :=
  VE.of (pe_cmpR ho ha hb hm) fun _ _ _ _ q => tE_op2 hg q
theorem ve_ix {X : Cx} {r : R2} {g : D → D → Option Sl} {a b : Expr} {oa ob : Opd} {pos : Pos} (ho : IxR X r) (hg : Op2 X.K r g) (ha : VO X a oa) (hb : VO X b ob) (hs : PlainIx b) : VE X (.Subscript a b pos) (fOp2 g oa ob) :=
  VE.of (pe_ix ho ha hb hs) fun _ _ _ _ q => tE_op2 hg q

/-! ### one operand -/
def fOp1 (g : D → Option Sl) (a : Opd) : ME := fun ρ => do
  let (pa, ρ1) ← evalO a ρ
  let d ← look pa ρ1
  let r ← g d
  pure (r, ρ1)
def Op1 (K : PySem.W.Frag) (r : V → Hp → VK → Prop) (g : D → Option Sl) : Prop := ∀ (F H : Hp) (x : V) (d : D) (s : Sl) (Q : VK), Le F H → Vw K F H x d → g d = some s → (∀ v F' H', New K F H F' H' v s → Q v H') → r x H Q
/-- behind operands, an operation's result -/
theorem after_ops {K : PySem.W.Frag} {F F2 F3 H H2 H3 : Hp} {ρ ρ2 : Rho} {σ : L2.St} {v : V} {s : Sl} (R2 : Rel K F2 ρ2 σ H2) (S : StpE F ρ σ H F2 ρ2 H2) (N : New K F2 H2 F3 H3 v s) :
    Rel K F3 ρ2 σ H3 ∧ StpE F ρ σ H F3 ρ2 H3 ∧ Res K F3 H H3 v s := by
  obtain ⟨R3, S3⟩ := R2.new N
  refine ⟨R3, S.trans S3, ?_⟩
  rcases N.res.own_or with ⟨m, q⟩ | ⟨m, p, rfl, hp, fp, q⟩
  · unfold Res; rw [m]; exact q
  · unfold Res; rw [m]
    refine ⟨p, rfl, ?_, fp, q⟩
    cases z : H p with
    | none => rfl
    | some u =>
      obtain ⟨o1, z1⟩ := S.stp.there p u z
      rw [z1] at hp; cases hp
theorem tE_op1 {K : PySem.W.Frag} {r : V → Hp → VK → Prop} {g : D → Option Sl} {a : Opd} {σ : L2.St} {H : Hp} {Q : VK} (hg : Op1 K r g) (h : tE K (fOp1 g a) σ H Q) : tUn r (tO K a) σ H Q := by
  obtain ⟨F, ρ, s, ρ2, R, e, post⟩ := h
  obtain ⟨⟨pa, ρ1⟩, e1, e⟩ := bind_some e
  obtain ⟨d, e3, e⟩ := bind_some e
  obtain ⟨s', e5, e⟩ := bind_some e
  cases e
  refine ⟨F, ρ, pa, ρ2, R, e1, fun x F1 H1 R1 S1 P1 => ?_⟩
  refine hg F1 H1 x d s _ R1.le (P1.vw R1 e3) e5 fun v F3 H3 N => ?_
  obtain ⟨R3, S3, q⟩ := after_ops R1 S1 N
  exact post v F3 H3 R3 S3 q
theorem ve_un {X : Cx} {op : UnaryOp} {r : V → Hp → VK → Prop} {g : D → Option Sl} {a : Expr} {oa : Opd} {pos : Pos} (ho : UnR X (unaryOp op) r) (hg : Op1 X.K r g) (ha : VO X a oa) : VE X (.UnaryOp op a pos) (fOp1 g oa) :=
  VE.of (pe_un ho ha) fun _ _ _ _ q => tE_op1 hg q

/-! ### any number of operands -/
def evalOs : List Opd → Rho → Option (List Pk × Rho)
  | [], ρ => some ([], ρ)
  | o :: os, ρ => do
    let (pk, ρ1) ← evalO o ρ
    let (pks, ρ2) ← evalOs os ρ1
    pure (pk :: pks, ρ2)
def looks (ρ : Rho) : List Pk → Option (List D)
  | [] => some []
  | pk :: pks => do
    let d ← look pk ρ
    let ds ← looks ρ pks
    pure (d :: ds)
inductive PkL (K : PySem.W.Frag) (F : Hp) (σ : L2.St) : List V → List Pk → Prop
  | nil : PkL K F σ [] []
  | cons {v : V} {vs : List V} {pk : Pk} {pks : List Pk} : PkOk K F σ v pk → PkL K F σ vs pks → PkL K F σ (v :: vs) (pk :: pks)
theorem PkL.mono {K : PySem.W.Frag} {F F' : Hp} {σ : L2.St} (e : Le F F') : ∀ {vs : List V} {pks : List Pk}, PkL K F σ vs pks → PkL K F' σ vs pks
  | _, _, .nil => .nil
  | _, _, .cons h t => .cons (h.mono e) (t.mono e)
theorem PkL.vw {K : PySem.W.Frag} {F H : Hp} {ρ : Rho} {σ : L2.St} (R : Rel K F ρ σ H) : ∀ {vs : List V} {pks : List Pk} {ds : List D}, PkL K F σ vs pks → looks ρ pks = some ds → VwL K F H vs ds
  | _, _, _, .nil, e => by cases e; exact .nil
  | _, _, _, .cons h t, e => by
    obtain ⟨d, e1, e⟩ := bind_some e
    obtain ⟨ds, e2, e⟩ := bind_some e
    cases e
    exact .cons (h.vw R e1) (t.vw R e2)
def tA (K : PySem.W.Frag) (os : List Opd) : TA := fun σ H Q => ∃ F ρ pks ρ', Rel K F ρ σ H ∧ evalOs os ρ = some (pks, ρ') ∧ ∀ vs F' H', Rel K F' ρ' σ H' → StpE F ρ σ H F' ρ' H' → PkL K F' σ vs pks → Q vs H'
abbrev VA (X : Cx) (es : List Expr) (os : List Opd) : Prop := PA X es (tA X.K os)
theorem PA.of {X : Cx} {es : List Expr} {t t' : TA} (h : PA X es t) (q : ∀ σ H Q, t' σ H Q → t σ H Q) : PA X es t' := ⟨fun pos pins s σ H Q I w => h.run pos pins s σ H Q I (q σ H Q w)⟩
theorem va_nil {X : Cx} : VA X [] [] := PA.of pa_nil fun σ H Q ⟨F, ρ, pks, ρ', R, e, post⟩ => by
  cases e
  exact post [] F H R .refl .nil
theorem va_cons {X : Cx} {e : Expr} {es : List Expr} {o : Opd} {os : List Opd} (ha : VO X e o) (hr : VA X es os) (hs : starEach (e :: es) X.env = (false, eval e X.env) :: starEach es X.env := by rfl) : VA X (e :: es) (o :: os) :=
  PA.of (pa_cons ha hr hs) fun σ H Q ⟨F, ρ, pks, ρ', R, e, post⟩ => by
    obtain ⟨⟨pa, ρ1⟩, e1, e⟩ := bind_some e
    obtain ⟨⟨pb, ρ2⟩, e2, e⟩ := bind_some e
    cases e
    exact ⟨F, ρ, pa, ρ1, R, e1, fun x F1 H1 R1 S1 P1 => ⟨F1, ρ1, pb, ρ', R1, e2, fun vs F2 H2 R2 S2 P2 => post (x :: vs) F2 H2 R2 (S1.trans S2) (.cons (P1.mono S2.stp.le) P2)⟩⟩
def fOpN (g : List D → Option Sl) (os : List Opd) : ME := fun ρ => do
  let (pks, ρ1) ← evalOs os ρ
  let ds ← looks ρ1 pks
  let r ← g ds
  pure (r, ρ1)
def OpN (K : PySem.W.Frag) (r : List V → Hp → VK → Prop) (g : List D → Option Sl) : Prop := ∀ (F H : Hp) (vs : List V) (ds : List D) (s : Sl) (Q : VK), Le F H → VwL K F H vs ds → g ds = some s → (∀ v F' H', New K F H F' H' v s → Q v H') → r vs H Q
theorem tE_opN {K : PySem.W.Frag} {r : List V → Hp → VK → Prop} {g : List D → Option Sl} {os : List Opd} {σ : L2.St} {H : Hp} {Q : VK} (hg : OpN K r g) (h : tE K (fOpN g os) σ H Q) : tA K os σ H fun vs H1 => r vs H1 Q := by
  obtain ⟨F, ρ, s, ρ2, R, e, post⟩ := h
  obtain ⟨⟨pa, ρ1⟩, e1, e⟩ := bind_some e
  obtain ⟨d, e3, e⟩ := bind_some e
  obtain ⟨s', e5, e⟩ := bind_some e
  cases e
  refine ⟨F, ρ, pa, ρ2, R, e1, fun x F1 H1 R1 S1 P1 => ?_⟩
  refine hg F1 H1 x d s _ R1.le (P1.vw R1 e3) e5 fun v F3 H3 N => ?_
  obtain ⟨R3, S3, q⟩ := after_ops R1 S1 N
  exact post v F3 H3 R3 S3 q
theorem ve_callB {X : Cx} {id : String} {x : Str} {r : List V → Hp → VK → Prop} {g : List D → Option Sl} {e : Expr} {es : List Expr} {os : List Opd} {p pos : Pos} (hc : CallR X (.builtin id) r) (hg' : OpN X.K r g) (hg : Gl X x) (hm : X.mg x = none) (hv : bootBuiltins x = some (.builtin id)) (ha : VA X (e :: es) os)
    (hn : x ≠ "__name__" := by decide) (hdb : (x == ("__debug__" : Str)) = false := by decide) (he : starEach (e :: es) X.env = (false, eval e X.env) :: starEach es X.env := by rfl) (hpl : (backTo pos (starEach es X.env)).any (·.1) = false := by rfl) : VE X (.Call (.Name x p) (e :: es) [] pos) (fOpN g os) :=
  VE.of (pe_callB hc hg hm hv ha hn hdb he hpl) fun _ _ _ _ q => tE_opN hg' q
theorem ve_callTy {X : Cx} {T : String} {x : Str} {r : List V → Hp → VK → Prop} {g : List D → Option Sl} {e : Expr} {es : List Expr} {os : List Opd} {p pos : Pos} (hc : CallR X (.type T) r) (hg' : OpN X.K r g) (hg : Gl X x) (hm : X.mg x = none) (hv : bootBuiltins x = some (.type T)) (ha : VA X (e :: es) os)
    (hn : x ≠ "__name__" := by decide) (hdb : (x == ("__debug__" : Str)) = false := by decide) (he : starEach (e :: es) X.env = (false, eval e X.env) :: starEach es X.env := by rfl) (hpl : (backTo pos (starEach es X.env)).any (·.1) = false := by rfl) : VE X (.Call (.Name x p) (e :: es) [] pos) (fOpN g os) :=
  VE.of (pe_callTy hc hg hm hv ha hn hdb he hpl) fun _ _ _ _ q => tE_opN hg' q
/-! ### displays keep what is in them: their items are frozen -/
def evalZ : List ME → Rho → Option (List D × Rho)
  | [], ρ => some ([], ρ)
  | f :: fs, ρ => do
    let (r, ρ1) ← f ρ
    let (ds, ρ2) ← evalZ fs ρ1
    pure (r.d :: ds, ρ2)
def tZ (K : PySem.W.Frag) (fs : List ME) : TA := fun σ H Q => ∃ F ρ ds ρ', Rel K F ρ σ H ∧ evalZ fs ρ = some (ds, ρ') ∧ ∀ vs F' H', Rel K F' ρ' σ H' → StpE F ρ σ H F' ρ' H' → RepL K F' vs ds → Q vs H'
abbrev VZ (X : Cx) (es : List Expr) (fs : List ME) : Prop := PA X es (tZ X.K fs)
theorem vz_nil {X : Cx} : VZ X [] [] := PA.of pa_nil fun σ H Q ⟨F, ρ, pks, ρ', R, e, post⟩ => by
  cases e
  exact post [] F H R .refl .nil
theorem vz_cons {X : Cx} {e : Expr} {es : List Expr} {f : ME} {fs : List ME} (ha : VE X e f) (hr : VZ X es fs) (hs : starEach (e :: es) X.env = (false, eval e X.env) :: starEach es X.env := by rfl) : VZ X (e :: es) (f :: fs) :=
  PA.of (pa_cons ha hr hs) fun σ H Q ⟨F, ρ, pks, ρ', R, e, post⟩ => by
    obtain ⟨⟨r, ρ1⟩, e1, e⟩ := bind_some e
    obtain ⟨⟨pb, ρ2⟩, e2, e⟩ := bind_some e
    cases e
    refine ⟨F, ρ, r, ρ1, R, e1, fun x F1 H1 R1 S1 P1 => ?_⟩
    obtain ⟨F1', R1', S1', P1'⟩ := P1.frozen R R1 S1
    exact ⟨F1', ρ1, pb, ρ', R1', e2, fun vs F2 H2 R2 S2 P2 => post (x :: vs) F2 H2 R2 (S1'.trans S2) (.cons (P1'.mono S2.stp.le) P2)⟩
def fDisp (g : List D → Option Sl) (fs : List ME) : ME := fun ρ => do
  let (ds, ρ1) ← evalZ fs ρ
  let r ← g ds
  pure (r, ρ1)
def OpZ (K : PySem.W.Frag) (r : List V → Hp → VK → Prop) (g : List D → Option Sl) : Prop := ∀ (F H : Hp) (vs : List V) (ds : List D) (s : Sl) (Q : VK), Le F H → RepL K F vs ds → g ds = some s → (∀ v F' H', New K F H F' H' v s → Q v H') → r vs H Q
theorem tE_disp {K : PySem.W.Frag} {r : List V → Hp → VK → Prop} {g : List D → Option Sl} {fs : List ME} {σ : L2.St} {H : Hp} {Q : VK} (hg : OpZ K r g) (h : tE K (fDisp g fs) σ H Q) : tZ K fs σ H fun vs H1 => r vs H1 Q := by
  obtain ⟨F, ρ, s, ρ2, R, e, post⟩ := h
  obtain ⟨⟨pa, ρ1⟩, e1, e⟩ := bind_some e
  obtain ⟨s', e5, e⟩ := bind_some e
  cases e
  refine ⟨F, ρ, pa, ρ2, R, e1, fun x F1 H1 R1 S1 P1 => ?_⟩
  refine hg F1 H1 x pa s _ R1.le P1 e5 fun v F3 H3 N => ?_
  obtain ⟨R3, S3, q⟩ := after_ops R1 S1 N
  exact post v F3 H3 R3 S3 q
def gTup (ds : List D) : Option Sl := if ds.length ≤ sizeLine then some ⟨.fz, .tup ds⟩ else none
def gLst (ds : List D) : Option Sl := if ds.length ≤ sizeLine then some ⟨.own, .lst ds⟩ else none
theorem ve_tup {X : Cx} {es : List Expr} {fs : List ME} {x1 : Nat} {pos : Pos} (h : VZ X es fs) : VE X (.Tuple es x1 pos) (fDisp gTup fs) :=
  VE.of (pe_tup h) fun σ H Q _ q => tE_disp (r := fun xs H1 Q => xs.length ≤ sizeLine ∧ ∀ p, H1 p = none → Q (.ref p) (upd H1 p (.tup xs))) (fun F H vs ds s Q le rp e k => by
    unfold gTup at e
    split at e
    · rename_i hl
      cases e
      exact ⟨by rw [rp.length]; exact hl, fun p hp => k _ _ _ (New.tup le hp rp)⟩
    · cases e) q
theorem ve_lst {X : Cx} {es : List Expr} {fs : List ME} {pos : Pos} (h : VZ X es fs) : VE X (.List es pos) (fDisp gLst fs) :=
  VE.of (pe_lst h) fun σ H Q _ q => tE_disp (r := fun xs H1 Q => xs.length ≤ sizeLine ∧ ∀ p, H1 p = none → Q (.ref p) (upd H1 p (.lst xs))) (fun F H vs ds s Q le rp e k => by
    unfold gLst at e
    split at e
    · rename_i hl
      cases e
      exact ⟨by rw [rp.length]; exact hl, fun p hp => k _ _ _ (New.lst le hp rp)⟩
    · cases e) q

/-! ### tests -/
abbrev MT := Rho → Option (Bool × Rho)
def tT (K : PySem.W.Frag) (f : MT) : TT := fun σ H Q => ∃ F ρ b ρ', Rel K F ρ σ H ∧ f ρ = some (b, ρ') ∧ ∀ F' H', Rel K F' ρ' σ H' → StpE F ρ σ H F' ρ' H' → Q b H'
abbrev VT (X : Cx) (e : Expr) (f : MT) : Prop := PT X e (tT X.K f)
abbrev VW (X : Cx) (e : Expr) (f : MT) : Prop := PW X e (tT X.K f)
theorem PT.of {X : Cx} {e : Expr} {t t' : TT} (h : PT X e t) (q : ∀ σ H Q, t' σ H Q → t σ H Q) : PT X e t' := ⟨fun pins s σ H Q I w => h.run pins s σ H Q I (q σ H Q w)⟩
theorem PW.of {X : Cx} {e : Expr} {t t' : TT} (h : PW X e t) (q : ∀ σ H Q, t' σ H Q → t σ H Q) : PW X e t' := ⟨fun wh pins s σ H Q I w => h.run wh pins s σ H Q I (q σ H Q w)⟩
def fT (f : ME) : MT := fun ρ => match f ρ with
  | some (⟨.fz, .bl b⟩, ρ') => some (b, ρ')
  | _ => none
theorem tT_of {K : PySem.W.Frag} {f : ME} {σ : L2.St} {H : Hp} {Q : Bool → Hp → Prop} (h : tT K (fT f) σ H Q) : tE K f σ H fun x H' => ∃ k, x = .bl k ∧ Q k H' := by
  obtain ⟨F, ρ, b, ρ', R, e, post⟩ := h
  unfold fT at e
  split at e
  · rename_i b' ρ1 hr
    cases e
    refine ⟨F, ρ, _, _, R, hr, fun v F1 H1 R1 S1 res => ?_⟩
    have q : Rep K F1 v (.bl b) := res
    cases q
    exact ⟨b, rfl, post F1 H1 R1 S1⟩
  · cases e
theorem vt_val {X : Cx} {e : Expr} {f : ME} (h : VE X e f) (he : ∀ whole, isTrue e X.env whole = (do let v ← whole; standAt e.pos; holding [v] (truthy v)) := by intro _; rfl) : VT X e (fT f) :=
  PT.of (pt_val h he) fun _ _ _ q => tT_of q
theorem vt_cmp {X : Cx} {op : CmpOp} {r : R2} {g : D → D → Option Sl} {a b : Expr} {oa ob : Opd} {pos : Pos} (ho : OpR X (compareOp op) r) (hg : Op2 X.K r g) (ha : VO X a oa) (hb : VO X b ob) (hm : behindInMarks op b = false) : VT X (.Compare a [op] [b] pos) (fT (fOp2 g oa ob)) :=
  PT.of (pt_cmpR ho ha hb hm) fun _ _ _ q => tE_op2 hg (tT_of q)
def fAnd (f g : MT) : MT := fun ρ => match f ρ with
  | some (true, ρ1) => g ρ1
  | some (false, ρ1) => some (false, ρ1)
  | none => none
def fOr (f g : MT) : MT := fun ρ => match f ρ with
  | some (true, ρ1) => some (true, ρ1)
  | some (false, ρ1) => g ρ1
  | none => none
def fNot (f : MT) : MT := fun ρ => match f ρ with
  | some (b, ρ1) => some (!b, ρ1)
  | none => none
section
variable {X : Cx} {a b : Expr} {rest : List Expr} {pos : Pos} {f g : MT}
theorem vw_and1 (ha : VT X a f) : VW X (.BoolOp .And [a] pos) f := pw_and1 ha
theorem vw_or1 (ha : VT X a f) : VW X (.BoolOp .Or [a] pos) f := pw_or1 ha
theorem vw_and (ha : VT X a f) (hb : VW X (.BoolOp .And (b :: rest) pos) g) : VW X (.BoolOp .And (a :: b :: rest) pos) (fAnd f g) :=
  PW.of (pw_and ha hb) fun σ H Q ⟨F, ρ, b, ρ', R, e, post⟩ => by
    unfold fAnd at e
    split at e
    · rename_i ρ1 h1
      exact ⟨F, ρ, true, ρ1, R, h1, fun F1 H1 R1 S1 => by refine iteT ?_; exact ⟨F1, ρ1, b, ρ', R1, e, fun F2 H2 R2 S2 => post F2 H2 R2 (S1.trans S2)⟩⟩
    · rename_i ρ1 h1
      cases e
      exact ⟨F, ρ, false, _, R, h1, fun F1 H1 R1 S1 => by refine iteF ?_; exact post F1 H1 R1 S1⟩
    · cases e
theorem vw_or (ha : VT X a f) (hb : VW X (.BoolOp .Or (b :: rest) pos) g) : VW X (.BoolOp .Or (a :: b :: rest) pos) (fOr f g) :=
  PW.of (pw_or ha hb) fun σ H Q ⟨F, ρ, b, ρ', R, e, post⟩ => by
    unfold fOr at e
    split at e
    · rename_i ρ1 h1
      cases e
      exact ⟨F, ρ, true, _, R, h1, fun F1 H1 R1 S1 => by refine iteT ?_; exact post F1 H1 R1 S1⟩
    · rename_i ρ1 h1
      exact ⟨F, ρ, false, ρ1, R, h1, fun F1 H1 R1 S1 => by refine iteF ?_; exact ⟨F1, ρ1, b, ρ', R1, e, fun F2 H2 R2 S2 => post F2 H2 R2 (S1.trans S2)⟩⟩
    · cases e
theorem vt_not (ha : VT X a f) : VT X (.UnaryOp .Not a pos) (fNot f) :=
  PT.of (pt_not ha) fun σ H Q ⟨F, ρ, b, ρ', R, e, post⟩ => by
    unfold fNot at e
    split at e
    · rename_i b1 ρ1 h1
      cases e
      exact ⟨F, ρ, b1, _, R, h1, post⟩
    · cases e
/-- .. as values -/
def fAndV (f g : ME) : ME := fun ρ => match f ρ with
  | some (⟨.fz, .bl true⟩, ρ1) => g ρ1
  | some (⟨.fz, .bl false⟩, ρ1) => some (⟨.fz, .bl false⟩, ρ1)
  | _ => none
def fOrV (f g : ME) : ME := fun ρ => match f ρ with
  | some (⟨.fz, .bl true⟩, ρ1) => some (⟨.fz, .bl true⟩, ρ1)
  | some (⟨.fz, .bl false⟩, ρ1) => g ρ1
  | _ => none
/-- what comes of a second expression, seen from ahead of the first -/
theorem Res.back {K : PySem.W.Frag} {F0 F1 F2 H0 H1 H2 : Hp} {ρ0 ρ1 : Rho} {σ : L2.St} {v : V} {r : Sl} (S : StpE F0 ρ0 σ H0 F1 ρ1 H1) (h : Res K F2 H1 H2 v r) : Res K F2 H0 H2 v r := by
  rcases h.own_or with ⟨m, q⟩ | ⟨m, p, rfl, hp, fp, q⟩
  · unfold Res; rw [m]; exact q
  · unfold Res; rw [m]
    refine ⟨p, rfl, ?_, fp, q⟩
    cases z : H0 p with
    | none => rfl
    | some u => obtain ⟨o1, z1⟩ := S.stp.there p u z; rw [z1] at hp; cases hp
theorem ve_one {op} {f : ME} (h : VE X a f) : VE X (.BoolOp op [a] pos) f := pe_one h
theorem ve_and {f g : ME} (ha : VE X a f) (hb : VE X (.BoolOp .And (b :: rest) pos) g) : VE X (.BoolOp .And (a :: b :: rest) pos) (fAndV f g) :=
  VE.of (pe_and ha hb) fun σ H Q _ ⟨F, ρ, b, ρ', R, e, post⟩ => by
    unfold fAndV at e
    split at e
    · rename_i ρ1 h1
      refine ⟨F, ρ, _, ρ1, R, h1, fun v F1 H1 R1 S1 res => ?_⟩
      have q : Rep X.K F1 v (.bl true) := res
      cases q
      exact ⟨true, rfl, by refine iteT ?_; exact ⟨F1, ρ1, b, ρ', R1, e, fun v F2 H2 R2 S2 res2 => post v F2 H2 R2 (S1.trans S2) (res2.back S1)⟩⟩
    · rename_i ρ1 h1
      cases e
      refine ⟨F, ρ, _, _, R, h1, fun v F1 H1 R1 S1 res => ?_⟩
      have q : Rep X.K F1 v (.bl false) := res
      cases q
      exact ⟨false, rfl, by refine iteF ?_; exact post _ F1 H1 R1 S1 res⟩
    · cases e
theorem ve_or {f g : ME} (ha : VE X a f) (hb : VE X (.BoolOp .Or (b :: rest) pos) g) : VE X (.BoolOp .Or (a :: b :: rest) pos) (fOrV f g) :=
  VE.of (pe_or ha hb) fun σ H Q _ ⟨F, ρ, b, ρ', R, e, post⟩ => by
    unfold fOrV at e
    split at e
    · rename_i ρ1 h1
      cases e
      refine ⟨F, ρ, _, _, R, h1, fun v F1 H1 R1 S1 res => ?_⟩
      have q : Rep X.K F1 v (.bl true) := res
      cases q
      exact ⟨true, rfl, by refine iteT ?_; exact post _ F1 H1 R1 S1 res⟩
    · rename_i ρ1 h1
      refine ⟨F, ρ, _, ρ1, R, h1, fun v F1 H1 R1 S1 res => ?_⟩
      have q : Rep X.K F1 v (.bl false) := res
      cases q
      exact ⟨false, rfl, by refine iteF ?_; exact ⟨F1, ρ1, b, ρ', R1, e, fun v F2 H2 R2 S2 res2 => post v F2 H2 R2 (S1.trans S2) (res2.back S1)⟩⟩
    · cases e
def fNotV (f : ME) : ME := fun ρ => match f ρ with
  | some (⟨.fz, .bl b⟩, ρ1) => some (⟨.fz, .bl (!b)⟩, ρ1)
  | _ => none
theorem ve_not {f : ME} (ha : VE X a f) : VE X (.UnaryOp .Not a pos) (fNotV f) :=
  VE.of (pe_not ha) fun σ H Q _ ⟨F, ρ, b, ρ', R, e, post⟩ => by
    unfold fNotV at e
    split at e
    · rename_i b1 ρ1 h1
      cases e
      refine ⟨F, ρ, _, _, R, h1, fun v F1 H1 R1 S1 res => ?_⟩
      have q : Rep X.K F1 v (.bl b1) := res
      cases q
      exact ⟨b1, rfl, post _ F1 H1 R1 S1 (Rep.bl (!b1))⟩
    · cases e
def fIf (t : MT) (f g : ME) : ME := fun ρ => match t ρ with
  | some (true, ρ1) => f ρ1
  | some (false, ρ1) => g ρ1
  | none => none
theorem ve_if {c : Expr} {t : MT} {f g : ME} (hc : VT X c t) (ha : VE X a f) (hb : VE X b g) : VE X (.IfExp c a b pos) (fIf t f g) :=
  VE.of (pe_ifExp hc ha hb) fun σ H Q _ ⟨F, ρ, r, ρ', R, e, post⟩ => by
    unfold fIf at e
    split at e
    · rename_i ρ1 h1
      exact ⟨F, ρ, _, ρ1, R, h1, fun F1 H1 R1 S1 => by refine iteT ?_; exact ⟨F1, ρ1, r, ρ', R1, e, fun v F2 H2 R2 S2 res2 => post v F2 H2 R2 (S1.trans S2) (res2.back S1)⟩⟩
    · rename_i ρ1 h1
      exact ⟨F, ρ, _, ρ1, R, h1, fun F1 H1 R1 S1 => by refine iteF ?_; exact ⟨F1, ρ1, r, ρ', R1, e, fun v F2 H2 R2 S2 res2 => post v F2 H2 R2 (S1.trans S2) (res2.back S1)⟩⟩
    · cases e
end
end VI

namespace VI
open PySem PySem.Spec PyProof.Rows L2

/-! ### statements -/
inductive Fl where | nx | bk | ct | rt (r : Sl)
abbrev MS := Rho → Option (Fl × Rho)
/-- what is handed back: data, or an object of one's own -/
def ResR (K : PySem.W.Frag) (ρ : Rho) (σ : L2.St) (H F' H' : Hp) (v : V) (r : Sl) : Prop :=
  match r.m with
  | .fz => Rep K F' v r.d
  | .own => ∃ p, v = .ref p ∧ (OwnO ρ σ p ∨ H p = none) ∧ F' p = none ∧ OwnAt K F' H' p r.d
  | _ => False
theorem ResR.own_or {K : PySem.W.Frag} {ρ : Rho} {σ : L2.St} {H F' H' : Hp} {v : V} {r : Sl} (h : ResR K ρ σ H F' H' v r) : (r.m = .fz ∧ Rep K F' v r.d) ∨ (r.m = .own ∧ ∃ p, v = .ref p ∧ (OwnO ρ σ p ∨ H p = none) ∧ F' p = none ∧ OwnAt K F' H' p r.d) := by
  unfold ResR at h
  cases q : r.m with
  | fz => rw [q] at h; exact .inl ⟨rfl, h⟩
  | own => rw [q] at h; exact .inr ⟨rfl, h⟩
  | par => rw [q] at h; exact h.elim
  | lent => rw [q] at h; exact h.elim
theorem none_back {F F' H H' : Hp} {ρ ρ' : Rho} {σ σ' : L2.St} (S : Stp F ρ σ H F' ρ' σ' H') {p : Addr} (h : H' p = none) : H p = none := by
  cases z : H p with
  | none => rfl
  | some u => obtain ⟨o, e⟩ := S.there p u z; rw [e] at h; cases h
theorem ResR.back {K : PySem.W.Frag} {F F1 F2 H H1 H2 : Hp} {ρ ρ1 : Rho} {σ σ1 : L2.St} {v : V} {r : Sl} (S : Stp F ρ σ H F1 ρ1 σ1 H1) (h : ResR K ρ1 σ1 H1 F2 H2 v r) : ResR K ρ σ H F2 H2 v r := by
  rcases h.own_or with ⟨m, q⟩ | ⟨m, p, rfl, hp, fp, q⟩
  · unfold ResR; rw [m]; exact q
  · unfold ResR; rw [m]
    refine ⟨p, rfl, ?_, fp, q⟩
    rcases hp with hp | hp
    · exact S.ownO p hp
    · exact .inr (none_back S hp)
theorem Res.toR {K : PySem.W.Frag} {H F' H' : Hp} {ρ : Rho} {σ : L2.St} {v : V} {r : Sl} (h : Res K F' H H' v r) : ResR K ρ σ H F' H' v r := by
  rcases h.own_or with ⟨m, q⟩ | ⟨m, p, rfl, hp, fp, q⟩
  · unfold ResR; rw [m]; exact q
  · unfold ResR; rw [m]; exact ⟨p, rfl, .inr hp, fp, q⟩

def EndOk (K : PySem.W.Frag) (D : Ends) (ρ : Rho) (σ : L2.St) (H : Hp) (F' : Hp) (σ' : L2.St) (H' : Hp) : Fl → Prop
  | .nx => D.nx σ' H'
  | .bk => D.bk σ' H'
  | .ct => D.ct σ' H'
  | .rt r => ∀ v, ResR K ρ σ H F' H' v r → D.rt v H'
def tS (K : PySem.W.Frag) (g : MS) : TS := fun D σ H => ∃ F ρ fl ρ', Rel K F ρ σ H ∧ g ρ = some (fl, ρ') ∧ ∀ F' σ' H', Rel K F' ρ' σ' H' → Stp F ρ σ H F' ρ' σ' H' → EndOk K D ρ σ H F' σ' H' fl
abbrev VS (X : Cx) (st : Stmt) (g : MS) : Prop := PS X st (tS X.K g)
abbrev VB (X : Cx) (sts : List Stmt) (g : MS) : Prop := PSs X sts (tS X.K g)
theorem PS.of {X : Cx} {st : Stmt} {t t' : TS} (h : PS X st t) (q : ∀ D σ H, σ.length = X.N.length → t' D σ H → t D σ H) : PS X st t' := ⟨fun pins s σ H D I w => h.run pins s σ H D I (q D σ H I.len w)⟩
theorem PSs.of {X : Cx} {st : List Stmt} {t t' : TS} (h : PSs X st t) (q : ∀ D σ H, σ.length = X.N.length → t' D σ H → t D σ H) : PSs X st t' := ⟨fun pins s σ H D I w => h.run pins s σ H D I (q D σ H I.len w)⟩

def fNext : MS := fun ρ => some (.nx, ρ)
def fSeq (g h : MS) : MS := fun ρ => match g ρ with
  | some (.nx, ρ1) => h ρ1
  | x => x
section
variable {X : Cx} {st : Stmt} {rest : List Stmt} {g h : MS} {pos : Pos}
theorem vb_nil : VB X [] fNext := PSs.of pss_nil fun D σ H _ ⟨F, ρ, fl, ρ', R, e, post⟩ => by
  cases e
  exact post F σ H R .refl
theorem vb_one (h1 : VS X st g) : VB X [st] g := pss_one h1
theorem EndOk.back {K : PySem.W.Frag} {D : Ends} {F F1 F2 H H1 H2 : Hp} {ρ ρ1 : Rho} {σ σ1 σ2 : L2.St} {fl : Fl} (S : Stp F ρ σ H F1 ρ1 σ1 H1) (h : EndOk K D ρ σ H F2 σ2 H2 fl) : EndOk K D ρ1 σ1 H1 F2 σ2 H2 fl := by
  cases fl with
  | rt r => exact fun v q => h v (q.back S)
  | nx => exact h
  | bk => exact h
  | ct => exact h
theorem vb_cons (h1 : VS X st g) (h2 : VB X rest h) : VB X (st :: rest) (fSeq g h) :=
  PSs.of (pss_cons h1 h2) fun D σ H _ ⟨F, ρ, fl, ρ', R, e, post⟩ => by
    unfold fSeq at e
    split at e
    · rename_i ρ1 he
      exact ⟨F, ρ, .nx, ρ1, R, he, fun F1 σ1 H1 R1 S1 => ⟨F1, ρ1, fl, ρ', R1, e, fun F2 σ2 H2 R2 S2 => (post F2 σ2 H2 R2 (S1.trans S2)).back S1⟩⟩
    · rename_i y hne
      refine ⟨F, ρ, fl, ρ', R, e, fun F1 σ1 H1 R1 S1 => ?_⟩
      have q := post F1 σ1 H1 R1 S1
      cases fl with
      | nx => exact absurd e (hne ρ')
      | rt r => exact q
      | bk => exact q
      | ct => exact q
theorem vs_pass : VS X (.Pass pos) fNext := PS.of ps_pass fun D σ H _ ⟨F, ρ, fl, ρ', R, e, post⟩ => by
  cases e
  exact post F σ H R .refl
theorem vs_break : VS X (.Break pos) (fun ρ => some (.bk, ρ)) := PS.of ps_break fun D σ H _ ⟨F, ρ, fl, ρ', R, e, post⟩ => by
  cases e
  exact post F σ H R .refl
theorem vs_continue : VS X (.Continue pos) (fun ρ => some (.ct, ρ)) := PS.of ps_continue fun D σ H _ ⟨F, ρ, fl, ρ', R, e, post⟩ => by
  cases e
  exact post F σ H R .refl
/-- code that is not come to -/
def fNever : MS := fun _ => none
theorem vs_never : VS X st fNever := PS.of ps_never fun D σ H _ ⟨F, ρ, fl, ρ', R, e, post⟩ => by cases e
def fExpr (f : ME) : MS := fun ρ => match f ρ with
  | some (_, ρ1) => some (.nx, ρ1)
  | none => none
theorem vs_expr {e : Expr} {f : ME} (he : VE X e f) (hs : swapsWith e none pos.line X.env = pure false := by rfl) : VS X (.Expr e pos) (fExpr f) :=
  PS.of (ps_expr he hs) fun D σ H _ ⟨F, ρ, fl, ρ', R, e, post⟩ => by
    unfold fExpr at e
    split at e
    · rename_i r ρ1 hr
      cases e
      exact ⟨F, ρ, r, _, R, hr, fun v F1 H1 R1 S1 _ => post F1 σ H1 R1 S1.stp⟩
    · cases e
def fRet (f : ME) : MS := fun ρ => match f ρ with
  | some (r, ρ1) => some (.rt r, ρ1)
  | none => none
theorem vs_ret {e : Expr} {f : ME} (he : VE X e f) : VS X (.Return (some e) pos) (fRet f) :=
  PS.of (ps_ret he) fun D σ H _ ⟨F, ρ, fl, ρ', R, e, post⟩ => by
    unfold fRet at e
    split at e
    · rename_i r ρ1 hr
      cases e
      exact ⟨F, ρ, r, _, R, hr, fun v F1 H1 R1 S1 res => post F1 σ H1 R1 S1.stp v res.toR⟩
    · cases e
def fRet0 : MS := fun ρ => some (.rt ⟨.fz, .non⟩, ρ)
theorem vs_ret0 : VS X (.Return none pos) fRet0 := PS.of ps_retN fun D σ H _ ⟨F, ρ, fl, ρ', R, e, post⟩ => by
  cases e
  exact post F σ H R .refl .non Rep.non
theorem Rel.drop {K : PySem.W.Frag} {F H : Hp} {ρ : Rho} {σ : L2.St} (R : Rel K F ρ σ H) (i : Nat) : Rel K F (ρ.set i none) σ H := by
  refine ⟨R.le, by rw [List.length_set]; exact R.len, fun j s e => ?_, fun j k s t p h1 h2 => ?_⟩
  · rcases getElem?_set' e with ⟨_, h⟩ | ⟨_, h⟩
    · cases h
    · exact R.at_ j s h
  · rcases getElem?_set' h1 with ⟨_, h⟩ | ⟨_, h1⟩
    · cases h
    · rcases getElem?_set' h2 with ⟨_, h⟩ | ⟨_, h2⟩
      · cases h
      · exact R.ne j k s t p h1 h2
/-- a local of one's own is handed back -/
def fRetN (i : Nat) : MS := fun ρ => match ρ[i]? with
  | some (some ⟨.fz, d⟩) => some (.rt ⟨.fz, d⟩, ρ)
  | some (some ⟨.own, d⟩) => some (.rt ⟨.own, d⟩, ρ.set i none)
  | _ => none
theorem vs_retN (i : Nat) {x : Str} {p : Pos} (he : PE X (.Name x p) (tVar i)) : VS X (.Return (some (.Name x p)) pos) (fRetN i) :=
  PS.of (ps_ret he) fun D σ H _ ⟨F, ρ, fl, ρ', R, e, post⟩ => by
    unfold fRetN at e
    split at e
    · rename_i d hd
      cases e
      obtain ⟨v, hv, ok⟩ := R.at_ i _ hd
      exact ⟨v, hv, post F σ H R .refl v (ok.fz rfl)⟩
    · rename_i d hd
      cases e
      obtain ⟨v, hv, ok⟩ := R.at_ i _ hd
      obtain ⟨p, rfl, fp, oa⟩ := ok.nfz (by intro z; cases z)
      refine ⟨.ref p, hv, post F σ H (R.drop i) ⟨Le.refl F, fun _ _ h _ => h, fun _ o h => ⟨o, h⟩, fun _ o h => .inl ⟨o, h⟩, fun a h => .inl ?_, fun j m d' hm z => ?_, fun j m d' hm z => ?_⟩ _ ⟨p, rfl, .inl ⟨i, _, hd, rfl, hv⟩, fp, oa⟩⟩
      · obtain ⟨j, s, h1, h2⟩ := h
        rcases getElem?_set' h1 with ⟨_, h⟩ | ⟨_, h1⟩
        · cases h
        · exact ⟨j, s, h1, h2⟩
      · have ne : j ≠ i := fun h => by subst h; rw [hd] at z; cases z; exact hm
        rw [List.getElem?_set_ne (Ne.symm ne)]
        exact ⟨⟨d', z⟩, rfl⟩
      · rcases getElem?_set' z with ⟨_, h⟩ | ⟨_, h⟩
        · cases h
        · exact ⟨d', h⟩
    · cases e
def fIfS (t : MT) (g h : MS) : MS := fun ρ => match t ρ with
  | some (true, ρ1) => g ρ1
  | some (false, ρ1) => h ρ1
  | none => none
theorem vs_if {c : Expr} {a b : List Stmt} {t : MT} (hc : VT X c t) (ha : VB X a g) (hb : VB X b h) : VS X (.If c a b pos) (fIfS t g h) :=
  PS.of (ps_if hc ha hb) fun D σ H _ ⟨F, ρ, fl, ρ', R, e, post⟩ => by
    unfold fIfS at e
    split at e
    · rename_i ρ1 h1
      exact ⟨F, ρ, _, ρ1, R, h1, fun F1 H1 R1 S1 => by refine iteT ?_; exact ⟨F1, ρ1, fl, ρ', R1, e, fun F2 σ2 H2 R2 S2 => (post F2 σ2 H2 R2 (S1.stp.trans S2)).back S1.stp⟩⟩
    · rename_i ρ1 h1
      exact ⟨F, ρ, _, ρ1, R, h1, fun F1 H1 R1 S1 => by refine iteF ?_; exact ⟨F1, ρ1, fl, ρ', R1, e, fun F2 σ2 H2 R2 S2 => (post F2 σ2 H2 R2 (S1.stp.trans S2)).back S1.stp⟩⟩
    · cases e
end

/-! ### storing to a name -/
def free (ρ : Rho) (i : Nat) : Bool := match ρ[i]? with
  | some (some ⟨.par, _⟩) => false
  | some (some ⟨.lent, _⟩) => false
  | some _ => true
  | none => false
theorem free_lt {ρ : Rho} {i : Nat} (h : free ρ i = true) : i < ρ.length := by
  cases e : ρ[i]? with
  | none => unfold free at h; rw [e] at h; cases h
  | some x => exact (List.getElem?_eq_some_iff.mp e).1
theorem free_not {ρ : Rho} {i : Nat} (h : free ρ i = true) {m : Md} {d : D} (hm : m.fixed) (e : ρ[i]? = some (some ⟨m, d⟩)) : False := by
  unfold free at h
  rw [e] at h
  cases m with
  | fz => exact hm
  | own => exact hm
  | par => cases h
  | lent => cases h
theorem Rel.put {K : PySem.W.Frag} {F H : Hp} {ρ : Rho} {σ : L2.St} {i : Nat} {v : V} {r : Sl} (R : Rel K F ρ σ H) (hi : i < ρ.length) (ok : SlOk K F H v r)
    (hn : r.m ≠ .fz → ∀ p, v = .ref p → ∀ (j : Nat) (s : Sl), ρ[j]? = some (some s) → s.m ≠ .fz → σ[j]? ≠ some (some (.ref p))) : Rel K F (ρ.set i (some r)) (σ.set i (some v)) H := by
  have hi' : i < σ.length := by rw [← R.len]; exact hi
  refine ⟨R.le, by rw [List.length_set, List.length_set]; exact R.len, fun j s e => ?_, fun j k s t p h1 h2 m1 m2 h3 h4 => ?_⟩
  · rcases getElem?_set' e with ⟨rfl, h⟩ | ⟨ne, h⟩
    · cases h
      exact ⟨v, by rw [List.getElem?_set_self hi'], ok⟩
    · obtain ⟨w, hw, ok'⟩ := R.at_ j s h
      exact ⟨w, by rw [List.getElem?_set_ne (Ne.symm ne)]; exact hw, ok'⟩
  · rcases getElem?_set' h1 with ⟨rfl, h⟩ | ⟨n1, h1⟩
    · cases h
      rw [List.getElem?_set_self hi'] at h3
      rcases getElem?_set' h2 with ⟨rfl, h⟩ | ⟨n2, h2⟩
      · rfl
      · rw [List.getElem?_set_ne (Ne.symm n2)] at h4
        exact absurd h4 (hn m1 p (by simpa using h3) k t h2 m2)
    · rw [List.getElem?_set_ne (Ne.symm n1)] at h3
      rcases getElem?_set' h2 with ⟨e2, h⟩ | ⟨n2, h2⟩
      · cases h
        rw [e2, List.getElem?_set_self hi'] at h4
        exact absurd h3 (hn m2 p (by simpa using h4) j s h1 m1)
      · rw [List.getElem?_set_ne (Ne.symm n2)] at h4
        exact R.ne j k s t p h1 h2 m1 m2 h3 h4
/-- behind an expression, its value is stored -/
theorem Stp.put {K : PySem.W.Frag} {F F' H H' : Hp} {ρ ρ' : Rho} {σ : L2.St} {i : Nat} {v : V} {r : Sl} (R0 : Rel K F ρ σ H) (R : Rel K F' ρ' σ H') (S : StpE F ρ σ H F' ρ' H') (res : Res K F' H H' v r) (hf : free ρ' i = true) :
    Rel K F' (ρ'.set i (some r)) (σ.set i (some v)) H' ∧ Stp F ρ σ H F' (ρ'.set i (some r)) (σ.set i (some v)) H' := by
  have hi := free_lt hf
  have hi' : i < σ.length := by rw [← R.len]; exact hi
  have nfix : ¬ r.m.fixed := by
    rcases res.own_or with ⟨m, _⟩ | ⟨m, _⟩ <;> (rw [m]; exact id)
  refine ⟨R.put hi ?_ ?_, ⟨S.stp.le, S.stp.keep, S.stp.there, S.stp.newF, fun a h => ?_, fun j m d hm z => ?_, fun j m d hm z => ?_⟩⟩
  · rcases res.own_or with ⟨m, q⟩ | ⟨m, p, rfl, hp, fp, q⟩
    · exact .mk_fz m q
    · exact .mk_n (by rw [m]; intro z; cases z) fp q
  · intro nm p e
    rcases res.own_or with ⟨m, q⟩ | ⟨m, p', rfl, hp, fp, q⟩
    · exact absurd m nm
    · cases e
      exact fresh_ne R0 S hp
  · obtain ⟨j, s, h1, h2, h3⟩ := h
    rcases getElem?_set' h1 with ⟨rfl, h⟩ | ⟨n1, h1⟩
    · cases h
      rw [List.getElem?_set_self hi'] at h3
      rcases res.own_or with ⟨m, q⟩ | ⟨m, p', rfl, hp, fp, q⟩
      · rw [m] at h2; cases h2
      · cases h3
        exact .inr hp
    · rw [List.getElem?_set_ne (Ne.symm n1)] at h3
      exact S.stp.ownO a ⟨j, s, h1, h2, h3⟩
  · obtain ⟨⟨d', e⟩, e1⟩ := S.stp.fwd j m d hm z
    have ne : j ≠ i := fun h => by subst h; exact free_not hf hm e
    rw [List.getElem?_set_ne (Ne.symm ne), List.getElem?_set_ne (Ne.symm ne)]
    exact ⟨⟨d', e⟩, e1⟩
  · rcases getElem?_set' z with ⟨_, h⟩ | ⟨_, h⟩
    · cases h; exact absurd hm nfix
    · exact S.stp.bwd j m d hm h
def fAsg (i : Nat) (f : ME) : MS := fun ρ => match f ρ with
  | some (r, ρ1) => if free ρ1 i = true then some (.nx, ρ1.set i (some r)) else none
  | none => none
theorem tS_asg {K : PySem.W.Frag} {i : Nat} {f : ME} {D : Ends} {σ : L2.St} {H : Hp} (h : tS K (fAsg i f) D σ H) : tAsg (tE K f) (gName i) D σ H := by
  obtain ⟨F, ρ, fl, ρ', R, e, post⟩ := h
  unfold fAsg at e
  split at e
  · rename_i r ρ1 hr
    split at e
    · rename_i hf
      cases e
      refine ⟨F, ρ, r, ρ1, R, hr, fun v F1 H1 R1 S1 res => ?_⟩
      obtain ⟨R2, S2⟩ := Stp.put R R1 S1 res hf
      exact post F1 _ H1 R2 S2
    · cases e
  · cases e
theorem vs_asg {X : Cx} {i : Nat} {x : Str} {e : Expr} {f : ME} {pos' pos : Pos} (hN : X.N.Nodup) (hi : X.N[i]? = some x) (hx : Loc X.env.scope x) (he : VE X e f) (hs : swapsWith e (some (.Name x pos')) pos.line X.env = pure false := by rfl) (hf : X.fn x = true ∨ X.env.scope.names.lookup x = some .local := by first | exact .inl rfl | exact .inr rfl | assumption) :
    VS X (.Assign [.Name x pos'] e pos) (fAsg i f) := PS.of (ps_set hN hi hx he hs hf) fun _ _ _ _ q => tS_asg q

/-! ### targets of loops and of unpacking: data is bound -/
abbrev MG := D → Rho → Option Rho
def bindN (i : Nat) : MG := fun d ρ => if free ρ i = true then some (ρ.set i (some ⟨.fz, d⟩)) else none
def bindA : List Nat → List D → Rho → Option Rho
  | [], [], ρ => some ρ
  | i :: is, d :: ds, ρ => (bindN i d ρ).bind (bindA is ds)
  | _, _, _ => none
def bindT (is : List Nat) : MG := fun d ρ => match d with
  | .tup ds => bindA is ds ρ
  | _ => none
def tG (K : PySem.W.Frag) (is : List Nat) (b : MG) : TG := fun v σ H Q => ∃ F ρ d ρ', Rel K F ρ σ H ∧ Rep K F v d ∧ b d ρ = some ρ' ∧ ∀ σ', wipe σ' is = wipe σ is → Rel K F ρ' σ' H → Stp F ρ σ H F ρ' σ' H → Q σ' H
abbrev VG (X : Cx) (tg : Expr) (is : List Nat) (b : MG) : Prop := PG X tg (tG X.K is b)
theorem PG.of {X : Cx} {tg : Expr} {t t' : TG} (h : PG X tg t) (q : ∀ v σ H Q, t' v σ H Q → t v σ H Q) : PG X tg t' := ⟨fun pins s σ H v u Q I r w => h.run pins s σ H v u Q I r (q v σ H Q w)⟩
theorem wipe_set {σ : L2.St} {i : Nat} {x : Option V} : ∀ {is : List Nat}, i ∈ is → wipe (σ.set i x) is = wipe σ is
  | v :: vs, h => by
    unfold wipe
    by_cases e : i = v
    · subst e
      have aux : ∀ (ws : List Nat) (τ : L2.St), (wipe (τ.set i x) ws).set i none = (wipe τ ws).set i none := by
        intro ws
        induction ws with
        | nil => intro τ; unfold wipe; rw [List.set_set]
        | cons w ws ih =>
          intro τ
          unfold wipe
          by_cases ew : w = i
          · subst ew; rw [List.set_set, List.set_set]; exact ih τ
          · rw [List.set_comm _ _ ew, List.set_comm _ _ ew, ih τ]
      exact aux vs σ
    · have : i ∈ vs := by
        rcases List.mem_cons.mp h with h | h
        · exact absurd h e
        · exact h
      rw [wipe_set this]
theorem bindN_ok {K : PySem.W.Frag} {F H : Hp} {ρ ρ' : Rho} {σ : L2.St} {i : Nat} {v : V} {d : D} (R : Rel K F ρ σ H) (r : Rep K F v d) (e : bindN i d ρ = some ρ') : Rel K F ρ' (σ.set i (some v)) H ∧ Stp F ρ σ H F ρ' (σ.set i (some v)) H := by
  unfold bindN at e
  split at e
  · rename_i hf
    cases e
    exact Stp.put R R .refl (Res.fz r) hf
  · cases e
theorem vg_name {X : Cx} {i : Nat} {x : Str} {pos : Pos} (hN : X.N.Nodup) (hi : X.N[i]? = some x) (hx : Loc X.env.scope x) (hf : X.fn x = true ∨ X.env.scope.names.lookup x = some .local := by first | exact .inl rfl | exact .inr rfl | assumption) : VG X (.Name x pos) [i] (bindN i) :=
  PG.of (pg_name hN hi hx hf) fun v σ H Q ⟨F, ρ, d, ρ', R, r, e, post⟩ => by
    obtain ⟨R2, S2⟩ := bindN_ok R r e
    exact post _ (wipe_set (List.mem_singleton.mpr rfl)) R2 S2
/-- several names -/
def tGs (K : PySem.W.Frag) (is : List Nat) (b : List D → Rho → Option Rho) : TGs := fun vs σ H Q => ∃ F ρ ds ρ', Rel K F ρ σ H ∧ RepL K F vs ds ∧ b ds ρ = some ρ' ∧ ∀ σ', wipe σ' is = wipe σ is → Rel K F ρ' σ' H → Stp F ρ σ H F ρ' σ' H → Q σ' H
abbrev VGs (X : Cx) (ts : List Expr) (is : List Nat) (b : List D → Rho → Option Rho) : Prop := PGs X ts (tGs X.K is b)
theorem PGs.of {X : Cx} {tg : List Expr} {t t' : TGs} (h : PGs X tg t) (q : ∀ v σ H Q, t' v σ H Q → t v σ H Q) : PGs X tg t' := ⟨fun pins s σ H v u Q I r w => h.run pins s σ H v u Q I r (q v σ H Q w)⟩
theorem vgs_nil {X : Cx} : VGs X [] [] (bindA []) := PGs.of pgs_nil fun vs σ H Q ⟨F, ρ, ds, ρ', R, r, e, post⟩ => by
  cases r with
  | nil => cases e; exact ⟨rfl, post σ rfl R .refl⟩
  | cons _ _ => cases e
theorem wipe_sub {σ τ : L2.St} {i : Nat} {is : List Nat} (h : wipe σ is = wipe τ is) : wipe σ (i :: is) = wipe τ (i :: is) := by unfold wipe; rw [h]
theorem vgs_cons {X : Cx} {i : Nat} {is : List Nat} {x : Str} {pos : Pos} {es : List Expr} (hN : X.N.Nodup) (hi : X.N[i]? = some x) (hx : Loc X.env.scope x) (h2 : VGs X es is (bindA is))
    (hs : (assignEach (.Name x pos :: es) X.env).map (·.2) = assign (.Name x pos) X.env :: (assignEach es X.env).map (·.2) := by rfl) (hf : X.fn x = true ∨ X.env.scope.names.lookup x = some .local := by first | exact .inl rfl | exact .inr rfl | assumption) : VGs X (.Name x pos :: es) (i :: is) (bindA (i :: is)) :=
  PGs.of (pgs_cons (pg_name hN hi hx hf) h2 hs) fun vs σ H Q ⟨F, ρ, ds, ρ', R, r, e, post⟩ => by
    cases r with
    | nil => cases e
    | @cons v vs d ds r1 r2 =>
      obtain ⟨ρ1, e1, e2⟩ := Option.bind_eq_some_iff.mp (show (bindN i d ρ).bind (bindA is ds) = some ρ' from e)
      obtain ⟨R1, S1⟩ := bindN_ok R r1 e1
      exact ⟨v, vs, rfl, F, ρ1, ds, ρ', R1, r2, e2, fun σ' w R2 S2 => post σ' ((wipe_sub w).trans (wipe_set (List.mem_cons_self))) R2 (S1.trans S2)⟩
theorem bindA_len : ∀ {is : List Nat} {ds : List D} {ρ ρ' : Rho}, bindA is ds ρ = some ρ' → ds.length = is.length
  | [], [], _, _, _ => rfl
  | i :: is, d :: ds, ρ, ρ', h => by
    obtain ⟨ρ1, _, e2⟩ := Option.bind_eq_some_iff.mp (show (bindN i d ρ).bind (bindA is ds) = some ρ' from h)
    rw [List.length_cons, List.length_cons, bindA_len e2]
  | [], _ :: _, _, _, h => by cases h
  | _ :: _, [], _, _, h => by cases h
theorem vg_tup {X : Cx} {es : List Expr} {is : List Nat} {k : Nat} {pos : Pos} (hc : X.calm = true) (h : VGs X es is (bindA is)) (hn : (assignEach es X.env).length = is.length := by rfl) (hst : (assignEach es X.env).findIdx? (·.1) = none := by rfl) : VG X (.Tuple es k pos) is (bindT is) :=
  PG.of (pg_tup hc h hn hst) fun v σ H Q ⟨F, ρ, d, ρ', R, r, e, post⟩ => by
    cases r with
    | @tup a vs ds h1 h2 => exact ⟨a, vs, rfl, SqT.of (R.le _ _ h1), by rw [h2.length]; exact bindA_len e, F, ρ, ds, ρ', R, h2, e, post⟩
    | _ => cases e
/-- a, b = e -/
def fBind (b : MG) (f : ME) : MS := fun ρ => match f ρ with
  | some (r, ρ1) => match b r.d ρ1 with
    | some ρ2 => some (.nx, ρ2)
    | none => none
  | none => none
theorem tS_bind {K : PySem.W.Frag} {is : List Nat} {b : MG} {f : ME} {D : Ends} {σ : L2.St} {H : Hp} (h : tS K (fBind b f) D σ H) : tAsg (tE K f) (tG K is b) D σ H := by
  obtain ⟨F, ρ, fl, ρ', R, e, post⟩ := h
  unfold fBind at e
  split at e
  · rename_i r ρ1 hr
    split at e
    · rename_i ρ2 hb
      cases e
      refine ⟨F, ρ, r, ρ1, R, hr, fun v F1 H1 R1 S1 res => ?_⟩
      obtain ⟨F2, R2, S2, rp⟩ := res.frozen R R1 S1
      exact ⟨F2, ρ1, r.d, _, R2, rp, hb, fun σ' _ R3 S3 => post F2 σ' H1 R3 (S2.stp.trans S3)⟩
    · cases e
  · cases e
theorem vs_bind {X : Cx} {tg e : Expr} {is : List Nat} {b : MG} {f : ME} {pos : Pos} (he : VE X e f) (hg : VG X tg is b) (hs : swapsWithSole [tg] e pos.line X.env = pure false := by rfl) (hw : swappedStores [tg] e X.env = pure none := by rfl)
    (h1 : (assignEach [tg] X.env).map (·.2) = [assign tg X.env] := by rfl) : VS X (.Assign [tg] e pos) (fBind b f) := PS.of (ps_asg he hg hs hw h1) fun _ _ _ _ q => tS_bind q
end VI

namespace VI
open PySem PySem.Spec PyProof.Rows L2

/-! ### what is walked is lent -/
@[simp] def lend (pk : Pk) (ρ : Rho) : Rho := match pk with
  | .sl i => match ρ[i]? with
    | some (some ⟨.own, d⟩) => ρ.set i (some ⟨.lent, d⟩)
    | some (some ⟨.par, d⟩) => ρ.set i (some ⟨.lent, d⟩)
    | _ => ρ
  | .vl _ => ρ
@[simp] def back (pk : Pk) (ρ0 ρ : Rho) : Rho := match pk with
  | .sl i => match ρ0[i]?, ρ[i]? with
    | some (some ⟨.own, _⟩), some (some ⟨.lent, d⟩) => ρ.set i (some ⟨.own, d⟩)
    | some (some ⟨.par, _⟩), some (some ⟨.lent, d⟩) => ρ.set i (some ⟨.par, d⟩)
    | _, _ => ρ
  | .vl _ => ρ
/-- either nothing is lent, or one slot of one's own -/
theorem lend_cases (pk : Pk) (ρ : Rho) : (lend pk ρ = ρ ∧ ∀ ρ', back pk ρ ρ' = ρ') ∨
    ∃ i m d, pk = .sl i ∧ (m = .own ∨ m = .par) ∧ ρ[i]? = some (some ⟨m, d⟩) ∧ lend pk ρ = ρ.set i (some ⟨.lent, d⟩) ∧ ∀ ρ' d', ρ'[i]? = some (some ⟨.lent, d'⟩) → back pk ρ ρ' = ρ'.set i (some ⟨m, d'⟩) := by
  cases pk with
  | vl d => exact .inl ⟨rfl, fun _ => rfl⟩
  | sl i =>
    cases e : ρ[i]? with
    | none => exact .inl ⟨by simp [lend, e], fun ρ' => by simp [back, e]⟩
    | some x =>
      cases x with
      | none => exact .inl ⟨by simp [lend, e], fun ρ' => by simp [back, e]⟩
      | some s =>
        obtain ⟨m, d⟩ := s
        cases m with
        | fz => exact .inl ⟨by simp [lend, e], fun ρ' => by simp [back, e]⟩
        | lent => exact .inl ⟨by simp [lend, e], fun ρ' => by simp [back, e]⟩
        | own => exact .inr ⟨i, .own, d, rfl, .inl rfl, e, by simp [lend, e], fun ρ' d' h => by simp [back, e, h]⟩
        | par => exact .inr ⟨i, .par, d, rfl, .inr rfl, e, by simp [lend, e], fun ρ' d' h => by simp [back, e, h]⟩
section
variable {K : PySem.W.Frag} {F F' H H' : Hp} {ρ ρ' : Rho} {σ σ' : L2.St}
/-- a slot's mode turns, both ways not frozen -/
theorem Rel.mode (R : Rel K F ρ σ H) {i : Nat} {m m' : Md} {d : D} (e : ρ[i]? = some (some ⟨m, d⟩)) (h : m ≠ .fz) (h' : m' ≠ .fz) : Rel K F (ρ.set i (some ⟨m', d⟩)) σ H := by
  refine ⟨R.le, by rw [List.length_set]; exact R.len, fun j s z => ?_, fun j k s t p h1 h2 m1 m2 h3 h4 => ?_⟩
  · rcases getElem?_set' z with ⟨ej, zz⟩ | ⟨_, zz⟩
    · cases zz
      obtain ⟨v, hv, ok⟩ := R.at_ i _ e
      obtain ⟨p, rfl, fp, oa⟩ := ok.nfz h
      exact ⟨_, by rw [ej]; exact hv, .mk_n h' fp oa⟩
    · exact R.at_ j s zz
  · have aux : ∀ (j : Nat) (s : Sl), (ρ.set i (some ⟨m', d⟩))[j]? = some (some s) → s.m ≠ .fz → ∃ s', ρ[j]? = some (some s') ∧ s'.m ≠ .fz := fun j s z hm => by
      rcases getElem?_set' z with ⟨rfl, _⟩ | ⟨_, z⟩
      · exact ⟨_, e, h⟩
      · exact ⟨s, z, hm⟩
    obtain ⟨s', e1, n1⟩ := aux j s h1 m1
    obtain ⟨t', e2, n2⟩ := aux k t h2 m2
    exact R.ne j k s' t' p e1 e2 n1 n2 h3 h4
theorem Rel.lend (R : Rel K F ρ σ H) (pk : Pk) : Rel K F (lend pk ρ) σ H := by
  rcases lend_cases pk ρ with ⟨e, _⟩ | ⟨i, m, d, rfl, hm, e, el, _⟩
  · rw [e]; exact R
  · rw [el]
    exact R.mode e (by rcases hm with rfl | rfl <;> (intro z; cases z)) (by intro z; cases z)
theorem Stp.lend {pk : Pk} (R : Rel K F ρ σ H) (R' : Rel K F' ρ' σ' H') (S : Stp F (VI.lend pk ρ) σ H F' ρ' σ' H') : Rel K F' (back pk ρ ρ') σ' H' ∧ Stp F ρ σ H F' (back pk ρ ρ') σ' H' := by
  rcases lend_cases pk ρ with ⟨e, b⟩ | ⟨i, m, d, rfl, hm, e, el, b⟩
  · rw [e] at S
    rw [b]
    exact ⟨R', S⟩
  · have hi : i < ρ.length := (List.getElem?_eq_some_iff.mp e).1
    have li : (VI.lend (.sl i) ρ)[i]? = some (some ⟨.lent, d⟩) := by rw [el, List.getElem?_set_self hi]
    have lj : ∀ j, j ≠ i → (VI.lend (.sl i) ρ)[j]? = ρ[j]? := fun j hj => by rw [el, List.getElem?_set_ne (Ne.symm hj)]
    obtain ⟨⟨d', e'⟩, es⟩ := S.fwd i .lent d trivial li
    rw [b ρ' d' e']
    have hi' : i < ρ'.length := (List.getElem?_eq_some_iff.mp e').1
    have bi : (ρ'.set i (some ⟨m, d'⟩))[i]? = some (some ⟨m, d'⟩) := List.getElem?_set_self hi'
    have bj : ∀ j, j ≠ i → (ρ'.set i (some ⟨m, d'⟩))[j]? = ρ'[j]? := fun j hj => List.getElem?_set_ne (Ne.symm hj)
    have nm : m ≠ .fz := by rcases hm with rfl | rfl <;> (intro z; cases z)
    have oO : ∀ a, OwnO (VI.lend (.sl i) ρ) σ a → OwnO ρ σ a := fun a ⟨j, s, h1, h2, h3⟩ => by
      by_cases hj : j = i
      · subst hj; rw [li] at h1; cases h1; cases h2
      · rw [lj j hj] at h1; exact ⟨j, s, h1, h2, h3⟩
    have oA : ∀ a, Own (VI.lend (.sl i) ρ) σ a → Own ρ σ a := fun a ⟨j, s, h1, h2, h3⟩ => by
      by_cases hj : j = i
      · subst hj; rw [li] at h1; cases h1; rcases h2 with h2 | h2 <;> cases h2
      · rw [lj j hj] at h1; exact ⟨j, s, h1, h2, h3⟩
    refine ⟨R'.mode e' (by intro z; cases z) nm, ⟨S.le, fun a o h n => S.keep a o h fun z => n (oA a z), S.there, fun a o h => ?_, fun a h => ?_, fun j m' dd hm' z => ?_, fun j m' dd hm' z => ?_⟩⟩
    · rcases S.newF a o h with q | q | q
      · exact .inl q
      · exact .inr (.inl q)
      · exact .inr (.inr (oO a q))
    · obtain ⟨j, s, h1, h2, h3⟩ := h
      by_cases hj : j = i
      · subst hj
        rw [bi] at h1; cases h1
        cases h2
        rw [es] at h3
        exact .inl ⟨j, _, e, rfl, h3⟩
      · rw [bj j hj] at h1
        rcases S.ownO a ⟨j, s, h1, h2, h3⟩ with q | q
        · exact .inl (oO a q)
        · exact .inr q
    · by_cases hj : j = i
      · subst hj
        rw [e] at z; cases z
        exact ⟨⟨d', bi⟩, es⟩
      · rw [bj j hj]
        exact S.fwd j m' dd hm' (by rw [lj j hj]; exact z)
    · by_cases hj : j = i
      · subst hj
        rw [bi] at z; cases z
        exact ⟨d, e⟩
      · rw [bj j hj] at z
        obtain ⟨d2, q⟩ := S.bwd j m' dd hm' z
        rw [lj j hj] at q
        exact ⟨d2, q⟩
end

/-! ### a walk -/
def Itn (K : PySem.W.Frag) (F : Hp) (ρ : Rho) (σ : L2.St) (H : Hp) (J : It) (ds : List D) : Prop := ∃ G Y, Walk J ds.length G Y ∧
  (∀ F' ρ' σ' H', Stp F ρ σ H F' ρ' σ' H' → Le F' H' → G H') ∧
  ∀ (i : Nat) F' ρ' σ' H' x H'', i < ds.length → Stp F ρ σ H F' ρ' σ' H' → Le F' H' → Y i H' x H'' → ∃ F'' d, ds[i]? = some d ∧ New K F' H' F'' H'' x ⟨.fz, d⟩
def loopM (b : MG) (body : MS) : List D → MS
  | [], ρ => some (.nx, ρ)
  | d :: ds, ρ => match b d ρ with
    | none => none
    | some ρ1 => match body ρ1 with
      | some (.nx, ρ2) => loopM b body ds ρ2
      | some (.ct, ρ2) => loopM b body ds ρ2
      | some (.bk, ρ2) => some (.nx, ρ2)
      | some (.rt r, ρ2) => some (.rt r, ρ2)
      | none => none
theorem for_ok {K : PySem.W.Frag} {F H : Hp} {ρ ρ' : Rho} {σ : L2.St} {J : It} {ds : List D} {is : List Nat} {b : MG} {body : MS} {fl : Fl} {D : Ends} (R : Rel K F ρ σ H) (it : Itn K F ρ σ H J ds) (e : loopM b body ds ρ = some (fl, ρ'))
    (post : ∀ F' σ' H', Rel K F' ρ' σ' H' → Stp F ρ σ H F' ρ' σ' H' → EndOk K D ρ σ H F' σ' H' fl) :
    ∃ W : Nat → Nat → L2.St → Hp → Prop, (∃ m, W 0 m σ H) ∧ ∀ i m σ H, W i m σ H →
      (J.stop i H ∧ D.nx σ H) ∨ (J.go i H ∧ ∃ N : L2.St → Hp → Prop, (∀ σ' H', N σ' H' → ∃ m', m' < m ∧ W (i + 1) m' σ' H') ∧ ∀ x H', J.yld i H x H' → tG K is b x σ H' fun σ2 H2 => tS K body { D with nx := N, ct := N, bk := D.nx } σ2 H2) := by
  obtain ⟨G, Y, w, hG, hY⟩ := it
  refine for_it w (fun k σ' H' => ∃ F' ρ1, Rel K F' ρ1 σ' H' ∧ Stp F ρ σ H F' ρ1 σ' H' ∧ loopM b body (ds.drop k) ρ1 = some (fl, ρ')) ⟨F, ρ, R, .refl, by rw [List.drop_zero]; exact e⟩ (fun i σ' H' _ ⟨F', ρ1, R1, S1, _⟩ => hG F' ρ1 σ' H' S1 R1.le) (fun k x σ1 H1 H2 hk ⟨F1, ρ1, R1, S1, e1⟩ y => ?_) (fun σ' H' ⟨F', ρ1, R1, S1, e1⟩ => ?_)
  · obtain ⟨F2, d, hd, N⟩ := hY k F1 ρ1 σ1 H1 x H2 hk S1 R1.le y
    obtain ⟨R2, S2⟩ := R1.new N
    have S12 := S1.trans S2.stp
    have ed : ds.drop k = d :: ds.drop (k + 1) := by
      rw [List.drop_eq_getElem_cons hk]
      congr 1
      rw [List.getElem?_eq_getElem hk] at hd
      exact Option.some.inj hd
    rw [ed] at e1
    unfold loopM at e1
    cases hb : b d ρ1 with
    | none => rw [hb] at e1; cases e1
    | some ρa =>
      rw [hb] at e1
      simp only at e1
      refine ⟨F2, ρ1, d, ρa, R2, N.res, hb, fun σ2 _ R3 S3 => ?_⟩
      cases hB : body ρa with
      | none => rw [hB] at e1; cases e1
      | some z =>
        obtain ⟨fl', ρb⟩ := z
        rw [hB] at e1
        refine ⟨F2, ρa, fl', ρb, R3, hB, fun F4 σ4 H4 R4 S4 => ?_⟩
        have S14 := (S12.trans S3).trans S4
        cases fl' with
        | nx => exact ⟨F4, ρb, R4, S14, e1⟩
        | ct => exact ⟨F4, ρb, R4, S14, e1⟩
        | bk =>
          simp only [Option.some.injEq, Prod.mk.injEq] at e1
          obtain ⟨rfl, rfl⟩ := e1
          exact post F4 σ4 H4 R4 S14
        | rt r =>
          simp only [Option.some.injEq, Prod.mk.injEq] at e1
          obtain ⟨rfl, rfl⟩ := e1
          exact fun v q => post F4 σ4 H4 R4 S14 v (q.back (S12.trans S3))
  · rw [List.drop_length] at e1
    cases e1
    exact post F' σ' H' R1 S1
/-- the items of what is walked -/
def itemsD : D → Option (List D)
  | .lst ds => some ds
  | .tup ds => some ds
  | .str x => some (x.cps.toList.map fun c => .str ⟨#[c]⟩)
  | _ => none
def fFor (items : D → Option (List D)) (src : Opd) (b : MG) (body : MS) : MS := fun ρ => do
  let (pk, ρ1) ← evalO src ρ
  let d ← look pk ρ1
  let ds ← items d
  let (fl, ρ2) ← loopM b body ds (lend pk ρ1)
  pure (fl, back pk ρ1 ρ2)
/-- a value's walk (what is walked is lent) -/
def Walks (K : PySem.W.Frag) (items : D → Option (List D)) (wi : TE → TI) : Prop := ∀ (o : Opd) (σ : L2.St) (H : Hp) (R : It → Hp → Prop), (∃ F ρ pk ρ1 d ds, Rel K F ρ σ H ∧ evalO o ρ = some (pk, ρ1) ∧ look pk ρ1 = some d ∧ items d = some ds ∧
    ∀ F' H' J, Rel K F' ρ1 σ H' → StpE F ρ σ H F' ρ1 H' → Itn K F' (lend pk ρ1) σ H' J ds → R J H') → wi (tO K o) σ H R
theorem tS_for {K : PySem.W.Frag} {items : D → Option (List D)} {wi : TE → TI} {src : Opd} {is : List Nat} {b : MG} {body : MS} {D : Ends} {σ : L2.St} {H : Hp} (hw : Walks K items wi) (h : tS K (fFor items src b body) D σ H) : tFor (wi (tO K src)) (tG K is b) (tS K body) D σ H := by
  obtain ⟨F, ρ, fl, ρ', R, e, post⟩ := h
  obtain ⟨⟨pk, ρ1⟩, e1, e⟩ := bind_some e
  obtain ⟨d, e2, e⟩ := bind_some e
  obtain ⟨ds, e3, e⟩ := bind_some e
  obtain ⟨⟨fl', ρ2⟩, e4, e⟩ := bind_some e
  cases e
  refine hw src σ H _ ⟨F, ρ, pk, ρ1, d, ds, R, e1, e2, e3, fun F1 H1 J R1 S1 it => ?_⟩
  refine for_ok (R1.lend pk) it e4 fun F2 σ2 H2 R2 S2 => ?_
  obtain ⟨R3, S3⟩ := S2.lend R1 R2
  have q := (post F2 σ2 H2 R3 (S1.stp.trans S3)).back S1.stp
  cases fl with
  | nx => exact q
  | bk => exact q
  | ct => exact q
  | rt r =>
    refine fun v z => q v ?_
    rcases z.own_or with ⟨m, w⟩ | ⟨m, p, rfl, hp, fp, w⟩
    · unfold ResR; rw [m]; exact w
    · unfold ResR; rw [m]
      refine ⟨p, rfl, ?_, fp, w⟩
      rcases hp with ⟨j, s, h1, h2, h3⟩ | hp
      · rcases lend_cases pk ρ1 with ⟨e, _⟩ | ⟨i, m', d', rfl, hm, e, el, _⟩
        · rw [e] at h1; exact .inl ⟨j, s, h1, h2, h3⟩
        · rw [el] at h1
          rcases getElem?_set' h1 with ⟨_, h⟩ | ⟨_, h⟩
          · cases h; cases h2
          · exact .inl ⟨j, s, h, h2, h3⟩
      · exact .inr hp
/-- a frozen sequence, or a lent one, stands still -/
theorem itn_list {K : PySem.W.Frag} {F H : Hp} {ρ : Rho} {σ : L2.St} {a : Addr} {vs : List V} {ds : List D} (hs : ∀ F' ρ' σ' H', Stp F ρ σ H F' ρ' σ' H' → Le F' H' → SqL K H' a vs) (hr : RepL K F vs ds) : Itn K F ρ σ H (Itl K a) ds :=
  ⟨fun H => SqL K H a vs, YAt vs, by rw [← hr.length]; exact walk_list, hs, fun i F' ρ' σ' H' x H'' hi S l y => by
    obtain ⟨rfl, hx⟩ := y
    obtain ⟨d, hd, r⟩ := hr.get hx
    exact ⟨F', d, hd, New.same l (r.mono S.le)⟩⟩
theorem itn_tup {K : PySem.W.Frag} {F H : Hp} {ρ : Rho} {σ : L2.St} {a : Addr} {vs : List V} {ds : List D} (hs : ∀ F' ρ' σ' H', Stp F ρ σ H F' ρ' σ' H' → Le F' H' → SqT K H' a vs) (hr : RepL K F vs ds) : Itn K F ρ σ H (Itt K a) ds :=
  ⟨fun H => SqT K H a vs, YAt vs, by rw [← hr.length]; exact walk_tup, hs, fun i F' ρ' σ' H' x H'' hi S l y => by
    obtain ⟨rfl, hx⟩ := y
    obtain ⟨d, hd, r⟩ := hr.get hx
    exact ⟨F', d, hd, New.same l (r.mono S.le)⟩⟩
/-- what is lent is no one's to write -/
theorem lent_not_own {K : PySem.W.Frag} {F H : Hp} {ρ : Rho} {σ : L2.St} {i : Nat} {d : D} {p : Addr} (R : Rel K F ρ σ H) (e : ρ[i]? = some (some ⟨.lent, d⟩)) (hv : σ[i]? = some (some (.ref p))) : ¬ Own ρ σ p := fun ⟨j, s, h1, h2, h3⟩ => by
  have q := R.ne i j _ s p e h1 (by intro z; cases z) (by rcases h2 with h2 | h2 <;> (rw [h2]; intro z; cases z)) hv h3
  subst q
  rw [e] at h1; cases h1
  rcases h2 with h2 | h2 <;> cases h2
/-- the slot that is walked, lent: its object stands still -/
theorem lent_stays {K : PySem.W.Frag} {F H : Hp} {ρ : Rho} {σ : L2.St} {i : Nat} {s : Sl} {p : Addr} {o : HO} (R : Rel K F ρ σ H) (e : ρ[i]? = some (some s)) (hm : s.m ≠ .fz) (hv : σ[i]? = some (some (.ref p))) (ho : H p = some o) :
    ∀ F' ρ' σ' H', Stp F (lend (.sl i) ρ) σ H F' ρ' σ' H' → H' p = some o := fun F' ρ' σ' H' S => by
  refine S.keep p o ho ?_
  obtain ⟨m, d⟩ := s
  have hl : (lend (.sl i) ρ)[i]? = some (some ⟨.lent, d⟩) := by
    have hi : i < ρ.length := (List.getElem?_eq_some_iff.mp e).1
    cases m with
    | fz => exact absurd rfl hm
    | own => simp only [lend, e]; rw [List.getElem?_set_self hi]
    | par => simp only [lend, e]; rw [List.getElem?_set_self hi]
    | lent => simp only [lend, e]
  exact lent_not_own (R.lend (.sl i)) hl hv
theorem PkOk.stays {K : PySem.W.Frag} {F H : Hp} {ρ : Rho} {σ : L2.St} {v : V} {pk : Pk} {d : D} (R : Rel K F ρ σ H) (h : PkOk K F σ v pk) (e : look pk ρ = some d) :
    Rep K F v d ∨ ∃ p o, v = .ref p ∧ H p = some o ∧ OwnAt K F H p d ∧ ∀ F' ρ' σ' H', Stp F (lend pk ρ) σ H F' ρ' σ' H' → H' p = some o := by
  cases pk with
  | vl d' => cases e; exact .inl h
  | sl i =>
    unfold look at e
    simp only at e
    split at e
    · rename_i s hs
      cases e
      obtain ⟨w, hw, ok⟩ := R.at_ i s hs
      have h' : σ[i]? = some (some v) := h
      rw [h'] at hw; cases hw
      by_cases hm : s.m = .fz
      · exact .inl (ok.fz hm)
      · obtain ⟨p, rfl, fp, oa⟩ := ok.nfz hm
        obtain ⟨o, ho⟩ := oa.has
        exact .inr ⟨p, o, rfl, ho, oa, lent_stays R hs hm h' ho⟩
    · cases e
def itemsL : D → Option (List D)
  | .lst ds => some ds
  | _ => none
def itemsT : D → Option (List D)
  | .tup ds => some ds
  | _ => none
theorem walks_list {K : PySem.W.Frag} : Walks K itemsL (iList K) := fun o σ H R ⟨F, ρ, pk, ρ1, d, ds, R0, e1, e2, e3, post⟩ => by
  cases d with
  | lst ds' =>
    cases e3
    refine ⟨F, ρ, pk, ρ1, R0, e1, fun v F1 H1 R1 S1 P1 => ?_⟩
    rcases P1.stays R1 e2 with h | ⟨p, o, rfl, ho, oa, st⟩
    · cases h with
      | @lst a vs _ h1 h2 => exact ⟨a, rfl, ⟨vs, SqL.of (R1.le _ _ h1)⟩, post F1 H1 _ R1 S1 (itn_list (fun F' ρ' σ' H' S l => SqL.of ((S.le.trans l) _ _ h1)) h2)⟩
    · obtain ⟨vs, h1, h2⟩ := oa
      rw [ho] at h1; cases h1
      exact ⟨p, rfl, ⟨vs, SqL.of ho⟩, post F1 H1 _ R1 S1 (itn_list (fun F' ρ' σ' H' S l => SqL.of (st F' ρ' σ' H' S)) h2)⟩
  | _ => cases e3
theorem walks_tup {K : PySem.W.Frag} : Walks K itemsT (iTup K) := fun o σ H R ⟨F, ρ, pk, ρ1, d, ds, R0, e1, e2, e3, post⟩ => by
  cases d with
  | tup ds' =>
    cases e3
    refine ⟨F, ρ, pk, ρ1, R0, e1, fun v F1 H1 R1 S1 P1 => ?_⟩
    rcases P1.stays R1 e2 with h | ⟨p, o, rfl, ho, oa, st⟩
    · cases h with
      | @tup a vs _ h1 h2 => exact ⟨a, rfl, ⟨vs, SqT.of (R1.le _ _ h1)⟩, post F1 H1 _ R1 S1 (itn_tup (fun F' ρ' σ' H' S l => SqT.of ((S.le.trans l) _ _ h1)) h2)⟩
    · exact oa.elim
  | _ => cases e3
theorem vs_for {X : Cx} {tg iter : Expr} {body : List Stmt} {items : D → Option (List D)} {wi : TE → TI} {src : Opd} {is : List Nat} {b : MG} {g : MS} {pos : Pos} (hw : Walks X.K items wi) (hp : PassesOwn (model X.prog X.w) X.A X.env X.xe) (hc : X.calm = true)
    (hi : PI X tg iter (wi (tO X.K src))) (hg : VG X tg is b) (hb : VB X body g) (hs : ∀ x, foldedSetIterable iter X.env x = pure x := by intro _; rfl) : VS X (.For tg iter body [] pos) (fFor items src b g) := PS.of (ps_for hp hc hi hg hb hs) fun _ _ _ _ q => tS_for hw q
end VI

namespace VI
open PySem PySem.Spec PyProof.Rows L2

/-! ### range -/
def rangeD (lo : Int) (n : Nat) : List D := (List.range n).map fun i => .int (lo + (i : Nat))
theorem rangeD_length (lo : Int) (n : Nat) : (rangeD lo n).length = n := by unfold rangeD; simp
theorem itn_range {K : PySem.W.Frag} {F H : Hp} {ρ : Rho} {σ : L2.St} {lo : Int} {n : Nat} : Itn K F ρ σ H (Itr lo n) (rangeD lo n) :=
  ⟨fun _ => True, YFn fun i => .int (lo + i), by rw [rangeD_length]; exact walk_range, fun _ _ _ _ _ _ => trivial, fun i F' ρ' σ' H' x H'' hi S l y => by
    obtain ⟨rfl, rfl⟩ := y
    rw [rangeD_length] at hi
    exact ⟨F', .int (lo + i), by simp [rangeD, hi], New.same l (.int _)⟩⟩
/-- over a number of operands, none of which is walked itself -/
def fForN (g : List D → Option (List D)) (os : List Opd) (b : MG) (body : MS) : MS := fun ρ => do
  let (pks, ρ1) ← evalOs os ρ
  let es ← looks ρ1 pks
  let ds ← g es
  loopM b body ds ρ1
def WalksN (K : PySem.W.Frag) (g : List D → Option (List D)) (wi : TA → TI) : Prop := ∀ (os : List Opd) (σ : L2.St) (H : Hp) (R : It → Hp → Prop), (∃ F ρ pks ρ1 es ds, Rel K F ρ σ H ∧ evalOs os ρ = some (pks, ρ1) ∧ looks ρ1 pks = some es ∧ g es = some ds ∧
    ∀ F' H' J, Rel K F' ρ1 σ H' → StpE F ρ σ H F' ρ1 H' → Itn K F' ρ1 σ H' J ds → R J H') → wi (tA K os) σ H R
theorem tS_forN {K : PySem.W.Frag} {g : List D → Option (List D)} {wi : TA → TI} {os : List Opd} {is : List Nat} {b : MG} {body : MS} {D : Ends} {σ : L2.St} {H : Hp} (hw : WalksN K g wi) (h : tS K (fForN g os b body) D σ H) : tFor (wi (tA K os)) (tG K is b) (tS K body) D σ H := by
  obtain ⟨F, ρ, fl, ρ', R, e, post⟩ := h
  obtain ⟨⟨pks, ρ1⟩, e1, e⟩ := bind_some e
  obtain ⟨es, e2, e⟩ := bind_some e
  obtain ⟨ds, e3, e⟩ := bind_some e
  refine hw os σ H _ ⟨F, ρ, pks, ρ1, es, ds, R, e1, e2, e3, fun F1 H1 J R1 S1 it => ?_⟩
  exact for_ok R1 it e fun F2 σ2 H2 R2 S2 => (post F2 σ2 H2 R2 (S1.stp.trans S2)).back S1.stp
def gRng1 : List D → Option (List D)
  | [.int j] => if -(2 ^ 62) ≤ j ∧ j < 2 ^ 62 then some (rangeD 0 j.toNat) else none
  | _ => none
def gRng2 : List D → Option (List D)
  | [.int i, .int j] => if -(2 ^ 62) ≤ i ∧ i < 2 ^ 62 ∧ -(2 ^ 62) ≤ j ∧ j < 2 ^ 62 then some (rangeD i (j - i).toNat) else none
  | _ => none
theorem VwL.one {K : PySem.W.Frag} {F H : Hp} {vs : List V} {d : D} (h : VwL K F H vs [d]) : ∃ v, vs = [v] ∧ Vw K F H v d := by
  cases h with | cons h t => cases t; exact ⟨_, rfl, h⟩
theorem VwL.two {K : PySem.W.Frag} {F H : Hp} {vs : List V} {d e : D} (h : VwL K F H vs [d, e]) : ∃ v w, vs = [v, w] ∧ Vw K F H v d ∧ Vw K F H w e := by
  cases h with | cons h t => obtain ⟨w, rfl, q⟩ := t.one; exact ⟨_, w, rfl, h, q⟩
theorem VwL.three {K : PySem.W.Frag} {F H : Hp} {vs : List V} {d e f : D} (h : VwL K F H vs [d, e, f]) : ∃ v w z, vs = [v, w, z] ∧ Vw K F H v d ∧ Vw K F H w e ∧ Vw K F H z f := by
  cases h with | cons h t => obtain ⟨w, z, rfl, q⟩ := t.two; exact ⟨_, w, z, rfl, h, q⟩
theorem walks_rng1 {K : PySem.W.Frag} : WalksN K gRng1 iRng1 := fun os σ H R ⟨F, ρ, pks, ρ1, es, ds, R0, e1, e2, e3, post⟩ => by
  refine ⟨F, ρ, pks, ρ1, R0, e1, fun vs F1 H1 R1 S1 P1 => ?_⟩
  have v := P1.vw R1 e2
  unfold gRng1 at e3
  split at e3
  · rename_i j
    obtain ⟨x, rfl, w⟩ := v.one
    split at e3
    · rename_i hb
      cases e3
      exact ⟨j, by rw [w.int], hb.1, hb.2, post F1 H1 _ R1 S1 itn_range⟩
    · cases e3
  · cases e3
theorem walks_rng2 {K : PySem.W.Frag} : WalksN K gRng2 iRng2 := fun os σ H R ⟨F, ρ, pks, ρ1, es, ds, R0, e1, e2, e3, post⟩ => by
  refine ⟨F, ρ, pks, ρ1, R0, e1, fun vs F1 H1 R1 S1 P1 => ?_⟩
  have v := P1.vw R1 e2
  unfold gRng2 at e3
  split at e3
  · rename_i i j
    obtain ⟨x, y, rfl, w, w'⟩ := v.two
    split at e3
    · rename_i hb
      cases e3
      exact ⟨i, j, by rw [w.int, w'.int], hb, post F1 H1 _ R1 S1 itn_range⟩
    · cases e3
  · cases e3
theorem vs_forN {X : Cx} {tg iter : Expr} {body : List Stmt} {g : List D → Option (List D)} {wi : TA → TI} {os : List Opd} {is : List Nat} {b : MG} {m : MS} {pos : Pos} (hw : WalksN X.K g wi) (hp : PassesOwn (model X.prog X.w) X.A X.env X.xe) (hc : X.calm = true)
    (hi : PI X tg iter (wi (tA X.K os))) (hg : VG X tg is b) (hb : VB X body m) (hs : ∀ x, foldedSetIterable iter X.env x = pure x := by intro _; rfl) : VS X (.For tg iter body [] pos) (fForN g os b m) := PS.of (ps_for hp hc hi hg hb hs) fun _ _ _ _ q => tS_forN hw q

/-! ### while -/
def whileM (t : MT) (body : MS) : Nat → MS
  | 0, _ => none
  | n + 1, ρ => match t ρ with
    | some (true, ρ1) => match body ρ1 with
      | some (.nx, ρ2) => whileM t body n ρ2
      | some (.ct, ρ2) => whileM t body n ρ2
      | some (.bk, ρ2) => some (.nx, ρ2)
      | some (.rt r, ρ2) => some (.rt r, ρ2)
      | none => none
    | some (false, ρ1) => some (.nx, ρ1)
    | none => none
theorem tS_while {K : PySem.W.Frag} {t : MT} {body : MS} {n : Nat} {D : Ends} {σ : L2.St} {H : Hp} (h : tS K (whileM t body n) D σ H) : tWhile (tT K t) (tS K body) D σ H := by
  obtain ⟨F, ρ, fl, ρ', R, e, post⟩ := h
  refine ⟨fun m σ' H' => ∃ F' ρ1, Rel K F' ρ1 σ' H' ∧ Stp F ρ σ H F' ρ1 σ' H' ∧ whileM t body m ρ1 = some (fl, ρ'), ⟨n, F, ρ, R, .refl, e⟩, fun m σ1 H1 ⟨F1, ρ1, R1, S1, e1⟩ => ?_⟩
  cases m with
  | zero => cases e1
  | succ m =>
    unfold whileM at e1
    cases ht : t ρ1 with
    | none => rw [ht] at e1; cases e1
    | some z =>
      obtain ⟨c, ρa⟩ := z
      rw [ht] at e1
      refine ⟨F1, ρ1, c, ρa, R1, ht, fun F2 H2 R2 S2 => ?_⟩
      have S12 := S1.trans S2.stp
      cases c with
      | false =>
        refine iteF ?_
        cases e1
        exact post F2 σ1 H2 R2 S12
      | true =>
        refine iteT ?_
        simp only at e1
        cases hB : body ρa with
        | none => rw [hB] at e1; cases e1
        | some z =>
          obtain ⟨fl', ρb⟩ := z
          rw [hB] at e1
          refine ⟨fun σ' H' => ∃ F' ρ1, Rel K F' ρ1 σ' H' ∧ Stp F ρ σ H F' ρ1 σ' H' ∧ whileM t body m ρ1 = some (fl, ρ'), fun σ' H' q => ⟨m, Nat.lt_succ_self m, q⟩, F2, ρa, fl', ρb, R2, hB, fun F4 σ4 H4 R4 S4 => ?_⟩
          have S14 := S12.trans S4
          cases fl' with
          | nx => exact ⟨F4, ρb, R4, S14, e1⟩
          | ct => exact ⟨F4, ρb, R4, S14, e1⟩
          | bk =>
            simp only [Option.some.injEq, Prod.mk.injEq] at e1
            obtain ⟨rfl, rfl⟩ := e1
            exact post F4 σ4 H4 R4 S14
          | rt r =>
            simp only [Option.some.injEq, Prod.mk.injEq] at e1
            obtain ⟨rfl, rfl⟩ := e1
            exact fun v q => post F4 σ4 H4 R4 S14 v (q.back S12)
theorem vs_while {X : Cx} {c : Expr} {body : List Stmt} {t : MT} {g : MS} {pos : Pos} (n : Nat) (hp : PassesOwn (model X.prog X.w) X.A X.env X.xe) (hc : VT X c t) (hb : VB X body g) : VS X (.While c body [] pos) (whileM t g n) := PS.of (ps_while hp hc hb) fun _ _ _ _ q => tS_while q

/-! ### defs -/
abbrev FnM := List Sl → Option (Sl × List Sl)
@[simp] def outs (ρ' : Rho) : Nat → List Sl → List Sl
  | _, [] => []
  | i, a :: as => (match ρ'[i]? with
    | some (some s) => if a.m = .fz then a else s
    | _ => a) :: outs ρ' (i + 1) as
theorem outs_get {ρ' : Rho} {a s : Sl} : ∀ {as : List Sl} {k i : Nat}, as[i]? = some a → a.m ≠ .fz → ρ'[k + i]? = some (some s) → (outs ρ' k as)[i]? = some s
  | [], _, _, h, _, _ => by simp at h
  | b :: bs, k, 0, h, hm, e => by
    simp at h; subst h
    simp only [Nat.add_zero] at e
    simp [outs, e, hm]
  | b :: bs, k, i + 1, h, hm, e => by
    have := outs_get (as := bs) (k := k + 1) (i := i) (by simpa using h) hm (by rw [show k + 1 + i = k + (i + 1) by omega]; exact e)
    simpa [outs] using this
def fnM (n : Nat) (g : MS) : FnM := fun as => match g (as.map some ++ List.replicate n none) with
  | some (.rt r, ρ') => some (r, outs ρ' 0 as)
  | some (.nx, ρ') => some (⟨.fz, .non⟩, outs ρ' 0 as)
  | _ => none
structure CallPost (K : PySem.W.Frag) (F H : Hp) (as : List Sl) (vs : List V) (F' H' : Hp) (os : List Sl) (v : V) (r : Sl) : Prop where
  leF : Le F F'
  leH : Le F' H'
  keep : ∀ a o, H a = some o → (∀ (i : Nat) (s : Sl), as[i]? = some s → s.m = .par → vs[i]? ≠ some (.ref a)) → H' a = some o
  there : ∀ a o, H a = some o → ∃ o', H' a = some o'
  newF : ∀ a o, F' a = some o → (∃ o', F a = some o') ∨ H a = none
  args : ∀ (i : Nat) (s : Sl), as[i]? = some s → s.m ≠ .fz → ∃ d', os[i]? = some ⟨s.m, d'⟩ ∧ ∃ p, vs[i]? = some (.ref p) ∧ F' p = none ∧ OwnAt K F' H' p d'
  res : Res K F' H H' v r
def spM (K : PySem.W.Frag) (np : Nat) (fM : FnM) : Sp := fun vs H Q _ => ∃ F as r os, as.length = np ∧ Rel K F (as.map some) (vs.map some) H ∧ (∀ a ∈ as, a.m ≠ .own) ∧ fM as = some (r, os) ∧ ∀ v F' H', CallPost K F H as vs F' H' os v r → Q v H'
theorem map_some_get {α : Type} {l : List α} {i : Nat} {x : α} (h : (l.map some)[i]? = some (some x)) : l[i]? = some x := by
  rw [List.getElem?_map] at h
  cases e : l[i]? with
  | none => rw [e] at h; cases h
  | some y => rw [e] at h; cases h; rfl
theorem pad_get {α : Type} {l : List α} {n i : Nat} {x : α} (h : (l.map some ++ List.replicate n none)[i]? = some (some x)) : l[i]? = some x := by
  by_cases hi : i < l.length
  · rw [List.getElem?_append_left (by simpa using hi)] at h
    exact map_some_get h
  · rw [List.getElem?_append_right (by simpa using hi), List.getElem?_replicate] at h
    split at h <;> cases h
theorem pad_get' {α : Type} {l : List α} {n i : Nat} {x : α} (h : l[i]? = some x) : (l.map some ++ List.replicate n none)[i]? = some (some x) := by
  have hi : i < l.length := (List.getElem?_eq_some_iff.mp h).1
  rw [List.getElem?_append_left (by simpa using hi), List.getElem?_map, h]; rfl
theorem Rel.pad {K : PySem.W.Frag} {F H : Hp} {as : List Sl} {vs : List V} {n : Nat} (R : Rel K F (as.map some) (vs.map some) H) : Rel K F (as.map some ++ List.replicate n none) (vs.map some ++ List.replicate n none) H := by
  refine ⟨R.le, by have := R.len; simp only [List.length_append, List.length_replicate, List.length_map] at *; omega, fun i s e => ?_, fun i j s t p h1 h2 m1 m2 h3 h4 => ?_⟩
  · obtain ⟨v, hv, ok⟩ := R.at_ i s (by rw [List.getElem?_map, pad_get e]; rfl)
    exact ⟨v, pad_get' (map_some_get hv), ok⟩
  · exact R.ne i j s t p (by rw [List.getElem?_map, pad_get h1]; rfl) (by rw [List.getElem?_map, pad_get h2]; rfl) m1 m2 (by rw [List.getElem?_map, pad_get h3]; rfl) (by rw [List.getElem?_map, pad_get h4]; rfl)
/-- behind a def's body -/
theorem call_post {K : PySem.W.Frag} {F F' H H' : Hp} {as : List Sl} {vs : List V} {n : Nat} {ρ' : Rho} {σ' : L2.St} {v : V} {r : Sl} (R : Rel K F (as.map some) (vs.map some) H) (no : ∀ a ∈ as, a.m ≠ .own)
    (R' : Rel K F' ρ' σ' H') (S : Stp F (as.map some ++ List.replicate n none) (vs.map some ++ List.replicate n none) H F' ρ' σ' H') (res : ResR K (as.map some ++ List.replicate n none) (vs.map some ++ List.replicate n none) H F' H' v r) :
    CallPost K F H as vs F' H' (outs ρ' 0 as) v r := by
  have noO : ∀ a, ¬ OwnO (as.map some ++ List.replicate n none) (vs.map some ++ List.replicate n none) a := fun a ⟨i, s, h1, h2, _⟩ => no s (List.mem_of_getElem? (pad_get h1)) h2
  refine ⟨S.le, R'.le, fun a o h hn => S.keep a o h fun ⟨i, s, h1, h2, h3⟩ => ?_, S.there, fun a o h => ?_, fun i s e hm => ?_, ?_⟩
  · rcases h2 with h2 | h2
    · exact no s (List.mem_of_getElem? (pad_get h1)) h2
    · exact hn i s (pad_get h1) h2 (pad_get h3)
  · rcases S.newF a o h with q | q | q
    · exact .inl q
    · exact .inr q
    · exact absurd q (noO a)
  · obtain ⟨m, d⟩ := s
    have hf : m.fixed := by
      cases m with
      | fz => exact absurd rfl hm
      | own => exact absurd rfl (no _ (List.mem_of_getElem? e))
      | par => trivial
      | lent => trivial
    obtain ⟨⟨d', e'⟩, es⟩ := S.fwd i m d hf (pad_get' e)
    refine ⟨d', outs_get e hm (by rw [Nat.zero_add]; exact e'), ?_⟩
    obtain ⟨w, hw, ok⟩ := R'.at_ i _ e'
    obtain ⟨p, rfl, fp, oa⟩ := ok.nfz hm
    rw [es] at hw
    exact ⟨p, pad_get hw, fp, oa⟩
  · rcases res.own_or with ⟨m, q⟩ | ⟨m, p, rfl, hp, fp, q⟩
    · unfold Res; rw [m]; exact q
    · unfold Res; rw [m]
      rcases hp with hp | hp
      · exact absurd hp (noO p)
      · exact ⟨p, rfl, hp, fp, q⟩
/-! ### calls -/
def argOf (ρ : Rho) : Pk → Option Sl
  | .vl d => some ⟨.fz, d⟩
  | .sl i => match ρ[i]? with
    | some (some ⟨.own, d⟩) => some ⟨.par, d⟩
    | some (some s) => some s
    | _ => none
def argsOf (ρ : Rho) : List Pk → Option (List Sl)
  | [] => some []
  | pk :: pks => do
    let a ← argOf ρ pk
    let as ← argsOf ρ pks
    pure (a :: as)
/-- no slot of one's own is handed in twice -/
@[simp] def nodupS (ρ : Rho) : List Pk → Bool
  | [] => true
  | .vl _ :: pks => nodupS ρ pks
  | .sl i :: pks => (match ρ[i]? with
    | some (some ⟨.fz, _⟩) => true
    | _ => pks.all fun
      | .sl j => i != j
      | .vl _ => true) && nodupS ρ pks
@[simp] def wb : List Pk → List Sl → Rho → Rho
  | .sl i :: pks, o :: os, ρ => wb pks os (match ρ[i]? with
    | some (some ⟨.fz, _⟩) => ρ
    | some (some ⟨m, _⟩) => ρ.set i (some ⟨m, o.d⟩)
    | _ => ρ)
  | .vl _ :: pks, _ :: os, ρ => wb pks os ρ
  | _, _, ρ => ρ
def fCall (fM : FnM) (os : List Opd) : ME := fun ρ => do
  let (pks, ρ1) ← evalOs os ρ
  let as ← argsOf ρ1 pks
  if nodupS ρ1 pks = true then do
    let (r, outs) ← fM as
    pure (r, wb pks outs ρ1)
  else none
end VI

namespace VI
open PySem PySem.Spec PyProof.Rows L2

theorem PkL.len {K : PySem.W.Frag} {F : Hp} {σ : L2.St} : ∀ {vs : List V} {pks : List Pk}, PkL K F σ vs pks → vs.length = pks.length
  | _, _, .nil => rfl
  | _, _, .cons _ t => by rw [List.length_cons, List.length_cons, t.len]
theorem PkL.get {K : PySem.W.Frag} {F : Hp} {σ : L2.St} : ∀ {vs : List V} {pks : List Pk} {j : Nat} {v : V}, PkL K F σ vs pks → vs[j]? = some v → ∃ pk, pks[j]? = some pk ∧ PkOk K F σ v pk
  | _, _, _, _, .nil, h => by simp at h
  | _, _, 0, _, .cons h _, e => by simp at e; subst e; exact ⟨_, rfl, h⟩
  | _, _, j + 1, v, .cons _ t, e => by
    obtain ⟨pk, h1, h2⟩ := PkL.get (j := j) (v := v) t (by simpa using e)
    exact ⟨pk, by simpa using h1, h2⟩
theorem PkL.getP {K : PySem.W.Frag} {F : Hp} {σ : L2.St} : ∀ {vs : List V} {pks : List Pk} {j : Nat} {pk : Pk}, PkL K F σ vs pks → pks[j]? = some pk → ∃ v, vs[j]? = some v ∧ PkOk K F σ v pk
  | _, _, _, _, .nil, h => by simp at h
  | _, _, 0, _, .cons h _, e => by simp at e; subst e; exact ⟨_, rfl, h⟩
  | _, _, j + 1, v, .cons _ t, e => by
    obtain ⟨pk, h1, h2⟩ := PkL.getP (j := j) (pk := v) t (by simpa using e)
    exact ⟨pk, by simpa using h1, h2⟩
theorem argsOf_get {ρ : Rho} : ∀ {pks : List Pk} {as : List Sl} {j : Nat} {a : Sl}, argsOf ρ pks = some as → as[j]? = some a → ∃ pk, pks[j]? = some pk ∧ argOf ρ pk = some a
  | [], as, j, a, h, e => by cases h; simp at e
  | pk :: pks, as, j, a, h, e => by
    obtain ⟨b, h1, h⟩ := bind_some h
    obtain ⟨bs, h2, h⟩ := bind_some h
    cases h
    cases j with
    | zero => simp at e; subst e; exact ⟨pk, rfl, h1⟩
    | succ j =>
      obtain ⟨q, e1, e2⟩ := argsOf_get (j := j) h2 (by simpa using e)
      exact ⟨q, by simpa using e1, e2⟩
theorem argsOf_getP {ρ : Rho} : ∀ {pks : List Pk} {as : List Sl} {j : Nat} {pk : Pk}, argsOf ρ pks = some as → pks[j]? = some pk → ∃ a, as[j]? = some a ∧ argOf ρ pk = some a
  | [], as, j, a, h, e => by simp at e
  | pk :: pks, as, j, a, h, e => by
    obtain ⟨b, h1, h⟩ := bind_some h
    obtain ⟨bs, h2, h⟩ := bind_some h
    cases h
    cases j with
    | zero => simp at e; subst e; exact ⟨b, rfl, h1⟩
    | succ j =>
      obtain ⟨q, e1, e2⟩ := argsOf_getP (j := j) h2 (by simpa using e)
      exact ⟨q, by simpa using e1, e2⟩
theorem argsOf_len {ρ : Rho} : ∀ {pks : List Pk} {as : List Sl}, argsOf ρ pks = some as → as.length = pks.length
  | [], as, h => by cases h; rfl
  | pk :: pks, as, h => by
    obtain ⟨b, h1, h⟩ := bind_some h
    obtain ⟨bs, h2, h⟩ := bind_some h
    cases h
    rw [List.length_cons, List.length_cons, argsOf_len h2]
theorem nodupS_at {ρ : Rho} {i : Nat} {s : Sl} (hs : ρ[i]? = some (some s)) (hm : s.m ≠ .fz) : ∀ {pks : List Pk} {j k : Nat}, nodupS ρ pks = true → pks[j]? = some (.sl i) → pks[k]? = some (.sl i) → j = k
  | [], j, k, _, h, _ => by simp at h
  | .vl d :: pks, j, k, h, h1, h2 => by
    cases j with
    | zero => simp at h1
    | succ j =>
      cases k with
      | zero => simp at h2
      | succ k => exact congrArg (· + 1) (nodupS_at hs hm (pks := pks) (j := j) (k := k) h (by simpa using h1) (by simpa using h2))
  | .sl a :: pks, j, k, h, h1, h2 => by
    unfold nodupS at h
    rw [Bool.and_eq_true] at h
    obtain ⟨ha, hr⟩ := h
    have key : ∀ (k : Nat), a = i → pks[k]? = some (Pk.sl i) → False := fun k e q => by
      subst e
      rw [hs] at ha
      obtain ⟨m, d⟩ := s
      cases m with
      | fz => exact hm rfl
      | _ =>
        have z := List.all_eq_true.mp ha _ (List.mem_of_getElem? q)
        simp at z
    cases j with
    | zero =>
      cases k with
      | zero => rfl
      | succ k => exact (key k (by simpa using h1) (by simpa using h2)).elim
    | succ j =>
      cases k with
      | zero => exact (key j (by simpa using h2) (by simpa using h1)).elim
      | succ k => exact congrArg (· + 1) (nodupS_at hs hm (pks := pks) (j := j) (k := k) hr (by simpa using h1) (by simpa using h2))
theorem argOf_slot {ρ : Rho} {i : Nat} {a : Sl} (h : argOf ρ (.sl i) = some a) : ∃ s, ρ[i]? = some (some s) ∧ s.d = a.d ∧ ((s.m = .own ∧ a.m = .par) ∨ (s.m ≠ .own ∧ a.m = s.m)) := by
  unfold argOf at h
  simp only at h
  split at h
  · rename_i d hd
    cases h
    exact ⟨_, hd, rfl, .inl ⟨rfl, rfl⟩⟩
  · rename_i s hs hne
    cases h
    refine ⟨_, hne, rfl, .inr ⟨fun z => ?_, rfl⟩⟩
    obtain ⟨m, d⟩ := a
    cases z
    exact hs d rfl
  · cases h
theorem argOf_mk {ρ : Rho} {i : Nat} {s : Sl} (h : ρ[i]? = some (some s)) : argOf ρ (.sl i) = some ⟨if s.m = .own then .par else s.m, s.d⟩ := by
  obtain ⟨m, d⟩ := s
  cases m <;> simp [argOf, h]

theorem wb_len : ∀ (pks : List Pk) (os : List Sl) (ρ : Rho), (wb pks os ρ).length = ρ.length
  | [], _, _ => by simp [wb]
  | .vl _ :: pks, [], _ => by simp [wb]
  | .sl _ :: pks, [], _ => by simp [wb]
  | .vl _ :: pks, _ :: os, ρ => by simp [wb, wb_len pks os ρ]
  | .sl i :: pks, o :: os, ρ => by
    unfold wb
    rw [wb_len pks os]
    split <;> simp
/-- modes stay -/
theorem wb_fwd {i : Nat} {m : Md} : ∀ (pks : List Pk) (os : List Sl) (ρ : Rho) (d : D), ρ[i]? = some (some ⟨m, d⟩) → ∃ d', (wb pks os ρ)[i]? = some (some ⟨m, d'⟩)
  | [], _, _, d, h => ⟨d, by simpa [wb] using h⟩
  | .vl _ :: pks, [], _, d, h => ⟨d, by simpa [wb] using h⟩
  | .sl _ :: pks, [], _, d, h => ⟨d, by simpa [wb] using h⟩
  | .vl _ :: pks, _ :: os, ρ, d, h => by simpa [wb] using wb_fwd pks os ρ d h
  | .sl k :: pks, o :: os, ρ, d, h => by
    unfold wb
    split
    · exact wb_fwd pks os ρ d h
    · rename_i m' d' _ hk
      by_cases e : i = k
      · subst e
        rw [h] at hk; cases hk
        exact wb_fwd pks os _ o.d (List.getElem?_set_self (List.getElem?_eq_some_iff.mp h).1)
      · exact wb_fwd pks os _ d (by rw [List.getElem?_set_ne (Ne.symm e)]; exact h)
    · exact wb_fwd pks os ρ d h
theorem wb_get {i : Nat} {s : Sl} : ∀ (pks : List Pk) (os : List Sl) (ρ : Rho), (wb pks os ρ)[i]? = some (some s) →
    ∃ s0, ρ[i]? = some (some s0) ∧ s0.m = s.m ∧ ((s = s0 ∧ (s.m = .fz ∨ ∀ (j : Nat), pks[j]? = some (.sl i) → os[j]? = none)) ∨ ∃ (j : Nat) (o : Sl), pks[j]? = some (.sl i) ∧ os[j]? = some o ∧ s.d = o.d ∧ s.m ≠ .fz)
  | [], os, ρ, h => ⟨s, by simpa [wb] using h, rfl, .inl ⟨rfl, .inr fun j z => by simp at z⟩⟩
  | .vl _ :: pks, [], ρ, h => ⟨s, by simpa [wb] using h, rfl, .inl ⟨rfl, .inr fun j z => by simp⟩⟩
  | .sl _ :: pks, [], ρ, h => ⟨s, by simpa [wb] using h, rfl, .inl ⟨rfl, .inr fun j z => by simp⟩⟩
  | .vl _ :: pks, o :: os, ρ, h => by
    obtain ⟨s0, h1, h2, h3⟩ := wb_get pks os ρ (by simpa [wb] using h)
    refine ⟨s0, h1, h2, ?_⟩
    rcases h3 with ⟨e, h3⟩ | ⟨j, o', e1, e2, e3⟩
    · refine .inl ⟨e, ?_⟩
      rcases h3 with h3 | h3
      · exact .inl h3
      · refine .inr fun j z => ?_
        cases j with
        | zero => simp at z
        | succ j => simpa using h3 j (by simpa using z)
    · exact .inr ⟨j + 1, o', by simpa using e1, by simpa using e2, e3⟩
  | .sl k :: pks, o :: os, ρ, h => by
    unfold wb at h
    obtain ⟨s1, h1, h2, h3⟩ := wb_get pks os _ h
    by_cases e : i = k
    · subst e
      split at h1
      · rename_i d hd
        rw [h1] at hd; cases hd
        refine ⟨_, h1, h2, ?_⟩
        rcases h3 with ⟨e, h3⟩ | ⟨j, o', e1, e2, e3, e4⟩
        · exact .inl ⟨e, .inl h2.symm⟩
        · exact absurd h2.symm e4
      · rename_i m d hn hk
        have hi : i < ρ.length := (List.getElem?_eq_some_iff.mp hk).1
        rw [List.getElem?_set_self hi] at h1
        cases h1
        have hm : s.m ≠ .fz := fun z => hn (h2.trans z)
        refine ⟨_, hk, h2, .inr ?_⟩
        rcases h3 with ⟨e, h3⟩ | ⟨j, o', e1, e2, e3⟩
        · exact ⟨0, o, rfl, rfl, by rw [e], hm⟩
        · exact ⟨j + 1, o', by simpa using e1, by simpa using e2, e3⟩
      · rename_i hn
        exact (hn s1.m s1.d h1).elim
    · have hr : ρ[i]? = some (some s1) := by
        split at h1
        · exact h1
        · rw [List.getElem?_set_ne (Ne.symm e)] at h1; exact h1
        · exact h1
      refine ⟨s1, hr, h2, ?_⟩
      rcases h3 with ⟨e', h3⟩ | ⟨j, o', e1, e2, e3⟩
      · refine .inl ⟨e', ?_⟩
        rcases h3 with h3 | h3
        · exact .inl h3
        · refine .inr fun j z => ?_
          cases j with
          | zero => simp at z; exact absurd z.symm e
          | succ j => simpa using h3 j (by simpa using z)
      · exact .inr ⟨j + 1, o', by simpa using e1, by simpa using e2, e3⟩

section
variable {K : PySem.W.Frag} {F F' H H' : Hp} {ρ : Rho} {σ : L2.St} {vs : List V} {pks : List Pk} {as os : List Sl} {v : V} {r : Sl}
theorem args_rel (R : Rel K F ρ σ H) (P : PkL K F σ vs pks) (ea : argsOf ρ pks = some as) (nd : nodupS ρ pks = true) : Rel K F (as.map some) (vs.map some) H ∧ ∀ a ∈ as, a.m ≠ .own := by
  have slot : ∀ (j : Nat) (a : Sl), as[j]? = some a → a.m ≠ .fz → ∃ i s v, pks[j]? = some (.sl i) ∧ ρ[i]? = some (some s) ∧ s.m ≠ .fz ∧ vs[j]? = some v ∧ σ[i]? = some (some v) ∧ s.d = a.d := fun j a e hm => by
    obtain ⟨pk, h1, h2⟩ := argsOf_get ea e
    obtain ⟨v, hv, ok⟩ := P.getP h1
    cases pk with
    | vl d => cases h2; exact absurd rfl hm
    | sl i =>
      obtain ⟨s, hs, hd, hmm⟩ := argOf_slot h2
      refine ⟨i, s, v, h1, hs, ?_, hv, ok, hd⟩
      rcases hmm with ⟨q, _⟩ | ⟨_, q⟩
      · rw [q]; intro z; cases z
      · rw [← q]; exact hm
  refine ⟨⟨R.le, by rw [List.length_map, List.length_map, argsOf_len ea, P.len], fun j a e => ?_, fun j k a b p h1 h2 m1 m2 h3 h4 => ?_⟩, fun a ha z => ?_⟩
  · have e := map_some_get e
    obtain ⟨pk, h1, h2⟩ := argsOf_get ea e
    obtain ⟨v, hv, ok⟩ := P.getP h1
    refine ⟨v, by rw [List.getElem?_map, hv]; rfl, ?_⟩
    cases pk with
    | vl d => cases h2; exact ok
    | sl i =>
      obtain ⟨s, hs, hd, hmm⟩ := argOf_slot h2
      obtain ⟨w, hw, ok'⟩ := R.at_ i s hs
      have ok2 : σ[i]? = some (some v) := ok
      rw [ok2] at hw; cases hw
      by_cases hm : s.m = .fz
      · have am : a.m = .fz := by
          rcases hmm with ⟨q, _⟩ | ⟨_, q⟩
          · rw [hm] at q; cases q
          · rw [q]; exact hm
        exact .mk_fz am (by rw [← hd]; exact ok'.fz hm)
      · obtain ⟨p, rfl, fp, oa⟩ := ok'.nfz hm
        have am : a.m ≠ .fz := by
          rcases hmm with ⟨_, q⟩ | ⟨_, q⟩
          · rw [q]; intro z; cases z
          · rw [q]; exact hm
        exact .mk_n am fp (by rw [← hd]; exact oa)
  · obtain ⟨i, s, v, p1, r1, n1, v1, s1, _⟩ := slot j a (map_some_get h1) m1
    obtain ⟨i', s', v', p2, r2, n2, v2, s2, _⟩ := slot k b (map_some_get h2) m2
    have z1 := map_some_get h3
    have z2 := map_some_get h4
    rw [v1] at z1; cases z1
    rw [v2] at z2; cases z2
    have e := R.ne i i' s s' p r1 r2 n1 n2 s1 s2
    subst e
    exact nodupS_at r1 n1 nd p1 p2
  · obtain ⟨j, hj⟩ := List.getElem?_of_mem ha
    obtain ⟨pk, h1, h2⟩ := argsOf_get ea hj
    cases pk with
    | vl d => cases h2; cases z
    | sl i =>
      obtain ⟨s, hs, hd, hmm⟩ := argOf_slot h2
      rcases hmm with ⟨_, q⟩ | ⟨n, q⟩
      · rw [q] at z; cases z
      · rw [q] at z; exact n z
theorem call_rel (R : Rel K F ρ σ H) (P : PkL K F σ vs pks) (ea : argsOf ρ pks = some as) (nd : nodupS ρ pks = true) (C : CallPost K F H as vs F' H' os v r) :
    Rel K F' (wb pks os ρ) σ H' ∧ StpE F ρ σ H F' (wb pks os ρ) H' := by
  -- an argument that may be written is a slot of one's own
  have parS : ∀ (k : Nat) (a : Sl) (p : Addr), as[k]? = some a → a.m = .par → vs[k]? = some (.ref p) → ∃ i s, pks[k]? = some (.sl i) ∧ ρ[i]? = some (some s) ∧ (s.m = .own ∨ s.m = .par) ∧ σ[i]? = some (some (.ref p)) := fun k a p e hm hv => by
    obtain ⟨pk, h1, h2⟩ := argsOf_get ea e
    obtain ⟨v, hv', ok⟩ := P.getP h1
    rw [hv] at hv'; cases hv'
    cases pk with
    | vl d => cases h2; cases hm
    | sl i =>
      obtain ⟨s, hs, hd, hmm⟩ := argOf_slot h2
      refine ⟨i, s, h1, hs, ?_, ok⟩
      rcases hmm with ⟨q, _⟩ | ⟨_, q⟩
      · exact .inl q
      · exact .inr (by rw [← q]; exact hm)
  have bk : ∀ (j : Nat) (s' : Sl), (wb pks os ρ)[j]? = some (some s') → ∃ s, ρ[j]? = some (some s) ∧ s.m = s'.m := fun j s' h => by
    obtain ⟨s0, h1, h2, _⟩ := wb_get pks os ρ h
    exact ⟨s0, h1, h2⟩
  refine ⟨⟨C.leH, by rw [wb_len]; exact R.len, fun i s e => ?_, fun i j s t p h1 h2 m1 m2 h3 h4 => ?_⟩, ⟨⟨C.leF, fun a o h n => C.keep a o h fun k s e hm hv => ?_, C.there, fun a o h => ?_, fun a h => .inl ?_, fun j m d hm z => ⟨wb_fwd pks os ρ d z, rfl⟩, fun j m d hm z => ?_⟩, fun j s h _ => bk j s h⟩⟩
  · obtain ⟨s0, h1, h2, h3⟩ := wb_get pks os ρ e
    obtain ⟨w, hw, ok⟩ := R.at_ i s0 h1
    refine ⟨w, hw, ?_⟩
    rcases h3 with ⟨rfl, h3⟩ | ⟨j, o, e1, e2, e3, e4⟩
    · by_cases hm : s.m = .fz
      · exact .mk_fz hm ((ok.fz hm).mono C.leF)
      · obtain ⟨p, rfl, fp, oa⟩ := ok.nfz hm
        obtain ⟨u, hu⟩ := oa.has
        have np : ∀ (j : Nat), pks[j]? ≠ some (Pk.sl i) := fun j z => by
          rcases h3 with h3 | h3
          · exact hm h3
          · obtain ⟨a, ha, he⟩ := argsOf_getP ea z
            rw [argOf_mk h1] at he
            cases he
            obtain ⟨d', q, _⟩ := C.args j _ ha (by
              show (if s.m = .own then Md.par else s.m) ≠ .fz
              split
              · intro z; cases z
              · exact hm)
            rw [h3 j z] at q; cases q
        refine .mk_n hm ?_ (oa.mono C.leF ((C.keep p u hu fun k a ea' hma hv => ?_).trans hu.symm))
        · cases z : F' p with
          | none => rfl
          | some x =>
            rcases C.newF p x z with ⟨o', q⟩ | q
            · rw [fp] at q; cases q
            · rw [hu] at q; cases q
        · obtain ⟨i', s', q1, q2, q3, q4⟩ := parS k a p ea' hma hv
          have e := R.ne i i' s s' p h1 q2 hm (by rcases q3 with q | q <;> (rw [q]; intro z; cases z)) hw q4
          subst e
          exact np k q1
    · obtain ⟨a, ha, he⟩ := argsOf_getP ea e1
      rw [argOf_mk h1] at he
      cases he
      have nfz : s0.m ≠ .fz := by rw [h2]; exact e4
      obtain ⟨d', q1, p, q2, q3, q4⟩ := C.args j _ ha (by
        show (if s0.m = .own then Md.par else s0.m) ≠ .fz
        split
        · intro z; cases z
        · exact nfz)
      rw [e2] at q1; cases q1
      obtain ⟨v', hv', okv⟩ := P.getP e1
      rw [q2] at hv'; cases hv'
      have okv' : σ[i]? = some (some (.ref p)) := okv
      rw [okv'] at hw; cases hw
      refine .mk_n e4 q3 ?_
      rw [e3]; exact q4
  · obtain ⟨s0, e1, q1⟩ := bk i s h1
    obtain ⟨t0, e2, q2⟩ := bk j t h2
    exact R.ne i j s0 t0 p e1 e2 (by rw [q1]; exact m1) (by rw [q2]; exact m2) h3 h4
  · obtain ⟨i', s', q1, q2, q3, q4⟩ := parS k s a e hm hv
    exact n ⟨i', s', q2, q3, q4⟩
  · rcases C.newF a o h with q | q
    · exact .inl q
    · exact .inr (.inl q)
  · obtain ⟨i, s, h1, h2, h3⟩ := h
    obtain ⟨s0, e1, q1⟩ := bk i s h1
    exact ⟨i, s0, e1, by rw [q1]; exact h2, h3⟩
  · obtain ⟨⟨m', d'⟩, e1, q1⟩ := bk j _ z
    cases q1
    exact ⟨d', e1⟩
end
theorem tE_call {K : PySem.W.Frag} {fM : FnM} {np : Nat} {os : List Opd} {σ : L2.St} {H : Hp} {Q : VK} {E : XK} (hnp : os.length = np) (h : tE K (fCall fM os) σ H Q) : tA K os σ H fun vs H1 => spM K np fM (vs ++ []) H1 Q E := by
  obtain ⟨F, ρ, s, ρ2, R, e, post⟩ := h
  obtain ⟨⟨pks, ρ1⟩, e1, e⟩ := bind_some e
  obtain ⟨as, e2, e⟩ := bind_some e
  split at e
  · rename_i nd
    obtain ⟨⟨r, outs⟩, e3, e⟩ := bind_some e
    cases e
    refine ⟨F, ρ, pks, ρ1, R, e1, fun vs F1 H1 R1 S1 P1 => ?_⟩
    obtain ⟨Ra, no⟩ := args_rel R1 P1 e2 nd
    rw [List.append_nil]
    have hl : as.length = np := by
      rw [argsOf_len e2, ← hnp]
      have : ∀ (os : List Opd) (ρ ρ1 : Rho) (pks : List Pk), evalOs os ρ = some (pks, ρ1) → pks.length = os.length := by
        intro os
        induction os with
        | nil => intro ρ ρ1 pks h; cases h; rfl
        | cons o os ih =>
          intro ρ ρ1 pks h
          obtain ⟨⟨pa, ρa⟩, _, h⟩ := bind_some h
          obtain ⟨⟨pb, ρb⟩, hb, h⟩ := bind_some h
          cases h
          rw [List.length_cons, List.length_cons, ih _ _ _ hb]
      exact this os ρ ρ1 pks e1
    refine ⟨F1, as, _, _, hl, Ra, no, e3, fun v F' H' C => ?_⟩
    obtain ⟨R2, S2⟩ := call_rel R1 P1 e2 nd C
    exact post v F' H' R2 (S1.trans S2) (C.res.back S1)
  · cases e
end VI

namespace VI
open PySem PySem.Spec PyProof.Rows L2

/-! ### list comprehensions -/
@[simp] def wipeR (ρ : Rho) : List Nat → Rho
  | [] => ρ
  | v :: vs => (wipeR ρ vs).set v none
theorem wipeR_len (ρ : Rho) : ∀ is, (wipeR ρ is).length = ρ.length
  | [] => rfl
  | v :: vs => by unfold wipeR; rw [List.length_set, wipeR_len ρ vs]
theorem wipeR_get {ρ : Rho} {i : Nat} {s : Sl} : ∀ {is : List Nat}, (wipeR ρ is)[i]? = some (some s) → ρ[i]? = some (some s) ∧ i ∉ is
  | [], h => ⟨h, by simp⟩
  | v :: vs, h => by
    unfold wipeR at h
    rcases getElem?_set' h with ⟨_, z⟩ | ⟨n, z⟩
    · cases z
    · obtain ⟨h1, h2⟩ := wipeR_get z
      exact ⟨h1, by simp only [List.mem_cons, not_or]; exact ⟨n, h2⟩⟩
theorem wipeR_out {ρ : Rho} {i : Nat} : ∀ {is : List Nat}, i ∉ is → (wipeR ρ is)[i]? = ρ[i]?
  | [], _ => rfl
  | v :: vs, h => by
    unfold wipeR
    simp only [List.mem_cons, not_or] at h
    rw [List.getElem?_set_ne (Ne.symm h.1)]
    exact wipeR_out h.2
theorem wipe_out {σ : L2.St} {i : Nat} : ∀ {is : List Nat}, i ∉ is → (wipe σ is)[i]? = σ[i]?
  | [], _ => rfl
  | v :: vs, h => by
    unfold wipe
    simp only [List.mem_cons, not_or] at h
    rw [List.getElem?_set_ne (Ne.symm h.1)]
    exact wipe_out h.2
section
variable {K : PySem.W.Frag} {F F' H H' : Hp} {ρ ρ' : Rho} {σ σ' : L2.St} {p : Addr} {is : List Nat}
/-- slots that hold nothing of `is`, the same elsewhere -/
theorem Rel.onto (R : Rel K F ρ σ H) (hn : ∀ (i : Nat) (s : Sl), ρ[i]? = some (some s) → i ∉ is) (e : wipe σ' is = wipe σ is) : Rel K F ρ σ' H := by
  have el : σ'.length = σ.length := by rw [← wipe_length σ' is, e, wipe_length]
  have eo : ∀ i, i ∉ is → σ'[i]? = σ[i]? := fun i hi => by rw [← wipe_out hi, e, wipe_out hi]
  refine ⟨R.le, by rw [el]; exact R.len, fun i s h => ?_, fun i j s t q h1 h2 m1 m2 h3 h4 => ?_⟩
  · obtain ⟨v, hv, ok⟩ := R.at_ i s h
    exact ⟨v, by rw [eo i (hn i s h)]; exact hv, ok⟩
  · rw [eo i (hn i s h1)] at h3
    rw [eo j (hn j t h2)] at h4
    exact R.ne i j s t q h1 h2 m1 m2 h3 h4
theorem Rel.wipe (R : Rel K F ρ σ H) (is : List Nat) : Rel K F (wipeR ρ is) σ H := by
  refine ⟨R.le, by rw [wipeR_len]; exact R.len, fun i s h => R.at_ i s (wipeR_get h).1, fun i j s t q h1 h2 => R.ne i j s t q (wipeR_get h1).1 (wipeR_get h2).1⟩
/-- no slot of one's own holds p -/
def NotP (ρ : Rho) (σ : L2.St) (p : Addr) : Prop := ∀ (j : Nat) (s : Sl), ρ[j]? = some (some s) → s.m ≠ .fz → σ[j]? ≠ some (some (.ref p))
theorem NotP.own (h : NotP ρ σ p) : ¬ Own ρ σ p := fun ⟨j, s, h1, h2, h3⟩ => h j s h1 (by rcases h2 with h2 | h2 <;> (rw [h2]; intro z; cases z)) h3
theorem Stp.notP {o : HO} (S : Stp F ρ σ H F' ρ' σ' H') (h : NotP ρ σ p) (hp : H p = some o) : NotP ρ' σ' p := fun j s e hm z => by
  obtain ⟨m, d⟩ := s
  have fx : m.fixed → False := fun hf => by
    obtain ⟨d', q⟩ := S.bwd j m d hf e
    obtain ⟨_, q2⟩ := S.fwd j m d' hf q
    exact h j _ q hm (by rw [← q2]; exact z)
  cases m with
  | fz => exact hm rfl
  | own =>
    rcases S.ownO p ⟨j, _, e, rfl, z⟩ with q | q
    · exact h.own q.own
    · rw [hp] at q; cases q
  | par => exact fx trivial
  | lent => exact fx trivial
theorem Stp.prot {o : HO} (S : Stp F ρ σ H F' ρ' σ' H') (h : NotP ρ σ p) (hp : H p = some o) (hF : F p = none) : NotP ρ' σ' p ∧ H' p = some o ∧ F' p = none := by
  refine ⟨S.notP h hp, S.keep p o hp h.own, ?_⟩
  cases z : F' p with
  | none => rfl
  | some u =>
    rcases S.newF p u z with ⟨o', q⟩ | q | q
    · rw [hF] at q; cases q
    · rw [hp] at q; cases q
    · exact absurd q.own h.own
/-- a protected object turns -/
theorem Rel.updP {o' : HO} (R : Rel K F ρ σ H) (h : NotP ρ σ p) (hF : F p = none) : Rel K F ρ σ (upd H p o') := by
  refine ⟨R.le.upd2 hF, R.len, fun i s e => ?_, R.ne⟩
  obtain ⟨v, hv, ok⟩ := R.at_ i s e
  refine ⟨v, hv, ?_⟩
  by_cases hm : s.m = .fz
  · exact .mk_fz hm (ok.fz hm)
  · obtain ⟨q, rfl, fq, oq⟩ := ok.nfz hm
    have ne : q ≠ p := fun z => h i s e hm (by rw [hv, z])
    exact .mk_n hm fq (oq.mono (Le.refl F) (upd_ne ne))
end
/-- a target leaves what is one's own -/
def NB (b : MG) : Prop := ∀ d ρ ρ', b d ρ = some ρ' → ∀ (j : Nat) (s : Sl), ρ'[j]? = some (some s) → s.m ≠ .fz → ρ[j]? = some (some s)
theorem nb_name (i : Nat) : NB (bindN i) := fun d ρ ρ' e j s h hm => by
  unfold bindN at e
  split at e
  · cases e
    rcases getElem?_set' h with ⟨_, z⟩ | ⟨_, z⟩
    · cases z; exact absurd rfl hm
    · exact z
  · cases e
theorem nb_all : ∀ (is : List Nat) (ds : List D) (ρ ρ' : Rho), bindA is ds ρ = some ρ' → ∀ (j : Nat) (s : Sl), ρ'[j]? = some (some s) → s.m ≠ .fz → ρ[j]? = some (some s)
  | [], [], ρ, ρ', e, j, s, h, _ => by cases e; exact h
  | i :: is, d :: ds, ρ, ρ', e, j, s, h, hm => by
    obtain ⟨ρ1, e1, e2⟩ := Option.bind_eq_some_iff.mp (show (bindN i d ρ).bind (bindA is ds) = some ρ' from e)
    exact nb_name i d ρ ρ1 e1 j s (nb_all is ds ρ1 ρ' e2 j s h hm) hm
  | [], _ :: _, _, _, h, _, _, _, _ => by cases h
  | _ :: _, [], _, _, h, _, _, _, _ => by cases h
theorem nb_tup (is : List Nat) : NB (bindT is) := fun d ρ ρ' e j s h hm => by
  cases d with
  | tup ds => exact nb_all is ds ρ ρ' e j s h hm
  | _ => cases e

def compM (is : List Nat) (b : MG) (t : MT) (f : ME) : List D → List D → Rho → Option (List D × Rho)
  | [], acc, ρ => some (acc, ρ)
  | d :: ds, acc, ρ => do
    let ρ1 ← b d ρ
    let (c, ρ2) ← t ρ1
    if c = true then do
      let (r, ρ3) ← f ρ2
      compM is b t f ds (acc ++ [r.d]) (wipeR ρ3 is)
    else compM is b t f ds acc (wipeR ρ2 is)
theorem compM_len {is : List Nat} {b : MG} {t : MT} {f : ME} : ∀ {ds acc acc' : List D} {ρ ρ' : Rho}, compM is b t f ds acc ρ = some (acc', ρ') → acc.length ≤ acc'.length
  | [], acc, acc', ρ, ρ', h => by cases h; exact Nat.le_refl _
  | d :: ds, acc, acc', ρ, ρ', h => by
    obtain ⟨ρ1, _, h⟩ := bind_some h
    obtain ⟨⟨c, ρ2⟩, _, h⟩ := bind_some h
    cases c with
    | true =>
      obtain ⟨⟨r, ρ3⟩, _, h⟩ := bind_some h
      have := compM_len h
      rw [List.length_append] at this
      exact Nat.le_of_succ_le this
    | false => exact compM_len h
def fYes : MT := fun ρ => some (true, ρ)
def fComp (items : D → Option (List D)) (src : Opd) (is : List Nat) (b : MG) (t : MT) (f : ME) : ME := fun ρ => do
  let (pk, ρ1) ← evalO src ρ
  let d ← look pk ρ1
  let ds ← items d
  if is.all (free (lend pk ρ1)) = true then do
    let (acc, ρ2) ← compM is b t f ds [] (wipeR (lend pk ρ1) is)
    if acc.length ≤ sizeLine then pure (⟨.own, .lst acc⟩, back pk ρ1 ρ2) else none
  else none
/-- over operands that are not walked themselves -/
def fCompN (g : List D → Option (List D)) (os : List Opd) (is : List Nat) (b : MG) (t : MT) (f : ME) : ME := fun ρ => do
  let (pks, ρ1) ← evalOs os ρ
  let es ← looks ρ1 pks
  let ds ← g es
  if is.all (free ρ1) = true then do
    let (acc, ρ2) ← compM is b t f ds [] (wipeR ρ1 is)
    if acc.length ≤ sizeLine then pure (⟨.own, .lst acc⟩, ρ2) else none
  else none
theorem comp_ok {K : PySem.W.Frag} {F H : Hp} {ρ ρ' : Rho} {σ : L2.St} {J : It} {ds acc : List D} {is : List Nat} {b : MG} {t : MT} {f : ME} {p : Addr} {Qd : Hp → Prop} (R : Rel K F ρ σ H) (it : Itn K F (wipeR ρ is) σ H J ds) (hb : NB b) (hf : is.all (free ρ) = true) (hp : H p = none)
    (e : compM is b t f ds [] (wipeR ρ is) = some (acc, ρ')) (hz : acc.length ≤ sizeLine)
    (post : ∀ F' H', Rel K F' ρ' σ H' → StpE F ρ σ H F' ρ' H' → F' p = none → OwnAt K F' H' p (.lst acc) → Qd H') :
    ∃ W : Nat → Nat → Hp → Prop, (∃ m, W 0 m (upd H p (.lst []))) ∧ ∀ i m H, W i m H →
      (J.stop i H ∧ Qd H) ∨ (J.go i H ∧ ∃ Nx : Hp → Prop, (∀ H', Nx H' → ∃ m', m' < m ∧ W (i + 1) m' H') ∧ ∀ x H', J.yld i H x H' → tG K is b x (wipe σ is) H' fun σ2 H2 => wipe σ2 is = wipe σ is ∧ tT K t σ2 H2 fun c H3 =>
        if c = true then tE K f σ2 H3 fun y H4 => ∃ acc, H4 p = some (.lst acc) ∧ acc.length < sizeLine ∧ Nx (upd H4 p (.lst (acc ++ [y]))) else Nx H3) := by
  obtain ⟨G, Y, w, hG, hY⟩ := it
  have hFp : F p = none := R.le.none hp
  have wn : ∀ (i : Nat) (s : Sl), (wipeR ρ is)[i]? = some (some s) → i ∉ is := fun i s h => (wipeR_get h).2
  have Rw : Rel K F (wipeR ρ is) σ H := R.wipe is
  have np0 : NotP (wipeR ρ is) σ p := fun j s h hm z => by
    obtain ⟨v, hv, ok⟩ := Rw.at_ j s h
    obtain ⟨q, rfl, _, oa⟩ := ok.nfz hm
    rw [hv] at z; cases z
    obtain ⟨u, hu⟩ := oa.has
    rw [hp] at hu; cases hu
  have eww : wipe (wipe σ is) is = wipe σ is := by
    have aux : ∀ (l : List Nat) (τ : L2.St), (∀ i ∈ l, i ∈ is) → wipe (wipe τ l) is = wipe τ is := by
      intro l
      induction l with
      | nil => intro τ _; rfl
      | cons v vs ih => intro τ h; show wipe ((wipe τ vs).set v none) is = wipe τ is; rw [wipe_set (h v List.mem_cons_self)]; exact ih τ fun i hi => h i (List.mem_cons_of_mem _ hi)
    exact aux is σ fun i h => h
  -- the state between two turns, over σ
  refine lc_it w (fun k H' => ∃ F' ρ1 acc1 accV, Rel K F' ρ1 σ H' ∧ Stp F (wipeR ρ is) σ H F' ρ1 σ H' ∧ (∀ (i : Nat) (s : Sl), ρ1[i]? = some (some s) → i ∉ is) ∧
      (∀ (j : Nat) (s : Sl), ρ1[j]? = some (some s) → s.m ≠ .fz → ∃ s0, (wipeR ρ is)[j]? = some (some s0) ∧ s0.m = s.m) ∧ NotP ρ1 σ p ∧ H' p = some (.lst accV) ∧ F' p = none ∧ RepL K F' accV acc1 ∧
      compM is b t f (ds.drop k) acc1 ρ1 = some (acc, ρ')) ?_ (fun i H' _ ⟨F', ρ1, _, _, R1, S1, _⟩ => hG F' ρ1 σ H' S1 R1.le) (fun k x H1 H2 hk ⟨F1, ρ1, acc1, accV, R1, S1, n1, b1, np1, hp1, fp1, ra1, e1⟩ y => ?_) (fun H' ⟨F', ρ1, acc1, accV, R1, S1, n1, b1, np1, hp1, fp1, ra1, e1⟩ => ?_)
  · refine ⟨F, wipeR ρ is, [], [], Rw.updP np0 hFp, ⟨Le.refl F, fun a o h _ => by rw [upd_ne (ne_of_none h hp)]; exact h, fun a o h => ⟨o, by rw [upd_ne (ne_of_none h hp)]; exact h⟩, fun _ o h => .inl ⟨o, h⟩, fun _ h => .inl h, fun _ _ d _ h => ⟨⟨d, h⟩, rfl⟩, fun _ _ d _ h => ⟨d, h⟩⟩, wn, fun j s h _ => ⟨s, h, rfl⟩, np0, upd_same, hFp, .nil, by rw [List.drop_zero]; exact e⟩
  · obtain ⟨F2, d, hd, N⟩ := hY k F1 ρ1 σ H1 x H2 hk S1 R1.le y
    obtain ⟨R2, S2⟩ := R1.new N
    obtain ⟨np2, hp2, fp2⟩ := S2.stp.prot np1 hp1 fp1
    have ed : ds.drop k = d :: ds.drop (k + 1) := by
      rw [List.drop_eq_getElem_cons hk]
      congr 1
      rw [List.getElem?_eq_getElem hk] at hd
      exact Option.some.inj hd
    rw [ed] at e1
    obtain ⟨ρa, ea, e1⟩ := bind_some e1
    obtain ⟨⟨c, ρb⟩, eb, e1⟩ := bind_some e1
    -- over the wiped slots
    have R2w : Rel K F2 ρ1 (wipe σ is) H2 := R2.onto n1 eww
    refine ⟨F2, ρ1, d, ρa, R2w, N.res, ea, fun σ2 ew R3 S3 => ⟨ew.trans eww, ?_⟩⟩
    have ew' : wipe σ2 is = wipe σ is := ew.trans eww
    have np2w : NotP ρ1 (wipe σ is) p := fun j s h hm z => np2 j s h hm (by rw [wipe_out (n1 j s h)] at z; exact z)
    obtain ⟨np3, hp3, fp3⟩ := S3.prot np2w hp2 fp2
    refine ⟨F2, ρa, c, ρb, R3, eb, fun F4 H4 R4 S4 => ?_⟩
    obtain ⟨np4, hp4, fp4⟩ := S4.stp.prot np3 hp3 fp3
    -- a turn's end: from the slots that were bound back to σ
    have fin : ∀ (F5 : Hp) (ρc : Rho) (H5 H6 : Hp) (acc2 : List D) (accW : List V), Rel K F5 ρc σ2 H5 → StpE F2 ρa σ2 H2 F5 ρc H5 → (∀ a, a ≠ p → H6 a = H5 a) → H6 p = some (.lst accW) → F5 p = none → NotP ρc σ2 p → RepL K F5 accW acc2 →
        compM is b t f (ds.drop (k + 1)) acc2 (wipeR ρc is) = some (acc, ρ') →
        ∃ F' ρ1 acc1 accV, Rel K F' ρ1 σ H6 ∧ Stp F (wipeR ρ is) σ H F' ρ1 σ H6 ∧ (∀ (i : Nat) (s : Sl), ρ1[i]? = some (some s) → i ∉ is) ∧ (∀ (j : Nat) (s : Sl), ρ1[j]? = some (some s) → s.m ≠ .fz → ∃ s0, (wipeR ρ is)[j]? = some (some s0) ∧ s0.m = s.m) ∧ NotP ρ1 σ p ∧ H6 p = some (.lst accV) ∧ F' p = none ∧ RepL K F' accV acc1 ∧ compM is b t f (ds.drop (k + 1)) acc1 ρ1 = some (acc, ρ') := by
      intro F5 ρc H5 H6 acc2 accW R5 S5 h6 hp6 fp5 np5 ra5 e5
      have eo : ∀ i, i ∉ is → σ2[i]? = σ[i]? := fun i hi => by rw [← wipe_out hi, ew', wipe_out hi]
      have e6 : H6 = upd H5 p (.lst accW) := by
        funext a
        by_cases z : a = p
        · subst z; rw [upd_same]; exact hp6
        · rw [upd_ne z]; exact h6 a z
      have n5 : ∀ (i : Nat) (s : Sl), (wipeR ρc is)[i]? = some (some s) → i ∉ is := fun i s h => (wipeR_get h).2
      have R6 : Rel K F5 (wipeR ρc is) σ H5 := (R5.wipe is).onto n5 ew'.symm
      have np6 : NotP (wipeR ρc is) σ p := fun j s h hm z => np5 j s (wipeR_get h).1 hm (by rw [eo j (n5 j s h)]; exact z)
      -- modes, from the bound slots back
      have md : ∀ (j : Nat) (s : Sl), ρc[j]? = some (some s) → s.m ≠ .fz → ∃ s0, (wipeR ρ is)[j]? = some (some s0) ∧ s0.m = s.m := fun j s h hm => by
        obtain ⟨s1, h1, m1⟩ := S5.back j s h hm
        have hm1 : s1.m ≠ .fz := by rw [m1]; exact hm
        obtain ⟨s0, h0, m0⟩ := b1 j s1 (hb d ρ1 ρa ea j s1 h1 hm1) hm1
        exact ⟨s0, h0, m0.trans m1⟩
      -- the step, over σ: from ahead of the loop to the turn's start, the binding, the rest
      have SA : Stp F (wipeR ρ is) σ H F2 ρ1 σ H2 := S1.trans S2.stp
      have SB : Stp F2 ρ1 (wipe σ is) H2 F5 ρc σ2 H5 := S3.trans S5.stp
      have S6 : Stp F (wipeR ρ is) σ H F5 (wipeR ρc is) σ H6 := by
        have ownW : ∀ a, Own ρ1 (wipe σ is) a → Own ρ1 σ a := fun a ⟨j, s, h1, h2, h3⟩ => ⟨j, s, h1, h2, by rw [wipe_out (n1 j s h1)] at h3; exact h3⟩
        have ownOW : ∀ a, OwnO ρ1 (wipe σ is) a → OwnO ρ1 σ a := fun a ⟨j, s, h1, h2, h3⟩ => ⟨j, s, h1, h2, by rw [wipe_out (n1 j s h1)] at h3; exact h3⟩
        have SB' : Stp F2 ρ1 σ H2 F5 (wipeR ρc is) σ H5 := by
          refine ⟨SB.le, fun a o h n => SB.keep a o h fun z => n (ownW a z), SB.there, fun a o h => ?_, fun a h => ?_, fun j m dd hm z => ?_, fun j m dd hm z => ?_⟩
          · rcases SB.newF a o h with q | q | q
            · exact .inl q
            · exact .inr (.inl q)
            · exact .inr (.inr (ownOW a q))
          · obtain ⟨j, s, h1, h2, h3⟩ := h
            have q := wipeR_get h1
            rcases SB.ownO a ⟨j, s, q.1, h2, by rw [eo j q.2]; exact h3⟩ with z | z
            · exact .inl (ownOW a z)
            · exact .inr z
          · obtain ⟨⟨d', e'⟩, _⟩ := SB.fwd j m dd hm z
            exact ⟨⟨d', by rw [wipeR_out (n1 j _ z)]; exact e'⟩, rfl⟩
          · exact SB.bwd j m dd hm (wipeR_get z).1
        have SC := SA.trans SB'
        rw [e6]
        refine ⟨SC.le, fun a o h n => ?_, fun a o h => ?_, SC.newF, SC.ownO, SC.fwd, SC.bwd⟩
        · rw [upd_ne (ne_of_none h hp)]; exact SC.keep a o h n
        · rw [upd_ne (ne_of_none h hp)]; exact SC.there a o h
      refine ⟨F5, wipeR ρc is, acc2, accW, ?_, S6, n5, fun j s h hm => md j s (wipeR_get h).1 hm, np6, hp6, fp5, ra5, e5⟩
      rw [e6]
      exact R6.updP np6 fp5
    cases c with
    | false =>
      refine iteF ?_
      exact fin F4 ρb H4 H4 acc1 accV R4 S4 (fun _ _ => rfl) hp4 fp4 np4 (ra1.mono (S2.stp.le.trans S4.stp.le)) e1
    | true =>
      refine iteT ?_
      obtain ⟨⟨r, ρc⟩, ec, e1⟩ := bind_some e1
      refine ⟨F4, ρb, r, ρc, R4, ec, fun v F5 H5 R5 S5 res => ?_⟩
      obtain ⟨F6, R6, S6, rp⟩ := res.frozen R4 R5 S5
      obtain ⟨np6, hp6, fp6⟩ := S6.stp.prot np4 hp4 fp4
      have le16 : Le F1 F6 := (S2.stp.le.trans S4.stp.le).trans S6.stp.le
      refine ⟨accV, hp6, ?_, fin F6 ρc H5 (upd H5 p (.lst (accV ++ [v]))) (acc1 ++ [r.d]) (accV ++ [v]) R6 (S4.trans S6) (fun a z => upd_ne z) upd_same fp6 np6 ((ra1.mono le16).append (.one rp)) e1⟩
      have := compM_len e1
      rw [List.length_append] at this
      rw [ra1.length]
      exact Nat.lt_of_lt_of_le (Nat.lt_succ_self _) (Nat.le_trans this hz)
  · rw [List.drop_length] at e1
    cases e1
    refine post F' H' R1 ⟨⟨S1.le, fun a o h n => S1.keep a o h fun ⟨j, s, h1, h2, h3⟩ => n ⟨j, s, (wipeR_get h1).1, h2, h3⟩, S1.there, fun a o h => ?_, fun a h => ?_, fun j m d hm z => ?_, fun j m d hm z => ?_⟩, fun j s h hm => ?_⟩ fp1 ⟨accV, hp1, ra1⟩
    · rcases S1.newF a o h with q | q | ⟨j, s, h1, h2, h3⟩
      · exact .inl q
      · exact .inr (.inl q)
      · exact .inr (.inr ⟨j, s, (wipeR_get h1).1, h2, h3⟩)
    · rcases S1.ownO a h with ⟨j, s, h1, h2, h3⟩ | q
      · exact .inl ⟨j, s, (wipeR_get h1).1, h2, h3⟩
      · exact .inr q
    · have nj : j ∉ is := fun hj => free_not (List.all_eq_true.mp hf j hj) hm z
      exact S1.fwd j m d hm (by rw [wipeR_out nj]; exact z)
    · obtain ⟨d', q⟩ := S1.bwd j m d hm z
      exact ⟨d', (wipeR_get q).1⟩
    · obtain ⟨s0, q, m0⟩ := b1 j s h hm
      exact ⟨s0, (wipeR_get q).1, m0⟩
end VI

namespace VI
open PySem PySem.Spec PyProof.Rows L2

theorem Stp.unwipe {F F' H H' : Hp} {ρ ρ' : Rho} {σ σ' : L2.St} {is : List Nat} (hf : is.all (free ρ) = true) (S : Stp F (wipeR ρ is) σ H F' ρ' σ' H') : Stp F ρ σ H F' ρ' σ' H' := by
  refine ⟨S.le, fun a o h n => S.keep a o h fun ⟨j, s, h1, h2, h3⟩ => n ⟨j, s, (wipeR_get h1).1, h2, h3⟩, S.there, fun a o h => ?_, fun a h => ?_, fun j m d hm z => ?_, fun j m d hm z => ?_⟩
  · rcases S.newF a o h with q | q | ⟨j, s, h1, h2, h3⟩
    · exact .inl q
    · exact .inr (.inl q)
    · exact .inr (.inr ⟨j, s, (wipeR_get h1).1, h2, h3⟩)
  · rcases S.ownO a h with ⟨j, s, h1, h2, h3⟩ | q
    · exact .inl ⟨j, s, (wipeR_get h1).1, h2, h3⟩
    · exact .inr q
  · have nj : j ∉ is := fun hj => free_not (List.all_eq_true.mp hf j hj) hm z
    exact S.fwd j m d hm (by rw [wipeR_out nj]; exact z)
  · obtain ⟨d', q⟩ := S.bwd j m d hm z
    exact ⟨d', (wipeR_get q).1⟩
theorem Itn.wiped {K : PySem.W.Frag} {F H : Hp} {ρ : Rho} {σ : L2.St} {J : It} {ds : List D} {is : List Nat} (hf : is.all (free ρ) = true) (h : Itn K F ρ σ H J ds) : Itn K F (wipeR ρ is) σ H J ds := by
  obtain ⟨G, Y, w, hG, hY⟩ := h
  exact ⟨G, Y, w, fun F' ρ' σ' H' S l => hG F' ρ' σ' H' (S.unwipe hf) l, fun i F' ρ' σ' H' x H'' hi S l y => hY i F' ρ' σ' H' x H'' hi (S.unwipe hf) l y⟩
theorem StpE.lend {K : PySem.W.Frag} {F F' H H' : Hp} {ρ ρ' : Rho} {σ : L2.St} {pk : Pk} (R : Rel K F ρ σ H) (R' : Rel K F' ρ' σ H') (S : StpE F (VI.lend pk ρ) σ H F' ρ' H') : Rel K F' (VI.back pk ρ ρ') σ H' ∧ StpE F ρ σ H F' (VI.back pk ρ ρ') H' := by
  obtain ⟨R2, S2⟩ := S.stp.lend R R'
  refine ⟨R2, S2, fun j s h hm => ?_⟩
  rcases lend_cases pk ρ with ⟨e, b⟩ | ⟨i, m, d, rfl, hmm, e, el, b⟩
  · rw [b] at h
    obtain ⟨s0, h0, m0⟩ := S.back j s h hm
    rw [e] at h0
    exact ⟨s0, h0, m0⟩
  · have hi : i < ρ.length := (List.getElem?_eq_some_iff.mp e).1
    have li : (VI.lend (.sl i) ρ)[i]? = some (some ⟨.lent, d⟩) := by rw [el, List.getElem?_set_self hi]
    obtain ⟨⟨d', e'⟩, _⟩ := S.stp.fwd i .lent d trivial li
    rw [b ρ' d' e'] at h
    rcases getElem?_set' h with ⟨ej, z⟩ | ⟨n, z⟩
    · cases z
      exact ⟨⟨m, d⟩, by rw [ej]; exact e, rfl⟩
    · obtain ⟨s0, h0, m0⟩ := S.back j s z hm
      rw [el, List.getElem?_set_ne (Ne.symm n)] at h0
      exact ⟨s0, h0, m0⟩
theorem tE_comp {K : PySem.W.Frag} {items : D → Option (List D)} {wi : TE → TI} {src : Opd} {is : List Nat} {b : MG} {t : MT} {f : ME} {σ : L2.St} {H : Hp} {Q : VK} (hw : Walks K items wi) (hb : NB b) (h : tE K (fComp items src is b t f) σ H Q) :
    tLc (wi (tO K src)) (tG K is b) (tT K t) (tE K f) is σ H Q := by
  obtain ⟨F, ρ, r, ρ', R, e, post⟩ := h
  obtain ⟨⟨pk, ρ1⟩, e1, e⟩ := bind_some e
  obtain ⟨d, e2, e⟩ := bind_some e
  obtain ⟨ds, e3, e⟩ := bind_some e
  split at e
  · rename_i hf
    obtain ⟨⟨acc, ρ2⟩, e4, e⟩ := bind_some e
    dsimp only at e
    split at e
    · rename_i hz
      cases e
      refine hw src σ H _ ⟨F, ρ, pk, ρ1, d, ds, R, e1, e2, e3, fun F1 H1 J R1 S1 it p hp => ?_⟩
      refine comp_ok (R1.lend pk) (it.wiped hf) hb hf hp e4 hz fun F2 H2 R2 S2 fp oa => ?_
      obtain ⟨R3, S3⟩ := S2.lend R1 R2
      exact post (.ref p) F2 H2 R3 (S1.trans S3) ⟨p, rfl, none_back S1.stp hp, fp, oa⟩
    · cases e
  · cases e
theorem tE_compN {K : PySem.W.Frag} {g : List D → Option (List D)} {wi : TA → TI} {os : List Opd} {is : List Nat} {b : MG} {t : MT} {f : ME} {σ : L2.St} {H : Hp} {Q : VK} (hw : WalksN K g wi) (hb : NB b) (h : tE K (fCompN g os is b t f) σ H Q) :
    tLc (wi (tA K os)) (tG K is b) (tT K t) (tE K f) is σ H Q := by
  obtain ⟨F, ρ, r, ρ', R, e, post⟩ := h
  obtain ⟨⟨pks, ρ1⟩, e1, e⟩ := bind_some e
  obtain ⟨es, e2, e⟩ := bind_some e
  obtain ⟨ds, e3, e⟩ := bind_some e
  split at e
  · rename_i hf
    obtain ⟨⟨acc, ρ2⟩, e4, e⟩ := bind_some e
    dsimp only at e
    split at e
    · rename_i hz
      cases e
      refine hw os σ H _ ⟨F, ρ, pks, ρ1, es, ds, R, e1, e2, e3, fun F1 H1 J R1 S1 it p hp => ?_⟩
      refine comp_ok R1 (it.wiped hf) hb hf hp e4 hz fun F2 H2 R2 S2 fp oa => ?_
      exact post (.ref p) F2 H2 R2 (S1.trans S2) ⟨p, rfl, none_back S1.stp hp, fp, oa⟩
    · cases e
  · cases e
abbrev VTs (X : Cx) (ifs : List Expr) (t : MT) : Prop := PTs X ifs (tT X.K t)
theorem PTs.of {X : Cx} {ifs : List Expr} {t t' : TT} (h : PTs X ifs t) (q : ∀ σ H Q, t' σ H Q → t σ H Q) : PTs X ifs t' := ⟨fun pins s σ H Q I w => h.run pins s σ H Q I (q σ H Q w)⟩
theorem vts_nil {X : Cx} : VTs X [] fYes := PTs.of pts_nil fun σ H Q ⟨F, ρ, c, ρ', R, e, post⟩ => by
  cases e
  exact post F H R .refl
theorem vts_one {X : Cx} {c : Expr} {t : MT} (h : VT X c t) : VTs X [c] t := pts_one h
section
variable {X : Cx} {elt tg iter : Expr} {ifs : List Expr} {scope : Scope} {pos : Pos} {own : List (Str × Nat)} {is : List Nat} {b : MG} {t : MT} {f : ME}
theorem ve_comp {items : D → Option (List D)} {wi : TE → TI} {src : Opd} (own : List (Str × Nat)) (hw : Walks X.K items wi) (hb : NB b) (hc : X.calm = true) (hN : X.N.Nodup) (hi : PI X tg iter (wi (tO X.K src))) (ok : BlkOk X.N X.env.scope scope own)
    (hg : ∀ (s : Shared) (H : Hp) (C : Addr) (cl : List (Str × Addr)) (fp : List Addr), VG (X.blk s H scope (compEnvC scope cl C X.env) fp) tg is b) (ht : ∀ (s : Shared) (H : Hp) (C : Addr) (cl : List (Str × Addr)) (fp : List Addr), VTs (X.blk s H scope (compEnvC scope cl C X.env) fp) ifs t)
    (he : ∀ (s : Shared) (H : Hp) (C : Addr) (cl : List (Str × Addr)) (fp : List Addr), VE (X.blk s H scope (compEnvC scope cl C X.env) fp) elt f) (ho : own.map (·.2) = is := by rfl) (hs : ∀ x, foldedSetIterable iter X.env x = pure x := by intro _; rfl) :
    VE X (.ListComp elt [⟨tg, iter, ifs, 0⟩] scope pos) (fComp items src is b t f) := VE.of (pe_lc hc hN hi ok hg ht he hs) fun _ _ _ _ q => by rw [ho]; exact tE_comp hw hb q
theorem ve_compN {g : List D → Option (List D)} {wi : TA → TI} {os : List Opd} (own : List (Str × Nat)) (hw : WalksN X.K g wi) (hb : NB b) (hc : X.calm = true) (hN : X.N.Nodup) (hi : PI X tg iter (wi (tA X.K os))) (ok : BlkOk X.N X.env.scope scope own)
    (hg : ∀ (s : Shared) (H : Hp) (C : Addr) (cl : List (Str × Addr)) (fp : List Addr), VG (X.blk s H scope (compEnvC scope cl C X.env) fp) tg is b) (ht : ∀ (s : Shared) (H : Hp) (C : Addr) (cl : List (Str × Addr)) (fp : List Addr), VTs (X.blk s H scope (compEnvC scope cl C X.env) fp) ifs t)
    (he : ∀ (s : Shared) (H : Hp) (C : Addr) (cl : List (Str × Addr)) (fp : List Addr), VE (X.blk s H scope (compEnvC scope cl C X.env) fp) elt f) (ho : own.map (·.2) = is := by rfl) (hs : ∀ x, foldedSetIterable iter X.env x = pure x := by intro _; rfl) :
    VE X (.ListComp elt [⟨tg, iter, ifs, 0⟩] scope pos) (fCompN g os is b t f) := VE.of (pe_lc hc hN hi ok hg ht he hs) fun _ _ _ _ q => by rw [ho]; exact tE_compN hw hb q
theorem tAsg_mono {te te' : TE} {g : TG} {D : Ends} {σ : L2.St} {H : Hp} (h : ∀ Q, te' σ H Q → te σ H Q) (q : tAsg te' g D σ H) : tAsg te g D σ H := h _ q
/-- name = [..] on one line -/
theorem vs_setComp {items : D → Option (List D)} {wi : TE → TI} {src : Opd} {i : Nat} {y : Str} {py spos : Pos} (own : List (Str × Nat)) (hw : Walks X.K items wi) (hb : NB b) (hc : X.calm = true) (hN : X.N.Nodup) (hy : X.N[i]? = some y) (hyl : X.env.scope.names.lookup y = some .local)
    (hsw : swapsWith (.ListComp elt [⟨tg, iter, ifs, 0⟩] scope pos) (some (.Name y py)) spos.line X.env = pure true) (hi : PI X tg iter (wi (tO X.K src))) (ok : BlkOk X.N X.env.scope scope own)
    (hg : ∀ (s : Shared) (H : Hp) (C : Addr) (cl : List (Str × Addr)) (fp : List Addr), VG (X.blk s H scope (compEnvC scope cl C X.env) fp) tg is b) (ht : ∀ (s : Shared) (H : Hp) (C : Addr) (cl : List (Str × Addr)) (fp : List Addr), VTs (X.blk s H scope (compEnvC scope cl C X.env) fp) ifs t)
    (he : ∀ (s : Shared) (H : Hp) (C : Addr) (cl : List (Str × Addr)) (fp : List Addr), VE (X.blk s H scope (compEnvC scope cl C X.env) fp) elt f) (ho : own.map (·.2) = is := by rfl) (hs : ∀ x, foldedSetIterable iter X.env x = pure x := by intro _; rfl) :
    VS X (.Assign [.Name y py] (.ListComp elt [⟨tg, iter, ifs, 0⟩] scope pos) spos) (fAsg i (fComp items src is b t f)) :=
  PS.of (ps_setLc hc hN hy hyl hsw hi ok hg ht he hs) fun _ _ _ _ q => tAsg_mono (fun _ z => by rw [ho]; exact tE_comp hw hb z) (tS_asg q)
theorem vs_setCompN {g : List D → Option (List D)} {wi : TA → TI} {os : List Opd} {i : Nat} {y : Str} {py spos : Pos} (own : List (Str × Nat)) (hw : WalksN X.K g wi) (hb : NB b) (hc : X.calm = true) (hN : X.N.Nodup) (hy : X.N[i]? = some y) (hyl : X.env.scope.names.lookup y = some .local)
    (hsw : swapsWith (.ListComp elt [⟨tg, iter, ifs, 0⟩] scope pos) (some (.Name y py)) spos.line X.env = pure true) (hi : PI X tg iter (wi (tA X.K os))) (ok : BlkOk X.N X.env.scope scope own)
    (hg : ∀ (s : Shared) (H : Hp) (C : Addr) (cl : List (Str × Addr)) (fp : List Addr), VG (X.blk s H scope (compEnvC scope cl C X.env) fp) tg is b) (ht : ∀ (s : Shared) (H : Hp) (C : Addr) (cl : List (Str × Addr)) (fp : List Addr), VTs (X.blk s H scope (compEnvC scope cl C X.env) fp) ifs t)
    (he : ∀ (s : Shared) (H : Hp) (C : Addr) (cl : List (Str × Addr)) (fp : List Addr), VE (X.blk s H scope (compEnvC scope cl C X.env) fp) elt f) (ho : own.map (·.2) = is := by rfl) (hs : ∀ x, foldedSetIterable iter X.env x = pure x := by intro _; rfl) :
    VS X (.Assign [.Name y py] (.ListComp elt [⟨tg, iter, ifs, 0⟩] scope pos) spos) (fAsg i (fCompN g os is b t f)) :=
  PS.of (ps_setLc hc hN hy hyl hsw hi ok hg ht he hs) fun _ _ _ _ q => tAsg_mono (fun _ z => by rw [ho]; exact tE_compN hw hb z) (tS_asg q)
end

/-! ### writing to an object of one's own -/
def Md.wr : Md → Bool
  | .own => true
  | .par => true
  | _ => false
theorem wr_own {m : Md} (h : m.wr = true) : m = .own ∨ m = .par := by cases m <;> first | exact .inl rfl | exact .inr rfl | cases h
theorem Rel.write {K : PySem.W.Frag} {F H : Hp} {ρ : Rho} {σ : L2.St} {i : Nat} {m : Md} {d d' : D} {p : Addr} {o : HO} (R : Rel K F ρ σ H) (e : ρ[i]? = some (some ⟨m, d⟩)) (hm : m.wr = true) (hv : σ[i]? = some (some (.ref p))) (hF : F p = none) (oa : OwnAt K F (upd H p o) p d') :
    Rel K F (ρ.set i (some ⟨m, d'⟩)) σ (upd H p o) ∧ StpE F ρ σ H F (ρ.set i (some ⟨m, d'⟩)) (upd H p o) := by
  have hi : i < ρ.length := (List.getElem?_eq_some_iff.mp e).1
  have nm : m ≠ .fz := by rcases wr_own hm with rfl | rfl <;> (intro z; cases z)
  have aux : ∀ (j : Nat) (s : Sl), (ρ.set i (some ⟨m, d'⟩))[j]? = some (some s) → ∃ s', ρ[j]? = some (some s') ∧ s'.m = s.m := fun j s z => by
    rcases getElem?_set' z with ⟨ej, z⟩ | ⟨_, z⟩
    · cases z; exact ⟨⟨m, d⟩, by rw [ej]; exact e, rfl⟩
    · exact ⟨s, z, rfl⟩
  have own : Own ρ σ p := ⟨i, _, e, wr_own hm, hv⟩
  refine ⟨⟨R.le.upd2 hF, by rw [List.length_set]; exact R.len, fun j s z => ?_, fun j k s t q h1 h2 m1 m2 h3 h4 => ?_⟩, ⟨⟨Le.refl F, fun a u h n => ?_, fun a u h => ?_, fun _ u h => .inl ⟨u, h⟩, fun a h => .inl ?_, fun j m' dd hm' z => ?_, fun j m' dd hm' z => ?_⟩, fun j s z _ => aux j s z⟩⟩
  · rcases getElem?_set' z with ⟨ej, z⟩ | ⟨n, z⟩
    · cases z
      exact ⟨.ref p, by rw [ej]; exact hv, .mk_n nm hF oa⟩
    · obtain ⟨w, hw, ok⟩ := R.at_ j s z
      refine ⟨w, hw, ?_⟩
      by_cases hs : s.m = .fz
      · exact .mk_fz hs (ok.fz hs)
      · obtain ⟨q, rfl, fq, oq⟩ := ok.nfz hs
        have ne : q ≠ p := fun zz => n (R.ne j i s _ p z e hs nm (by rw [hw, zz]) hv)
        exact .mk_n hs fq (oq.mono (Le.refl F) (upd_ne ne))
  · obtain ⟨s', e1, q1⟩ := aux j s h1
    obtain ⟨t', e2, q2⟩ := aux k t h2
    exact R.ne j k s' t' q e1 e2 (by rw [q1]; exact m1) (by rw [q2]; exact m2) h3 h4
  · have ne : a ≠ p := fun z => n (by rw [z]; exact own)
    rw [upd_ne ne]; exact h
  · by_cases z : a = p
    · subst z; exact ⟨o, upd_same⟩
    · exact ⟨u, by rw [upd_ne z]; exact h⟩
  · obtain ⟨j, s, h1, h2, h3⟩ := h
    obtain ⟨s', e1, q1⟩ := aux j s h1
    exact ⟨j, s', e1, by rw [q1]; exact h2, h3⟩
  · by_cases ej : j = i
    · subst ej
      rw [e] at z; cases z
      exact ⟨⟨d', List.getElem?_set_self hi⟩, rfl⟩
    · rw [List.getElem?_set_ne (Ne.symm ej)]
      exact ⟨⟨dd, z⟩, rfl⟩
  · obtain ⟨⟨m2, d2⟩, e1, q1⟩ := aux j _ z
    cases q1
    exact ⟨d2, e1⟩
/-- a method that writes: the receiver a slot of one's own -/
def fMut (i : Nat) (ty : D → Bool) (g : D → List D → Option (D × D)) (fs : List ME) : ME := fun ρ => match ρ[i]? with
  | some (some ⟨_, d0⟩) => if ty d0 = true then
      (evalZ fs ρ).bind fun z => match z.2[i]? with
        | some (some ⟨m, d⟩) => if m.wr = true then (g d z.1).map fun y => (⟨.fz, y.2⟩, z.2.set i (some ⟨m, y.1⟩)) else none
        | _ => none
    else none
  | _ => none
def MuOk (K : PySem.W.Frag) (r : V → List V → Hp → VK → Prop) (g : D → List D → Option (D × D)) : Prop := ∀ (F H : Hp) (p : Addr) (d : D) (ds : List D) (vs : List V) (d' x : D) (Q : VK), Le F H → F p = none → OwnAt K F H p d → RepL K F vs ds → g d ds = some (d', x) →
  (∀ v o, OwnAt K F (upd H p o) p d' → Rep K F v x → Q v (upd H p o)) → r (.ref p) vs H Q
def isL : D → Bool
  | .lst _ => true
  | _ => false
def isDK : D → Bool
  | .dK _ => true
  | .dT _ => true
  | _ => false
theorem SlOk.tyL {K : PySem.W.Frag} {F H : Hp} {v : V} {s : Sl} (ok : SlOk K F H v s) (l : Le F H) (h : isL s.d = true) : tyV K "list" v H := by
  obtain ⟨m, d⟩ := s
  cases d with
  | lst ds => obtain ⟨a, vs, rfl, hs, _⟩ := ok.vw.lst l; exact .inl ⟨rfl, vs, SqL.of hs⟩
  | _ => cases h
theorem tE_mut {K : PySem.W.Frag} {T : String} {ty : D → Bool} {r : V → List V → Hp → VK → Prop} {g : D → List D → Option (D × D)} {i : Nat} {fs : List ME} {σ : L2.St} {H : Hp} {Q : VK} (hty : ∀ F H v s, SlOk K F H v s → Le F H → ty s.d = true → tyV K T v H) (hg : MuOk K r g) (h : tE K (fMut i ty g fs) σ H Q) :
    tVar i σ H fun x H1 => tyV K T x H1 ∧ tZ K fs σ H1 fun xs H2 => r x xs H2 Q := by
  obtain ⟨F, ρ, s, ρ', R, e, post⟩ := h
  unfold fMut at e
  split at e
  · rename_i m0 d0 h0
    split at e
    · rename_i ht
      obtain ⟨⟨ds, ρ1⟩, e1, e⟩ := Option.bind_eq_some_iff.mp e
      dsimp only at e
      split at e
      · rename_i m d hd
        split at e
        · rename_i hm
          obtain ⟨⟨d', x⟩, e2, e⟩ := Option.map_eq_some_iff.mp e
          cases e
          obtain ⟨v, hv, ok⟩ := R.at_ i _ h0
          refine ⟨v, hv, hty F H v _ ok R.le ht, F, ρ, ds, ρ1, R, e1, fun vs F1 H1 R1 S1 P1 => ?_⟩
          obtain ⟨w, hw, ok1⟩ := R1.at_ i _ hd
          rw [hv] at hw; cases hw
          have nm : m ≠ .fz := by rcases wr_own hm with rfl | rfl <;> (intro z; cases z)
          obtain ⟨p, rfl, fp, oa⟩ := ok1.nfz nm
          refine hg F1 H1 p d ds vs d' x _ R1.le fp oa P1 e2 fun v o oa' rp => ?_
          obtain ⟨R2, S2⟩ := R1.write hd hm hv fp oa'
          exact post v F1 _ R2 (S1.trans S2) rp
        · cases e
      · cases e
    · cases e
  · cases e
theorem ve_mut {X : Cx} {T id : String} {ty : D → Bool} {r : V → List V → Hp → VK → Prop} {g : D → List D → Option (D × D)} {i : Nat} {x name : Str} {p apos cpos : Pos} {e : Expr} {es : List Expr} {fs : List ME} (hty : ∀ F H v s, SlOk X.K F H v s → Le F H → ty s.d = true → tyV X.K T v H) (hg : MuOk X.K r g) (pa : PlainAttrs T) (slot : Slot T name id) (ht : typeOf (.builtin id) = pure (.type "method_descriptor")) (hm : MtR X id r) (ho : PE X (.Name x p) (tVar i)) (ha : VZ X (e :: es) fs)
    (hbase : attributeBase (.Name x p) name X.env (eval (.Name x p) X.env) = eval (.Name x p) X.env := by rfl)
    (hfew : ((backTo cpos (starEach (e :: es) X.env)).all (fun x => !x.1) && (backToKw cpos (keywordEach [] X.env)).all (fun x => x.1.isSome)
      && decide ((e :: es).length + ([] : List Keyword).length + (if ([] : List Keyword).isEmpty then 0 else 1) < 30)) = true := by rfl)
    (hline : (apos.endLine == cpos.line) = true := by rfl) (hs : starEach (e :: es) X.env = (false, eval e X.env) :: starEach es X.env := by rfl) (hplain : (backTo cpos (starEach es X.env)).any (·.1) = false := by rfl) :
    VE X (.Call (.Attribute (.Name x p) name apos) (e :: es) [] cpos) (fMut i ty g fs) := VE.of (pe_bm pa slot ht hm ho ha hbase hfew hline hs hplain) fun _ _ _ _ q => tE_mut hty hg q
theorem ve_mut0 {X : Cx} {T id : String} {ty : D → Bool} {r : V → List V → Hp → VK → Prop} {g : D → List D → Option (D × D)} {i : Nat} {x name : Str} {p apos cpos : Pos} (hty : ∀ F H v s, SlOk X.K F H v s → Le F H → ty s.d = true → tyV X.K T v H) (hg : MuOk X.K r g) (pa : PlainAttrs T) (slot : Slot T name id) (ht : typeOf (.builtin id) = pure (.type "method_descriptor")) (hm : MtR X id r) (ho : PE X (.Name x p) (tVar i))
    (hbase : attributeBase (.Name x p) name X.env (eval (.Name x p) X.env) = eval (.Name x p) X.env := by rfl) (hline : (apos.endLine == cpos.line) = true := by rfl) :
    VE X (.Call (.Attribute (.Name x p) name apos) [] [] cpos) (fMut i ty g []) := VE.of (pe_bm0 pa slot ht hm ho hbase hline) fun σ H Q _ q => by
  obtain ⟨v, hv, t, F, ρ, ds, ρ1, R, e, post⟩ := tE_mut hty hg q
  cases e
  exact ⟨v, hv, t, post [] F H R .refl .nil⟩
/-- lists -/
def gAppend : D → List D → Option (D × D)
  | .lst xs, [y] => if xs.length < sizeLine then some (.lst (xs ++ [y]), .non) else none
  | _, _ => none
theorem mu_append {K : PySem.W.Frag} : MuOk K rAppend gAppend := fun F H p d ds vs d' x Q l fp oa rp e k => by
  unfold gAppend at e
  split at e
  · rename_i xs y
    split at e
    · rename_i hz
      cases e
      obtain ⟨ws, h1, h2⟩ := oa
      cases rp with
      | cons r t =>
        cases t
        exact ⟨p, ws, _, rfl, rfl, h1, by rw [h2.length]; exact hz, k _ _ ⟨_, upd_same, h2.append (.one r)⟩ .non⟩
    · cases e
  · cases e
def gPopAt : D → List D → Option (D × D)
  | .lst xs, [.int i] => match ixN xs.length i with
    | some k => match xs[k]? with
      | some y => if xs.length ≤ sizeLine then some (.lst (xs.eraseIdx k), y) else none
      | none => none
    | none => none
  | _, _ => none
theorem mu_popAt {K : PySem.W.Frag} : MuOk K rPopAt gPopAt := fun F H p d ds vs d' x Q l fp oa rp e k => by
  unfold gPopAt at e
  split at e
  · rename_i xs i
    split at e
    · rename_i j hj
      split at e
      · rename_i y hy
        split at e
        · rename_i hz
          cases e
          obtain ⟨ws, h1, h2⟩ := oa
          cases rp with
          | cons r t =>
            cases t
            cases r
            obtain ⟨w, hw, rw'⟩ := h2.getD hy
            rw [← h2.length] at hj
            obtain ⟨q1, q2, q3, q4⟩ := ixN_seq hj
            have hn := line63
            have hl := h2.length
            exact ⟨p, ws, i, j, w, rfl, rfl, h1, by omega, by omega, q1, hw, k _ _ ⟨_, upd_same, h2.eraseIdx j⟩ rw'⟩
        · cases e
      · cases e
    · cases e
  · cases e
def gPop : D → List D → Option (D × D)
  | .lst xs, [] => match xs[xs.length - 1]? with
    | some y => some (.lst xs.dropLast, y)
    | none => none
  | _, _ => none
theorem mu_pop {K : PySem.W.Frag} : MuOk K rPop gPop := fun F H p d ds vs d' x Q l fp oa rp e k => by
  unfold gPop at e
  split at e
  · rename_i xs
    split at e
    · rename_i y hy
      cases e
      obtain ⟨ws, h1, h2⟩ := oa
      cases rp
      obtain ⟨w, hw, rw'⟩ := h2.getD hy
      exact ⟨p, ws, w, rfl, rfl, h1, by rw [h2.length]; exact hw, k _ _ ⟨_, upd_same, h2.dropLast⟩ rw'⟩
    · cases e
  · cases e
def gClear : D → List D → Option (D × D)
  | .lst _, [] => some (.lst [], .non)
  | _, _ => none
theorem mu_clear {K : PySem.W.Frag} : MuOk K rClear gClear := fun F H p d ds vs d' x Q l fp oa rp e k => by
  unfold gClear at e
  split at e
  · cases e
    obtain ⟨ws, h1, h2⟩ := oa
    cases rp
    exact ⟨p, ws, rfl, rfl, h1, k _ _ ⟨_, upd_same, .nil⟩ .non⟩
  · cases e
end VI

/-! A def's promise where nothing is being shown (no repr under way): FnG. -/
namespace VI
open PySem PySem.Spec PyProof.Rows L2

abbrev SpG := List V → Hp → VK → Prop
structure FnG (P : Program) (w : World) (K : PySem.W.Frag) (mg : Str → Option Value) (base : Heap) (k : Nat) (f : Addr) (fd : FuncData) (ps : List Str) (sp : SpG) : Prop where
  len : ∀ vs H Q, sp vs H Q → vs.length = ps.length
  run : ∀ (A : Around) (outer : List Env) (s : Shared) (H : Hp) (args : Args) (us : List Value) (vs : List V) (Q : VK), Room k A → A.guards = some [] → Env0 P w K mg base A outer s H →
    BindsTo s fd args (ps.zip us) → Vals vs us → sp vs H Q → codeAny (model P w) A (.call (.ref f) args) (CR CX0 outer P w H s Q E0) s
theorem FnG.mono {P : Program} {w : World} {K : PySem.W.Frag} {mg : Str → Option Value} {base : Heap} {j k : Nat} {f : Addr} {fd : FuncData} {ps : List Str} {sp : SpG}
    (F : FnG P w K mg base j f fd ps sp) (h : j ≤ k) : FnG P w K mg base k f fd ps sp :=
  ⟨F.len, fun A outer s H args us vs Q hr => F.run A outer s H args us vs Q (hr.mono h)⟩
/-- any promise of the layer holds here too -/
theorem FnG.of {P : Program} {w : World} {K : PySem.W.Frag} {mg : Str → Option Value} {base : Heap} {k : Nat} {f : Addr} {fd : FuncData} {ps : List Str} {sp : Sp}
    (F : FnOk P w K mg base CX0 k f fd ps sp) : FnG P w K mg base k f fd ps (fun vs H Q => sp vs H Q E0) :=
  ⟨fun vs H Q h => F.len vs H Q E0 h, fun A outer s H args us vs Q hr _ e0 hb r h => F.run A outer s H args us vs Q E0 hr e0 hb r h⟩
section
variable {P : Program} {w : World} {K : PySem.W.Frag} {mg : Str → Option Value} {base : Heap} {x qual : Str} {st : Stmt} {f : Addr} {fd : FuncData} {N ps : List Str} {k : Nat}
theorem fnG_of {sp : SpG} (Fn : Fun K x qual st f fd) (S : FnScope N ps (defScope st)) (len : ∀ vs H Q, sp vs H Q → vs.length = ps.length)
    (hbody : ∀ (cdv : Value) (A : Around) (outer : List Env) (s : Shared) (H : Hp) (vs : List V) (Q : VK), Room k (A.deeper (envOfC qual (defScope st) s.heap.objs.size f cdv)) → A.guards = some [] → sp vs H Q →
      ∃ t, PSs (cxOf CX0 P w K mg base N qual (defScope st) f cdv A outer s H E0).nox (defBody st) t ∧ t { nx := fun _ H' => Q .non H', rt := Q } (L2.start N vs) H) :
    FnG P w K mg base (k + 1) f fd ps sp := by
  obtain ⟨oc, od, kV, doc, pm, an, cdv, ct, osl, rfl, lk, hcd⟩ := Fn.ex
  refine ⟨len, fun A outer s H args us vs Q hr hgu e0 hb rv hsp => ?_⟩
  have KX : K.In s.heap := e0.mod.kin.keeps fun b o e => (e0.bs b o e).1
  have lim : s.heap.NoLimit := e0.mod.nolimit.keeps fun b o e => (e0.bs b o e).1
  have kinds : ∀ y ∈ ps.zip us, (defScope st).names.lookup y.1 = some .local ∨
      ((defScope st).names.lookup y.1 = some .cell ∧ ((cellsFrom (s.heap.objs.size + 1) (defScope st).names []).lookup y.1).isSome = true) := by
    rintro ⟨n, v⟩ hy
    exact (S.par n (List.of_mem_zip hy).1).imp id fun q => ⟨q, PySem.W.cellsFrom_some _ _ _ (.inl q)⟩
  refine codeAny_call_function hr.depth (KX _ _ lk) rfl S.co S.gen rfl (PySem.W.codeRec_of KX hcd) (hb _ _ _ _ ?_)
  refine wpAny_newFunctionEnv_cells S.kind kinds fun env he s1 inC => ?_
  subst he
  refine ⟨lim.keeps inC.toInCall.keep, codeAny_func ?_⟩
  obtain ⟨t, ht, hq⟩ := hbody cdv A outer s H vs Q (hr.deeper _) hgu hsp
  have I := inv_start (CX := CX0) (E := E0) S hr.hd e0 (len _ _ _ hsp) rv inC
  refine wpAny_mono (ht.nox.run [] s1 (L2.start N vs) H _ I hq) (fun fl s' hs => ?_) fun e s' hs => hs
  cases fl with
  | ret u => obtain ⟨v, σ', H', J, r, q⟩ := hs; exact ⟨v, H', J.os, J.bare, J.base, J.hok, r, q⟩
  | next => obtain ⟨σ', H', J, q⟩ := hs; exact ⟨.non, H', J.os, J.bare, J.base, J.hok, rfl, q⟩
  | brk => obtain ⟨_, _, _, q⟩ := hs; exact q.elim
  | cont => obtain ⟨_, _, _, q⟩ := hs; exact q.elim
end
/-! ### calls -/
section
variable {X : Cx} {k : Nat} {f : Addr} {fd : FuncData} {ps : List Str} {sp : SpG} {dvs : List V} {ds : List Value} {x : Str} {p pos : Pos} {e : Expr} {es : List Expr} {t : TA}
theorem run_fnG {pins : List (Addr × Obj)} {σ : L2.St} {H : Hp} {s : Shared} {Q : VK} {us : List Value} {vs : List V} (F : FnG X.prog X.w X.K X.mg X.base k f fd ps sp) (hr : Room k X.A) (hgu : X.A.guards = some []) (hb : Binds X.K fd ps ds) (hd : Vals dvs ds)
    (I : Inv X pins σ H s) (r : Vals vs us) (h : sp (vs ++ dvs) H Q) : wpAny (model X.prog X.w) X.A (call (.ref f) us) (EP X pins σ Q) X.xe s := by
  have r2 := r.append hd
  have hl : (us ++ ds).length = ps.length := by rw [← r2.length]; exact F.len _ _ _ h
  refine wpAny_call (codeAny_mono (F.run X.A X.stack s H ⟨us, []⟩ (us ++ ds) (vs ++ dvs) Q hr hgu I.env0 (hb s us I.kIn hl) r2 h) fun res s' hq => ?_)
  cases res with
  | error ex => exact hq.elim
  | ok fl => cases fl with
    | ret u => exact I.after hq
    | _ => exact hq.elim
def tCallG (sp : SpG) (dvs : List V) (t : TA) : TE := fun σ H Q => t σ H fun vs H1 => sp (vs ++ dvs) H1 Q
theorem pe_callG (F : FnG X.prog X.w X.K X.mg X.base k f fd ps sp) (hr : Room k X.A) (hgu : X.A.guards = some []) (hg : Gl X x) (hm : X.mg x = some (.ref f)) (hk : PySem.W.keepIn X.K (.ref f) = true) (hb : Binds X.K fd ps ds) (hd : Vals dvs ds)
    (ha : PA X (e :: es) t) (hdb : (x == ("__debug__" : Str)) = false := by decide) (he : starEach (e :: es) X.env = (false, eval e X.env) :: starEach es X.env := by rfl) (hpl : (backTo pos (starEach es X.env)).any (·.1) = false := by rfl) :
    PE X (.Call (.Name x p) (e :: es) [] pos) (tCallG sp dvs t) :=
  ⟨fun pins s σ H Q I h => wpAny_Call_Name_kw (ld_glob I hg hm (PySem.W.callWith_K (h₀ := X.base) I.ok.mod.kin hk
    (thn (ha.run pos pins s σ H _ I h) fun us s1 ⟨vs, H1, I1, r, q⟩ => ⟨I1.kIn, run_fnG F hr hgu hb hd I1 r q⟩) he hpl) hdb)⟩
theorem pe_callG0 (F : FnG X.prog X.w X.K X.mg X.base k f fd ps sp) (hr : Room k X.A) (hgu : X.A.guards = some []) (hg : Gl X x) (hm : X.mg x = some (.ref f)) (hk : PySem.W.keepIn X.K (.ref f) = true) (hb : Binds X.K fd ps ds) (hd : Vals dvs ds)
    (hdb : (x == ("__debug__" : Str)) = false := by decide) : PE X (.Call (.Name x p) [] [] pos) (tCallG sp dvs tNil) :=
  ⟨fun pins s σ H Q I h => wpAny_Call_Name_kw (ld_glob I hg hm (PySem.W.callWith_K0 I.kIn hk (run_fnG (us := []) F hr hgu hb hd I .nil h)) hdb)⟩
end
def spG (K : PySem.W.Frag) (np : Nat) (fM : FnM) : SpG := fun vs H Q => spM K np fM vs H Q E0
theorem fn_ok {P : Program} {w : World} {K : PySem.W.Frag} {mg : Str → Option Value} {base : Heap} {x qual : Str} {st : Stmt} {f : Addr} {fd : FuncData} {N ps : List Str} {k n : Nat} {g : MS} (Fn : Fun K x qual st f fd) (S : FnScope N ps (defScope st)) (hn : N.length = ps.length + n)
    (hbody : ∀ (cdv : Value) (A : Around) (outer : List Env) (s : Shared) (H : Hp), Room k (A.deeper (envOfC qual (defScope st) s.heap.objs.size f cdv)) → A.guards = some [] → VB (cxOf CX0 P w K mg base N qual (defScope st) f cdv A outer s H E0).nox (defBody st) g) :
    FnG P w K mg base (k + 1) f fd ps (spG K ps.length (fnM n g)) := by
  have lv : ∀ {F H : Hp} {as : List Sl} {vs : List V}, as.length = ps.length → Rel K F (as.map some) (vs.map some) H → vs.length = ps.length := fun hl R => by
    have := R.len
    simp only [List.length_map] at this
    omega
  refine fnG_of Fn S (fun vs H Q h => ?_) (fun cdv A outer s H vs Q hr hgu h => ⟨_, hbody cdv A outer s H hr hgu, ?_⟩)
  · obtain ⟨F, as, r, os, hl, R, _⟩ := h
    exact lv hl R
  · obtain ⟨F, as, r, os, hl, R, no, e, post⟩ := h
    have hv := lv hl R
    have est : L2.start N vs = vs.map some ++ List.replicate n none := by
      unfold L2.start; rw [show N.length - vs.length = n by omega]
    rw [est]
    unfold fnM at e
    split at e
    · rename_i r' ρ' hg
      cases e
      exact ⟨F, _, _, _, R.pad, hg, fun F' σ' H' R' S' v res => post v F' H' (call_post R no R' S' res)⟩
    · rename_i ρ' hg
      cases e
      exact ⟨F, _, _, _, R.pad, hg, fun F' σ' H' R' S' => post .non F' H' (call_post R no R' S' Rep.non)⟩
    · cases e
theorem ve_call {X : Cx} {k : Nat} {f : Addr} {fd : FuncData} {ps : List Str} {fM : FnM} {x : Str} {p pos : Pos} {e : Expr} {es : List Expr} {os : List Opd} (F : FnG X.prog X.w X.K X.mg X.base k f fd ps (spG X.K ps.length fM)) (hr : Room k X.A) (hgu : X.A.guards = some []) (hg : Gl X x) (hm : X.mg x = some (.ref f)) (hk : PySem.W.keepIn X.K (.ref f) = true) (hb : Binds X.K fd ps [])
    (ha : VA X (e :: es) os) (hnp : os.length = ps.length := by rfl) (hdb : (x == ("__debug__" : Str)) = false := by decide) (he : starEach (e :: es) X.env = (false, eval e X.env) :: starEach es X.env := by rfl) (hpl : (backTo pos (starEach es X.env)).any (·.1) = false := by rfl) :
    VE X (.Call (.Name x p) (e :: es) [] pos) (fCall fM os) := VE.of (pe_callG F hr hgu hg hm hk hb .nil ha hdb he hpl) fun _ _ _ _ q => tE_call hnp q
end VI

/-! The end of a law whose def keeps a FnG promise. -/
namespace VI
open PySem PySem.Spec PyProof.Rows L2

/-- what a law's call has to come to -/
def LawPost (s₁ : Shared) (r : Result) (s' : Shared) : Prop := r = .ok (.ret (.bool true)) ∧ OldK s₁.heap s'.heap ∧ s'.os = s₁.os ∧ AllBare s'.gens
section
variable {P : Program} {w : World} {K : PySem.W.Frag} {mg mb : Str → Option Value} {k : Nat} {fa a : Addr} {fd : FuncData} {x : Str} {sp : SpG} {s₁ : Shared} {vs : List Value} {ns : List Int}
/-- from an abstract heap that tracks the script at most -/
theorem law_core (KX : K.In s₁.heap) (hns : s₁.heap.Ns mainGlobals mg) (hb : s₁.heap.Ns builtinsNs mb) (hbb : ∀ x : Str, x ≠ "__name__" → mb x = bootBuiltins x) (hlim : s₁.heap.NoLimit) (hg : s₁.gens = #[])
    (ha : s₁.heap.get? a = some { cls := .type "list", data := .seq vs.toArray }) (hr : Room k callerA)
    (F : ∀ base : Heap, K.In base → base.Ns mainGlobals mg → FnG P w K mg base k fa fd [x] sp) (hbind : ∀ (s : Shared) (u : Value), BindsTo s fd ⟨[u], []⟩ [(x, u)])
    {H : Hp} (hO : Only H) (hok : HOk P w H s₁.heap) (hA : ∀ b, H b ≠ none → b = a) (hK : H a ≠ none → K.lookup a = none) (hsp : sp [.ref a] H fun v _ => v = .bl true) :
    codeAny (model P w) callerA (.call (.ref fa) ⟨[.ref a], []⟩) (LawPost s₁) s₁ := by
  have only : ∀ {b : Addr} {u : HO}, H b = some u → b = a := fun {b u} q => hA b (by rw [q]; intro z; cases z)
  have dictFree : ∀ {b : Addr} {o : Obj} {es : Array DictEntry} {ep : Nat}, s₁.heap.get? b = some o → o.data = .dict es ep → H b = none := by
    intro b o es ep e d
    cases q : H b with
    | none => rfl
    | some u =>
      rw [only q, ha] at e
      cases e
      exact nomatch (show Data.seq vs.toArray _ = Data.dict es ep from d)
  have ns' : ∀ {b : Addr} {m : Str → Option Value}, s₁.heap.Ns b m → (hidT s₁.heap H).Ns b m := by
    rintro b m ⟨o, es, ep, e, d, r⟩
    exact ⟨o, es, ep, hidT_get e (dictFree e d), d, r⟩
  have kb : K.In (hidT s₁.heap H) := fun b o e => hidT_get (KX b o e) (by
    cases q : H b with
    | none => rfl
    | some u =>
      have z := only q
      rw [z] at e q
      rw [hK (by rw [q]; intro y; cases y)] at e
      cases e)
  obtain ⟨mc, l1, l2⟩ := hlim
  have e0 : Env0 P w K mg (hidT s₁.heap H) callerA [] s₁ H := ⟨rfl, ⟨kb, ns' hns, ⟨mb, ns' hb, hbb⟩, ⟨mc, ns' l1, l2⟩⟩, fun b o e => of_hidT e, Nat.le_of_eq (hidT_size _ _), trivial, fun b z => (nomatch (show b ∈ ([] : List Addr) from z)), hok, .of_eq hg⟩
  refine codeAny_mono ((F _ kb (ns' hns)).run callerA [] s₁ H ⟨[.ref a], []⟩ [.ref a] [.ref a] _ hr rfl e0 (hbind s₁ (.ref a)) (.cons rfl .nil) hsp) fun r s' h => ?_
  cases r with
  | error e => exact h.elim
  | ok fl =>
    cases fl with
    | ret u =>
      obtain ⟨v, H', os, bare, un, hok', r', q⟩ := h
      obtain rfl : v = .bl true := q
      obtain rfl : u = Value.bool true := r'
      refine ⟨rfl, OldK.of_keep fun b o e => ?_, os, bare⟩
      rcases hO b with z | ⟨ob, xs, z⟩
      · exact un.keep b o e z (fun y => nomatch (show b ∈ ([] : List Addr) from y)) (fun y => nomatch y)
      · have e1 := (hok b _ z).1
        rw [e] at e1
        cases e1
        exact (hok' b _ (un.frzs b _ _ z)).1
    | _ => exact h.elim
theorem law_end (KX : K.In s₁.heap) (hns : s₁.heap.Ns mainGlobals mg) (hb : s₁.heap.Ns builtinsNs mb) (hbb : ∀ x : Str, x ≠ "__name__" → mb x = bootBuiltins x) (hlim : s₁.heap.NoLimit) (hg : s₁.gens = #[])
    (ha : s₁.heap.get? a = some { cls := .type "list", data := .seq vs.toArray }) (hi : IntsAre vs ns) (hl : ns.length ≤ sizeLine) (hr : Room k callerA)
    (F : ∀ base : Heap, K.In base → base.Ns mainGlobals mg → FnG P w K mg base k fa fd [x] sp) (hbind : ∀ (s : Shared) (u : Value), BindsTo s fd ⟨[u], []⟩ [(x, u)])
    (hsp : ∀ H : Hp, SqL K H a (ns.map V.int) → sp [.ref a] H fun v _ => v = .bl true) : codeAny (model P w) callerA (.call (.ref fa) ⟨[.ref a], []⟩) (LawPost s₁) s₁ := by
  have rv := vals_ints hi
  have lv := hi.length
  cases hk : K.lookup a with
  | some o =>
    have e := KX a o hk
    rw [ha] at e
    cases e
    exact law_core KX hns hb hbb hlim hg ha hr F hbind (H := fun _ => none) (fun _ => .inl rfl) (fun b u z => nomatch z) (fun b z => absurd rfl z) (fun z => absurd rfl z)
      (hsp _ (.inr ⟨_, vs.toArray, _, hk, rfl, rfl, rfl, by rw [List.size_toArray, lv]; exact hl, by simpa using rv⟩))
  | none =>
    let o : Obj := { cls := .type "list", data := .seq vs.toArray }
    let H : Hp := upd (fun _ => none) a (.frz o (.lst (ns.map V.int)))
    have at_ : ∀ {b : Addr} {u : HO}, H b = some u → b = a ∧ u = .frz o (.lst (ns.map V.int)) := fun {b u} z => by
      by_cases y : b = a
      · subst y
        have z' : some (HO.frz o (.lst (ns.map V.int))) = some u := upd_same.symm.trans z
        cases z'
        exact ⟨rfl, rfl⟩
      · have z' : (none : Option HO) = some u := (upd_ne y).symm.trans z
        cases z'
    refine law_core KX hns hb hbb hlim hg ha hr F hbind (H := H) (fun b => ?_) (fun b u z => ?_) (fun b z => ?_) (fun _ => hk) (hsp H (.inl (.inr ⟨o, upd_same⟩)))
    · cases q : H b with
      | none => exact .inl rfl
      | some u => obtain ⟨_, rfl⟩ := at_ q; exact .inr ⟨_, _, rfl⟩
    · obtain ⟨rfl, rfl⟩ := at_ z
      exact ⟨ha, by rw [List.length_map]; exact hl, vs, _, rv, ha⟩
    · cases q : H b with
      | none => exact absurd q z
      | some u => exact (at_ q).1
end
/-- the goal behind the head, from the law's promise -/
theorem walk_law {l : PySem.W.OpenLaw} {n k : Nat} {q : Program} {loose : List Str} {XP : (Str → Option Value) → Heap → Prop} {YP : World → Heap → Prop} {d : DefRec} {K : Params → PySem.W.Frag} {sp : PySem.W.Frag → SpG} {x : Str}
    (hn : l.most = some n) (hn2 : n ≤ sizeLine) (hdf : d.params.defaults = []) (hr : Room k callerA) (hY : ∀ (w : World) (h : Heap), YP w h → (K w.params).In h)
    (F : ∀ (w : World) (mg : Str → Option Value) (fa : Addr) (h : Heap), (K w.params).In h → h.Ns mainGlobals mg → mg d.name = some (.ref fa) → ∃ fd : FuncData, (∀ (s : Shared) (u : Value), BindsTo s fd ⟨[u], []⟩ [(x, u)]) ∧
        ∀ base : Heap, (K w.params).In base → base.Ns mainGlobals mg → FnG l.prog w (K w.params) mg base k fa fd [x] (sp (K w.params)))
    (hsp : ∀ (K : PySem.W.Frag) (H : Hp) (a : Addr) (ns : List Int), ns.length ≤ n → SqL K H a (ns.map V.int) → sp K [.ref a] H fun v _ => v = .bl true) :
    PySem.W.WalkO q loose XP YP l.row.toRowW d [] (fun f vs => PySem.call f vs) := by
  refine Att.attach_call hn hdf fun w s₀ s₁ mg mb fa o pm cd doc a vs ns G Y ho hd hcd hmg hobj hints hlen hg => ?_
  obtain ⟨fd, hb, hF⟩ := F w mg fa _ (hY w _ Y) G.T.g hmg
  exact law_end (hY w _ Y) G.T.g G.T.b G.T.builtins G.T.nolimit hg hobj hints (Nat.le_trans hlen hn2) hr hF hb fun H hS => hsp _ H a ns hlen hS
end VI

/-! Operations on data: ==, in, repr, sorted; ints, texts, lists, tuples. -/
namespace VI
open PySem PySem.Spec PyProof.Rows L2

/-! ### data as the library's -/
mutual
def D.py : D → PyData
  | .non => .none
  | .bl b => .bool b
  | .int i => .int i
  | .str x => .str x
  | .tup xs => .tuple (pyL xs)
  | .lst xs => .list (pyL xs)
  | .dK _ => .none
  | .dT _ => .none
  | .ins _ _ => .none
  | .ptr _ => .none
  | .seq _ => .none
  | .tupK _ => .none
def pyL : List D → List PyData
  | [] => []
  | d :: ds => d.py :: pyL ds
end
mutual
def D.pure : D → Bool
  | .non => true
  | .bl _ => true
  | .int _ => true
  | .str _ => true
  | .tup xs => pureL xs
  | .lst xs => pureL xs
  | .dK _ => false
  | .dT _ => false
  | .ins _ _ => false
  | .ptr _ => false
  | .seq _ => false
  | .tupK _ => false
def pureL : List D → Bool
  | [] => true
  | d :: ds => d.pure && pureL ds
end
theorem pyL_map : ∀ ds : List D, pyL ds = ds.map D.py
  | [] => by simp [pyL]
  | d :: ds => by simp [pyL, pyL_map ds]
theorem pureL_all : ∀ ds : List D, pureL ds = ds.all D.pure
  | [] => by simp [pureL]
  | d :: ds => by simp [pureL, pureL_all ds]
theorem Rep.dp {K : PySem.W.Frag} {H : Hp} {v : V} {d : D} (h : Rep K H v d) : d.pure = true → Dp K H v d.py :=
  Rep.rec (motive_1 := fun v d _ => d.pure = true → Dp K H v d.py) (motive_2 := fun vs ds _ => pureL ds = true → DpAll K H vs (pyL ds))
    (fun _ => by rw [D.py]; exact .non) (fun b _ => by rw [D.py]; exact .bl b) (fun i _ => by rw [D.py]; exact .int i) (fun x _ => by rw [D.py]; exact .str x)
    (fun h1 _ q hp => by rw [D.py]; rw [D.pure] at hp; exact .tup (SqT.of h1) (q hp)) (fun h1 _ q hp => by rw [D.py]; rw [D.pure] at hp; exact .lst (SqL.of h1) (q hp))
    (fun _ _ _ _ hp => by rw [D.pure] at hp; cases hp) (fun _ _ _ _ hp => by rw [D.pure] at hp; cases hp) (fun _ _ _ _ hp => by rw [D.pure] at hp; cases hp) (fun _ hp => by rw [D.pure] at hp; cases hp)
    (fun _ _ _ hp => by rw [D.pure] at hp; cases hp) (fun _ _ _ hp => by rw [D.pure] at hp; cases hp) (fun _ => by rw [pyL]; exact .nil)
    (fun _ _ q r hp => by rw [pyL]; rw [pureL, Bool.and_eq_true] at hp; exact .cons (q hp.1) (r hp.2)) h
/-- a value as data -/
theorem Vw.dp {K : PySem.W.Frag} {F H : Hp} {v : V} {d : D} (h : Vw K F H v d) (l : Le F H) (hp : d.pure = true) : Dp K H v d.py := (h.rep l).dp hp
/-- plain data that the model compares -/
def D.ok (d : D) : Bool := d.pure && SeqAt.shaped d.py
theorem D.ok.p {d : D} (h : d.ok = true) : d.pure = true := (Bool.and_eq_true_iff.mp h).1
theorem D.ok.s {d : D} (h : d.ok = true) : SeqAt.shaped d.py = true := (Bool.and_eq_true_iff.mp h).2
abbrev fzB (b : Bool) : Option Sl := some ⟨.fz, .bl b⟩
abbrev fzI (i : Int) : Option Sl := some ⟨.fz, .int i⟩
abbrev fzS (x : Str) : Option Sl := some ⟨.fz, .str x⟩
def eqD (a b : D) : Bool := PyData.eqv a.py b.py
def eqOk : D → D → Bool
  | .str _, .str _ => true
  | a, b => a.ok && b.ok
def gEq (a b : D) : Option Sl := if eqOk a b = true then fzB (eqD a b) else none
def gNe (a b : D) : Option Sl := if eqOk a b = true then fzB (!eqD a b) else none
theorem eqOk_cases {a b : D} (h : eqOk a b = true) : (∃ x y, a = .str x ∧ b = .str y) ∨ (a.ok = true ∧ b.ok = true) := by
  unfold eqOk at h
  split at h
  · exact .inl ⟨_, _, rfl, rfl⟩
  · exact .inr (Bool.and_eq_true_iff.mp h)
theorem eqOk_of {a b : D} (h1 : a.ok = true) (h2 : b.ok = true) : eqOk a b = true := by
  unfold eqOk
  split
  · rfl
  · rw [h1, h2]; rfl
theorem eqD_strV (x y : Str) : eqD (.str x) (.str y) = decide (V.str x = V.str y) := by
  simp only [eqD, D.py, PyData.eqv, V.str.injEq]; rfl
theorem op2_eq {K : PySem.W.Frag} : Op2 K (fun x y H Q => rEq x y H Q ∨ rEqD K x y H Q) gEq := fun F H x y d e s Q l v w g k => by
  unfold gEq at g
  split at g
  · rename_i h
    cases g
    rcases eqOk_cases h with ⟨a, b, rfl, rfl⟩ | h
    · obtain rfl := v.str
      obtain rfl := w.str
      exact .inl ⟨rfl, by rw [← eqD_strV]; exact k _ _ _ (New.same l (.bl _))⟩
    · exact .inr ⟨d.py, e.py, v.dp l (D.ok.p h.1), w.dp l (D.ok.p h.2), D.ok.s h.1, D.ok.s h.2, k _ _ _ (New.same l (.bl _))⟩
  · cases g
theorem op2_ne {K : PySem.W.Frag} : Op2 K (fun x y H Q => rNe x y H Q ∨ rNeD K x y H Q) gNe := fun F H x y d e s Q l v w g k => by
  unfold gNe at g
  split at g
  · rename_i h
    cases g
    rcases eqOk_cases h with ⟨a, b, rfl, rfl⟩ | h
    · obtain rfl := v.str
      obtain rfl := w.str
      exact .inl ⟨rfl, by rw [← eqD_strV]; exact k _ _ _ (New.same l (.bl _))⟩
    · exact .inr ⟨d.py, e.py, v.dp l (D.ok.p h.1), w.dp l (D.ok.p h.2), D.ok.s h.1, D.ok.s h.2, k _ _ _ (New.same l (.bl _))⟩
  · cases g
section
variable {X : Cx}
/-- repr of data, where nothing is being shown -/
def rRepr (K : PySem.W.Frag) : List V → Hp → VK → Prop := fun xs H Q => ∃ x d, xs = [x] ∧ Dp K H x d ∧ d.showable = true ∧ d.depth ≤ 64 ∧ d.shown.length ≤ sizeLine ∧ Q (.str d.shown) H
mutual
theorem Dp.noDict {K : PySem.W.Frag} {H : Hp} : ∀ (d : PyData) (v : V), Dp K H v d → d.hasDict = false
  | .none, _, _ => by simp [PyData.hasDict]
  | .bool _, _, _ => by simp [PyData.hasDict]
  | .int _, _, _ => by simp [PyData.hasDict]
  | .str _, _, _ => by simp [PyData.hasDict]
  | .list ds, _, h => by cases h with | lst _ h2 => simpa [PyData.hasDict] using Dp.noDicts ds _ h2
  | .tuple ds, _, h => by cases h with | tup _ h2 => simpa [PyData.hasDict] using Dp.noDicts ds _ h2
  | .dict _, _, h => by cases h
theorem Dp.noDicts {K : PySem.W.Frag} {H : Hp} : ∀ (ds : List PyData) (vs : List V), DpAll K H vs ds → PyData.hasDictAll ds = false
  | [], _, _ => by simp [PyData.hasDictAll]
  | d :: ds, _, h => by cases h with | cons h1 h2 => simp [PyData.hasDictAll, Dp.noDict d _ h1, Dp.noDicts ds _ h2]
end
theorem call_reprD {k : Nat} (hr : Room k X.A) (hg : X.A.guards = some []) : CallR X (.builtin "repr") (rRepr X.K) := by
  intro pins s σ H xs us Q I r h
  obtain ⟨x, d, rfl, hd, hs, hdp, hz, q⟩ := h
  obtain ⟨u, rfl, ru⟩ := vals1 r
  have hnd := Dp.noDict d x hd
  cases hd with
  | non => cases ru; exact PySem.P.repr_of_none (by rw [PyData.shown] at q; exact ⟨.str _, H, I.tok _, ⟨_, rfl⟩, q⟩)
  | bl b => cases ru; exact PySem.P.repr_of_bool (by rw [PyData.shown] at q; exact ⟨.str _, H, I.tok _, ⟨_, rfl⟩, by cases b <;> exact q⟩)
  | int i =>
    obtain ⟨t, rfl⟩ := ru
    rw [PyData.showable] at hs
    exact PySem.P.repr_of_int (of_decide_eq_true hs) (by rw [PyData.shown] at q; exact ⟨.str _, H, I.tok _, ⟨_, rfl⟩, q⟩)
  | str z =>
    obtain ⟨t, rfl⟩ := ru
    rw [PyData.shown] at hz
    exact PySem.P.repr_of_str (by rw [PyData.shown] at q; exact ⟨.str _, H, I.tok _, ⟨_, rfl⟩, q⟩) hz
  | lst h1 h2 =>
    obtain ⟨as, rd⟩ := Dp.reads I _ _ u (.lst h1 h2) ru
    cases ru
    have hu := hr.units
    have := hr.un
    exact repr_of_reads' rd hs (PyData.noDict_hsm hnd) hg (by omega) (fun _ _ e => e) (fun h' u tk hk => ⟨.str _, H, I.kept (t' := tk) hk, ⟨u, rfl⟩, q⟩) hz
  | tup h1 h2 =>
    obtain ⟨as, rd⟩ := Dp.reads I _ _ u (.tup h1 h2) ru
    cases ru
    have := hr.un
    exact repr_of_reads' rd hs (PyData.noDict_hsm hnd) hg (by omega) (fun _ _ e => e) (fun h' u tk hk => ⟨.str _, H, I.kept (t' := tk) hk, ⟨u, rfl⟩, q⟩) hz
def reprOk (d : D) : Bool := d.pure && d.py.showable && decide (d.py.depth ≤ 64) && decide (d.py.shown.length ≤ sizeLine)
def gRepr : List D → Option Sl
  | [d] => if reprOk d = true then fzS d.py.shown else none
  | _ => none
theorem opN_repr {K : PySem.W.Frag} : OpN K (rRepr K) gRepr := fun F H vs ds s Q l v g k => by
  unfold gRepr at g
  split at g
  · rename_i d
    split at g
    · rename_i h
      cases g
      obtain ⟨x, rfl, w⟩ := v.one
      unfold reprOk at h
      simp only [Bool.and_eq_true, decide_eq_true_eq] at h
      exact ⟨x, d.py, rfl, w.dp l h.1.1.1, h.1.1.2, h.1.2, h.2, k _ _ _ (New.same l (.str _))⟩
    · cases g
  · cases g
/-! ### sorted -/
def sortOk (ds : List D) : Bool := ds.all (fun d => d.pure && decide (d.py.depth ≤ 64)) && ds.all (fun d => ds.all fun e => PySem.W.alike d.py e.py) && decide (ds.length ≤ sizeLine) &&
  (ds.all (fun d => match d with | .tup (_ :: _) => true | _ => false) || ds.all fun d => match d with | .tup _ => false | .non => false | _ => true)
def sortL (ds : List D) : List D := ds.mergeSort (PySem.W.dataLe false D.py)
def gSorted : List D → Option Sl
  | [.lst ds] => if sortOk ds = true then some ⟨.own, .lst (sortL ds)⟩ else none
  | _ => none
def rSortedD (K : PySem.W.Frag) : List V → Hp → VK → Prop := fun xs H Q => ∃ (a : Addr) (vs : List V) (ds : List D) (F : Hp), xs = [.ref a] ∧ Le F H ∧ SqL K H a vs ∧ RepL K F vs ds ∧ sortOk ds = true ∧
  ∀ ws p, H p = none → RepL K F ws (sortL ds) → Q (.ref p) (upd H p (.lst ws))
theorem each_of {K : PySem.W.Frag} {F : Hp} {ds : List D} {xs : List V} {us : List Value} (h : RepL K F xs ds) (r : Vals xs us) : PySem.W.EachIs (fun u d => ∃ x, RelV x u ∧ Rep K F x d) us ds := by
  induction ds generalizing xs us with
  | nil => cases h; cases r; exact .nil
  | cons d ds ih =>
    cases h with
    | cons h1 h2 => cases r with | cons r1 r2 => exact .cons ⟨_, r1, h1⟩ (ih h2 r2)
theorem each_back {K : PySem.W.Frag} {F : Hp} {ds : List D} {us : List Value} (h : PySem.W.EachIs (fun u d => ∃ x, RelV x u ∧ Rep K F x d) us ds) : ∃ xs, Vals xs us ∧ RepL K F xs ds := by
  induction ds generalizing us with
  | nil => cases h; exact ⟨[], .nil, .nil⟩
  | cons d ds ih =>
    cases h with
    | cons h1 h2 =>
      obtain ⟨x, r, q⟩ := h1
      obtain ⟨xs, rs, qs⟩ := ih h2
      exact ⟨x :: xs, .cons r rs, .cons q qs⟩
theorem call_sortedD {k : Nat} (hr : Room k X.A) : CallR X (.builtin "sorted") (rSortedD X.K) := by
  intro pins s σ H xs us Q I r h
  obtain ⟨a, vs, ds, F, rfl, l, hs, rp, ok, q⟩ := h
  obtain ⟨its, rv, hl, _⟩ := I.list hs
  rw [Vals.ref1 r]
  unfold sortOk at ok
  simp only [Bool.and_eq_true, List.all_eq_true, decide_eq_true_eq, Bool.or_eq_true] at ok
  obtain ⟨⟨⟨h1, h2⟩, h3⟩, h4⟩ := ok
  have each := each_of rp rv
  have er : PySem.W.EachIs (fun u d => ∃ as, Reads s.heap u d.py as) its ds := (PySem.W.each_mem each).mono fun u d ⟨⟨x, rx, hx⟩, hm⟩ => Dp.reads I _ _ u ((hx.mono l).dp (h1 d hm).1) rx
  have hun := hr.un
  have hsort : PySem.W.Sortable (ds.map D.py) := by
    rcases h4 with h4 | h4
    · refine .inl fun d hd => ?_
      obtain ⟨b, hb, rfl⟩ := List.mem_map.mp hd
      have z := h4 b hb
      split at z
      · rename_i x r; exact ⟨x.py, pyL r, by simp [D.py, pyL]⟩
      · cases z
    · refine .inr fun d hd => ?_
      obtain ⟨b, hb, rfl⟩ := List.mem_map.mp hd
      have z := h4 b hb
      have zp := (h1 b hb).1
      cases b <;> first | (simp at z; done) | (simp [D.py]; done) | (simp [D.pure] at zp; done)
  refine PySem.W.sorted_data (enc := D.py) hl.isList each er (fun d hd d' hd' => ?_) hsort h3 (fun b hb => ?_) fun out ho he => ?_
  · obtain ⟨b, hb, rfl⟩ := List.mem_map.mp hd
    obtain ⟨b', hb', rfl⟩ := List.mem_map.mp hd'
    exact h2 b hb b' hb'
  · have := (h1 b hb).2
    omega
  · obtain ⟨ws, rw', rp'⟩ := each_back he
    obtain ⟨ep, he'⟩ := PyProof.Rows.sortedAll_at s.heap its out.toArray
    have hlen : ws.length ≤ sizeLine := by rw [rw'.length, ho]; exact h3
    exact ⟨.ref _, upd H (s.heap.objs.size + 1) (.lst ws), I.laid (t' := s.toks) (fun _ _ => PyProof.Rows.sortedAll_old) (Nat.le_succ _) ⟨hlen, out, ep, rw', by simpa using he'⟩, rfl, q ws _ (I.hok.fresh (Nat.le_succ _)) rp'⟩
theorem opN_sorted {K : PySem.W.Frag} : OpN K (rSortedD K) gSorted := fun F H vs ds s Q l v g k => by
  unfold gSorted at g
  split at g
  · rename_i es
    split at g
    · rename_i h
      cases g
      obtain ⟨x, rfl, w⟩ := v.one
      obtain ⟨a, ws, rfl, h1, h2⟩ := w.lst l
      exact ⟨a, ws, es, F, rfl, l, SqL.of h1, h2, h, fun ws p hp rp => k _ _ _ (New.lst l hp rp)⟩
    · cases g
  · cases g
/-! ### in, not in -/
def rInL (K : PySem.W.Frag) (neg : Bool) : R2 := if neg then rNotInD K else rInD K
def inL (x : D) (ys : List D) : Bool := ys.any fun z => eqD z x
def gIn : D → D → Option Sl
  | x, .lst ys => if x.ok = true ∧ (D.lst ys).ok = true then fzB (inL x ys) else none
  | _, _ => none
def gNotIn : D → D → Option Sl
  | x, .lst ys => if x.ok = true ∧ (D.lst ys).ok = true then fzB (!inL x ys) else none
  | _, _ => none
theorem any_pyL (x : D) (ys : List D) : ((pyL ys).any fun z => PyData.eqv z x.py) = inL x ys := by
  rw [pyL_map, List.any_map]; rfl
theorem op2_in {K : PySem.W.Frag} : Op2 K (rInD K) gIn := fun F H x y d e s Q l v w g k => by
  unfold gIn at g
  split at g
  · rename_i ys
    split at g
    · rename_i h
      cases g
      have q := w.dp l (D.ok.p h.2)
      have z := D.ok.s h.2
      rw [D.py] at q z
      exact ⟨d.py, pyL ys, v.dp l (D.ok.p h.1), q, D.ok.s h.1, z, by rw [any_pyL]; exact k _ _ _ (New.same l (.bl _))⟩
    · cases g
  · cases g
theorem op2_notIn {K : PySem.W.Frag} : Op2 K (rNotInD K) gNotIn := fun F H x y d e s Q l v w g k => by
  unfold gNotIn at g
  split at g
  · rename_i ys
    split at g
    · rename_i h
      cases g
      have q := w.dp l (D.ok.p h.2)
      have z := D.ok.s h.2
      rw [D.py] at q z
      exact ⟨d.py, pyL ys, v.dp l (D.ok.p h.1), q, D.ok.s h.1, z, by rw [any_pyL]; exact k _ _ _ (New.same l (.bl _))⟩
    · cases g
  · cases g
end
end VI

namespace VI
open PySem PySem.Spec PyProof.Rows L2

/-! ### ints -/
section
variable {K : PySem.W.Frag}
theorem op2_i0 {f : Int → Int → V} {g : D → D → Option Sl} (hg : ∀ d e s, g d e = some s → ∃ i j x, d = .int i ∧ e = .int j ∧ s = ⟨.fz, x⟩ ∧ ∀ F, Rep K F (f i j) x) : Op2 K (rI0 f) g := fun F H x y d e s Q l v w h k => by
  obtain ⟨i, j, z, rfl, rfl, rfl, rp⟩ := hg d e s h
  exact ⟨i, j, v.int, w.int, k _ _ _ (New.same l (rp F))⟩
theorem op2_i {C : Int → Int → Prop} {f : Int → Int → V} {g : D → D → Option Sl} (hg : ∀ d e s, g d e = some s → ∃ i j x, d = .int i ∧ e = .int j ∧ C i j ∧ s = ⟨.fz, x⟩ ∧ ∀ F, Rep K F (f i j) x) : Op2 K (rI C f) g := fun F H x y d e s Q l v w h k => by
  obtain ⟨i, j, z, rfl, rfl, c, rfl, rp⟩ := hg d e s h
  exact ⟨i, j, v.int, w.int, c, k _ _ _ (New.same l (rp F))⟩
def gI2 (f : Int → Int → D) : D → D → Option Sl
  | .int i, .int j => some ⟨.fz, f i j⟩
  | _, _ => none
theorem gI2_inv {f : Int → Int → D} {d e : D} {s : Sl} (h : gI2 f d e = some s) : ∃ i j, d = .int i ∧ e = .int j ∧ s = ⟨.fz, f i j⟩ := by
  unfold gI2 at h
  split at h
  · cases h; exact ⟨_, _, rfl, rfl, rfl⟩
  · cases h
theorem op2_int {f : Int → Int → Int} : Op2 K (rI0 fun i j => .int (f i j)) (gI2 fun i j => .int (f i j)) := op2_i0 fun d e s h => by
  obtain ⟨i, j, rfl, rfl, rfl⟩ := gI2_inv h
  exact ⟨i, j, _, rfl, rfl, rfl, fun F => .int _⟩
theorem op2_cmp {f : Int → Int → Bool} : Op2 K (rI0 fun i j => .bl (f i j)) (gI2 fun i j => .bl (f i j)) := op2_i0 fun d e s h => by
  obtain ⟨i, j, rfl, rfl, rfl⟩ := gI2_inv h
  exact ⟨i, j, _, rfl, rfl, rfl, fun F => .bl _⟩
def gI2c (C : Int → Int → Prop) [∀ i j, Decidable (C i j)] (f : Int → Int → Int) : D → D → Option Sl
  | .int i, .int j => if C i j then fzI (f i j) else none
  | _, _ => none
theorem op2_intc {C : Int → Int → Prop} [∀ i j, Decidable (C i j)] {f : Int → Int → Int} : Op2 K (rI C fun i j => .int (f i j)) (gI2c C f) := op2_i fun d e s h => by
  unfold gI2c at h
  split at h
  · split at h
    · rename_i c; cases h; exact ⟨_, _, _, rfl, rfl, c, rfl, fun F => .int _⟩
    · cases h
  · cases h
instance (i j : Int) : Decidable (CMul i j) := by unfold CMul; exact inferInstance
instance (i j : Int) : Decidable (CDivN i j) := by unfold CDivN; exact inferInstance
instance (i j : Int) : Decidable (CPow i j) := by unfold CPow; exact inferInstance
/-- either of two operations -/
def orG (g h : D → D → Option Sl) : D → D → Option Sl := fun d e => match g d e with
  | some s => some s
  | none => h d e
theorem Op2.or {r r' : R2} {g h : D → D → Option Sl} (a : Op2 K r g) (b : Op2 K r' h) : Op2 K (fun x y H Q => r x y H Q ∨ r' x y H Q) (orG g h) := fun F H x y d e s Q l v w q k => by
  unfold orG at q
  split at q
  · rename_i s' hs; cases q; exact .inl (a F H x y d e s Q l v w hs k)
  · exact .inr (b F H x y d e s Q l v w q k)
def orN (g h : List D → Option Sl) : List D → Option Sl := fun ds => match g ds with
  | some s => some s
  | none => h ds
theorem OpN.or {r r' : List V → Hp → VK → Prop} {g h : List D → Option Sl} (a : OpN K r g) (b : OpN K r' h) : OpN K (fun xs H Q => r xs H Q ∨ r' xs H Q) (orN g h) := fun F H vs ds s Q l v q k => by
  unfold orN at q
  split at q
  · rename_i s' hs; cases q; exact .inl (a F H vs ds s Q l v hs k)
  · exact .inr (b F H vs ds s Q l v q k)
/-! ### texts, lists, tuples: + -/
def gAddS : D → D → Option Sl
  | .str x, .str y => if x.length + y.length ≤ sizeLine then fzS (x ++ y) else none
  | _, _ => none
theorem op2_addS : Op2 K (fun x y H Q => ∃ i j, x = .str i ∧ y = .str j ∧ i.length + j.length ≤ sizeLine ∧ Q (.str (i ++ j)) H) gAddS := fun F H x y d e s Q l v w q k => by
  unfold gAddS at q
  split at q
  · split at q
    · rename_i h; cases q; exact ⟨_, _, v.str, w.str, h, k _ _ _ (New.same l (.str _))⟩
    · cases q
  · cases q
def gAddL : D → D → Option Sl
  | .lst x, .lst y => if x.length + y.length ≤ sizeLine then some ⟨.own, .lst (x ++ y)⟩ else none
  | _, _ => none
theorem op2_addL : Op2 K rCat gAddL := fun F H x y d e s Q l v w q k => by
  unfold gAddL at q
  split at q
  · split at q
    · rename_i h
      cases q
      obtain ⟨a, vs, rfl, h1, h2⟩ := v.lst l
      obtain ⟨b, ws, rfl, h3, h4⟩ := w.lst l
      exact ⟨a, b, vs, ws, rfl, rfl, h1, h3, by rw [h2.length, h4.length]; exact h, fun p hp => k _ _ _ (New.lst l hp (h2.append h4))⟩
    · cases q
  · cases q
def gAddT : D → D → Option Sl
  | .tup x, .tup y => if x ≠ [] ∧ x.length + y.length ≤ sizeLine then some ⟨.fz, .tup (x ++ y)⟩ else none
  | _, _ => none
def gMulL : D → D → Option Sl
  | .lst x, .int n => if -(2 ^ 63) ≤ n ∧ n < 2 ^ 63 ∧ x.length * n.toNat ≤ sizeLine then some ⟨.own, .lst (List.replicate n.toNat x).flatten⟩ else none
  | _, _ => none
theorem RepL.rep {F : Hp} {vs : List V} {ds : List D} (h : RepL K F vs ds) : ∀ n, RepL K F (List.replicate n vs).flatten (List.replicate n ds).flatten
  | 0 => .nil
  | n + 1 => by rw [List.replicate_succ, List.replicate_succ, List.flatten_cons, List.flatten_cons]; exact h.append (RepL.rep h n)
theorem op2_mulL : Op2 K rRep gMulL := fun F H x y d e s Q l v w q k => by
  unfold gMulL at q
  split at q
  · split at q
    · rename_i h
      cases q
      obtain ⟨a, vs, rfl, h1, h2⟩ := v.lst l
      exact ⟨a, _, vs, rfl, w.int, h1, h.1, h.2.1, by rw [h2.length]; exact h.2.2, fun p hp => k _ _ _ (New.lst l hp (h2.rep _))⟩
    · cases q
  · cases q
/-! ### subscripts -/
def gIxL : D → D → Option Sl
  | .lst x, .int i => match atI x i with
    | some d => some ⟨.fz, d⟩
    | none => none
  | _, _ => none
def gIxT : D → D → Option Sl
  | .tup x, .int i => match atI x i with
    | some d => some ⟨.fz, d⟩
    | none => none
  | _, _ => none
theorem RepL.atI {F : Hp} {vs : List V} {ds : List D} (h : RepL K F vs ds) {i : Int} {d : D} (e : atI ds i = some d) : ∃ v, L2.atI vs i = some v ∧ Rep K F v d := by
  unfold L2.atI at e ⊢
  rw [h.length]
  cases q : ixN ds.length i with
  | none => rw [q] at e; cases e
  | some j =>
    rw [q] at e
    exact h.getD e
theorem op2_ixL : Op2 K (rIxL K) gIxL := fun F H x y d e s Q l v w q k => by
  unfold gIxL at q
  split at q
  · split at q
    · rename_i z hz
      cases q
      obtain ⟨a, vs, rfl, h1, h2⟩ := v.lst l
      obtain ⟨u, hu, r⟩ := h2.atI hz
      exact ⟨a, vs, _, u, rfl, w.int, SqL.of h1, hu, k _ _ _ (New.same l r)⟩
    · cases q
  · cases q
theorem op2_ixT : Op2 K (rIxT K) gIxT := fun F H x y d e s Q l v w q k => by
  unfold gIxT at q
  split at q
  · split at q
    · rename_i z hz
      cases q
      obtain ⟨a, vs, rfl, h1, h2, _⟩ := v.tup l
      obtain ⟨u, hu, r⟩ := h2.atI hz
      exact ⟨a, vs, _, u, rfl, w.int, SqT.of h1, hu, k _ _ _ (New.same l r)⟩
    · cases q
  · cases q
def gIxS : D → D → Option Sl
  | .str x, .int i => if x.length ≤ sizeLine then match atI x.cps.toList i with
      | some c => fzS ⟨#[c]⟩
      | none => none
    else none
  | _, _ => none
theorem op2_ixS : Op2 K rIxS gIxS := fun F H x y d e s Q l v w q k => by
  unfold gIxS at q
  split at q
  · split at q
    · rename_i h
      split at q
      · rename_i c hc
        cases q
        exact ⟨_, _, c, v.str, w.int, h, hc, k _ _ _ (New.same l (.str _))⟩
      · cases q
    · cases q
  · cases q
def gIx : D → D → Option Sl := orG gIxL (orG gIxT gIxS)
theorem op2_ix : Op2 K (rIx K) gIx := op2_ixL.or (op2_ixT.or op2_ixS)
/-! ### calls -/
def gLen : List D → Option Sl
  | [.lst x] => fzI x.length
  | [.tup x] => fzI x.length
  | _ => none
theorem opN_len : OpN K (fun xs H Q => ∃ p ys, xs = [.ref p] ∧ (SqL K H p ys ∨ SqT K H p ys) ∧ Q (.int ys.length) H) gLen := fun F H vs ds s Q l v q k => by
  unfold gLen at q
  split at q
  · cases q
    obtain ⟨x, rfl, w⟩ := v.one
    obtain ⟨a, ws, rfl, h1, h2⟩ := w.lst l
    exact ⟨a, ws, rfl, .inl (SqL.of h1), by rw [h2.length]; exact k _ _ _ (New.same l (.int _))⟩
  · cases q
    obtain ⟨x, rfl, w⟩ := v.one
    obtain ⟨a, ws, rfl, h1, h2, _⟩ := w.tup l
    exact ⟨a, ws, rfl, .inr (SqT.of h1), by rw [h2.length]; exact k _ _ _ (New.same l (.int _))⟩
  · cases q
def gLenS : List D → Option Sl
  | [.str x] => if x.length ≤ sizeLine then fzI x.length else none
  | _ => none
theorem opN_lenS : OpN K (fun xs H Q => ∃ z, xs = [.str z] ∧ z.length ≤ sizeLine ∧ Q (.int z.length) H) gLenS := fun F H vs ds s Q l v q k => by
  unfold gLenS at q
  split at q
  · split at q
    · rename_i h
      cases q
      obtain ⟨x, rfl, w⟩ := v.one
      exact ⟨_, by rw [w.str], h, k _ _ _ (New.same l (.int _))⟩
    · cases q
  · cases q
def gAbs : List D → Option Sl
  | [.int i] => fzI (if i < 0 then -i else i)
  | _ => none
theorem opN_abs : OpN K (fun xs H Q => ∃ i, xs = [.int i] ∧ Q (.int (if i < 0 then -i else i)) H) gAbs := fun F H vs ds s Q l v q k => by
  unfold gAbs at q
  split at q
  · cases q
    obtain ⟨x, rfl, w⟩ := v.one
    exact ⟨_, by rw [w.int], k _ _ _ (New.same l (.int _))⟩
  · cases q
def gInt : List D → Option Sl
  | [.int i] => fzI i
  | [.bl b] => fzI (if b then 1 else 0)
  | _ => none
theorem opN_int : OpN K (fun xs H Q => (∃ i, xs = [.int i] ∧ Q (.int i) H) ∨ ∃ k, xs = [.bl k] ∧ Q (.int (if k then 1 else 0)) H) gInt := fun F H vs ds s Q l v q k => by
  unfold gInt at q
  split at q
  · cases q
    obtain ⟨x, rfl, w⟩ := v.one
    exact .inl ⟨_, by rw [w.int], k _ _ _ (New.same l (.int _))⟩
  · cases q
    obtain ⟨x, rfl, w⟩ := v.one
    exact .inr ⟨_, by rw [w.bl], k _ _ _ (New.same l (.int _))⟩
  · cases q
def gList : List D → Option Sl
  | [.lst x] => some ⟨.own, .lst x⟩
  | [.tup x] => some ⟨.own, .lst x⟩
  | _ => none
theorem opN_list : OpN K (fun xs H Q => ∃ p ys, xs = [.ref p] ∧ (SqL K H p ys ∨ SqT K H p ys) ∧ ∀ l, H l = none → Q (.ref l) (upd H l (.lst ys))) gList := fun F H vs ds s Q l v q k => by
  unfold gList at q
  split at q
  · cases q
    obtain ⟨x, rfl, w⟩ := v.one
    obtain ⟨a, ws, rfl, h1, h2⟩ := w.lst l
    exact ⟨a, ws, rfl, .inl (SqL.of h1), fun p hp => k _ _ _ (New.lst l hp h2)⟩
  · cases q
    obtain ⟨x, rfl, w⟩ := v.one
    obtain ⟨a, ws, rfl, h1, h2, _⟩ := w.tup l
    exact ⟨a, ws, rfl, .inr (SqT.of h1), fun p hp => k _ _ _ (New.lst l hp h2)⟩
  · cases q
/-- list(text) -/
def signsD (x : Str) : List D := x.cps.toList.map fun c => .str ⟨#[c]⟩
def gListS : List D → Option Sl
  | [.str x] => if x.cps.size ≤ sizeLine then some ⟨.own, .lst (signsD x)⟩ else none
  | _ => none
theorem RepL.signs {F : Hp} : ∀ cs : List Nat, RepL K F (cs.map fun c => V.str ⟨#[c]⟩) (cs.map fun c => D.str ⟨#[c]⟩)
  | [] => .nil
  | c :: cs => .cons (.str _) (RepL.signs cs)
def rListS : List V → Hp → VK → Prop := fun xs H Q => ∃ z : Str, xs = [.str z] ∧ z.cps.size ≤ sizeLine ∧ ∀ p, H p = none → Q (.ref p) (upd H p (.lst (z.cps.toList.map fun c => .str ⟨#[c]⟩)))
theorem opN_listS : OpN K rListS gListS := fun F H vs ds s Q l v q k => by
  unfold gListS at q
  split at q
  · split at q
    · rename_i h
      cases q
      obtain ⟨x, rfl, w⟩ := v.one
      exact ⟨_, by rw [w.str], h, fun p hp => k _ _ _ (New.lst l hp (RepL.signs _))⟩
    · cases q
  · cases q
end
theorem call_list_text {X : Cx} (hc : X.calm = true) : CallR X (.type "list") rListS := by
  intro pins s σ H xs us Q I r h
  obtain ⟨z, rfl, hz, q⟩ := h
  obtain ⟨u, rfl, ru⟩ := vals1 r
  obtain ⟨t, rfl⟩ := ru
  refine call_list_str (I.ok.hd hc) z t (hn := hz) fun h' tk acc c hk hS ha => ?_
  refine ⟨.ref s.heap.objs.size, upd H s.heap.objs.size (.lst (z.cps.toList.map fun c => .str ⟨#[c]⟩)), I.laid (t' := tk) hk (Nat.le_refl _) ⟨by rw [List.length_map]; simpa using hz, acc.toList, c, ?_, by simpa using hS⟩, rfl, q _ I.fresh⟩
  refine vals_of_at (by simp [ha.1]) fun j x w h1 h2 => ?_
  obtain ⟨c', u', hc', rfl⟩ := ha.2 j w (by simpa using h2)
  rw [List.getElem?_map] at h1
  have e : z.cps.toList[j]? = some c' := by simpa using hc'
  rw [e] at h1
  cases h1
  exact ⟨u', rfl⟩
end VI

namespace VI
open PySem PySem.Spec PyProof.Rows L2

/-! ### slices -/
abbrev MP := Option ME
def evalP : MP → Rho → Option (Option Int × Rho)
  | none, ρ => some (none, ρ)
  | some f, ρ => match f ρ with
    | some (⟨.fz, .int i⟩, ρ1) => some (some i, ρ1)
    | _ => none
def tP (K : PySem.W.Frag) (p : MP) : TO := fun σ H Q => ∃ F ρ o ρ', Rel K F ρ σ H ∧ evalP p ρ = some (o, ρ') ∧ ∀ F' H', Rel K F' ρ' σ H' → StpE F ρ σ H F' ρ' H' → Q o H'
abbrev VP (X : Cx) (e : Option Expr) (p : MP) : Prop := PO X e (tP X.K p)
theorem PO.of {X : Cx} {e : Option Expr} {t t' : TO} (h : PO X e t) (q : ∀ σ H Q, t' σ H Q → t σ H Q) : PO X e t' := ⟨fun pins s σ H Q I w => h.run pins s σ H Q I (q σ H Q w)⟩
theorem vp_none {X : Cx} : VP X none none := PO.of po_none fun σ H Q ⟨F, ρ, o, ρ', R, e, post⟩ => by cases e; exact post F H R .refl
theorem vp_some {X : Cx} {e : Expr} {f : ME} (h : VE X e f) : VP X (some e) (some f) := PO.of (po_some h) fun σ H Q ⟨F, ρ, o, ρ', R, e, post⟩ => by
  unfold evalP at e
  simp only at e
  split at e
  · rename_i i ρ1 hf
    cases e
    refine ⟨F, ρ, _, _, R, hf, fun v F1 H1 R1 S1 res => ?_⟩
    have q : Rep X.K F1 v (.int i) := res
    cases q
    exact ⟨i, rfl, post F1 H1 R1 S1⟩
  · cases e
def cutD (xs : List D) (lo hi : Option Int) : List D := (xs.drop (HT.sIx xs.length 0 lo)).take (HT.sIx xs.length xs.length hi - HT.sIx xs.length 0 lo)
theorem RepL.cut {K : PySem.W.Frag} {F : Hp} {vs : List V} {ds : List D} (h : RepL K F vs ds) (lo hi : Option Int) : RepL K F (cutV vs lo hi) (cutD ds lo hi) := by
  unfold cutV cutD; rw [h.length]; exact (h.drop _).take _
def Op3 (K : PySem.W.Frag) (r : V → Option Int → Option Int → Hp → VK → Prop) (g : D → Option Int → Option Int → Option Sl) : Prop := ∀ (F H : Hp) (x : V) (d : D) (lo hi : Option Int) (s : Sl) (Q : VK), Le F H → Vw K F H x d → g d lo hi = some s → (∀ v F' H', New K F H F' H' v s → Q v H') → r x lo hi H Q
def fSl (g : D → Option Int → Option Int → Option Sl) (a : Opd) (lo hi : MP) : ME := fun ρ => do
  let (pk, ρ1) ← evalO a ρ
  let (l, ρ2) ← evalP lo ρ1
  let (h, ρ3) ← evalP hi ρ2
  let d ← look pk ρ3
  let r ← g d l h
  pure (r, ρ3)
theorem tE_sl {K : PySem.W.Frag} {r : V → Option Int → Option Int → Hp → VK → Prop} {g : D → Option Int → Option Int → Option Sl} {a : Opd} {lo hi : MP} {σ : L2.St} {H : Hp} {Q : VK} (hg : Op3 K r g) (h : tE K (fSl g a lo hi) σ H Q) : tSl r (tO K a) (tP K lo) (tP K hi) σ H Q := by
  obtain ⟨F, ρ, s, ρ', R, e, post⟩ := h
  obtain ⟨⟨pk, ρ1⟩, e1, e⟩ := bind_some e
  obtain ⟨⟨l, ρ2⟩, e2, e⟩ := bind_some e
  obtain ⟨⟨u, ρ3⟩, e3, e⟩ := bind_some e
  obtain ⟨d, e4, e⟩ := bind_some e
  obtain ⟨s', e5, e⟩ := bind_some e
  cases e
  refine ⟨F, ρ, pk, ρ1, R, e1, fun x F1 H1 R1 S1 P1 => ⟨F1, ρ1, l, ρ2, R1, e2, fun F2 H2 R2 S2 => ⟨F2, ρ2, u, _, R2, e3, fun F3 H3 R3 S3 => ?_⟩⟩⟩
  refine hg F3 H3 x d l u s _ R3.le ((P1.mono (S2.stp.le.trans S3.stp.le)).vw R3 e4) e5 fun v F4 H4 N => ?_
  obtain ⟨R4, S4, q⟩ := after_ops R3 ((S1.trans S2).trans S3) N
  exact post v F4 H4 R4 S4 q
theorem ve_slice {X : Cx} {r : V → Option Int → Option Int → Hp → VK → Prop} {g : D → Option Int → Option Int → Option Sl} {e : Expr} {lo hi : Option Expr} {a : Opd} {l h : MP} {p2 pos : Pos} (hr : SlR X r) (hg : Op3 X.K r g) (he : VO X e a) (hl : VP X lo l) (hh : VP X hi h) : VE X (.Subscript e (.Slice lo hi none p2) pos) (fSl g a l h) :=
  VE.of (pe_slice hr he hl hh) fun _ _ _ _ q => tE_sl hg q
def gSlL : D → Option Int → Option Int → Option Sl
  | .lst xs, lo, hi => some ⟨.own, .lst (cutD xs lo hi)⟩
  | .seq xs, lo, hi => some ⟨.own, .lst (cutD xs lo hi)⟩
  | _, _, _ => none
theorem op3_slL {K : PySem.W.Frag} : Op3 K (rSlL K) gSlL := fun F H x d lo hi s Q l v g k => by
  unfold gSlL at g
  split at g
  · cases g
    obtain ⟨a, vs, rfl, h1, h2⟩ := v.lst l
    exact ⟨a, vs, rfl, SqL.of h1, fun p hp => k _ _ _ (New.lst l hp (h2.cut lo hi))⟩
  · cases g
    obtain ⟨a, vs, rfl, h1, h2⟩ := v.seq l
    exact ⟨a, vs, rfl, h1, fun p hp => k _ _ _ (New.lst l hp (h2.cut lo hi))⟩
  · cases g

/-! ### dicts -/
section
variable {κ : Type} [DecidableEq κ]
def valD (es : List (κ × D)) (k : κ) : Option D := (es.find? fun e => decide (e.1 = k)).map (·.2)
def putD (es : List (κ × D)) (k : κ) (d : D) : List (κ × D) :=
  if (es.any fun e => decide (e.1 = k)) = true then es.map (fun e => if e.1 = k then (e.1, d) else e) else es ++ [(k, d)]
variable {K : PySem.W.Frag} {F : Hp}
theorem kv_val : ∀ {kvs : List (κ × V)} {es : List (κ × D)} {k : κ}, kvs.map Prod.fst = es.map Prod.fst → RepL K F (kvs.map Prod.snd) (es.map Prod.snd) →
    (∀ d, valD es k = some d → ∃ v, valV kvs k = some v ∧ Rep K F v d) ∧ (valD es k = none → valV kvs k = none)
  | [], [], k, _, _ => ⟨fun d h => by simp [valD] at h, fun _ => rfl⟩
  | (k1, v1) :: kvs, (k2, d2) :: es, k, h1, h2 => by
    simp only [List.map_cons, List.cons.injEq] at h1
    obtain ⟨rfl, h1⟩ := h1
    cases h2 with
    | cons r t =>
      by_cases e : k1 = k
      · subst e
        refine ⟨fun d h => ?_, fun h => ?_⟩
        · have : d2 = d := by simpa [valD] using h
          subst this
          exact ⟨v1, by simp [valV], r⟩
        · simp [valD] at h
      · have q := kv_val (k := k) h1 t
        refine ⟨fun d h => ?_, fun h => ?_⟩
        · obtain ⟨v, hv, rv⟩ := q.1 d (by simpa [valD, e] using h)
          exact ⟨v, by simpa [valV, e] using hv, rv⟩
        · have := q.2 (by simpa [valD, e] using h)
          simpa [valV, e] using this
  | [], _ :: _, _, h, _ => by cases h
  | _ :: _, [], _, h, _ => by cases h
theorem any_keys {kvs : List (κ × V)} {es : List (κ × D)} {k : κ} (h : kvs.map Prod.fst = es.map Prod.fst) : (kvs.any fun kv => decide (kv.1 = k)) = (es.any fun e => decide (e.1 = k)) := by
  have e1 : (kvs.any fun kv => decide (kv.1 = k)) = ((kvs.map Prod.fst).any fun x => decide (x = k)) := by rw [List.any_map]; rfl
  have e2 : (es.any fun e => decide (e.1 = k)) = ((es.map Prod.fst).any fun x => decide (x = k)) := by rw [List.any_map]; rfl
  rw [e1, e2, h]
theorem kv_map {k : κ} {v : V} {d : D} (r : Rep K F v d) : ∀ {kvs : List (κ × V)} {es : List (κ × D)}, kvs.map Prod.fst = es.map Prod.fst → RepL K F (kvs.map Prod.snd) (es.map Prod.snd) →
    (kvs.map fun kv => if kv.1 = k then (kv.1, v) else kv).map Prod.fst = (es.map fun e => if e.1 = k then (e.1, d) else e).map Prod.fst ∧ RepL K F ((kvs.map fun kv => if kv.1 = k then (kv.1, v) else kv).map Prod.snd) ((es.map fun e => if e.1 = k then (e.1, d) else e).map Prod.snd)
  | [], [], _, _ => ⟨rfl, .nil⟩
  | (k1, v1) :: kvs, (k2, d2) :: es, h1, h2 => by
    simp only [List.map_cons, List.cons.injEq] at h1
    obtain ⟨rfl, h1⟩ := h1
    cases h2 with
    | cons r1 t =>
      obtain ⟨q1, q2⟩ := kv_map r h1 t
      by_cases e : k1 = k
      · simp only [List.map_cons, e, if_true]
        exact ⟨by rw [q1], .cons r q2⟩
      · simp only [List.map_cons, if_neg e]
        exact ⟨by rw [q1], .cons r1 q2⟩
  | [], _ :: _, h, _ => by cases h
  | _ :: _, [], h, _ => by cases h
theorem kv_put {kvs : List (κ × V)} {es : List (κ × D)} {k : κ} {v : V} {d : D} (h1 : kvs.map Prod.fst = es.map Prod.fst) (h2 : RepL K F (kvs.map Prod.snd) (es.map Prod.snd)) (r : Rep K F v d) :
    (putK kvs k v).map Prod.fst = (putD es k d).map Prod.fst ∧ RepL K F ((putK kvs k v).map Prod.snd) ((putD es k d).map Prod.snd) := by
  unfold putK putD
  rw [any_keys h1]
  split
  · exact kv_map r h1 h2
  · rw [List.map_append, List.map_append, List.map_append, List.map_append, h1]
    exact ⟨rfl, h2.append (.one r)⟩
end
/-- a key of a dict -/
def keyOf : D → Option Key
  | .int i => some (.inl i)
  | .str x => some (.inr x)
  | _ => none
def keysOf : List D → Option (List Key)
  | [] => some []
  | d :: ds => do
    let k ← keyOf d
    let ks ← keysOf ds
    pure (k :: ks)
theorem keyOf_v {K : PySem.W.Frag} {F : Hp} {v : V} {d : D} {k : Key} (h : Rep K F v d) (e : keyOf d = some k) : v = kV k := by
  cases h <;> first | (cases e; rfl) | cases e
theorem keysOf_v {K : PySem.W.Frag} {F : Hp} : ∀ {vs : List V} {ds : List D} {ks : List Key}, RepL K F vs ds → keysOf ds = some ks → vs = ks.map kV
  | _, _, _, .nil, e => by cases e; rfl
  | _, _, _, .cons h t, e => by
    obtain ⟨k, e1, e⟩ := bind_some e
    obtain ⟨ks, e2, e⟩ := bind_some e
    cases e
    rw [keyOf_v h e1, keysOf_v t e2]; rfl
/-- what a dict tells of a key -/
def getD : D → D → Option (Option D)
  | .dK es, k => match keyOf k with
    | some k => some (valD es k)
    | none => none
  | .dT es, .tup ks => match keysOf ks with
    | some k => some (valD es k)
    | none => none
  | _, _ => none
theorem dget_of {K : PySem.W.Frag} {F H : Hp} {x y : V} {d k : D} {o : Option D} (l : Le F H) (v : Vw K F H x d) (w : Vw K F H y k) (e : getD d k = some o) :
    ∃ a r, x = .ref a ∧ DGet H a y r ∧ (∀ z, o = some z → ∃ u, r = some u ∧ Rep K F u z) ∧ (o = none → r = none) := by
  unfold getD at e
  split at e
  · rename_i es
    split at e
    · rename_i kk hk
      cases e
      obtain ⟨a, kvs, rfl, h1, h2, h3⟩ := v.dK l
      have ek : y = kV kk := by
        rcases w with w | ⟨p, rfl, _, w⟩
        · exact keyOf_v w hk
        · cases k <;> first | exact w.elim | cases hk
      subst ek
      obtain ⟨q1, q2⟩ := kv_val (k := kk) h2 h3
      exact ⟨a, _, rfl, DGet.k h1, q1, q2⟩
    · cases e
  · rename_i es ks
    split at e
    · rename_i kk hk
      cases e
      obtain ⟨a, kvs, rfl, h1, h2, h3⟩ := v.dT l
      obtain ⟨b, vs, rfl, g1, g2, _⟩ := w.tup l
      have ek := keysOf_v g2 hk
      subst ek
      obtain ⟨q1, q2⟩ := kv_val (k := kk) h2 h3
      exact ⟨a, _, rfl, DGet.t h1 g1, q1, q2⟩
    · cases e
  · cases e
def gDIx (d k : D) : Option Sl := match getD d k with
  | some (some z) => some ⟨.fz, z⟩
  | _ => none
def rDIx : R2 := fun x y H Q => ∃ a v, x = .ref a ∧ DGet H a y (some v) ∧ Q v H
theorem op2_dix {K : PySem.W.Frag} : Op2 K rDIx gDIx := fun F H x y d e s Q l v w q k => by
  unfold gDIx at q
  split at q
  · rename_i z hz
    cases q
    obtain ⟨a, r, rfl, h1, h2, _⟩ := dget_of l v w hz
    obtain ⟨u, rfl, ru⟩ := h2 z rfl
    exact ⟨a, u, rfl, h1, k _ _ _ (New.same l ru)⟩
  · cases q
/-- an expression by either of two rules, by what its operands are -/
theorem ve_or2 {X : Cx} {e : Expr} {g h : D → D → Option Sl} {a b : Opd} (h1 : VE X e (fOp2 g a b)) (h2 : VE X e (fOp2 h a b)) : VE X e (fOp2 (orG g h) a b) := ⟨fun pins s σ H Q I w => by
  obtain ⟨F, ρ, r, ρ', R, e, post⟩ := w
  obtain ⟨⟨pa, ρ1⟩, e1, e⟩ := bind_some e
  obtain ⟨⟨pb, ρ2⟩, e2, e⟩ := bind_some e
  obtain ⟨d, e3, e⟩ := bind_some e
  obtain ⟨d', e4, e⟩ := bind_some e
  obtain ⟨r', e5, e⟩ := bind_some e
  cases e
  unfold orG at e5
  split at e5
  · rename_i s' hs
    cases e5
    exact h1.run pins s σ H Q I ⟨F, ρ, r, ρ', R, by simp [fOp2, e1, e2, e3, e4, hs], post⟩
  · exact h2.run pins s σ H Q I ⟨F, ρ, r, ρ', R, by simp [fOp2, e1, e2, e3, e4, e5], post⟩⟩
def gSubD : D → D → Option Sl := orG gIx gDIx
theorem ve_sub {X : Cx} {a b : Expr} {oa ob : Opd} {pos : Pos} (hu : X.A.units + 1 < cLine) (ha : VO X a oa) (hb : VO X b ob) (hs : PlainIx b) : VE X (.Subscript a b pos) (fOp2 gSubD oa ob) :=
  ve_or2 (ve_ix ix_seq op2_ix ha hb hs) (VE.of (pe_dget hu ha hb hs) fun _ _ _ _ q => tE_op2 op2_dix q)
/-- list(d) -/
def gListD : List D → Option Sl
  | [.dK es] => some ⟨.own, .lst (es.map fun e => match e.1 with | .inl i => .int i | .inr x => .str x)⟩
  | _ => none
theorem RepL.keys {K : PySem.W.Frag} {F : Hp} : ∀ ks : List Key, RepL K F (ks.map kV) (ks.map fun k => match k with | .inl i => .int i | .inr x => .str x)
  | [] => .nil
  | .inl i :: ks => .cons (.int i) (RepL.keys ks)
  | .inr x :: ks => .cons (.str x) (RepL.keys ks)
theorem opN_listD {K : PySem.W.Frag} : OpN K rListD gListD := fun F H vs ds s Q l v q k => by
  unfold gListD at q
  split at q
  · rename_i es
    cases q
    obtain ⟨x, rfl, w⟩ := v.one
    obtain ⟨a, kvs, rfl, h1, h2, h3⟩ := w.dK l
    refine ⟨a, kvs, rfl, h1, fun p hp => k _ _ _ (New.lst l hp ?_)⟩
    have e1 : (kvs.map fun kv => kV kv.1) = (kvs.map Prod.fst).map kV := by rw [List.map_map]; rfl
    have e2 : (es.map fun e => (match e.1 with | .inl i => D.int i | .inr x => .str x : D)) = (es.map Prod.fst).map fun k => match k with | .inl i => .int i | .inr x => .str x := by rw [List.map_map]; rfl
    rw [e1, e2, h2]
    exact RepL.keys _
  · cases q
/-- dict([(k, v), ..]) -/
def pairsOf : List D → Option (List (Key × D))
  | [] => some []
  | .tup [k, v] :: ds => do
    let kk ← keyOf k
    let es ← pairsOf ds
    pure ((kk, v) :: es)
  | _ => none
def mergeD (es more : List (Key × D)) : List (Key × D) := more.foldl (fun acc e => putD acc e.1 e.2) es
def gDictP : List D → Option Sl
  | [.lst ds] => match pairsOf ds with
    | some es => some ⟨.own, .dK (mergeD [] es)⟩
    | none => none
  | _ => none
theorem kv_merge {K : PySem.W.Frag} {F : Hp} : ∀ {more : List (Key × V)} {moreD : List (Key × D)} {kvs : List (Key × V)} {es : List (Key × D)}, more.map Prod.fst = moreD.map Prod.fst → RepL K F (more.map Prod.snd) (moreD.map Prod.snd) → kvs.map Prod.fst = es.map Prod.fst → RepL K F (kvs.map Prod.snd) (es.map Prod.snd) →
    (mergeK kvs more).map Prod.fst = (mergeD es moreD).map Prod.fst ∧ RepL K F ((mergeK kvs more).map Prod.snd) ((mergeD es moreD).map Prod.snd)
  | [], [], kvs, es, _, _, h3, h4 => ⟨h3, h4⟩
  | (k1, v1) :: more, (k2, d2) :: moreD, kvs, es, h1, h2, h3, h4 => by
    simp only [List.map_cons, List.cons.injEq] at h1
    obtain ⟨rfl, h1⟩ := h1
    cases h2 with
    | cons r t =>
      obtain ⟨q1, q2⟩ := kv_put (k := k1) h3 h4 r
      exact kv_merge (more := more) (moreD := moreD) h1 t q1 q2
  | [], _ :: _, _, _, h, _, _, _ => by cases h
  | _ :: _, [], _, _, h, _, _, _ => by cases h
theorem pairs_rep {K : PySem.W.Frag} {F H : Hp} (l : Le F H) : ∀ {vs : List V} {ds : List D} {es : List (Key × D)}, RepL K F vs ds → pairsOf ds = some es →
    ∃ (ps : List Addr) (kvs : List (Key × V)), vs = ps.map V.ref ∧ Paired (fun p (kv : Key × V) => SqT K H p [kV kv.1, kv.2]) ps kvs ∧ kvs.map Prod.fst = es.map Prod.fst ∧ RepL K F (kvs.map Prod.snd) (es.map Prod.snd)
  | _, _, _, .nil, e => by cases e; exact ⟨[], [], rfl, .nil, rfl, .nil⟩
  | _, _, _, .cons h t, e => by
    cases h with
    | @tup a ws es' h1 h2 =>
      cases h2 with
      | nil => cases e
      | cons r1 t1 =>
        cases t1 with
        | nil => cases e
        | cons r2 t2 =>
          cases t2 with
          | cons _ _ => cases e
          | nil =>
            obtain ⟨kk, e1, e⟩ := bind_some e
            obtain ⟨es2, e2, e⟩ := bind_some e
            cases e
            obtain ⟨ps, kvs, rfl, q1, q2, q3⟩ := pairs_rep l t e2
            have ek := keyOf_v r1 e1
            subst ek
            exact ⟨a :: ps, (kk, _) :: kvs, rfl, .cons (SqT.of (l _ _ h1)) q1, by rw [List.map_cons, List.map_cons, q2], .cons r2 q3⟩
    | _ => cases e
def rDictP (K : PySem.W.Frag) : List V → Hp → VK → Prop := fun xs H Q => ∃ (a : Addr) (ps : List Addr) (kvs : List (Key × V)), xs = [.ref a] ∧ SqL K H a (ps.map V.ref) ∧ Paired (fun p kv => SqT K H p [kV kv.1, kv.2]) ps kvs ∧
    ∀ p, H p = none → Q (.ref p) (upd H p (.dK (mergeK [] kvs)))
theorem opN_dictP {K : PySem.W.Frag} : OpN K (rDictP K) gDictP := fun F H vs ds s Q l v q k => by
  unfold gDictP at q
  split at q
  · rename_i xs
    split at q
    · rename_i es he
      cases q
      obtain ⟨x, rfl, w⟩ := v.one
      obtain ⟨a, ws, rfl, h1, h2⟩ := w.lst l
      obtain ⟨ps, kvs, rfl, q1, q2, q3⟩ := pairs_rep l h2 he
      obtain ⟨m1, m2⟩ := kv_merge (kvs := []) (es := []) q2 q3 rfl .nil
      exact ⟨a, ps, kvs, rfl, SqL.of h1, q1, fun p hp => k _ _ _ (New.own l hp ⟨_, upd_same, m1, m2⟩)⟩
    · cases q
  · cases q
end VI

namespace VI
open PySem PySem.Spec PyProof.Rows L2

/-! ### methods of texts -/
def strsOf : List D → Option (List Str)
  | [] => some []
  | .str x :: ds => do
    let xs ← strsOf ds
    pure (x :: xs)
  | _ => none
theorem strsOf_v {K : PySem.W.Frag} {F : Hp} : ∀ {vs : List V} {ds : List D} {xs : List Str}, RepL K F vs ds → strsOf ds = some xs → vs = xs.map V.str
  | _, _, _, .nil, e => by cases e; rfl
  | _, _, _, .cons h t, e => by
    cases h with
    | str x =>
      obtain ⟨xs, e2, e⟩ := bind_some e
      cases e
      rw [strsOf_v t e2]; rfl
    | _ => cases e
def isS : D → Bool
  | .str _ => true
  | _ => false
/-- o.m(e) of a text -/
def fM1 (g : D → D → Option Sl) (a b : Opd) : ME := fun ρ => do
  let (pa, ρ1) ← evalO a ρ
  let d0 ← look pa ρ1
  if isS d0 = true then do
    let (pb, ρ2) ← evalO b ρ1
    let d ← look pa ρ2
    let e ← look pb ρ2
    let r ← g d e
    pure (r, ρ2)
  else none
theorem tE_m1 {K : PySem.W.Frag} {r : V → List V → Hp → VK → Prop} {g : D → D → Option Sl} {a b : Opd} {σ : L2.St} {H : Hp} {Q : VK} (hg : Op2 K (fun x y H Q => r x [y] H Q) g) (h : tE K (fM1 g a b) σ H Q) : tM1 r (tO K a) (tO K b) σ H Q := by
  obtain ⟨F, ρ, s, ρ', R, e, post⟩ := h
  obtain ⟨⟨pa, ρ1⟩, e1, e⟩ := bind_some e
  obtain ⟨d0, e0, e⟩ := bind_some e
  split at e
  · rename_i hs
    obtain ⟨⟨pb, ρ2⟩, e2, e⟩ := bind_some e
    obtain ⟨d, e3, e⟩ := bind_some e
    obtain ⟨d', e4, e⟩ := bind_some e
    obtain ⟨s', e5, e⟩ := bind_some e
    cases e
    refine ⟨F, ρ, pa, ρ1, R, e1, fun x F1 H1 R1 S1 P1 => ⟨?_, F1, ρ1, pb, _, R1, e2, fun y F2 H2 R2 S2 P2 => ?_⟩⟩
    · cases d0 with
      | str z => exact ⟨z, (P1.vw R1 e0).str⟩
      | _ => cases hs
    · refine hg F2 H2 x y d d' s _ R2.le ((P1.mono S2.stp.le).vw R2 e3) (P2.vw R2 e4) e5 fun v F3 H3 N => ?_
      obtain ⟨R3, S3, q⟩ := after_ops R2 (S1.trans S2) N
      exact post v F3 H3 R3 S3 q
  · cases e
def gJoin : D → D → Option Sl
  | .str a, .lst ds => match strsOf ds with
    | some ys => if (ys.map (·.length)).sum + ys.length * a.length ≤ 16777216 then fzS (Txt.join a ys) else none
    | none => none
  | _, _ => none
theorem op2_join {K : PySem.W.Frag} : Op2 K (fun x y H Q => ∃ a p, ∃ ys : List Str, x = .str a ∧ [y] = [.ref p] ∧ (SqL K H p (ys.map V.str) ∨ SqT K H p (ys.map V.str)) ∧
      (ys.map (·.length)).sum + ys.length * a.length ≤ 16777216 ∧ Q (.str (Txt.join a ys)) H) gJoin := fun F H x y d e s Q l v w q k => by
  unfold gJoin at q
  split at q
  · split at q
    · rename_i ys hy
      split at q
      · rename_i hz
        cases q
        obtain ⟨p, ws, rfl, h1, h2⟩ := w.lst l
        rw [strsOf_v h2 hy] at h1
        exact ⟨_, p, ys, v.str, rfl, .inl (SqL.of h1), hz, k _ _ _ (New.same l (.str _))⟩
      · cases q
    · cases q
  · cases q
theorem ve_join {X : Cx} {o e : Expr} {a b : Opd} {apos pos : Pos} (ho : VO X o a) (he : VO X e b) (hs : starEach [e] X.env = [(false, eval e X.env)] := by rfl) (hbase : attributeBase o "join" X.env (eval o X.env) = eval o X.env := by rfl) (hline : (apos.endLine == pos.line) = true := by rfl) :
    VE X (.Call (.Attribute o "join" apos) [e] [] pos) (fM1 gJoin a b) := VE.of (pe_join ho he hs hbase hline) fun _ _ _ _ q => tE_m1 op2_join q

/-! ### extend -/
def gExtend : D → List D → Option (D × D)
  | .lst xs, [.lst ys] => if xs.length + ys.length ≤ sizeLine then some (.lst (xs ++ ys), .non) else none
  | _, _ => none
theorem mu_extend {K : PySem.W.Frag} : MuOk K rExtend gExtend := fun F H p d ds vs d' x Q l fp oa rp e k => by
  unfold gExtend at e
  split at e
  · rename_i xs ys
    split at e
    · rename_i hz
      cases e
      obtain ⟨ws, h1, h2⟩ := oa
      cases rp with
      | cons r t =>
        cases t
        cases r with
        | @lst b zs _ h3 h4 => exact ⟨p, b, ws, zs, rfl, rfl, h1, l _ _ h3, by rw [h2.length, h4.length]; exact hz, k _ _ ⟨_, upd_same, h2.append h4⟩ .non⟩
    · cases e
  · cases e

/-! ### o[i] = e, the object a slot of one's own -/
def fSet (i : Nat) (g : D → D → D → Option D) (fk fv : ME) : MS := fun ρ => do
  let (rv, ρ1) ← fv ρ
  let (rk, ρ2) ← (match ρ1[i]? with
    | some (some _) => fk ρ1
    | _ => none)
  match ρ2[i]? with
  | some (some ⟨m, d⟩) => if m.wr = true then (g d rk.d rv.d).map fun d' => (.nx, ρ2.set i (some ⟨m, d'⟩)) else none
  | _ => none
def SetOk (K : PySem.W.Frag) (t : TSet) (g : D → D → D → Option D) : Prop := ∀ (F H : Hp) (p : Addr) (d k x d' : D) (kv xv : V) (Q : Hp → Prop), Le F H → F p = none → OwnAt K F H p d → Rep K F kv k → Rep K F xv x → g d k x = some d' →
  (∀ o, OwnAt K F (upd H p o) p d' → Q (upd H p o)) → t (.ref p) kv xv H Q
theorem tS_set {K : PySem.W.Frag} {i : Nat} {g : D → D → D → Option D} {t : TSet} {fk fv : ME} {D : Ends} {σ : L2.St} {H : Hp} (hg : SetOk K t g) (h : tS K (fSet i g fk fv) D σ H) : tAsg (tE K fv) (gSub (tVar i) (tE K fk) t) D σ H := by
  obtain ⟨F, ρ, fl, ρ', R, e, post⟩ := h
  obtain ⟨⟨rv, ρ1⟩, e1, e⟩ := bind_some e
  obtain ⟨⟨rk, ρ2⟩, e2, e⟩ := bind_some e
  dsimp only at e e2
  split at e2
  · rename_i s0 h0
    split at e
    · rename_i m d hd
      split at e
      · rename_i hm
        obtain ⟨d', e3, e⟩ := Option.map_eq_some_iff.mp e
        cases e
        refine ⟨F, ρ, rv, ρ1, R, e1, fun xv F1 H1 R1 S1 res => ?_⟩
        obtain ⟨F1', R1', S1', rx⟩ := res.frozen R R1 S1
        obtain ⟨v, hv, _⟩ := R1'.at_ i s0 h0
        refine ⟨v, hv, F1', ρ1, rk, ρ2, R1', e2, fun kv F2 H2 R2 S2 res2 => ?_⟩
        obtain ⟨F2', R2', S2', rk'⟩ := res2.frozen R1' R2 S2
        obtain ⟨w, hw, ok⟩ := R2'.at_ i _ hd
        rw [hv] at hw; cases hw
        have nm : m ≠ .fz := by rcases wr_own hm with rfl | rfl <;> (intro z; cases z)
        obtain ⟨p, rfl, fp, oa⟩ := ok.nfz nm
        refine hg F2' H2 p d rk.d rv.d d' kv xv _ R2'.le fp oa rk' (rx.mono S2'.stp.le) e3 fun o oa' => ?_
        obtain ⟨R3, S3⟩ := R2'.write hd hm hv fp oa'
        exact post F2' σ _ R3 (((S1'.trans S2').trans S3).stp)
      · cases e
    · cases e
  · cases e2
theorem vs_set {X : Cx} {i : Nat} {g : D → D → D → Option D} {t : TSet} {x : Str} {p ps pos : Pos} {k e : Expr} {fk fv : ME} (hg : SetOk X.K t g) (hs : PSet X t) (he : VE X e fv) (ho : PE X (.Name x p) (tVar i)) (hk : VE X k fk)
    (ha : ∀ v, assign (.Subscript (.Name x p) k ps) X.env v = (do
      let ov ← holding [v] (eval (.Name x p) X.env)
      let iv ← holding [v, ov] (eval k X.env)
      standAt ps
      holding [v, ov, iv] (setItem ov iv v)
      release [v, ov, iv] []) := by intro _; rfl)
    (h1 : swapsWithSole [.Subscript (.Name x p) k ps] e pos.line X.env = pure false := by rfl) (h2 : swappedStores [.Subscript (.Name x p) k ps] e X.env = pure none := by rfl)
    (h3 : (assignEach [.Subscript (.Name x p) k ps] X.env).map (·.2) = [assign (.Subscript (.Name x p) k ps) X.env] := by rfl) :
    VS X (.Assign [.Subscript (.Name x p) k ps] e pos) (fSet i g fk fv) := PS.of (ps_asg he (pg_sub ho hk hs ha) h1 h2 h3) fun _ _ _ _ q => tS_set hg q
def gSetL : D → D → D → Option D
  | .lst xs, .int k, x => match ixN xs.length k with
    | some j => some (.lst (xs.set j x))
    | none => none
  | _, _, _ => none
theorem set_l {K : PySem.W.Frag} : SetOk K rSetL gSetL := fun F H p d k x d' kv xv Q l fp oa rk rx e q => by
  unfold gSetL at e
  split at e
  · split at e
    · rename_i j hj
      cases e
      obtain ⟨vs, h1, h2⟩ := oa
      cases rk
      exact ⟨p, vs, _, j, rfl, rfl, h1, by rw [h2.length]; exact hj, q _ ⟨_, upd_same, h2.set rx j⟩⟩
    · cases e
  · cases e
/-- o[i] op= e of a list of one's own -/
def fAug (i : Nat) (g : D → D → Option Sl) (fk fv : ME) : MS := fun ρ => do
  let (rk, ρ1) ← (match ρ[i]? with
    | some (some _) => fk ρ
    | _ => none)
  let old ← (match ρ1[i]? with
    | some (some s) => (gIxL s.d rk.d)
    | _ => none)
  let (rv, ρ2) ← fv ρ1
  let new ← g old.d rv.d
  match ρ2[i]? with
  | some (some ⟨m, d⟩) => if m.wr = true ∧ new.m = .fz then (gSetL d rk.d new.d).map fun d' => (.nx, ρ2.set i (some ⟨m, d'⟩)) else none
  | _ => none
def tGetL : V → V → Hp → VK → Prop := fun o k H Q => ∃ p xs i v, o = .ref p ∧ k = .int i ∧ 0 ≤ i ∧ H p = some (.lst xs) ∧ atI xs i = some v ∧ Q v H
theorem get_l {X : Cx} : PGet X tGetL := by
  intro pins s σ H o k ov iv Q I r1 r2 h
  obtain ⟨p, xs, i, z, rfl, rfl, h0, hH, he, q⟩ := h
  cases r1
  obtain ⟨t, rfl⟩ := r2
  obtain ⟨its, rv, pl, hz⟩ := I.list (SqL.of (K := X.K) hH)
  obtain ⟨j, h1, h2, h3, h4, h5⟩ := atI_get he
  obtain ⟨w, ew, rw'⟩ := rv.get h2
  have hn := line63
  have hj : i.toNat = j := by
    rw [seqIndex_of h0 h5] at h1
    exact Option.some.inj h1
  exact wpAny_getItem_list pl.isList h0 (by omega) (by rw [hj]; simpa using ew) ⟨z, H, I, rw', q⟩
def isNat : D → Bool
  | .int i => decide (0 ≤ i)
  | _ => false
/-- .. with a written place -/
def fAugC (i : Nat) (k : Int) (g : D → D → Option Sl) (fv : ME) : MS := fAug i g (fC (.int k)) fv
theorem tS_aug {K : PySem.W.Frag} {i : Nat} {k : Int} {g : D → D → Option Sl} {tip : TIp} {fv : ME} {D : Ends} {σ : L2.St} {H : Hp} (hk : 0 ≤ k) (hg : Op2 K tip g) (h : tS K (fAugC i k g fv) D σ H) : tAugS (tVar i) (tC (.int k)) (tE K fv) tGetL tip rSetL D σ H := by
  obtain ⟨F, ρ, fl, ρ', R, e, post⟩ := h
  obtain ⟨⟨rk, ρ1⟩, e1, f1⟩ := bind_some e
  clear e
  obtain ⟨old, e2, f2⟩ := bind_some f1
  clear f1
  obtain ⟨⟨rv, ρ2⟩, e3, f3⟩ := bind_some f2
  clear f2
  obtain ⟨new, e4, e⟩ := bind_some f3
  clear f3
  try dsimp only at e
  try dsimp only at e1
  try dsimp only at e2
  split at e1
  · rename_i s0 h0
    cases e1
    split at e2
    · rename_i s1 h1
      rw [h0] at h1; cases h1
      split at e
      · rename_i m d hd
        split at e
        · rename_i hm
          obtain ⟨d', e5, e⟩ := Option.map_eq_some_iff.mp e
          cases e
          obtain ⟨v, hv, ok⟩ := R.at_ i s0 h0
          refine ⟨v, hv, ?_⟩
          unfold gIxL at e2
          split at e2
          · rename_i xs j hx hj
            cases hj
            split at e2
            · rename_i z hz
              cases e2
              have vw := ok.vw
              rw [hx] at vw
              obtain ⟨a, vs, rfl, q1, q2⟩ := vw.lst R.le
              obtain ⟨u, hu, ru⟩ := q2.atI hz
              refine ⟨a, vs, k, u, rfl, rfl, hk, q1, hu, F, ρ, rv, ρ2, R, e3, fun w F1 H1 R1 S1 res => ?_⟩
              obtain ⟨F2, R2, S2, rw'⟩ := res.frozen R R1 S1
              refine hg F2 H1 u w z rv.d new _ R2.le (.inl (ru.mono S2.stp.le)) (.inl rw') e4 fun y F3 H3 N => ?_
              obtain ⟨R3, S3, q⟩ := after_ops R2 S2 N
              have ry : Rep K F3 y new.d := by
                rcases q.own_or with ⟨_, q⟩ | ⟨q, _⟩
                · exact q
                · rw [hm.2] at q; cases q
              obtain ⟨w', hw, ok'⟩ := R3.at_ i _ hd
              rw [hv] at hw; cases hw
              have nm : m ≠ .fz := by rcases wr_own hm.1 with rfl | rfl <;> (intro z; cases z)
              obtain ⟨p, ep, fp, oa⟩ := ok'.nfz nm
              cases ep
              refine set_l F3 H3 a d (.int k) new.d d' (.int k) y _ R3.le fp oa (.int k) ry e5 fun o oa' => ?_
              obtain ⟨R4, S4⟩ := R3.write hd hm.1 hv fp oa'
              exact post F3 σ _ R4 (S3.trans S4).stp
            · cases e2
          · cases e2
        · cases e
      · cases e
    · cases e2
  · cases e1
theorem op2_ipAdd {K : PySem.W.Frag} : Op2 K (ipI fun i j => i + j) (gI2 fun i j => .int (i + j)) := fun F H x y d e s Q l v w h k => by
  obtain ⟨i, j, rfl, rfl, rfl⟩ := gI2_inv h
  exact ⟨i, j, v.int, w.int, k _ _ _ (New.same l (.int _))⟩
theorem vs_aug {X : Cx} {i : Nat} {k : Int} {x : Str} {p tpos pos cpos : Pos} {kk : Nat} {e : Expr} {fv : ME} (hk : 0 ≤ k) (ho : PE X (.Name x p) (tVar i)) (he : VE X e fv)
    (ha : ∀ ov iv new, augStore (.Constant (.int k) kk cpos) ov iv new = (do holding [new, ov, iv] (setItem ov iv new); release [new, ov, iv] []; pure .next) := by intros; rfl) :
    VS X (.AugAssign (.Subscript (.Name x p) (.Constant (.int k) kk cpos) tpos) .Add e pos) (fAugC i k (gI2 fun i j => .int (i + j)) fv) :=
  PS.of (ps_augS ho pe_int get_l he ip_add set_list ha) fun _ _ _ _ q => tS_aug hk op2_ipAdd q

/-! ### a, b = x, y of plain local names -/
def fPar (i j : Nat) (f g : ME) : MS := fun ρ => do
  let (r, ρ1) ← f ρ
  let (s, ρ2) ← g ρ1
  if free ρ2 i = true ∧ free ρ2 j = true then pure (.nx, (ρ2.set i (some r)).set j (some s)) else none
/-- two values, the first one's own kept over the second -/
def tZ2 (K : PySem.W.Frag) (f g : ME) : TA := fun σ H Q => ∃ F ρ r ρ1 s ρ2, Rel K F ρ σ H ∧ f ρ = some (r, ρ1) ∧ g ρ1 = some (s, ρ2) ∧ ∀ v w F1 H1 F2 H2, Rel K F1 ρ1 σ H1 → StpE F ρ σ H F1 ρ1 H1 → Res K F1 H H1 v r → Rel K F2 ρ2 σ H2 → StpE F1 ρ1 σ H1 F2 ρ2 H2 → Res K F2 H1 H2 w s → Q [v, w] H2
theorem va_two {X : Cx} {a b : Expr} {f g : ME} (ha : VE X a f) (hb : VE X b g) (h1 : starEach [a, b] X.env = (false, eval a X.env) :: starEach [b] X.env := by rfl) (h2 : starEach [b] X.env = (false, eval b X.env) :: starEach [] X.env := by rfl) : PA X [a, b] (tZ2 X.K f g) :=
  PA.of (pa_cons ha (pa_cons hb pa_nil h2) h1) fun σ H Q ⟨F, ρ, r, ρ1, s, ρ2, R, e1, e2, post⟩ =>
    ⟨F, ρ, r, ρ1, R, e1, fun v F1 H1 R1 S1 res1 => ⟨F1, ρ1, s, ρ2, R1, e2, fun w F2 H2 R2 S2 res2 => post v w F1 H1 F2 H2 R1 S1 res1 R2 S2 res2⟩⟩
/-- the first value, over the second's evaluation -/
theorem Res.over {K : PySem.W.Frag} {F F1 F2 H H1 H2 : Hp} {ρ ρ1 ρ2 : Rho} {σ : L2.St} {v : V} {r : Sl} (R : Rel K F ρ σ H) (S1 : StpE F ρ σ H F1 ρ1 H1) (S2 : StpE F1 ρ1 σ H1 F2 ρ2 H2) (h : Res K F1 H H1 v r) : Res K F2 H H2 v r := by
  rcases h.own_or with ⟨m, q⟩ | ⟨m, p, rfl, hp, fp, q⟩
  · unfold Res; rw [m]; exact q.mono S2.stp.le
  · unfold Res; rw [m]
    obtain ⟨o, ho⟩ := q.has
    have np : NotP ρ1 σ p := fresh_ne R S1 hp
    obtain ⟨_, h2, f2⟩ := S2.stp.prot np ho fp
    exact ⟨p, rfl, hp, f2, q.mono S2.stp.le (h2.trans ho.symm)⟩
theorem tS_par {K : PySem.W.Frag} {i j : Nat} {f g : ME} {D : Ends} {σ : L2.St} {H : Hp} (hij : i ≠ j) (h : tS K (fPar i j f g) D σ H) : tPar i j (tZ2 K f g) D σ H := by
  obtain ⟨F, ρ, fl, ρ', R, e, post⟩ := h
  obtain ⟨⟨r, ρ1⟩, e1, e⟩ := bind_some e
  obtain ⟨⟨s, ρ2⟩, e2, e⟩ := bind_some e
  dsimp only at e
  split at e
  · rename_i hf
    cases e
    refine ⟨F, ρ, r, ρ1, s, ρ2, R, e1, e2, fun v w F1 H1 F2 H2 R1 S1 res1 R2 S2 res2 => ⟨v, w, rfl, ?_⟩⟩
    have S12 := S1.trans S2
    have resv := res1.over R S1 S2
    obtain ⟨R3, S3⟩ := Stp.put R R2 S12 resv hf.1
    -- the second, stored behind the first
    have nfix : ¬ s.m.fixed := by rcases res2.own_or with ⟨m, _⟩ | ⟨m, _⟩ <;> (rw [m]; exact id)
    have hj2 : j < ρ2.length := free_lt hf.2
    have hjs : j < σ.length := by rw [← R2.len]; exact hj2
    have frj : ∀ (m : Md) (d : VI.D), m.fixed → (ρ2.set i (some r))[j]? ≠ some (some ⟨m, d⟩) := fun m d hm z => by
      rw [List.getElem?_set_ne hij] at z
      exact free_not hf.2 hm z
    refine post F2 _ H2 (R3.put (by rw [List.length_set]; exact hj2) ?_ ?_) ⟨S3.le, S3.keep, S3.there, S3.newF, fun a h => ?_, fun k m d hm z => ?_, fun k m d hm z => ?_⟩
    · rcases res2.own_or with ⟨m, q⟩ | ⟨m, p, rfl, hp, fp, q⟩
      · exact .mk_fz m q
      · exact .mk_n (by rw [m]; intro z; cases z) fp q
    · intro nm p ep k t hk hm z
      rcases res2.own_or with ⟨m, q⟩ | ⟨m, p', rfl, hp, fp, q⟩
      · exact nm m
      · cases ep
        rcases getElem?_set' hk with ⟨rfl, zz⟩ | ⟨nk, hk⟩
        · cases zz
          have his : k < σ.length := by rw [← R2.len]; exact free_lt hf.1
          rw [List.getElem?_set_self his] at z
          cases z
          rcases res1.own_or with ⟨m1, _⟩ | ⟨m1, p1, e3, hp1, fp1, q1⟩
          · exact hm m1
          · cases e3
            obtain ⟨o, ho⟩ := q1.has
            rw [hp] at ho; cases ho
        · rw [List.getElem?_set_ne (Ne.symm nk)] at z
          exact fresh_ne R1 S2 hp k t hk hm z
    · obtain ⟨k, t, h1, h2, h3⟩ := h
      rcases getElem?_set' h1 with ⟨rfl, zz⟩ | ⟨nk, h1⟩
      · cases zz
        rw [List.getElem?_set_self (by rw [List.length_set]; exact hjs)] at h3
        rcases res2.own_or with ⟨m, q⟩ | ⟨m, p', rfl, hp, fp, q⟩
        · rw [m] at h2; cases h2
        · cases h3; exact .inr (none_back S1.stp hp)
      · rw [List.getElem?_set_ne (Ne.symm nk)] at h3
        exact S3.ownO a ⟨k, t, h1, h2, h3⟩
    · obtain ⟨⟨d', e'⟩, es⟩ := S3.fwd k m d hm z
      have nk : k ≠ j := fun zz => by subst zz; exact frj m d' hm e'
      rw [List.getElem?_set_ne (Ne.symm nk), List.getElem?_set_ne (Ne.symm nk)]
      exact ⟨⟨d', e'⟩, es⟩
    · rcases getElem?_set' z with ⟨_, zz⟩ | ⟨_, zz⟩
      · cases zz; exact absurd hm nfix
      · exact S3.bwd k m d hm zz
  · cases e
theorem vs_par {X : Cx} {i j : Nat} {x y : Str} {a b : Expr} {f g : ME} {px py pt pos : Pos} {kt k2 pt2} (hc : X.calm = true) (hN : X.N.Nodup) (hi : X.N[i]? = some x) (hj : X.N[j]? = some y) (hij : i ≠ j)
    (hx : X.env.scope.names.lookup x = some .local) (hy : X.env.scope.names.lookup y = some .local) (ha : VE X a f) (hb : VE X b g)
    (hw : swappedStores [.Tuple [.Name x px, .Name y py] kt pt] (.Tuple [a, b] k2 pt2) X.env = pure (some [x, y]))
    (h1 : starEach [a, b] X.env = (false, eval a X.env) :: starEach [b] X.env := by rfl) (h2 : starEach [b] X.env = (false, eval b X.env) :: starEach [] X.env := by rfl)
    (hs : swapsWithSole [.Tuple [.Name x px, .Name y py] kt pt] (.Tuple [a, b] k2 pt2) pos.line X.env = pure false := by rfl) :
    VS X (.Assign [.Tuple [.Name x px, .Name y py] kt pt] (.Tuple [a, b] k2 pt2) pos) (fPar i j f g) := PS.of (ps_par hc hN hi hj hij hx hy (va_two ha hb h1 h2) hw hs) fun _ _ _ _ q => tS_par hij q

/-! ### walking a list, a tuple or a text -/
def itemsS : D → Option (List D)
  | .str x => some (signsD x)
  | _ => none
theorem signsD_len (x : Str) : (signsD x).length = x.cps.size := by unfold signsD; simp
theorem itn_str {K : PySem.W.Frag} {F H : Hp} {ρ : Rho} {σ : L2.St} {x : Str} : Itn K F ρ σ H (Its x) (signsD x) :=
  ⟨fun _ => True, _, by rw [signsD_len]; exact walk_str, fun _ _ _ _ _ _ => trivial, fun i F' ρ' σ' H' v H'' hi S l y => by
    obtain ⟨rfl, c, hc, rfl⟩ := y
    refine ⟨F', .str ⟨#[c]⟩, ?_, New.same l (.str _)⟩
    unfold signsD
    rw [List.getElem?_map]
    have e : x.cps.toList[i]? = some c := by simpa using hc
    rw [e]; rfl⟩
theorem walks_str {K : PySem.W.Frag} : Walks K itemsS (fun te => iStr te) := fun o σ H R ⟨F, ρ, pk, ρ1, d, ds, R0, e1, e2, e3, post⟩ => by
  cases d with
  | str x =>
    cases e3
    exact ⟨F, ρ, pk, ρ1, R0, e1, fun v F1 H1 R1 S1 P1 => ⟨x, (P1.vw R1 e2).str, post F1 H1 _ R1 S1 itn_str⟩⟩
  | _ => cases e3
def orI (f g : D → Option (List D)) : D → Option (List D) := fun d => match f d with
  | some x => some x
  | none => g d
theorem Walks.or {K : PySem.W.Frag} {f g : D → Option (List D)} {w w' : TE → TI} (a : Walks K f w) (b : Walks K g w') : Walks K (orI f g) (fun te σ H R => w te σ H R ∨ w' te σ H R) := fun o σ H R ⟨F, ρ, pk, ρ1, d, ds, R0, e1, e2, e3, post⟩ => by
  unfold orI at e3
  split at e3
  · rename_i x hx
    cases e3
    exact .inl (a o σ H R ⟨F, ρ, pk, ρ1, d, ds, R0, e1, e2, hx, post⟩)
  · exact .inr (b o σ H R ⟨F, ρ, pk, ρ1, d, ds, R0, e1, e2, e3, post⟩)
theorem PI.or {X : Cx} {tg iter : Expr} {w w' : TI} (a : PI X tg iter w) (b : PI X tg iter w') : PI X tg iter (fun σ H R => w σ H R ∨ w' σ H R) := ⟨fun pins s σ H R I h => h.elim (a.run pins s σ H R I) (b.run pins s σ H R I)⟩
def items : D → Option (List D) := orI itemsL (orI itemsT itemsS)
def iAny (K : PySem.W.Frag) (te : TE) : TI := fun σ H R => iList K te σ H R ∨ iTup K te σ H R ∨ iStr te σ H R
theorem walks_any {K : PySem.W.Frag} : Walks K items (iAny K) := walks_list.or (walks_tup.or walks_str)
theorem pi_any {X : Cx} {tg iter : Expr} {o : Opd} (h : VO X iter o) : PI X tg iter (iAny X.K (tO X.K o)) := PI.or (pi_list h) (PI.or (pi_tup h) (pi_str h))
end VI

/-! The rules as the printed derivations name them. -/
namespace VI
open PySem PySem.Spec PyProof.Rows L2

def gAdd : D → D → Option Sl := orG (gI2 fun i j => .int (i + j)) (orG gAddS gAddL)
def gMinus : D → D → Option Sl := gI2 fun i j => .int (i - j)
def gMul : D → D → Option Sl := orG (gI2c CMul fun i j => i * j) gMulL
def gMod : D → D → Option Sl := gI2c (fun _ j => j ≠ 0) fun i j => i.fmod j
def gFdiv : D → D → Option Sl := gI2c CDivN fun i j => i.fdiv j
def gPow : D → D → Option Sl := gI2c CPow fun i j => i ^ j.toNat
def gLt : D → D → Option Sl := gI2 fun i j => .bl (decide (i < j))
def gLe : D → D → Option Sl := gI2 fun i j => .bl (decide (i ≤ j))
def gGt : D → D → Option Sl := gI2 fun i j => .bl (decide (j < i))
def gGe : D → D → Option Sl := gI2 fun i j => .bl (decide (j ≤ i))
def gLenA : List D → Option Sl := orN gLen gLenS
def gListA : List D → Option Sl := orN gList (orN gListS gListD)
section
variable {X : Cx} {a b : Expr} {oa ob : Opd} {pos : Pos}
theorem v_add (ha : VO X a oa) (hb : VO X b ob) : VE X (.BinOp a .Add b pos) (fOp2 gAdd oa ob) := ve_op (op_add.or (op_add_str.or op_cat)) (op2_int.or (op2_addS.or op2_addL)) ha hb
theorem v_sub (ha : VO X a oa) (hb : VO X b ob) : VE X (.BinOp a .Sub b pos) (fOp2 gMinus oa ob) := ve_op op_sub op2_int ha hb
theorem v_mul (ha : VO X a oa) (hb : VO X b ob) : VE X (.BinOp a .Mult b pos) (fOp2 gMul oa ob) := ve_op (op_mul.or op_rep) (op2_intc.or op2_mulL) ha hb
theorem v_mod (ha : VO X a oa) (hb : VO X b ob) : VE X (.BinOp a .Mod b pos) (fOp2 gMod oa ob) := ve_op op_modN op2_intc ha hb
theorem v_fdiv (ha : VO X a oa) (hb : VO X b ob) : VE X (.BinOp a .FloorDiv b pos) (fOp2 gFdiv oa ob) := ve_op op_fdivN op2_intc ha hb
theorem v_pow (ha : VO X a oa) (hb : VO X b ob) : VE X (.BinOp a .Pow b pos) (fOp2 gPow oa ob) := ve_op op_pow op2_intc ha hb
theorem v_lt (ha : VO X a oa) (hb : VO X b ob) : VE X (.Compare a [.Lt] [b] pos) (fOp2 gLt oa ob) := ve_cmp op_lt op2_cmp ha hb (nomark _)
theorem v_le (ha : VO X a oa) (hb : VO X b ob) : VE X (.Compare a [.LtE] [b] pos) (fOp2 gLe oa ob) := ve_cmp op_le op2_cmp ha hb (nomark _)
theorem v_gt (ha : VO X a oa) (hb : VO X b ob) : VE X (.Compare a [.Gt] [b] pos) (fOp2 gGt oa ob) := ve_cmp op_gt op2_cmp ha hb (nomark _)
theorem v_ge (ha : VO X a oa) (hb : VO X b ob) : VE X (.Compare a [.GtE] [b] pos) (fOp2 gGe oa ob) := ve_cmp op_ge op2_cmp ha hb (nomark _)
theorem t_lt (ha : VO X a oa) (hb : VO X b ob) : VT X (.Compare a [.Lt] [b] pos) (fT (fOp2 gLt oa ob)) := vt_cmp op_lt op2_cmp ha hb (nomark _)
theorem t_le (ha : VO X a oa) (hb : VO X b ob) : VT X (.Compare a [.LtE] [b] pos) (fT (fOp2 gLe oa ob)) := vt_cmp op_le op2_cmp ha hb (nomark _)
theorem t_gt (ha : VO X a oa) (hb : VO X b ob) : VT X (.Compare a [.Gt] [b] pos) (fT (fOp2 gGt oa ob)) := vt_cmp op_gt op2_cmp ha hb (nomark _)
theorem t_ge (ha : VO X a oa) (hb : VO X b ob) : VT X (.Compare a [.GtE] [b] pos) (fT (fOp2 gGe oa ob)) := vt_cmp op_ge op2_cmp ha hb (nomark _)
variable {k : Nat}
theorem v_eq (hr : Room k X.A) (ha : VO X a oa) (hb : VO X b ob) : VE X (.Compare a [.Eq] [b] pos) (fOp2 gEq oa ob) := ve_cmp (op_eq.or (op_eqD hr.units)) op2_eq ha hb (nomark _)
theorem v_ne (hr : Room k X.A) (ha : VO X a oa) (hb : VO X b ob) : VE X (.Compare a [.NotEq] [b] pos) (fOp2 gNe oa ob) := ve_cmp (op_ne.or (op_neD hr.units)) op2_ne ha hb (nomark _)
theorem t_eq (hr : Room k X.A) (ha : VO X a oa) (hb : VO X b ob) : VT X (.Compare a [.Eq] [b] pos) (fT (fOp2 gEq oa ob)) := vt_cmp (op_eq.or (op_eqD hr.units)) op2_eq ha hb (nomark _)
theorem t_ne (hr : Room k X.A) (ha : VO X a oa) (hb : VO X b ob) : VT X (.Compare a [.NotEq] [b] pos) (fT (fOp2 gNe oa ob)) := vt_cmp (op_ne.or (op_neD hr.units)) op2_ne ha hb (nomark _)
theorem u65 (hr : Room k X.A) : X.A.units + 65 < cLine := by have := hr.un; omega
theorem v_in (hr : Room k X.A) (ha : VO X a oa) (hb : VO X b ob) (hm : behindInMarks .In b = false := by rfl) : VE X (.Compare a [.In] [b] pos) (fOp2 gIn oa ob) := ve_cmp (op_inD (u65 hr)) op2_in ha hb hm
theorem v_notin (hr : Room k X.A) (ha : VO X a oa) (hb : VO X b ob) (hm : behindInMarks .NotIn b = false := by rfl) : VE X (.Compare a [.NotIn] [b] pos) (fOp2 gNotIn oa ob) := ve_cmp (op_notInD (u65 hr)) op2_notIn ha hb hm
theorem t_in (hr : Room k X.A) (ha : VO X a oa) (hb : VO X b ob) (hm : behindInMarks .In b = false := by rfl) : VT X (.Compare a [.In] [b] pos) (fT (fOp2 gIn oa ob)) := vt_cmp (op_inD (u65 hr)) op2_in ha hb hm
theorem t_notin (hr : Room k X.A) (ha : VO X a oa) (hb : VO X b ob) (hm : behindInMarks .NotIn b = false := by rfl) : VT X (.Compare a [.NotIn] [b] pos) (fT (fOp2 gNotIn oa ob)) := vt_cmp (op_notInD (u65 hr)) op2_notIn ha hb hm
variable {e : Expr} {o : Opd} {p : Pos}
theorem v_len (hm : X.mg "len" = none) (ha : VO X e o) (hg : Gl X "len" := by rfl) (hs : starEach [e] X.env = (false, eval e X.env) :: starEach [] X.env := by rfl) : VE X (.Call (.Name "len" p) [e] [] pos) (fOpN gLenA [o]) := ve_callB (call_len_seq.or call_len_str) (opN_len.or opN_lenS) hg hm PySem.boot_len (va_cons ha va_nil hs) (he := hs)
theorem v_abs (hm : X.mg "abs" = none) (ha : VO X e o) (hg : Gl X "abs" := by rfl) (hs : starEach [e] X.env = (false, eval e X.env) :: starEach [] X.env := by rfl) : VE X (.Call (.Name "abs" p) [e] [] pos) (fOpN gAbs [o]) := ve_callB call_abs opN_abs hg hm (by decide +kernel) (va_cons ha va_nil hs) (he := hs)
theorem v_int (hm : X.mg "int" = none) (ha : VO X e o) (hg : Gl X "int" := by rfl) (hs : starEach [e] X.env = (false, eval e X.env) :: starEach [] X.env := by rfl) : VE X (.Call (.Name "int" p) [e] [] pos) (fOpN gInt [o]) := ve_callTy call_int1 opN_int hg hm (by decide +kernel) (va_cons ha va_nil hs) (he := hs)
theorem v_list (hc : X.calm = true) (hm : X.mg "list" = none) (ha : VO X e o) (hg : Gl X "list" := by rfl) (hs : starEach [e] X.env = (false, eval e X.env) :: starEach [] X.env := by rfl) : VE X (.Call (.Name "list" p) [e] [] pos) (fOpN gListA [o]) := ve_callTy (call_list_of.or ((call_list_text hc).or (call_list_dK hc))) (opN_list.or (opN_listS.or opN_listD)) hg hm (by decide +kernel) (va_cons ha va_nil hs) (he := hs)
theorem v_dict (hc : X.calm = true) (hm : X.mg "dict" = none) (ha : VO X e o) (hg : Gl X "dict" := by rfl) (hs : starEach [e] X.env = (false, eval e X.env) :: starEach [] X.env := by rfl) : VE X (.Call (.Name "dict" p) [e] [] pos) (fOpN gDictP [o]) := ve_callTy (call_dictP hc) opN_dictP hg hm (by decide +kernel) (va_cons ha va_nil hs) (he := hs)
theorem v_repr (hr : Room k X.A) (hgu : X.A.guards = some []) (hm : X.mg "repr" = none) (ha : VO X e o) (hg : Gl X "repr" := by rfl) (hs : starEach [e] X.env = (false, eval e X.env) :: starEach [] X.env := by rfl) : VE X (.Call (.Name "repr" p) [e] [] pos) (fOpN gRepr [o]) := ve_callB (call_reprD hr hgu) opN_repr hg hm (by decide +kernel) (va_cons ha va_nil hs) (he := hs)
theorem v_sorted (hr : Room k X.A) (hm : X.mg "sorted" = none) (ha : VO X e o) (hg : Gl X "sorted" := by rfl) (hs : starEach [e] X.env = (false, eval e X.env) :: starEach [] X.env := by rfl) : VE X (.Call (.Name "sorted" p) [e] [] pos) (fOpN gSorted [o]) := ve_callB (call_sortedD hr) opN_sorted hg hm (by decide +kernel) (va_cons ha va_nil hs) (he := hs)
theorem v_cut {lo hi : Option Expr} {l h : MP} {p2 : Pos} (he : VO X e o) (hl : VP X lo l) (hh : VP X hi h) : VE X (.Subscript e (.Slice lo hi none p2) pos) (fSl gSlL o l h) := ve_slice sl_list op3_slL he hl hh
theorem v_ix (hr : Room k X.A) (ha : VO X a oa) (hb : VO X b ob) (hs : PlainIx b := by intro _ _; rfl) : VE X (.Subscript a b pos) (fOp2 gSubD oa ob) := ve_sub (hu_of hr) ha hb hs
variable {i : Nat} {x : Str} {apos : Pos} {f : ME}
theorem v_append (ho : PE X (.Name x p) (tVar i)) (ha : VE X e f) (hs : starEach [e] X.env = (false, eval e X.env) :: starEach [] X.env := by rfl) (hb : attributeBase (.Name x p) "append" X.env (eval (.Name x p) X.env) = eval (.Name x p) X.env := by rfl) (hl : (apos.endLine == pos.line) = true := by rfl)
    (hfew : ((backTo pos (starEach [e] X.env)).all (fun x => !x.1) && (backToKw pos (keywordEach [] X.env)).all (fun x => x.1.isSome) && decide ([e].length + ([] : List Keyword).length + (if ([] : List Keyword).isEmpty then 0 else 1) < 30)) = true := by rfl) :
    VE X (.Call (.Attribute (.Name x p) "append" apos) [e] [] pos) (fMut i isL gAppend [f]) := ve_mut (fun _ _ _ _ ok l h => ok.tyL l h) mu_append PySem.F.plainAttrs_list PySem.F.slot_list_append PySem.F.type_list_append mt_append ho (vz_cons ha vz_nil hs) hb hfew hl hs
theorem v_extend (ho : PE X (.Name x p) (tVar i)) (ha : VE X e f) (hs : starEach [e] X.env = (false, eval e X.env) :: starEach [] X.env := by rfl) (hb : attributeBase (.Name x p) "extend" X.env (eval (.Name x p) X.env) = eval (.Name x p) X.env := by rfl) (hl : (apos.endLine == pos.line) = true := by rfl)
    (hfew : ((backTo pos (starEach [e] X.env)).all (fun x => !x.1) && (backToKw pos (keywordEach [] X.env)).all (fun x => x.1.isSome) && decide ([e].length + ([] : List Keyword).length + (if ([] : List Keyword).isEmpty then 0 else 1) < 30)) = true := by rfl) :
    VE X (.Call (.Attribute (.Name x p) "extend" apos) [e] [] pos) (fMut i isL gExtend [f]) := ve_mut (fun _ _ _ _ ok l h => ok.tyL l h) mu_extend PySem.F.plainAttrs_list PySem.F.slot_list_extend PySem.F.type_list_extend mt_extend ho (vz_cons ha vz_nil hs) hb hfew hl hs
theorem v_popAt (ho : PE X (.Name x p) (tVar i)) (ha : VE X e f) (hs : starEach [e] X.env = (false, eval e X.env) :: starEach [] X.env := by rfl) (hb : attributeBase (.Name x p) "pop" X.env (eval (.Name x p) X.env) = eval (.Name x p) X.env := by rfl) (hl : (apos.endLine == pos.line) = true := by rfl)
    (hfew : ((backTo pos (starEach [e] X.env)).all (fun x => !x.1) && (backToKw pos (keywordEach [] X.env)).all (fun x => x.1.isSome) && decide ([e].length + ([] : List Keyword).length + (if ([] : List Keyword).isEmpty then 0 else 1) < 30)) = true := by rfl) :
    VE X (.Call (.Attribute (.Name x p) "pop" apos) [e] [] pos) (fMut i isL gPopAt [f]) := ve_mut (fun _ _ _ _ ok l h => ok.tyL l h) mu_popAt PySem.F.plainAttrs_list PySem.F.slot_list_pop PySem.F.type_list_pop mt_popAt ho (vz_cons ha vz_nil hs) hb hfew hl hs
end
/-! ### a, b[k] = x, y -/
def fMix (i b : Nat) (k : Int) (f g : ME) : MS := fun ρ => do
  let (ds, ρ1) ← evalZ [f, g] ρ
  match ds with
  | [d1, d2] => (bindN i d1 ρ1).bind fun ρ2 => match ρ2[b]? with
    | some (some ⟨m, d⟩) => if m.wr = true then (gSetL d (.int k) d2).map fun d' => (.nx, ρ2.set b (some ⟨m, d'⟩)) else none
    | _ => none
  | _ => none
theorem vs_mix {X : Cx} {i b : Nat} {k : Int} {x y : Str} {a c : Expr} {f g : ME} {px py pk ps pt pos : Pos} {kt k2 kk : Nat} {pt2 : Pos} (hc : X.calm = true) (hN : X.N.Nodup) (hi : X.N[i]? = some x) (hx : Loc X.env.scope x) (hy : PE X (.Name y py) (tVar b)) (ha : VE X a f) (hb : VE X c g)
    (h1 : starEach [a, c] X.env = (false, eval a X.env) :: starEach [c] X.env := by rfl) (h2 : starEach [c] X.env = (false, eval c X.env) :: starEach [] X.env := by rfl)
    (hf : X.fn x = true ∨ X.env.scope.names.lookup x = some .local := by first | exact .inl rfl | exact .inr rfl | assumption)
    (hs : ∀ v, assign (.Subscript (.Name y py) (.Constant (.int k) kk pk) ps) X.env v = (do
      let ov ← holding [v] (eval (.Name y py) X.env)
      let iv ← holding [v, ov] (eval (.Constant (.int k) kk pk) X.env)
      standAt ps
      holding [v, ov, iv] (setItem ov iv v)
      release [v, ov, iv] []) := by intro _; rfl)
    (h3 : (assignEach [.Name x px, .Subscript (.Name y py) (.Constant (.int k) kk pk) ps] X.env).map (·.2) = assign (.Name x px) X.env :: (assignEach [.Subscript (.Name y py) (.Constant (.int k) kk pk) ps] X.env).map (·.2) := by rfl)
    (h4 : (assignEach [.Subscript (.Name y py) (.Constant (.int k) kk pk) ps] X.env).map (·.2) = assign (.Subscript (.Name y py) (.Constant (.int k) kk pk) ps) X.env :: (assignEach [] X.env).map (·.2) := by rfl)
    (h5 : (assignEach [.Name x px, .Subscript (.Name y py) (.Constant (.int k) kk pk) ps] X.env).length = 2 := by rfl) (h6 : (assignEach [.Name x px, .Subscript (.Name y py) (.Constant (.int k) kk pk) ps] X.env).findIdx? (·.1) = none := by rfl)
    (h7 : swapsWithSole [.Tuple [.Name x px, .Subscript (.Name y py) (.Constant (.int k) kk pk) ps] kt pt] (.Tuple [a, c] k2 pt2) pos.line X.env = pure false := by rfl)
    (h8 : swappedStores [.Tuple [.Name x px, .Subscript (.Name y py) (.Constant (.int k) kk pk) ps] kt pt] (.Tuple [a, c] k2 pt2) X.env = pure none := by rfl)
    (h9 : (assignEach [.Tuple [.Name x px, .Subscript (.Name y py) (.Constant (.int k) kk pk) ps] kt pt] X.env).map (·.2) = [assign (.Tuple [.Name x px, .Subscript (.Name y py) (.Constant (.int k) kk pk) ps] kt pt) X.env] := by rfl) :
    VS X (.Assign [.Tuple [.Name x px, .Subscript (.Name y py) (.Constant (.int k) kk pk) ps] kt pt] (.Tuple [a, c] k2 pt2) pos) (fMix i b k f g) :=
  PS.of (ps_asg (ve_tup (vz_cons ha (vz_cons hb vz_nil h2) h1)) (pg_tup hc (pgs_cons (pg_name hN hi hx hf) (pgs_cons (pg_sub hy pe_int set_list hs) pgs_nil h4) h3) h5 h6) h7 h8 h9) fun D σ H _ ⟨F, ρ, fl, ρ', R, e, post⟩ => by
    obtain ⟨⟨ds, ρ1⟩, e1, e⟩ := bind_some e
    dsimp only at e
    split at e
    · rename_i d1 d2
      obtain ⟨ρ2, e2, e⟩ := Option.bind_eq_some_iff.mp e
      split at e
      · rename_i m d hd
        split at e
        · rename_i hm
          obtain ⟨d', e3, e⟩ := Option.map_eq_some_iff.mp e
          cases e
          have e4 : fDisp gTup [f, g] ρ = some (⟨.fz, .tup [d1, d2]⟩, ρ1) := by
            unfold fDisp
            rw [e1]
            simp [gTup, show (2 : Nat) ≤ sizeLine by decide]
          refine ⟨F, ρ, _, ρ1, R, e4, fun v F1 H1 R1 S1 res => ?_⟩
          have rp : Rep X.K F1 v (.tup [d1, d2]) := res
          cases rp with
          | @tup q vs _ t1 t2 =>
            cases t2 with
            | @cons v1 _ _ _ r1 t2 =>
              cases t2 with
              | @cons v2 _ _ _ r2 t2 =>
                cases t2
                obtain ⟨R2, S2⟩ := bindN_ok R1 r1 e2
                obtain ⟨w, hw, ok⟩ := R2.at_ b _ hd
                have nm : m ≠ .fz := by rcases wr_own hm with rfl | rfl <;> (intro z; cases z)
                obtain ⟨p, rfl, fp, oa⟩ := ok.nfz nm
                refine ⟨q, [v1, v2], rfl, SqT.of (R1.le _ _ t1), rfl, v1, [v2], rfl, v2, [], rfl, .ref p, hw, ?_⟩
                refine set_l F1 H1 p d (.int k) d2 d' (.int k) v2 _ R2.le fp oa (.int k) r2 e3 fun o oa' => ⟨rfl, ?_⟩
                obtain ⟨R3, S3⟩ := R2.write hd hm hw fp oa'
                exact post F1 _ _ R3 ((S1.stp.trans S2).trans S3.stp)
        · cases e
      · cases e
    · cases e
/-- a def of the text that may be called -/
def Callee (P : Program) (w : World) (K : PySem.W.Frag) (mg : Str → Option Value) (base : Heap) (k : Nat) (x : Str) (ps : List Str) (m : FnM) : Prop :=
  ∃ f fd, FnG P w K mg base k f fd ps (spG K ps.length m) ∧ mg x = some (.ref f) ∧ PySem.W.keepIn K (.ref f) = true ∧ L2.Binds K fd ps []
theorem v_call {X : Cx} {j k : Nat} {ps : List Str} {m : FnM} {x : Str} {p pos : Pos} {e : Expr} {es : List Expr} {os : List Opd} (C : Callee X.prog X.w X.K X.mg X.base j x ps m) (hr : Room k X.A) (hgu : X.A.guards = some []) (hjk : j ≤ k) (ha : VA X (e :: es) os) (hnp : os.length = ps.length := by rfl)
    (hg : Gl X x := by rfl) (hdb : (x == ("__debug__" : Str)) = false := by decide) (he : starEach (e :: es) X.env = (false, eval e X.env) :: starEach es X.env := by rfl) (hpl : (backTo pos (starEach es X.env)).any (·.1) = false := by rfl) :
    VE X (.Call (.Name x p) (e :: es) [] pos) (fCall m os) := by
  obtain ⟨f, fd, F, hm, hk, hb⟩ := C
  exact ve_call F (hr.mono hjk) hgu hg hm hk hb ha hnp hdb he hpl
theorem callee_mk {P : Program} {w : World} {K : PySem.W.Frag} {mg : Str → Option Value} {base : Heap} {x qual : Str} {st : Stmt} {f : Addr} {fd : FuncData} {N ps : List Str} {k n : Nat} {g : MS} (Fn : Fun K x qual st f fd) (hm : mg x = some (.ref f)) (S : FnScope N ps (defScope st)) (hn : N.length = ps.length + n)
    (hb : L2.Binds K fd ps []) (hbody : ∀ (cdv : Value) (A : Around) (outer : List Env) (s : Shared) (H : Hp), Room k (A.deeper (envOfC qual (defScope st) s.heap.objs.size f cdv)) → A.guards = some [] → VB (cxOf CX0 P w K mg base N qual (defScope st) f cdv A outer s H E0).nox (defBody st) g) :
    Callee P w K mg base (k + 1) x ps (fnM n g) := ⟨f, fd, fn_ok Fn S hn hbody, hm, Fn.kp, hb⟩
/-- the law's own function object -/
theorem callee_law {P : Program} {w : World} {K : PySem.W.Frag} {mg : Str → Option Value} {base : Heap} {x qual : Str} {st : Stmt} {f : Addr} {fd : FuncData} {ps : List Str} {k : Nat} {m : FnM} (Fn : Fun K x qual st f fd) (hm : mg x = some (.ref f)) (C : Callee P w K mg base k x ps m) : ∃ fd', FnG P w K mg base k f fd' ps (spG K ps.length m) := by
  obtain ⟨f', fd', F, h, _⟩ := C
  rw [hm] at h
  cases h
  exact ⟨fd', F⟩
end VI

/-! What a meaning comes to: plain predicates over slots. -/
namespace VI
open PySem PySem.Spec PyProof.Rows L2

def wg {α : Type} (o : Option α) (Q : α → Prop) : Prop := match o with
  | some a => Q a
  | none => False
@[simp] theorem wg_some {α : Type} {a : α} {Q : α → Prop} : wg (some a) Q ↔ Q a := Iff.rfl
@[simp] theorem wg_none {α : Type} {Q : α → Prop} : wg (none : Option α) Q ↔ False := Iff.rfl
@[simp] theorem wg_pure {α : Type} {a : α} {Q : α → Prop} : wg (pure a : Option α) Q ↔ Q a := Iff.rfl
theorem wg_out {α : Type} {o : Option α} {Q : α → Prop} (h : wg o Q) : ∃ a, o = some a ∧ Q a := by
  cases o with
  | none => exact h.elim
  | some a => exact ⟨a, rfl, h⟩
theorem wg_in {α : Type} {o : Option α} {Q : α → Prop} {a : α} (e : o = some a) (h : Q a) : wg o Q := by subst e; exact h
@[simp] theorem wg_bind {α β : Type} {o : Option α} {f : α → Option β} {Q : β → Prop} : wg (o >>= f) Q ↔ wg o fun a => wg (f a) Q := by
  cases o with
  | none => exact Iff.rfl
  | some a => exact Iff.rfl
@[simp] theorem wg_bind' {α β : Type} {o : Option α} {f : α → Option β} {Q : β → Prop} : wg (o.bind f) Q ↔ wg o fun a => wg (f a) Q := by
  cases o with
  | none => exact Iff.rfl
  | some a => exact Iff.rfl
@[simp] theorem wg_map {α β : Type} {o : Option α} {f : α → β} {Q : β → Prop} : wg (o.map f) Q ↔ wg o fun a => Q (f a) := by
  cases o with
  | none => exact Iff.rfl
  | some a => exact Iff.rfl
theorem wg_mono {α : Type} {o : Option α} {P Q : α → Prop} (h : wg o P) (k : ∀ a, P a → Q a) : wg o Q := by
  cases o with
  | none => exact h.elim
  | some a => exact k a h
theorem wg_ite {α : Type} {c : Prop} [Decidable c] {a b : Option α} {Q : α → Prop} : wg (if c then a else b) Q ↔ if c then wg a Q else wg b Q := by
  split <;> exact Iff.rfl
@[simp] theorem wg_gate {α : Type} {c : Prop} [Decidable c] {a : Option α} {Q : α → Prop} : wg (if c then a else none) Q ↔ c ∧ wg a Q := by
  by_cases h : c
  · rw [if_pos h]; exact ⟨fun x => ⟨h, x⟩, fun x => x.2⟩
  · rw [if_neg h]; exact ⟨fun x => x.elim, fun x => (h x.1).elim⟩
theorem wg_congr {α : Type} {o : Option α} {P Q : α → Prop} (h : ∀ a, P a ↔ Q a) : wg o P ↔ wg o Q := by
  cases o with
  | none => exact Iff.rfl
  | some a => exact h a

def wE (f : ME) (ρ : Rho) (Q : Sl → Rho → Prop) : Prop := wg (f ρ) fun x => Q x.1 x.2
def wT (f : MT) (ρ : Rho) (Q : Bool → Rho → Prop) : Prop := wg (f ρ) fun x => Q x.1 x.2
def wO (o : Opd) (ρ : Rho) (Q : Pk → Rho → Prop) : Prop := wg (evalO o ρ) fun x => Q x.1 x.2
def wOs (o : List Opd) (ρ : Rho) (Q : List Pk → Rho → Prop) : Prop := wg (evalOs o ρ) fun x => Q x.1 x.2
def wZ (o : List ME) (ρ : Rho) (Q : List D → Rho → Prop) : Prop := wg (evalZ o ρ) fun x => Q x.1 x.2
def wP (p : MP) (ρ : Rho) (Q : Option Int → Rho → Prop) : Prop := wg (evalP p ρ) fun x => Q x.1 x.2
def wS (g : MS) (ρ : Rho) (Q : Fl → Rho → Prop) : Prop := wg (g ρ) fun x => Q x.1 x.2
def wM (m : FnM) (as : List Sl) (Q : Sl → List Sl → Prop) : Prop := wg (m as) fun x => Q x.1 x.2
/-- what a slot shows -/
def at_ (ρ : Rho) (i : Nat) (Q : Sl → Prop) : Prop := match ρ[i]? with
  | some (some s) => Q s
  | _ => False
/-- by a slot's mode -/
def nq (s : Sl) (p q : Prop) : Prop := match s.m with
  | .fz => p
  | .own => q
  | _ => False
theorem nq_iff {s : Sl} {p q : Prop} : nq s p q ↔ (s.m = .fz ∧ p) ∨ (s.m = .own ∧ q) := by
  unfold nq; cases s.m <;> simp
@[simp] theorem nq_f {d : D} {p q : Prop} : nq ⟨.fz, d⟩ p q ↔ p := Iff.rfl
@[simp] theorem nq_o {d : D} {p q : Prop} : nq ⟨.own, d⟩ p q ↔ q := Iff.rfl
@[simp] theorem nq_p {d : D} {p q : Prop} : nq ⟨.par, d⟩ p q ↔ False := Iff.rfl
@[simp] theorem nq_l {d : D} {p q : Prop} : nq ⟨.lent, d⟩ p q ↔ False := Iff.rfl
/-- a truth -/
def bq (r : Sl) (K : Bool → Prop) : Prop := match r with
  | ⟨.fz, .bl b⟩ => K b
  | _ => False
theorem bq_iff {r : Sl} {K : Bool → Prop} : bq r K ↔ ∃ b, r = ⟨.fz, .bl b⟩ ∧ K b := by
  obtain ⟨m, d⟩ := r
  cases m <;> cases d <;> simp [bq]
@[simp] theorem bq_b {b : Bool} {K : Bool → Prop} : bq ⟨.fz, .bl b⟩ K ↔ K b := Iff.rfl
/-- an int -/
def iq (r : Sl) (K : Int → Prop) : Prop := match r with
  | ⟨.fz, .int b⟩ => K b
  | _ => False
theorem iq_iff {r : Sl} {K : Int → Prop} : iq r K ↔ ∃ b, r = ⟨.fz, .int b⟩ ∧ K b := by
  obtain ⟨m, d⟩ := r
  cases m <;> cases d <;> simp [iq]
@[simp] theorem iq_i {b : Int} {K : Int → Prop} : iq ⟨.fz, .int b⟩ K ↔ K b := Iff.rfl
section
variable {ρ : Rho} {Q : Sl → Rho → Prop} {QT : Bool → Rho → Prop} {QO : Pk → Rho → Prop} {QL : List Pk → Rho → Prop} {QZ : List D → Rho → Prop} {QP : Option Int → Rho → Prop} {QS : Fl → Rho → Prop}
theorem wE_mono {f : ME} {Q' : Sl → Rho → Prop} (h : wE f ρ Q) (k : ∀ r ρ, Q r ρ → Q' r ρ) : wE f ρ Q' := wg_mono h fun _ => k _ _
theorem wS_mono {f : MS} {Q' : Fl → Rho → Prop} (h : wS f ρ QS) (k : ∀ r ρ, QS r ρ → Q' r ρ) : wS f ρ Q' := wg_mono h fun _ => k _ _
theorem wM_mono {m : FnM} {as : List Sl} {Q Q' : Sl → List Sl → Prop} (h : wM m as Q) (k : ∀ r o, Q r o → Q' r o) : wM m as Q' := wg_mono h fun _ => k _ _
theorem w_C {d : D} : wE (fC d) ρ Q ↔ Q ⟨.fz, d⟩ ρ := by exact Iff.rfl
theorem w_name {i : Nat} : wE (fName i) ρ Q ↔ at_ ρ i fun s => nq s (Q s ρ) (Q ⟨.fz, s.d⟩ (ρ.set i (some ⟨.fz, s.d⟩))) := by
  simp only [nq_iff]
  unfold wE fName at_
  cases e : ρ[i]? with
  | none => simp
  | some x =>
    cases x with
    | none => simp
    | some s => obtain ⟨m, d⟩ := s; cases m <;> simp
theorem w_sl {i : Nat} : wO (.sl i) ρ QO ↔ at_ ρ i fun _ => QO (.sl i) ρ := by
  unfold wO at_
  simp only [evalO]
  cases e : ρ[i]? with
  | none => simp
  | some x => cases x <;> simp
theorem w_ex {f : ME} : wO (.ex f) ρ QO ↔ wE f ρ fun r ρ' => QO (.vl r.d) ρ' := by
  unfold wO wE
  simp only [evalO]
  cases e : f ρ with
  | none => exact Iff.rfl
  | some x => exact Iff.rfl
theorem w_op2 {g : D → D → Option Sl} {a b : Opd} : wE (fOp2 g a b) ρ Q ↔ wO a ρ fun pa ρ1 => wO b ρ1 fun pb ρ2 => wg (look pa ρ2) fun d => wg (look pb ρ2) fun e => wg (g d e) fun s => Q s ρ2 := by
  unfold wE fOp2 wO; simp only [wg_bind, wg_bind']; exact Iff.rfl
theorem w_op1 {g : D → Option Sl} {a : Opd} : wE (fOp1 g a) ρ Q ↔ wO a ρ fun pa ρ1 => wg (look pa ρ1) fun d => wg (g d) fun s => Q s ρ1 := by
  unfold wE fOp1 wO; simp only [wg_bind, wg_bind']; exact Iff.rfl
theorem w_opN {g : List D → Option Sl} {os : List Opd} : wE (fOpN g os) ρ Q ↔ wOs os ρ fun pks ρ1 => wg (looks ρ1 pks) fun ds => wg (g ds) fun s => Q s ρ1 := by
  unfold wE fOpN wOs; simp only [wg_bind, wg_bind']; exact Iff.rfl
theorem w_nil : wOs [] ρ QL ↔ QL [] ρ := by exact Iff.rfl
theorem w_cons {o : Opd} {os : List Opd} : wOs (o :: os) ρ QL ↔ wO o ρ fun pk ρ1 => wOs os ρ1 fun pks ρ2 => QL (pk :: pks) ρ2 := by
  unfold wOs; simp only [evalOs]; unfold wO; simp only [wg_bind]; exact Iff.rfl
theorem w_disp {g : List D → Option Sl} {fs : List ME} : wE (fDisp g fs) ρ Q ↔ wZ fs ρ fun ds ρ1 => wg (g ds) fun s => Q s ρ1 := by
  unfold wE fDisp wZ; simp only [wg_bind, wg_bind']; exact Iff.rfl
theorem w_znil : wZ [] ρ QZ ↔ QZ [] ρ := by exact Iff.rfl
theorem w_zcons {f : ME} {fs : List ME} : wZ (f :: fs) ρ QZ ↔ wE f ρ fun r ρ1 => wZ fs ρ1 fun ds ρ2 => QZ (r.d :: ds) ρ2 := by
  unfold wZ; simp only [evalZ]; unfold wE; simp only [wg_bind]; exact Iff.rfl
theorem w_pnone : wP none ρ QP ↔ QP none ρ := by exact Iff.rfl
theorem w_psome {f : ME} : wP (some f) ρ QP ↔ wE f ρ fun r ρ1 => iq r fun i => QP (some i) ρ1 := by
  simp only [iq_iff]
  unfold wP wE
  simp only [evalP]
  cases e : f ρ with
  | none => exact Iff.rfl
  | some x =>
    obtain ⟨⟨m, d⟩, ρ1⟩ := x
    cases m <;> cases d <;> simp
theorem w_cut {g : D → Option Int → Option Int → Option Sl} {a : Opd} {lo hi : MP} : wE (fSl g a lo hi) ρ Q ↔ wO a ρ fun pk ρ1 => wP lo ρ1 fun l ρ2 => wP hi ρ2 fun h ρ3 => wg (look pk ρ3) fun d => wg (g d l h) fun s => Q s ρ3 := by
  unfold wE fSl wO wP; simp only [wg_bind, wg_bind']; exact Iff.rfl
theorem w_m1 {g : D → D → Option Sl} {a b : Opd} : wE (fM1 g a b) ρ Q ↔ wO a ρ fun pa ρ1 => wg (look pa ρ1) fun d0 => isS d0 = true ∧ wO b ρ1 fun pb ρ2 => wg (look pa ρ2) fun d => wg (look pb ρ2) fun e => wg (g d e) fun s => Q s ρ2 := by
  unfold wE fM1 wO
  simp only [wg_bind]
  refine wg_congr fun x => ?_
  refine wg_congr fun d => ?_
  refine Iff.trans wg_gate (and_congr Iff.rfl ?_)
  simp only [wg_bind]
  exact Iff.rfl
theorem w_call {m : FnM} {os : List Opd} : wE (fCall m os) ρ Q ↔ wOs os ρ fun pks ρ1 => wg (argsOf ρ1 pks) fun as => nodupS ρ1 pks = true ∧ wM m as fun r o => Q r (wb pks o ρ1) := by
  unfold wE fCall wOs wM
  simp only [wg_bind]
  refine wg_congr fun x => ?_
  refine wg_congr fun d => ?_
  refine Iff.trans wg_gate (and_congr Iff.rfl ?_)
  simp only [wg_bind]
  exact Iff.rfl
theorem w_mut {i : Nat} {ty : D → Bool} {g : D → List D → Option (D × D)} {fs : List ME} : wE (fMut i ty g fs) ρ Q ↔ at_ ρ i fun s => ty s.d = true ∧ wZ fs ρ fun ds ρ1 => at_ ρ1 i fun s1 => s1.m.wr = true ∧ wg (g s1.d ds) fun y => Q ⟨.fz, y.2⟩ (ρ1.set i (some ⟨s1.m, y.1⟩)) := by
  unfold wE fMut at_ wZ
  cases e : ρ[i]? with
  | none => simp
  | some x =>
    cases x with
    | none => simp
    | some s =>
      simp only
      by_cases h : ty s.d = true
      · simp only [h, if_true, true_and]
        cases e2 : evalZ fs ρ with
        | none => simp
        | some z =>
          simp only [Option.bind_some, wg_some]
          cases e3 : z.2[i]? with
          | none => simp
          | some y =>
            cases y with
            | none => simp
            | some t =>
              simp only
              by_cases h2 : t.m.wr = true
              · simp [h2, wg_map]
              · simp [h2]
      · simp [h]
theorem w_andV {f g : ME} : wE (fAndV f g) ρ Q ↔ wE f ρ fun r ρ1 => bq r fun b => if b = true then wE g ρ1 Q else Q ⟨.fz, .bl false⟩ ρ1 := by
  simp only [bq_iff]
  unfold fAndV
  show wg (match f ρ with | some (⟨.fz, .bl true⟩, ρ1) => g ρ1 | some (⟨.fz, .bl false⟩, ρ1) => some (⟨.fz, .bl false⟩, ρ1) | _ => none) _ ↔ wg (f ρ) _
  cases e : f ρ with
  | none => simp
  | some x =>
    obtain ⟨⟨m, d⟩, ρ1⟩ := x
    cases m <;> cases d <;> simp [wE]
    rename_i b; cases b <;> simp
theorem w_orV {f g : ME} : wE (fOrV f g) ρ Q ↔ wE f ρ fun r ρ1 => bq r fun b => if b = true then Q ⟨.fz, .bl true⟩ ρ1 else wE g ρ1 Q := by
  simp only [bq_iff]
  unfold fOrV
  show wg (match f ρ with | some (⟨.fz, .bl true⟩, ρ1) => some (⟨.fz, .bl true⟩, ρ1) | some (⟨.fz, .bl false⟩, ρ1) => g ρ1 | _ => none) _ ↔ wg (f ρ) _
  cases e : f ρ with
  | none => simp
  | some x =>
    obtain ⟨⟨m, d⟩, ρ1⟩ := x
    cases m <;> cases d <;> simp [wE]
    rename_i b; cases b <;> simp
theorem w_notV {f : ME} : wE (fNotV f) ρ Q ↔ wE f ρ fun r ρ1 => bq r fun b => Q ⟨.fz, .bl (!b)⟩ ρ1 := by
  simp only [bq_iff]
  unfold wE fNotV
  cases e : f ρ with
  | none => exact Iff.rfl
  | some x =>
    obtain ⟨⟨m, d⟩, ρ1⟩ := x
    cases m <;> cases d <;> simp
    rename_i b; cases b <;> simp
theorem w_if {t : MT} {f g : ME} : wE (fIf t f g) ρ Q ↔ wT t ρ fun b ρ1 => if b = true then wE f ρ1 Q else wE g ρ1 Q := by
  unfold wE fIf wT
  cases e : t ρ with
  | none => simp
  | some x => obtain ⟨b, ρ1⟩ := x; cases b <;> simp
/-! tests -/
theorem w_T {f : ME} : wT (fT f) ρ QT ↔ wE f ρ fun r ρ1 => bq r fun b => QT b ρ1 := by
  simp only [bq_iff]
  unfold wT wE fT
  cases e : f ρ with
  | none => exact Iff.rfl
  | some x =>
    obtain ⟨⟨m, d⟩, ρ1⟩ := x
    cases m <;> cases d <;> simp
    rename_i b; cases b <;> simp
theorem w_and {f g : MT} : wT (fAnd f g) ρ QT ↔ wT f ρ fun b ρ1 => if b = true then wT g ρ1 QT else QT false ρ1 := by
  unfold wT fAnd
  cases e : f ρ with
  | none => simp
  | some x => obtain ⟨b, ρ1⟩ := x; cases b <;> simp
theorem w_or {f g : MT} : wT (fOr f g) ρ QT ↔ wT f ρ fun b ρ1 => if b = true then QT true ρ1 else wT g ρ1 QT := by
  unfold wT fOr
  cases e : f ρ with
  | none => simp
  | some x => obtain ⟨b, ρ1⟩ := x; cases b <;> simp
theorem w_not {f : MT} : wT (fNot f) ρ QT ↔ wT f ρ fun b ρ1 => QT (!b) ρ1 := by
  unfold wT fNot
  cases e : f ρ with
  | none => simp
  | some x => simp
theorem w_yes : wT fYes ρ QT ↔ QT true ρ := by exact Iff.rfl
/-! statements -/
theorem w_next : wS fNext ρ QS ↔ QS .nx ρ := by exact Iff.rfl
theorem w_seq {g h : MS} : wS (fSeq g h) ρ QS ↔ wS g ρ fun fl ρ1 => match fl with | .nx => wS h ρ1 QS | .bk => QS .bk ρ1 | .ct => QS .ct ρ1 | .rt r => QS (.rt r) ρ1 := by
  unfold wS fSeq
  cases e : g ρ with
  | none => simp
  | some x => obtain ⟨fl, ρ1⟩ := x; cases fl <;> simp
theorem w_expr {f : ME} : wS (fExpr f) ρ QS ↔ wE f ρ fun _ ρ1 => QS .nx ρ1 := by
  unfold wS fExpr wE
  cases e : f ρ with
  | none => simp
  | some x => simp
theorem w_ret {f : ME} : wS (fRet f) ρ QS ↔ wE f ρ fun r ρ1 => QS (.rt r) ρ1 := by
  unfold wS fRet wE
  cases e : f ρ with
  | none => simp
  | some x => simp
theorem w_ret0 : wS fRet0 ρ QS ↔ QS (.rt ⟨.fz, .non⟩) ρ := by exact Iff.rfl
theorem w_retN {i : Nat} : wS (fRetN i) ρ QS ↔ at_ ρ i fun s => nq s (QS (.rt s) ρ) (QS (.rt s) (ρ.set i none)) := by
  simp only [nq_iff]
  unfold wS fRetN at_
  cases e : ρ[i]? with
  | none => simp
  | some x =>
    cases x with
    | none => simp
    | some s => obtain ⟨m, d⟩ := s; cases m <;> simp
theorem w_ifS {t : MT} {g h : MS} : wS (fIfS t g h) ρ QS ↔ wT t ρ fun b ρ1 => if b = true then wS g ρ1 QS else wS h ρ1 QS := by
  unfold wS fIfS wT
  cases e : t ρ with
  | none => simp
  | some x => obtain ⟨b, ρ1⟩ := x; cases b <;> simp
theorem w_asg {i : Nat} {f : ME} : wS (fAsg i f) ρ QS ↔ wE f ρ fun r ρ1 => free ρ1 i = true ∧ QS .nx (ρ1.set i (some r)) := by
  unfold wS fAsg wE
  cases e : f ρ with
  | none => simp
  | some x =>
    simp only [wg_some]
    by_cases h : free x.2 i = true
    · simp [h]
    · simp [h]
theorem w_bind {b : MG} {f : ME} : wS (fBind b f) ρ QS ↔ wE f ρ fun r ρ1 => wg (b r.d ρ1) fun ρ2 => QS .nx ρ2 := by
  unfold wS fBind wE
  cases e : f ρ with
  | none => simp
  | some x =>
    simp only [wg_some]
    cases e2 : b x.1.d x.2 with
    | none => simp
    | some y => simp
theorem w_set {i : Nat} {g : D → D → D → Option D} {fk fv : ME} : wS (fSet i g fk fv) ρ QS ↔ wE fv ρ fun rv ρ1 => at_ ρ1 i fun _ => wE fk ρ1 fun rk ρ2 => at_ ρ2 i fun s => s.m.wr = true ∧ wg (g s.d rk.d rv.d) fun d' => QS .nx (ρ2.set i (some ⟨s.m, d'⟩)) := by
  unfold wS fSet wE at_
  simp only [wg_bind]
  cases e : fv ρ with
  | none => simp
  | some x =>
    simp only [wg_some]
    cases e1 : x.2[i]? with
    | none => simp
    | some z =>
      cases z with
      | none => simp
      | some s0 =>
        simp only
        cases e2 : fk x.2 with
        | none => simp
        | some y =>
          simp only [wg_some]
          cases e3 : y.2[i]? with
          | none => simp
          | some z =>
            cases z with
            | none => simp
            | some t =>
              simp only
              by_cases h2 : t.m.wr = true
              · simp [h2, wg_map]
              · simp [h2]
theorem w_par {i j : Nat} {f g : ME} : wS (fPar i j f g) ρ QS ↔ wE f ρ fun r ρ1 => wE g ρ1 fun s ρ2 => free ρ2 i = true ∧ free ρ2 j = true ∧ QS .nx ((ρ2.set i (some r)).set j (some s)) := by
  unfold wS fPar wE
  simp only [wg_bind]
  cases e : f ρ with
  | none => simp
  | some x =>
    simp only [wg_some]
    cases e2 : g x.2 with
    | none => simp
    | some y =>
      simp only [wg_some]
      by_cases h : free y.2 i = true ∧ free y.2 j = true
      · rw [if_pos h]; simp [h.1, h.2]
      · rw [if_neg h]
        simp only [wg_none, false_iff]
        exact fun z => h ⟨z.1, z.2.1⟩
theorem w_for {it : D → Option (List D)} {src : Opd} {b : MG} {body : MS} : wS (fFor it src b body) ρ QS ↔ wO src ρ fun pk ρ1 => wg (look pk ρ1) fun d => wg (it d) fun ds => wS (loopM b body ds) (lend pk ρ1) fun fl ρ2 => QS fl (back pk ρ1 ρ2) := by
  unfold wS fFor wO; simp only [wg_bind, wg_bind']; exact Iff.rfl
theorem w_forN {g : List D → Option (List D)} {os : List Opd} {b : MG} {body : MS} : wS (fForN g os b body) ρ QS ↔ wOs os ρ fun pks ρ1 => wg (looks ρ1 pks) fun es => wg (g es) fun ds => wS (loopM b body ds) ρ1 QS := by
  unfold wS fForN wOs; simp only [wg_bind, wg_bind', wg_pure]
theorem w_comp {it : D → Option (List D)} {src : Opd} {is : List Nat} {b : MG} {t : MT} {f : ME} : wE (fComp it src is b t f) ρ Q ↔ wO src ρ fun pk ρ1 => wg (look pk ρ1) fun d => wg (it d) fun ds => is.all (free (lend pk ρ1)) = true ∧
    wg (compM is b t f ds [] (wipeR (lend pk ρ1) is)) fun x => x.1.length ≤ sizeLine ∧ Q ⟨.own, .lst x.1⟩ (back pk ρ1 x.2) := by
  unfold wE fComp wO
  simp only [wg_bind, wg_bind']
  refine wg_congr fun x => ?_
  refine wg_congr fun d => wg_congr fun ds => ?_
  refine Iff.trans wg_gate (and_congr Iff.rfl ?_)
  simp only [wg_bind, wg_bind']
  refine wg_congr fun y => ?_
  refine Iff.trans wg_gate (and_congr Iff.rfl ?_)
  exact Iff.rfl
theorem w_compN {g : List D → Option (List D)} {os : List Opd} {is : List Nat} {b : MG} {t : MT} {f : ME} : wE (fCompN g os is b t f) ρ Q ↔ wOs os ρ fun pks ρ1 => wg (looks ρ1 pks) fun es => wg (g es) fun ds => is.all (free ρ1) = true ∧
    wg (compM is b t f ds [] (wipeR ρ1 is)) fun x => x.1.length ≤ sizeLine ∧ Q ⟨.own, .lst x.1⟩ x.2 := by
  unfold wE fCompN wOs
  simp only [wg_bind, wg_bind']
  refine wg_congr fun x => ?_
  refine wg_congr fun d => wg_congr fun ds => ?_
  refine Iff.trans wg_gate (and_congr Iff.rfl ?_)
  simp only [wg_bind, wg_bind']
  refine wg_congr fun y => ?_
  refine Iff.trans wg_gate (and_congr Iff.rfl ?_)
  exact Iff.rfl
end
/-! ### loops by what holds between two turns -/
theorem w_loop {b : MG} {body : MS} {QS : Fl → Rho → Prop} (I : Nat → Rho → Prop) : ∀ {ds : List D} {k : Nat} {ρ : Rho}, I k ρ →
    (∀ (j : Nat) (d : D) ρ, ds[j]? = some d → I (k + j) ρ → wg (b d ρ) fun ρ1 => wS body ρ1 fun fl ρ2 => match fl with | .nx => I (k + j + 1) ρ2 | .ct => I (k + j + 1) ρ2 | .bk => QS .nx ρ2 | .rt r => QS (.rt r) ρ2) →
    (∀ ρ, I (k + ds.length) ρ → QS .nx ρ) → wS (loopM b body ds) ρ QS
  | [], k, ρ, h, _, hd => by exact hd ρ h
  | d :: ds, k, ρ, h, hs, hd => by
    obtain ⟨ρ1, e1, q⟩ := wg_out (hs 0 d ρ rfl h)
    obtain ⟨⟨fl, ρ2⟩, e2, q⟩ := wg_out q
    have again : ∀ ρ2, I (k + 1) ρ2 → wS (loopM b body ds) ρ2 QS := fun ρ2 h2 => w_loop I (k := k + 1) h2 (fun j d' ρ' hj hi => by
      have := hs (j + 1) d' ρ' (by simpa using hj) (by rw [show k + (j + 1) = k + 1 + j by omega]; exact hi)
      rw [show k + (j + 1) + 1 = k + 1 + j + 1 by omega] at this
      exact this) (fun ρ' hi => hd ρ' (by rw [List.length_cons, show k + (ds.length + 1) = k + 1 + ds.length by omega]; exact hi))
    unfold wS
    simp only [loopM, e1, e2]
    cases fl with
    | nx => exact again ρ2 q
    | ct => exact again ρ2 q
    | bk => simpa using q
    | rt r => simpa using q
theorem w_compI {is : List Nat} {b : MG} {t : MT} {f : ME} {Q : List D × Rho → Prop} (I : Nat → List D → Rho → Prop) : ∀ {ds acc : List D} {k : Nat} {ρ : Rho}, I k acc ρ →
    (∀ (j : Nat) (d : D) acc ρ, ds[j]? = some d → I (k + j) acc ρ → wg (b d ρ) fun ρ1 => wT t ρ1 fun c ρ2 => if c = true then wE f ρ2 fun r ρ3 => I (k + j + 1) (acc ++ [r.d]) (wipeR ρ3 is) else I (k + j + 1) acc (wipeR ρ2 is)) →
    (∀ acc ρ, I (k + ds.length) acc ρ → Q (acc, ρ)) → wg (compM is b t f ds acc ρ) Q
  | [], acc, k, ρ, h, _, hd => by exact hd acc ρ h
  | d :: ds, acc, k, ρ, h, hs, hd => by
    obtain ⟨ρ1, e1, q⟩ := wg_out (hs 0 d acc ρ rfl h)
    obtain ⟨⟨c, ρ2⟩, e2, q⟩ := wg_out q
    have again : ∀ acc ρ2, I (k + 1) acc ρ2 → wg (compM is b t f ds acc ρ2) Q := fun acc ρ2 h2 => w_compI I (k := k + 1) h2 (fun j d' acc' ρ' hj hi => by
      have := hs (j + 1) d' acc' ρ' (by simpa using hj) (by rw [show k + (j + 1) = k + 1 + j by omega]; exact hi)
      rw [show k + (j + 1) + 1 = k + 1 + j + 1 by omega] at this
      exact this) (fun acc' ρ' hi => hd acc' ρ' (by rw [List.length_cons, show k + (ds.length + 1) = k + 1 + ds.length by omega]; exact hi))
    simp only [compM, wg_bind, e1, e2, wg_some]
    cases c with
    | true =>
      obtain ⟨⟨r, ρ3⟩, e3, q⟩ := wg_out q
      simp only [if_true, wg_bind, e3, wg_some]
      exact again _ _ q
    | false => exact again _ _ q
theorem w_while {t : MT} {body : MS} {QS : Fl → Rho → Prop} (I : Nat → Rho → Prop) : ∀ {n m : Nat} {ρ : Rho}, m < n → I m ρ →
    (∀ m ρ, I m ρ → wT t ρ fun c ρ1 => if c = true then wS body ρ1 fun fl ρ2 => match fl with | .nx => ∃ m', m' < m ∧ I m' ρ2 | .ct => ∃ m', m' < m ∧ I m' ρ2 | .bk => QS .nx ρ2 | .rt r => QS (.rt r) ρ2 else QS .nx ρ1) → wS (whileM t body n) ρ QS
  | 0, m, ρ, h, _, _ => absurd h (Nat.not_lt_zero _)
  | n + 1, m, ρ, h, hi, hs => by
    obtain ⟨⟨c, ρ1⟩, e1, q⟩ := wg_out (hs m ρ hi)
    unfold wS
    simp only [whileM, e1]
    cases c with
    | false => simpa using q
    | true =>
      obtain ⟨⟨fl, ρ2⟩, e2, q⟩ := wg_out q
      simp only [e2]
      cases fl with
      | nx => obtain ⟨m', hm, hi'⟩ := q; exact w_while I (by omega) hi' hs
      | ct => obtain ⟨m', hm, hi'⟩ := q; exact w_while I (by omega) hi' hs
      | bk => simpa using q
      | rt r => simpa using q
/-- a def -/
theorem w_fn {n : Nat} {g : MS} {as : List Sl} {Q : Sl → List Sl → Prop} : wM (fnM n g) as Q ↔ wS g (as.map some ++ List.replicate n none) fun fl ρ => match fl with | .rt r => Q r (outs ρ 0 as) | .nx => Q ⟨.fz, .non⟩ (outs ρ 0 as) | _ => False := by
  unfold wM fnM wS
  cases e : g (as.map some ++ List.replicate n none) with
  | none => simp
  | some x => obtain ⟨fl, ρ⟩ := x; cases fl <;> simp
@[simp] theorem at_z {s : Sl} {ρ : Rho} {Q : Sl → Prop} : at_ (some s :: ρ) 0 Q ↔ Q s := Iff.rfl
@[simp] theorem at_n {ρ : Rho} {Q : Sl → Prop} : at_ (none :: ρ) 0 Q ↔ False := Iff.rfl
@[simp] theorem at_s {x : Option Sl} {ρ : Rho} {i : Nat} {Q : Sl → Prop} : at_ (x :: ρ) (i + 1) Q ↔ at_ ρ i Q := Iff.rfl
theorem w_aug {ρ : Rho} {QS : Fl → Rho → Prop} {i : Nat} {k : Int} {g : D → D → Option Sl} {fv : ME} : wS (fAugC i k g fv) ρ QS ↔
    at_ ρ i fun s => wg (gIxL s.d (.int k)) fun old => wE fv ρ fun rv ρ2 => wg (g old.d rv.d) fun new => at_ ρ2 i fun s2 => (s2.m.wr = true ∧ new.m = .fz) ∧ wg (gSetL s2.d (.int k) new.d) fun d' => QS .nx (ρ2.set i (some ⟨s2.m, d'⟩)) := by
  unfold wS fAugC fAug at_ wE fC
  cases e : ρ[i]? with
  | none => simp only [e]; exact Iff.rfl
  | some x =>
    cases x with
    | none => simp only [e]; exact Iff.rfl
    | some s =>
      simp only [e]
      show wg (_ >>= _) _ ↔ _
      rw [wg_bind]
      show wg (_ >>= _) _ ↔ _
      rw [wg_bind]
      simp only [e]
      refine wg_congr fun old => ?_
      rw [wg_bind]
      refine wg_congr fun rv => ?_
      show wg (_ >>= _) _ ↔ _
      rw [wg_bind]
      refine wg_congr fun new => ?_
      cases e3 : rv.2[i]? with
      | none => simp only [e3]; exact Iff.rfl
      | some y =>
        cases y with
        | none => simp only [e3]; exact Iff.rfl
        | some t => simp only [e3]; rw [wg_gate, wg_map]
theorem w_mix {ρ : Rho} {QS : Fl → Rho → Prop} {i b : Nat} {k : Int} {f g : ME} : wS (fMix i b k f g) ρ QS ↔
    wE f ρ fun r1 ρ1 => wE g ρ1 fun r2 ρ2 => wg (bindN i r1.d ρ2) fun ρ3 => at_ ρ3 b fun s => s.m.wr = true ∧ wg (gSetL s.d (.int k) r2.d) fun d' => QS .nx (ρ3.set b (some ⟨s.m, d'⟩)) := by
  have h : wS (fMix i b k f g) ρ QS ↔ wZ [f, g] ρ fun ds ρ1 => wg (match ds with
      | [d1, d2] => (bindN i d1 ρ1).bind fun ρ2 => match ρ2[b]? with
        | some (some ⟨m, d⟩) => if m.wr = true then (gSetL d (.int k) d2).map fun d' => (Fl.nx, ρ2.set b (some ⟨m, d'⟩)) else none
        | _ => none
      | _ => none) fun x => QS x.1 x.2 := by
    unfold wS fMix wZ
    refine wg_bind.trans (wg_congr fun x => ?_)
    obtain ⟨ds, ρ1⟩ := x
    exact Iff.rfl
  rw [h]
  simp only [w_zcons, w_znil]
  refine wg_congr fun x => wg_congr fun y => ?_
  show wg (Option.bind _ _) _ ↔ _
  rw [wg_bind']
  refine wg_congr fun ρ3 => ?_
  unfold at_
  cases e3 : ρ3[b]? with
  | none => simp only [e3]; exact Iff.rfl
  | some y =>
    cases y with
    | none => simp only [e3]; exact Iff.rfl
    | some t => simp only [e3]; rw [wg_gate, wg_map]
/-! ### what follows is looked at behind what is ahead of it: it is handed on as an instance, which simp passes by -/
class Kt (α : Type) where
  k : α
def wgi {α : Type} (o : Option α) {Q : Kt (α → Prop)} : Prop := wg o Q.k
def wEi (f : ME) (ρ : Rho) {Q : Kt (Sl → Rho → Prop)} : Prop := wE f ρ Q.k
def wTi (f : MT) (ρ : Rho) {Q : Kt (Bool → Rho → Prop)} : Prop := wT f ρ Q.k
def wOi (f : Opd) (ρ : Rho) {Q : Kt (Pk → Rho → Prop)} : Prop := wO f ρ Q.k
def wOsi (f : List Opd) (ρ : Rho) {Q : Kt (List Pk → Rho → Prop)} : Prop := wOs f ρ Q.k
def wZi (f : List ME) (ρ : Rho) {Q : Kt (List D → Rho → Prop)} : Prop := wZ f ρ Q.k
def wPi (f : MP) (ρ : Rho) {Q : Kt (Option Int → Rho → Prop)} : Prop := wP f ρ Q.k
def wSi (f : MS) (ρ : Rho) {Q : Kt (Fl → Rho → Prop)} : Prop := wS f ρ Q.k
def wMi (f : FnM) (as : List Sl) {Q : Kt (Sl → List Sl → Prop)} : Prop := wM f as Q.k
def at_i (ρ : Rho) (i : Nat) {Q : Kt (Sl → Prop)} : Prop := at_ ρ i Q.k
def bqi (r : Sl) {Q : Kt (Bool → Prop)} : Prop := bq r Q.k
def iqi (r : Sl) {Q : Kt (Int → Prop)} : Prop := iq r Q.k
def nqi (s : Sl) {P Q : Kt Prop} : Prop := nq s P.k Q.k
@[simp ↓] theorem wg_u {α : Type} {o : Option α} {Q : α → Prop} : wg o Q ↔ wgi o (Q := ⟨Q⟩) := Iff.rfl
@[simp ↓] theorem wE_u {f : ME} {ρ : Rho} {Q : Sl → Rho → Prop} : wE f ρ Q ↔ wEi f ρ (Q := ⟨Q⟩) := Iff.rfl
@[simp ↓] theorem wT_u {f : MT} {ρ : Rho} {Q : Bool → Rho → Prop} : wT f ρ Q ↔ wTi f ρ (Q := ⟨Q⟩) := Iff.rfl
@[simp ↓] theorem wO_u {f : Opd} {ρ : Rho} {Q : Pk → Rho → Prop} : wO f ρ Q ↔ wOi f ρ (Q := ⟨Q⟩) := Iff.rfl
@[simp ↓] theorem wOs_u {f : List Opd} {ρ : Rho} {Q : List Pk → Rho → Prop} : wOs f ρ Q ↔ wOsi f ρ (Q := ⟨Q⟩) := Iff.rfl
@[simp ↓] theorem wZ_u {f : List ME} {ρ : Rho} {Q : List D → Rho → Prop} : wZ f ρ Q ↔ wZi f ρ (Q := ⟨Q⟩) := Iff.rfl
@[simp ↓] theorem wP_u {f : MP} {ρ : Rho} {Q : Option Int → Rho → Prop} : wP f ρ Q ↔ wPi f ρ (Q := ⟨Q⟩) := Iff.rfl
@[simp ↓] theorem wS_u {f : MS} {ρ : Rho} {Q : Fl → Rho → Prop} : wS f ρ Q ↔ wSi f ρ (Q := ⟨Q⟩) := Iff.rfl
@[simp ↓] theorem wM_u {f : FnM} {as : List Sl} {Q : Sl → List Sl → Prop} : wM f as Q ↔ wMi f as (Q := ⟨Q⟩) := Iff.rfl
@[simp ↓] theorem at_u {ρ : Rho} {i : Nat} {Q : Sl → Prop} : at_ ρ i Q ↔ at_i ρ i (Q := ⟨Q⟩) := Iff.rfl
@[simp ↓] theorem bq_u {r : Sl} {Q : Bool → Prop} : bq r Q ↔ bqi r (Q := ⟨Q⟩) := Iff.rfl
@[simp ↓] theorem iq_u {r : Sl} {Q : Int → Prop} : iq r Q ↔ iqi r (Q := ⟨Q⟩) := Iff.rfl
@[simp ↓] theorem nq_u {s : Sl} {P Q : Prop} : nq s P Q ↔ nqi s (P := ⟨P⟩) (Q := ⟨Q⟩) := Iff.rfl
section
variable {ρ : Rho} {Q : Sl → Rho → Prop} {QT : Bool → Rho → Prop} {QO : Pk → Rho → Prop} {QL : List Pk → Rho → Prop} {QZ : List D → Rho → Prop} {QP : Option Int → Rho → Prop} {QS : Fl → Rho → Prop}
@[simp ↓] theorem wg_some_i {α : Type} {a : α} {Q : α → Prop} : wgi (some a) (Q := ⟨Q⟩) ↔ Q a := wg_some
@[simp ↓] theorem wg_none_i {α : Type} {Q : α → Prop} : wgi (none : Option α) (Q := ⟨Q⟩) ↔ False := wg_none
@[simp ↓] theorem wg_pure_i {α : Type} {a : α} {Q : α → Prop} : wgi (pure a : Option α) (Q := ⟨Q⟩) ↔ Q a := wg_pure
@[simp ↓] theorem wg_bind_i {α β : Type} {o : Option α} {f : α → Option β} {Q : β → Prop} : wgi (o >>= f) (Q := ⟨Q⟩) ↔ wg o fun a => wg (f a) Q := wg_bind
@[simp ↓] theorem wg_bind_i' {α β : Type} {o : Option α} {f : α → Option β} {Q : β → Prop} : wgi (o.bind f) (Q := ⟨Q⟩) ↔ wg o fun a => wg (f a) Q := wg_bind
@[simp ↓] theorem wg_map_i {α β : Type} {o : Option α} {f : α → β} {Q : β → Prop} : wgi (o.map f) (Q := ⟨Q⟩) ↔ wg o fun a => Q (f a) := wg_map
@[simp ↓] theorem wg_gate_i {α : Type} {c : Prop} [Decidable c] {a : Option α} {Q : α → Prop} : wgi (if c then a else none) (Q := ⟨Q⟩) ↔ c ∧ wg a Q := wg_gate
@[simp ↓] theorem nq_f_i {d : D} {p q : Prop} : nqi ⟨.fz, d⟩ (P := ⟨p⟩) (Q := ⟨q⟩) ↔ p := nq_f
@[simp ↓] theorem nq_o_i {d : D} {p q : Prop} : nqi ⟨.own, d⟩ (P := ⟨p⟩) (Q := ⟨q⟩) ↔ q := nq_o
@[simp ↓] theorem nq_p_i {d : D} {p q : Prop} : nqi ⟨.par, d⟩ (P := ⟨p⟩) (Q := ⟨q⟩) ↔ False := nq_p
@[simp ↓] theorem nq_l_i {d : D} {p q : Prop} : nqi ⟨.lent, d⟩ (P := ⟨p⟩) (Q := ⟨q⟩) ↔ False := nq_l
@[simp ↓] theorem bq_b_i {b : Bool} {K : Bool → Prop} : bqi ⟨.fz, .bl b⟩ (Q := ⟨K⟩) ↔ K b := bq_b
@[simp ↓] theorem iq_i_i {b : Int} {K : Int → Prop} : iqi ⟨.fz, .int b⟩ (Q := ⟨K⟩) ↔ K b := iq_i
@[simp ↓] theorem w_C_i {d : D} : wEi (fC d) ρ (Q := ⟨Q⟩) ↔ Q ⟨.fz, d⟩ ρ := w_C
@[simp ↓] theorem w_name_i {i : Nat} : wEi (fName i) ρ (Q := ⟨Q⟩) ↔ at_ ρ i fun s => nq s (Q s ρ) (Q ⟨.fz, s.d⟩ (ρ.set i (some ⟨.fz, s.d⟩))) := w_name
@[simp ↓] theorem w_sl_i {i : Nat} : wOi (.sl i) ρ (Q := ⟨QO⟩) ↔ at_ ρ i fun _ => QO (.sl i) ρ := w_sl
@[simp ↓] theorem w_ex_i {f : ME} : wOi (.ex f) ρ (Q := ⟨QO⟩) ↔ wE f ρ fun r ρ' => QO (.vl r.d) ρ' := w_ex
@[simp ↓] theorem w_op2_i {g : D → D → Option Sl} {a b : Opd} : wEi (fOp2 g a b) ρ (Q := ⟨Q⟩) ↔ wO a ρ fun pa ρ1 => wO b ρ1 fun pb ρ2 => wg (look pa ρ2) fun d => wg (look pb ρ2) fun e => wg (g d e) fun s => Q s ρ2 := w_op2
@[simp ↓] theorem w_op1_i {g : D → Option Sl} {a : Opd} : wEi (fOp1 g a) ρ (Q := ⟨Q⟩) ↔ wO a ρ fun pa ρ1 => wg (look pa ρ1) fun d => wg (g d) fun s => Q s ρ1 := w_op1
@[simp ↓] theorem w_opN_i {g : List D → Option Sl} {os : List Opd} : wEi (fOpN g os) ρ (Q := ⟨Q⟩) ↔ wOs os ρ fun pks ρ1 => wg (looks ρ1 pks) fun ds => wg (g ds) fun s => Q s ρ1 := w_opN
@[simp ↓] theorem w_nil_i : wOsi [] ρ (Q := ⟨QL⟩) ↔ QL [] ρ := w_nil
@[simp ↓] theorem w_cons_i {o : Opd} {os : List Opd} : wOsi (o :: os) ρ (Q := ⟨QL⟩) ↔ wO o ρ fun pk ρ1 => wOs os ρ1 fun pks ρ2 => QL (pk :: pks) ρ2 := w_cons
@[simp ↓] theorem w_disp_i {g : List D → Option Sl} {fs : List ME} : wEi (fDisp g fs) ρ (Q := ⟨Q⟩) ↔ wZ fs ρ fun ds ρ1 => wg (g ds) fun s => Q s ρ1 := w_disp
@[simp ↓] theorem w_znil_i : wZi [] ρ (Q := ⟨QZ⟩) ↔ QZ [] ρ := w_znil
@[simp ↓] theorem w_zcons_i {f : ME} {fs : List ME} : wZi (f :: fs) ρ (Q := ⟨QZ⟩) ↔ wE f ρ fun r ρ1 => wZ fs ρ1 fun ds ρ2 => QZ (r.d :: ds) ρ2 := w_zcons
@[simp ↓] theorem w_pnone_i : wPi none ρ (Q := ⟨QP⟩) ↔ QP none ρ := w_pnone
@[simp ↓] theorem w_psome_i {f : ME} : wPi (some f) ρ (Q := ⟨QP⟩) ↔ wE f ρ fun r ρ1 => iq r fun i => QP (some i) ρ1 := w_psome
@[simp ↓] theorem w_cut_i {g : D → Option Int → Option Int → Option Sl} {a : Opd} {lo hi : MP} : wEi (fSl g a lo hi) ρ (Q := ⟨Q⟩) ↔ wO a ρ fun pk ρ1 => wP lo ρ1 fun l ρ2 => wP hi ρ2 fun h ρ3 => wg (look pk ρ3) fun d => wg (g d l h) fun s => Q s ρ3 := w_cut
@[simp ↓] theorem w_m1_i {g : D → D → Option Sl} {a b : Opd} : wEi (fM1 g a b) ρ (Q := ⟨Q⟩) ↔ wO a ρ fun pa ρ1 => wg (look pa ρ1) fun d0 => isS d0 = true ∧ wO b ρ1 fun pb ρ2 => wg (look pa ρ2) fun d => wg (look pb ρ2) fun e => wg (g d e) fun s => Q s ρ2 := w_m1
@[simp ↓] theorem w_call_i {m : FnM} {os : List Opd} : wEi (fCall m os) ρ (Q := ⟨Q⟩) ↔ wOs os ρ fun pks ρ1 => wg (argsOf ρ1 pks) fun as => nodupS ρ1 pks = true ∧ wM m as fun r o => Q r (wb pks o ρ1) := w_call
@[simp ↓] theorem w_mut_i {i : Nat} {ty : D → Bool} {g : D → List D → Option (D × D)} {fs : List ME} : wEi (fMut i ty g fs) ρ (Q := ⟨Q⟩) ↔ at_ ρ i fun s => ty s.d = true ∧ wZ fs ρ fun ds ρ1 => at_ ρ1 i fun s1 => s1.m.wr = true ∧ wg (g s1.d ds) fun y => Q ⟨.fz, y.2⟩ (ρ1.set i (some ⟨s1.m, y.1⟩)) := w_mut
@[simp ↓] theorem w_andV_i {f g : ME} : wEi (fAndV f g) ρ (Q := ⟨Q⟩) ↔ wE f ρ fun r ρ1 => bq r fun b => if b = true then wE g ρ1 Q else Q ⟨.fz, .bl false⟩ ρ1 := w_andV
@[simp ↓] theorem w_orV_i {f g : ME} : wEi (fOrV f g) ρ (Q := ⟨Q⟩) ↔ wE f ρ fun r ρ1 => bq r fun b => if b = true then Q ⟨.fz, .bl true⟩ ρ1 else wE g ρ1 Q := w_orV
@[simp ↓] theorem w_notV_i {f : ME} : wEi (fNotV f) ρ (Q := ⟨Q⟩) ↔ wE f ρ fun r ρ1 => bq r fun b => Q ⟨.fz, .bl (!b)⟩ ρ1 := w_notV
@[simp ↓] theorem w_if_i {t : MT} {f g : ME} : wEi (fIf t f g) ρ (Q := ⟨Q⟩) ↔ wT t ρ fun b ρ1 => if b = true then wE f ρ1 Q else wE g ρ1 Q := w_if
@[simp ↓] theorem w_T_i {f : ME} : wTi (fT f) ρ (Q := ⟨QT⟩) ↔ wE f ρ fun r ρ1 => bq r fun b => QT b ρ1 := w_T
@[simp ↓] theorem w_and_i {f g : MT} : wTi (fAnd f g) ρ (Q := ⟨QT⟩) ↔ wT f ρ fun b ρ1 => if b = true then wT g ρ1 QT else QT false ρ1 := w_and
@[simp ↓] theorem w_or_i {f g : MT} : wTi (fOr f g) ρ (Q := ⟨QT⟩) ↔ wT f ρ fun b ρ1 => if b = true then QT true ρ1 else wT g ρ1 QT := w_or
@[simp ↓] theorem w_not_i {f : MT} : wTi (fNot f) ρ (Q := ⟨QT⟩) ↔ wT f ρ fun b ρ1 => QT (!b) ρ1 := w_not
@[simp ↓] theorem w_yes_i : wTi fYes ρ (Q := ⟨QT⟩) ↔ QT true ρ := w_yes
@[simp ↓] theorem w_next_i : wSi fNext ρ (Q := ⟨QS⟩) ↔ QS .nx ρ := w_next
@[simp ↓] theorem w_seq_i {g h : MS} : wSi (fSeq g h) ρ (Q := ⟨QS⟩) ↔ wS g ρ fun fl ρ1 => match fl with | .nx => wS h ρ1 QS | .bk => QS .bk ρ1 | .ct => QS .ct ρ1 | .rt r => QS (.rt r) ρ1 := w_seq
@[simp ↓] theorem w_expr_i {f : ME} : wSi (fExpr f) ρ (Q := ⟨QS⟩) ↔ wE f ρ fun _ ρ1 => QS .nx ρ1 := w_expr
@[simp ↓] theorem w_ret_i {f : ME} : wSi (fRet f) ρ (Q := ⟨QS⟩) ↔ wE f ρ fun r ρ1 => QS (.rt r) ρ1 := w_ret
@[simp ↓] theorem w_ret0_i : wSi fRet0 ρ (Q := ⟨QS⟩) ↔ QS (.rt ⟨.fz, .non⟩) ρ := w_ret0
@[simp ↓] theorem w_retN_i {i : Nat} : wSi (fRetN i) ρ (Q := ⟨QS⟩) ↔ at_ ρ i fun s => nq s (QS (.rt s) ρ) (QS (.rt s) (ρ.set i none)) := w_retN
@[simp ↓] theorem w_ifS_i {t : MT} {g h : MS} : wSi (fIfS t g h) ρ (Q := ⟨QS⟩) ↔ wT t ρ fun b ρ1 => if b = true then wS g ρ1 QS else wS h ρ1 QS := w_ifS
@[simp ↓] theorem w_asg_i {i : Nat} {f : ME} : wSi (fAsg i f) ρ (Q := ⟨QS⟩) ↔ wE f ρ fun r ρ1 => free ρ1 i = true ∧ QS .nx (ρ1.set i (some r)) := w_asg
@[simp ↓] theorem w_bind_i {b : MG} {f : ME} : wSi (fBind b f) ρ (Q := ⟨QS⟩) ↔ wE f ρ fun r ρ1 => wg (b r.d ρ1) fun ρ2 => QS .nx ρ2 := w_bind
@[simp ↓] theorem w_set_i {i : Nat} {g : D → D → D → Option D} {fk fv : ME} : wSi (fSet i g fk fv) ρ (Q := ⟨QS⟩) ↔ wE fv ρ fun rv ρ1 => at_ ρ1 i fun _ => wE fk ρ1 fun rk ρ2 => at_ ρ2 i fun s => s.m.wr = true ∧ wg (g s.d rk.d rv.d) fun d' => QS .nx (ρ2.set i (some ⟨s.m, d'⟩)) := w_set
@[simp ↓] theorem w_par_i {i j : Nat} {f g : ME} : wSi (fPar i j f g) ρ (Q := ⟨QS⟩) ↔ wE f ρ fun r ρ1 => wE g ρ1 fun s ρ2 => free ρ2 i = true ∧ free ρ2 j = true ∧ QS .nx ((ρ2.set i (some r)).set j (some s)) := w_par
@[simp ↓] theorem w_for_i {it : D → Option (List D)} {src : Opd} {b : MG} {body : MS} : wSi (fFor it src b body) ρ (Q := ⟨QS⟩) ↔ wO src ρ fun pk ρ1 => wg (look pk ρ1) fun d => wg (it d) fun ds => wS (loopM b body ds) (lend pk ρ1) fun fl ρ2 => QS fl (back pk ρ1 ρ2) := w_for
@[simp ↓] theorem w_forN_i {g : List D → Option (List D)} {os : List Opd} {b : MG} {body : MS} : wSi (fForN g os b body) ρ (Q := ⟨QS⟩) ↔ wOs os ρ fun pks ρ1 => wg (looks ρ1 pks) fun es => wg (g es) fun ds => wS (loopM b body ds) ρ1 QS := w_forN
@[simp ↓] theorem w_comp_i {it : D → Option (List D)} {src : Opd} {is : List Nat} {b : MG} {t : MT} {f : ME} : wEi (fComp it src is b t f) ρ (Q := ⟨Q⟩) ↔ wO src ρ fun pk ρ1 => wg (look pk ρ1) fun d => wg (it d) fun ds => is.all (free (lend pk ρ1)) = true ∧
    wg (compM is b t f ds [] (wipeR (lend pk ρ1) is)) fun x => x.1.length ≤ sizeLine ∧ Q ⟨.own, .lst x.1⟩ (back pk ρ1 x.2) := w_comp
@[simp ↓] theorem w_compN_i {g : List D → Option (List D)} {os : List Opd} {is : List Nat} {b : MG} {t : MT} {f : ME} : wEi (fCompN g os is b t f) ρ (Q := ⟨Q⟩) ↔ wOs os ρ fun pks ρ1 => wg (looks ρ1 pks) fun es => wg (g es) fun ds => is.all (free ρ1) = true ∧
    wg (compM is b t f ds [] (wipeR ρ1 is)) fun x => x.1.length ≤ sizeLine ∧ Q ⟨.own, .lst x.1⟩ x.2 := w_compN
@[simp ↓] theorem at_z_i {s : Sl} {ρ : Rho} {Q : Sl → Prop} : at_i (some s :: ρ) 0 (Q := ⟨Q⟩) ↔ Q s := at_z
@[simp ↓] theorem at_n_i {ρ : Rho} {Q : Sl → Prop} : at_i (none :: ρ) 0 (Q := ⟨Q⟩) ↔ False := at_n
@[simp ↓] theorem at_s_i {x : Option Sl} {ρ : Rho} {i : Nat} {Q : Sl → Prop} : at_i (x :: ρ) (i + 1) (Q := ⟨Q⟩) ↔ at_ ρ i Q := at_s
@[simp ↓] theorem w_aug_i {ρ : Rho} {QS : Fl → Rho → Prop} {i : Nat} {k : Int} {g : D → D → Option Sl} {fv : ME} : wSi (fAugC i k g fv) ρ (Q := ⟨QS⟩) ↔ at_ ρ i fun s => wg (gIxL s.d (.int k)) fun old => wE fv ρ fun rv ρ2 => wg (g old.d rv.d) fun new => at_ ρ2 i fun s2 => (s2.m.wr = true ∧ new.m = .fz) ∧ wg (gSetL s2.d (.int k) new.d) fun d' => QS .nx (ρ2.set i (some ⟨s2.m, d'⟩)) := w_aug
@[simp ↓] theorem w_mix_i {ρ : Rho} {QS : Fl → Rho → Prop} {i b : Nat} {k : Int} {f g : ME} : wSi (fMix i b k f g) ρ (Q := ⟨QS⟩) ↔ wE f ρ fun r1 ρ1 => wE g ρ1 fun r2 ρ2 => wg (bindN i r1.d ρ2) fun ρ3 => at_ ρ3 b fun s => s.m.wr = true ∧ wg (gSetL s.d (.int k) r2.d) fun d' => QS .nx (ρ3.set b (some ⟨s.m, d'⟩)) := w_mix
end
end VI

/-! The operations at values that are known. -/
namespace VI
open PySem PySem.Spec PyProof.Rows L2
section
variable {Q : Sl → Prop}
@[simp] theorem e_add_i (i j : Int) : gAdd (.int i) (.int j) = some ⟨.fz, .int (i + j)⟩ := rfl
@[simp] theorem e_sub_i (i j : Int) : gMinus (.int i) (.int j) = some ⟨.fz, .int (i - j)⟩ := rfl
@[simp] theorem e_lt_i (i j : Int) : gLt (.int i) (.int j) = some ⟨.fz, .bl (decide (i < j))⟩ := rfl
@[simp] theorem e_le_i (i j : Int) : gLe (.int i) (.int j) = some ⟨.fz, .bl (decide (i ≤ j))⟩ := rfl
@[simp] theorem e_gt_i (i j : Int) : gGt (.int i) (.int j) = some ⟨.fz, .bl (decide (j < i))⟩ := rfl
@[simp] theorem e_ge_i (i j : Int) : gGe (.int i) (.int j) = some ⟨.fz, .bl (decide (j ≤ i))⟩ := rfl
@[simp] theorem e_int_i (i : Int) : gInt [.int i] = some ⟨.fz, .int i⟩ := rfl
@[simp] theorem e_int_b (b : Bool) : gInt [.bl b] = some ⟨.fz, .int (if b = true then 1 else 0)⟩ := rfl
@[simp] theorem e_abs_i (i : Int) : gAbs [.int i] = some ⟨.fz, .int (if i < 0 then -i else i)⟩ := rfl
@[simp] theorem e_lenL (xs : List D) : gLenA [.lst xs] = some ⟨.fz, .int xs.length⟩ := rfl
@[simp] theorem e_lenT (xs : List D) : gLenA [.tup xs] = some ⟨.fz, .int xs.length⟩ := rfl
@[simp] theorem e_listL (xs : List D) : gListA [.lst xs] = some ⟨.own, .lst xs⟩ := rfl
@[simp] theorem e_listT (xs : List D) : gListA [.tup xs] = some ⟨.own, .lst xs⟩ := rfl
@[simp] theorem e_itL (xs : List D) : items (.lst xs) = some xs := rfl
@[simp] theorem e_itT (xs : List D) : items (.tup xs) = some xs := rfl
@[simp] theorem e_slL (xs : List D) (lo hi : Option Int) : gSlL (.lst xs) lo hi = some ⟨.own, .lst (cutD xs lo hi)⟩ := rfl
@[simp] theorem e_slQ (xs : List D) (lo hi : Option Int) : gSlL (.seq xs) lo hi = some ⟨.own, .lst (cutD xs lo hi)⟩ := rfl
@[simp] theorem e_look (d : D) (ρ : Rho) : look (.vl d) ρ = some d := rfl
@[simp] theorem e_looks0 (ρ : Rho) : looks ρ [] = some [] := rfl
theorem w_looks {ρ : Rho} {pk : Pk} {pks : List Pk} {Q : List D → Prop} : wg (looks ρ (pk :: pks)) Q ↔ wg (look pk ρ) fun d => wg (looks ρ pks) fun ds => Q (d :: ds) := by
  rw [looks, wg_bind]
  refine wg_congr fun d => ?_
  rw [wg_bind]; exact Iff.rfl
@[simp ↓] theorem w_looks_i {ρ : Rho} {pk : Pk} {pks : List Pk} {Q : List D → Prop} : wgi (looks ρ (pk :: pks)) (Q := ⟨Q⟩) ↔ wg (look pk ρ) fun d => wg (looks ρ pks) fun ds => Q (d :: ds) := w_looks
theorem w_look {ρ : Rho} {i : Nat} {Q : D → Prop} : wg (look (.sl i) ρ) Q ↔ at_ ρ i fun s => Q s.d := by
  unfold at_
  simp only [look]
  cases e : ρ[i]? with
  | none => exact Iff.rfl
  | some x => cases x <;> exact Iff.rfl
@[simp ↓] theorem w_look_i {ρ : Rho} {i : Nat} {Q : D → Prop} : wgi (look (.sl i) ρ) (Q := ⟨Q⟩) ↔ at_ ρ i fun s => Q s.d := w_look
theorem w_argv {ρ : Rho} {d : D} {pks : List Pk} {Q : List Sl → Prop} : wg (argsOf ρ (.vl d :: pks)) Q ↔ wg (argsOf ρ pks) fun as => Q (⟨.fz, d⟩ :: as) := by
  rw [argsOf, wg_bind]
  show wg (_ >>= _) _ ↔ _
  rw [wg_bind]; exact Iff.rfl
@[simp ↓] theorem w_argv_i {ρ : Rho} {d : D} {pks : List Pk} {Q : List Sl → Prop} : wgi (argsOf ρ (.vl d :: pks)) (Q := ⟨Q⟩) ↔ wg (argsOf ρ pks) fun as => Q (⟨.fz, d⟩ :: as) := w_argv
theorem w_argn {ρ : Rho} {Q : List Sl → Prop} : wg (argsOf ρ []) Q ↔ Q [] := Iff.rfl
@[simp ↓] theorem w_argn_i {ρ : Rho} {Q : List Sl → Prop} : wgi (argsOf ρ []) (Q := ⟨Q⟩) ↔ Q [] := w_argn
def hand (s : Sl) : Sl := if s.m = .own then ⟨.par, s.d⟩ else s
@[simp] theorem hand_own (d : D) : hand ⟨.own, d⟩ = ⟨.par, d⟩ := rfl
@[simp] theorem hand_par (d : D) : hand ⟨.par, d⟩ = ⟨.par, d⟩ := rfl
@[simp] theorem hand_fz (d : D) : hand ⟨.fz, d⟩ = ⟨.fz, d⟩ := rfl
@[simp] theorem hand_lent (d : D) : hand ⟨.lent, d⟩ = ⟨.lent, d⟩ := rfl
theorem w_args {ρ : Rho} {i : Nat} {pks : List Pk} {Q : List Sl → Prop} : wg (argsOf ρ (.sl i :: pks)) Q ↔ at_ ρ i fun s => wg (argsOf ρ pks) fun as => Q (hand s :: as) := by
  rw [argsOf, wg_bind]
  unfold at_ hand
  simp only [argOf]
  cases e : ρ[i]? with
  | none => exact Iff.rfl
  | some x =>
    cases x with
    | none => exact Iff.rfl
    | some s =>
      obtain ⟨m, d⟩ := s
      cases m <;> (show wg (_ >>= _) _ ↔ _; rw [wg_bind]; exact Iff.rfl)
@[simp ↓] theorem w_args_i {ρ : Rho} {i : Nat} {pks : List Pk} {Q : List Sl → Prop} : wgi (argsOf ρ (.sl i :: pks)) (Q := ⟨Q⟩) ↔ at_ ρ i fun s => wg (argsOf ρ pks) fun as => Q (hand s :: as) := w_args
@[simp] theorem e_mul_i (i j : Int) : gMul (.int i) (.int j) = if CMul i j then some ⟨.fz, .int (i * j)⟩ else none := by
  unfold gMul orG gI2c gMulL
  by_cases h : CMul i j
  · simp only [if_pos h]
  · simp only [if_neg h]
@[simp] theorem e_mod_i (i j : Int) : gMod (.int i) (.int j) = if j ≠ 0 then some ⟨.fz, .int (i.fmod j)⟩ else none := rfl
@[simp] theorem e_fdiv_i (i j : Int) : gFdiv (.int i) (.int j) = if CDivN i j then some ⟨.fz, .int (i.fdiv j)⟩ else none := rfl
@[simp] theorem e_pow_i (i j : Int) : gPow (.int i) (.int j) = if CPow i j then some ⟨.fz, .int (i ^ j.toNat)⟩ else none := rfl
@[simp] theorem e_add_s (x y : Str) : gAdd (.str x) (.str y) = if x.length + y.length ≤ sizeLine then some ⟨.fz, .str (x ++ y)⟩ else none := by
  unfold gAdd orG gI2 gAddS gAddL
  by_cases h : x.length + y.length ≤ sizeLine
  · simp only [if_pos h]
  · simp only [if_neg h]
@[simp] theorem e_add_l (x y : List D) : gAdd (.lst x) (.lst y) = if x.length + y.length ≤ sizeLine then some ⟨.own, .lst (x ++ y)⟩ else none := by
  unfold gAdd orG gI2 gAddS gAddL
  by_cases h : x.length + y.length ≤ sizeLine
  · simp only [if_pos h]
  · simp only [if_neg h]
theorem w_sub_l {xs : List D} {i : Int} : wg (gSubD (.lst xs) (.int i)) Q ↔ wg (atI xs i) fun d => Q ⟨.fz, d⟩ := by
  unfold gSubD gIx orG gIxL gIxT gIxS gDIx getD
  cases e : atI xs i <;> simp only [e] <;> exact Iff.rfl
@[simp ↓] theorem w_sub_l_i {xs : List D} {i : Int} : wgi (gSubD (.lst xs) (.int i)) (Q := ⟨Q⟩) ↔ wg (atI xs i) fun d => Q ⟨.fz, d⟩ := w_sub_l
theorem w_sub_t {xs : List D} {i : Int} : wg (gSubD (.tup xs) (.int i)) Q ↔ wg (atI xs i) fun d => Q ⟨.fz, d⟩ := by
  unfold gSubD gIx orG gIxL gIxT gIxS gDIx getD
  cases e : atI xs i <;> simp only [e] <;> exact Iff.rfl
@[simp ↓] theorem w_sub_t_i {xs : List D} {i : Int} : wgi (gSubD (.tup xs) (.int i)) (Q := ⟨Q⟩) ↔ wg (atI xs i) fun d => Q ⟨.fz, d⟩ := w_sub_t
theorem w_ixL {xs : List D} {i : Int} : wg (gIxL (.lst xs) (.int i)) Q ↔ wg (atI xs i) fun d => Q ⟨.fz, d⟩ := by
  unfold gIxL
  cases e : atI xs i <;> simp only [e] <;> exact Iff.rfl
@[simp ↓] theorem w_ixL_i {xs : List D} {i : Int} : wgi (gIxL (.lst xs) (.int i)) (Q := ⟨Q⟩) ↔ wg (atI xs i) fun d => Q ⟨.fz, d⟩ := w_ixL
theorem gIxS_eq (x : Str) (i : Int) : gIxS (.str x) (.int i) = if x.length ≤ sizeLine then (match atI x.cps.toList i with | some c => fzS ⟨#[c]⟩ | none => none) else none := rfl
theorem w_sub_s {x : Str} {i : Int} : wg (gSubD (.str x) (.int i)) Q ↔ x.length ≤ sizeLine ∧ wg (atI x.cps.toList i) fun c => Q ⟨.fz, .str ⟨#[c]⟩⟩ := by
  have h : gSubD (.str x) (.int i) = gIxS (.str x) (.int i) := by
    unfold gSubD gIx orG gIxL gIxT gDIx getD
    cases e : gIxS (.str x) (.int i) <;> simp only [e]
  rw [h, gIxS_eq, wg_gate]
  refine and_congr Iff.rfl ?_
  cases e : atI x.cps.toList i <;> exact Iff.rfl
@[simp ↓] theorem w_sub_s_i {x : Str} {i : Int} : wgi (gSubD (.str x) (.int i)) (Q := ⟨Q⟩) ↔ x.length ≤ sizeLine ∧ wg (atI x.cps.toList i) fun c => Q ⟨.fz, .str ⟨#[c]⟩⟩ := w_sub_s
theorem w_sub_d {es : List (Key × D)} {x : Str} : wg (gSubD (.dK es) (.str x)) Q ↔ wg (valD es (.inr x)) fun d => Q ⟨.fz, d⟩ := by
  unfold gSubD gIx orG gIxL gIxT gIxS gDIx getD keyOf
  cases e : valD es (.inr x) <;> simp only [e] <;> exact Iff.rfl
@[simp ↓] theorem w_sub_d_i {es : List (Key × D)} {x : Str} : wgi (gSubD (.dK es) (.str x)) (Q := ⟨Q⟩) ↔ wg (valD es (.inr x)) fun d => Q ⟨.fz, d⟩ := w_sub_d
theorem atI_at {α : Type} {xs : List α} {i : Int} (h : 0 ≤ i) : atI xs i = xs[i.toNat]? := by
  unfold atI ixN
  rw [if_pos h]
  by_cases hl : i < xs.length
  · rw [if_pos hl]; rfl
  · rw [if_neg hl, List.getElem?_eq_none (by omega)]; rfl
@[simp] theorem atI_0 {α : Type} {x : α} {xs : List α} : atI (x :: xs) 0 = some x := by rw [atI_at (by decide)]; rfl
@[simp] theorem atI_1 {α : Type} {x y : α} {xs : List α} : atI (x :: y :: xs) 1 = some y := by rw [atI_at (by decide)]; rfl
@[simp] theorem atI_2 {α : Type} {x y z : α} {xs : List α} : atI (x :: y :: z :: xs) 2 = some z := by rw [atI_at (by decide)]; rfl
@[simp] theorem atI_3 {α : Type} {x y z w : α} {xs : List α} : atI (x :: y :: z :: w :: xs) 3 = some w := by rw [atI_at (by decide)]; rfl
@[simp] theorem e_set0 (x y : D) (xs : List D) : gSetL (.lst (x :: xs)) (.int 0) y = some (.lst (y :: xs)) := by
  simp [gSetL, ixN]
@[simp] theorem e_set1 (x y z : D) (xs : List D) : gSetL (.lst (x :: y :: xs)) (.int 1) z = some (.lst (x :: z :: xs)) := by
  have h : ixN (x :: y :: xs).length 1 = some 1 := by simp [ixN]; omega
  simp only [gSetL, h]; rfl
@[simp] theorem e_set2 (x y z w : D) (xs : List D) : gSetL (.lst (x :: y :: z :: xs)) (.int 2) w = some (.lst (x :: y :: w :: xs)) := by
  have h : ixN (x :: y :: z :: xs).length 2 = some 2 := by simp [ixN]; omega
  simp only [gSetL, h]; rfl
@[simp] theorem e_app (xs : List D) (y : D) : gAppend (.lst xs) [y] = if xs.length < sizeLine then some (.lst (xs ++ [y]), .non) else none := rfl
@[simp] theorem e_ext (xs ys : List D) : gExtend (.lst xs) [.lst ys] = if xs.length + ys.length ≤ sizeLine then some (.lst (xs ++ ys), .non) else none := rfl
theorem w_pop {xs : List D} {i : Int} {Q : D × D → Prop} : wg (gPopAt (.lst xs) [.int i]) Q ↔ wg (ixN xs.length i) fun k => wg (xs[k]?) fun y => xs.length ≤ sizeLine ∧ Q (.lst (xs.eraseIdx k), y) := by
  unfold gPopAt
  cases e : ixN xs.length i with
  | none => simp only [e]; exact Iff.rfl
  | some k =>
    simp only [e, wg_some]
    cases e2 : xs[k]? with
    | none => simp only [e2]; exact Iff.rfl
    | some y => simp only [e2, wg_some]; exact wg_gate
@[simp ↓] theorem w_pop_i {xs : List D} {i : Int} {Q : D × D → Prop} : wgi (gPopAt (.lst xs) [.int i]) (Q := ⟨Q⟩) ↔ wg (ixN xs.length i) fun k => wg (xs[k]?) fun y => xs.length ≤ sizeLine ∧ Q (.lst (xs.eraseIdx k), y) := w_pop
@[simp] theorem e_tup (ds : List D) : gTup ds = if ds.length ≤ sizeLine then some ⟨.fz, .tup ds⟩ else none := rfl
@[simp] theorem e_lst (ds : List D) : gLst ds = if ds.length ≤ sizeLine then some ⟨.own, .lst ds⟩ else none := rfl
@[simp] theorem e_sorted (ds : List D) : gSorted [.lst ds] = if sortOk ds = true then some ⟨.own, .lst (sortL ds)⟩ else none := rfl
@[simp] theorem e_eq (a b : D) : gEq a b = if eqOk a b = true then some ⟨.fz, .bl (eqD a b)⟩ else none := rfl
@[simp] theorem e_ne (a b : D) : gNe a b = if eqOk a b = true then some ⟨.fz, .bl (!eqD a b)⟩ else none := rfl
@[simp] theorem eo_s (x y : Str) : eqOk (.str x) (.str y) = true := rfl
@[simp] theorem eo_i (i : Int) (b : D) : eqOk (.int i) b = ((D.int i).ok && b.ok) := rfl
@[simp] theorem eo_b (i : Bool) (b : D) : eqOk (.bl i) b = ((D.bl i).ok && b.ok) := rfl
@[simp] theorem eo_n (b : D) : eqOk .non b = (D.non.ok && b.ok) := rfl
@[simp] theorem eo_l (xs : List D) (b : D) : eqOk (.lst xs) b = ((D.lst xs).ok && b.ok) := rfl
@[simp] theorem eo_t (xs : List D) (b : D) : eqOk (.tup xs) b = ((D.tup xs).ok && b.ok) := rfl
@[simp] theorem e_in (x : D) (ys : List D) : gIn x (.lst ys) = if x.ok = true ∧ (D.lst ys).ok = true then some ⟨.fz, .bl (inL x ys)⟩ else none := rfl
@[simp] theorem e_notin (x : D) (ys : List D) : gNotIn x (.lst ys) = if x.ok = true ∧ (D.lst ys).ok = true then some ⟨.fz, .bl (!inL x ys)⟩ else none := rfl
@[simp] theorem e_repr (d : D) : gRepr [d] = if reprOk d = true then some ⟨.fz, .str d.py.shown⟩ else none := rfl
@[simp] theorem e_rng1 (j : Int) : gRng1 [.int j] = if -(2 ^ 62) ≤ j ∧ j < 2 ^ 62 then some (rangeD 0 j.toNat) else none := rfl
@[simp] theorem e_bindN (i : Nat) (d : D) (ρ : Rho) : bindN i d ρ = if free ρ i = true then some (ρ.set i (some ⟨.fz, d⟩)) else none := rfl
@[simp] theorem e_bindT (is : List Nat) (ds : List D) (ρ : Rho) : bindT is (.tup ds) ρ = bindA is ds ρ := rfl
@[simp] theorem e_bindA0 (ρ : Rho) : bindA [] [] ρ = some ρ := rfl
theorem w_bindA {i : Nat} {is : List Nat} {d : D} {ds : List D} {ρ : Rho} {Q : Rho → Prop} : wg (bindA (i :: is) (d :: ds) ρ) Q ↔ free ρ i = true ∧ wg (bindA is ds (ρ.set i (some ⟨.fz, d⟩))) Q := by
  rw [bindA, wg_bind', e_bindN, wg_gate]; exact Iff.rfl
@[simp ↓] theorem w_bindA_i {i : Nat} {is : List Nat} {d : D} {ds : List D} {ρ : Rho} {Q : Rho → Prop} : wgi (bindA (i :: is) (d :: ds) ρ) (Q := ⟨Q⟩) ↔ free ρ i = true ∧ wg (bindA is ds (ρ.set i (some ⟨.fz, d⟩))) Q := w_bindA
def frx : Option Sl → Bool
  | some ⟨.par, _⟩ => false
  | some ⟨.lent, _⟩ => false
  | _ => true
@[simp] theorem fr_z {x : Option Sl} {ρ : Rho} : free (x :: ρ) 0 = frx x := by
  cases x with
  | none => rfl
  | some s => obtain ⟨m, d⟩ := s; cases m <;> rfl
@[simp] theorem frx_n : frx none = true := rfl
@[simp] theorem frx_f {d : D} : frx (some ⟨.fz, d⟩) = true := rfl
@[simp] theorem frx_o {d : D} : frx (some ⟨.own, d⟩) = true := rfl
@[simp] theorem frx_p {d : D} : frx (some ⟨.par, d⟩) = false := rfl
@[simp] theorem frx_l {d : D} : frx (some ⟨.lent, d⟩) = false := rfl
@[simp] theorem fr_s {x : Option Sl} {ρ : Rho} {i : Nat} : free (x :: ρ) (i + 1) = free ρ i := rfl
@[simp] theorem e_listS (x : Str) : gListA [.str x] = if x.cps.size ≤ sizeLine then some ⟨.own, .lst (signsD x)⟩ else none := by
  unfold gListA orN gList gListS gListD
  by_cases h : x.cps.size ≤ sizeLine
  · simp only [if_pos h]
  · simp only [if_neg h]
@[simp] theorem e_isL (xs : List D) : isL (.lst xs) = true := rfl
@[simp] theorem e_isS (x : Str) : isS (.str x) = true := rfl
@[simp] theorem e_wr1 : Md.wr .own = true := rfl
@[simp] theorem e_wr2 : Md.wr .par = true := rfl
@[simp] theorem e_i2 (f : Int → Int → D) (i j : Int) : gI2 f (.int i) (.int j) = some ⟨.fz, f i j⟩ := rfl
@[simp] theorem e_sz : sizeLine = 16777216 := by decide
theorem cut_hi {β : Type} (E : β → D) (xs : List β) {k : Int} (h : 0 ≤ k) : cutD (xs.map E) none (some k) = (xs.take k.toNat).map E := by
  unfold cutD HT.sIx
  simp only [List.length_map, List.drop_zero, Nat.sub_zero]
  rw [if_neg (by omega), ← List.map_take]
  congr 1
  rw [List.take_eq_take_iff]; omega
theorem cut_lo {β : Type} (E : β → D) (xs : List β) {k : Int} (h : 0 ≤ k) : cutD (xs.map E) (some k) none = (xs.drop k.toNat).map E := by
  unfold cutD HT.sIx
  simp only [List.length_map]
  rw [if_neg (by omega), ← List.map_drop, ← List.map_take]
  congr 1
  by_cases hk : k.toNat ≤ xs.length
  · rw [Nat.min_eq_left hk, List.take_of_length_le (by simp)]
  · rw [Nat.min_eq_right (by omega), List.drop_of_length_le (Nat.le_refl _), List.drop_of_length_le (l := xs) (by omega)]; simp
end
/-! ### loops over rows of known values -/
theorem w_loopX {β : Type} {b : MG} {body : MS} {QS : Fl → Rho → Prop} (E : β → D) (I : List β → Rho → Prop) {xs : List β} {ρ : Rho} (h0 : I [] ρ)
    (hs : ∀ (pre : List β) (x : β) (ρ : Rho), x ∈ xs → pre.length < xs.length → I pre ρ → wg (b (E x) ρ) fun ρ1 => wS body ρ1 fun fl ρ2 => match fl with | .nx => I (pre ++ [x]) ρ2 | .ct => I (pre ++ [x]) ρ2 | .bk => QS .nx ρ2 | .rt r => QS (.rt r) ρ2)
    (hd : ∀ ρ, I xs ρ → QS .nx ρ) : wS (loopM b body (xs.map E)) ρ QS := by
  refine w_loop (fun k ρ => I (xs.take k) ρ) (k := 0) (by simpa using h0) ?_ ?_
  · intro j d ρ hj hi
    rw [List.getElem?_map] at hj
    obtain ⟨x, hx, rfl⟩ := Option.map_eq_some_iff.mp hj
    have e : xs.take (0 + j + 1) = xs.take (0 + j) ++ [x] := by
      rw [Nat.zero_add]
      obtain ⟨hlt, rfl⟩ := List.getElem?_eq_some_iff.mp hx
      exact (List.take_append_getElem hlt).symm
    rw [e]
    exact hs _ x ρ (List.mem_of_getElem? hx) (by have := (List.getElem?_eq_some_iff.mp hx).1; rw [List.length_take]; omega) hi
  · intro ρ hi
    refine hd ρ ?_
    rwa [Nat.zero_add, List.length_map, List.take_length] at hi
theorem w_compX {β : Type} {is : List Nat} {b : MG} {t : MT} {f : ME} {Q : List D × Rho → Prop} (E : β → D) (I : List β → List D → Rho → Prop) {xs : List β} {ρ : Rho} (h0 : I [] [] ρ)
    (hs : ∀ (pre : List β) (x : β) acc (ρ : Rho), x ∈ xs → pre.length < xs.length → I pre acc ρ → wg (b (E x) ρ) fun ρ1 => wT t ρ1 fun c ρ2 => if c = true then wE f ρ2 fun r ρ3 => I (pre ++ [x]) (acc ++ [r.d]) (wipeR ρ3 is) else I (pre ++ [x]) acc (wipeR ρ2 is))
    (hd : ∀ acc ρ, I xs acc ρ → Q (acc, ρ)) : wg (compM is b t f (xs.map E) [] ρ) Q := by
  refine w_compI (fun k acc ρ => I (xs.take k) acc ρ) (k := 0) (by simpa using h0) ?_ ?_
  · intro j d acc ρ hj hi
    rw [List.getElem?_map] at hj
    obtain ⟨x, hx, rfl⟩ := Option.map_eq_some_iff.mp hj
    have e : xs.take (0 + j + 1) = xs.take (0 + j) ++ [x] := by
      rw [Nat.zero_add]
      obtain ⟨hlt, rfl⟩ := List.getElem?_eq_some_iff.mp hx
      exact (List.take_append_getElem hlt).symm
    rw [e]
    exact hs _ x acc ρ (List.mem_of_getElem? hx) (by have := (List.getElem?_eq_some_iff.mp hx).1; rw [List.length_take]; omega) hi
  · intro acc ρ hi
    refine hd acc ρ ?_
    rwa [Nat.zero_add, List.length_map, List.take_length] at hi
/-- a comprehension that leaves all as it was -/
theorem w_compP {β : Type} {is : List Nat} {b : MG} {t : MT} {f : ME} {Q : List D × Rho → Prop} (E : β → D) (p : β → Bool) (h : β → D) {xs : List β} {ρ : Rho}
    (hs : ∀ x, x ∈ xs → wg (b (E x) ρ) fun ρ1 => wT t ρ1 fun c ρ2 => c = p x ∧ if c = true then wE f ρ2 fun r ρ3 => r.d = h x ∧ wipeR ρ3 is = ρ else wipeR ρ2 is = ρ)
    (hd : Q ((xs.filter p).map h, ρ)) : wg (compM is b t f (xs.map E) [] ρ) Q := by
  refine w_compX E (fun pre acc ρ' => acc = (pre.filter p).map h ∧ ρ' = ρ) ⟨rfl, rfl⟩ ?_ ?_
  · rintro pre x acc ρ' hx _ ⟨rfl, rfl⟩
    refine wg_mono (hs x hx) fun ρ1 h1 => wg_mono h1 fun y h2 => ?_
    obtain ⟨e, h2⟩ := h2
    rw [List.filter_append]
    by_cases hp : p x = true
    · rw [if_pos (e.trans hp)] at h2 ⊢
      refine wE_mono h2 fun r ρ3 h3 => ?_
      obtain ⟨h3, h4⟩ := h3
      rw [h3]
      exact ⟨by simp [hp], h4⟩
    · rw [if_neg (by rw [e]; exact hp)] at h2 ⊢
      exact ⟨by simp [hp], h2⟩
  · rintro acc ρ' ⟨rfl, rfl⟩
    exact hd
theorem ok_int (i : Int) : (D.int i).ok = true := by simp [D.ok, D.pure, D.py, SeqAt.shaped, PyData.canLay0, PyData.depth]
theorem eqD_int (i j : Int) : eqD (.int i) (.int j) = decide (i = j) := by simp only [eqD, D.py, PyData.eqv]; rfl
end VI

/-! Sorting and showing plain data. -/
namespace VI
open PySem PySem.Spec PyProof.Rows L2
/-! ### sorted -/
abbrev dLe : D → D → Bool := PySem.W.dataLe false D.py
theorem dLe_total : PySem.W.TotalLe dLe := PySem.W.sortLe_total _ _ _
theorem dLe_toks {a b : D} (h1 : dLe a b = true) (h2 : dLe b a = true) : PySem.W.keyToks a.py = PySem.W.keyToks b.py := by
  have h1' : (!PySem.W.dataLt b.py a.py) = true := h1
  have h2' : (!PySem.W.dataLt a.py b.py) = true := h2
  rw [Bool.not_eq_true'] at h1' h2'
  exact (PyProof.Rows.listOrd PyProof.Rows.itemOrd).total _ _ h2' h1'
theorem toks_eqv' {x y : PyData} (h : PySem.W.alike x y = true) (e : PySem.W.keyToks x = PySem.W.keyToks y) : PyData.eqv x y = true := by
  cases q : PyData.eqv x y with
  | true => rfl
  | false =>
    have t := (PySem.W.toks_eqv x y h).2 q [] [.inl 0]
    rw [e, PySem.W.lex_pre] at t
    have t1 : PyProof.Rows.lexLt PyProof.Rows.itemOrd [] [.inl 0] = true := rfl
    have t2 : PyProof.Rows.lexLt PyProof.Rows.itemOrd (PySem.W.keyToks y) (PySem.W.keyToks y) = false := PyProof.Rows.lex_irrefl _
    rw [t1, t2] at t
    cases t
mutual
theorem eqv_inj : ∀ a b : D, a.pure = true → b.pure = true → PySem.W.alike a.py b.py = true → PyData.eqv a.py b.py = true → a = b
  | .non, b, _, hb, h, e => by cases b <;> first | rfl | (simp [D.py, PySem.W.alike] at h; done) | (simp [D.pure] at hb; done)
  | .bl x, b, _, hb, h, e => by cases b <;> first | (simp [D.py, PySem.W.alike] at h; done) | (simp [D.pure] at hb; done) | (simp [D.py, PyData.eqv] at e; rw [e])
  | .int x, b, _, hb, h, e => by cases b <;> first | (simp [D.py, PySem.W.alike] at h; done) | (simp [D.pure] at hb; done) | (simp [D.py, PyData.eqv] at e; rw [e])
  | .str x, b, _, hb, h, e => by cases b <;> first | (simp [D.py, PySem.W.alike] at h; done) | (simp [D.pure] at hb; done) | (simp [D.py, PyData.eqv] at e; rw [e])
  | .tup xs, b, ha, hb, h, e => by
    cases b <;> first | (simp [D.py, PySem.W.alike] at h; done) | (simp [D.pure] at hb; done) | skip
    rename_i ys
    simp only [D.py, PySem.W.alike, PyData.eqv, D.pure] at h e ha hb
    rw [eqvAll_inj xs ys ha hb h e]
  | .lst xs, b, ha, hb, h, e => by
    cases b <;> first | (simp [D.py, PySem.W.alike] at h; done) | (simp [D.pure] at hb; done) | skip
    rename_i ys
    simp only [D.py, PySem.W.alike, PyData.eqv, D.pure] at h e ha hb
    rw [eqvAll_inj xs ys ha hb h e]
  | .dK _, _, ha, _, _, _ => by simp [D.pure] at ha
  | .dT _, _, ha, _, _, _ => by simp [D.pure] at ha
  | .ins _ _, _, ha, _, _, _ => by simp [D.pure] at ha
  | .ptr _, _, ha, _, _, _ => by simp [D.pure] at ha
  | .seq _, _, ha, _, _, _ => by simp [D.pure] at ha
  | .tupK _, _, ha, _, _, _ => by simp [D.pure] at ha
theorem eqvAll_inj : ∀ xs ys : List D, pureL xs = true → pureL ys = true → PySem.W.alikeAll (pyL xs) (pyL ys) = true → PyData.eqvAll (pyL xs) (pyL ys) = true → xs = ys
  | [], [], _, _, _, _ => rfl
  | [], y :: ys, _, _, _, e => by simp [pyL, PyData.eqvAll] at e
  | x :: xs, [], _, _, _, e => by simp [pyL, PyData.eqvAll] at e
  | x :: xs, y :: ys, ha, hb, h, e => by
    simp only [pyL, pureL, PySem.W.alikeAll, PyData.eqvAll, Bool.and_eq_true] at ha hb h e
    rw [eqv_inj x y ha.1 hb.1 h.1 e.1, eqvAll_inj xs ys ha.2 hb.2 h.2 e.2]
end
theorem sortOk_inj {ds : List D} (ok : sortOk ds = true) : ∀ a ∈ ds, ∀ b ∈ ds, dLe a b = true → dLe b a = true → a = b := by
  unfold sortOk at ok
  simp only [Bool.and_eq_true, List.all_eq_true, decide_eq_true_eq] at ok
  obtain ⟨⟨⟨h1, h2⟩, _⟩, _⟩ := ok
  intro a ha b hb l1 l2
  have al := h2 a ha b hb
  exact eqv_inj a b (h1 a ha).1 (h1 b hb).1 al (toks_eqv' al (dLe_toks l1 l2))
theorem sortL_pw (ds : List D) : (sortL ds).Pairwise fun a b => dLe a b = true := PySem.W.sort_pairwise dLe_total ds
theorem sortL_perm0 (ds : List D) : (sortL ds).Perm ds := List.mergeSort_perm _ _
theorem sort_one {ds l m : List D} (ok : sortOk ds = true) (hl : l.Perm ds) (hm : m.Perm ds) (pl : l.Pairwise fun a b => dLe a b = true) (pm : m.Pairwise fun a b => dLe a b = true) : l = m :=
  List.Perm.eq_of_pairwise (le := fun a b => dLe a b = true) (fun a b ha hb => sortOk_inj ok a (hl.mem_iff.mp ha) b (hm.mem_iff.mp hb)) pl pm (hl.trans hm.symm)
theorem sortL_perm {ds es : List D} (ok : sortOk ds = true) (h : ds.Perm es) : sortL ds = sortL es :=
  sort_one ok (sortL_perm0 ds) ((sortL_perm0 es).trans h.symm) (sortL_pw ds) (sortL_pw es)
theorem sortL_app {ds l m : List D} (ok : sortOk ds = true) (h : ds.Perm (l ++ m)) (hlt : ∀ a ∈ l, ∀ b ∈ m, dLe a b = true) : sortL ds = sortL l ++ sortL m := by
  refine sort_one ok (sortL_perm0 ds) (((sortL_perm0 l).append (sortL_perm0 m)).trans h.symm) (sortL_pw ds) ?_
  exact List.pairwise_append.mpr ⟨sortL_pw l, sortL_pw m, fun a ha b hb => hlt a ((sortL_perm0 l).mem_iff.mp ha) b ((sortL_perm0 m).mem_iff.mp hb)⟩
theorem sortL_self {ds : List D} (ok : sortOk ds = true) (h : ds.Pairwise fun a b => dLe a b = true) : sortL ds = ds :=
  sort_one ok (sortL_perm0 ds) (.refl _) (sortL_pw ds) h
/-! ### what is shown -/
theorem shownAll_map : ∀ xs : List D, PyData.shownAll (pyL xs) = xs.map fun x => x.py.shown
  | [] => by simp [pyL, PyData.shownAll]
  | x :: xs => by simp [pyL, PyData.shownAll, shownAll_map xs]
theorem sum_le {α : Type} (f : α → Nat) (c : Nat) : ∀ xs : List α, (∀ x ∈ xs, f x ≤ c) → (xs.map f).sum ≤ xs.length * c
  | [], _ => by simp
  | x :: xs, h => by
    have h1 := h x List.mem_cons_self
    have h2 := sum_le f c xs fun y hy => h y (List.mem_cons_of_mem _ hy)
    simp only [List.map_cons, List.sum_cons, List.length_cons, Nat.succ_mul]; omega
theorem listText_le (ts : List Str) : (listText ts).length ≤ 2 + (ts.map fun t => t.length + 2).sum := by
  cases ts with
  | nil => decide +kernel
  | cons t r =>
    have h := textFrom_length_pos r 1 (("[" : Str) ++ (if (0 : Nat) > 0 then ", " else "" : String) ++ t) (Nat.succ_pos 0)
    have e : ((("[" : Str) ++ (if (0 : Nat) > 0 then ", " else "" : String) ++ t)).length = 1 + t.length := by
      rw [strLen_append, strLen_append]; rfl
    have hX : (listText (t :: r)).length = (textFrom 0 "[" (t :: r)).length + 1 := by
      show (textFrom 0 "[" (t :: r) ++ "]").length = _
      rw [strLen_append]; rfl
    have hY : (textFrom 0 "[" (t :: r)).length = (textFrom 1 (("[" : Str) ++ (if (0 : Nat) > 0 then ", " else "" : String) ++ t) r).length := rfl
    rw [hX, hY, h, e]
    unfold piled
    simp only [List.map_cons, List.sum_cons]; omega
theorem join_le (sep : Str) : ∀ ts : List Str, (Str.join sep ts).length ≤ (ts.map fun t => t.length + sep.length).sum
  | ts => by
    have := StrLaws.join_length_le sep ts
    refine Nat.le_trans this ?_
    have : ∀ ts : List Str, (ts.map fun t => t.length + sep.length).sum = (ts.map (·.length)).sum + ts.length * sep.length := by
      intro ts
      induction ts with
      | nil => simp
      | cons t ts ih => simp only [List.map_cons, List.sum_cons, List.length_cons, Nat.succ_mul, ih]; omega
    rw [this]
    exact Nat.le_refl _
theorem tupleText_le (ts : List Str) : (tupleText ts).length ≤ 3 + (ts.map fun t => t.length + 2).sum := by
  unfold tupleText
  rw [strLen_append, strLen_append]
  have h := join_le ", " ts
  have e : Str.length ", " = 2 := by decide +kernel
  rw [e] at h
  have e1 : Str.length ("(" : Str) = 1 := by decide +kernel
  have e2 : Str.length (Str.ofString (if (ts.length == 1) = true then ",)" else ")")) ≤ 2 := by
    split
    · decide +kernel
    · decide +kernel
  rw [e1]
  have e3 : Str.length (Str.ofString (if (ts.length == 1) = true then ",)" else ")") : Str) ≤ 2 := e2
  omega
theorem shown_lst {xs : List D} {c : Nat} (h : ∀ x ∈ xs, x.py.shown.length ≤ c) : (D.lst xs).py.shown.length ≤ 2 + xs.length * (c + 2) := by
  rw [D.py, PyData.shown, shownAll_map]
  refine Nat.le_trans (listText_le _) ?_
  rw [List.map_map]
  have := sum_le (fun x : D => x.py.shown.length + 2) (c + 2) xs fun x hx => by have := h x hx; omega
  exact Nat.add_le_add_left this 2
theorem shown_tup {xs : List D} {c : Nat} (h : ∀ x ∈ xs, x.py.shown.length ≤ c) : (D.tup xs).py.shown.length ≤ 3 + xs.length * (c + 2) := by
  rw [D.py, PyData.shown, shownAll_map]
  refine Nat.le_trans (tupleText_le _) ?_
  rw [List.map_map]
  have := sum_le (fun x : D => x.py.shown.length + 2) (c + 2) xs fun x hx => by have := h x hx; omega
  exact Nat.add_le_add_left this 3
theorem shown_str {x : Str} {n : Nat} (h : PyData.strOk x = true) (hn : x.length ≤ n) : (D.str x).py.shown.length ≤ 10 * n + 2 := by
  rw [D.py, PyData.shown]
  have h2 : ∀ c ∈ x.cps.toList, c < 16 ^ 8 := by
    unfold PyData.strOk at h
    intro c hc
    simp at h
    obtain ⟨i, hi, rfl⟩ := Array.mem_iff_getElem.mp (by simpa using hc)
    have := h i hi
    have e : (16 : Nat) ^ 8 = 4294967296 := by decide
    omega
  have := StrLaws.reprText_len x h2
  omega
theorem showableAll_iff : ∀ xs : List D, PyData.showableAll (pyL xs) = true ↔ ∀ x ∈ xs, x.py.showable = true
  | [] => by simp [pyL, PyData.showableAll]
  | x :: xs => by simp [pyL, PyData.showableAll, showableAll_iff xs]
/-- plain data that can be shown: depth, length of what is shown -/
def Shw (n c : Nat) (d : D) : Prop := d.pure = true ∧ d.py.showable = true ∧ d.py.depth ≤ n ∧ d.py.shown.length ≤ c
theorem depthAll_le (n : Nat) : ∀ xs : List D, (∀ x ∈ xs, x.py.depth ≤ n) → PyData.depthAll (pyL xs) ≤ n
  | [], _ => by simp [pyL, PyData.depthAll]
  | x :: xs, h => by
    rw [pyL, PyData.depthAll, Nat.max_le]
    exact ⟨h x List.mem_cons_self, depthAll_le n xs fun y hy => h y (List.mem_cons_of_mem _ hy)⟩
theorem shw_lst {n c : Nat} {xs : List D} (h : ∀ x ∈ xs, Shw n c x) : Shw (n + 1) (2 + xs.length * (c + 2)) (.lst xs) := by
  refine ⟨?_, ?_, ?_, shown_lst fun x hx => (h x hx).2.2.2⟩
  · rw [D.pure, pureL_all, List.all_eq_true]; exact fun x hx => (h x hx).1
  · rw [D.py, PyData.showable, showableAll_iff]; exact fun x hx => (h x hx).2.1
  · rw [D.py, PyData.depth]
    have := depthAll_le n xs fun x hx => (h x hx).2.2.1
    omega
theorem shw_tup {n c : Nat} {xs : List D} (h : ∀ x ∈ xs, Shw n c x) : Shw (n + 1) (3 + xs.length * (c + 2)) (.tup xs) := by
  refine ⟨?_, ?_, ?_, shown_tup fun x hx => (h x hx).2.2.2⟩
  · rw [D.pure, pureL_all, List.all_eq_true]; exact fun x hx => (h x hx).1
  · rw [D.py, PyData.showable, showableAll_iff]; exact fun x hx => (h x hx).2.1
  · rw [D.py, PyData.depth]
    have := depthAll_le n xs fun x hx => (h x hx).2.2.1
    omega
theorem shw_str {x : Str} {n k : Nat} (h : PyData.strOk x = true) (hn : x.length ≤ n) : Shw k (10 * n + 2) (.str x) :=
  ⟨by simp [D.pure], by simp [D.py, PyData.showable], by simp [D.py, PyData.depth], shown_str h hn⟩
theorem Shw.mono {n m c c' : Nat} {d : D} (h : Shw n c d) (h1 : n ≤ m) (h2 : c ≤ c') : Shw m c' d := ⟨h.1, h.2.1, Nat.le_trans h.2.2.1 h1, Nat.le_trans h.2.2.2 h2⟩
theorem Shw.ok {n c : Nat} {d : D} (h : Shw n c d) (h1 : n ≤ 64) (h2 : c ≤ 16777216) : reprOk d = true := by
  unfold reprOk
  rw [h.1, h.2.1]
  have := h.2.2.1
  have := h.2.2.2
  simp; omega
/-! ### a law's end -/
theorem RepL.ints {K : PySem.W.Frag} {F : Hp} : ∀ ns : List Int, RepL K F (ns.map V.int) (ns.map D.int)
  | [] => .nil
  | n :: ns => .cons (.int n) (RepL.ints ns)
theorem law_of {m : FnM} {ns : List Int} (h : wM m [⟨.fz, .seq (ns.map D.int)⟩] fun r _ => r = ⟨.fz, .bl true⟩) (K : PySem.W.Frag) (H : Hp) (a : Addr) (hS : SqL K H a (ns.map V.int)) : spG K 1 m [.ref a] H fun v _ => v = .bl true := by
  obtain ⟨⟨r, os⟩, e, q⟩ := wg_out h
  dsimp only at q
  subst q
  refine ⟨H, [⟨.fz, .seq (ns.map D.int)⟩], _, os, rfl, ⟨.refl H, rfl, ?_, ?_⟩, ?_, e, fun v F' H' C => ?_⟩
  · intro i s hs
    cases i with
    | zero =>
      simp at hs
      subst hs
      exact ⟨.ref a, rfl, .mk_fz rfl (.seq hS (RepL.ints ns))⟩
    | succ i => simp at hs
  · intro i j s t p h1 h2 m1
    cases i with
    | zero => simp at h1; subst h1; exact absurd rfl m1
    | succ i => simp at h1
  · intro x hx
    simp at hx; subst hx
    intro z; cases z
  · have r : Rep K F' v (.bl true) := C.res
    cases r; rfl
end VI

namespace VI
open PySem PySem.Spec PyProof.Rows L2
def topS (i : Nat) : Stmt := PySem.Challenge.pw_barelybetter_k40_patterns.main.body.getD i (.Pass ⟨0, 0, 0, 0⟩)
def fuel : Nat := 100000
structure Blt (mg : Str → Option Value) : Prop where
  abs : mg "abs" = none
  dict : mg "dict" = none
  int : mg "int" = none
  len : mg "len" = none
  list : mg "list" = none
  range : mg "range" = none
  repr : mg "repr" = none
  sorted : mg "sorted" = none
-- twos, level 1, slots 0:betters 1:found 2:x 3:y 4:z 5:w
abbrev s_twos : Stmt := topS 1
theorem sc_twos : FnScope ["betters", "found", "x", "y", "z", "w"] ["betters"] (defScope s_twos) :=
  ⟨rfl, rfl, rfl, by decide +kernel, rfl, by decide +kernel, by decide +kernel⟩
def b_twos : MS :=
  (fSeq (fAsg 1 (fDisp gLst []))
  (fSeq (fFor items (.sl 0) (bindT [2, 3]) (fFor items (.sl 0) (bindT [4, 5]) (fIfS (fAnd (fT (fOp2 gNotIn (.ex (fDisp gTup [(fName 2), (fName 5)])) (.sl 0))) (fT (fOp2 gNotIn (.ex (fDisp gTup [(fName 4), (fName 3)])) (.sl 0)))) (fExpr (fMut 1 isL gAppend [(fDisp gTup [(fC (.str "two")), (fName 2), (fName 3), (fName 4), (fName 5)])])) fNext)))
  (fRet (fOpN gSorted [(.sl 1)]))))
def m_twos : FnM := fnM 5 b_twos
theorem ok_twos {P : Program} {w : World} {K : PySem.W.Frag} {mg : Str → Option Value} {base : Heap} {f : Addr} {fd : FuncData} (hB : Blt mg) 
    (Fn : Fun K "twos" "twos" s_twos f fd) (hm : mg "twos" = some (.ref f)) (hb : L2.Binds K fd ["betters"] []) : Callee P w K mg base 1 "twos" ["betters"] m_twos :=
  callee_mk Fn hm sc_twos rfl hb fun cdv A outer s H hr hg =>
  (vb_cons (vs_asg (i := 1) sc_twos.nd rfl (by first | exact .inl rfl | exact .inr rfl) (ve_lst vz_nil))
  (vb_cons (vs_for walks_any PassesOwn.never rfl (pi_any (vo_sl 0 (pv 0))) (vg_tup rfl (vgs_cons (i := 2) sc_twos.nd rfl (by first | exact .inl rfl | exact .inr rfl) (vgs_cons (i := 3) sc_twos.nd rfl (by first | exact .inl rfl | exact .inr rfl) vgs_nil))) (vb_one (vs_for walks_any PassesOwn.never rfl (pi_any (vo_sl 0 (pv 0))) (vg_tup rfl (vgs_cons (i := 4) sc_twos.nd rfl (by first | exact .inl rfl | exact .inr rfl) (vgs_cons (i := 5) sc_twos.nd rfl (by first | exact .inl rfl | exact .inr rfl) vgs_nil))) (vb_one (vs_if (PW.pt (vw_and (t_notin hr (vo_ex (ve_tup (vz_cons (ve_name 2 (pv 2)) (vz_cons (ve_name 5 (pv 5)) vz_nil)))) (vo_sl 0 (pv 0))) (vw_and1 (t_notin hr (vo_ex (ve_tup (vz_cons (ve_name 4 (pv 4)) (vz_cons (ve_name 3 (pv 3)) vz_nil)))) (vo_sl 0 (pv 0)))))) (vb_one (vs_expr (v_append (pv 1) (ve_tup (vz_cons ve_str (vz_cons (ve_name 2 (pv 2)) (vz_cons (ve_name 3 (pv 3)) (vz_cons (ve_name 4 (pv 4)) (vz_cons (ve_name 5 (pv 5)) vz_nil))))))))) vb_nil)))))
  (vb_one (vs_ret (v_sorted hr hB.sorted (vo_sl 1 (pv 1)))))))
-- threes, level 1, slots 0:things 1:betters 2:found 3:x 4:y 5:z 6:w 7:one 8:other
abbrev s_threes : Stmt := topS 2
theorem sc_threes : FnScope ["things", "betters", "found", "x", "y", "z", "w", "one", "other"] ["things", "betters"] (defScope s_threes) :=
  ⟨rfl, rfl, rfl, by decide +kernel, rfl, by decide +kernel, by decide +kernel⟩
def b_threes : MS :=
  (fSeq (fAsg 2 (fDisp gLst []))
  (fSeq (fFor items (.sl 1) (bindT [3, 4]) (fFor items (.ex (fComp items (.sl 1) [7, 8] (bindT [7, 8]) (fT (fOp2 gEq (.sl 7) (.sl 4))) (fName 8))) (bindN 5) (fFor items (.sl 0) (bindN 6) (fIfS (fAnd (fT (fOp2 gNotIn (.ex (fDisp gTup [(fName 3), (fName 6)])) (.sl 1))) (fT (fOp2 gNotIn (.ex (fDisp gTup [(fName 6), (fName 5)])) (.sl 1)))) (fExpr (fMut 2 isL gAppend [(fDisp gTup [(fC (.str "three")), (fName 3), (fName 4), (fName 5), (fName 6)])])) fNext))))
  (fRet (fOpN gSorted [(.sl 2)]))))
def m_threes : FnM := fnM 7 b_threes
theorem ok_threes {P : Program} {w : World} {K : PySem.W.Frag} {mg : Str → Option Value} {base : Heap} {f : Addr} {fd : FuncData} (hB : Blt mg) 
    (Fn : Fun K "threes" "threes" s_threes f fd) (hm : mg "threes" = some (.ref f)) (hb : L2.Binds K fd ["things", "betters"] []) : Callee P w K mg base 1 "threes" ["things", "betters"] m_threes :=
  callee_mk Fn hm sc_threes rfl hb fun cdv A outer s H hr hg =>
  (vb_cons (vs_asg (i := 2) sc_threes.nd rfl (by first | exact .inl rfl | exact .inr rfl) (ve_lst vz_nil))
  (vb_cons (vs_for walks_any PassesOwn.never rfl (pi_any (vo_sl 1 (pv 1))) (vg_tup rfl (vgs_cons (i := 3) sc_threes.nd rfl (by first | exact .inl rfl | exact .inr rfl) (vgs_cons (i := 4) sc_threes.nd rfl (by first | exact .inl rfl | exact .inr rfl) vgs_nil))) (vb_one (vs_for walks_any PassesOwn.never rfl (pi_any (vo_ex (ve_comp [("one", 7), ("other", 8)] walks_any (nb_tup [7, 8]) rfl sc_threes.nd (pi_any (vo_sl 1 (pv 1))) (blkOk_by (by kernel_rfl)) (fun _ _ _ _ _ => (vg_tup rfl (vgs_cons (i := 7) sc_threes.nd rfl (by first | exact .inl rfl | exact .inr rfl) (vgs_cons (i := 8) sc_threes.nd rfl (by first | exact .inl rfl | exact .inr rfl) vgs_nil)))) (fun _ _ _ _ _ => (vts_one (t_eq hr (vo_sl 7 (pv 7)) (vo_sl 4 (pv 4))))) (fun _ _ _ _ _ => (ve_name 8 (pv 8)))))) (vg_name (i := 5) sc_threes.nd rfl (by first | exact .inl rfl | exact .inr rfl)) (vb_one (vs_for walks_any PassesOwn.never rfl (pi_any (vo_sl 0 (pv 0))) (vg_name (i := 6) sc_threes.nd rfl (by first | exact .inl rfl | exact .inr rfl)) (vb_one (vs_if (PW.pt (vw_and (t_notin hr (vo_ex (ve_tup (vz_cons (ve_name 3 (pv 3)) (vz_cons (ve_name 6 (pv 6)) vz_nil)))) (vo_sl 1 (pv 1))) (vw_and1 (t_notin hr (vo_ex (ve_tup (vz_cons (ve_name 6 (pv 6)) (vz_cons (ve_name 5 (pv 5)) vz_nil)))) (vo_sl 1 (pv 1)))))) (vb_one (vs_expr (v_append (pv 2) (ve_tup (vz_cons ve_str (vz_cons (ve_name 3 (pv 3)) (vz_cons (ve_name 4 (pv 4)) (vz_cons (ve_name 5 (pv 5)) (vz_cons (ve_name 6 (pv 6)) vz_nil))))))))) vb_nil)))))))
  (vb_one (vs_ret (v_sorted hr hB.sorted (vo_sl 2 (pv 2)))))))
-- patterns_of, level 2, slots 0:things 1:betters
abbrev s_patterns_of : Stmt := topS 3
theorem sc_patterns_of : FnScope ["things", "betters"] ["things", "betters"] (defScope s_patterns_of) :=
  ⟨rfl, rfl, rfl, by decide +kernel, rfl, by decide +kernel, by decide +kernel⟩
def b_patterns_of : MS :=
  (fRet (fOp2 gAdd (.ex (fCall m_threes [(.sl 0), (.sl 1)])) (.ex (fCall m_twos [(.sl 1)]))))
def m_patterns_of : FnM := fnM 0 b_patterns_of
theorem ok_patterns_of {P : Program} {w : World} {K : PySem.W.Frag} {mg : Str → Option Value} {base : Heap} {f : Addr} {fd : FuncData} (hB : Blt mg) (C_threes : Callee P w K mg base 1 "threes" ["things", "betters"] m_threes) (C_twos : Callee P w K mg base 1 "twos" ["betters"] m_twos)
    (Fn : Fun K "patterns_of" "patterns_of" s_patterns_of f fd) (hm : mg "patterns_of" = some (.ref f)) (hb : L2.Binds K fd ["things", "betters"] []) : Callee P w K mg base 2 "patterns_of" ["things", "betters"] m_patterns_of :=
  callee_mk Fn hm sc_patterns_of rfl hb fun cdv A outer s H hr hg =>
  (vb_one (vs_ret (v_add (vo_ex (v_call C_threes hr hg (by decide) (va_cons (vo_sl 0 (pv 0)) (va_cons (vo_sl 1 (pv 1)) va_nil)))) (vo_ex (v_call C_twos hr hg (by decide) (va_cons (vo_sl 1 (pv 1)) va_nil))))))
-- _law_bag, level 1, slots 0:_law_script 1:_law_cell
abbrev s_law_bag : Stmt := topS 5
theorem sc_law_bag : FnScope ["_law_script", "_law_cell"] ["_law_script"] (defScope s_law_bag) :=
  ⟨rfl, rfl, rfl, by decide +kernel, rfl, by decide +kernel, by decide +kernel⟩
def b_law_bag : MS :=
  (fRet (fDisp gLst [(fC (.int 0)), (fC (.int 1234567891)), (fC (.int 0)), (fComp items (.ex (fSl gSlL (.sl 0) none (some (fC (.int 63))))) [1] (bindN 1) fYes (fOpN gAbs [(.sl 1)]))]))
def m_law_bag : FnM := fnM 1 b_law_bag
theorem ok_law_bag {P : Program} {w : World} {K : PySem.W.Frag} {mg : Str → Option Value} {base : Heap} {f : Addr} {fd : FuncData} (hB : Blt mg) 
    (Fn : Fun K "_law_bag" "_law_bag" s_law_bag f fd) (hm : mg "_law_bag" = some (.ref f)) (hb : L2.Binds K fd ["_law_script"] []) : Callee P w K mg base 1 "_law_bag" ["_law_script"] m_law_bag :=
  callee_mk Fn hm sc_law_bag rfl hb fun cdv A outer s H hr hg =>
  (vb_one (vs_ret (ve_lst (vz_cons ve_int (vz_cons ve_int (vz_cons ve_int (vz_cons (ve_comp [("_law_cell", 1)] walks_any (nb_name 1) rfl sc_law_bag.nd (pi_any (vo_ex (v_cut (vo_sl 0 (pv 0)) vp_none (vp_some ve_int)))) (blkOk_by (by kernel_rfl)) (fun _ _ _ _ _ => (vg_name (i := 1) sc_law_bag.nd rfl (by first | exact .inl rfl | exact .inr rfl))) (fun _ _ _ _ _ => vts_nil) (fun _ _ _ _ _ => (v_abs hB.abs (vo_sl 1 (pv 1))))) vz_nil)))))))
-- _law_take, level 1, slots 0:_law_bag_here 1:_law_many 2:_law_early 3:_law_second 4:_law_cell 5:_law_mixed 6:_law_drawn
abbrev s_law_take : Stmt := topS 6
theorem sc_law_take : FnScope ["_law_bag_here", "_law_many", "_law_early", "_law_second", "_law_cell", "_law_mixed", "_law_drawn"] ["_law_bag_here", "_law_many"] (defScope s_law_take) :=
  ⟨rfl, rfl, rfl, by decide +kernel, rfl, by decide +kernel, by decide +kernel⟩
def b_law_take : MS :=
  (fSeq (fIfS (fT (fOp2 gEq (.ex (fOp2 gSubD (.sl 0) (.ex (fC (.int 0))))) (.ex (fC (.int 0))))) (fSeq (fAsg 4 (fOp2 gSubD (.ex (fOp2 gAdd (.ex (fSl gSlL (.ex (fOp2 gSubD (.sl 0) (.ex (fC (.int 3))))) (some (fOp2 gSubD (.sl 0) (.ex (fC (.int 2))))) none)) (.ex (fDisp gLst [(fC (.int 0))])))) (.ex (fC (.int 0)))))
  (fSeq (fAugC 0 2 (gI2 fun i j => .int (i + j)) (fC (.int 1)))
  (fSeq (fSet 0 gSetL (fC (.int 0)) (fOp2 gMul (.sl 4) (.ex (fOpN gInt [(.ex (fOp2 gGe (.sl 4) (.ex (fOp2 gPow (.ex (fC (.int 10))) (.ex (fC (.int 18)))))))]))))
  (fSeq (fAsg 5 (fOp2 gAdd (.ex (fOp2 gAdd (.ex (fOp2 gMul (.ex (fOp2 gSubD (.sl 0) (.ex (fC (.int 1))))) (.ex (fC (.int 48271))))) (.ex (fOp2 gMod (.ex (fOpN gInt [(.sl 4)])) (.ex (fC (.int 2147483647))))))) (.ex (fOp2 gMul (.ex (fC (.int 7919))) (.ex (fOp2 gSubD (.sl 0) (.ex (fC (.int 2)))))))))
  (fSet 0 gSetL (fC (.int 1)) (fOp2 gMod (.ex (fOpN gInt [(.sl 5)])) (.ex (fC (.int 2147483647))))))))) fNext)
  (fSeq (fIfS (fT (fOp2 gGt (.ex (fOp2 gSubD (.sl 0) (.ex (fC (.int 0))))) (.ex (fC (.int 0))))) (fSeq (fMix 6 0 0 (fOp2 gMod (.ex (fOpN gInt [(.ex (fOp2 gSubD (.sl 0) (.ex (fC (.int 0)))))])) (.sl 1)) (fOp2 gFdiv (.ex (fOpN gInt [(.ex (fOp2 gSubD (.sl 0) (.ex (fC (.int 0)))))])) (.sl 1)))
  (fRetN 6)) fNext)
  (fSeq (fAsg 2 (fOp2 gMod (.ex (fOpN gInt [(.ex (fOp2 gMul (.ex (fOp2 gAdd (.ex (fOp2 gSubD (.sl 0) (.ex (fC (.int 1))))) (.ex (fC (.int 1))))) (.ex (fC (.int 39373)))))])) (.ex (fC (.int 1000000007)))))
  (fSeq (fAsg 3 (fOp2 gMod (.ex (fOpN gInt [(.ex (fOp2 gMul (.ex (fOp2 gMod (.ex (fOpN gInt [(.ex (fOp2 gMul (.sl 2) (.sl 2)))])) (.ex (fC (.int 998244353))))) (.ex (fC (.int 30011)))))])) (.ex (fC (.int 998244353)))))
  (fRet (fOp2 gMod (.ex (fOpN gInt [(.ex (fOp2 gFdiv (.sl 3) (.ex (fC (.int 7)))))])) (.sl 1)))))))
def m_law_take : FnM := fnM 5 b_law_take
theorem ok_law_take {P : Program} {w : World} {K : PySem.W.Frag} {mg : Str → Option Value} {base : Heap} {f : Addr} {fd : FuncData} (hB : Blt mg) 
    (Fn : Fun K "_law_take" "_law_take" s_law_take f fd) (hm : mg "_law_take" = some (.ref f)) (hb : L2.Binds K fd ["_law_bag_here", "_law_many"] []) : Callee P w K mg base 1 "_law_take" ["_law_bag_here", "_law_many"] m_law_take :=
  callee_mk Fn hm sc_law_take rfl hb fun cdv A outer s H hr hg =>
  (vb_cons (vs_if (t_eq hr (vo_ex (v_ix hr (vo_sl 0 (pv 0)) (vo_ex ve_int))) (vo_ex ve_int)) (vb_cons (vs_asg (i := 4) sc_law_take.nd rfl (by first | exact .inl rfl | exact .inr rfl) (v_ix hr (vo_ex (v_add (vo_ex (v_cut (vo_ex (v_ix hr (vo_sl 0 (pv 0)) (vo_ex ve_int))) (vp_some (v_ix hr (vo_sl 0 (pv 0)) (vo_ex ve_int))) vp_none)) (vo_ex (ve_lst (vz_cons ve_int vz_nil))))) (vo_ex ve_int)))
  (vb_cons (vs_aug (i := 0) (k := 2) (by decide) (pv 0) ve_int)
  (vb_cons (vs_set set_l set_list (v_mul (vo_sl 4 (pv 4)) (vo_ex (v_int hB.int (vo_ex (v_ge (vo_sl 4 (pv 4)) (vo_ex (v_pow (vo_ex ve_int) (vo_ex ve_int)))))))) (pv 0) ve_int)
  (vb_cons (vs_asg (i := 5) sc_law_take.nd rfl (by first | exact .inl rfl | exact .inr rfl) (v_add (vo_ex (v_add (vo_ex (v_mul (vo_ex (v_ix hr (vo_sl 0 (pv 0)) (vo_ex ve_int))) (vo_ex ve_int))) (vo_ex (v_mod (vo_ex (v_int hB.int (vo_sl 4 (pv 4)))) (vo_ex ve_int))))) (vo_ex (v_mul (vo_ex ve_int) (vo_ex (v_ix hr (vo_sl 0 (pv 0)) (vo_ex ve_int)))))))
  (vb_one (vs_set set_l set_list (v_mod (vo_ex (v_int hB.int (vo_sl 5 (pv 5)))) (vo_ex ve_int)) (pv 0) ve_int)))))) vb_nil)
  (vb_cons (vs_if (t_gt (vo_ex (v_ix hr (vo_sl 0 (pv 0)) (vo_ex ve_int))) (vo_ex ve_int)) (vb_cons (vs_mix (i := 6) (b := 0) (k := 0) rfl sc_law_take.nd rfl (by first | exact .inl rfl | exact .inr rfl) (pv 0) (v_mod (vo_ex (v_int hB.int (vo_ex (v_ix hr (vo_sl 0 (pv 0)) (vo_ex ve_int))))) (vo_sl 1 (pv 1))) (v_fdiv (vo_ex (v_int hB.int (vo_ex (v_ix hr (vo_sl 0 (pv 0)) (vo_ex ve_int))))) (vo_sl 1 (pv 1))))
  (vb_one (vs_retN 6 (pv 6)))) vb_nil)
  (vb_cons (vs_asg (i := 2) sc_law_take.nd rfl (by first | exact .inl rfl | exact .inr rfl) (v_mod (vo_ex (v_int hB.int (vo_ex (v_mul (vo_ex (v_add (vo_ex (v_ix hr (vo_sl 0 (pv 0)) (vo_ex ve_int))) (vo_ex ve_int))) (vo_ex ve_int))))) (vo_ex ve_int)))
  (vb_cons (vs_asg (i := 3) sc_law_take.nd rfl (by first | exact .inl rfl | exact .inr rfl) (v_mod (vo_ex (v_int hB.int (vo_ex (v_mul (vo_ex (v_mod (vo_ex (v_int hB.int (vo_ex (v_mul (vo_sl 2 (pv 2)) (vo_sl 2 (pv 2)))))) (vo_ex ve_int))) (vo_ex ve_int))))) (vo_ex ve_int)))
  (vb_one (vs_ret (v_mod (vo_ex (v_int hB.int (vo_ex (v_fdiv (vo_sl 3 (pv 3)) (vo_ex ve_int))))) (vo_sl 1 (pv 1)))))))))
-- _law_alike, level 1, slots 0:_law_found 1:_law_due
abbrev s_law_alike : Stmt := topS 7
theorem sc_law_alike : FnScope ["_law_found", "_law_due"] ["_law_found", "_law_due"] (defScope s_law_alike) :=
  ⟨rfl, rfl, rfl, by decide +kernel, rfl, by decide +kernel, by decide +kernel⟩
def b_law_alike : MS :=
  (fRet (fAndV (fOp2 gEq (.sl 0) (.sl 1)) (fOp2 gEq (.ex (fOpN gRepr [(.sl 0)])) (.ex (fOpN gRepr [(.sl 1)])))))
def m_law_alike : FnM := fnM 0 b_law_alike
theorem ok_law_alike {P : Program} {w : World} {K : PySem.W.Frag} {mg : Str → Option Value} {base : Heap} {f : Addr} {fd : FuncData} (hB : Blt mg) 
    (Fn : Fun K "_law_alike" "_law_alike" s_law_alike f fd) (hm : mg "_law_alike" = some (.ref f)) (hb : L2.Binds K fd ["_law_found", "_law_due"] []) : Callee P w K mg base 1 "_law_alike" ["_law_found", "_law_due"] m_law_alike :=
  callee_mk Fn hm sc_law_alike rfl hb fun cdv A outer s H hr hg =>
  (vb_one (vs_ret (ve_and (v_eq hr (vo_sl 0 (pv 0)) (vo_sl 1 (pv 1))) (ve_one (v_eq hr (vo_ex (v_repr hr hg hB.repr (vo_sl 0 (pv 0)))) (vo_ex (v_repr hr hg hB.repr (vo_sl 1 (pv 1)))))))))
-- _law_mix, level 2, slots 0:_law_bag_here 1:_law_some 2:_law_rest 3:_law_found
abbrev s_law_mix : Stmt := topS 8
theorem sc_law_mix : FnScope ["_law_bag_here", "_law_some", "_law_rest", "_law_found"] ["_law_bag_here", "_law_some"] (defScope s_law_mix) :=
  ⟨rfl, rfl, rfl, by decide +kernel, rfl, by decide +kernel, by decide +kernel⟩
def b_law_mix : MS :=
  (fSeq (fPar 2 3 (fOpN gListA [(.sl 1)]) (fDisp gLst []))
  (fSeq (whileM (fT (fOp2 gNe (.sl 2) (.ex (fDisp gLst [])))) (fExpr (fMut 3 isL gAppend [(fMut 2 isL gPopAt [(fCall m_law_take [(.sl 0), (.ex (fOpN gLenA [(.sl 2)]))])])])) fuel)
  (fRetN 3)))
def m_law_mix : FnM := fnM 2 b_law_mix
theorem ok_law_mix {P : Program} {w : World} {K : PySem.W.Frag} {mg : Str → Option Value} {base : Heap} {f : Addr} {fd : FuncData} (hB : Blt mg) (C_law_take : Callee P w K mg base 1 "_law_take" ["_law_bag_here", "_law_many"] m_law_take)
    (Fn : Fun K "_law_mix" "_law_mix" s_law_mix f fd) (hm : mg "_law_mix" = some (.ref f)) (hb : L2.Binds K fd ["_law_bag_here", "_law_some"] []) : Callee P w K mg base 2 "_law_mix" ["_law_bag_here", "_law_some"] m_law_mix :=
  callee_mk Fn hm sc_law_mix rfl hb fun cdv A outer s H hr hg =>
  (vb_cons (vs_par (i := 2) (j := 3) rfl sc_law_mix.nd rfl rfl (by decide) rfl rfl (v_list rfl hB.list (vo_sl 1 (pv 1))) (ve_lst vz_nil) (by rfl))
  (vb_cons (vs_while fuel PassesOwn.never (t_ne hr (vo_sl 2 (pv 2)) (vo_ex (ve_lst vz_nil))) (vb_one (vs_expr (v_append (pv 3) (v_popAt (pv 2) (v_call C_law_take hr hg (by decide) (va_cons (vo_sl 0 (pv 0)) (va_cons (vo_ex (v_len hB.len (vo_sl 2 (pv 2)))) va_nil))))))))
  (vb_one (vs_retN 3 (pv 3)))))
-- _law_names, level 3, slots 0:_law_bag_here 1:_law_many 2:_law_letters 3:_law_words 4:_law_stem 5:_law_way 6:_law_turn 7:_law_k
abbrev s_law_names : Stmt := topS 9
theorem sc_law_names : FnScope ["_law_bag_here", "_law_many", "_law_letters", "_law_words", "_law_stem", "_law_way", "_law_turn", "_law_k"] ["_law_bag_here", "_law_many"] (defScope s_law_names) :=
  ⟨rfl, rfl, rfl, by decide +kernel, rfl, by decide +kernel, by decide +kernel⟩
def b_law_names : MS :=
  (fSeq (fBind (bindT [5, 6]) (fDisp gTup [(fCall m_law_take [(.sl 0), (.ex (fC (.int 3)))]), (fCall m_law_take [(.sl 0), (.ex (fC (.int 26)))])]))
  (fSeq (fAsg 2 (fC (.str "abcdefghijklmnopqrstuvwxyz")))
  (fSeq (fAsg 3 (fDisp gLst [(fC (.str "better")), (fC (.str "not")), (fC (.str "things")), (fC (.str "step")), (fC (.str "say")), (fC (.str "a")), (fC (.str "aa")), (fC (.str "none")), (fC (.str "reached")), (fC (.str "open")), (fC (.str "zzzzzzzz"))]))
  (fSeq (fIfS (fT (fOp2 gEq (.sl 5) (.ex (fC (.int 0))))) (fRet (fCall m_law_mix [(.sl 0), (.ex (fSl gSlL (.ex (fOpN gListA [(.ex (fC (.str "abcdef")))])) none (some (fName 1))))])) fNext)
  (fSeq (fIfS (fT (fOp2 gEq (.sl 5) (.ex (fC (.int 1))))) (fRet (fCall m_law_mix [(.sl 0), (.ex (fSl gSlL (.ex (fSl gSlL (.ex (fOp2 gAdd (.sl 3) (.sl 3))) (some (fOp2 gMod (.ex (fOpN gInt [(.sl 6)])) (.ex (fC (.int 11))))) none)) none (some (fName 1))))])) fNext)
  (fSeq (fAsg 4 (fM1 gJoin (.ex (fC (.str ""))) (.ex (fCompN gRng1 [(.ex (fCall m_law_take [(.sl 0), (.ex (fC (.int 8)))]))] [7] (bindN 7) fYes (fOp2 gSubD (.sl 2) (.ex (fCall m_law_take [(.sl 0), (.ex (fC (.int 26)))])))))))
  (fRet (fCall m_law_mix [(.sl 0), (.ex (fCompN gRng1 [(.sl 1)] [7] (bindN 7) fYes (fOp2 gAdd (.sl 4) (.ex (fOp2 gSubD (.sl 2) (.ex (fOp2 gMod (.ex (fOpN gInt [(.ex (fOp2 gAdd (.sl 6) (.ex (fOp2 gMul (.ex (fC (.int 5))) (.sl 7)))))])) (.ex (fC (.int 26))))))))))]))))))))
def m_law_names : FnM := fnM 6 b_law_names
theorem ok_law_names {P : Program} {w : World} {K : PySem.W.Frag} {mg : Str → Option Value} {base : Heap} {f : Addr} {fd : FuncData} (hB : Blt mg) (C_law_mix : Callee P w K mg base 2 "_law_mix" ["_law_bag_here", "_law_some"] m_law_mix) (C_law_take : Callee P w K mg base 1 "_law_take" ["_law_bag_here", "_law_many"] m_law_take)
    (Fn : Fun K "_law_names" "_law_names" s_law_names f fd) (hm : mg "_law_names" = some (.ref f)) (hb : L2.Binds K fd ["_law_bag_here", "_law_many"] []) : Callee P w K mg base 3 "_law_names" ["_law_bag_here", "_law_many"] m_law_names :=
  callee_mk Fn hm sc_law_names rfl hb fun cdv A outer s H hr hg =>
  (vb_cons (vs_bind (ve_tup (vz_cons (v_call C_law_take hr hg (by decide) (va_cons (vo_sl 0 (pv 0)) (va_cons (vo_ex ve_int) va_nil))) (vz_cons (v_call C_law_take hr hg (by decide) (va_cons (vo_sl 0 (pv 0)) (va_cons (vo_ex ve_int) va_nil))) vz_nil))) (vg_tup rfl (vgs_cons (i := 5) sc_law_names.nd rfl (by first | exact .inl rfl | exact .inr rfl) (vgs_cons (i := 6) sc_law_names.nd rfl (by first | exact .inl rfl | exact .inr rfl) vgs_nil))))
  (vb_cons (vs_asg (i := 2) sc_law_names.nd rfl (by first | exact .inl rfl | exact .inr rfl) ve_str)
  (vb_cons (vs_asg (i := 3) sc_law_names.nd rfl (by first | exact .inl rfl | exact .inr rfl) (ve_lst (vz_cons ve_str (vz_cons ve_str (vz_cons ve_str (vz_cons ve_str (vz_cons ve_str (vz_cons ve_str (vz_cons ve_str (vz_cons ve_str (vz_cons ve_str (vz_cons ve_str (vz_cons ve_str vz_nil)))))))))))))
  (vb_cons (vs_if (t_eq hr (vo_sl 5 (pv 5)) (vo_ex ve_int)) (vb_one (vs_ret (v_call C_law_mix hr hg (by decide) (va_cons (vo_sl 0 (pv 0)) (va_cons (vo_ex (v_cut (vo_ex (v_list rfl hB.list (vo_ex ve_str))) vp_none (vp_some (ve_name 1 (pv 1))))) va_nil))))) vb_nil)
  (vb_cons (vs_if (t_eq hr (vo_sl 5 (pv 5)) (vo_ex ve_int)) (vb_one (vs_ret (v_call C_law_mix hr hg (by decide) (va_cons (vo_sl 0 (pv 0)) (va_cons (vo_ex (v_cut (vo_ex (v_cut (vo_ex (v_add (vo_sl 3 (pv 3)) (vo_sl 3 (pv 3)))) (vp_some (v_mod (vo_ex (v_int hB.int (vo_sl 6 (pv 6)))) (vo_ex ve_int))) vp_none)) vp_none (vp_some (ve_name 1 (pv 1))))) va_nil))))) vb_nil)
  (vb_cons (vs_asg (i := 4) sc_law_names.nd rfl (by first | exact .inl rfl | exact .inr rfl) (ve_join (vo_ex ve_str) (vo_ex (ve_compN [("_law_k", 7)] walks_rng1 (nb_name 7) rfl sc_law_names.nd (pi_range1 (by rfl) hB.range (va_cons (vo_ex (v_call C_law_take hr hg (by decide) (va_cons (vo_sl 0 (pv 0)) (va_cons (vo_ex ve_int) va_nil)))) va_nil)) (blkOk_by (by kernel_rfl)) (fun _ _ _ _ _ => (vg_name (i := 7) sc_law_names.nd rfl (by first | exact .inl rfl | exact .inr rfl))) (fun _ _ _ _ _ => vts_nil) (fun _ _ _ _ _ => (v_ix hr (vo_sl 2 (pv 2)) (vo_ex (v_call C_law_take hr hg (by decide) (va_cons (vo_sl 0 (pv 0)) (va_cons (vo_ex ve_int) va_nil))))))))))
  (vb_one (vs_ret (v_call C_law_mix hr hg (by decide) (va_cons (vo_sl 0 (pv 0)) (va_cons (vo_ex (ve_compN [("_law_k", 7)] walks_rng1 (nb_name 7) rfl sc_law_names.nd (pi_range1 (by rfl) hB.range (va_cons (vo_sl 1 (pv 1)) va_nil)) (blkOk_by (by kernel_rfl)) (fun _ _ _ _ _ => (vg_name (i := 7) sc_law_names.nd rfl (by first | exact .inl rfl | exact .inr rfl))) (fun _ _ _ _ _ => vts_nil) (fun _ _ _ _ _ => (v_add (vo_sl 4 (pv 4)) (vo_ex (v_ix hr (vo_sl 2 (pv 2)) (vo_ex (v_mod (vo_ex (v_int hB.int (vo_ex (v_add (vo_sl 6 (pv 6)) (vo_ex (v_mul (vo_ex ve_int) (vo_sl 7 (pv 7)))))))) (vo_ex ve_int))))))))) va_nil)))))))))))
-- _law_pairs, level 1, slots 0:_law_things 1:_law_found 2:_law_x 3:_law_y
abbrev s_law_pairs : Stmt := topS 10
theorem sc_law_pairs : FnScope ["_law_things", "_law_found", "_law_x", "_law_y"] ["_law_things"] (defScope s_law_pairs) :=
  ⟨rfl, rfl, rfl, by decide +kernel, rfl, by decide +kernel, by decide +kernel⟩
def b_law_pairs : MS :=
  (fSeq (fAsg 1 (fDisp gLst []))
  (fSeq (fFor items (.ex (fOpN gSorted [(.sl 0)])) (bindN 2) (fExpr (fMut 1 isL gExtend [(fComp items (.ex (fOpN gSorted [(.sl 0)])) [3] (bindN 3) (fT (fOp2 gNe (.sl 3) (.sl 2))) (fDisp gTup [(fName 2), (fName 3)]))])))
  (fRetN 1)))
def m_law_pairs : FnM := fnM 3 b_law_pairs
theorem ok_law_pairs {P : Program} {w : World} {K : PySem.W.Frag} {mg : Str → Option Value} {base : Heap} {f : Addr} {fd : FuncData} (hB : Blt mg) 
    (Fn : Fun K "_law_pairs" "_law_pairs" s_law_pairs f fd) (hm : mg "_law_pairs" = some (.ref f)) (hb : L2.Binds K fd ["_law_things"] []) : Callee P w K mg base 1 "_law_pairs" ["_law_things"] m_law_pairs :=
  callee_mk Fn hm sc_law_pairs rfl hb fun cdv A outer s H hr hg =>
  (vb_cons (vs_asg (i := 1) sc_law_pairs.nd rfl (by first | exact .inl rfl | exact .inr rfl) (ve_lst vz_nil))
  (vb_cons (vs_for walks_any PassesOwn.never rfl (pi_any (vo_ex (v_sorted hr hB.sorted (vo_sl 0 (pv 0))))) (vg_name (i := 2) sc_law_pairs.nd rfl (by first | exact .inl rfl | exact .inr rfl)) (vb_one (vs_expr (v_extend (pv 1) (ve_comp [("_law_y", 3)] walks_any (nb_name 3) rfl sc_law_pairs.nd (pi_any (vo_ex (v_sorted hr hB.sorted (vo_sl 0 (pv 0))))) (blkOk_by (by kernel_rfl)) (fun _ _ _ _ _ => (vg_name (i := 3) sc_law_pairs.nd rfl (by first | exact .inl rfl | exact .inr rfl))) (fun _ _ _ _ _ => (vts_one (t_ne hr (vo_sl 3 (pv 3)) (vo_sl 2 (pv 2))))) (fun _ _ _ _ _ => (ve_tup (vz_cons (ve_name 2 (pv 2)) (vz_cons (ve_name 3 (pv 3)) vz_nil)))))))))
  (vb_one (vs_retN 1 (pv 1)))))
-- _law_worths, level 2, slots 0:_law_bag_here 1:_law_things 2:_law_step 3:_law_wide 4:_law_thing
abbrev s_law_worths : Stmt := topS 11
theorem sc_law_worths : FnScope ["_law_bag_here", "_law_things", "_law_step", "_law_wide", "_law_thing"] ["_law_bag_here", "_law_things"] (defScope s_law_worths) :=
  ⟨rfl, rfl, rfl, by decide +kernel, rfl, by decide +kernel, by decide +kernel⟩
def b_law_worths : MS :=
  (fSeq (fAsg 2 (fOp2 gAdd (.ex (fC (.int 1))) (.ex (fCall m_law_take [(.sl 0), (.ex (fC (.int 4)))]))))
  (fSeq (fAsg 3 (fOp2 gMul (.ex (fOp2 gSubD (.ex (fDisp gLst [(fC (.int 2)), (fC (.int 3)), (fC (.int 5)), (fC (.int 9))])) (.ex (fCall m_law_take [(.sl 0), (.ex (fC (.int 4)))])))) (.sl 2)))
  (fRet (fDisp gTup [(fOpN gDictP [(.ex (fComp items (.sl 1) [4] (bindN 4) fYes (fDisp gTup [(fName 4), (fCall m_law_take [(.sl 0), (.sl 3)])])))]), (fName 2)]))))
def m_law_worths : FnM := fnM 3 b_law_worths
theorem ok_law_worths {P : Program} {w : World} {K : PySem.W.Frag} {mg : Str → Option Value} {base : Heap} {f : Addr} {fd : FuncData} (hB : Blt mg) (C_law_take : Callee P w K mg base 1 "_law_take" ["_law_bag_here", "_law_many"] m_law_take)
    (Fn : Fun K "_law_worths" "_law_worths" s_law_worths f fd) (hm : mg "_law_worths" = some (.ref f)) (hb : L2.Binds K fd ["_law_bag_here", "_law_things"] []) : Callee P w K mg base 2 "_law_worths" ["_law_bag_here", "_law_things"] m_law_worths :=
  callee_mk Fn hm sc_law_worths rfl hb fun cdv A outer s H hr hg =>
  (vb_cons (vs_asg (i := 2) sc_law_worths.nd rfl (by first | exact .inl rfl | exact .inr rfl) (v_add (vo_ex ve_int) (vo_ex (v_call C_law_take hr hg (by decide) (va_cons (vo_sl 0 (pv 0)) (va_cons (vo_ex ve_int) va_nil))))))
  (vb_cons (vs_asg (i := 3) sc_law_worths.nd rfl (by first | exact .inl rfl | exact .inr rfl) (v_mul (vo_ex (v_ix hr (vo_ex (ve_lst (vz_cons ve_int (vz_cons ve_int (vz_cons ve_int (vz_cons ve_int vz_nil)))))) (vo_ex (v_call C_law_take hr hg (by decide) (va_cons (vo_sl 0 (pv 0)) (va_cons (vo_ex ve_int) va_nil)))))) (vo_sl 2 (pv 2))))
  (vb_one (vs_ret (ve_tup (vz_cons (v_dict rfl hB.dict (vo_ex (ve_comp [("_law_thing", 4)] walks_any (nb_name 4) rfl sc_law_worths.nd (pi_any (vo_sl 1 (pv 1))) (blkOk_by (by kernel_rfl)) (fun _ _ _ _ _ => (vg_name (i := 4) sc_law_worths.nd rfl (by first | exact .inl rfl | exact .inr rfl))) (fun _ _ _ _ _ => vts_nil) (fun _ _ _ _ _ => (ve_tup (vz_cons (ve_name 4 (pv 4)) (vz_cons (v_call C_law_take hr hg (by decide) (va_cons (vo_sl 0 (pv 0)) (va_cons (vo_sl 3 (pv 3)) va_nil))) vz_nil))))))) (vz_cons (ve_name 2 (pv 2)) vz_nil)))))))
-- _law_betters, level 2, slots 0:_law_worths_here 1:_law_step 2:_law_x 3:_law_y
abbrev s_law_betters : Stmt := topS 12
theorem sc_law_betters : FnScope ["_law_worths_here", "_law_step", "_law_x", "_law_y"] ["_law_worths_here", "_law_step"] (defScope s_law_betters) :=
  ⟨rfl, rfl, rfl, by decide +kernel, rfl, by decide +kernel, by decide +kernel⟩
def b_law_betters : MS :=
  (fRet (fComp items (.ex (fCall m_law_pairs [(.ex (fOpN gListA [(.sl 0)]))])) [2, 3] (bindT [2, 3]) (fT (fOp2 gGt (.ex (fOp2 gMinus (.ex (fOp2 gSubD (.sl 0) (.sl 2))) (.ex (fOp2 gSubD (.sl 0) (.sl 3))))) (.sl 1))) (fDisp gTup [(fName 2), (fName 3)])))
def m_law_betters : FnM := fnM 2 b_law_betters
theorem ok_law_betters {P : Program} {w : World} {K : PySem.W.Frag} {mg : Str → Option Value} {base : Heap} {f : Addr} {fd : FuncData} (hB : Blt mg) (C_law_pairs : Callee P w K mg base 1 "_law_pairs" ["_law_things"] m_law_pairs)
    (Fn : Fun K "_law_betters" "_law_betters" s_law_betters f fd) (hm : mg "_law_betters" = some (.ref f)) (hb : L2.Binds K fd ["_law_worths_here", "_law_step"] []) : Callee P w K mg base 2 "_law_betters" ["_law_worths_here", "_law_step"] m_law_betters :=
  callee_mk Fn hm sc_law_betters rfl hb fun cdv A outer s H hr hg =>
  (vb_one (vs_ret (ve_comp [("_law_x", 2), ("_law_y", 3)] walks_any (nb_tup [2, 3]) rfl sc_law_betters.nd (pi_any (vo_ex (v_call C_law_pairs hr hg (by decide) (va_cons (vo_ex (v_list rfl hB.list (vo_sl 0 (pv 0)))) va_nil)))) (blkOk_by (by kernel_rfl)) (fun _ _ _ _ _ => (vg_tup rfl (vgs_cons (i := 2) sc_law_betters.nd rfl (by first | exact .inl rfl | exact .inr rfl) (vgs_cons (i := 3) sc_law_betters.nd rfl (by first | exact .inl rfl | exact .inr rfl) vgs_nil)))) (fun _ _ _ _ _ => (vts_one (t_gt (vo_ex (v_sub (vo_ex (v_ix hr (vo_sl 0 (pv 0)) (vo_sl 2 (pv 2)))) (vo_ex (v_ix hr (vo_sl 0 (pv 0)) (vo_sl 3 (pv 3)))))) (vo_sl 1 (pv 1))))) (fun _ _ _ _ _ => (ve_tup (vz_cons (ve_name 2 (pv 2)) (vz_cons (ve_name 3 (pv 3)) vz_nil)))))))
-- _law_turned, level 1, slots 0:_law_betters_here 1:_law_pair 2:_law_kept 3:_law_one
abbrev s_law_turned : Stmt := topS 13
theorem sc_law_turned : FnScope ["_law_betters_here", "_law_pair", "_law_kept", "_law_one"] ["_law_betters_here", "_law_pair"] (defScope s_law_turned) :=
  ⟨rfl, rfl, rfl, by decide +kernel, rfl, by decide +kernel, by decide +kernel⟩
def b_law_turned : MS :=
  (fSeq (fAsg 2 (fComp items (.sl 0) [3] (bindN 3) (fT (fOp2 gNe (.sl 3) (.sl 1))) (fName 3)))
  (fRet (fIf (fT (fOp2 gIn (.sl 1) (.sl 0))) (fName 2) (fOpN gSorted [(.ex (fOp2 gAdd (.sl 2) (.ex (fDisp gLst [(fName 1)]))))]))))
def m_law_turned : FnM := fnM 2 b_law_turned
theorem ok_law_turned {P : Program} {w : World} {K : PySem.W.Frag} {mg : Str → Option Value} {base : Heap} {f : Addr} {fd : FuncData} (hB : Blt mg) 
    (Fn : Fun K "_law_turned" "_law_turned" s_law_turned f fd) (hm : mg "_law_turned" = some (.ref f)) (hb : L2.Binds K fd ["_law_betters_here", "_law_pair"] []) : Callee P w K mg base 1 "_law_turned" ["_law_betters_here", "_law_pair"] m_law_turned :=
  callee_mk Fn hm sc_law_turned rfl hb fun cdv A outer s H hr hg =>
  (vb_cons (vs_setComp (i := 2) [("_law_one", 3)] walks_any (nb_name 3) rfl sc_law_turned.nd rfl rfl (sw_true rfl rfl rfl (by decide +kernel)) (pi_any (vo_sl 0 (pv 0))) (blkOk_by (by kernel_rfl)) (fun _ _ _ _ _ => (vg_name (i := 3) sc_law_turned.nd rfl (by first | exact .inl rfl | exact .inr rfl))) (fun _ _ _ _ _ => (vts_one (t_ne hr (vo_sl 3 (pv 3)) (vo_sl 1 (pv 1))))) (fun _ _ _ _ _ => (ve_name 3 (pv 3))))
  (vb_one (vs_ret (ve_if (t_in hr (vo_sl 1 (pv 1)) (vo_sl 0 (pv 0))) (ve_name 2 (pv 2)) (v_sorted hr hB.sorted (vo_ex (v_add (vo_sl 2 (pv 2)) (vo_ex (ve_lst (vz_cons (ve_name 1 (pv 1)) vz_nil))))))))))
-- _law_drawn_betters, level 3, slots 0:_law_bag_here 1:_law_things 2:_law_worths_here 3:_law_step
abbrev s_law_drawn_betters : Stmt := topS 14
theorem sc_law_drawn_betters : FnScope ["_law_bag_here", "_law_things", "_law_worths_here", "_law_step"] ["_law_bag_here", "_law_things"] (defScope s_law_drawn_betters) :=
  ⟨rfl, rfl, rfl, by decide +kernel, rfl, by decide +kernel, by decide +kernel⟩
def b_law_drawn_betters : MS :=
  (fSeq (fBind (bindT [2, 3]) (fCall m_law_worths [(.sl 0), (.sl 1)]))
  (fRet (fCall m_law_betters [(.sl 2), (.sl 3)])))
def m_law_drawn_betters : FnM := fnM 2 b_law_drawn_betters
theorem ok_law_drawn_betters {P : Program} {w : World} {K : PySem.W.Frag} {mg : Str → Option Value} {base : Heap} {f : Addr} {fd : FuncData} (hB : Blt mg) (C_law_betters : Callee P w K mg base 2 "_law_betters" ["_law_worths_here", "_law_step"] m_law_betters) (C_law_worths : Callee P w K mg base 2 "_law_worths" ["_law_bag_here", "_law_things"] m_law_worths)
    (Fn : Fun K "_law_drawn_betters" "_law_drawn_betters" s_law_drawn_betters f fd) (hm : mg "_law_drawn_betters" = some (.ref f)) (hb : L2.Binds K fd ["_law_bag_here", "_law_things"] []) : Callee P w K mg base 3 "_law_drawn_betters" ["_law_bag_here", "_law_things"] m_law_drawn_betters :=
  callee_mk Fn hm sc_law_drawn_betters rfl hb fun cdv A outer s H hr hg =>
  (vb_cons (vs_bind (v_call C_law_worths hr hg (by decide) (va_cons (vo_sl 0 (pv 0)) (va_cons (vo_sl 1 (pv 1)) va_nil))) (vg_tup rfl (vgs_cons (i := 2) sc_law_drawn_betters.nd rfl (by first | exact .inl rfl | exact .inr rfl) (vgs_cons (i := 3) sc_law_drawn_betters.nd rfl (by first | exact .inl rfl | exact .inr rfl) vgs_nil))))
  (vb_one (vs_ret (v_call C_law_betters hr hg (by decide) (va_cons (vo_sl 2 (pv 2)) (va_cons (vo_sl 3 (pv 3)) va_nil))))))
-- _law_patterns, level 1, slots 0:_law_things 1:_law_betters_here 2:_law_found 3:_law_x 4:_law_y 5:_law_z 6:_law_w 7:_law_beside 8:_law_v
abbrev s_law_patterns : Stmt := topS 15
theorem sc_law_patterns : FnScope ["_law_things", "_law_betters_here", "_law_found", "_law_x", "_law_y", "_law_z", "_law_w", "_law_beside", "_law_v"] ["_law_things", "_law_betters_here"] (defScope s_law_patterns) :=
  ⟨rfl, rfl, rfl, by decide +kernel, rfl, by decide +kernel, by decide +kernel⟩
def b_law_patterns : MS :=
  (fSeq (fAsg 2 (fDisp gLst []))
  (fSeq (fFor items (.sl 1) (bindT [3, 4]) (fFor items (.sl 1) (bindT [5, 6]) (fSeq (fIfS (fAnd (fT (fOp2 gNotIn (.ex (fDisp gTup [(fName 3), (fName 6)])) (.sl 1))) (fT (fOp2 gNotIn (.ex (fDisp gTup [(fName 5), (fName 4)])) (.sl 1)))) (fExpr (fMut 2 isL gAppend [(fDisp gTup [(fC (.str "two")), (fName 3), (fName 4), (fName 5), (fName 6)])])) fNext)
  (fIfS (fT (fOp2 gEq (.sl 5) (.sl 4))) (fSeq (fAsg 7 (fComp items (.sl 0) [8] (bindN 8) (fAnd (fT (fOp2 gNotIn (.ex (fDisp gTup [(fName 3), (fName 8)])) (.sl 1))) (fT (fOp2 gNotIn (.ex (fDisp gTup [(fName 8), (fName 6)])) (.sl 1)))) (fName 8)))
  (fExpr (fMut 2 isL gExtend [(fComp items (.sl 7) [8] (bindN 8) fYes (fDisp gTup [(fC (.str "three")), (fName 3), (fName 4), (fName 6), (fName 8)]))]))) fNext))))
  (fRet (fOpN gSorted [(.sl 2)]))))
def m_law_patterns : FnM := fnM 7 b_law_patterns
theorem ok_law_patterns {P : Program} {w : World} {K : PySem.W.Frag} {mg : Str → Option Value} {base : Heap} {f : Addr} {fd : FuncData} (hB : Blt mg) 
    (Fn : Fun K "_law_patterns" "_law_patterns" s_law_patterns f fd) (hm : mg "_law_patterns" = some (.ref f)) (hb : L2.Binds K fd ["_law_things", "_law_betters_here"] []) : Callee P w K mg base 1 "_law_patterns" ["_law_things", "_law_betters_here"] m_law_patterns :=
  callee_mk Fn hm sc_law_patterns rfl hb fun cdv A outer s H hr hg =>
  (vb_cons (vs_asg (i := 2) sc_law_patterns.nd rfl (by first | exact .inl rfl | exact .inr rfl) (ve_lst vz_nil))
  (vb_cons (vs_for walks_any PassesOwn.never rfl (pi_any (vo_sl 1 (pv 1))) (vg_tup rfl (vgs_cons (i := 3) sc_law_patterns.nd rfl (by first | exact .inl rfl | exact .inr rfl) (vgs_cons (i := 4) sc_law_patterns.nd rfl (by first | exact .inl rfl | exact .inr rfl) vgs_nil))) (vb_one (vs_for walks_any PassesOwn.never rfl (pi_any (vo_sl 1 (pv 1))) (vg_tup rfl (vgs_cons (i := 5) sc_law_patterns.nd rfl (by first | exact .inl rfl | exact .inr rfl) (vgs_cons (i := 6) sc_law_patterns.nd rfl (by first | exact .inl rfl | exact .inr rfl) vgs_nil))) (vb_cons (vs_if (PW.pt (vw_and (t_notin hr (vo_ex (ve_tup (vz_cons (ve_name 3 (pv 3)) (vz_cons (ve_name 6 (pv 6)) vz_nil)))) (vo_sl 1 (pv 1))) (vw_and1 (t_notin hr (vo_ex (ve_tup (vz_cons (ve_name 5 (pv 5)) (vz_cons (ve_name 4 (pv 4)) vz_nil)))) (vo_sl 1 (pv 1)))))) (vb_one (vs_expr (v_append (pv 2) (ve_tup (vz_cons ve_str (vz_cons (ve_name 3 (pv 3)) (vz_cons (ve_name 4 (pv 4)) (vz_cons (ve_name 5 (pv 5)) (vz_cons (ve_name 6 (pv 6)) vz_nil))))))))) vb_nil)
  (vb_one (vs_if (t_eq hr (vo_sl 5 (pv 5)) (vo_sl 4 (pv 4))) (vb_cons (vs_setComp (i := 7) [("_law_v", 8)] walks_any (nb_name 8) rfl sc_law_patterns.nd rfl rfl (sw_true rfl rfl rfl (by decide +kernel)) (pi_any (vo_sl 0 (pv 0))) (blkOk_by (by kernel_rfl)) (fun _ _ _ _ _ => (vg_name (i := 8) sc_law_patterns.nd rfl (by first | exact .inl rfl | exact .inr rfl))) (fun _ _ _ _ _ => (vts_one (PW.pt (vw_and (t_notin hr (vo_ex (ve_tup (vz_cons (ve_name 3 (pv 3)) (vz_cons (ve_name 8 (pv 8)) vz_nil)))) (vo_sl 1 (pv 1))) (vw_and1 (t_notin hr (vo_ex (ve_tup (vz_cons (ve_name 8 (pv 8)) (vz_cons (ve_name 6 (pv 6)) vz_nil)))) (vo_sl 1 (pv 1)))))))) (fun _ _ _ _ _ => (ve_name 8 (pv 8))))
  (vb_one (vs_expr (v_extend (pv 2) (ve_comp [("_law_v", 8)] walks_any (nb_name 8) rfl sc_law_patterns.nd (pi_any (vo_sl 7 (pv 7))) (blkOk_by (by kernel_rfl)) (fun _ _ _ _ _ => (vg_name (i := 8) sc_law_patterns.nd rfl (by first | exact .inl rfl | exact .inr rfl))) (fun _ _ _ _ _ => vts_nil) (fun _ _ _ _ _ => (ve_tup (vz_cons ve_str (vz_cons (ve_name 3 (pv 3)) (vz_cons (ve_name 4 (pv 4)) (vz_cons (ve_name 6 (pv 6)) (vz_cons (ve_name 8 (pv 8)) vz_nil)))))))))))) vb_nil))))))
  (vb_one (vs_ret (v_sorted hr hB.sorted (vo_sl 2 (pv 2)))))))
-- law, level 4, slots 0:_law_script 1:_law_bag_here 2:_law_turn 3:_law_things 4:_law_every 5:_law_betters_here 6:_law_again 7:_law_shown 8:_law_due 9:_law_found
abbrev s_law : Stmt := topS 16
theorem sc_law : FnScope ["_law_script", "_law_bag_here", "_law_turn", "_law_things", "_law_every", "_law_betters_here", "_law_again", "_law_shown", "_law_due", "_law_found"] ["_law_script"] (defScope s_law) :=
  ⟨rfl, rfl, rfl, by decide +kernel, rfl, by decide +kernel, by decide +kernel⟩
def b_law : MS :=
  (fSeq (fAsg 1 (fCall m_law_bag [(.sl 0)]))
  (fSeq (fIfS (fOr (fT (fOp2 gNe (.ex (fCall m_patterns_of [(.ex (fDisp gLst [])), (.ex (fDisp gLst []))])) (.ex (fDisp gLst [])))) (fT (fOp2 gNe (.ex (fCall m_patterns_of [(.ex (fDisp gLst [(fC (.str "a"))])), (.ex (fDisp gLst []))])) (.ex (fDisp gLst []))))) (fRet (fC (.bl false))) fNext)
  (fSeq (fForN gRng1 [(.ex (fC (.int 5)))] (bindN 2) (fSeq (fAsg 3 (fCall m_law_names [(.sl 1), (.ex (fOp2 gAdd (.ex (fC (.int 2))) (.ex (fCall m_law_take [(.sl 1), (.ex (fC (.int 5)))]))))]))
  (fSeq (fAsg 4 (fCall m_law_mix [(.sl 1), (.ex (fCall m_law_pairs [(.sl 3)]))]))
  (fSeq (fAsg 5 (fSl gSlL (.sl 4) none (some (fCall m_law_take [(.sl 1), (.ex (fOp2 gAdd (.ex (fOpN gLenA [(.sl 4)])) (.ex (fC (.int 1)))))]))))
  (fSeq (fIfS (fT (fOp2 gEq (.ex (fCall m_law_take [(.sl 1), (.ex (fC (.int 2)))])) (.ex (fC (.int 0))))) (fAsg 5 (fCall m_law_mix [(.sl 1), (.ex (fCall m_law_turned [(.ex (fCall m_law_drawn_betters [(.sl 1), (.sl 3)])), (.ex (fOp2 gSubD (.sl 4) (.ex (fC (.int 0)))))]))])) fNext)
  (fSeq (fPar 7 8 (fOpN gRepr [(.ex (fDisp gLst [(fName 3), (fName 5)]))]) (fCall m_law_patterns [(.sl 3), (.sl 5)]))
  (fForN gRng1 [(.ex (fC (.int 3)))] (bindN 6) (fSeq (fAsg 9 (fCall m_patterns_of [(.sl 3), (.sl 5)]))
  (fSeq (fIfS (fOr (fNot (fT (fCall m_law_alike [(.sl 9), (.sl 8)]))) (fT (fOp2 gNe (.ex (fOpN gRepr [(.ex (fDisp gLst [(fName 3), (fName 5)]))])) (.sl 7)))) (fRet (fC (.bl false))) fNext)
  (fExpr (fMut 9 isL gAppend [(fC .non)])))))))))))
  (fRet (fC (.bl true))))))
def m_law : FnM := fnM 9 b_law
theorem ok_law {P : Program} {w : World} {K : PySem.W.Frag} {mg : Str → Option Value} {base : Heap} {f : Addr} {fd : FuncData} (hB : Blt mg) (C_law_alike : Callee P w K mg base 1 "_law_alike" ["_law_found", "_law_due"] m_law_alike) (C_law_bag : Callee P w K mg base 1 "_law_bag" ["_law_script"] m_law_bag) (C_law_drawn_betters : Callee P w K mg base 3 "_law_drawn_betters" ["_law_bag_here", "_law_things"] m_law_drawn_betters) (C_law_mix : Callee P w K mg base 2 "_law_mix" ["_law_bag_here", "_law_some"] m_law_mix) (C_law_names : Callee P w K mg base 3 "_law_names" ["_law_bag_here", "_law_many"] m_law_names) (C_law_pairs : Callee P w K mg base 1 "_law_pairs" ["_law_things"] m_law_pairs) (C_law_patterns : Callee P w K mg base 1 "_law_patterns" ["_law_things", "_law_betters_here"] m_law_patterns) (C_law_take : Callee P w K mg base 1 "_law_take" ["_law_bag_here", "_law_many"] m_law_take) (C_law_turned : Callee P w K mg base 1 "_law_turned" ["_law_betters_here", "_law_pair"] m_law_turned) (C_patterns_of : Callee P w K mg base 2 "patterns_of" ["things", "betters"] m_patterns_of)
    (Fn : Fun K "law" "law" s_law f fd) : FnG P w K mg base 4 f fd ["_law_script"] (spG K 1 m_law) :=
  fn_ok Fn sc_law rfl fun cdv A outer s H hr hg =>
  (vb_cons (vs_asg (i := 1) sc_law.nd rfl (by first | exact .inl rfl | exact .inr rfl) (v_call C_law_bag hr hg (by decide) (va_cons (vo_sl 0 (pv 0)) va_nil)))
  (vb_cons (vs_if (PW.pt (vw_or (t_ne hr (vo_ex (v_call C_patterns_of hr hg (by decide) (va_cons (vo_ex (ve_lst vz_nil)) (va_cons (vo_ex (ve_lst vz_nil)) va_nil)))) (vo_ex (ve_lst vz_nil))) (vw_or1 (t_ne hr (vo_ex (v_call C_patterns_of hr hg (by decide) (va_cons (vo_ex (ve_lst (vz_cons ve_str vz_nil))) (va_cons (vo_ex (ve_lst vz_nil)) va_nil)))) (vo_ex (ve_lst vz_nil)))))) (vb_one (vs_ret ve_bl)) vb_nil)
  (vb_cons (vs_forN walks_rng1 PassesOwn.never rfl (pi_range1 (by rfl) hB.range (va_cons (vo_ex ve_int) va_nil)) (vg_name (i := 2) sc_law.nd rfl (by first | exact .inl rfl | exact .inr rfl)) (vb_cons (vs_asg (i := 3) sc_law.nd rfl (by first | exact .inl rfl | exact .inr rfl) (v_call C_law_names hr hg (by decide) (va_cons (vo_sl 1 (pv 1)) (va_cons (vo_ex (v_add (vo_ex ve_int) (vo_ex (v_call C_law_take hr hg (by decide) (va_cons (vo_sl 1 (pv 1)) (va_cons (vo_ex ve_int) va_nil)))))) va_nil))))
  (vb_cons (vs_asg (i := 4) sc_law.nd rfl (by first | exact .inl rfl | exact .inr rfl) (v_call C_law_mix hr hg (by decide) (va_cons (vo_sl 1 (pv 1)) (va_cons (vo_ex (v_call C_law_pairs hr hg (by decide) (va_cons (vo_sl 3 (pv 3)) va_nil))) va_nil))))
  (vb_cons (vs_asg (i := 5) sc_law.nd rfl (by first | exact .inl rfl | exact .inr rfl) (v_cut (vo_sl 4 (pv 4)) vp_none (vp_some (v_call C_law_take hr hg (by decide) (va_cons (vo_sl 1 (pv 1)) (va_cons (vo_ex (v_add (vo_ex (v_len hB.len (vo_sl 4 (pv 4)))) (vo_ex ve_int))) va_nil))))))
  (vb_cons (vs_if (t_eq hr (vo_ex (v_call C_law_take hr hg (by decide) (va_cons (vo_sl 1 (pv 1)) (va_cons (vo_ex ve_int) va_nil)))) (vo_ex ve_int)) (vb_one (vs_asg (i := 5) sc_law.nd rfl (by first | exact .inl rfl | exact .inr rfl) (v_call C_law_mix hr hg (by decide) (va_cons (vo_sl 1 (pv 1)) (va_cons (vo_ex (v_call C_law_turned hr hg (by decide) (va_cons (vo_ex (v_call C_law_drawn_betters hr hg (by decide) (va_cons (vo_sl 1 (pv 1)) (va_cons (vo_sl 3 (pv 3)) va_nil)))) (va_cons (vo_ex (v_ix hr (vo_sl 4 (pv 4)) (vo_ex ve_int))) va_nil)))) va_nil))))) vb_nil)
  (vb_cons (vs_par (i := 7) (j := 8) rfl sc_law.nd rfl rfl (by decide) rfl rfl (v_repr hr hg hB.repr (vo_ex (ve_lst (vz_cons (ve_name 3 (pv 3)) (vz_cons (ve_name 5 (pv 5)) vz_nil))))) (v_call C_law_patterns hr hg (by decide) (va_cons (vo_sl 3 (pv 3)) (va_cons (vo_sl 5 (pv 5)) va_nil))) (by rfl))
  (vb_one (vs_forN walks_rng1 PassesOwn.never rfl (pi_range1 (by rfl) hB.range (va_cons (vo_ex ve_int) va_nil)) (vg_name (i := 6) sc_law.nd rfl (by first | exact .inl rfl | exact .inr rfl)) (vb_cons (vs_asg (i := 9) sc_law.nd rfl (by first | exact .inl rfl | exact .inr rfl) (v_call C_patterns_of hr hg (by decide) (va_cons (vo_sl 3 (pv 3)) (va_cons (vo_sl 5 (pv 5)) va_nil))))
  (vb_cons (vs_if (PW.pt (vw_or (vt_not (vt_val (v_call C_law_alike hr hg (by decide) (va_cons (vo_sl 9 (pv 9)) (va_cons (vo_sl 8 (pv 8)) va_nil))))) (vw_or1 (t_ne hr (vo_ex (v_repr hr hg hB.repr (vo_ex (ve_lst (vz_cons (ve_name 3 (pv 3)) (vz_cons (ve_name 5 (pv 5)) vz_nil)))))) (vo_sl 7 (pv 7)))))) (vb_one (vs_ret ve_bl)) vb_nil)
  (vb_one (vs_expr (v_append (pv 9) ve_non)))))))))))))
  (vb_one (vs_ret ve_bl)))))
theorem all_mk {l : PySem.W.OpenLaw} {w : World} {K : PySem.W.Frag} {h : Heap} {mg : Str → Option Value} {fa : Addr} (X : K.In h) (G : h.Ns mainGlobals mg) (hfa : mg "law" = some (.ref fa))
    {f0 : Addr} {od0 an0 : Option Addr} {sl0 : Array (Option Value)} {oc0 kV0 dc0 pm0 cd0 ct0 : Value}
    (a0 : PySem.W.nsIn K mainGlobals "twos" = some (some (.ref f0))) (l0 : K.lookup f0 = some ⟨oc0, od0, .func (PySem.W.fnOf "twos" "twos" (defArgs s_twos) (defBody s_twos) (defScope s_twos) .none kV0 dc0 pm0 an0 cd0 ct0), sl0⟩) (c0 : PySem.W.codeIn K cd0 "twos" = true) (k0 : PySem.W.keepIn K (.ref f0) = true)
    {f1 : Addr} {od1 an1 : Option Addr} {sl1 : Array (Option Value)} {oc1 kV1 dc1 pm1 cd1 ct1 : Value}
    (a1 : PySem.W.nsIn K mainGlobals "threes" = some (some (.ref f1))) (l1 : K.lookup f1 = some ⟨oc1, od1, .func (PySem.W.fnOf "threes" "threes" (defArgs s_threes) (defBody s_threes) (defScope s_threes) .none kV1 dc1 pm1 an1 cd1 ct1), sl1⟩) (c1 : PySem.W.codeIn K cd1 "threes" = true) (k1 : PySem.W.keepIn K (.ref f1) = true)
    {f2 : Addr} {od2 an2 : Option Addr} {sl2 : Array (Option Value)} {oc2 kV2 dc2 pm2 cd2 ct2 : Value}
    (a2 : PySem.W.nsIn K mainGlobals "patterns_of" = some (some (.ref f2))) (l2 : K.lookup f2 = some ⟨oc2, od2, .func (PySem.W.fnOf "patterns_of" "patterns_of" (defArgs s_patterns_of) (defBody s_patterns_of) (defScope s_patterns_of) .none kV2 dc2 pm2 an2 cd2 ct2), sl2⟩) (c2 : PySem.W.codeIn K cd2 "patterns_of" = true) (k2 : PySem.W.keepIn K (.ref f2) = true)
    {f3 : Addr} {od3 an3 : Option Addr} {sl3 : Array (Option Value)} {oc3 kV3 dc3 pm3 cd3 ct3 : Value}
    (a3 : PySem.W.nsIn K mainGlobals "_law_bag" = some (some (.ref f3))) (l3 : K.lookup f3 = some ⟨oc3, od3, .func (PySem.W.fnOf "_law_bag" "_law_bag" (defArgs s_law_bag) (defBody s_law_bag) (defScope s_law_bag) .none kV3 dc3 pm3 an3 cd3 ct3), sl3⟩) (c3 : PySem.W.codeIn K cd3 "_law_bag" = true) (k3 : PySem.W.keepIn K (.ref f3) = true)
    {f4 : Addr} {od4 an4 : Option Addr} {sl4 : Array (Option Value)} {oc4 kV4 dc4 pm4 cd4 ct4 : Value}
    (a4 : PySem.W.nsIn K mainGlobals "_law_take" = some (some (.ref f4))) (l4 : K.lookup f4 = some ⟨oc4, od4, .func (PySem.W.fnOf "_law_take" "_law_take" (defArgs s_law_take) (defBody s_law_take) (defScope s_law_take) .none kV4 dc4 pm4 an4 cd4 ct4), sl4⟩) (c4 : PySem.W.codeIn K cd4 "_law_take" = true) (k4 : PySem.W.keepIn K (.ref f4) = true)
    {f5 : Addr} {od5 an5 : Option Addr} {sl5 : Array (Option Value)} {oc5 kV5 dc5 pm5 cd5 ct5 : Value}
    (a5 : PySem.W.nsIn K mainGlobals "_law_alike" = some (some (.ref f5))) (l5 : K.lookup f5 = some ⟨oc5, od5, .func (PySem.W.fnOf "_law_alike" "_law_alike" (defArgs s_law_alike) (defBody s_law_alike) (defScope s_law_alike) .none kV5 dc5 pm5 an5 cd5 ct5), sl5⟩) (c5 : PySem.W.codeIn K cd5 "_law_alike" = true) (k5 : PySem.W.keepIn K (.ref f5) = true)
    {f6 : Addr} {od6 an6 : Option Addr} {sl6 : Array (Option Value)} {oc6 kV6 dc6 pm6 cd6 ct6 : Value}
    (a6 : PySem.W.nsIn K mainGlobals "_law_mix" = some (some (.ref f6))) (l6 : K.lookup f6 = some ⟨oc6, od6, .func (PySem.W.fnOf "_law_mix" "_law_mix" (defArgs s_law_mix) (defBody s_law_mix) (defScope s_law_mix) .none kV6 dc6 pm6 an6 cd6 ct6), sl6⟩) (c6 : PySem.W.codeIn K cd6 "_law_mix" = true) (k6 : PySem.W.keepIn K (.ref f6) = true)
    {f7 : Addr} {od7 an7 : Option Addr} {sl7 : Array (Option Value)} {oc7 kV7 dc7 pm7 cd7 ct7 : Value}
    (a7 : PySem.W.nsIn K mainGlobals "_law_names" = some (some (.ref f7))) (l7 : K.lookup f7 = some ⟨oc7, od7, .func (PySem.W.fnOf "_law_names" "_law_names" (defArgs s_law_names) (defBody s_law_names) (defScope s_law_names) .none kV7 dc7 pm7 an7 cd7 ct7), sl7⟩) (c7 : PySem.W.codeIn K cd7 "_law_names" = true) (k7 : PySem.W.keepIn K (.ref f7) = true)
    {f8 : Addr} {od8 an8 : Option Addr} {sl8 : Array (Option Value)} {oc8 kV8 dc8 pm8 cd8 ct8 : Value}
    (a8 : PySem.W.nsIn K mainGlobals "_law_pairs" = some (some (.ref f8))) (l8 : K.lookup f8 = some ⟨oc8, od8, .func (PySem.W.fnOf "_law_pairs" "_law_pairs" (defArgs s_law_pairs) (defBody s_law_pairs) (defScope s_law_pairs) .none kV8 dc8 pm8 an8 cd8 ct8), sl8⟩) (c8 : PySem.W.codeIn K cd8 "_law_pairs" = true) (k8 : PySem.W.keepIn K (.ref f8) = true)
    {f9 : Addr} {od9 an9 : Option Addr} {sl9 : Array (Option Value)} {oc9 kV9 dc9 pm9 cd9 ct9 : Value}
    (a9 : PySem.W.nsIn K mainGlobals "_law_worths" = some (some (.ref f9))) (l9 : K.lookup f9 = some ⟨oc9, od9, .func (PySem.W.fnOf "_law_worths" "_law_worths" (defArgs s_law_worths) (defBody s_law_worths) (defScope s_law_worths) .none kV9 dc9 pm9 an9 cd9 ct9), sl9⟩) (c9 : PySem.W.codeIn K cd9 "_law_worths" = true) (k9 : PySem.W.keepIn K (.ref f9) = true)
    {f10 : Addr} {od10 an10 : Option Addr} {sl10 : Array (Option Value)} {oc10 kV10 dc10 pm10 cd10 ct10 : Value}
    (a10 : PySem.W.nsIn K mainGlobals "_law_betters" = some (some (.ref f10))) (l10 : K.lookup f10 = some ⟨oc10, od10, .func (PySem.W.fnOf "_law_betters" "_law_betters" (defArgs s_law_betters) (defBody s_law_betters) (defScope s_law_betters) .none kV10 dc10 pm10 an10 cd10 ct10), sl10⟩) (c10 : PySem.W.codeIn K cd10 "_law_betters" = true) (k10 : PySem.W.keepIn K (.ref f10) = true)
    {f11 : Addr} {od11 an11 : Option Addr} {sl11 : Array (Option Value)} {oc11 kV11 dc11 pm11 cd11 ct11 : Value}
    (a11 : PySem.W.nsIn K mainGlobals "_law_turned" = some (some (.ref f11))) (l11 : K.lookup f11 = some ⟨oc11, od11, .func (PySem.W.fnOf "_law_turned" "_law_turned" (defArgs s_law_turned) (defBody s_law_turned) (defScope s_law_turned) .none kV11 dc11 pm11 an11 cd11 ct11), sl11⟩) (c11 : PySem.W.codeIn K cd11 "_law_turned" = true) (k11 : PySem.W.keepIn K (.ref f11) = true)
    {f12 : Addr} {od12 an12 : Option Addr} {sl12 : Array (Option Value)} {oc12 kV12 dc12 pm12 cd12 ct12 : Value}
    (a12 : PySem.W.nsIn K mainGlobals "_law_drawn_betters" = some (some (.ref f12))) (l12 : K.lookup f12 = some ⟨oc12, od12, .func (PySem.W.fnOf "_law_drawn_betters" "_law_drawn_betters" (defArgs s_law_drawn_betters) (defBody s_law_drawn_betters) (defScope s_law_drawn_betters) .none kV12 dc12 pm12 an12 cd12 ct12), sl12⟩) (c12 : PySem.W.codeIn K cd12 "_law_drawn_betters" = true) (k12 : PySem.W.keepIn K (.ref f12) = true)
    {f13 : Addr} {od13 an13 : Option Addr} {sl13 : Array (Option Value)} {oc13 kV13 dc13 pm13 cd13 ct13 : Value}
    (a13 : PySem.W.nsIn K mainGlobals "_law_patterns" = some (some (.ref f13))) (l13 : K.lookup f13 = some ⟨oc13, od13, .func (PySem.W.fnOf "_law_patterns" "_law_patterns" (defArgs s_law_patterns) (defBody s_law_patterns) (defScope s_law_patterns) .none kV13 dc13 pm13 an13 cd13 ct13), sl13⟩) (c13 : PySem.W.codeIn K cd13 "_law_patterns" = true) (k13 : PySem.W.keepIn K (.ref f13) = true)
    {f14 : Addr} {od14 an14 : Option Addr} {sl14 : Array (Option Value)} {oc14 kV14 dc14 pm14 cd14 ct14 : Value}
    (a14 : PySem.W.nsIn K mainGlobals "law" = some (some (.ref f14))) (l14 : K.lookup f14 = some ⟨oc14, od14, .func (PySem.W.fnOf "law" "law" (defArgs s_law) (defBody s_law) (defScope s_law) .none kV14 dc14 pm14 an14 cd14 ct14), sl14⟩) (c14 : PySem.W.codeIn K cd14 "law" = true) (k14 : PySem.W.keepIn K (.ref f14) = true)
    (z_abs : PySem.W.nsIn K mainGlobals "abs" = some none)
    (z_dict : PySem.W.nsIn K mainGlobals "dict" = some none)
    (z_int : PySem.W.nsIn K mainGlobals "int" = some none)
    (z_len : PySem.W.nsIn K mainGlobals "len" = some none)
    (z_list : PySem.W.nsIn K mainGlobals "list" = some none)
    (z_range : PySem.W.nsIn K mainGlobals "range" = some none)
    (z_repr : PySem.W.nsIn K mainGlobals "repr" = some none)
    (z_sorted : PySem.W.nsIn K mainGlobals "sorted" = some none) :
    ∃ fd : FuncData, (∀ (s : Shared) (v : Value), BindsTo s fd ⟨[v], []⟩ [("_law_script", v)]) ∧ ∀ base : Heap, K.In base → base.Ns mainGlobals mg → FnG l.prog w K mg base 4 fa fd ["_law_script"] (spG K 1 m_law) := by
  have e := hfa.symm.trans (PySem.W.mg_of X G a14)
  cases e
  have hB : Blt mg := ⟨PySem.W.mg_none_of X G z_abs, PySem.W.mg_none_of X G z_dict, PySem.W.mg_none_of X G z_int, PySem.W.mg_none_of X G z_len, PySem.W.mg_none_of X G z_list, PySem.W.mg_none_of X G z_range, PySem.W.mg_none_of X G z_repr, PySem.W.mg_none_of X G z_sorted⟩
  refine ⟨PySem.W.fnOf "law" "law" (defArgs s_law) (defBody s_law) (defScope s_law) .none kV14 dc14 pm14 an14 cd14 ct14, fun s v => .of_eq rfl, fun base _ _ => ?_⟩
  have F0 := fun_mk (st := s_twos) l0 c0 k0
  have B0 := F0.binds (ps := ["betters"]) fun _ _ _ _ _ _ us hl => match us, hl with | [_], _ => rfl
  have C_twos : Callee l.prog w K mg base 1 "twos" ["betters"] m_twos := ok_twos hB  F0 (PySem.W.mg_of X G a0) B0
  have F1 := fun_mk (st := s_threes) l1 c1 k1
  have B1 := F1.binds (ps := ["things", "betters"]) fun _ _ _ _ _ _ us hl => match us, hl with | [_, _], _ => rfl
  have C_threes : Callee l.prog w K mg base 1 "threes" ["things", "betters"] m_threes := ok_threes hB  F1 (PySem.W.mg_of X G a1) B1
  have F2 := fun_mk (st := s_patterns_of) l2 c2 k2
  have B2 := F2.binds (ps := ["things", "betters"]) fun _ _ _ _ _ _ us hl => match us, hl with | [_, _], _ => rfl
  have C_patterns_of : Callee l.prog w K mg base 2 "patterns_of" ["things", "betters"] m_patterns_of := ok_patterns_of hB C_threes C_twos F2 (PySem.W.mg_of X G a2) B2
  have F3 := fun_mk (st := s_law_bag) l3 c3 k3
  have B3 := F3.binds (ps := ["_law_script"]) fun _ _ _ _ _ _ us hl => match us, hl with | [_], _ => rfl
  have C_law_bag : Callee l.prog w K mg base 1 "_law_bag" ["_law_script"] m_law_bag := ok_law_bag hB  F3 (PySem.W.mg_of X G a3) B3
  have F4 := fun_mk (st := s_law_take) l4 c4 k4
  have B4 := F4.binds (ps := ["_law_bag_here", "_law_many"]) fun _ _ _ _ _ _ us hl => match us, hl with | [_, _], _ => rfl
  have C_law_take : Callee l.prog w K mg base 1 "_law_take" ["_law_bag_here", "_law_many"] m_law_take := ok_law_take hB  F4 (PySem.W.mg_of X G a4) B4
  have F5 := fun_mk (st := s_law_alike) l5 c5 k5
  have B5 := F5.binds (ps := ["_law_found", "_law_due"]) fun _ _ _ _ _ _ us hl => match us, hl with | [_, _], _ => rfl
  have C_law_alike : Callee l.prog w K mg base 1 "_law_alike" ["_law_found", "_law_due"] m_law_alike := ok_law_alike hB  F5 (PySem.W.mg_of X G a5) B5
  have F6 := fun_mk (st := s_law_mix) l6 c6 k6
  have B6 := F6.binds (ps := ["_law_bag_here", "_law_some"]) fun _ _ _ _ _ _ us hl => match us, hl with | [_, _], _ => rfl
  have C_law_mix : Callee l.prog w K mg base 2 "_law_mix" ["_law_bag_here", "_law_some"] m_law_mix := ok_law_mix hB C_law_take F6 (PySem.W.mg_of X G a6) B6
  have F7 := fun_mk (st := s_law_names) l7 c7 k7
  have B7 := F7.binds (ps := ["_law_bag_here", "_law_many"]) fun _ _ _ _ _ _ us hl => match us, hl with | [_, _], _ => rfl
  have C_law_names : Callee l.prog w K mg base 3 "_law_names" ["_law_bag_here", "_law_many"] m_law_names := ok_law_names hB C_law_mix C_law_take F7 (PySem.W.mg_of X G a7) B7
  have F8 := fun_mk (st := s_law_pairs) l8 c8 k8
  have B8 := F8.binds (ps := ["_law_things"]) fun _ _ _ _ _ _ us hl => match us, hl with | [_], _ => rfl
  have C_law_pairs : Callee l.prog w K mg base 1 "_law_pairs" ["_law_things"] m_law_pairs := ok_law_pairs hB  F8 (PySem.W.mg_of X G a8) B8
  have F9 := fun_mk (st := s_law_worths) l9 c9 k9
  have B9 := F9.binds (ps := ["_law_bag_here", "_law_things"]) fun _ _ _ _ _ _ us hl => match us, hl with | [_, _], _ => rfl
  have C_law_worths : Callee l.prog w K mg base 2 "_law_worths" ["_law_bag_here", "_law_things"] m_law_worths := ok_law_worths hB C_law_take F9 (PySem.W.mg_of X G a9) B9
  have F10 := fun_mk (st := s_law_betters) l10 c10 k10
  have B10 := F10.binds (ps := ["_law_worths_here", "_law_step"]) fun _ _ _ _ _ _ us hl => match us, hl with | [_, _], _ => rfl
  have C_law_betters : Callee l.prog w K mg base 2 "_law_betters" ["_law_worths_here", "_law_step"] m_law_betters := ok_law_betters hB C_law_pairs F10 (PySem.W.mg_of X G a10) B10
  have F11 := fun_mk (st := s_law_turned) l11 c11 k11
  have B11 := F11.binds (ps := ["_law_betters_here", "_law_pair"]) fun _ _ _ _ _ _ us hl => match us, hl with | [_, _], _ => rfl
  have C_law_turned : Callee l.prog w K mg base 1 "_law_turned" ["_law_betters_here", "_law_pair"] m_law_turned := ok_law_turned hB  F11 (PySem.W.mg_of X G a11) B11
  have F12 := fun_mk (st := s_law_drawn_betters) l12 c12 k12
  have B12 := F12.binds (ps := ["_law_bag_here", "_law_things"]) fun _ _ _ _ _ _ us hl => match us, hl with | [_, _], _ => rfl
  have C_law_drawn_betters : Callee l.prog w K mg base 3 "_law_drawn_betters" ["_law_bag_here", "_law_things"] m_law_drawn_betters := ok_law_drawn_betters hB C_law_betters C_law_worths F12 (PySem.W.mg_of X G a12) B12
  have F13 := fun_mk (st := s_law_patterns) l13 c13 k13
  have B13 := F13.binds (ps := ["_law_things", "_law_betters_here"]) fun _ _ _ _ _ _ us hl => match us, hl with | [_, _], _ => rfl
  have C_law_patterns : Callee l.prog w K mg base 1 "_law_patterns" ["_law_things", "_law_betters_here"] m_law_patterns := ok_law_patterns hB  F13 (PySem.W.mg_of X G a13) B13
  have F14 := fun_mk (st := s_law) l14 c14 k14
  have B14 := F14.binds (ps := ["_law_script"]) fun _ _ _ _ _ _ us hl => match us, hl with | [_], _ => rfl
  exact ok_law hB C_law_alike C_law_bag C_law_drawn_betters C_law_mix C_law_names C_law_pairs C_law_patterns C_law_take C_law_turned C_patterns_of F14
end VI

namespace VI
open PySem PySem.Spec PyProof.Rows L2
/-! ### the bag -/
def bagD (r m k : Int) (cells : List D) : D := .lst [.int r, .int m, .int k, .lst cells]
def Cells (cells : List D) : Prop := ∀ d ∈ cells, ∃ c : Int, 0 ≤ c ∧ d = .int c
def BagOk (b : D) : Prop := ∃ r m k cells, b = bagD r m k cells ∧ 0 ≤ r ∧ Cells cells ∧ cells.length ≤ 1000000
theorem cut_len (xs : List D) (lo hi : Option Int) : (cutD xs lo hi).length ≤ xs.length := by
  unfold cutD; rw [List.length_take, List.length_drop]; omega
theorem cell_ex {cells : List D} (h : Cells cells) (k : Int) : ∃ c : Int, 0 ≤ c ∧ atI (cutD cells (some k) none ++ [.int 0]) 0 = some (.int c) := by
  have key : ∀ l : List D, Cells l → ∃ c : Int, 0 ≤ c ∧ atI (l ++ [.int 0]) 0 = some (.int c) := by
    intro l hl
    cases l with
    | nil => exact ⟨0, Int.le_refl 0, rfl⟩
    | cons d l =>
      obtain ⟨c, hc, rfl⟩ := hl d List.mem_cons_self
      exact ⟨c, hc, atI_nat (j := 0) rfl⟩
  exact key _ fun d hd => h d (List.mem_of_mem_drop (List.mem_of_mem_take hd))
/-- a draw -/
theorem take_w {b : D} {many : Int} (hb : BagOk b) (h1 : 0 < many) (h2 : many < 1073741824) {Q : Sl → List Sl → Prop}
    (q : ∀ t b', 0 ≤ t → t < many → BagOk b' → Q ⟨.fz, .int t⟩ [⟨.par, b'⟩, ⟨.fz, .int many⟩]) : wM m_law_take [⟨.par, b⟩, ⟨.fz, .int many⟩] Q := by
  obtain ⟨r, m, k, cells, rfl, hr, hc, hz⟩ := hb
  have hm0 : many ≠ 0 := by omega
  have hma : many.natAbs < 1073741824 := by omega
  rw [m_law_take, w_fn, b_law_take]
  simp only [List.map_cons, List.map_nil, List.cons_append, List.nil_append, List.replicate_succ, List.replicate_zero]
  rw [w_seq]
  refine wS_mono (QS := fun fl ρ => fl = .nx ∧ ∃ r m k x4 x5, 0 ≤ r ∧ ρ = [some ⟨.par, bagD r m k cells⟩, some ⟨.fz, .int many⟩, none, none, x4, x5, none]) ?_ ?_
  · by_cases h0 : r = 0
    · subst h0
      obtain ⟨c, c0, ec⟩ := cell_ex hc k
      have e1 : ∀ x : Int, CMul x 48271 := fun x => .inr ⟨by decide, by decide⟩
      have e2 : ∀ x : Int, CMul 7919 x := fun x => .inl ⟨by decide, by decide⟩
      have e3 : ∀ x : Int, ∀ p : Prop, ∀ _ : Decidable p, CMul x (if p then 1 else 0) := fun x p _ => .inr (by split <;> exact ⟨by decide, by decide⟩)
      have e4 : CPow 10 18 := ⟨by decide, by decide, by decide⟩
      have e5 : (cutD cells (some k) none).length + 1 ≤ 16777216 := by
        have := cut_len cells (some k) none
        omega
      simp [bagD, ok_int, eqD_int, free, e1, e2, e3, e4, e5, ec, -Int.reducePow]
      split
      · omega
      · omega
    · simp [bagD, ok_int, eqD_int, h0, hr]
  · rintro fl ρ ⟨rfl, r, m, k, x4, x5, hr, rfl⟩
    by_cases h0 : 0 < r
    · have n1 := Int.fmod_nonneg_of_pos r h1
      have n2 := Int.fmod_lt_of_pos r h1
      have := q (r.fmod many) (bagD (r.fdiv many) m k cells) n1 n2 ⟨_, _, _, _, rfl, Int.fdiv_nonneg hr (Int.le_of_lt h1), hc, hz⟩
      simp [bagD, h0, hm0, CDivN, hma, free, outs]
      exact this
    · have e1 : ∀ x : Int, CMul x 39373 := fun x => .inr ⟨by decide, by decide⟩
      have e2 : ∀ x : Int, CMul (x.fmod 1000000007) (x.fmod 1000000007) := fun x => by
        have a := Int.fmod_nonneg_of_pos x (show (0 : Int) < 1000000007 by decide)
        have b := Int.fmod_lt_of_pos x (show (0 : Int) < 1000000007 by decide)
        exact .inl ⟨by omega, by omega⟩
      have e3 : ∀ x : Int, CMul x 30011 := fun x => .inr ⟨by decide, by decide⟩
      have e4 : ∀ x : Int, CDivN x 7 := fun x => ⟨by decide, by decide⟩
      simp [bagD, h0, hm0, free, outs, e1, e2, e3, e4]
      exact q _ _ (Int.fmod_nonneg_of_pos _ h1) (Int.fmod_lt_of_pos _ h1) ⟨_, _, _, _, rfl, hr, hc, hz⟩
end VI

namespace VI
open PySem PySem.Spec PyProof.Rows L2
/-! ### plain data -/
def Fine (n : Nat) (d : D) : Prop := d.pure = true ∧ d.py.canLay0 = true ∧ d.py.depth ≤ n
theorem canLayAll_iff : ∀ xs : List PyData, PyData.canLayAll0 xs = true ↔ ∀ x ∈ xs, x.canLay0 = true
  | [] => by simp [PyData.canLayAll0]
  | x :: xs => by simp [PyData.canLayAll0, canLayAll_iff xs]
theorem depthAll_iff (n : Nat) : ∀ xs : List PyData, PyData.depthAll xs ≤ n ↔ ∀ x ∈ xs, x.depth ≤ n
  | [] => by simp [PyData.depthAll]
  | x :: xs => by rw [PyData.depthAll, Nat.max_le, depthAll_iff n xs]; simp
theorem fine_lst {n : Nat} {xs : List D} : Fine (n + 1) (.lst xs) ↔ ∀ x ∈ xs, Fine n x := by
  unfold Fine
  rw [D.pure, D.py, PyData.canLay0, PyData.depth, pureL_all, pyL_map, canLayAll_iff, Nat.add_le_add_iff_right, depthAll_iff]
  simp only [List.all_eq_true, List.mem_map, forall_exists_index, and_imp, forall_apply_eq_imp_iff₂]
  exact ⟨fun ⟨a, b, c⟩ x hx => ⟨a x hx, b x hx, c x hx⟩, fun h => ⟨fun x hx => (h x hx).1, fun x hx => (h x hx).2.1, fun x hx => (h x hx).2.2⟩⟩
theorem fine_tup {n : Nat} {xs : List D} : Fine (n + 1) (.tup xs) ↔ ∀ x ∈ xs, Fine n x := by
  unfold Fine
  rw [D.pure, D.py, PyData.canLay0, PyData.depth, pureL_all, pyL_map, canLayAll_iff, Nat.add_le_add_iff_right, depthAll_iff]
  simp only [List.all_eq_true, List.mem_map, forall_exists_index, and_imp, forall_apply_eq_imp_iff₂]
  exact ⟨fun ⟨a, b, c⟩ x hx => ⟨a x hx, b x hx, c x hx⟩, fun h => ⟨fun x hx => (h x hx).1, fun x hx => (h x hx).2.1, fun x hx => (h x hx).2.2⟩⟩
theorem fine_str {n : Nat} {x : Str} : Fine n (.str x) ↔ PyData.strOk x = true := by
  unfold Fine; simp [D.pure, D.py, PyData.canLay0, PyData.depth]
theorem Fine.ok {n : Nat} {d : D} (h : Fine n d) (hn : n ≤ 64) : d.ok = true := by
  unfold D.ok SeqAt.shaped
  rw [h.1, h.2.1]
  have := h.2.2
  simp; omega
theorem Fine.mono {n m : Nat} {d : D} (h : Fine n d) (hn : n ≤ m) : Fine m d := ⟨h.1, h.2.1, Nat.le_trans h.2.2 hn⟩
theorem ok_lst {xs : List D} {n : Nat} (h : ∀ x ∈ xs, Fine n x) (hn : n ≤ 63) : (D.lst xs).ok = true := (fine_lst.mpr h).ok (by omega)
theorem eqD_nil (xs : List D) : eqD (.lst xs) (.lst []) = xs.isEmpty := by
  cases xs <;> simp [eqD, D.py, pyL, PyData.eqv, PyData.eqvAll]
theorem ok_nil : (D.lst []).ok = true := ok_lst (n := 0) (by simp) (by decide)
theorem erase_perm : ∀ (l : List D) (i : Nat) (h : i < l.length), (l[i] :: l.eraseIdx i).Perm l
  | [], i, h => absurd h (Nat.not_lt_zero _)
  | x :: l, 0, h => .refl _
  | x :: l, i + 1, h => by
    have := erase_perm l i (by simpa using h)
    simp only [List.getElem_cons_succ, List.eraseIdx_cons_succ]
    exact (List.Perm.swap x _ _).trans (this.cons x)
/-! ### what a mix is -/
theorem mix_w {b : D} {xs : List D} (hb : BagOk b) (hx : ∀ x ∈ xs, Fine 9 x) (hn : xs.length ≤ 90000) {Q : Sl → List Sl → Prop}
    (q : ∀ ys b', ys.Perm xs → BagOk b' → Q ⟨.own, .lst ys⟩ [⟨.par, b'⟩, ⟨.fz, .lst xs⟩]) : wM m_law_mix [⟨.par, b⟩, ⟨.fz, .lst xs⟩] Q := by
  rw [m_law_mix, w_fn, b_law_mix]
  simp only [List.map_cons, List.map_nil, List.cons_append, List.nil_append, List.replicate_succ, List.replicate_zero]
  rw [w_seq]
  simp [free]
  refine w_while (fun n ρ => ∃ b ys rest, BagOk b ∧ (ys ++ rest).Perm xs ∧ rest.length = n ∧ ρ = [some ⟨.par, b⟩, some ⟨.fz, .lst xs⟩, some ⟨.own, .lst rest⟩, some ⟨.own, .lst ys⟩]) (m := xs.length) (by unfold fuel; omega) ⟨b, [], xs, hb, by simp, rfl, rfl⟩ ?_
  rintro n ρ ⟨b, ys, rest, hb, hp, rfl, rfl⟩
  have hm : ∀ x ∈ rest, Fine 9 x := fun x h => hx x (hp.mem_iff.mp (by simp [h]))
  have hl : ys.length + rest.length = xs.length := by rw [← hp.length_eq, List.length_append]
  simp [ok_lst hm (by decide), ok_nil, eqD_nil]
  cases rest with
  | nil =>
    simp
    exact q _ _ (by simpa using hp) hb
  | cons r0 rest =>
    simp [nodupS]
    refine take_w hb (by omega) (by simp at hl; omega) fun t b' t0 t1 hb' => ?_
    have e : ixN (rest.length + 1) t = some t.toNat := by
      unfold ixN
      rw [if_pos t0, if_pos (by omega)]
    have e2 : (r0 :: rest)[t.toNat]? = some ((r0 :: rest)[t.toNat]'(by simp; omega)) := List.getElem?_eq_getElem _
    simp only [List.length_cons] at hl
    simp [wb, e]
    rw [e2]
    simp
    refine ⟨by omega, by omega, _, ?_, b', hb', _, _, ?_, rfl, rfl, rfl, rfl⟩
    · rw [List.length_eraseIdx_of_lt (by simp; omega)]; simp
    · refine List.Perm.trans ?_ hp
      rw [List.append_assoc]
      exact List.Perm.append_left ys (erase_perm (r0 :: rest) t.toNat (by simp; omega))
/-! ### names -/
def Good (x : Str) : Prop := PyData.strOk x = true ∧ x.length ≤ 8
def Names (ns : List Str) : Prop := (∀ x ∈ ns, Good x) ∧ ns.length ≤ 6 ∧ ∃ x ∈ ns, ∃ y ∈ ns, x ≠ y
def namesD (ns : List Str) : D := .lst (ns.map D.str)
theorem Names.perm {ns ms : List Str} (h : Names ns) (p : ms.Perm ns) : Names ms := by
  obtain ⟨h1, h2, x, hx, y, hy, hne⟩ := h
  exact ⟨fun z hz => h1 z (p.mem_iff.mp hz), by rw [p.length_eq]; exact h2, x, p.mem_iff.mpr hx, y, p.mem_iff.mpr hy, hne⟩
theorem perm_map0 {β : Type} {E : β → D} {l1 l2 : List D} (h : l1.Perm l2) : ∀ xs : List β, l1 = xs.map E → ∃ zs : List β, zs.Perm xs ∧ l2 = zs.map E := by
  induction h with
  | nil => intro xs e; cases xs with
    | nil => exact ⟨[], .refl _, rfl⟩
    | cons _ _ => cases e
  | cons x h ih => intro xs e; cases xs with
    | nil => cases e
    | cons z xs =>
      simp only [List.map_cons, List.cons.injEq] at e
      obtain ⟨zs, p, e2⟩ := ih xs e.2
      exact ⟨z :: zs, p.cons z, by rw [List.map_cons, ← e2, e.1]⟩
  | swap x y l => intro xs e; cases xs with
    | nil => cases e
    | cons a xs => cases xs with
      | nil => simp at e
      | cons c xs =>
        simp only [List.map_cons, List.cons.injEq] at e
        exact ⟨c :: a :: xs, .swap a c xs, by rw [List.map_cons, List.map_cons, e.1, e.2.1, e.2.2]⟩
  | trans h1 h2 ih1 ih2 => intro xs e
                           obtain ⟨zs, p, e1⟩ := ih1 xs e
                           obtain ⟨ws, p2, e2⟩ := ih2 zs e1
                           exact ⟨ws, p2.trans p, e2⟩
theorem perm_map {β : Type} {E : β → D} {ys : List D} {xs : List β} (h : ys.Perm (xs.map E)) : ∃ zs : List β, zs.Perm xs ∧ ys = zs.map E := perm_map0 h.symm xs rfl
theorem cut_map {β : Type} (E : β → D) (xs : List β) (lo hi : Option Int) : cutD (xs.map E) lo hi = ((xs.drop (HT.sIx xs.length 0 lo)).take (HT.sIx xs.length xs.length hi - HT.sIx xs.length 0 lo)).map E := by
  unfold cutD; rw [List.length_map, List.map_take, List.map_drop]
/-- a mix of names -/
theorem mixN_w {b : D} {ns : List Str} (hb : BagOk b) (hn : Names ns) {Q : Sl → List Sl → Prop}
    (q : ∀ ms b', Names ms → BagOk b' → Q ⟨.own, namesD ms⟩ [⟨.par, b'⟩, ⟨.fz, namesD ns⟩]) : wM m_law_mix [⟨.par, b⟩, ⟨.fz, namesD ns⟩] Q := by
  refine mix_w hb ?_ ?_ ?_
  · intro x hx
    obtain ⟨n, hn', rfl⟩ := List.mem_map.mp hx
    exact fine_str.mpr (hn.1 n hn').1
  · have := hn.2.1
    simp; omega
  · intro ys b' p hb'
    obtain ⟨ms, p2, rfl⟩ := perm_map p
    exact q ms b' (hn.perm p2) hb'
def words : List Str := ["better", "not", "things", "step", "say", "a", "aa", "none", "reached", "open", "zzzzzzzz"]
instance (x : Str) : Decidable (Good x) := by unfold Good; infer_instance
instance (ns : List Str) : Decidable (Names ns) := by unfold Names; infer_instance
def six : List Str := ["a", "b", "c", "d", "e", "f"]
theorem names_a : ∀ k : Fin 5, Names (six.take (k.val + 2)) := by decide +kernel
theorem names_b : ∀ k : Fin 5, ∀ t : Fin 11, Names (((words ++ words).drop t.val).take (k.val + 2)) := by decide +kernel
theorem str_ok {x : Str} : PyData.strOk x = true ↔ ∀ c ∈ x.cps.toList, c < 0x110000 := by
  unfold PyData.strOk
  simp
  exact ⟨fun h c hc => by obtain ⟨i, hi, rfl⟩ := Array.mem_iff_getElem.mp hc; exact h i hi, fun h i hi => h _ (Array.getElem_mem hi)⟩
theorem letter_at {t : Int} (h0 : 0 ≤ t) (h1 : t < 26) : atI (Str.ofString "abcdefghijklmnopqrstuvwxyz").cps.toList t = some (97 + t.toNat) := by
  rw [atI_at h0]
  have key : ∀ k : Fin 26, (Str.ofString "abcdefghijklmnopqrstuvwxyz").cps.toList[k.val]? = some (97 + k.val) := by decide +kernel
  exact key ⟨t.toNat, by omega⟩
theorem strsOf_map : ∀ xs : List Str, strsOf (xs.map D.str) = some xs
  | [] => rfl
  | x :: xs => by rw [List.map_cons, strsOf, strsOf_map xs]; rfl
def one (c : Nat) : Str := ⟨#[c]⟩
theorem sum_ones : ∀ cs : List Nat, ((cs.map one).map (·.length)).sum = cs.length
  | [] => rfl
  | c :: cs => by simp only [List.map_cons, List.sum_cons, sum_ones cs, List.length_cons]; show 1 + cs.length = _; omega
theorem stem_of {cs : List Nat} (hc : ∀ c ∈ cs, c < 1114112) : PyData.strOk (Txt.join (Str.ofString "") (cs.map one)) = true ∧ (Txt.join (Str.ofString "") (cs.map one)).length ≤ cs.length := by
  unfold Txt.join
  rw [StrLaws.glued_eq_join]
  constructor
  · rw [str_ok]
    intro c h
    rcases (mem_join _ c _).mp h with ⟨t, ht, h⟩ | ⟨_, h⟩
    · obtain ⟨d, hd, rfl⟩ := List.mem_map.mp ht
      simp [one] at h
      subst h
      exact hc c hd
    · have e : (Str.ofString "").cps.toList = [] := by decide +kernel
      rw [e] at h; simp at h
  · have := StrLaws.join_length_le (Str.ofString "") (cs.map one)
    rw [sum_ones] at this
    have e : (Str.ofString "").length = 0 := by decide +kernel
    rw [e] at this; simpa using this
theorem len_app (x y : Str) : (x ++ y).length = x.length + y.length := strLen_append x y
theorem toL_app (x y : Str) : (x ++ y).cps.toList = x.cps.toList ++ y.cps.toList := by
  show (x.cps ++ y.cps).toList = _
  simp
theorem names_w {b : D} {many : Int} (hb : BagOk b) (h1 : 2 ≤ many) (h2 : many ≤ 6) {Q : Sl → List Sl → Prop}
    (q : ∀ ns b', Names ns → BagOk b' → Q ⟨.own, namesD ns⟩ [⟨.par, b'⟩, ⟨.fz, .int many⟩]) : wM m_law_names [⟨.par, b⟩, ⟨.fz, .int many⟩] Q := by
  rw [m_law_names, w_fn, b_law_names]
  simp only [List.map_cons, List.map_nil, List.cons_append, List.nil_append, List.replicate_succ, List.replicate_zero]
  rw [w_seq, w_bind]
  simp [nodupS]
  refine take_w hb (by decide) (by decide) fun way b1 w0 w1 hb1 => ?_
  simp [wb, nodupS]
  refine take_w hb1 (by decide) (by decide) fun turn b2 u0 u1 hb2 => ?_
  obtain ⟨k, hk, ek⟩ : ∃ k : Nat, k < 5 ∧ many.toNat = k + 2 := ⟨many.toNat - 2, by omega, by omega⟩
  simp [wb, ok_int, eqD_int]
  by_cases c0 : way = 0
  · have e1 : signsD (Str.ofString "abcdef") = six.map D.str := by rfl
    have e2 : (Str.ofString "abcdef").cps.size ≤ 16777216 := by decide +kernel
    simp [c0, e1, e2, cut_hi D.str six (show 0 ≤ many by omega), ek, -List.map_take]
    refine mixN_w (ns := six.take (k + 2)) hb2 (names_a ⟨k, hk⟩) fun ms b3 hm hb3 => ?_
    simp [wb, outs]
    exact q ms b3 hm hb3
  · simp [c0]
    by_cases c1 : way = 1
    · simp [c1]
      have f0 := Int.fmod_nonneg_of_pos turn (show (0 : Int) < 11 by decide)
      have f1 := Int.fmod_lt_of_pos turn (show (0 : Int) < 11 by decide)
      have := mixN_w (ns := ((words ++ words).drop (turn.fmod 11).toNat).take (k + 2)) (Q := fun r o => ∃ ms b', Names ms ∧ BagOk b' ∧ r = ⟨.own, namesD ms⟩ ∧ o = [⟨.par, b'⟩, ⟨.fz, namesD (((words ++ words).drop (turn.fmod 11).toNat).take (k + 2))⟩]) hb2 (names_b ⟨k, hk⟩ ⟨(turn.fmod 11).toNat, by omega⟩) fun ms b3 hm hb3 => ⟨ms, b3, hm, hb3, rfl, rfl⟩
      unfold namesD at this
      rw [← ek, ← cut_hi D.str _ (show 0 ≤ many by omega), ← cut_lo D.str _ f0] at this
      refine wM_mono this ?_
      rintro r o ⟨ms, b3, hm, hb3, rfl, rfl⟩
      simp [wb, outs]
      exact q ms b3 hm hb3
    · simp [c1]
      refine take_w hb2 (by decide) (by decide) fun wide b3 v0 v1 hb3 => ?_
      simp [wb, wipeR, rangeD, -List.map_map]
      refine ⟨⟨by omega, by omega⟩, ?_⟩
      have e2 : (Str.ofString "abcdefghijklmnopqrstuvwxyz").length ≤ 16777216 := by decide +kernel
      refine w_compX (fun i : Nat => D.int i) (fun pre acc ρ => ∃ cs b, BagOk b ∧ acc = (cs.map one).map D.str ∧ cs.length = pre.length ∧ (∀ c ∈ cs, c < 1114112) ∧
        ρ = [some ⟨.par, b⟩, some ⟨.fz, .int many⟩, some ⟨.fz, .str (Str.ofString "abcdefghijklmnopqrstuvwxyz")⟩, some ⟨.own, .lst (words.map D.str)⟩, none, some ⟨.fz, .int way⟩, some ⟨.fz, .int turn⟩, none]) ⟨[], b3, hb3, rfl, rfl, by simp, rfl⟩ ?_ ?_
      · rintro pre i acc ρ hi _ ⟨cs, b4, hb4, rfl, hl, hc, rfl⟩
        simp [nodupS]
        refine take_w hb4 (by decide) (by decide) fun t b5 t0 t1 hb5 => ?_
        simp [wb, e2, letter_at t0 t1, wipeR]
        refine ⟨cs ++ [97 + t.toNat], b5, hb5, by simp [one], by simp [hl], ?_, rfl⟩
        intro c hc'
        rcases List.mem_append.mp hc' with h | h
        · exact hc c h
        · simp at h; omega
      · rintro acc ρ ⟨cs, b4, hb4, rfl, hl, hc, rfl⟩
        obtain ⟨st1, st2⟩ := stem_of hc
        have ej : gJoin (.str (Str.ofString "")) (.lst ((cs.map one).map D.str)) = some ⟨.fz, .str (Txt.join (Str.ofString "") (cs.map one))⟩ := by
          have e : (Str.ofString "").length = 0 := by decide +kernel
          rw [List.length_range] at hl
          simp only [gJoin, strsOf_map, sum_ones, e]
          rw [if_pos (by omega)]
        rw [List.length_range] at hl
        generalize hst : Txt.join (Str.ofString "") (cs.map one) = stem at *
        have e5 : ∀ x : Int, CMul 5 x := fun x => .inl ⟨by decide, by decide⟩
        have f0 : ∀ x : Int, 0 ≤ x.fmod 26 := fun x => Int.fmod_nonneg_of_pos x (by decide)
        have f1 : ∀ x : Int, x.fmod 26 < 26 := fun x => Int.fmod_lt_of_pos x (by decide)
        simp [ej, wipeR, rangeD, -List.map_map, hl]
        refine ⟨by omega, ⟨by omega, by omega⟩, ?_⟩
        refine w_compP (fun i : Nat => D.int i) (fun _ => true) (fun i => .str (stem ++ one (97 + ((turn + 5 * (i : Int)).fmod 26).toNat))) ?_ ?_
        · intro i hi
          have sl1 : stem.length + 1 ≤ 16777216 := by omega
          simp [e5, e2, letter_at (f0 _) (f1 _), wipeR, one]
          exact sl1
        · have key : Names ((List.range many.toNat).map fun i : Nat => stem ++ one (97 + ((turn + 5 * (i : Int)).fmod 26).toNat)) := by
            refine ⟨?_, by simp; omega, ?_⟩
            · intro x hx
              obtain ⟨i, hi, rfl⟩ := List.mem_map.mp hx
              refine ⟨?_, ?_⟩
              · rw [str_ok, toL_app]
                intro c hc
                rcases List.mem_append.mp hc with h | h
                · exact (str_ok.mp st1) c h
                · have := f1 (turn + 5 * (i : Int))
                  simp [one] at h; omega
              · rw [len_app]; show stem.length + 1 ≤ 8; omega
            · refine ⟨_, List.mem_map.mpr ⟨0, by simp; omega, rfl⟩, _, List.mem_map.mpr ⟨1, by simp; omega, rfl⟩, ?_⟩
              intro e
              have e' := congrArg (fun x : Str => x.cps.toList) e
              simp only [toL_app] at e'
              have := List.append_cancel_left e'
              simp [one] at this
              rw [Int.fmod_eq_emod_of_nonneg _ (by decide), Int.fmod_eq_emod_of_nonneg _ (by decide)] at this
              omega
          have ef : ((List.range many.toNat).filter fun _ => true) = List.range many.toNat := List.filter_eq_self.mpr (by simp)
          rw [ef]
          have em : ((List.range many.toNat).map fun i : Nat => D.str (stem ++ one (97 + ((turn + 5 * (i : Int)).fmod 26).toNat))) = ((List.range many.toNat).map fun i : Nat => stem ++ one (97 + ((turn + 5 * (i : Int)).fmod 26).toNat)).map D.str := by rw [List.map_map]; rfl
          rw [em]
          generalize (List.range many.toNat).map (fun i : Nat => stem ++ one (97 + ((turn + 5 * (i : Int)).fmod 26).toNat)) = nms at key
          have hz := key.2.1
          simp [nodupS]
          refine ⟨by omega, ?_⟩
          refine mixN_w hb4 key fun ms b5 hm hb5 => ?_
          simp [wb, outs]
          exact q ms b5 hm hb5
end VI

namespace VI
open PySem PySem.Spec PyProof.Rows L2
def rowD (r : List Str) : D := .tup (r.map D.str)
def pairD (p : Str × Str) : D := .tup [.str p.1, .str p.2]
def pairsD (ps : List (Str × Str)) : D := .lst (ps.map pairD)
theorem eqD_str (x y : Str) : eqD (.str x) (.str y) = decide (x = y) := by simp [eqD, D.py, PyData.eqv]; rfl
theorem eqD_pair (p q : Str × Str) : eqD (pairD p) (pairD q) = decide (p = q) := by
  simp [eqD, pairD, D.py, pyL, PyData.eqv, PyData.eqvAll, Prod.ext_iff]
  rfl
def GoodR (r : List Str) : Prop := ∀ x ∈ r, Good x
theorem fine_row {n : Nat} {r : List Str} (h : GoodR r) : Fine (n + 1) (rowD r) := by
  refine fine_tup.mpr fun x hx => ?_
  obtain ⟨y, hy, rfl⟩ := List.mem_map.mp hx
  exact fine_str.mpr (h y hy).1
theorem alike_strs : ∀ xs ys : List Str, PySem.W.alikeAll (pyL (xs.map D.str)) (pyL (ys.map D.str)) = true
  | [], _ => by simp [pyL, PySem.W.alikeAll]
  | x :: xs, [] => by simp [pyL, PySem.W.alikeAll]
  | x :: xs, y :: ys => by simp [pyL, PySem.W.alikeAll, D.py, PySem.W.alike]; exact alike_strs xs ys
theorem pure_strs (xs : List Str) : pureL (xs.map D.str) = true := by rw [pureL_all]; simp [D.pure]
theorem depth_strs (xs : List Str) : PyData.depthAll (pyL (xs.map D.str)) ≤ 0 := by
  rw [depthAll_iff, pyL_map]; simp [D.py, PyData.depth]
theorem sortOk_strs {ns : List Str} (h : ns.length ≤ 16777216) : sortOk (ns.map D.str) = true := by
  unfold sortOk
  simp [D.pure, D.py, PyData.depth, PySem.W.alike, h]
theorem sortOk_rows {rs : List (List Str)} (h : rs.length ≤ 16777216) (h2 : ∀ r ∈ rs, r ≠ []) : sortOk (rs.map rowD) = true := by
  unfold sortOk
  simp only [Bool.and_eq_true, decide_eq_true_eq, List.all_eq_true, Bool.or_eq_true, List.length_map]
  refine ⟨⟨⟨?_, ?_⟩, by rw [e_sz]; exact h⟩, .inl ?_⟩
  · intro d hd
    obtain ⟨r, hr, rfl⟩ := List.mem_map.mp hd
    refine ⟨by rw [rowD, D.pure]; exact pure_strs r, ?_⟩
    rw [rowD, D.py, PyData.depth]
    have := depth_strs r
    omega
  · intro d hd e he
    obtain ⟨r, hr, rfl⟩ := List.mem_map.mp hd
    obtain ⟨t, ht, rfl⟩ := List.mem_map.mp he
    rw [rowD, rowD, D.py, D.py, PySem.W.alike]
    exact alike_strs r t
  · intro d hd
    obtain ⟨r, hr, rfl⟩ := List.mem_map.mp hd
    have := h2 r hr
    cases r with
    | nil => exact absurd rfl this
    | cons a x => rfl
theorem flat_len {α β : Type} {f : α → List β} {c : Nat} : ∀ {l : List α}, (∀ x ∈ l, (f x).length ≤ c) → (l.flatMap f).length ≤ l.length * c
  | [], _ => by simp
  | x :: l, h => by
    rw [List.flatMap_cons, List.length_append, List.length_cons, Nat.succ_mul]
    have h1 := h x List.mem_cons_self
    have h2 := flat_len (l := l) fun y hy => h y (List.mem_cons_of_mem _ hy)
    omega
theorem sort_map {β : Type} (E : β → D) (xs : List β) : ∃ ys : List β, ys.Perm xs ∧ sortL (xs.map E) = ys.map E := perm_map (List.mergeSort_perm _ _)
/-! ### pairs -/
def pairsOfNames (ms : List Str) (xs : List Str) : List (Str × Str) := xs.flatMap fun x => (ms.filter fun y => !decide (y = x)).map fun y => (x, y)
theorem pairs_w {m : Md} {ns : List Str} (hn : ∀ x ∈ ns, PyData.strOk x = true) (hz : ns.length ≤ 6) {Q : Sl → List Sl → Prop}
    (q : ∀ ms, ms.Perm ns → Q ⟨.own, pairsD (pairsOfNames ms ms)⟩ [⟨m, namesD ns⟩]) : wM m_law_pairs [⟨m, namesD ns⟩] Q := by
  rw [m_law_pairs, w_fn, b_law_pairs]
  obtain ⟨ms, hp, es⟩ := sort_map D.str ns
  have so : sortOk (ns.map D.str) = true := sortOk_strs (by omega)
  have hl : ms.length ≤ 6 := by rw [hp.length_eq]; exact hz
  have okm : ∀ x ∈ ms, (D.str x).ok = true := fun x hx => (fine_str (n := 0).mpr (hn x (hp.mem_iff.mp hx))).ok (by decide)
  simp only [List.map_cons, List.map_nil, List.cons_append, List.nil_append, List.replicate_succ, List.replicate_zero]
  simp [namesD, so, es, lend, back]
  refine w_loopX D.str (fun pre ρ => ∃ x2, frx x2 = true ∧ ρ = [some ⟨m, namesD ns⟩, some ⟨.own, pairsD (pairsOfNames ms pre)⟩, x2, none]) ⟨none, rfl, rfl⟩ ?_ ?_
  · rintro pre x ρ hx hpre ⟨x2, hx2, rfl⟩
    simp [namesD, pairsD, so, es, lend, back, hx2, wipeR]
    refine w_compP D.str (fun y => !decide (y = x)) (fun y => pairD (x, y)) ?_ ?_
    · intro y hy
      simp [okm x hx, okm y hy, eqD_str]
      by_cases e : y = x
      · simp [e, wipeR]
      · simp [e, wipeR, pairD]
    · have l1 : ((ms.filter fun y => !decide (y = x))).length ≤ 6 := Nat.le_trans (List.length_filter_le _ _) hl
      have l2 : (pairsOfNames ms pre).length ≤ pre.length * 6 := flat_len fun y _ => by rw [List.length_map]; exact Nat.le_trans (List.length_filter_le _ _) hl
      have e1 : (ms.filter fun y => !decide (y = x)).map (fun y => pairD (x, y)) = ((ms.filter fun y => !decide (y = x)).map fun y => (x, y)).map pairD := by rw [List.map_map]; rfl
      have e2 : pairsOfNames ms (pre ++ [x]) = pairsOfNames ms pre ++ (ms.filter fun y => !decide (y = x)).map fun y => (x, y) := by unfold pairsOfNames; rw [List.flatMap_append]; simp
      simp [e2, -List.map_map]
      refine ⟨by omega, by omega, _, rfl, rfl, ?_, rfl⟩
      rw [e1]; simp [pairsD]
  · rintro ρ ⟨x2, hx2, rfl⟩
    have := q ms hp
    simp
    exact this
/-! ### worths -/
def DOk (ns : List Str) (es : List (Key × D)) : Prop := ∀ e ∈ es, (∃ n ∈ ns, e.1 = .inr n) ∧ ∃ i : Int, e.2 = .int i
theorem put_ok {ns : List Str} {es : List (Key × D)} {n : Str} {i : Int} (h : DOk ns es) (hn : n ∈ ns) : DOk ns (putD es (.inr n) (.int i)) ∧ (putD es (.inr n) (.int i)).length ≤ es.length + 1 := by
  unfold putD
  split
  · refine ⟨?_, by simp⟩
    intro e he
    obtain ⟨f, hf, rfl⟩ := List.mem_map.mp he
    have := h f hf
    split
    · exact ⟨this.1, i, rfl⟩
    · exact this
  · refine ⟨?_, by simp⟩
    intro e he
    rcases List.mem_append.mp he with g | g
    · exact h e g
    · simp at g; subst g; exact ⟨⟨n, hn, rfl⟩, i, rfl⟩
theorem merge_ok {ns : List Str} : ∀ {zs : List (Str × Int)} {es : List (Key × D)}, DOk ns es → (∀ z ∈ zs, z.1 ∈ ns) → DOk ns (mergeD es (zs.map fun z => (.inr z.1, .int z.2))) ∧ (mergeD es (zs.map fun z => (.inr z.1, .int z.2))).length ≤ es.length + zs.length
  | [], es, h, _ => ⟨h, by simp [mergeD]⟩
  | z :: zs, es, h, hz => by
    obtain ⟨a, b⟩ := put_ok (i := z.2) h (hz z List.mem_cons_self)
    obtain ⟨c, d⟩ := merge_ok (zs := zs) a fun y hy => hz y (List.mem_cons_of_mem _ hy)
    refine ⟨c, Nat.le_trans d ?_⟩
    simp only [List.length_cons]; omega
theorem pairsOf_map : ∀ zs : List (Str × Int), pairsOf (zs.map fun z => D.tup [.str z.1, .int z.2]) = some (zs.map fun z => (.inr z.1, .int z.2))
  | [] => rfl
  | z :: zs => by rw [List.map_cons, pairsOf, pairsOf_map zs]; rfl
theorem worths_w {b : D} {ns : List Str} (hb : BagOk b) (hz : ns.length ≤ 6) {Q : Sl → List Sl → Prop}
    (q : ∀ es (step : Int) b', BagOk b' → DOk ns es → es.length ≤ 6 → Q ⟨.fz, .tup [.dK es, .int step]⟩ [⟨.par, b'⟩, ⟨.par, namesD ns⟩]) : wM m_law_worths [⟨.par, b⟩, ⟨.par, namesD ns⟩] Q := by
  rw [m_law_worths, w_fn, b_law_worths]
  simp only [List.map_cons, List.map_nil, List.cons_append, List.nil_append, List.replicate_succ, List.replicate_zero]
  rw [w_seq]
  simp [nodupS]
  refine take_w hb (by decide) (by decide) fun s b1 s0 s1 hb1 => ?_
  simp [wb, nodupS]
  refine take_w hb1 (by decide) (by decide) fun t b2 t0 t1 hb2 => ?_
  obtain ⟨wide, hw1, hw2, ew⟩ : ∃ wide : Int, 0 < wide ∧ wide < 10 ∧ atI [D.int 2, .int 3, .int 5, .int 9] t = some (.int wide) := by
    have ht : t = 0 ∨ t = 1 ∨ t = 2 ∨ t = 3 := by omega
    rcases ht with rfl | rfl | rfl | rfl
    · exact ⟨2, by decide, by decide, by simp⟩
    · exact ⟨3, by decide, by decide, by simp⟩
    · exact ⟨5, by decide, by decide, by simp⟩
    · exact ⟨9, by decide, by decide, by simp⟩
  have ec : CMul wide (1 + s) := .inl ⟨by omega, by omega⟩
  have hp : 0 < wide * (1 + s) := Int.mul_pos hw1 (by omega)
  have hq : wide * (1 + s) < 1073741824 := by
    have : wide * (1 + s) ≤ 10 * (1 + s) := Int.mul_le_mul_of_nonneg_right (by omega) (by omega)
    omega
  simp [wb, ew, ec, lend, back, namesD, wipeR]
  refine w_compX D.str (fun pre acc ρ => ∃ zs b, BagOk b ∧ acc = (zs.map fun z : Str × Int => D.tup [.str z.1, .int z.2]) ∧ zs.length = pre.length ∧ (∀ z ∈ zs, z.1 ∈ ns) ∧
    ρ = [some ⟨.par, b⟩, some ⟨.lent, .lst (ns.map D.str)⟩, some ⟨.fz, .int (1 + s)⟩, some ⟨.fz, .int (wide * (1 + s))⟩, none]) ⟨[], b2, hb2, rfl, rfl, by simp, rfl⟩ ?_ ?_
  · rintro pre x acc ρ hx hpre ⟨zs, b3, hb3, rfl, hl, hc, rfl⟩
    simp [nodupS]
    refine take_w hb3 hp hq fun v b4 v0 v1 hb4 => ?_
    simp [wb, wipeR]
    refine ⟨zs ++ [(x, v)], b4, hb4, by simp, by simp [hl], ?_, rfl⟩
    intro z z2 hz'
    rcases List.mem_append.mp hz' with g | g
    · exact hc (z, z2) g
    · simp at g; rw [g.1]; exact hx
  · rintro acc ρ ⟨zs, b3, hb3, rfl, hl, hc, rfl⟩
    obtain ⟨m1, m2⟩ := merge_ok (ns := ns) (es := []) (by intro e he; cases he) hc
    have ed : gDictP [.lst (zs.map fun z : Str × Int => D.tup [.str z.1, .int z.2])] = some ⟨.own, .dK (mergeD [] (zs.map fun z => (.inr z.1, .int z.2)))⟩ := by
      simp only [gDictP, pairsOf_map]
    simp [ed, outs, hl]
    refine ⟨by omega, q _ _ _ hb3 m1 (by simp at m2; omega)⟩
/-! ### betters -/
def keyN (e : Key × D) : Str := match e.1 with
  | .inr x => x
  | .inl _ => ""
def valN (es : List (Key × D)) (x : Str) : Int := match valD es (.inr x) with
  | some (.int i) => i
  | _ => 0
theorem keys_names {ns : List Str} {es : List (Key × D)} (h : DOk ns es) : gListA [.dK es] = some ⟨.own, namesD (es.map keyN)⟩ := by
  have e : (es.map fun e => (match e.1 with | .inl i => D.int i | .inr x => .str x : D)) = (es.map keyN).map D.str := by
    rw [List.map_map]
    refine List.map_congr_left fun e he => ?_
    obtain ⟨⟨n, _, hn⟩, _⟩ := h e he
    simp [keyN, hn]
  unfold gListA orN gList gListS gListD namesD
  (rw [← e]) <;> rfl
theorem val_key {ns : List Str} {es : List (Key × D)} (h : DOk ns es) {x : Str} (hx : x ∈ es.map keyN) : valD es (.inr x) = some (.int (valN es x)) := by
  obtain ⟨e, he, rfl⟩ := List.mem_map.mp hx
  obtain ⟨⟨n, hn, e1⟩, _⟩ := h e he
  have ek : keyN e = n := by simp [keyN, e1]
  rw [ek]
  have hs : (es.find? fun f => decide (f.1 = .inr n)).isSome := by
    rw [List.find?_isSome]; exact ⟨e, he, by simp [e1]⟩
  obtain ⟨f, hf⟩ := Option.isSome_iff_exists.mp hs
  obtain ⟨i, hi⟩ := (h f (List.mem_of_find?_eq_some hf)).2
  have ev : valD es (.inr n) = some (.int i) := by unfold valD; rw [hf]; simp [hi]
  unfold valN; rw [ev]
theorem pairs_mem {ms xs : List Str} {p : Str × Str} (h : p ∈ pairsOfNames ms xs) : p.1 ∈ xs ∧ p.2 ∈ ms := by
  unfold pairsOfNames at h
  obtain ⟨x, hx, h⟩ := List.mem_flatMap.mp h
  obtain ⟨y, hy, rfl⟩ := List.mem_map.mp h
  exact ⟨hx, (List.mem_filter.mp hy).1⟩
theorem pairs_len {ms : List Str} {k : Nat} (h : ms.length ≤ k) : (pairsOfNames ms ms).length ≤ k * k := by
  have : (pairsOfNames ms ms).length ≤ ms.length * k := flat_len fun y _ => by rw [List.length_map]; exact Nat.le_trans (List.length_filter_le _ _) h
  exact Nat.le_trans this (Nat.mul_le_mul_right k h)
def PairsIn (ns : List Str) (ps : List (Str × Str)) : Prop := ∀ p ∈ ps, p.1 ∈ ns ∧ p.2 ∈ ns
theorem betters_w {ns : List Str} {es : List (Key × D)} {step : Int} (hn : ∀ x ∈ ns, PyData.strOk x = true) (h : DOk ns es) (hz : es.length ≤ 6) {Q : Sl → List Sl → Prop}
    (q : ∀ ps, PairsIn ns ps → ps.length ≤ 36 → Q ⟨.own, pairsD ps⟩ [⟨.fz, .dK es⟩, ⟨.fz, .int step⟩]) : wM m_law_betters [⟨.fz, .dK es⟩, ⟨.fz, .int step⟩] Q := by
  rw [m_law_betters, w_fn, b_law_betters]
  simp only [List.map_cons, List.map_nil, List.cons_append, List.nil_append, List.replicate_succ, List.replicate_zero]
  have hk : ∀ x ∈ es.map keyN, x ∈ ns := fun x hx => by
    obtain ⟨e, he, rfl⟩ := List.mem_map.mp hx
    obtain ⟨⟨n, hn, e1⟩, _⟩ := h e he
    simpa [keyN, e1] using hn
  simp [keys_names h, nodupS]
  refine pairs_w (fun x hx => hn x (hk x hx)) (by simpa using hz) fun ms hp => ?_
  have hm : ∀ p ∈ pairsOfNames ms ms, p.1 ∈ es.map keyN ∧ p.2 ∈ es.map keyN := fun p hp' => ⟨hp.mem_iff.mp (pairs_mem hp').1, hp.mem_iff.mp (pairs_mem hp').2⟩
  have hl : (pairsOfNames ms ms).length ≤ 36 := pairs_len (k := 6) (by rw [hp.length_eq]; simpa using hz)
  simp [wb, pairsD, lend, back, wipeR]
  refine w_compP pairD (fun p => decide (step < valN es p.1 - valN es p.2)) pairD ?_ ?_
  · intro p hp'
    simp [pairD, val_key h (hm p hp').1, val_key h (hm p hp').2, wipeR]
  · have l1 := Nat.le_trans (List.length_filter_le (fun p : Str × Str => decide (step < valN es p.1 - valN es p.2)) (pairsOfNames ms ms)) hl
    simp [outs]
    refine ⟨by omega, q _ ?_ l1⟩
    intro p hp'
    have := (List.mem_filter.mp hp').1
    exact ⟨hk _ (hm p this).1, hk _ (hm p this).2⟩
theorem drawn_w {b : D} {ns : List Str} (hb : BagOk b) (hn : ∀ x ∈ ns, PyData.strOk x = true) (hz : ns.length ≤ 6) {Q : Sl → List Sl → Prop}
    (q : ∀ ps b', BagOk b' → PairsIn ns ps → ps.length ≤ 36 → Q ⟨.own, pairsD ps⟩ [⟨.par, b'⟩, ⟨.par, namesD ns⟩]) : wM m_law_drawn_betters [⟨.par, b⟩, ⟨.par, namesD ns⟩] Q := by
  rw [m_law_drawn_betters, w_fn, b_law_drawn_betters]
  simp only [List.map_cons, List.map_nil, List.cons_append, List.nil_append, List.replicate_succ, List.replicate_zero]
  simp [nodupS]
  refine worths_w hb hz fun es step b1 hb1 hd hl => ?_
  simp [wb, nodupS]
  refine betters_w hn hd hl fun ps h1 h2 => ?_
  simp [wb, outs]
  exact q ps b1 hb1 h1 h2
theorem fine_pair {ns : List Str} (hn : ∀ x ∈ ns, PyData.strOk x = true) {p : Str × Str} (h : p.1 ∈ ns ∧ p.2 ∈ ns) : Fine 1 (pairD p) := by
  refine fine_tup.mpr fun x hx => ?_
  simp at hx
  rcases hx with rfl | rfl
  · exact fine_str.mpr (hn _ h.1)
  · exact fine_str.mpr (hn _ h.2)
theorem sortOk_pairs {ps : List (Str × Str)} (h : ps.length ≤ 16777216) : sortOk (ps.map pairD) = true := by
  have := sortOk_rows (rs := ps.map fun p => [p.1, p.2]) (by simpa using h) fun r hr => by obtain ⟨p, _, rfl⟩ := List.mem_map.mp hr; exact List.cons_ne_nil _ _
  rwa [List.map_map] at this
theorem inL_pairs (p : Str × Str) (ps : List (Str × Str)) : inL (pairD p) (ps.map pairD) = decide (p ∈ ps) := by
  unfold inL
  rw [List.any_map, Bool.eq_iff_iff]
  simp [eqD_pair]
theorem turned_w {ns : List Str} {ps : List (Str × Str)} {p : Str × Str} (hn : ∀ x ∈ ns, PyData.strOk x = true) (hp : PairsIn ns ps) (hz : ps.length ≤ 36) (h1 : p.1 ∈ ns ∧ p.2 ∈ ns) {Q : Sl → List Sl → Prop}
    (q : ∀ m qs, PairsIn ns qs → qs.length ≤ 37 → Q ⟨m, pairsD qs⟩ [⟨.fz, pairsD ps⟩, ⟨.fz, pairD p⟩]) : wM m_law_turned [⟨.fz, pairsD ps⟩, ⟨.fz, pairD p⟩] Q := by
  rw [m_law_turned, w_fn, b_law_turned]
  simp only [List.map_cons, List.map_nil, List.cons_append, List.nil_append, List.replicate_succ, List.replicate_zero]
  have ok1 : (pairD p).ok = true := (fine_pair hn h1).ok (by decide)
  have ok2 : ∀ r ∈ ps, (pairD r).ok = true := fun r hr => (fine_pair hn (hp r hr)).ok (by decide)
  have ok3 : (D.lst (ps.map pairD)).ok = true := ok_lst (n := 1) (fun x hx => by obtain ⟨r, hr, rfl⟩ := List.mem_map.mp hx; exact fine_pair hn (hp r hr)) (by decide)
  simp [pairsD, lend, back, wipeR]
  refine w_compP pairD (fun r => !decide (r = p)) pairD ?_ ?_
  · intro r hr
    simp [eqOk_of (ok2 r hr) ok1, eqD_pair]
  · have l1 := Nat.le_trans (List.length_filter_le (fun r : Str × Str => !decide (r = p)) ps) hz
    generalize hk : ps.filter (fun r => !decide (r = p)) = kept at *
    have hk' : PairsIn ns kept := fun r hr => by rw [← hk] at hr; exact hp r (List.mem_filter.mp hr).1
    simp [ok1, ok3, inL_pairs]
    refine ⟨by omega, ?_⟩
    by_cases e : p ∈ ps
    · simp [e, outs]
      exact q _ kept hk' (by omega)
    · simp [e, outs]
      have em : kept.map pairD ++ [pairD p] = (kept ++ [p]).map pairD := by simp
      rw [em]
      obtain ⟨qs, hq, eq⟩ := sort_map pairD (kept ++ [p])
      have hl : qs.length ≤ 37 := by rw [hq.length_eq]; simp; omega
      refine ⟨by omega, sortOk_pairs (by simp; omega), ?_⟩
      rw [eq]
      refine q _ qs ?_ hl
      intro r hr
      rcases List.mem_append.mp (hq.mem_iff.mp hr) with g | g
      · exact hk' r g
      · simp at g; subst g; exact h1
end VI

namespace VI
open PySem PySem.Spec PyProof.Rows L2
/-! ### patterns -/
def twoR (p q : Str × Str) : List Str := [Str.ofString "two", p.1, p.2, q.1, q.2]
def twoIn (ps : List (Str × Str)) (p q : Str × Str) : List (List Str) := if (p.1, q.2) ∈ ps ∨ (q.1, p.2) ∈ ps then [] else [twoR p q]
def twosOf (ps as : List (Str × Str)) : List (List Str) := as.flatMap fun p => ps.flatMap (twoIn ps p)
theorem twoIn_len (ps : List (Str × Str)) (p q : Str × Str) : (twoIn ps p q).length ≤ 1 := by unfold twoIn; split <;> simp
theorem inL_pair (a b : Str) (ps : List (Str × Str)) : inL (D.tup [.str a, .str b]) (ps.map pairD) = decide ((a, b) ∈ ps) := inL_pairs (a, b) ps
theorem twos_w {ns : List Str} {ps : List (Str × Str)} (hn : ∀ x ∈ ns, PyData.strOk x = true) (hp : PairsIn ns ps) (hz : ps.length ≤ 37) {Q : Sl → List Sl → Prop}
    (q : Q ⟨.own, .lst (sortL ((twosOf ps ps).map rowD))⟩ [⟨.fz, pairsD ps⟩]) : wM m_twos [⟨.fz, pairsD ps⟩] Q := by
  rw [m_twos, w_fn, b_twos]
  simp only [List.map_cons, List.map_nil, List.cons_append, List.nil_append, List.replicate_succ, List.replicate_zero]
  have ok3 : (D.lst (ps.map pairD)).ok = true := ok_lst (n := 1) (fun x hx => by obtain ⟨r, hr, rfl⟩ := List.mem_map.mp hx; exact fine_pair hn (hp r hr)) (by decide)
  have okp : ∀ p q : Str × Str, p ∈ ps → q ∈ ps → (D.tup [.str p.1, .str q.2]).ok = true := fun p q h1 h2 => (fine_pair (p := (p.1, q.2)) hn ⟨(hp p h1).1, (hp q h2).2⟩).ok (by decide)
  simp [pairsD, lend, back]
  obtain ⟨I, hI⟩ : ∃ I : List (Str × Str) → Rho → Prop, ∀ pre ρ, I pre ρ ↔ ∃ x2 x3 x4 x5, frx x2 = true ∧ frx x3 = true ∧ frx x4 = true ∧ frx x5 = true ∧ ρ = [some ⟨.fz, .lst (ps.map pairD)⟩, some ⟨.own, .lst ((twosOf ps pre).map rowD)⟩, x2, x3, x4, x5] := ⟨_, fun _ _ => Iff.rfl⟩
  refine w_loopX pairD I ((hI _ _).mpr ⟨none, none, none, none, rfl, rfl, rfl, rfl, rfl⟩) ?_ ?_
  · intro pre p ρ hx hpre h
    obtain ⟨x2, x3, x4, x5, e2, e3, e4, e5, rfl⟩ := (hI _ _).mp h
    have l0 : (twosOf ps pre).length ≤ pre.length * 37 := flat_len fun y _ => by
      have := flat_len (f := twoIn ps y) (c := 1) (l := ps) fun z _ => twoIn_len ps y z
      omega
    simp [pairD, e2, e3, lend, back]
    obtain ⟨J, hJ⟩ : ∃ J : List (Str × Str) → Rho → Prop, ∀ pre2 ρ, J pre2 ρ ↔ ∃ x4 x5, frx x4 = true ∧ frx x5 = true ∧ ρ = [some ⟨.fz, .lst (ps.map pairD)⟩, some ⟨.own, .lst ((twosOf ps pre ++ pre2.flatMap (twoIn ps p)).map rowD)⟩, some ⟨.fz, .str p.1⟩, some ⟨.fz, .str p.2⟩, x4, x5] := ⟨_, fun _ _ => Iff.rfl⟩
    refine w_loopX pairD J ((hJ _ _).mpr ⟨x4, x5, e4, e5, by simp⟩) ?_ ?_
    · intro pre2 r ρ hx2 hpre2 h
      obtain ⟨x4, x5, e4, e5, rfl⟩ := (hJ _ _).mp h
      have l1 : (pre2.flatMap (twoIn ps p)).length ≤ pre2.length * 1 := flat_len fun z _ => twoIn_len ps p z
      have e2 : (twosOf ps pre ++ (pre2 ++ [r]).flatMap (twoIn ps p)) = (twosOf ps pre ++ pre2.flatMap (twoIn ps p)) ++ twoIn ps p r := by simp
      have l2 : (twosOf ps pre ++ pre2.flatMap (twoIn ps p)).length < 16777216 := by rw [List.length_append]; omega
      have hJ' : ∀ A, A = ((twosOf ps pre ++ pre2.flatMap (twoIn ps p)) ++ twoIn ps p r).map rowD → J (pre2 ++ [r]) [some ⟨.fz, .lst (ps.map pairD)⟩, some ⟨.own, .lst A⟩, some ⟨.fz, .str p.1⟩, some ⟨.fz, .str p.2⟩, some ⟨.fz, .str r.1⟩, some ⟨.fz, .str r.2⟩] := by
        rintro A rfl
        exact (hJ _ _).mpr ⟨_, _, rfl, rfl, by rw [e2]⟩
      clear h
      generalize (twosOf ps pre ++ pre2.flatMap (twoIn ps p)) = acc at l2 hJ' ⊢
      by_cases c1 : (p.1, r.2) ∈ ps
      · have et : twoIn ps p r = [] := by simp [twoIn, c1]
        simp [pairD, e4, e5, okp p r hx hx2, okp r p hx2 hx, ok3, inL_pair, c1]
        exact hJ' _ (by simp [et])
      · by_cases c2 : (r.1, p.2) ∈ ps
        · have et : twoIn ps p r = [] := by simp [twoIn, c2]
          simp [pairD, e4, e5, okp p r hx hx2, okp r p hx2 hx, ok3, inL_pair, c1, c2]
          exact hJ' _ (by simp [et])
        · have et : twoIn ps p r = [twoR p r] := by simp [twoIn, c1, c2]
          simp [pairD, e4, e5, okp p r hx hx2, okp r p hx2 hx, ok3, inL_pair, c1, c2, l2]
          exact hJ' _ (by simp [et, twoR, rowD])
    · intro ρ h
      obtain ⟨x4, x5, e4, e5, rfl⟩ := (hJ _ _).mp h
      have et : twosOf ps (pre ++ [p]) = twosOf ps pre ++ ps.flatMap (twoIn ps p) := by simp [twosOf]
      rw [← et]
      simp
      exact (hI _ _).mpr ⟨_, _, x4, x5, rfl, rfl, e4, e5, rfl⟩
  · intro ρ h
    obtain ⟨x2, x3, x4, x5, e2, e3, e4, e5, rfl⟩ := (hI _ _).mp h
    have l0 : (twosOf ps ps).length ≤ ps.length * 37 := flat_len fun y _ => by
      have := flat_len (f := twoIn ps y) (c := 1) (l := ps) fun z _ => twoIn_len ps y z
      omega
    have so : sortOk ((twosOf ps ps).map rowD) = true := sortOk_rows (by omega) fun r hr => by
      obtain ⟨p, _, h⟩ := List.mem_flatMap.mp hr
      obtain ⟨q, _, h⟩ := List.mem_flatMap.mp h
      unfold twoIn at h
      split at h
      · cases h
      · simp at h; subst h; simp [twoR]
    clear h hI
    generalize twosOf ps ps = acc at so q
    simp [so, outs]
    exact q
/-! threes -/
def threeR (p : Str × Str) (z w : Str) : List Str := [Str.ofString "three", p.1, p.2, z, w]
def beside (ns : List Str) (ps : List (Str × Str)) (x z : Str) : List Str := ns.filter fun w => !decide ((x, w) ∈ ps) && !decide ((w, z) ∈ ps)
def threeIn (ns : List Str) (ps : List (Str × Str)) (p : Str × Str) (z : Str) : List (List Str) := (beside ns ps p.1 z).map (threeR p z)
def nexts (ps : List (Str × Str)) (p : Str × Str) : List Str := (ps.filter fun r => decide (r.1 = p.2)).map Prod.snd
def threesOf (ns : List Str) (ps as : List (Str × Str)) : List (List Str) := as.flatMap fun p => (nexts ps p).flatMap (threeIn ns ps p)
theorem beside_len (ns : List Str) (ps : List (Str × Str)) (x z : Str) : (beside ns ps x z).length ≤ ns.length := List.length_filter_le _ _
theorem threeIn_len (ns : List Str) (ps : List (Str × Str)) (p : Str × Str) (z : Str) : (threeIn ns ps p z).length ≤ ns.length := by rw [threeIn, List.length_map]; exact beside_len ns ps p.1 z
theorem nexts_len (ps : List (Str × Str)) (p : Str × Str) : (nexts ps p).length ≤ ps.length := by rw [nexts, List.length_map]; exact List.length_filter_le _ _
theorem threesOf_len {ns : List Str} {ps as : List (Str × Str)} (h1 : ns.length ≤ 6) (h2 : ps.length ≤ 37) : (threesOf ns ps as).length ≤ as.length * 222 := flat_len fun p _ => by
  have a := flat_len (f := threeIn ns ps p) (c := 6) (l := nexts ps p) fun z _ => Nat.le_trans (threeIn_len ns ps p z) h1
  have b := nexts_len ps p
  omega
theorem threes_w {ns : List Str} {ps : List (Str × Str)} (hn : ∀ x ∈ ns, PyData.strOk x = true) (hp : PairsIn ns ps) (hz : ps.length ≤ 37) (hl : ns.length ≤ 6) {Q : Sl → List Sl → Prop}
    (q : Q ⟨.own, .lst (sortL ((threesOf ns ps ps).map rowD))⟩ [⟨.fz, namesD ns⟩, ⟨.fz, pairsD ps⟩]) : wM m_threes [⟨.fz, namesD ns⟩, ⟨.fz, pairsD ps⟩] Q := by
  rw [m_threes, w_fn, b_threes]
  simp only [List.map_cons, List.map_nil, List.cons_append, List.nil_append, List.replicate_succ, List.replicate_zero]
  have ok3 : (D.lst (ps.map pairD)).ok = true := ok_lst (n := 1) (fun x hx => by obtain ⟨r, hr, rfl⟩ := List.mem_map.mp hx; exact fine_pair hn (hp r hr)) (by decide)
  have oks : ∀ x ∈ ns, (D.str x).ok = true := fun x hx => (fine_str (n := 0).mpr (hn x hx)).ok (by decide)
  have okp : ∀ x y : Str, x ∈ ns → y ∈ ns → (D.tup [.str x, .str y]).ok = true := fun x y h1 h2 => (fine_pair (p := (x, y)) hn ⟨h1, h2⟩).ok (by decide)
  simp [pairsD, namesD]
  obtain ⟨I, hI⟩ : ∃ I : List (Str × Str) → Rho → Prop, ∀ pre ρ, I pre ρ ↔ ∃ x3 x4 x5 x6, frx x3 = true ∧ frx x4 = true ∧ frx x5 = true ∧ frx x6 = true ∧ ρ = [some ⟨.fz, .lst (ns.map D.str)⟩, some ⟨.fz, .lst (ps.map pairD)⟩, some ⟨.own, .lst ((threesOf ns ps pre).map rowD)⟩, x3, x4, x5, x6, none, none] := ⟨_, fun _ _ => Iff.rfl⟩
  refine w_loopX pairD I ((hI _ _).mpr ⟨none, none, none, none, rfl, rfl, rfl, rfl, rfl⟩) ?_ ?_
  · intro pre p ρ hx hpre h
    obtain ⟨x3, x4, x5, x6, e3, e4, e5, e6, rfl⟩ := (hI _ _).mp h
    have l0 := threesOf_len (as := pre) hl hz
    have hpx := hp p hx
    simp [pairD, e3, e4]
    refine w_compP pairD (fun r => decide (r.1 = p.2)) (fun r => .str r.2) ?_ ?_
    · intro r hr
      simp [pairD, oks _ (hp r hr).1, oks _ hpx.2, eqD_str]
    · have nl := nexts_len ps p
      have en : (ps.filter fun r => decide (r.1 = p.2)).map (fun r => D.str r.2) = (nexts ps p).map D.str := by rw [nexts, List.map_map]; rfl
      have nm : ∀ z ∈ nexts ps p, z ∈ ns := fun z hz => by
        obtain ⟨r, hr, rfl⟩ := List.mem_map.mp hz
        exact (hp r (List.mem_filter.mp hr).1).2
      rw [en]
      have et0 : threesOf ns ps (pre ++ [p]) = threesOf ns ps pre ++ (nexts ps p).flatMap (threeIn ns ps p) := by simp [threesOf]
      have hI' : ∀ x5 x6, frx x5 = true → frx x6 = true → I (pre ++ [p]) [some ⟨.fz, .lst (ns.map D.str)⟩, some ⟨.fz, .lst (ps.map pairD)⟩, some ⟨.own, .lst ((threesOf ns ps pre ++ (nexts ps p).flatMap (threeIn ns ps p)).map rowD)⟩, some ⟨.fz, .str p.1⟩, some ⟨.fz, .str p.2⟩, x5, x6, none, none] := fun x5 x6 e5 e6 => (hI _ _).mpr ⟨_, _, x5, x6, rfl, rfl, e5, e6, by rw [et0]⟩
      generalize nexts ps p = zs at nl nm hI' ⊢
      simp
      refine ⟨by omega, ?_⟩
      obtain ⟨J, hJ⟩ : ∃ J : List Str → Rho → Prop, ∀ pre2 ρ, J pre2 ρ ↔ ∃ x5 x6, frx x5 = true ∧ frx x6 = true ∧ ρ = [some ⟨.fz, .lst (ns.map D.str)⟩, some ⟨.fz, .lst (ps.map pairD)⟩, some ⟨.own, .lst ((threesOf ns ps pre ++ pre2.flatMap (threeIn ns ps p)).map rowD)⟩, some ⟨.fz, .str p.1⟩, some ⟨.fz, .str p.2⟩, x5, x6, none, none] := ⟨_, fun _ _ => Iff.rfl⟩
      refine w_loopX D.str J ((hJ _ _).mpr ⟨x5, x6, e5, e6, by simp⟩) ?_ ?_
      · intro pre2 z ρ hx2 hpre2 h
        obtain ⟨x5, x6, e5, e6, rfl⟩ := (hJ _ _).mp h
        have l1 : (pre2.flatMap (threeIn ns ps p)).length ≤ pre2.length * 6 := flat_len fun z _ => Nat.le_trans (threeIn_len ns ps p z) hl
        have e2 : (threesOf ns ps pre ++ (pre2 ++ [z]).flatMap (threeIn ns ps p)) = (threesOf ns ps pre ++ pre2.flatMap (threeIn ns ps p)) ++ threeIn ns ps p z := by simp
        have l2 : (threesOf ns ps pre ++ pre2.flatMap (threeIn ns ps p)).length < 16777000 := by rw [List.length_append]; omega
        have hJ' : ∀ x6, frx x6 = true → J (pre2 ++ [z]) [some ⟨.fz, .lst (ns.map D.str)⟩, some ⟨.fz, .lst (ps.map pairD)⟩, some ⟨.own, .lst (((threesOf ns ps pre ++ pre2.flatMap (threeIn ns ps p)) ++ threeIn ns ps p z).map rowD)⟩, some ⟨.fz, .str p.1⟩, some ⟨.fz, .str p.2⟩, some ⟨.fz, .str z⟩, x6, none, none] := fun x6 e6 => (hJ _ _).mpr ⟨_, x6, rfl, e6, by rw [e2]⟩
        clear h
        generalize (threesOf ns ps pre ++ pre2.flatMap (threeIn ns ps p)) = acc at l2 hJ' ⊢
        simp [e5]
        obtain ⟨M, hM⟩ : ∃ M : List Str → Rho → Prop, ∀ pre3 ρ, M pre3 ρ ↔ ∃ x6, frx x6 = true ∧ ρ = [some ⟨.fz, .lst (ns.map D.str)⟩, some ⟨.fz, .lst (ps.map pairD)⟩, some ⟨.own, .lst ((acc ++ threeIn pre3 ps p z).map rowD)⟩, some ⟨.fz, .str p.1⟩, some ⟨.fz, .str p.2⟩, some ⟨.fz, .str z⟩, x6, none, none] := ⟨_, fun _ _ => Iff.rfl⟩
        refine w_loopX D.str M ((hM _ _).mpr ⟨x6, e6, by simp [threeIn, beside]⟩) ?_ ?_
        · intro pre3 w ρ hx3 hpre3 h
          obtain ⟨x6, e6, rfl⟩ := (hM _ _).mp h
          have l3 := threeIn_len pre3 ps p z
          have ea : threeIn (pre3 ++ [w]) ps p z = threeIn pre3 ps p z ++ (if (!decide ((p.1, w) ∈ ps) && !decide ((w, z) ∈ ps)) = true then [threeR p z w] else []) := by
            unfold threeIn beside
            rw [List.filter_append, List.map_append]
            congr 1
            by_cases c : (!decide ((p.1, w) ∈ ps) && !decide ((w, z) ∈ ps)) = true <;> simp [c]
          have l4 : (acc ++ threeIn pre3 ps p z).length < 16777216 := by rw [List.length_append]; omega
          have hM' : ∀ A, A = ((acc ++ threeIn pre3 ps p z) ++ (if (!decide ((p.1, w) ∈ ps) && !decide ((w, z) ∈ ps)) = true then [threeR p z w] else [])).map rowD → M (pre3 ++ [w]) [some ⟨.fz, .lst (ns.map D.str)⟩, some ⟨.fz, .lst (ps.map pairD)⟩, some ⟨.own, .lst A⟩, some ⟨.fz, .str p.1⟩, some ⟨.fz, .str p.2⟩, some ⟨.fz, .str z⟩, some ⟨.fz, .str w⟩, none, none] := by
            rintro A rfl
            exact (hM _ _).mpr ⟨_, rfl, by rw [ea, List.append_assoc]⟩
          clear h
          generalize (acc ++ threeIn pre3 ps p z) = acc3 at l4 hM' ⊢
          by_cases c1 : (p.1, w) ∈ ps
          · simp [e6, okp _ _ hpx.1 hx3, okp _ _ hx3 (nm z hx2), ok3, inL_pair, c1]
            exact hM' _ (by simp [c1])
          · by_cases c2 : (w, z) ∈ ps
            · simp [e6, okp _ _ hpx.1 hx3, okp _ _ hx3 (nm z hx2), ok3, inL_pair, c1, c2]
              exact hM' _ (by simp [c2])
            · simp [e6, okp _ _ hpx.1 hx3, okp _ _ hx3 (nm z hx2), ok3, inL_pair, c1, c2, l4]
              exact hM' _ (by simp [c1, c2, threeR, rowD])
        · intro ρ h
          obtain ⟨x6, e6, rfl⟩ := (hM _ _).mp h
          simp only []
          generalize (acc ++ threeIn ns ps p z) = acc4 at hJ' ⊢
          simp
          exact hJ' x6 e6
      · intro ρ h
        obtain ⟨x5, x6, e5, e6, rfl⟩ := (hJ _ _).mp h
        have := hI' x5 x6 e5 e6
        generalize (threesOf ns ps pre ++ zs.flatMap (threeIn ns ps p)) = acc4 at this ⊢
        simp
        exact this
  · intro ρ h
    obtain ⟨x3, x4, x5, x6, e3, e4, e5, e6, rfl⟩ := (hI _ _).mp h
    have l0 := threesOf_len (as := ps) hl hz
    have so : sortOk ((threesOf ns ps ps).map rowD) = true := sortOk_rows (by omega) fun r hr => by
      obtain ⟨p, _, h⟩ := List.mem_flatMap.mp hr
      obtain ⟨z, _, h⟩ := List.mem_flatMap.mp h
      obtain ⟨w, _, rfl⟩ := List.mem_map.mp h
      simp [threeR]
    clear h hI
    generalize threesOf ns ps ps = acc at so q
    simp [so]
    exact q
end VI

namespace VI
open PySem PySem.Spec PyProof.Rows L2
/-! ### the law's own patterns -/
def lawIn (ns : List Str) (ps : List (Str × Str)) (p r : Str × Str) : List (List Str) := twoIn ps p r ++ if r.1 = p.2 then threeIn ns ps p r.2 else []
def lawOf (ns : List Str) (ps as : List (Str × Str)) : List (List Str) := as.flatMap fun p => ps.flatMap (lawIn ns ps p)
theorem lawIn_len {ns : List Str} {ps : List (Str × Str)} (h : ns.length ≤ 6) (p r : Str × Str) : (lawIn ns ps p r).length ≤ 7 := by
  unfold lawIn
  have a := twoIn_len ps p r
  have b := threeIn_len ns ps p r.2
  rw [List.length_append]
  split
  · omega
  · simp; omega
theorem lawOf_len {ns : List Str} {ps as : List (Str × Str)} (h1 : ns.length ≤ 6) (h2 : ps.length ≤ 37) : (lawOf ns ps as).length ≤ as.length * 259 := flat_len fun p _ => by
  have a := flat_len (f := lawIn ns ps p) (c := 7) (l := ps) fun z _ => lawIn_len h1 p z
  omega
theorem lawOf_ne {ns : List Str} {ps as : List (Str × Str)} : ∀ r ∈ lawOf ns ps as, r ≠ [] := fun r hr => by
  obtain ⟨p, _, h⟩ := List.mem_flatMap.mp hr
  obtain ⟨z, _, h⟩ := List.mem_flatMap.mp h
  unfold lawIn at h
  rcases List.mem_append.mp h with h | h
  · unfold twoIn at h
    split at h
    · cases h
    · simp at h; subst h; simp [twoR]
  · split at h
    · obtain ⟨w, _, rfl⟩ := List.mem_map.mp h
      simp [threeR]
    · cases h
theorem law_patterns_w {ns : List Str} {ps : List (Str × Str)} (hn : ∀ x ∈ ns, PyData.strOk x = true) (hp : PairsIn ns ps) (hz : ps.length ≤ 37) (hl : ns.length ≤ 6) {Q : Sl → List Sl → Prop}
    (q : Q ⟨.own, .lst (sortL ((lawOf ns ps ps).map rowD))⟩ [⟨.fz, namesD ns⟩, ⟨.fz, pairsD ps⟩]) : wM m_law_patterns [⟨.fz, namesD ns⟩, ⟨.fz, pairsD ps⟩] Q := by
  rw [m_law_patterns, w_fn, b_law_patterns]
  simp only [List.map_cons, List.map_nil, List.cons_append, List.nil_append, List.replicate_succ, List.replicate_zero]
  have ok3 : (D.lst (ps.map pairD)).ok = true := ok_lst (n := 1) (fun x hx => by obtain ⟨r, hr, rfl⟩ := List.mem_map.mp hx; exact fine_pair hn (hp r hr)) (by decide)
  have oks : ∀ x ∈ ns, (D.str x).ok = true := fun x hx => (fine_str (n := 0).mpr (hn x hx)).ok (by decide)
  have okp : ∀ x y : Str, x ∈ ns → y ∈ ns → (D.tup [.str x, .str y]).ok = true := fun x y h1 h2 => (fine_pair (p := (x, y)) hn ⟨h1, h2⟩).ok (by decide)
  simp [pairsD, namesD]
  obtain ⟨I, hI⟩ : ∃ I : List (Str × Str) → Rho → Prop, ∀ pre ρ, I pre ρ ↔ ∃ x3 x4 x5 x6 x7, frx x3 = true ∧ frx x4 = true ∧ frx x5 = true ∧ frx x6 = true ∧ frx x7 = true ∧ ρ = [some ⟨.fz, .lst (ns.map D.str)⟩, some ⟨.fz, .lst (ps.map pairD)⟩, some ⟨.own, .lst ((lawOf ns ps pre).map rowD)⟩, x3, x4, x5, x6, x7, none] := ⟨_, fun _ _ => Iff.rfl⟩
  refine w_loopX pairD I ((hI _ _).mpr ⟨none, none, none, none, none, rfl, rfl, rfl, rfl, rfl, rfl⟩) ?_ ?_
  · intro pre p ρ hx hpre h
    obtain ⟨x3, x4, x5, x6, x7, e3, e4, e5, e6, e7, rfl⟩ := (hI _ _).mp h
    have l0 := lawOf_len (as := pre) hl hz
    have hpx := hp p hx
    simp [pairD, e3, e4]
    obtain ⟨J, hJ⟩ : ∃ J : List (Str × Str) → Rho → Prop, ∀ pre2 ρ, J pre2 ρ ↔ ∃ x5 x6 x7, frx x5 = true ∧ frx x6 = true ∧ frx x7 = true ∧ ρ = [some ⟨.fz, .lst (ns.map D.str)⟩, some ⟨.fz, .lst (ps.map pairD)⟩, some ⟨.own, .lst ((lawOf ns ps pre ++ pre2.flatMap (lawIn ns ps p)).map rowD)⟩, some ⟨.fz, .str p.1⟩, some ⟨.fz, .str p.2⟩, x5, x6, x7, none] := ⟨_, fun _ _ => Iff.rfl⟩
    refine w_loopX pairD J ((hJ _ _).mpr ⟨x5, x6, x7, e5, e6, e7, by simp⟩) ?_ ?_
    · intro pre2 r ρ hx2 hpre2 h
      obtain ⟨x5, x6, x7, e5, e6, e7, rfl⟩ := (hJ _ _).mp h
      have hrx := hp r hx2
      have l1 : (pre2.flatMap (lawIn ns ps p)).length ≤ pre2.length * 7 := flat_len fun z _ => lawIn_len hl p z
      have e2 : (lawOf ns ps pre ++ (pre2 ++ [r]).flatMap (lawIn ns ps p)) = (lawOf ns ps pre ++ pre2.flatMap (lawIn ns ps p)) ++ lawIn ns ps p r := by simp
      have l2 : (lawOf ns ps pre ++ pre2.flatMap (lawIn ns ps p)).length < 16777000 := by rw [List.length_append]; omega
      have hJ' : ∀ A x7, frx x7 = true → A = ((lawOf ns ps pre ++ pre2.flatMap (lawIn ns ps p)) ++ lawIn ns ps p r).map rowD → J (pre2 ++ [r]) [some ⟨.fz, .lst (ns.map D.str)⟩, some ⟨.fz, .lst (ps.map pairD)⟩, some ⟨.own, .lst A⟩, some ⟨.fz, .str p.1⟩, some ⟨.fz, .str p.2⟩, some ⟨.fz, .str r.1⟩, some ⟨.fz, .str r.2⟩, x7, none] := by
        rintro A x7 e7 rfl
        exact (hJ _ _).mpr ⟨_, _, x7, rfl, rfl, e7, by rw [e2]⟩
      clear h
      generalize (lawOf ns ps pre ++ pre2.flatMap (lawIn ns ps p)) = acc at l2 hJ' ⊢
      -- behind the first if
      obtain ⟨M, hM⟩ : ∃ M : Fl → Rho → Prop, ∀ fl ρ, M fl ρ ↔ fl = .nx ∧ ρ = [some ⟨.fz, .lst (ns.map D.str)⟩, some ⟨.fz, .lst (ps.map pairD)⟩, some ⟨.own, .lst ((acc ++ twoIn ps p r).map rowD)⟩, some ⟨.fz, .str p.1⟩, some ⟨.fz, .str p.2⟩, some ⟨.fz, .str r.1⟩, some ⟨.fz, .str r.2⟩, x7, none] := ⟨_, fun _ _ => Iff.rfl⟩
      simp [pairD, e5, e6, -w_ifS_i]
      refine wS_mono (QS := M) ?_ ?_
      · by_cases c1 : (p.1, r.2) ∈ ps
        · simp [okp _ _ hpx.1 hrx.2, okp _ _ hrx.1 hpx.2, ok3, inL_pair, c1]
          exact (hM _ _).mpr ⟨rfl, by simp [twoIn, c1]⟩
        · by_cases c2 : (r.1, p.2) ∈ ps
          · simp [okp _ _ hpx.1 hrx.2, okp _ _ hrx.1 hpx.2, ok3, inL_pair, c1, c2]
            exact (hM _ _).mpr ⟨rfl, by simp [twoIn, c2]⟩
          · have l3 : acc.length < 16777216 := by omega
            simp [okp _ _ hpx.1 hrx.2, okp _ _ hrx.1 hpx.2, ok3, inL_pair, c1, c2, l3]
            exact (hM _ _).mpr ⟨rfl, by simp [twoIn, c1, c2, twoR, rowD]⟩
      · intro fl ρ h
        obtain ⟨rfl, rfl⟩ := (hM _ _).mp h
        have l3 := twoIn_len ps p r
        have hJ2 : ∀ A x7, frx x7 = true → A = ((acc ++ twoIn ps p r) ++ (if r.1 = p.2 then threeIn ns ps p r.2 else [])).map rowD → J (pre2 ++ [r]) [some ⟨.fz, .lst (ns.map D.str)⟩, some ⟨.fz, .lst (ps.map pairD)⟩, some ⟨.own, .lst A⟩, some ⟨.fz, .str p.1⟩, some ⟨.fz, .str p.2⟩, some ⟨.fz, .str r.1⟩, some ⟨.fz, .str r.2⟩, x7, none] := fun A x7 e7 e => hJ' A x7 e7 (by rw [e, lawIn, List.append_assoc])
        have l4 : (acc ++ twoIn ps p r).length < 16777100 := by rw [List.length_append]; omega
        clear h hJ'
        generalize (acc ++ twoIn ps p r) = acc2 at l4 hJ2 ⊢
        by_cases c3 : r.1 = p.2
        · have ec : eqD (.str r.1) (.str p.2) = true := by rw [eqD_str]; simp [c3]
          simp [oks _ hrx.1, oks _ hpx.2, ec]
          refine w_compP D.str (fun v => !decide ((p.1, v) ∈ ps) && !decide ((v, r.2) ∈ ps)) D.str ?_ ?_
          · intro v hv
            by_cases d1 : (p.1, v) ∈ ps
            · simp [okp _ _ hpx.1 hv, okp _ _ hv hrx.2, ok3, inL_pair, d1]
            · by_cases d2 : (v, r.2) ∈ ps
              · simp [okp _ _ hpx.1 hv, okp _ _ hv hrx.2, ok3, inL_pair, d1, d2]
              · simp [okp _ _ hpx.1 hv, okp _ _ hv hrx.2, ok3, inL_pair, d1, d2]
          · have l5 := beside_len ns ps p.1 r.2
            have hJ3 : ∀ A x7, frx x7 = true → A = (acc2 ++ (beside ns ps p.1 r.2).map (threeR p r.2)).map rowD → J (pre2 ++ [r]) [some ⟨.fz, .lst (ns.map D.str)⟩, some ⟨.fz, .lst (ps.map pairD)⟩, some ⟨.own, .lst A⟩, some ⟨.fz, .str p.1⟩, some ⟨.fz, .str p.2⟩, some ⟨.fz, .str r.1⟩, some ⟨.fz, .str r.2⟩, x7, none] := fun A x7 e7 e => hJ2 A x7 e7 (by rw [e, if_pos c3, threeIn])
            clear hJ2
            have eb : (ns.filter fun v => !decide ((p.1, v) ∈ ps) && !decide ((v, r.2) ∈ ps)) = beside ns ps p.1 r.2 := rfl
            rw [eb]
            generalize beside ns ps p.1 r.2 = bs at l5 hJ3 ⊢
            simp [e7]
            refine ⟨by omega, ?_⟩
            refine w_compP D.str (fun _ => true) (fun v => rowD (threeR p r.2 v)) ?_ ?_
            · intro v hv
              simp [rowD, threeR]
            · have ef : (bs.filter fun _ => true) = bs := List.filter_eq_self.mpr (by simp)
              rw [ef]
              simp
              refine ⟨by omega, by omega, ?_⟩
              exact hJ3 _ _ rfl (by simp)
        · simp [oks _ hrx.1, oks _ hpx.2, eqD_str, c3]
          exact hJ2 _ x7 e7 (by simp [c3])
    · intro ρ h
      obtain ⟨x5, x6, x7, e5, e6, e7, rfl⟩ := (hJ _ _).mp h
      have et : lawOf ns ps (pre ++ [p]) = lawOf ns ps pre ++ ps.flatMap (lawIn ns ps p) := by simp [lawOf]
      rw [← et]
      simp
      exact (hI _ _).mpr ⟨_, _, x5, x6, x7, rfl, rfl, e5, e6, e7, rfl⟩
  · intro ρ h
    obtain ⟨x3, x4, x5, x6, x7, e3, e4, e5, e6, e7, rfl⟩ := (hI _ _).mp h
    have l0 := lawOf_len (as := ps) hl hz
    have so : sortOk ((lawOf ns ps ps).map rowD) = true := sortOk_rows (by omega) lawOf_ne
    clear h hI
    generalize lawOf ns ps ps = acc at so q
    simp [so]
    exact q
/-! ### both are one list -/
theorem fm_perm {α β : Type} (f g : α → List β) : ∀ l : List α, (l.flatMap fun x => f x ++ g x).Perm (l.flatMap f ++ l.flatMap g)
  | [] => by simp
  | x :: l => by
    have ih := fm_perm f g l
    simp only [List.flatMap_cons, List.append_assoc]
    refine List.Perm.append_left _ ?_
    refine (List.Perm.append_left _ ih).trans ?_
    exact List.perm_append_comm_assoc _ _ _
theorem fm_congr {α β : Type} {f g : α → List β} : ∀ {l : List α}, (∀ x ∈ l, (f x).Perm (g x)) → (l.flatMap f).Perm (l.flatMap g)
  | [], _ => by simp
  | x :: l, h => by
    rw [List.flatMap_cons, List.flatMap_cons]
    exact (h x List.mem_cons_self).append (fm_congr fun y hy => h y (List.mem_cons_of_mem _ hy))
theorem nexts_fm {β : Type} (F : Str → List β) (p : Str × Str) : ∀ ps : List (Str × Str), (nexts ps p).flatMap F = ps.flatMap fun r => if r.1 = p.2 then F r.2 else []
  | [] => rfl
  | r :: ps => by
    have ih := nexts_fm F p ps
    rw [List.flatMap_cons, ← ih]
    unfold nexts
    by_cases c : r.1 = p.2
    · simp [c]
    · simp [c]
theorem law_perm (ns : List Str) (ps as : List (Str × Str)) : (lawOf ns ps as).Perm (threesOf ns ps as ++ twosOf ps as) := by
  have h : (lawOf ns ps as).Perm (as.flatMap fun p => (ps.flatMap (twoIn ps p)) ++ (nexts ps p).flatMap (threeIn ns ps p)) := fm_congr fun p _ => by
    rw [nexts_fm]
    exact fm_perm (twoIn ps p) (fun r => if r.1 = p.2 then threeIn ns ps p r.2 else []) ps
  exact (h.trans (fm_perm _ _ as)).trans List.perm_append_comm
theorem three_two (p r : Str × Str) (z w : Str) (q : Str × Str) : dLe (rowD (threeR p z w)) (rowD (twoR q r)) = true := by
  show (!PySem.W.dataLt (rowD (twoR q r)).py (rowD (threeR p z w)).py) = true
  have e1 : (rowD (twoR q r)).py = .tuple (.str (Str.ofString "two") :: pyL [.str q.1, .str q.2, .str r.1, .str r.2]) := by simp [rowD, twoR, D.py, pyL]
  have e2 : (rowD (threeR p z w)).py = .tuple (.str (Str.ofString "three") :: pyL [.str p.1, .str p.2, .str z, .str w]) := by simp [rowD, threeR, D.py, pyL]
  rw [e1, e2, PySem.W.dataLt_tuple, PySem.W.dataLt_cons (by simp [PySem.W.alike])]
  have e3 : PyData.eqv (.str (Str.ofString "two")) (.str (Str.ofString "three")) = false := by decide +kernel
  rw [e3, if_neg Bool.false_ne_true]
  decide +kernel
theorem both_one {ns : List Str} {ps : List (Str × Str)} (h1 : ns.length ≤ 6) (h2 : ps.length ≤ 37) : sortL ((lawOf ns ps ps).map rowD) = sortL ((threesOf ns ps ps).map rowD) ++ sortL ((twosOf ps ps).map rowD) := by
  have l0 := lawOf_len (as := ps) h1 h2
  refine sortL_app (sortOk_rows (by omega) lawOf_ne) ?_ ?_
  · rw [← List.map_append]
    exact (law_perm ns ps ps).map _
  · intro a ha b hb
    obtain ⟨u, hu, rfl⟩ := List.mem_map.mp ha
    obtain ⟨v, hv, rfl⟩ := List.mem_map.mp hb
    obtain ⟨p, _, h⟩ := List.mem_flatMap.mp hu
    obtain ⟨z, _, h⟩ := List.mem_flatMap.mp h
    obtain ⟨w, _, rfl⟩ := List.mem_map.mp h
    obtain ⟨p', _, h⟩ := List.mem_flatMap.mp hv
    obtain ⟨r', _, h⟩ := List.mem_flatMap.mp h
    unfold twoIn at h
    split at h
    · cases h
    · simp at h; subst h; exact three_two _ _ _ _ _
end VI

namespace VI
open PySem PySem.Spec PyProof.Rows L2
/-! ### the program's patterns -/
def progOf (ns : List Str) (ps : List (Str × Str)) : List D := sortL ((threesOf ns ps ps).map rowD) ++ sortL ((twosOf ps ps).map rowD)
theorem patterns_w {ns : List Str} {ps : List (Str × Str)} (hn : ∀ x ∈ ns, PyData.strOk x = true) (hp : PairsIn ns ps) (hz : ps.length ≤ 37) (hl : ns.length ≤ 6) {Q : Sl → List Sl → Prop}
    (q : Q ⟨.own, .lst (progOf ns ps)⟩ [⟨.fz, namesD ns⟩, ⟨.fz, pairsD ps⟩]) : wM m_patterns_of [⟨.fz, namesD ns⟩, ⟨.fz, pairsD ps⟩] Q := by
  rw [m_patterns_of, w_fn, b_patterns_of]
  simp only [List.map_cons, List.map_nil, List.cons_append, List.nil_append, List.replicate_succ, List.replicate_zero]
  simp
  refine threes_w hn hp hz hl ?_
  simp
  refine twos_w hn hp hz ?_
  have l1 := threesOf_len (as := ps) hl hz
  have l2 : (twosOf ps ps).length ≤ ps.length * 37 := flat_len fun y _ => by
    have := flat_len (f := twoIn ps y) (c := 1) (l := ps) fun z _ => twoIn_len ps y z
    omega
  have e1 : (sortL ((threesOf ns ps ps).map rowD)).length = (threesOf ns ps ps).length := by rw [(sortL_perm0 _).length_eq, List.length_map]
  have e2 : (sortL ((twosOf ps ps).map rowD)).length = (twosOf ps ps).length := by rw [(sortL_perm0 _).length_eq, List.length_map]
  unfold progOf at q
  simp
  exact ⟨by omega, q⟩
theorem alike_w {m m' : Md} {d : D} (h1 : d.ok = true) (h2 : reprOk d = true) {Q : Sl → List Sl → Prop} (q : Q ⟨.fz, .bl true⟩ [⟨m, d⟩, ⟨m', d⟩]) : wM m_law_alike [⟨m, d⟩, ⟨m', d⟩] Q := by
  rw [m_law_alike, w_fn, b_law_alike]
  have e0 := D.ok.s h1
  have e1 : eqD d d = true := SeqAt.eqv_refl _ (by unfold SeqAt.shaped at e0; exact (Bool.and_eq_true_iff.mp e0).1)
  have e2 : ∀ x : Str, eqD (.str x) (.str x) = true := fun x => by simp [eqD, D.py, PyData.eqv]
  simp only [List.map_cons, List.map_nil, List.cons_append, List.nil_append, List.replicate_succ, List.replicate_zero]
  simp [eqOk_of h1 h1, h2, e1, e2]
  cases m <;> cases m' <;> exact q
/-! ### the bag of a script -/
theorem bag_w {ns : List Int} (hl : ns.length ≤ 63) {Q : Sl → List Sl → Prop} (q : ∀ b, BagOk b → Q ⟨.own, b⟩ [⟨.fz, .seq (ns.map D.int)⟩]) : wM m_law_bag [⟨.fz, .seq (ns.map D.int)⟩] Q := by
  rw [m_law_bag, w_fn, b_law_bag]
  simp only [List.map_cons, List.map_nil, List.cons_append, List.nil_append, List.replicate_succ, List.replicate_zero]
  simp [cut_hi D.int ns (show (0 : Int) ≤ 63 by decide), -List.map_take]
  refine w_compP D.int (fun _ => true) (fun i => .int (if i < 0 then -i else i)) ?_ ?_
  · intro i _
    simp
  · have ef : ((ns.take 63).filter fun _ => true) = ns.take 63 := List.filter_eq_self.mpr (by simp)
    rw [ef]
    have l1 : (ns.take 63).length ≤ 63 := by rw [List.length_take]; omega
    have hb : BagOk (.lst [.int 0, .int 1234567891, .int 0, .lst ((ns.take 63).map fun i => .int (if i < 0 then -i else i))]) := by
      refine ⟨0, 1234567891, 0, _, rfl, by decide, ?_, by rw [List.length_map]; omega⟩
      intro d hd
      obtain ⟨i, _, rfl⟩ := List.mem_map.mp hd
      refine ⟨_, ?_, rfl⟩
      split <;> omega
    have := q _ hb
    generalize ns.take 63 = cs at l1 this ⊢
    simp
    refine ⟨by omega, this⟩
/-! ### what is shown can be shown -/
theorem good_two : Good (Str.ofString "two") := by decide +kernel
theorem good_three : Good (Str.ofString "three") := by decide +kernel
theorem shw_row {r : List Str} (h : GoodR r) (hl : r.length ≤ 5) : Shw 1 600 (rowD r) := by
  have := shw_tup (n := 0) (c := 82) (xs := r.map D.str) fun x hx => by
    obtain ⟨y, hy, rfl⟩ := List.mem_map.mp hx
    exact shw_str (h y hy).1 (h y hy).2
  refine this.mono (Nat.le_refl _) ?_
  rw [List.length_map]; omega
theorem good_law {ns : List Str} {ps : List (Str × Str)} (hg : ∀ x ∈ ns, Good x) (hp : PairsIn ns ps) : ∀ r ∈ lawOf ns ps ps, GoodR r ∧ r.length ≤ 5 := fun r hr => by
  obtain ⟨p, hpp, h⟩ := List.mem_flatMap.mp hr
  obtain ⟨z, hz, h⟩ := List.mem_flatMap.mp h
  have g1 := hp p hpp
  have g2 := hp z hz
  unfold lawIn at h
  rcases List.mem_append.mp h with h | h
  · unfold twoIn at h
    split at h
    · cases h
    · simp at h; subst h
      refine ⟨?_, by simp [twoR]⟩
      intro x hx
      simp [twoR] at hx
      rcases hx with rfl | rfl | rfl | rfl | rfl
      · exact good_two
      · exact hg _ g1.1
      · exact hg _ g1.2
      · exact hg _ g2.1
      · exact hg _ g2.2
  · split at h
    · obtain ⟨w, hw, rfl⟩ := List.mem_map.mp h
      refine ⟨?_, by simp [threeR]⟩
      intro x hx
      simp [threeR] at hx
      rcases hx with rfl | rfl | rfl | rfl | rfl
      · exact good_three
      · exact hg _ g1.1
      · exact hg _ g1.2
      · exact hg _ g2.2
      · exact hg _ (List.mem_filter.mp hw).1
    · cases h
theorem law_ok {ns : List Str} {ps : List (Str × Str)} (hg : ∀ x ∈ ns, Good x) (hp : PairsIn ns ps) (h1 : ns.length ≤ 6) (h2 : ps.length ≤ 37) : (D.lst (progOf ns ps)).ok = true ∧ reprOk (.lst (progOf ns ps)) = true ∧ (progOf ns ps).length ≤ 9583 := by
  have e : progOf ns ps = sortL ((lawOf ns ps ps).map rowD) := (both_one h1 h2).symm
  have hm : ∀ d ∈ progOf ns ps, ∃ r, GoodR r ∧ r.length ≤ 5 ∧ d = rowD r := fun d hd => by
    rw [e] at hd
    obtain ⟨r, hr, rfl⟩ := List.mem_map.mp ((sortL_perm0 _).mem_iff.mp hd)
    exact ⟨r, (good_law hg hp r hr).1, (good_law hg hp r hr).2, rfl⟩
  have l0 := lawOf_len (as := ps) h1 h2
  have l1 : (progOf ns ps).length ≤ 9583 := by rw [e, (sortL_perm0 _).length_eq, List.length_map]; omega
  refine ⟨ok_lst (n := 1) (fun x hx => ?_) (by decide), ?_, l1⟩
  · obtain ⟨r, h, _, rfl⟩ := hm x hx
    exact fine_row h
  · have := shw_lst (n := 1) (c := 600) (xs := progOf ns ps) fun x hx => by
      obtain ⟨r, h, h', rfl⟩ := hm x hx
      exact shw_row h h'
    exact this.ok (by decide) (by omega)
theorem in_ok {ns : List Str} {ps : List (Str × Str)} (hg : ∀ x ∈ ns, Good x) (hp : PairsIn ns ps) (h1 : ns.length ≤ 6) (h2 : ps.length ≤ 37) : reprOk (.lst [namesD ns, pairsD ps]) = true := by
  have a : Shw 2 30000 (namesD ns) := by
    have := shw_lst (n := 0) (c := 82) (xs := ns.map D.str) fun x hx => by
      obtain ⟨y, hy, rfl⟩ := List.mem_map.mp hx
      exact shw_str (hg y hy).1 (hg y hy).2
    refine this.mono (by decide) ?_
    rw [List.length_map]; omega
  have b : Shw 2 30000 (pairsD ps) := by
    have := shw_lst (n := 1) (c := 600) (xs := ps.map pairD) fun x hx => by
      obtain ⟨p, hy, rfl⟩ := List.mem_map.mp hx
      refine shw_row (r := [p.1, p.2]) ?_ (by simp)
      intro z hz
      simp at hz
      rcases hz with rfl | rfl
      · exact hg _ (hp p hy).1
      · exact hg _ (hp p hy).2
    refine this.mono (by decide) ?_
    rw [List.length_map]; omega
  have := shw_lst (n := 2) (c := 30000) (xs := [namesD ns, pairsD ps]) fun x hx => by
    simp at hx
    rcases hx with rfl | rfl
    · exact a
    · exact b
  exact this.ok (by decide) (by simp)
end VI

namespace VI
open PySem PySem.Spec PyProof.Rows L2
theorem rangeD0 (n : Nat) : rangeD 0 n = (List.range n).map fun i : Nat => D.int i := by
  unfold rangeD; exact List.map_congr_left fun i _ => by rw [Int.zero_add]
theorem prog_nil (ns : List Str) : progOf ns [] = [] := by
  unfold progOf
  have e1 : threesOf ns [] [] = [] := rfl
  have e2 : twosOf [] [] = [] := rfl
  rw [e1, e2]
  simp [sortL]
theorem good_a : Good (Str.ofString "a") := by decide +kernel
theorem law_w {ns : List Int} (hl : ns.length ≤ 63) : wM m_law [⟨.fz, .seq (ns.map D.int)⟩] fun r _ => r = ⟨.fz, .bl true⟩ := by
  rw [m_law, w_fn, b_law]
  simp only [List.map_cons, List.map_nil, List.cons_append, List.nil_append, List.replicate_succ, List.replicate_zero]
  generalize hscr : D.seq (ns.map D.int) = scr
  simp
  rw [← hscr]
  refine bag_w hl fun b hb => ?_
  rw [hscr]
  have p1 := fun (Q : Sl → List Sl → Prop) (q : Q ⟨.own, .lst []⟩ [⟨.fz, .lst []⟩, ⟨.fz, .lst []⟩]) => patterns_w (ns := []) (ps := []) (by simp) (by intro p hp; cases hp) (by simp) (by simp) (Q := Q) (by rw [prog_nil]; exact q)
  have p2 := fun (Q : Sl → List Sl → Prop) (q : Q ⟨.own, .lst []⟩ [⟨.fz, .lst [.str (Str.ofString "a")]⟩, ⟨.fz, .lst []⟩]) => patterns_w (ns := [Str.ofString "a"]) (ps := []) (by simp; exact good_a.1) (by intro p hp; cases hp) (by simp) (by simp) (Q := Q) (by rw [prog_nil]; exact q)
  simp
  refine p1 _ ?_
  simp [ok_nil, eqD_nil]
  refine p2 _ ?_
  simp [ok_nil, eqD_nil, rangeD, -List.map_map]
  clear p1 p2
  obtain ⟨I, hI⟩ : ∃ I : List Nat → Rho → Prop, ∀ pre ρ, I pre ρ ↔ ∃ b x2 x3 x4 x5 x6 x7 x8 x9, BagOk b ∧ frx x2 = true ∧ frx x3 = true ∧ frx x4 = true ∧ frx x5 = true ∧ frx x6 = true ∧ frx x7 = true ∧ frx x8 = true ∧ frx x9 = true ∧ ρ = [some ⟨.fz, scr⟩, some ⟨.own, b⟩, x2, x3, x4, x5, x6, x7, x8, x9] := ⟨_, fun _ _ => Iff.rfl⟩
  refine w_loopX (fun i : Nat => D.int i) I ((hI _ _).mpr ⟨b, none, none, none, none, none, none, none, none, hb, rfl, rfl, rfl, rfl, rfl, rfl, rfl, rfl, rfl⟩) ?_ ?_
  · intro pre i ρ _ _ h
    obtain ⟨b, x2, x3, x4, x5, x6, x7, x8, x9, hb, e2, e3, e4, e5, e6, e7, e8, e9, rfl⟩ := (hI _ _).mp h
    clear h
    simp [e2]
    refine take_w hb (by decide) (by decide) fun t b1 t0 t1 hb1 => ?_
    simp
    refine names_w hb1 (by omega) (by omega) fun nms b2 hnm hb2 => ?_
    obtain ⟨hg, hl6, nx, hnx, ny, hny, hne⟩ := hnm
    have hs : ∀ x ∈ nms, PyData.strOk x = true := fun x hx => (hg x hx).1
    simp [e3]
    refine pairs_w hs hl6 fun ms hp => ?_
    have hpm : ∀ p ∈ pairsOfNames ms ms, p.1 ∈ nms ∧ p.2 ∈ nms := fun p h => ⟨hp.mem_iff.mp (pairs_mem h).1, hp.mem_iff.mp (pairs_mem h).2⟩
    have hpl : (pairsOfNames ms ms).length ≤ 36 := pairs_len (k := 6) (by rw [hp.length_eq]; exact hl6)
    have hex : (nx, ny) ∈ pairsOfNames ms ms := List.mem_flatMap.mpr ⟨nx, hp.mem_iff.mpr hnx, List.mem_map.mpr ⟨ny, List.mem_filter.mpr ⟨hp.mem_iff.mpr hny, by simp [Ne.symm hne]⟩, rfl⟩⟩
    simp [e4]
    refine mix_w (xs := (pairsOfNames ms ms).map pairD) hb2 (fun x hx => by
      obtain ⟨p, hp', rfl⟩ := List.mem_map.mp hx
      exact (fine_pair hs (hpm p hp')).mono (by decide)) (by rw [List.length_map]; omega) fun ys b3 hys hb3 => ?_
    obtain ⟨ev, hev, rfl⟩ := perm_map hys
    have hem : ∀ p ∈ ev, p.1 ∈ nms ∧ p.2 ∈ nms := fun p h => hpm p (hev.mem_iff.mp h)
    have hel : ev.length ≤ 36 := by rw [hev.length_eq]; exact hpl
    obtain ⟨e0, er, rfl⟩ : ∃ e0 er, ev = e0 :: er := by
      cases ev with
      | nil => exact absurd (hev.mem_iff.mpr hex) (by simp)
      | cons a l => exact ⟨a, l, rfl⟩
    simp [e4]
    refine take_w hb3 (by omega) (by simp at hel; omega) fun k b4 k0 k1 hb4 => ?_
    have hev2 : e0.1 ∈ nms ∧ e0.2 ∈ nms := hem e0 List.mem_cons_self
    have ecut : cutD (pairD e0 :: er.map pairD) none (some k) = ((e0 :: er).take k.toNat).map pairD := cut_hi pairD (e0 :: er) k0
    simp [e5, ecut, -List.map_take, -w_ifS_i]
    have hps0 : PairsIn nms ((e0 :: er).take k.toNat) := fun p h => hem p (List.mem_of_mem_take h)
    have hpl0 : ((e0 :: er).take k.toNat).length ≤ 37 := by rw [List.length_take]; omega
    generalize (e0 :: er).take k.toNat = ps0 at hps0 hpl0 ⊢
    -- behind the if: some betters of the names
    obtain ⟨M, hM⟩ : ∃ M : Fl → Rho → Prop, ∀ fl ρ, M fl ρ ↔ fl = .nx ∧ ∃ b ps, BagOk b ∧ PairsIn nms ps ∧ ps.length ≤ 37 ∧ ρ = [some ⟨.fz, scr⟩, some ⟨.own, b⟩, some ⟨.fz, .int i⟩, some ⟨.own, namesD nms⟩, some ⟨.own, .lst (pairD e0 :: er.map pairD)⟩, some ⟨.own, pairsD ps⟩, x6, x7, x8, x9] := ⟨_, fun _ _ => Iff.rfl⟩
    refine wS_mono (QS := M) ?_ ?_
    · simp
      refine take_w hb4 (by decide) (by decide) fun c b5 c0 c1 hb5 => ?_
      simp [ok_int, eqD_int]
      by_cases hc : c = 0
      · simp [hc]
        refine drawn_w hb5 hs hl6 fun qs b6 hb6 hq hql => ?_
        simp
        refine turned_w hs hq hql hev2 fun m rs hrs hrl => ?_
        simp
        refine mix_w (xs := rs.map pairD) hb6 (fun x hx => by
          obtain ⟨p, hp', rfl⟩ := List.mem_map.mp hx
          exact (fine_pair hs (hrs p hp')).mono (by decide)) (by rw [List.length_map]; omega) fun zs b7 hzs hb7 => ?_
        obtain ⟨us, hus, rfl⟩ := perm_map hzs
        simp
        exact (hM _ _).mpr ⟨rfl, b7, us, hb7, fun p h => hrs p (hus.mem_iff.mp h), by rw [hus.length_eq]; exact hrl, rfl⟩
      · simp [hc]
        exact (hM _ _).mpr ⟨rfl, b5, ps0, hb5, hps0, hpl0, rfl⟩
    · intro fl ρ h
      obtain ⟨rfl, b6, ps, hb6, hps, hpl, rfl⟩ := (hM _ _).mp h
      have io := in_ok hg hps hl6 hpl
      obtain ⟨lo1, lo2, lo3⟩ := law_ok hg hps hl6 hpl
      simp [io]
      refine law_patterns_w hs hps hpl hl6 ?_
      rw [both_one hl6 hpl]
      have ep : sortL ((threesOf nms ps ps).map rowD) ++ sortL ((twosOf ps ps).map rowD) = progOf nms ps := rfl
      rw [ep]
      simp [e7, e8, rangeD, -List.map_map]
      generalize hsh : (D.lst [namesD nms, pairsD ps]).py.shown = shn
      obtain ⟨J, hJ⟩ : ∃ J : List Nat → Rho → Prop, ∀ pre ρ, J pre ρ ↔ ∃ x6 x9, frx x6 = true ∧ frx x9 = true ∧ ρ = [some ⟨.fz, scr⟩, some ⟨.own, b6⟩, some ⟨.fz, .int i⟩, some ⟨.fz, namesD nms⟩, some ⟨.own, .lst (pairD e0 :: er.map pairD)⟩, some ⟨.fz, pairsD ps⟩, x6, some ⟨.fz, .str shn⟩, some ⟨.own, .lst (progOf nms ps)⟩, x9] := ⟨_, fun _ _ => Iff.rfl⟩
      refine w_loopX (fun i : Nat => D.int i) J ((hJ _ _).mpr ⟨x6, x9, e6, e9, rfl⟩) ?_ ?_
      · intro pre2 a ρ _ _ h
        obtain ⟨x6, x9, e6, e9, rfl⟩ := (hJ _ _).mp h
        clear h
        simp [e6]
        refine patterns_w hs hps hpl hl6 ?_
        simp [e9]
        refine alike_w lo1 lo2 ?_
        have lo4 : (progOf nms ps).length < 16777216 := by omega
        simp [io, hsh, eqD_str, lo4]
        exact (hJ _ _).mpr ⟨_, _, rfl, rfl, rfl⟩
      · intro ρ h
        obtain ⟨x6, x9, e6, e9, rfl⟩ := (hJ _ _).mp h
        simp
        exact (hI _ _).mpr ⟨b6, _, _, _, _, x6, _, _, x9, hb6, rfl, rfl, rfl, rfl, e6, rfl, rfl, e9, rfl⟩
  · intro ρ h
    obtain ⟨b, x2, x3, x4, x5, x6, x7, x8, x9, hb, e2, e3, e4, e5, e6, e7, e8, e9, rfl⟩ := (hI _ _).mp h
    simp
theorem law_holds (K : PySem.W.Frag) (H : Hp) (a : Addr) (ns : List Int) (hl : ns.length ≤ 63) (hS : SqL K H a (ns.map V.int)) : spG K 1 m_law [.ref a] H fun v _ => v = .bl true := law_of (law_w hl) K H a hS
end VI

open PySem PySem.W PyProof.Rows
set_option maxRecDepth 100000 in
set_option maxHeartbeats 8000000 in
theorem PySem.Challenge.cw_barelybetter_k40_patterns_holds : PySem.Challenge.rw_barelybetter_k40_patterns.Holds := by
  w_on; o_law; k_head; (case hw => w_witness2)
  k_fill
  refine VI.walk_law (l := PySem.Challenge.rw_barelybetter_k40_patterns) (n := 63) (k := 4) (x := "_law_script") (sp := fun K => VI.spG K 1 VI.m_law) rfl (by decide) rfl ⟨rfl, by decide, by decide⟩ (fun w h Y => PySem.W.kIn_of Y) ?F (fun K H a ns hl hS => VI.law_holds K H a ns hl hS)
  case F =>
    intro w mg fa h KX G hmg
    refine' VI.all_mk KX G hmg ?a0 ?l0 ?c0 ?k0 ?a1 ?l1 ?c1 ?k1 ?a2 ?l2 ?c2 ?k2 ?a3 ?l3 ?c3 ?k3 ?a4 ?l4 ?c4 ?k4 ?a5 ?l5 ?c5 ?k5 ?a6 ?l6 ?c6 ?k6 ?a7 ?l7 ?c7 ?k7 ?a8 ?l8 ?c8 ?k8 ?a9 ?l9 ?c9 ?k9 ?a10 ?l10 ?c10 ?k10 ?a11 ?l11 ?c11 ?k11 ?a12 ?l12 ?c12 ?k12 ?a13 ?l13 ?c13 ?k13 ?a14 ?l14 ?c14 ?k14 ?z_abs ?z_dict ?z_int ?z_len ?z_list ?z_range ?z_repr ?z_sorted
    case a0 => k_is
    case l0 => k_is
    case c0 => k_is
    case k0 => k_is
    case a1 => k_is
    case l1 => k_is
    case c1 => k_is
    case k1 => k_is
    case a2 => k_is
    case l2 => k_is
    case c2 => k_is
    case k2 => k_is
    case a3 => k_is
    case l3 => k_is
    case c3 => k_is
    case k3 => k_is
    case a4 => k_is
    case l4 => k_is
    case c4 => k_is
    case k4 => k_is
    case a5 => k_is
    case l5 => k_is
    case c5 => k_is
    case k5 => k_is
    case a6 => k_is
    case l6 => k_is
    case c6 => k_is
    case k6 => k_is
    case a7 => k_is
    case l7 => k_is
    case c7 => k_is
    case k7 => k_is
    case a8 => k_is
    case l8 => k_is
    case c8 => k_is
    case k8 => k_is
    case a9 => k_is
    case l9 => k_is
    case c9 => k_is
    case k9 => k_is
    case a10 => k_is
    case l10 => k_is
    case c10 => k_is
    case k10 => k_is
    case a11 => k_is
    case l11 => k_is
    case c11 => k_is
    case k11 => k_is
    case a12 => k_is
    case l12 => k_is
    case c12 => k_is
    case k12 => k_is
    case a13 => k_is
    case l13 => k_is
    case c13 => k_is
    case k13 => k_is
    case a14 => k_is
    case l14 => k_is
    case c14 => k_is
    case k14 => k_is
    case z_abs => k_is
    case z_dict => k_is
    case z_int => k_is
    case z_len => k_is
    case z_list => k_is
    case z_range => k_is
    case z_repr => k_is
    case z_sorted => k_is
