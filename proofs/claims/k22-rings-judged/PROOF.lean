import PyProof.Rows.All
import Wide.All
import OpenK.AllK
import Wide.FinOn
import HandS.ForMost
import HandS.Walk
import HandS.Deep
import HandS.Conv
import HandS.More
import HandS.Style
import KE.SortData
import PyProof.ReprRoads
import PyProof.ListStr
import HandS.Strs
import PyProof.WalksMore
import HandS.IsInst
import HandS.Small
import PyProof.P3In
import HandS.DictTup
import HandS.DictComp
import HandS.TupAny
import HandS.TupLe
import HandS.TupLen
import HandS.TryOnly
import HandS.Star
import HandS.Defaults
import PyProof.StrLawsRepr
import PyProof.ReprText
import PySem.Challenge.RW_barelybetter_k22_rings_judged
set_option Elab.async false
set_option linter.all false
set_option maxRecDepth 100000
set_option maxHeartbeats 4000000
/-! Value semantics over the hand layer: data, what a value shows, the state's relation, steps. -/
namespace VI
open PySem PySem.Spec PyProof.Rows L2

/-- the class of the text that has a name -/
def clsA (K : PySem.W.Frag) (c : Str) : Option Addr := match PySem.W.nsIn K mainGlobals c with
  | some (some (.ref C)) => some C
  | _ => none
/-- data without addresses -/
inductive D where
  | non | bl (b : Bool) | int (i : Int) | str (x : Str)
  | tup (xs : List D) | lst (xs : List D)
  | dK (es : List (Key × D)) | dT (es : List (List Key × D))
  | ins (c : Str) (fs : List (Str × D))
  | ptr (a : Addr)
  | seq (xs : List D) | tupK (xs : List D)
  | ty (n : String) | cls (c : Str)
  deriving Inhabited

mutual
inductive Rep (K : PySem.W.Frag) (F : Hp) : V → D → Prop
  | non : Rep K F .non .non
  | bl (b : Bool) : Rep K F (.bl b) (.bl b)
  | int (i : Int) : Rep K F (.int i) (.int i)
  | str (x : Str) : Rep K F (.str x) (.str x)
  | tup {a : Addr} {vs : List V} {ds : List D} : F a = some (.tup vs) → RepL K F vs ds → Rep K F (.ref a) (.tup ds)
  | lst {a : Addr} {vs : List V} {ds : List D} : F a = some (.lst vs) → RepL K F vs ds → Rep K F (.ref a) (.lst ds)
  | dK {a : Addr} {kvs : List (Key × V)} {es : List (Key × D)} : Rd F a (.dK kvs) → kvs.map Prod.fst = es.map Prod.fst → RepL K F (kvs.map Prod.snd) (es.map Prod.snd) → Rep K F (.ref a) (.dK es)
  | dT {a : Addr} {kvs : List (List Key × V)} {es : List (List Key × D)} : Rd F a (.dT kvs) → kvs.map Prod.fst = es.map Prod.fst → RepL K F (kvs.map Prod.snd) (es.map Prod.snd) → Rep K F (.ref a) (.dT es)
  | ins {a C dx : Addr} {c : Str} {vfs : List (Str × V)} {fs : List (Str × D)} : clsA K c = some C → F a = some (.ins C dx vfs) → vfs.map Prod.fst = fs.map Prod.fst → RepL K F (vfs.map Prod.snd) (fs.map Prod.snd) → Rep K F (.ref a) (.ins c fs)
  | ptr (a : Addr) : Rep K F (.ref a) (.ptr a)
  | seq {a : Addr} {vs : List V} {ds : List D} : SqL K F a vs → RepL K F vs ds → Rep K F (.ref a) (.seq ds)
  | tupK {a : Addr} {vs : List V} {ds : List D} : SqT K F a vs → RepL K F vs ds → Rep K F (.ref a) (.tupK ds)
  | ty (n : String) : Rep K F (.ty n) (.ty n)
  | cls {C : Addr} {c : Str} : clsA K c = some C → Rep K F (.ref C) (.cls c)
inductive RepL (K : PySem.W.Frag) (F : Hp) : List V → List D → Prop
  | nil : RepL K F [] []
  | cons {v : V} {vs : List V} {d : D} {ds : List D} : Rep K F v d → RepL K F vs ds → RepL K F (v :: vs) (d :: ds)
end

def Le (F H : Hp) : Prop := ∀ a o, F a = some o → H a = some o
theorem Le.refl (F : Hp) : Le F F := fun _ _ h => h
theorem Le.trans {F G H : Hp} (a : Le F G) (b : Le G H) : Le F H := fun x o h => b x o (a x o h)
theorem Le.rd {F H : Hp} {a : Addr} {u : HO} (e : Le F H) (h : Rd F a u) : Rd H a u := by
  rcases h with h | ⟨o, h⟩
  · exact .inl (e a _ h)
  · exact .inr ⟨o, e a _ h⟩
theorem Le.sqL {K : PySem.W.Frag} {F H : Hp} {a : Addr} {xs : List V} (e : Le F H) (h : SqL K F a xs) : SqL K H a xs := by
  rcases h with h | h
  · exact .inl (e.rd h)
  · exact .inr h
theorem Le.sqT {K : PySem.W.Frag} {F H : Hp} {a : Addr} {xs : List V} (e : Le F H) (h : SqT K F a xs) : SqT K H a xs := by
  rcases h with h | h
  · exact .inl (e.rd h)
  · exact .inr h
theorem Le.upd {F : Hp} {p : Addr} {o : HO} (h : F p = none) : Le F (upd F p o) := fun a u e => by
  rw [upd_ne (ne_of_none e h)]; exact e
theorem Le.upd2 {F H : Hp} {p : Addr} {o : HO} (e : Le F H) (h : F p = none) : Le F (L2.upd H p o) := fun a u q => by
  rw [upd_ne (ne_of_none q h)]; exact e a u q
theorem Le.both {F H : Hp} {p : Addr} {o : HO} (e : Le F H) : Le (L2.upd F p o) (L2.upd H p o) := fun a u q => by
  by_cases h : a = p
  · subst h; rw [upd_same] at q ⊢; exact q
  · rw [upd_ne h] at q ⊢; exact e a u q
theorem Le.none {F H : Hp} {p : Addr} (e : Le F H) (h : H p = Option.none) : F p = Option.none := by
  cases q : F p with
  | none => rfl
  | some o => rw [e p o q] at h; cases h

theorem Rep.mono {K : PySem.W.Frag} {F H : Hp} (e : Le F H) {v : V} {d : D} (h : Rep K F v d) : Rep K H v d :=
  Rep.rec (motive_1 := fun v d _ => Rep K H v d) (motive_2 := fun vs ds _ => RepL K H vs ds) .non .bl .int .str (fun h1 _ q => .tup (e _ _ h1) q) (fun h1 _ q => .lst (e _ _ h1) q)
    (fun h1 h2 _ q => .dK (e.rd h1) h2 q) (fun h1 h2 _ q => .dT (e.rd h1) h2 q) (fun h0 h1 h2 _ q => .ins h0 (e _ _ h1) h2 q) .ptr (fun h1 _ q => .seq (e.sqL h1) q) (fun h1 _ q => .tupK (e.sqT h1) q) .ty .cls .nil (fun _ _ q r => .cons q r) h
theorem RepL.mono {K : PySem.W.Frag} {F H : Hp} (e : Le F H) {vs : List V} {ds : List D} (h : RepL K F vs ds) : RepL K H vs ds := by
  induction ds generalizing vs with
  | nil => cases h; exact .nil
  | cons d ds ih => cases h with | cons h1 h2 => exact .cons (h1.mono e) (ih h2)

section
variable {K : PySem.W.Frag} {F H : Hp} {vs : List V} {ds : List D}
theorem RepL.length : ∀ {vs : List V} {ds : List D}, RepL K F vs ds → vs.length = ds.length
  | _, _, .nil => rfl
  | _, _, .cons _ t => by rw [List.length_cons, List.length_cons, RepL.length t]
theorem RepL.get : ∀ {vs : List V} {ds : List D} {i : Nat} {v : V}, RepL K F vs ds → vs[i]? = some v → ∃ d, ds[i]? = some d ∧ Rep K F v d
  | _, _, _, _, .nil, e => by simp at e
  | _, _, 0, _, .cons r _, e => by simp at e; subst e; exact ⟨_, rfl, r⟩
  | _, _, i + 1, v, .cons _ t, e => by
    obtain ⟨d, h1, h2⟩ := RepL.get (i := i) (v := v) t (by simpa using e)
    exact ⟨d, by simpa using h1, h2⟩
theorem RepL.getD : ∀ {vs : List V} {ds : List D} {i : Nat} {d : D}, RepL K F vs ds → ds[i]? = some d → ∃ v, vs[i]? = some v ∧ Rep K F v d
  | _, _, _, _, .nil, e => by simp at e
  | _, _, 0, _, .cons r _, e => by simp at e; subst e; exact ⟨_, rfl, r⟩
  | _, _, i + 1, d, .cons _ t, e => by
    obtain ⟨v, h1, h2⟩ := RepL.getD (i := i) (d := d) t (by simpa using e)
    exact ⟨v, by simpa using h1, h2⟩
theorem RepL.append : ∀ {vs ws : List V} {ds es : List D}, RepL K F vs ds → RepL K F ws es → RepL K F (vs ++ ws) (ds ++ es)
  | _, _, _, _, .nil, q => q
  | _, _, _, _, .cons r t, q => .cons r (t.append q)
theorem RepL.take : ∀ {vs : List V} {ds : List D} (n : Nat), RepL K F vs ds → RepL K F (vs.take n) (ds.take n)
  | _, _, 0, _ => .nil
  | _, _, _ + 1, .nil => .nil
  | _, _, n + 1, .cons r t => .cons r (t.take n)
theorem RepL.drop : ∀ {vs : List V} {ds : List D} (n : Nat), RepL K F vs ds → RepL K F (vs.drop n) (ds.drop n)
  | _, _, 0, r => r
  | _, _, _ + 1, .nil => .nil
  | _, _, n + 1, .cons _ t => t.drop n
theorem RepL.set {v : V} {d : D} (r : Rep K F v d) : ∀ {vs : List V} {ds : List D} (n : Nat), RepL K F vs ds → RepL K F (vs.set n v) (ds.set n d)
  | _, _, _, .nil => .nil
  | _, _, 0, .cons _ t => .cons r t
  | _, _, n + 1, .cons q t => .cons q (t.set r n)
theorem RepL.eraseIdx : ∀ {vs : List V} {ds : List D} (n : Nat), RepL K F vs ds → RepL K F (vs.eraseIdx n) (ds.eraseIdx n)
  | _, _, _, .nil => .nil
  | _, _, 0, .cons _ t => t
  | _, _, n + 1, .cons q t => .cons q (t.eraseIdx n)
theorem RepL.reverse : ∀ {vs : List V} {ds : List D}, RepL K F vs ds → RepL K F vs.reverse ds.reverse
  | _, _, .nil => .nil
  | _, _, .cons r t => by
    rw [List.reverse_cons, List.reverse_cons]
    exact t.reverse.append (.cons r .nil)
theorem RepL.dropLast : ∀ {vs : List V} {ds : List D}, RepL K F vs ds → RepL K F vs.dropLast ds.dropLast
  | _, _, .nil => .nil
  | _, _, .cons _ .nil => .nil
  | _, _, .cons r (.cons q t) => .cons r (RepL.dropLast (.cons q t))
theorem RepL.one {v : V} {d : D} (h : Rep K F v d) : RepL K F [v] [d] := .cons h .nil
end

/-! ### slots -/
inductive Md where | fz | own | par | lent
  deriving DecidableEq
structure Sl where
  m : Md
  d : D
abbrev Rho := List (Option Sl)

/-- an object that nobody else holds -/
def OwnAt (K : PySem.W.Frag) (F H : Hp) (p : Addr) : D → Prop
  | .lst ds => ∃ vs, H p = some (.lst vs) ∧ RepL K F vs ds
  | .dK es => ∃ kvs : List (Key × V), H p = some (.dK kvs) ∧ kvs.map Prod.fst = es.map Prod.fst ∧ RepL K F (kvs.map Prod.snd) (es.map Prod.snd)
  | .dT es => ∃ kvs : List (List Key × V), H p = some (.dT kvs) ∧ kvs.map Prod.fst = es.map Prod.fst ∧ RepL K F (kvs.map Prod.snd) (es.map Prod.snd)
  | .ins c fs => ∃ C dx vfs, clsA K c = some C ∧ H p = some (.ins C dx vfs) ∧ vfs.map Prod.fst = fs.map Prod.fst ∧ RepL K F (vfs.map Prod.snd) (fs.map Prod.snd)
  | _ => False
theorem OwnAt.has {K : PySem.W.Frag} {F H : Hp} {p : Addr} {d : D} (h : OwnAt K F H p d) : ∃ o, H p = some o := by
  cases d <;> first | exact h.elim | (obtain ⟨vs, h, _⟩ := h; exact ⟨_, h⟩) | (obtain ⟨C, dx, vs, _, h, _⟩ := h; exact ⟨_, h⟩)
theorem OwnAt.noTup {K : PySem.W.Frag} {F H : Hp} {p : Addr} {d : D} {vs : List V} (h : OwnAt K F H p d) (e : H p = some (.tup vs)) : False := by
  cases d <;> first | exact h.elim | (obtain ⟨ws, h, _⟩ := h; rw [e] at h; cases h) | (obtain ⟨C, dx, ws, _, h, _⟩ := h; rw [e] at h; cases h)
theorem OwnAt.mono {K : PySem.W.Frag} {F F' H H' : Hp} {p : Addr} {d : D} (h : OwnAt K F H p d) (e : Le F F') (q : H' p = H p) : OwnAt K F' H' p d := by
  cases d with
  | lst ds => obtain ⟨vs, h1, h2⟩ := h; exact ⟨vs, q.trans h1, h2.mono e⟩
  | dK es => obtain ⟨vs, h1, h2, h3⟩ := h; exact ⟨vs, q.trans h1, h2, h3.mono e⟩
  | dT es => obtain ⟨vs, h1, h2, h3⟩ := h; exact ⟨vs, q.trans h1, h2, h3.mono e⟩
  | ins c fs => obtain ⟨C, dx, vs, h0, h1, h2, h3⟩ := h; exact ⟨C, dx, vs, h0, q.trans h1, h2, h3.mono e⟩
  | _ => exact h.elim
/-- frozen, it is data -/
theorem OwnAt.rep {K : PySem.W.Frag} {F H : Hp} {p : Addr} {d : D} (h : OwnAt K F H p d) : ∃ o, H p = some o ∧ ∀ F', Le F F' → F' p = some o → Rep K F' (.ref p) d := by
  cases d with
  | lst ds => obtain ⟨vs, h1, h2⟩ := h; exact ⟨_, h1, fun F' e q => .lst q (h2.mono e)⟩
  | dK es => obtain ⟨vs, h1, h2, h3⟩ := h; exact ⟨_, h1, fun F' e q => .dK (.inl q) h2 (h3.mono e)⟩
  | dT es => obtain ⟨vs, h1, h2, h3⟩ := h; exact ⟨_, h1, fun F' e q => .dT (.inl q) h2 (h3.mono e)⟩
  | ins c fs => obtain ⟨C, dx, vs, h0, h1, h2, h3⟩ := h; exact ⟨_, h1, fun F' e q => .ins h0 q h2 (h3.mono e)⟩
  | _ => exact h.elim

def SlOk (K : PySem.W.Frag) (F H : Hp) (v : V) (s : Sl) : Prop :=
  match s.m with
  | .fz => Rep K F v s.d
  | _ => ∃ p, v = .ref p ∧ F p = none ∧ OwnAt K F H p s.d
theorem SlOk.fz {K : PySem.W.Frag} {F H : Hp} {v : V} {s : Sl} (h : SlOk K F H v s) (e : s.m = .fz) : Rep K F v s.d := by
  unfold SlOk at h; rw [e] at h; exact h
theorem SlOk.nfz {K : PySem.W.Frag} {F H : Hp} {v : V} {s : Sl} (h : SlOk K F H v s) (e : s.m ≠ .fz) : ∃ p, v = .ref p ∧ F p = none ∧ OwnAt K F H p s.d := by
  unfold SlOk at h
  cases q : s.m with
  | fz => exact absurd q e
  | own => rw [q] at h; exact h
  | par => rw [q] at h; exact h
  | lent => rw [q] at h; exact h
theorem SlOk.mk_fz {K : PySem.W.Frag} {F H : Hp} {v : V} {s : Sl} (e : s.m = .fz) (h : Rep K F v s.d) : SlOk K F H v s := by
  unfold SlOk; rw [e]; exact h
theorem SlOk.mk_n {K : PySem.W.Frag} {F H : Hp} {p : Addr} {s : Sl} (e : s.m ≠ .fz) (h : F p = none) (q : OwnAt K F H p s.d) : SlOk K F H (.ref p) s := by
  unfold SlOk
  cases z : s.m with
  | fz => exact absurd z e
  | own => exact ⟨p, rfl, h, q⟩
  | par => exact ⟨p, rfl, h, q⟩
  | lent => exact ⟨p, rfl, h, q⟩

structure Rel (K : PySem.W.Frag) (F : Hp) (ρ : Rho) (σ : L2.St) (H : Hp) : Prop where
  le : Le F H
  len : ρ.length = σ.length
  at_ : ∀ (i : Nat) (s : Sl), ρ[i]? = some (some s) → ∃ v, σ[i]? = some (some v) ∧ SlOk K F H v s
  ne : ∀ (i j : Nat) (s t : Sl) (p : Addr), ρ[i]? = some (some s) → ρ[j]? = some (some t) → s.m ≠ .fz → t.m ≠ .fz → σ[i]? = some (some (.ref p)) → σ[j]? = some (some (.ref p)) → i = j

/-- what may be written -/
def Own (ρ : Rho) (σ : L2.St) (a : Addr) : Prop := ∃ (i : Nat) (s : Sl), ρ[i]? = some (some s) ∧ (s.m = .own ∨ s.m = .par) ∧ σ[i]? = some (some (.ref a))
def OwnO (ρ : Rho) (σ : L2.St) (a : Addr) : Prop := ∃ (i : Nat) (s : Sl), ρ[i]? = some (some s) ∧ s.m = .own ∧ σ[i]? = some (some (.ref a))
def Md.fixed : Md → Prop
  | .par => True
  | .lent => True
  | _ => False

def IsTup (o : HO) : Prop := ∃ vs, o = .tup vs
structure Stp (F : Hp) (ρ : Rho) (σ : L2.St) (H : Hp) (F' : Hp) (ρ' : Rho) (σ' : L2.St) (H' : Hp) : Prop where
  le : Le F F'
  keep : ∀ a o, H a = some o → ¬ Own ρ σ a → H' a = some o
  there : ∀ a o, H a = some o → ∃ o', H' a = some o' ∧ (IsTup o' → o' = o)
  newF : ∀ a o, F' a = some o → (∃ o', F a = some o') ∨ H a = none ∨ OwnO ρ σ a ∨ ∃ vs, H a = some (.tup vs)
  ownO : ∀ a, OwnO ρ' σ' a → OwnO ρ σ a ∨ H a = none
  fwd : ∀ (i : Nat) (m : Md) (d : D), m.fixed → ρ[i]? = some (some ⟨m, d⟩) → (∃ d', ρ'[i]? = some (some ⟨m, d'⟩)) ∧ σ'[i]? = σ[i]?
  bwd : ∀ (i : Nat) (m : Md) (d : D), m.fixed → ρ'[i]? = some (some ⟨m, d⟩) → ∃ d', ρ[i]? = some (some ⟨m, d'⟩)

theorem OwnO.own {ρ : Rho} {σ : L2.St} {a : Addr} (h : OwnO ρ σ a) : Own ρ σ a := by
  obtain ⟨i, s, h1, h2, h3⟩ := h; exact ⟨i, s, h1, .inl h2, h3⟩

section
variable {K : PySem.W.Frag} {F F1 F2 H H1 H2 : Hp} {ρ ρ1 ρ2 : Rho} {σ σ1 σ2 : L2.St}
theorem Stp.refl : Stp F ρ σ H F ρ σ H := ⟨Le.refl F, fun _ _ h _ => h, fun _ o h => ⟨o, h, fun _ => rfl⟩, fun _ o h => .inl ⟨o, h⟩, fun _ h => .inl h, fun _ _ d _ h => ⟨⟨d, h⟩, rfl⟩, fun _ _ d _ h => ⟨d, h⟩⟩
/-- what is own behind a step was own ahead of it, or is new -/
theorem Stp.own (s : Stp F ρ σ H F1 ρ1 σ1 H1) {a : Addr} (h : Own ρ1 σ1 a) : Own ρ σ a ∨ H a = none := by
  obtain ⟨i, sl, h1, h2, h3⟩ := h
  rcases h2 with h2 | h2
  · rcases s.ownO a ⟨i, sl, h1, h2, h3⟩ with q | q
    · exact .inl q.own
    · exact .inr q
  · obtain ⟨m, d⟩ := sl
    cases h2
    obtain ⟨d', e⟩ := s.bwd i .par d trivial h1
    obtain ⟨_, e2⟩ := s.fwd i .par d' trivial e
    exact .inl ⟨i, _, e, .inr rfl, by rw [← e2]; exact h3⟩
theorem Stp.trans (s : Stp F ρ σ H F1 ρ1 σ1 H1) (t : Stp F1 ρ1 σ1 H1 F2 ρ2 σ2 H2) : Stp F ρ σ H F2 ρ2 σ2 H2 := by
  refine ⟨s.le.trans t.le, fun a o h n => ?_, fun a o h => ?_, fun a o h => ?_, fun a h => ?_, fun i m d hm h => ?_, fun i m d hm h => ?_⟩
  · refine t.keep a o (s.keep a o h n) fun q => ?_
    rcases s.own q with z | z
    · exact n z
    · rw [h] at z; cases z
  · obtain ⟨o1, h1, t1⟩ := s.there a o h
    obtain ⟨o2, h2, t2⟩ := t.there a o1 h1
    exact ⟨o2, h2, fun z => by have e := t2 z; rw [e] at z ⊢; exact t1 z⟩
  · rcases t.newF a o h with ⟨o', q⟩ | q | q | ⟨vs, q⟩
    · exact s.newF a o' q
    · right; left
      cases z : H a with
      | none => rfl
      | some u => obtain ⟨o1, e1, _⟩ := s.there a u z; rw [e1] at q; cases q
    · rcases s.ownO a q with z | z
      · exact .inr (.inr (.inl z))
      · exact .inr (.inl z)
    · cases z : H a with
      | none => exact .inr (.inl rfl)
      | some u =>
        obtain ⟨o1, e1, t1⟩ := s.there a u z
        rw [q] at e1; cases e1
        exact .inr (.inr (.inr ⟨vs, by rw [← t1 ⟨vs, rfl⟩]⟩))
  · rcases t.ownO a h with q | q
    · exact s.ownO a q
    · right
      cases z : H a with
      | none => rfl
      | some u => obtain ⟨o1, e1, _⟩ := s.there a u z; rw [e1] at q; cases q
  · obtain ⟨⟨d', e⟩, e1⟩ := s.fwd i m d hm h
    obtain ⟨q, e2⟩ := t.fwd i m d' hm e
    exact ⟨q, e2.trans e1⟩
  · obtain ⟨d', e⟩ := t.bwd i m d hm h
    exact s.bwd i m d' hm e
end

/-- an expression's step: slots are kept, modes turn from own to frozen alone -/
structure StpE (F : Hp) (ρ : Rho) (σ : L2.St) (H : Hp) (F' : Hp) (ρ' : Rho) (H' : Hp) : Prop where
  stp : Stp F ρ σ H F' ρ' σ H'
  back : ∀ (j : Nat) (s' : Sl), ρ'[j]? = some (some s') → s'.m ≠ .fz → ∃ s, ρ[j]? = some (some s) ∧ s.m = s'.m
theorem StpE.refl {F H : Hp} {ρ : Rho} {σ : L2.St} : StpE F ρ σ H F ρ H := ⟨.refl, fun _ s h _ => ⟨s, h, rfl⟩⟩
theorem StpE.trans {F F1 F2 H H1 H2 : Hp} {ρ ρ1 ρ2 : Rho} {σ : L2.St} (s : StpE F ρ σ H F1 ρ1 H1) (t : StpE F1 ρ1 σ H1 F2 ρ2 H2) : StpE F ρ σ H F2 ρ2 H2 :=
  ⟨s.stp.trans t.stp, fun j s' h n => by
    obtain ⟨s1, e1, m1⟩ := t.back j s' h n
    obtain ⟨s0, e0, m0⟩ := s.back j s1 e1 (by rw [m1]; exact n)
    exact ⟨s0, e0, m0.trans m1⟩⟩

/-- a value that has come: data, or a new object of one's own (H: ahead) -/
def Res (K : PySem.W.Frag) (F' H H' : Hp) (v : V) (r : Sl) : Prop :=
  match r.m with
  | .fz => Rep K F' v r.d
  | .own => ∃ p, v = .ref p ∧ H p = none ∧ F' p = none ∧ OwnAt K F' H' p r.d
  | _ => False
theorem Res.fz {K : PySem.W.Frag} {F H H' : Hp} {v : V} {d : D} (h : Rep K F v d) : Res K F H H' v ⟨.fz, d⟩ := h
end VI

namespace VI
open PySem PySem.Spec PyProof.Rows L2

section
variable {K : PySem.W.Frag} {F F' F1 F2 H H' H1 H2 : Hp} {ρ ρ' ρ1 ρ2 : Rho} {σ : L2.St} {p : Addr} {o : HO}

/-- an address that no slot of one's own holds goes to the data -/
theorem Rel.freeze (R : Rel K F ρ σ H) (hF : F p = none) (hH : H p = some o) (hp : ∀ (j : Nat) (s : Sl), ρ[j]? = some (some s) → s.m ≠ .fz → σ[j]? ≠ some (some (.ref p))) : Rel K (upd F p o) ρ σ H := by
  have le : Le F (upd F p o) := Le.upd hF
  refine ⟨fun a u e => ?_, R.len, fun i s e => ?_, R.ne⟩
  · by_cases h : a = p
    · subst h; rw [upd_same] at e; cases e; exact hH
    · rw [upd_ne h] at e; exact R.le a u e
  · obtain ⟨v, hv, ok⟩ := R.at_ i s e
    refine ⟨v, hv, ?_⟩
    by_cases hm : s.m = .fz
    · exact .mk_fz hm ((ok.fz hm).mono le)
    · obtain ⟨q, rfl, fq, oq⟩ := ok.nfz hm
      have ne : q ≠ p := fun z => hp i s e hm (by rw [hv, z])
      exact .mk_n hm (by rw [upd_ne ne]; exact fq) (oq.mono le rfl)

theorem fresh_ne (R : Rel K F ρ σ H) (S : StpE F ρ σ H F' ρ' H') (hp : H p = none) : ∀ (j : Nat) (s : Sl), ρ'[j]? = some (some s) → s.m ≠ .fz → σ[j]? ≠ some (some (.ref p)) := fun j s e hm z => by
  obtain ⟨s0, e0, m0⟩ := S.back j s e hm
  obtain ⟨v, hv, ok⟩ := R.at_ j s0 e0
  obtain ⟨q, rfl, _, oq⟩ := ok.nfz (by rw [m0]; exact hm)
  obtain ⟨u, hu⟩ := oq.has
  rw [hv] at z
  cases z
  rw [hp] at hu; cases hu

/-- what comes of an operation on values: new objects alone -/
structure New (K : PySem.W.Frag) (F H F' H' : Hp) (v : V) (r : Sl) : Prop where
  leF : Le F F'
  leH : Le F' H'
  keep : Le H H'
  newF : ∀ a o, F' a = some o → (∃ o', F a = some o') ∨ H a = none ∨ ∃ vs, H a = some (.tup vs)
  res : Res K F' H H' v r

theorem SlOk.new {v : V} {s : Sl} {r : Sl} {w : V} (ok : SlOk K F H v s) (N : New K F H F' H' w r) : SlOk K F' H' v s := by
  by_cases hm : s.m = .fz
  · exact .mk_fz hm ((ok.fz hm).mono N.leF)
  · obtain ⟨q, rfl, fq, oq⟩ := ok.nfz hm
    obtain ⟨u, hu⟩ := oq.has
    refine .mk_n hm ?_ (oq.mono N.leF ((N.keep q u hu).trans hu.symm))
    cases z : F' q with
    | none => rfl
    | some w =>
      rcases N.newF q w z with ⟨o', e⟩ | e | ⟨vs, e⟩
      · rw [fq] at e; cases e
      · rw [hu] at e; cases e
      · exact (oq.noTup e).elim
theorem Rel.new {v : V} {r : Sl} (R : Rel K F ρ σ H) (N : New K F H F' H' v r) : Rel K F' ρ σ H' ∧ StpE F ρ σ H F' ρ H' := by
  refine ⟨⟨N.leH, R.len, fun i s e => ?_, R.ne⟩, ⟨⟨N.leF, fun a u h _ => N.keep a u h, fun a u h => ⟨u, N.keep a u h, fun _ => rfl⟩, fun a u h => ?_, fun a h => .inl h, fun _ _ d _ h => ⟨⟨d, h⟩, rfl⟩, fun _ _ d _ h => ⟨d, h⟩⟩, fun _ s h _ => ⟨s, h, rfl⟩⟩⟩
  · obtain ⟨v, hv, ok⟩ := R.at_ i s e
    exact ⟨v, hv, ok.new N⟩
  · rcases N.newF a u h with q | q | q
    · exact .inl q
    · exact .inr (.inl q)
    · exact .inr (.inr (.inr q))
theorem New.same {v : V} {d : D} (hl : Le F H) (h : Rep K F v d) : New K F H F H v ⟨.fz, d⟩ := ⟨.refl F, hl, .refl H, fun _ o e => .inl ⟨o, e⟩, h⟩
theorem New.tup {vs : List V} {ds : List D} (hl : Le F H) (hp : H p = none) (h : RepL K F vs ds) : New K F H (upd F p (.tup vs)) (upd H p (.tup vs)) (.ref p) ⟨.fz, .tup ds⟩ := by
  have fp := hl.none hp
  refine ⟨Le.upd fp, hl.both, Le.upd hp, fun a u e => ?_, ?_⟩
  · by_cases z : a = p
    · subst z; exact .inr (.inl hp)
    · rw [upd_ne z] at e; exact .inl ⟨u, e⟩
  · exact Rep.tup upd_same (h.mono (Le.upd fp))
theorem New.own {o : HO} {d : D} (hl : Le F H) (hp : H p = none) (h : OwnAt K F (upd H p o) p d) : New K F H F (upd H p o) (.ref p) ⟨.own, d⟩ :=
  ⟨.refl F, hl.upd2 (hl.none hp), Le.upd hp, fun _ u e => .inl ⟨u, e⟩, ⟨p, rfl, hp, hl.none hp, h⟩⟩
theorem New.lst {vs : List V} {ds : List D} (hl : Le F H) (hp : H p = none) (h : RepL K F vs ds) : New K F H F (upd H p (.lst vs)) (.ref p) ⟨.own, .lst ds⟩ :=
  New.own hl hp ⟨vs, upd_same, h⟩

/-! ### a view of a value -/
def Vw (K : PySem.W.Frag) (F H : Hp) (v : V) (d : D) : Prop := Rep K F v d ∨ ∃ p, v = .ref p ∧ F p = none ∧ OwnAt K F H p d
theorem SlOk.vw {v : V} {s : Sl} (ok : SlOk K F H v s) : Vw K F H v s.d := by
  by_cases hm : s.m = .fz
  · exact .inl (ok.fz hm)
  · exact .inr (ok.nfz hm)
theorem Vw.rep {v : V} {d : D} (h : Vw K F H v d) (l : Le F H) : Rep K H v d := by
  rcases h with h | ⟨p, rfl, _, h⟩
  · exact h.mono l
  · obtain ⟨o, e, q⟩ := h.rep
    exact q H l e
theorem Vw.int {v : V} {i : Int} (h : Vw K F H v (.int i)) : v = .int i := by
  rcases h with h | ⟨p, rfl, _, h⟩
  · cases h; rfl
  · exact h.elim
theorem Vw.str {v : V} {i : Str} (h : Vw K F H v (.str i)) : v = .str i := by
  rcases h with h | ⟨p, rfl, _, h⟩
  · cases h; rfl
  · exact h.elim
theorem Vw.bl {v : V} {i : Bool} (h : Vw K F H v (.bl i)) : v = .bl i := by
  rcases h with h | ⟨p, rfl, _, h⟩
  · cases h; rfl
  · exact h.elim
theorem Vw.non {v : V} (h : Vw K F H v .non) : v = .non := by
  rcases h with h | ⟨p, rfl, _, h⟩
  · cases h; rfl
  · exact h.elim
theorem Vw.lst {v : V} {ds : List D} (h : Vw K F H v (.lst ds)) (l : Le F H) : ∃ a vs, v = .ref a ∧ H a = some (.lst vs) ∧ RepL K F vs ds := by
  rcases h with h | ⟨p, rfl, _, h⟩
  · cases h with | lst h1 h2 => exact ⟨_, _, rfl, l _ _ h1, h2⟩
  · obtain ⟨vs, h1, h2⟩ := h; exact ⟨p, vs, rfl, h1, h2⟩
theorem Vw.seq {v : V} {ds : List D} (h : Vw K F H v (.seq ds)) (l : Le F H) : ∃ a vs, v = .ref a ∧ SqL K H a vs ∧ RepL K F vs ds := by
  rcases h with h | ⟨p, rfl, _, h⟩
  · cases h with | seq h1 h2 => exact ⟨_, _, rfl, l.sqL h1, h2⟩
  · exact h.elim
theorem Vw.tup {v : V} {ds : List D} (h : Vw K F H v (.tup ds)) (l : Le F H) : ∃ a vs, v = .ref a ∧ H a = some (.tup vs) ∧ RepL K F vs ds ∧ F a = some (.tup vs) := by
  rcases h with h | ⟨p, rfl, _, h⟩
  · cases h with | tup h1 h2 => exact ⟨_, _, rfl, l _ _ h1, h2, h1⟩
  · exact h.elim
theorem Vw.dK {v : V} {es : List (Key × D)} (h : Vw K F H v (.dK es)) (l : Le F H) : ∃ a kvs, v = .ref a ∧ Rd H a (.dK kvs) ∧ kvs.map Prod.fst = es.map Prod.fst ∧ RepL K F (kvs.map Prod.snd) (es.map Prod.snd) := by
  rcases h with h | ⟨p, rfl, _, h⟩
  · cases h with | dK h1 h2 h3 => exact ⟨_, _, rfl, l.rd h1, h2, h3⟩
  · obtain ⟨kvs, h1, h2, h3⟩ := h; exact ⟨p, kvs, rfl, .inl h1, h2, h3⟩
theorem Vw.dT {v : V} {es : List (List Key × D)} (h : Vw K F H v (.dT es)) (l : Le F H) : ∃ a kvs, v = .ref a ∧ Rd H a (.dT kvs) ∧ kvs.map Prod.fst = es.map Prod.fst ∧ RepL K F (kvs.map Prod.snd) (es.map Prod.snd) := by
  rcases h with h | ⟨p, rfl, _, h⟩
  · cases h with | dT h1 h2 h3 => exact ⟨_, _, rfl, l.rd h1, h2, h3⟩
  · obtain ⟨kvs, h1, h2, h3⟩ := h; exact ⟨p, kvs, rfl, .inl h1, h2, h3⟩
theorem Vw.ins {v : V} {c : Str} {fs : List (Str × D)} (h : Vw K F H v (.ins c fs)) (l : Le F H) : ∃ a C dx vfs, v = .ref a ∧ clsA K c = some C ∧ H a = some (.ins C dx vfs) ∧ vfs.map Prod.fst = fs.map Prod.fst ∧ RepL K F (vfs.map Prod.snd) (fs.map Prod.snd) := by
  rcases h with h | ⟨p, rfl, _, h⟩
  · cases h with | ins h0 h1 h2 h3 => exact ⟨_, _, _, _, rfl, h0, l _ _ h1, h2, h3⟩
  · obtain ⟨C, dx, kvs, h0, h1, h2, h3⟩ := h; exact ⟨p, C, dx, kvs, rfl, h0, h1, h2, h3⟩
inductive VwL (K : PySem.W.Frag) (F H : Hp) : List V → List D → Prop
  | nil : VwL K F H [] []
  | cons {v : V} {vs : List V} {d : D} {ds : List D} : Vw K F H v d → VwL K F H vs ds → VwL K F H (v :: vs) (d :: ds)
end

/-! ### expressions -/
abbrev ME := Rho → Option (Sl × Rho)
def tE (K : PySem.W.Frag) (f : ME) : TE := fun σ H Q => ∃ F ρ r ρ', Rel K F ρ σ H ∧ f ρ = some (r, ρ') ∧ ∀ v F' H', Rel K F' ρ' σ H' → StpE F ρ σ H F' ρ' H' → Res K F' H H' v r → Q v H'
abbrev VE (X : Cx) (e : Expr) (f : ME) : Prop := PE X e (tE X.K f)
theorem VE.of {X : Cx} {e : Expr} {t t' : TE} (h : PE X e t) (q : ∀ σ H Q, σ.length = X.N.length → t' σ H Q → t σ H Q) : PE X e t' := ⟨fun pins s σ H Q I w => h.run pins s σ H Q I (q σ H Q I.len w)⟩

def frz (f : ME) : ME := fun ρ => (f ρ).map fun x => (⟨.fz, x.1.d⟩, x.2)
section
variable {K : PySem.W.Frag} {σ : L2.St} {H : Hp} {Q : VK}
theorem Res.own_or {F' H H' : Hp} {v : V} {r : Sl} (h : Res K F' H H' v r) : (r.m = .fz ∧ Rep K F' v r.d) ∨ (r.m = .own ∧ ∃ p, v = .ref p ∧ H p = none ∧ F' p = none ∧ OwnAt K F' H' p r.d) := by
  unfold Res at h
  cases q : r.m with
  | fz => rw [q] at h; exact .inl ⟨rfl, h⟩
  | own => rw [q] at h; exact .inr ⟨rfl, h⟩
  | par => rw [q] at h; exact h.elim
  | lent => rw [q] at h; exact h.elim
/-- a value that has come is frozen -/
theorem Res.frozen {F F' H' : Hp} {ρ ρ' : Rho} {v : V} {r : Sl} (R0 : Rel K F ρ σ H) (R : Rel K F' ρ' σ H') (S : StpE F ρ σ H F' ρ' H') (h : Res K F' H H' v r) :
    ∃ F2, Rel K F2 ρ' σ H' ∧ StpE F ρ σ H F2 ρ' H' ∧ Rep K F2 v r.d := by
  rcases h.own_or with ⟨_, h⟩ | ⟨_, p, rfl, hp, fp, h⟩
  · exact ⟨F', R, S, h⟩
  · obtain ⟨o, ho, q⟩ := h.rep
    refine ⟨upd F' p o, R.freeze fp ho (fresh_ne R0 S hp), ⟨⟨S.stp.le.trans (Le.upd fp), S.stp.keep, S.stp.there, fun a u e => ?_, S.stp.ownO, S.stp.fwd, S.stp.bwd⟩, S.back⟩, q _ (Le.upd fp) upd_same⟩
    by_cases z : a = p
    · subst z; exact .inr (.inl hp)
    · rw [upd_ne z] at e; exact S.stp.newF a u e
theorem tE_frz {f : ME} (h : tE K (frz f) σ H Q) : tE K f σ H Q := by
  obtain ⟨F, ρ, r', ρ', R, e, post⟩ := h
  unfold frz at e
  cases q : f ρ with
  | none => rw [q] at e; cases e
  | some x =>
    obtain ⟨r, ρ1⟩ := x
    rw [q] at e
    cases e
    refine ⟨F, ρ, r, ρ1, R, q, fun v F1 H1 R1 S1 res => ?_⟩
    obtain ⟨F2, R2, S2, h2⟩ := res.frozen R R1 S1
    exact post v F2 H1 R2 S2 h2
end
theorem ve_frz {X : Cx} {e : Expr} {f : ME} (h : VE X e f) : VE X e (frz f) := VE.of h fun _ _ _ _ q => tE_frz q

/-- a constant -/
def fC (d : D) : ME := fun ρ => some (⟨.fz, d⟩, ρ)
theorem ve_c {X : Cx} {e : Expr} {v : V} {d : D} (h : PE X e (tC v)) (r : ∀ F, Rep X.K F v d) : VE X e (fC d) := VE.of h fun σ H Q _ ⟨F, ρ, s, ρ', R, e, post⟩ => by
  cases e
  exact post v F H R .refl (r F)
theorem ve_int {X : Cx} {i j pos} : VE X (.Constant (.int i) j pos) (fC (.int i)) := ve_c pe_int fun _ => .int i
theorem ve_str {X : Cx} {i j pos} : VE X (.Constant (.str i) j pos) (fC (.str i)) := ve_c pe_str fun _ => .str i
theorem ve_bl {X : Cx} {i j pos} : VE X (.Constant (.bool i) j pos) (fC (.bl i)) := ve_c pe_bl fun _ => .bl i
theorem ve_non {X : Cx} {j pos} : VE X (.Constant .none j pos) (fC .non) := ve_c pe_non fun _ => .non
/-- a constant of the module, by what stands in the module's names -/
theorem ve_glob {X : Cx} {x : Str} {v : V} {u : Value} {d : D} {pos : Pos} (hg : Gl X x) (hm : X.mg x = some u) (r : RelV v u) (q : ∀ F, Rep X.K F v d) (hd : (x == ("__debug__" : Str)) = false := by decide) : VE X (.Name x pos) (fC d) := ve_c (pe_glob hg hm r hd) q

/-- a name as a value: what is one's own is frozen -/
def fName (i : Nat) : ME := fun ρ => match ρ[i]? with
  | some (some ⟨.fz, d⟩) => some (⟨.fz, d⟩, ρ)
  | some (some ⟨.own, d⟩) => some (⟨.fz, d⟩, ρ.set i (some ⟨.fz, d⟩))
  | _ => none
theorem getElem?_set' {ρ : Rho} {i j : Nat} {x : Option Sl} {s : Sl} (h : (ρ.set i x)[j]? = some (some s)) : (j = i ∧ x = some s) ∨ (j ≠ i ∧ ρ[j]? = some (some s)) := by
  by_cases e : j = i
  · subst e
    rw [List.getElem?_set] at h
    simp only [if_true] at h
    split at h
    · exact .inl ⟨rfl, by simpa using h⟩
    · cases h
  · rw [List.getElem?_set_ne (Ne.symm e)] at h
    exact .inr ⟨e, h⟩
/-- the slot's own object goes to the data -/
theorem Rel.freezeSlot {K : PySem.W.Frag} {F H : Hp} {ρ : Rho} {σ : L2.St} {i : Nat} {d : D} (R : Rel K F ρ σ H) (e : ρ[i]? = some (some ⟨.own, d⟩)) :
    ∃ F2 v, σ[i]? = some (some v) ∧ Rel K F2 (ρ.set i (some ⟨.fz, d⟩)) σ H ∧ StpE F ρ σ H F2 (ρ.set i (some ⟨.fz, d⟩)) H ∧ Rep K F2 v d := by
  obtain ⟨v, hv, ok⟩ := R.at_ i _ e
  obtain ⟨p, rfl, fp, oa⟩ := ok.nfz (by intro z; cases z)
  obtain ⟨o, ho, q⟩ := oa.rep
  have le : Le F (upd F p o) := Le.upd fp
  have rp : Rep K (upd F p o) (.ref p) d := q _ le upd_same
  have hi : i < ρ.length := (List.getElem?_eq_some_iff.mp e).1
  refine ⟨upd F p o, .ref p, hv, ⟨fun a u z => ?_, by rw [List.length_set]; exact R.len, fun j s z => ?_, fun j k s t a h1 h2 m1 m2 h3 h4 => ?_⟩, ⟨⟨le, fun a u h _ => h, fun a u h => ⟨u, h, fun _ => rfl⟩, fun a u z => ?_, fun a h => ?_, fun j m d' hm z => ?_, fun j m d' hm z => ?_⟩, fun j s z hm => ?_⟩, rp⟩
  · by_cases h : a = p
    · subst h; rw [upd_same] at z; cases z; exact ho
    · rw [upd_ne h] at z; exact R.le a u z
  · rcases getElem?_set' z with ⟨rfl, h⟩ | ⟨h, z⟩
    · cases h
      exact ⟨.ref p, hv, .mk_fz rfl rp⟩
    · obtain ⟨w, hw, ok'⟩ := R.at_ j s z
      refine ⟨w, hw, ?_⟩
      by_cases hm : s.m = .fz
      · exact .mk_fz hm ((ok'.fz hm).mono le)
      · obtain ⟨q', rfl, fq, oq⟩ := ok'.nfz hm
        have ne : q' ≠ p := fun zz => h (R.ne j i s _ p z e hm (by intro zz; cases zz) (by rw [hw, zz]) hv)
        exact .mk_n hm (by rw [upd_ne ne]; exact fq) (oq.mono le rfl)
  · rcases getElem?_set' h1 with ⟨_, h⟩ | ⟨_, h1⟩
    · cases h; exact absurd rfl m1
    · rcases getElem?_set' h2 with ⟨_, h⟩ | ⟨_, h2⟩
      · cases h; exact absurd rfl m2
      · exact R.ne j k s t a h1 h2 m1 m2 h3 h4
  · by_cases h : a = p
    · subst h; exact .inr (.inr (.inl ⟨i, _, e, rfl, hv⟩))
    · rw [upd_ne h] at z; exact .inl ⟨u, z⟩
  · obtain ⟨j, s, h1, h2, h3⟩ := h
    rcases getElem?_set' h1 with ⟨_, h⟩ | ⟨_, h1⟩
    · cases h; cases h2
    · exact .inl ⟨j, s, h1, h2, h3⟩
  · have ne : j ≠ i := fun h => by subst h; rw [e] at z; cases z; exact hm
    rw [List.getElem?_set_ne (Ne.symm ne)]
    exact ⟨⟨d', z⟩, rfl⟩
  · rcases getElem?_set' z with ⟨_, h⟩ | ⟨_, h⟩
    · cases h; exact hm.elim
    · exact ⟨d', h⟩
  · rcases getElem?_set' z with ⟨_, h⟩ | ⟨_, h⟩
    · cases h; exact absurd rfl hm
    · exact ⟨s, h, rfl⟩
theorem tE_name {K : PySem.W.Frag} {i : Nat} {σ : L2.St} {H : Hp} {Q : VK} (h : tE K (fName i) σ H Q) : tVar i σ H Q := by
  obtain ⟨F, ρ, r, ρ', R, e, post⟩ := h
  unfold fName at e
  split at e
  · rename_i d hd
    cases e
    obtain ⟨v, hv, ok⟩ := R.at_ i _ hd
    exact ⟨v, hv, post v F H R .refl (ok.fz rfl)⟩
  · rename_i d hd
    cases e
    obtain ⟨F2, v, hv, R2, S2, rp⟩ := R.freezeSlot hd
    exact ⟨v, hv, post v F2 H R2 S2 rp⟩
  · cases e
theorem ve_name {X : Cx} (i : Nat) {x : Str} {pos : Pos} (h : PE X (.Name x pos) (tVar i)) : VE X (.Name x pos) (fName i) := VE.of h fun _ _ _ _ q => tE_name q

/-! ### operands -/
inductive Pk where | sl (i : Nat) | vl (d : D)
inductive Opd where | sl (i : Nat) | ex (f : ME)
def evalO : Opd → Rho → Option (Pk × Rho)
  | .sl i, ρ => match ρ[i]? with
    | some (some _) => some (.sl i, ρ)
    | _ => none
  | .ex f, ρ => match f ρ with
    | some (r, ρ') => some (.vl r.d, ρ')
    | none => none
def look : Pk → Rho → Option D
  | .sl i, ρ => match ρ[i]? with
    | some (some s) => some s.d
    | _ => none
  | .vl d, _ => some d
def PkOk (K : PySem.W.Frag) (F : Hp) (σ : L2.St) (v : V) : Pk → Prop
  | .sl i => σ[i]? = some (some v)
  | .vl d => Rep K F v d
theorem PkOk.mono {K : PySem.W.Frag} {F F' : Hp} {σ : L2.St} {v : V} {pk : Pk} (e : Le F F') (h : PkOk K F σ v pk) : PkOk K F' σ v pk := by
  cases pk with
  | sl i => exact h
  | vl d => exact Rep.mono e h
theorem PkOk.vw {K : PySem.W.Frag} {F H : Hp} {ρ : Rho} {σ : L2.St} {v : V} {pk : Pk} {d : D} (R : Rel K F ρ σ H) (h : PkOk K F σ v pk) (e : look pk ρ = some d) : Vw K F H v d := by
  cases pk with
  | vl d' => cases e; exact .inl h
  | sl i =>
    unfold look at e
    simp only at e
    split at e
    · rename_i s hs
      cases e
      obtain ⟨w, hw, ok⟩ := R.at_ i s hs
      have h' : σ[i]? = some (some v) := h
      rw [h'] at hw; cases hw
      exact ok.vw
    · cases e
def tO (K : PySem.W.Frag) (o : Opd) : TE := fun σ H Q => ∃ F ρ pk ρ', Rel K F ρ σ H ∧ evalO o ρ = some (pk, ρ') ∧ ∀ v F' H', Rel K F' ρ' σ H' → StpE F ρ σ H F' ρ' H' → PkOk K F' σ v pk → Q v H'
abbrev VO (X : Cx) (e : Expr) (o : Opd) : Prop := PE X e (tO X.K o)
theorem vo_sl {X : Cx} (i : Nat) {x : Str} {pos : Pos} (h : PE X (.Name x pos) (tVar i)) : VO X (.Name x pos) (.sl i) := VE.of h fun σ H Q _ ⟨F, ρ, pk, ρ', R, e, post⟩ => by
  unfold evalO at e
  simp only at e
  split at e
  · rename_i s hs
    cases e
    obtain ⟨v, hv, ok⟩ := R.at_ i s hs
    exact ⟨v, hv, post v F H R .refl hv⟩
  · cases e
theorem vo_ex {X : Cx} {e : Expr} {f : ME} (h : VE X e f) : VO X e (.ex f) := VE.of h fun σ H Q _ ⟨F, ρ, pk, ρ', R, e, post⟩ => by
  unfold evalO at e
  simp only at e
  split at e
  · rename_i r ρ1 hr
    cases e
    refine ⟨F, ρ, r, _, R, hr, fun v F1 H1 R1 S1 res => ?_⟩
    obtain ⟨F2, R2, S2, h2⟩ := res.frozen R R1 S1
    exact post v F2 H1 R2 S2 h2
  · cases e

/-! ### two operands -/
def fOp2 (g : D → D → Option Sl) (a b : Opd) : ME := fun ρ => do
  let (pa, ρ1) ← evalO a ρ
  let (pb, ρ2) ← evalO b ρ1
  let d ← look pa ρ2
  let e ← look pb ρ2
  let r ← g d e
  pure (r, ρ2)
def Op2 (K : PySem.W.Frag) (r : R2) (g : D → D → Option Sl) : Prop := ∀ (F H : Hp) (x y : V) (d e : D) (s : Sl) (Q : VK), Le F H → Vw K F H x d → Vw K F H y e → g d e = some s → (∀ v F' H', New K F H F' H' v s → Q v H') → r x y H Q
theorem bind_some {α β : Type} {x : Option α} {f : α → Option β} {b : β} (h : (x >>= f) = some b) : ∃ a, x = some a ∧ f a = some b := by
  cases x with
  | none => cases h
  | some a => exact ⟨a, rfl, h⟩
theorem tE_op2 {K : PySem.W.Frag} {r : R2} {g : D → D → Option Sl} {a b : Opd} {σ : L2.St} {H : Hp} {Q : VK} (hg : Op2 K r g) (h : tE K (fOp2 g a b) σ H Q) : tOp r (tO K a) (tO K b) σ H Q := by
  obtain ⟨F, ρ, s, ρ2, R, e, post⟩ := h
  obtain ⟨⟨pa, ρ1⟩, e1, e⟩ := bind_some e
  obtain ⟨⟨pb, ρ2'⟩, e2, e⟩ := bind_some e
  obtain ⟨d, e3, e⟩ := bind_some e
  obtain ⟨d', e4, e⟩ := bind_some e
  obtain ⟨s', e5, e⟩ := bind_some e
  cases e
  refine ⟨F, ρ, pa, ρ1, R, e1, fun x F1 H1 R1 S1 P1 => ⟨F1, ρ1, pb, ρ2, R1, e2, fun y F2 H2 R2 S2 P2 => ?_⟩⟩
  refine hg F2 H2 x y d d' s _ R2.le ((P1.mono S2.stp.le).vw R2 e3) (P2.vw R2 e4) e5 fun v F3 H3 N => ?_
  obtain ⟨R3, S3⟩ := R2.new N
  have S : StpE F ρ σ H F3 ρ2 H3 := (S1.trans S2).trans S3
  refine post v F3 H3 R3 S ?_
  rcases N.res.own_or with ⟨m, q⟩ | ⟨m, p, rfl, hp, fp, q⟩
  · unfold Res; rw [m]; exact q
  · unfold Res; rw [m]
    refine ⟨p, rfl, ?_, fp, q⟩
    cases z : H p with
    | none => rfl
    | some u =>
      obtain ⟨o1, z1, _⟩ := S1.stp.there p u z
      obtain ⟨o2, z2, _⟩ := S2.stp.there p o1 z1
      rw [z2] at hp; cases hp
theorem ve_op {X : Cx} {op : Operator} {r : R2} {g : D → D → Option Sl} {a b : Expr} {oa ob : Opd} {pos : Pos} (ho : OpR X (binaryOp op) r) (hg : Op2 X.K r g) (ha : VO X a oa) (hb : VO X b ob) : VE X (.BinOp a op b pos) (fOp2 g oa ob) :=
  VE.of (pe_op ho ha hb) fun _ _ _ _ q => tE_op2 hg q
theorem ve_cmp {X : Cx} {op : CmpOp} {r : R2} {g : D → D → Option Sl} {a b : Expr} {oa ob : Opd} {pos : Pos} (ho : OpR X (compareOp op) r) (hg : Op2 X.K r g) (ha : VO X a oa) (hb : VO X b ob) (hm : behindInMarks op b = false) : VE X (.Compare a [op] [b] pos) (fOp2 g oa ob) :=
  VE.of (pe_cmpR ho ha hb hm) fun _ _ _ _ q => tE_op2 hg q
theorem ve_ix {X : Cx} {r : R2} {g : D → D → Option Sl} {a b : Expr} {oa ob : Opd} {pos : Pos} (ho : IxR X r) (hg : Op2 X.K r g) (ha : VO X a oa) (hb : VO X b ob) (hs : PlainIx b) : VE X (.Subscript a b pos) (fOp2 g oa ob) :=
  VE.of (pe_ix ho ha hb hs) fun _ _ _ _ q => tE_op2 hg q

/-! ### one operand -/
def fOp1 (g : D → Option Sl) (a : Opd) : ME := fun ρ => do
  let (pa, ρ1) ← evalO a ρ
  let d ← look pa ρ1
  let r ← g d
  pure (r, ρ1)
def Op1 (K : PySem.W.Frag) (r : V → Hp → VK → Prop) (g : D → Option Sl) : Prop := ∀ (F H : Hp) (x : V) (d : D) (s : Sl) (Q : VK), Le F H → Vw K F H x d → g d = some s → (∀ v F' H', New K F H F' H' v s → Q v H') → r x H Q
/-- behind operands, an operation's result -/
theorem after_ops {K : PySem.W.Frag} {F F2 F3 H H2 H3 : Hp} {ρ ρ2 : Rho} {σ : L2.St} {v : V} {s : Sl} (R2 : Rel K F2 ρ2 σ H2) (S : StpE F ρ σ H F2 ρ2 H2) (N : New K F2 H2 F3 H3 v s) :
    Rel K F3 ρ2 σ H3 ∧ StpE F ρ σ H F3 ρ2 H3 ∧ Res K F3 H H3 v s := by
  obtain ⟨R3, S3⟩ := R2.new N
  refine ⟨R3, S.trans S3, ?_⟩
  rcases N.res.own_or with ⟨m, q⟩ | ⟨m, p, rfl, hp, fp, q⟩
  · unfold Res; rw [m]; exact q
  · unfold Res; rw [m]
    refine ⟨p, rfl, ?_, fp, q⟩
    cases z : H p with
    | none => rfl
    | some u =>
      obtain ⟨o1, z1, _⟩ := S.stp.there p u z
      rw [z1] at hp; cases hp
theorem tE_op1 {K : PySem.W.Frag} {r : V → Hp → VK → Prop} {g : D → Option Sl} {a : Opd} {σ : L2.St} {H : Hp} {Q : VK} (hg : Op1 K r g) (h : tE K (fOp1 g a) σ H Q) : tUn r (tO K a) σ H Q := by
  obtain ⟨F, ρ, s, ρ2, R, e, post⟩ := h
  obtain ⟨⟨pa, ρ1⟩, e1, e⟩ := bind_some e
  obtain ⟨d, e3, e⟩ := bind_some e
  obtain ⟨s', e5, e⟩ := bind_some e
  cases e
  refine ⟨F, ρ, pa, ρ2, R, e1, fun x F1 H1 R1 S1 P1 => ?_⟩
  refine hg F1 H1 x d s _ R1.le (P1.vw R1 e3) e5 fun v F3 H3 N => ?_
  obtain ⟨R3, S3, q⟩ := after_ops R1 S1 N
  exact post v F3 H3 R3 S3 q
theorem ve_un {X : Cx} {op : UnaryOp} {r : V → Hp → VK → Prop} {g : D → Option Sl} {a : Expr} {oa : Opd} {pos : Pos} (ho : UnR X (unaryOp op) r) (hg : Op1 X.K r g) (ha : VO X a oa) : VE X (.UnaryOp op a pos) (fOp1 g oa) :=
  VE.of (pe_un ho ha) fun _ _ _ _ q => tE_op1 hg q

/-! ### any number of operands -/
def evalOs : List Opd → Rho → Option (List Pk × Rho)
  | [], ρ => some ([], ρ)
  | o :: os, ρ => do
    let (pk, ρ1) ← evalO o ρ
    let (pks, ρ2) ← evalOs os ρ1
    pure (pk :: pks, ρ2)
def looks (ρ : Rho) : List Pk → Option (List D)
  | [] => some []
  | pk :: pks => do
    let d ← look pk ρ
    let ds ← looks ρ pks
    pure (d :: ds)
inductive PkL (K : PySem.W.Frag) (F : Hp) (σ : L2.St) : List V → List Pk → Prop
  | nil : PkL K F σ [] []
  | cons {v : V} {vs : List V} {pk : Pk} {pks : List Pk} : PkOk K F σ v pk → PkL K F σ vs pks → PkL K F σ (v :: vs) (pk :: pks)
theorem PkL.mono {K : PySem.W.Frag} {F F' : Hp} {σ : L2.St} (e : Le F F') : ∀ {vs : List V} {pks : List Pk}, PkL K F σ vs pks → PkL K F' σ vs pks
  | _, _, .nil => .nil
  | _, _, .cons h t => .cons (h.mono e) (t.mono e)
theorem PkL.vw {K : PySem.W.Frag} {F H : Hp} {ρ : Rho} {σ : L2.St} (R : Rel K F ρ σ H) : ∀ {vs : List V} {pks : List Pk} {ds : List D}, PkL K F σ vs pks → looks ρ pks = some ds → VwL K F H vs ds
  | _, _, _, .nil, e => by cases e; exact .nil
  | _, _, _, .cons h t, e => by
    obtain ⟨d, e1, e⟩ := bind_some e
    obtain ⟨ds, e2, e⟩ := bind_some e
    cases e
    exact .cons (h.vw R e1) (t.vw R e2)
def tA (K : PySem.W.Frag) (os : List Opd) : TA := fun σ H Q => ∃ F ρ pks ρ', Rel K F ρ σ H ∧ evalOs os ρ = some (pks, ρ') ∧ ∀ vs F' H', Rel K F' ρ' σ H' → StpE F ρ σ H F' ρ' H' → PkL K F' σ vs pks → Q vs H'
abbrev VA (X : Cx) (es : List Expr) (os : List Opd) : Prop := PA X es (tA X.K os)
theorem PA.of {X : Cx} {es : List Expr} {t t' : TA} (h : PA X es t) (q : ∀ σ H Q, t' σ H Q → t σ H Q) : PA X es t' := ⟨fun pos pins s σ H Q I w => h.run pos pins s σ H Q I (q σ H Q w)⟩
theorem va_nil {X : Cx} : VA X [] [] := PA.of pa_nil fun σ H Q ⟨F, ρ, pks, ρ', R, e, post⟩ => by
  cases e
  exact post [] F H R .refl .nil
theorem va_cons {X : Cx} {e : Expr} {es : List Expr} {o : Opd} {os : List Opd} (ha : VO X e o) (hr : VA X es os) (hs : starEach (e :: es) X.env = (false, eval e X.env) :: starEach es X.env := by rfl) : VA X (e :: es) (o :: os) :=
  PA.of (pa_cons ha hr hs) fun σ H Q ⟨F, ρ, pks, ρ', R, e, post⟩ => by
    obtain ⟨⟨pa, ρ1⟩, e1, e⟩ := bind_some e
    obtain ⟨⟨pb, ρ2⟩, e2, e⟩ := bind_some e
    cases e
    exact ⟨F, ρ, pa, ρ1, R, e1, fun x F1 H1 R1 S1 P1 => ⟨F1, ρ1, pb, ρ', R1, e2, fun vs F2 H2 R2 S2 P2 => post (x :: vs) F2 H2 R2 (S1.trans S2) (.cons (P1.mono S2.stp.le) P2)⟩⟩
def fOpN (g : List D → Option Sl) (os : List Opd) : ME := fun ρ => do
  let (pks, ρ1) ← evalOs os ρ
  let ds ← looks ρ1 pks
  let r ← g ds
  pure (r, ρ1)
def OpN (K : PySem.W.Frag) (r : List V → Hp → VK → Prop) (g : List D → Option Sl) : Prop := ∀ (F H : Hp) (vs : List V) (ds : List D) (s : Sl) (Q : VK), Le F H → VwL K F H vs ds → g ds = some s → (∀ v F' H', New K F H F' H' v s → Q v H') → r vs H Q
theorem tE_opN {K : PySem.W.Frag} {r : List V → Hp → VK → Prop} {g : List D → Option Sl} {os : List Opd} {σ : L2.St} {H : Hp} {Q : VK} (hg : OpN K r g) (h : tE K (fOpN g os) σ H Q) : tA K os σ H fun vs H1 => r vs H1 Q := by
  obtain ⟨F, ρ, s, ρ2, R, e, post⟩ := h
  obtain ⟨⟨pa, ρ1⟩, e1, e⟩ := bind_some e
  obtain ⟨d, e3, e⟩ := bind_some e
  obtain ⟨s', e5, e⟩ := bind_some e
  cases e
  refine ⟨F, ρ, pa, ρ2, R, e1, fun x F1 H1 R1 S1 P1 => ?_⟩
  refine hg F1 H1 x d s _ R1.le (P1.vw R1 e3) e5 fun v F3 H3 N => ?_
  obtain ⟨R3, S3, q⟩ := after_ops R1 S1 N
  exact post v F3 H3 R3 S3 q
theorem ve_callB {X : Cx} {id : String} {x : Str} {r : List V → Hp → VK → Prop} {g : List D → Option Sl} {e : Expr} {es : List Expr} {os : List Opd} {p pos : Pos} (hc : CallR X (.builtin id) r) (hg' : OpN X.K r g) (hg : Gl X x) (hm : X.mg x = none) (hv : bootBuiltins x = some (.builtin id)) (ha : VA X (e :: es) os)
    (hn : x ≠ "__name__" := by decide) (hdb : (x == ("__debug__" : Str)) = false := by decide) (he : starEach (e :: es) X.env = (false, eval e X.env) :: starEach es X.env := by rfl) (hpl : (backTo pos (starEach es X.env)).any (·.1) = false := by rfl) : VE X (.Call (.Name x p) (e :: es) [] pos) (fOpN g os) :=
  VE.of (pe_callB hc hg hm hv ha hn hdb he hpl) fun _ _ _ _ q => tE_opN hg' q
theorem ve_callTy {X : Cx} {T : String} {x : Str} {r : List V → Hp → VK → Prop} {g : List D → Option Sl} {e : Expr} {es : List Expr} {os : List Opd} {p pos : Pos} (hc : CallR X (.type T) r) (hg' : OpN X.K r g) (hg : Gl X x) (hm : X.mg x = none) (hv : bootBuiltins x = some (.type T)) (ha : VA X (e :: es) os)
    (hn : x ≠ "__name__" := by decide) (hdb : (x == ("__debug__" : Str)) = false := by decide) (he : starEach (e :: es) X.env = (false, eval e X.env) :: starEach es X.env := by rfl) (hpl : (backTo pos (starEach es X.env)).any (·.1) = false := by rfl) : VE X (.Call (.Name x p) (e :: es) [] pos) (fOpN g os) :=
  VE.of (pe_callTy hc hg hm hv ha hn hdb he hpl) fun _ _ _ _ q => tE_opN hg' q
/-! ### displays keep what is in them: their items are frozen -/
def evalZ : List ME → Rho → Option (List D × Rho)
  | [], ρ => some ([], ρ)
  | f :: fs, ρ => do
    let (r, ρ1) ← f ρ
    let (ds, ρ2) ← evalZ fs ρ1
    pure (r.d :: ds, ρ2)
def tZ (K : PySem.W.Frag) (fs : List ME) : TA := fun σ H Q => ∃ F ρ ds ρ', Rel K F ρ σ H ∧ evalZ fs ρ = some (ds, ρ') ∧ ∀ vs F' H', Rel K F' ρ' σ H' → StpE F ρ σ H F' ρ' H' → RepL K F' vs ds → Q vs H'
abbrev VZ (X : Cx) (es : List Expr) (fs : List ME) : Prop := PA X es (tZ X.K fs)
theorem vz_nil {X : Cx} : VZ X [] [] := PA.of pa_nil fun σ H Q ⟨F, ρ, pks, ρ', R, e, post⟩ => by
  cases e
  exact post [] F H R .refl .nil
theorem vz_cons {X : Cx} {e : Expr} {es : List Expr} {f : ME} {fs : List ME} (ha : VE X e f) (hr : VZ X es fs) (hs : starEach (e :: es) X.env = (false, eval e X.env) :: starEach es X.env := by rfl) : VZ X (e :: es) (f :: fs) :=
  PA.of (pa_cons ha hr hs) fun σ H Q ⟨F, ρ, pks, ρ', R, e, post⟩ => by
    obtain ⟨⟨r, ρ1⟩, e1, e⟩ := bind_some e
    obtain ⟨⟨pb, ρ2⟩, e2, e⟩ := bind_some e
    cases e
    refine ⟨F, ρ, r, ρ1, R, e1, fun x F1 H1 R1 S1 P1 => ?_⟩
    obtain ⟨F1', R1', S1', P1'⟩ := P1.frozen R R1 S1
    exact ⟨F1', ρ1, pb, ρ', R1', e2, fun vs F2 H2 R2 S2 P2 => post (x :: vs) F2 H2 R2 (S1'.trans S2) (.cons (P1'.mono S2.stp.le) P2)⟩
def fDisp (g : List D → Option Sl) (fs : List ME) : ME := fun ρ => do
  let (ds, ρ1) ← evalZ fs ρ
  let r ← g ds
  pure (r, ρ1)
def OpZ (K : PySem.W.Frag) (r : List V → Hp → VK → Prop) (g : List D → Option Sl) : Prop := ∀ (F H : Hp) (vs : List V) (ds : List D) (s : Sl) (Q : VK), Le F H → RepL K F vs ds → g ds = some s → (∀ v F' H', New K F H F' H' v s → Q v H') → r vs H Q
theorem tE_disp {K : PySem.W.Frag} {r : List V → Hp → VK → Prop} {g : List D → Option Sl} {fs : List ME} {σ : L2.St} {H : Hp} {Q : VK} (hg : OpZ K r g) (h : tE K (fDisp g fs) σ H Q) : tZ K fs σ H fun vs H1 => r vs H1 Q := by
  obtain ⟨F, ρ, s, ρ2, R, e, post⟩ := h
  obtain ⟨⟨pa, ρ1⟩, e1, e⟩ := bind_some e
  obtain ⟨s', e5, e⟩ := bind_some e
  cases e
  refine ⟨F, ρ, pa, ρ2, R, e1, fun x F1 H1 R1 S1 P1 => ?_⟩
  refine hg F1 H1 x pa s _ R1.le P1 e5 fun v F3 H3 N => ?_
  obtain ⟨R3, S3, q⟩ := after_ops R1 S1 N
  exact post v F3 H3 R3 S3 q
def gTup (ds : List D) : Option Sl := if ds.length ≤ sizeLine then some ⟨.fz, .tup ds⟩ else none
def gLst (ds : List D) : Option Sl := if ds.length ≤ sizeLine then some ⟨.own, .lst ds⟩ else none
theorem ve_tup {X : Cx} {es : List Expr} {fs : List ME} {x1 : Nat} {pos : Pos} (h : VZ X es fs) : VE X (.Tuple es x1 pos) (fDisp gTup fs) :=
  VE.of (pe_tup h) fun σ H Q _ q => tE_disp (r := fun xs H1 Q => xs.length ≤ sizeLine ∧ ∀ p, H1 p = none → Q (.ref p) (upd H1 p (.tup xs))) (fun F H vs ds s Q le rp e k => by
    unfold gTup at e
    split at e
    · rename_i hl
      cases e
      exact ⟨by rw [rp.length]; exact hl, fun p hp => k _ _ _ (New.tup le hp rp)⟩
    · cases e) q
theorem ve_lst {X : Cx} {es : List Expr} {fs : List ME} {pos : Pos} (h : VZ X es fs) : VE X (.List es pos) (fDisp gLst fs) :=
  VE.of (pe_lst h) fun σ H Q _ q => tE_disp (r := fun xs H1 Q => xs.length ≤ sizeLine ∧ ∀ p, H1 p = none → Q (.ref p) (upd H1 p (.lst xs))) (fun F H vs ds s Q le rp e k => by
    unfold gLst at e
    split at e
    · rename_i hl
      cases e
      exact ⟨by rw [rp.length]; exact hl, fun p hp => k _ _ _ (New.lst le hp rp)⟩
    · cases e) q

/-! ### tests -/
abbrev MT := Rho → Option (Bool × Rho)
def tT (K : PySem.W.Frag) (f : MT) : TT := fun σ H Q => ∃ F ρ b ρ', Rel K F ρ σ H ∧ f ρ = some (b, ρ') ∧ ∀ F' H', Rel K F' ρ' σ H' → StpE F ρ σ H F' ρ' H' → Q b H'
abbrev VT (X : Cx) (e : Expr) (f : MT) : Prop := PT X e (tT X.K f)
abbrev VW (X : Cx) (e : Expr) (f : MT) : Prop := PW X e (tT X.K f)
theorem PT.of {X : Cx} {e : Expr} {t t' : TT} (h : PT X e t) (q : ∀ σ H Q, t' σ H Q → t σ H Q) : PT X e t' := ⟨fun pins s σ H Q I w => h.run pins s σ H Q I (q σ H Q w)⟩
theorem PW.of {X : Cx} {e : Expr} {t t' : TT} (h : PW X e t) (q : ∀ σ H Q, t' σ H Q → t σ H Q) : PW X e t' := ⟨fun wh pins s σ H Q I w => h.run wh pins s σ H Q I (q σ H Q w)⟩
def fT (f : ME) : MT := fun ρ => match f ρ with
  | some (⟨.fz, .bl b⟩, ρ') => some (b, ρ')
  | _ => none
theorem tT_of {K : PySem.W.Frag} {f : ME} {σ : L2.St} {H : Hp} {Q : Bool → Hp → Prop} (h : tT K (fT f) σ H Q) : tE K f σ H fun x H' => ∃ k, x = .bl k ∧ Q k H' := by
  obtain ⟨F, ρ, b, ρ', R, e, post⟩ := h
  unfold fT at e
  split at e
  · rename_i b' ρ1 hr
    cases e
    refine ⟨F, ρ, _, _, R, hr, fun v F1 H1 R1 S1 res => ?_⟩
    have q : Rep K F1 v (.bl b) := res
    cases q
    exact ⟨b, rfl, post F1 H1 R1 S1⟩
  · cases e
theorem vt_val {X : Cx} {e : Expr} {f : ME} (h : VE X e f) (he : ∀ whole, isTrue e X.env whole = (do let v ← whole; standAt e.pos; holding [v] (truthy v)) := by intro _; rfl) : VT X e (fT f) :=
  PT.of (pt_val h he) fun _ _ _ q => tT_of q
theorem vt_cmp {X : Cx} {op : CmpOp} {r : R2} {g : D → D → Option Sl} {a b : Expr} {oa ob : Opd} {pos : Pos} (ho : OpR X (compareOp op) r) (hg : Op2 X.K r g) (ha : VO X a oa) (hb : VO X b ob) (hm : behindInMarks op b = false) : VT X (.Compare a [op] [b] pos) (fT (fOp2 g oa ob)) :=
  PT.of (pt_cmpR ho ha hb hm) fun _ _ _ q => tE_op2 hg (tT_of q)
def fAnd (f g : MT) : MT := fun ρ => match f ρ with
  | some (true, ρ1) => g ρ1
  | some (false, ρ1) => some (false, ρ1)
  | none => none
def fOr (f g : MT) : MT := fun ρ => match f ρ with
  | some (true, ρ1) => some (true, ρ1)
  | some (false, ρ1) => g ρ1
  | none => none
def fNot (f : MT) : MT := fun ρ => match f ρ with
  | some (b, ρ1) => some (!b, ρ1)
  | none => none
section
variable {X : Cx} {a b : Expr} {rest : List Expr} {pos : Pos} {f g : MT}
theorem vw_and1 (ha : VT X a f) : VW X (.BoolOp .And [a] pos) f := pw_and1 ha
theorem vw_or1 (ha : VT X a f) : VW X (.BoolOp .Or [a] pos) f := pw_or1 ha
theorem vw_and (ha : VT X a f) (hb : VW X (.BoolOp .And (b :: rest) pos) g) : VW X (.BoolOp .And (a :: b :: rest) pos) (fAnd f g) :=
  PW.of (pw_and ha hb) fun σ H Q ⟨F, ρ, b, ρ', R, e, post⟩ => by
    unfold fAnd at e
    split at e
    · rename_i ρ1 h1
      exact ⟨F, ρ, true, ρ1, R, h1, fun F1 H1 R1 S1 => by refine iteT ?_; exact ⟨F1, ρ1, b, ρ', R1, e, fun F2 H2 R2 S2 => post F2 H2 R2 (S1.trans S2)⟩⟩
    · rename_i ρ1 h1
      cases e
      exact ⟨F, ρ, false, _, R, h1, fun F1 H1 R1 S1 => by refine iteF ?_; exact post F1 H1 R1 S1⟩
    · cases e
theorem vw_or (ha : VT X a f) (hb : VW X (.BoolOp .Or (b :: rest) pos) g) : VW X (.BoolOp .Or (a :: b :: rest) pos) (fOr f g) :=
  PW.of (pw_or ha hb) fun σ H Q ⟨F, ρ, b, ρ', R, e, post⟩ => by
    unfold fOr at e
    split at e
    · rename_i ρ1 h1
      cases e
      exact ⟨F, ρ, true, _, R, h1, fun F1 H1 R1 S1 => by refine iteT ?_; exact post F1 H1 R1 S1⟩
    · rename_i ρ1 h1
      exact ⟨F, ρ, false, ρ1, R, h1, fun F1 H1 R1 S1 => by refine iteF ?_; exact ⟨F1, ρ1, b, ρ', R1, e, fun F2 H2 R2 S2 => post F2 H2 R2 (S1.trans S2)⟩⟩
    · cases e
theorem vt_not (ha : VT X a f) : VT X (.UnaryOp .Not a pos) (fNot f) :=
  PT.of (pt_not ha) fun σ H Q ⟨F, ρ, b, ρ', R, e, post⟩ => by
    unfold fNot at e
    split at e
    · rename_i b1 ρ1 h1
      cases e
      exact ⟨F, ρ, b1, _, R, h1, post⟩
    · cases e
/-- .. as values -/
def fAndV (f g : ME) : ME := fun ρ => match f ρ with
  | some (⟨.fz, .bl true⟩, ρ1) => g ρ1
  | some (⟨.fz, .bl false⟩, ρ1) => some (⟨.fz, .bl false⟩, ρ1)
  | _ => none
def fOrV (f g : ME) : ME := fun ρ => match f ρ with
  | some (⟨.fz, .bl true⟩, ρ1) => some (⟨.fz, .bl true⟩, ρ1)
  | some (⟨.fz, .bl false⟩, ρ1) => g ρ1
  | _ => none
/-- what comes of a second expression, seen from ahead of the first -/
theorem Res.back {K : PySem.W.Frag} {F0 F1 F2 H0 H1 H2 : Hp} {ρ0 ρ1 : Rho} {σ : L2.St} {v : V} {r : Sl} (S : StpE F0 ρ0 σ H0 F1 ρ1 H1) (h : Res K F2 H1 H2 v r) : Res K F2 H0 H2 v r := by
  rcases h.own_or with ⟨m, q⟩ | ⟨m, p, rfl, hp, fp, q⟩
  · unfold Res; rw [m]; exact q
  · unfold Res; rw [m]
    refine ⟨p, rfl, ?_, fp, q⟩
    cases z : H0 p with
    | none => rfl
    | some u => obtain ⟨o1, z1, _⟩ := S.stp.there p u z; rw [z1] at hp; cases hp
theorem ve_one {op} {f : ME} (h : VE X a f) : VE X (.BoolOp op [a] pos) f := pe_one h
theorem ve_and {f g : ME} (ha : VE X a f) (hb : VE X (.BoolOp .And (b :: rest) pos) g) : VE X (.BoolOp .And (a :: b :: rest) pos) (fAndV f g) :=
  VE.of (pe_and ha hb) fun σ H Q _ ⟨F, ρ, b, ρ', R, e, post⟩ => by
    unfold fAndV at e
    split at e
    · rename_i ρ1 h1
      refine ⟨F, ρ, _, ρ1, R, h1, fun v F1 H1 R1 S1 res => ?_⟩
      have q : Rep X.K F1 v (.bl true) := res
      cases q
      exact ⟨true, rfl, by refine iteT ?_; exact ⟨F1, ρ1, b, ρ', R1, e, fun v F2 H2 R2 S2 res2 => post v F2 H2 R2 (S1.trans S2) (res2.back S1)⟩⟩
    · rename_i ρ1 h1
      cases e
      refine ⟨F, ρ, _, _, R, h1, fun v F1 H1 R1 S1 res => ?_⟩
      have q : Rep X.K F1 v (.bl false) := res
      cases q
      exact ⟨false, rfl, by refine iteF ?_; exact post _ F1 H1 R1 S1 res⟩
    · cases e
theorem ve_or {f g : ME} (ha : VE X a f) (hb : VE X (.BoolOp .Or (b :: rest) pos) g) : VE X (.BoolOp .Or (a :: b :: rest) pos) (fOrV f g) :=
  VE.of (pe_or ha hb) fun σ H Q _ ⟨F, ρ, b, ρ', R, e, post⟩ => by
    unfold fOrV at e
    split at e
    · rename_i ρ1 h1
      cases e
      refine ⟨F, ρ, _, _, R, h1, fun v F1 H1 R1 S1 res => ?_⟩
      have q : Rep X.K F1 v (.bl true) := res
      cases q
      exact ⟨true, rfl, by refine iteT ?_; exact post _ F1 H1 R1 S1 res⟩
    · rename_i ρ1 h1
      refine ⟨F, ρ, _, ρ1, R, h1, fun v F1 H1 R1 S1 res => ?_⟩
      have q : Rep X.K F1 v (.bl false) := res
      cases q
      exact ⟨false, rfl, by refine iteF ?_; exact ⟨F1, ρ1, b, ρ', R1, e, fun v F2 H2 R2 S2 res2 => post v F2 H2 R2 (S1.trans S2) (res2.back S1)⟩⟩
    · cases e
def fNotV (f : ME) : ME := fun ρ => match f ρ with
  | some (⟨.fz, .bl b⟩, ρ1) => some (⟨.fz, .bl (!b)⟩, ρ1)
  | _ => none
theorem ve_not {f : ME} (ha : VE X a f) : VE X (.UnaryOp .Not a pos) (fNotV f) :=
  VE.of (pe_not ha) fun σ H Q _ ⟨F, ρ, b, ρ', R, e, post⟩ => by
    unfold fNotV at e
    split at e
    · rename_i b1 ρ1 h1
      cases e
      refine ⟨F, ρ, _, _, R, h1, fun v F1 H1 R1 S1 res => ?_⟩
      have q : Rep X.K F1 v (.bl b1) := res
      cases q
      exact ⟨b1, rfl, post _ F1 H1 R1 S1 (Rep.bl (!b1))⟩
    · cases e
def fIf (t : MT) (f g : ME) : ME := fun ρ => match t ρ with
  | some (true, ρ1) => f ρ1
  | some (false, ρ1) => g ρ1
  | none => none
theorem ve_if {c : Expr} {t : MT} {f g : ME} (hc : VT X c t) (ha : VE X a f) (hb : VE X b g) : VE X (.IfExp c a b pos) (fIf t f g) :=
  VE.of (pe_ifExp hc ha hb) fun σ H Q _ ⟨F, ρ, r, ρ', R, e, post⟩ => by
    unfold fIf at e
    split at e
    · rename_i ρ1 h1
      exact ⟨F, ρ, _, ρ1, R, h1, fun F1 H1 R1 S1 => by refine iteT ?_; exact ⟨F1, ρ1, r, ρ', R1, e, fun v F2 H2 R2 S2 res2 => post v F2 H2 R2 (S1.trans S2) (res2.back S1)⟩⟩
    · rename_i ρ1 h1
      exact ⟨F, ρ, _, ρ1, R, h1, fun F1 H1 R1 S1 => by refine iteF ?_; exact ⟨F1, ρ1, r, ρ', R1, e, fun v F2 H2 R2 S2 res2 => post v F2 H2 R2 (S1.trans S2) (res2.back S1)⟩⟩
    · cases e
end
end VI

namespace VI
open PySem PySem.Spec PyProof.Rows L2

/-! ### statements -/
inductive Fl where | nx | bk | ct | rt (r : Sl)
abbrev MS := Rho → Option (Fl × Rho)
/-- what is handed back: data, or an object of one's own -/
def ResR (K : PySem.W.Frag) (ρ : Rho) (σ : L2.St) (H F' H' : Hp) (v : V) (r : Sl) : Prop :=
  match r.m with
  | .fz => Rep K F' v r.d
  | .own => ∃ p, v = .ref p ∧ (OwnO ρ σ p ∨ H p = none) ∧ F' p = none ∧ OwnAt K F' H' p r.d
  | _ => False
theorem ResR.own_or {K : PySem.W.Frag} {ρ : Rho} {σ : L2.St} {H F' H' : Hp} {v : V} {r : Sl} (h : ResR K ρ σ H F' H' v r) : (r.m = .fz ∧ Rep K F' v r.d) ∨ (r.m = .own ∧ ∃ p, v = .ref p ∧ (OwnO ρ σ p ∨ H p = none) ∧ F' p = none ∧ OwnAt K F' H' p r.d) := by
  unfold ResR at h
  cases q : r.m with
  | fz => rw [q] at h; exact .inl ⟨rfl, h⟩
  | own => rw [q] at h; exact .inr ⟨rfl, h⟩
  | par => rw [q] at h; exact h.elim
  | lent => rw [q] at h; exact h.elim
theorem none_back {F F' H H' : Hp} {ρ ρ' : Rho} {σ σ' : L2.St} (S : Stp F ρ σ H F' ρ' σ' H') {p : Addr} (h : H' p = none) : H p = none := by
  cases z : H p with
  | none => rfl
  | some u => obtain ⟨o, e, _⟩ := S.there p u z; rw [e] at h; cases h
theorem ResR.back {K : PySem.W.Frag} {F F1 F2 H H1 H2 : Hp} {ρ ρ1 : Rho} {σ σ1 : L2.St} {v : V} {r : Sl} (S : Stp F ρ σ H F1 ρ1 σ1 H1) (h : ResR K ρ1 σ1 H1 F2 H2 v r) : ResR K ρ σ H F2 H2 v r := by
  rcases h.own_or with ⟨m, q⟩ | ⟨m, p, rfl, hp, fp, q⟩
  · unfold ResR; rw [m]; exact q
  · unfold ResR; rw [m]
    refine ⟨p, rfl, ?_, fp, q⟩
    rcases hp with hp | hp
    · exact S.ownO p hp
    · exact .inr (none_back S hp)
theorem Res.toR {K : PySem.W.Frag} {H F' H' : Hp} {ρ : Rho} {σ : L2.St} {v : V} {r : Sl} (h : Res K F' H H' v r) : ResR K ρ σ H F' H' v r := by
  rcases h.own_or with ⟨m, q⟩ | ⟨m, p, rfl, hp, fp, q⟩
  · unfold ResR; rw [m]; exact q
  · unfold ResR; rw [m]; exact ⟨p, rfl, .inr hp, fp, q⟩

def EndOk (K : PySem.W.Frag) (D : Ends) (ρ : Rho) (σ : L2.St) (H : Hp) (F' : Hp) (σ' : L2.St) (H' : Hp) : Fl → Prop
  | .nx => D.nx σ' H'
  | .bk => D.bk σ' H'
  | .ct => D.ct σ' H'
  | .rt r => ∀ v, ResR K ρ σ H F' H' v r → D.rt v H'
def tS (K : PySem.W.Frag) (g : MS) : TS := fun D σ H => ∃ F ρ fl ρ', Rel K F ρ σ H ∧ g ρ = some (fl, ρ') ∧ ∀ F' σ' H', Rel K F' ρ' σ' H' → Stp F ρ σ H F' ρ' σ' H' → EndOk K D ρ σ H F' σ' H' fl
abbrev VS (X : Cx) (st : Stmt) (g : MS) : Prop := PS X st (tS X.K g)
abbrev VB (X : Cx) (sts : List Stmt) (g : MS) : Prop := PSs X sts (tS X.K g)
theorem PS.of {X : Cx} {st : Stmt} {t t' : TS} (h : PS X st t) (q : ∀ D σ H, σ.length = X.N.length → t' D σ H → t D σ H) : PS X st t' := ⟨fun pins s σ H D I w => h.run pins s σ H D I (q D σ H I.len w)⟩
theorem PSs.of {X : Cx} {st : List Stmt} {t t' : TS} (h : PSs X st t) (q : ∀ D σ H, σ.length = X.N.length → t' D σ H → t D σ H) : PSs X st t' := ⟨fun pins s σ H D I w => h.run pins s σ H D I (q D σ H I.len w)⟩

def fNext : MS := fun ρ => some (.nx, ρ)
def fSeq (g h : MS) : MS := fun ρ => match g ρ with
  | some (.nx, ρ1) => h ρ1
  | x => x
section
variable {X : Cx} {st : Stmt} {rest : List Stmt} {g h : MS} {pos : Pos}
theorem vb_nil : VB X [] fNext := PSs.of pss_nil fun D σ H _ ⟨F, ρ, fl, ρ', R, e, post⟩ => by
  cases e
  exact post F σ H R .refl
theorem vb_one (h1 : VS X st g) : VB X [st] g := pss_one h1
theorem EndOk.back {K : PySem.W.Frag} {D : Ends} {F F1 F2 H H1 H2 : Hp} {ρ ρ1 : Rho} {σ σ1 σ2 : L2.St} {fl : Fl} (S : Stp F ρ σ H F1 ρ1 σ1 H1) (h : EndOk K D ρ σ H F2 σ2 H2 fl) : EndOk K D ρ1 σ1 H1 F2 σ2 H2 fl := by
  cases fl with
  | rt r => exact fun v q => h v (q.back S)
  | nx => exact h
  | bk => exact h
  | ct => exact h
theorem vb_cons (h1 : VS X st g) (h2 : VB X rest h) : VB X (st :: rest) (fSeq g h) :=
  PSs.of (pss_cons h1 h2) fun D σ H _ ⟨F, ρ, fl, ρ', R, e, post⟩ => by
    unfold fSeq at e
    split at e
    · rename_i ρ1 he
      exact ⟨F, ρ, .nx, ρ1, R, he, fun F1 σ1 H1 R1 S1 => ⟨F1, ρ1, fl, ρ', R1, e, fun F2 σ2 H2 R2 S2 => (post F2 σ2 H2 R2 (S1.trans S2)).back S1⟩⟩
    · rename_i y hne
      refine ⟨F, ρ, fl, ρ', R, e, fun F1 σ1 H1 R1 S1 => ?_⟩
      have q := post F1 σ1 H1 R1 S1
      cases fl with
      | nx => exact absurd e (hne ρ')
      | rt r => exact q
      | bk => exact q
      | ct => exact q
theorem vs_pass : VS X (.Pass pos) fNext := PS.of ps_pass fun D σ H _ ⟨F, ρ, fl, ρ', R, e, post⟩ => by
  cases e
  exact post F σ H R .refl
theorem vs_break : VS X (.Break pos) (fun ρ => some (.bk, ρ)) := PS.of ps_break fun D σ H _ ⟨F, ρ, fl, ρ', R, e, post⟩ => by
  cases e
  exact post F σ H R .refl
theorem vs_continue : VS X (.Continue pos) (fun ρ => some (.ct, ρ)) := PS.of ps_continue fun D σ H _ ⟨F, ρ, fl, ρ', R, e, post⟩ => by
  cases e
  exact post F σ H R .refl
/-- code that is not come to -/
def fNever : MS := fun _ => none
theorem vs_never : VS X st fNever := PS.of ps_never fun D σ H _ ⟨F, ρ, fl, ρ', R, e, post⟩ => by cases e
def fExpr (f : ME) : MS := fun ρ => match f ρ with
  | some (_, ρ1) => some (.nx, ρ1)
  | none => none
theorem vs_expr {e : Expr} {f : ME} (he : VE X e f) (hs : swapsWith e none pos.line X.env = pure false := by rfl) : VS X (.Expr e pos) (fExpr f) :=
  PS.of (ps_expr he hs) fun D σ H _ ⟨F, ρ, fl, ρ', R, e, post⟩ => by
    unfold fExpr at e
    split at e
    · rename_i r ρ1 hr
      cases e
      exact ⟨F, ρ, r, _, R, hr, fun v F1 H1 R1 S1 _ => post F1 σ H1 R1 S1.stp⟩
    · cases e
def fRet (f : ME) : MS := fun ρ => match f ρ with
  | some (r, ρ1) => some (.rt r, ρ1)
  | none => none
theorem vs_ret {e : Expr} {f : ME} (he : VE X e f) : VS X (.Return (some e) pos) (fRet f) :=
  PS.of (ps_ret he) fun D σ H _ ⟨F, ρ, fl, ρ', R, e, post⟩ => by
    unfold fRet at e
    split at e
    · rename_i r ρ1 hr
      cases e
      exact ⟨F, ρ, r, _, R, hr, fun v F1 H1 R1 S1 res => post F1 σ H1 R1 S1.stp v res.toR⟩
    · cases e
def fRet0 : MS := fun ρ => some (.rt ⟨.fz, .non⟩, ρ)
theorem vs_ret0 : VS X (.Return none pos) fRet0 := PS.of ps_retN fun D σ H _ ⟨F, ρ, fl, ρ', R, e, post⟩ => by
  cases e
  exact post F σ H R .refl .non Rep.non
theorem Rel.drop {K : PySem.W.Frag} {F H : Hp} {ρ : Rho} {σ : L2.St} (R : Rel K F ρ σ H) (i : Nat) : Rel K F (ρ.set i none) σ H := by
  refine ⟨R.le, by rw [List.length_set]; exact R.len, fun j s e => ?_, fun j k s t p h1 h2 => ?_⟩
  · rcases getElem?_set' e with ⟨_, h⟩ | ⟨_, h⟩
    · cases h
    · exact R.at_ j s h
  · rcases getElem?_set' h1 with ⟨_, h⟩ | ⟨_, h1⟩
    · cases h
    · rcases getElem?_set' h2 with ⟨_, h⟩ | ⟨_, h2⟩
      · cases h
      · exact R.ne j k s t p h1 h2
/-- a local of one's own is handed back -/
def fRetN (i : Nat) : MS := fun ρ => match ρ[i]? with
  | some (some ⟨.fz, d⟩) => some (.rt ⟨.fz, d⟩, ρ)
  | some (some ⟨.own, d⟩) => some (.rt ⟨.own, d⟩, ρ.set i none)
  | _ => none
theorem vs_retN (i : Nat) {x : Str} {p : Pos} (he : PE X (.Name x p) (tVar i)) : VS X (.Return (some (.Name x p)) pos) (fRetN i) :=
  PS.of (ps_ret he) fun D σ H _ ⟨F, ρ, fl, ρ', R, e, post⟩ => by
    unfold fRetN at e
    split at e
    · rename_i d hd
      cases e
      obtain ⟨v, hv, ok⟩ := R.at_ i _ hd
      exact ⟨v, hv, post F σ H R .refl v (ok.fz rfl)⟩
    · rename_i d hd
      cases e
      obtain ⟨v, hv, ok⟩ := R.at_ i _ hd
      obtain ⟨p, rfl, fp, oa⟩ := ok.nfz (by intro z; cases z)
      refine ⟨.ref p, hv, post F σ H (R.drop i) ⟨Le.refl F, fun _ _ h _ => h, fun _ o h => ⟨o, h, fun _ => rfl⟩, fun _ o h => .inl ⟨o, h⟩, fun a h => .inl ?_, fun j m d' hm z => ?_, fun j m d' hm z => ?_⟩ _ ⟨p, rfl, .inl ⟨i, _, hd, rfl, hv⟩, fp, oa⟩⟩
      · obtain ⟨j, s, h1, h2⟩ := h
        rcases getElem?_set' h1 with ⟨_, h⟩ | ⟨_, h1⟩
        · cases h
        · exact ⟨j, s, h1, h2⟩
      · have ne : j ≠ i := fun h => by subst h; rw [hd] at z; cases z; exact hm
        rw [List.getElem?_set_ne (Ne.symm ne)]
        exact ⟨⟨d', z⟩, rfl⟩
      · rcases getElem?_set' z with ⟨_, h⟩ | ⟨_, h⟩
        · cases h
        · exact ⟨d', h⟩
    · cases e
def fIfS (t : MT) (g h : MS) : MS := fun ρ => match t ρ with
  | some (true, ρ1) => g ρ1
  | some (false, ρ1) => h ρ1
  | none => none
theorem vs_if {c : Expr} {a b : List Stmt} {t : MT} (hc : VT X c t) (ha : VB X a g) (hb : VB X b h) : VS X (.If c a b pos) (fIfS t g h) :=
  PS.of (ps_if hc ha hb) fun D σ H _ ⟨F, ρ, fl, ρ', R, e, post⟩ => by
    unfold fIfS at e
    split at e
    · rename_i ρ1 h1
      exact ⟨F, ρ, _, ρ1, R, h1, fun F1 H1 R1 S1 => by refine iteT ?_; exact ⟨F1, ρ1, fl, ρ', R1, e, fun F2 σ2 H2 R2 S2 => (post F2 σ2 H2 R2 (S1.stp.trans S2)).back S1.stp⟩⟩
    · rename_i ρ1 h1
      exact ⟨F, ρ, _, ρ1, R, h1, fun F1 H1 R1 S1 => by refine iteF ?_; exact ⟨F1, ρ1, fl, ρ', R1, e, fun F2 σ2 H2 R2 S2 => (post F2 σ2 H2 R2 (S1.stp.trans S2)).back S1.stp⟩⟩
    · cases e
end

/-! ### storing to a name -/
def free (ρ : Rho) (i : Nat) : Bool := match ρ[i]? with
  | some (some ⟨.par, _⟩) => false
  | some (some ⟨.lent, _⟩) => false
  | some _ => true
  | none => false
theorem free_lt {ρ : Rho} {i : Nat} (h : free ρ i = true) : i < ρ.length := by
  cases e : ρ[i]? with
  | none => unfold free at h; rw [e] at h; cases h
  | some x => exact (List.getElem?_eq_some_iff.mp e).1
theorem free_not {ρ : Rho} {i : Nat} (h : free ρ i = true) {m : Md} {d : D} (hm : m.fixed) (e : ρ[i]? = some (some ⟨m, d⟩)) : False := by
  unfold free at h
  rw [e] at h
  cases m with
  | fz => exact hm
  | own => exact hm
  | par => cases h
  | lent => cases h
theorem Rel.put {K : PySem.W.Frag} {F H : Hp} {ρ : Rho} {σ : L2.St} {i : Nat} {v : V} {r : Sl} (R : Rel K F ρ σ H) (hi : i < ρ.length) (ok : SlOk K F H v r)
    (hn : r.m ≠ .fz → ∀ p, v = .ref p → ∀ (j : Nat) (s : Sl), ρ[j]? = some (some s) → s.m ≠ .fz → σ[j]? ≠ some (some (.ref p))) : Rel K F (ρ.set i (some r)) (σ.set i (some v)) H := by
  have hi' : i < σ.length := by rw [← R.len]; exact hi
  refine ⟨R.le, by rw [List.length_set, List.length_set]; exact R.len, fun j s e => ?_, fun j k s t p h1 h2 m1 m2 h3 h4 => ?_⟩
  · rcases getElem?_set' e with ⟨rfl, h⟩ | ⟨ne, h⟩
    · cases h
      exact ⟨v, by rw [List.getElem?_set_self hi'], ok⟩
    · obtain ⟨w, hw, ok'⟩ := R.at_ j s h
      exact ⟨w, by rw [List.getElem?_set_ne (Ne.symm ne)]; exact hw, ok'⟩
  · rcases getElem?_set' h1 with ⟨rfl, h⟩ | ⟨n1, h1⟩
    · cases h
      rw [List.getElem?_set_self hi'] at h3
      rcases getElem?_set' h2 with ⟨rfl, h⟩ | ⟨n2, h2⟩
      · rfl
      · rw [List.getElem?_set_ne (Ne.symm n2)] at h4
        exact absurd h4 (hn m1 p (by simpa using h3) k t h2 m2)
    · rw [List.getElem?_set_ne (Ne.symm n1)] at h3
      rcases getElem?_set' h2 with ⟨e2, h⟩ | ⟨n2, h2⟩
      · cases h
        rw [e2, List.getElem?_set_self hi'] at h4
        exact absurd h3 (hn m2 p (by simpa using h4) j s h1 m1)
      · rw [List.getElem?_set_ne (Ne.symm n2)] at h4
        exact R.ne j k s t p h1 h2 m1 m2 h3 h4
/-- behind an expression, its value is stored -/
theorem Stp.put {K : PySem.W.Frag} {F F' H H' : Hp} {ρ ρ' : Rho} {σ : L2.St} {i : Nat} {v : V} {r : Sl} (R0 : Rel K F ρ σ H) (R : Rel K F' ρ' σ H') (S : StpE F ρ σ H F' ρ' H') (res : Res K F' H H' v r) (hf : free ρ' i = true) :
    Rel K F' (ρ'.set i (some r)) (σ.set i (some v)) H' ∧ Stp F ρ σ H F' (ρ'.set i (some r)) (σ.set i (some v)) H' := by
  have hi := free_lt hf
  have hi' : i < σ.length := by rw [← R.len]; exact hi
  have nfix : ¬ r.m.fixed := by
    rcases res.own_or with ⟨m, _⟩ | ⟨m, _⟩ <;> (rw [m]; exact id)
  refine ⟨R.put hi ?_ ?_, ⟨S.stp.le, S.stp.keep, S.stp.there, S.stp.newF, fun a h => ?_, fun j m d hm z => ?_, fun j m d hm z => ?_⟩⟩
  · rcases res.own_or with ⟨m, q⟩ | ⟨m, p, rfl, hp, fp, q⟩
    · exact .mk_fz m q
    · exact .mk_n (by rw [m]; intro z; cases z) fp q
  · intro nm p e
    rcases res.own_or with ⟨m, q⟩ | ⟨m, p', rfl, hp, fp, q⟩
    · exact absurd m nm
    · cases e
      exact fresh_ne R0 S hp
  · obtain ⟨j, s, h1, h2, h3⟩ := h
    rcases getElem?_set' h1 with ⟨rfl, h⟩ | ⟨n1, h1⟩
    · cases h
      rw [List.getElem?_set_self hi'] at h3
      rcases res.own_or with ⟨m, q⟩ | ⟨m, p', rfl, hp, fp, q⟩
      · rw [m] at h2; cases h2
      · cases h3
        exact .inr hp
    · rw [List.getElem?_set_ne (Ne.symm n1)] at h3
      exact S.stp.ownO a ⟨j, s, h1, h2, h3⟩
  · obtain ⟨⟨d', e⟩, e1⟩ := S.stp.fwd j m d hm z
    have ne : j ≠ i := fun h => by subst h; exact free_not hf hm e
    rw [List.getElem?_set_ne (Ne.symm ne), List.getElem?_set_ne (Ne.symm ne)]
    exact ⟨⟨d', e⟩, e1⟩
  · rcases getElem?_set' z with ⟨_, h⟩ | ⟨_, h⟩
    · cases h; exact absurd hm nfix
    · exact S.stp.bwd j m d hm h
def fAsg (i : Nat) (f : ME) : MS := fun ρ => match f ρ with
  | some (r, ρ1) => if free ρ1 i = true then some (.nx, ρ1.set i (some r)) else none
  | none => none
theorem tS_asg {K : PySem.W.Frag} {i : Nat} {f : ME} {D : Ends} {σ : L2.St} {H : Hp} (h : tS K (fAsg i f) D σ H) : tAsg (tE K f) (gName i) D σ H := by
  obtain ⟨F, ρ, fl, ρ', R, e, post⟩ := h
  unfold fAsg at e
  split at e
  · rename_i r ρ1 hr
    split at e
    · rename_i hf
      cases e
      refine ⟨F, ρ, r, ρ1, R, hr, fun v F1 H1 R1 S1 res => ?_⟩
      obtain ⟨R2, S2⟩ := Stp.put R R1 S1 res hf
      exact post F1 _ H1 R2 S2
    · cases e
  · cases e
theorem vs_asg {X : Cx} {i : Nat} {x : Str} {e : Expr} {f : ME} {pos' pos : Pos} (hN : X.N.Nodup) (hi : X.N[i]? = some x) (hx : Loc X.env.scope x) (he : VE X e f) (hs : swapsWith e (some (.Name x pos')) pos.line X.env = pure false := by rfl) (hf : X.fn x = true ∨ X.env.scope.names.lookup x = some .local := by first | exact .inl rfl | exact .inr rfl | assumption) :
    VS X (.Assign [.Name x pos'] e pos) (fAsg i f) := PS.of (ps_set hN hi hx he hs hf) fun _ _ _ _ q => tS_asg q

/-! ### targets of loops and of unpacking: data is bound -/
abbrev MG := D → Rho → Option Rho
def bindN (i : Nat) : MG := fun d ρ => if free ρ i = true then some (ρ.set i (some ⟨.fz, d⟩)) else none
def bindA : List Nat → List D → Rho → Option Rho
  | [], [], ρ => some ρ
  | i :: is, d :: ds, ρ => (bindN i d ρ).bind (bindA is ds)
  | _, _, _ => none
def bindT (is : List Nat) : MG := fun d ρ => match d with
  | .tup ds => bindA is ds ρ
  | _ => none
def tG (K : PySem.W.Frag) (is : List Nat) (b : MG) : TG := fun v σ H Q => ∃ F ρ d ρ', Rel K F ρ σ H ∧ Rep K F v d ∧ b d ρ = some ρ' ∧ ∀ σ', wipe σ' is = wipe σ is → Rel K F ρ' σ' H → Stp F ρ σ H F ρ' σ' H → Q σ' H
abbrev VG (X : Cx) (tg : Expr) (is : List Nat) (b : MG) : Prop := PG X tg (tG X.K is b)
theorem PG.of {X : Cx} {tg : Expr} {t t' : TG} (h : PG X tg t) (q : ∀ v σ H Q, t' v σ H Q → t v σ H Q) : PG X tg t' := ⟨fun pins s σ H v u Q I r w => h.run pins s σ H v u Q I r (q v σ H Q w)⟩
theorem wipe_set {σ : L2.St} {i : Nat} {x : Option V} : ∀ {is : List Nat}, i ∈ is → wipe (σ.set i x) is = wipe σ is
  | v :: vs, h => by
    unfold wipe
    by_cases e : i = v
    · subst e
      have aux : ∀ (ws : List Nat) (τ : L2.St), (wipe (τ.set i x) ws).set i none = (wipe τ ws).set i none := by
        intro ws
        induction ws with
        | nil => intro τ; unfold wipe; rw [List.set_set]
        | cons w ws ih =>
          intro τ
          unfold wipe
          by_cases ew : w = i
          · subst ew; rw [List.set_set, List.set_set]; exact ih τ
          · rw [List.set_comm _ _ ew, List.set_comm _ _ ew, ih τ]
      exact aux vs σ
    · have : i ∈ vs := by
        rcases List.mem_cons.mp h with h | h
        · exact absurd h e
        · exact h
      rw [wipe_set this]
theorem bindN_ok {K : PySem.W.Frag} {F H : Hp} {ρ ρ' : Rho} {σ : L2.St} {i : Nat} {v : V} {d : D} (R : Rel K F ρ σ H) (r : Rep K F v d) (e : bindN i d ρ = some ρ') : Rel K F ρ' (σ.set i (some v)) H ∧ Stp F ρ σ H F ρ' (σ.set i (some v)) H := by
  unfold bindN at e
  split at e
  · rename_i hf
    cases e
    exact Stp.put R R .refl (Res.fz r) hf
  · cases e
theorem vg_name {X : Cx} {i : Nat} {x : Str} {pos : Pos} (hN : X.N.Nodup) (hi : X.N[i]? = some x) (hx : Loc X.env.scope x) (hf : X.fn x = true ∨ X.env.scope.names.lookup x = some .local := by first | exact .inl rfl | exact .inr rfl | assumption) : VG X (.Name x pos) [i] (bindN i) :=
  PG.of (pg_name hN hi hx hf) fun v σ H Q ⟨F, ρ, d, ρ', R, r, e, post⟩ => by
    obtain ⟨R2, S2⟩ := bindN_ok R r e
    exact post _ (wipe_set (List.mem_singleton.mpr rfl)) R2 S2
/-- several names -/
def tGs (K : PySem.W.Frag) (is : List Nat) (b : List D → Rho → Option Rho) : TGs := fun vs σ H Q => ∃ F ρ ds ρ', Rel K F ρ σ H ∧ RepL K F vs ds ∧ b ds ρ = some ρ' ∧ ∀ σ', wipe σ' is = wipe σ is → Rel K F ρ' σ' H → Stp F ρ σ H F ρ' σ' H → Q σ' H
abbrev VGs (X : Cx) (ts : List Expr) (is : List Nat) (b : List D → Rho → Option Rho) : Prop := PGs X ts (tGs X.K is b)
theorem PGs.of {X : Cx} {tg : List Expr} {t t' : TGs} (h : PGs X tg t) (q : ∀ v σ H Q, t' v σ H Q → t v σ H Q) : PGs X tg t' := ⟨fun pins s σ H v u Q I r w => h.run pins s σ H v u Q I r (q v σ H Q w)⟩
theorem vgs_nil {X : Cx} : VGs X [] [] (bindA []) := PGs.of pgs_nil fun vs σ H Q ⟨F, ρ, ds, ρ', R, r, e, post⟩ => by
  cases r with
  | nil => cases e; exact ⟨rfl, post σ rfl R .refl⟩
  | cons _ _ => cases e
theorem wipe_sub {σ τ : L2.St} {i : Nat} {is : List Nat} (h : wipe σ is = wipe τ is) : wipe σ (i :: is) = wipe τ (i :: is) := by unfold wipe; rw [h]
theorem vgs_cons {X : Cx} {i : Nat} {is : List Nat} {x : Str} {pos : Pos} {es : List Expr} (hN : X.N.Nodup) (hi : X.N[i]? = some x) (hx : Loc X.env.scope x) (h2 : VGs X es is (bindA is))
    (hs : (assignEach (.Name x pos :: es) X.env).map (·.2) = assign (.Name x pos) X.env :: (assignEach es X.env).map (·.2) := by rfl) (hf : X.fn x = true ∨ X.env.scope.names.lookup x = some .local := by first | exact .inl rfl | exact .inr rfl | assumption) : VGs X (.Name x pos :: es) (i :: is) (bindA (i :: is)) :=
  PGs.of (pgs_cons (pg_name hN hi hx hf) h2 hs) fun vs σ H Q ⟨F, ρ, ds, ρ', R, r, e, post⟩ => by
    cases r with
    | nil => cases e
    | @cons v vs d ds r1 r2 =>
      obtain ⟨ρ1, e1, e2⟩ := Option.bind_eq_some_iff.mp (show (bindN i d ρ).bind (bindA is ds) = some ρ' from e)
      obtain ⟨R1, S1⟩ := bindN_ok R r1 e1
      exact ⟨v, vs, rfl, F, ρ1, ds, ρ', R1, r2, e2, fun σ' w R2 S2 => post σ' ((wipe_sub w).trans (wipe_set (List.mem_cons_self))) R2 (S1.trans S2)⟩
theorem bindA_len : ∀ {is : List Nat} {ds : List D} {ρ ρ' : Rho}, bindA is ds ρ = some ρ' → ds.length = is.length
  | [], [], _, _, _ => rfl
  | i :: is, d :: ds, ρ, ρ', h => by
    obtain ⟨ρ1, _, e2⟩ := Option.bind_eq_some_iff.mp (show (bindN i d ρ).bind (bindA is ds) = some ρ' from h)
    rw [List.length_cons, List.length_cons, bindA_len e2]
  | [], _ :: _, _, _, h => by cases h
  | _ :: _, [], _, _, h => by cases h
theorem vg_tup {X : Cx} {es : List Expr} {is : List Nat} {k : Nat} {pos : Pos} (hc : X.calm = true) (h : VGs X es is (bindA is)) (hn : (assignEach es X.env).length = is.length := by rfl) (hst : (assignEach es X.env).findIdx? (·.1) = none := by rfl) : VG X (.Tuple es k pos) is (bindT is) :=
  PG.of (pg_tup hc h hn hst) fun v σ H Q ⟨F, ρ, d, ρ', R, r, e, post⟩ => by
    cases r with
    | @tup a vs ds h1 h2 => exact ⟨a, vs, rfl, SqT.of (R.le _ _ h1), by rw [h2.length]; exact bindA_len e, F, ρ, ds, ρ', R, h2, e, post⟩
    | _ => cases e
/-- a, b = e -/
def fBind (b : MG) (f : ME) : MS := fun ρ => match f ρ with
  | some (r, ρ1) => match b r.d ρ1 with
    | some ρ2 => some (.nx, ρ2)
    | none => none
  | none => none
theorem tS_bind {K : PySem.W.Frag} {is : List Nat} {b : MG} {f : ME} {D : Ends} {σ : L2.St} {H : Hp} (h : tS K (fBind b f) D σ H) : tAsg (tE K f) (tG K is b) D σ H := by
  obtain ⟨F, ρ, fl, ρ', R, e, post⟩ := h
  unfold fBind at e
  split at e
  · rename_i r ρ1 hr
    split at e
    · rename_i ρ2 hb
      cases e
      refine ⟨F, ρ, r, ρ1, R, hr, fun v F1 H1 R1 S1 res => ?_⟩
      obtain ⟨F2, R2, S2, rp⟩ := res.frozen R R1 S1
      exact ⟨F2, ρ1, r.d, _, R2, rp, hb, fun σ' _ R3 S3 => post F2 σ' H1 R3 (S2.stp.trans S3)⟩
    · cases e
  · cases e
theorem vs_bind {X : Cx} {tg e : Expr} {is : List Nat} {b : MG} {f : ME} {pos : Pos} (he : VE X e f) (hg : VG X tg is b) (hs : swapsWithSole [tg] e pos.line X.env = pure false := by rfl) (hw : swappedStores [tg] e X.env = pure none := by rfl)
    (h1 : (assignEach [tg] X.env).map (·.2) = [assign tg X.env] := by rfl) : VS X (.Assign [tg] e pos) (fBind b f) := PS.of (ps_asg he hg hs hw h1) fun _ _ _ _ q => tS_bind q
end VI

namespace VI
open PySem PySem.Spec PyProof.Rows L2

/-! ### what is walked is lent -/
@[simp] def lend (pk : Pk) (ρ : Rho) : Rho := match pk with
  | .sl i => match ρ[i]? with
    | some (some ⟨.own, d⟩) => ρ.set i (some ⟨.lent, d⟩)
    | some (some ⟨.par, d⟩) => ρ.set i (some ⟨.lent, d⟩)
    | _ => ρ
  | .vl _ => ρ
@[simp] def back (pk : Pk) (ρ0 ρ : Rho) : Rho := match pk with
  | .sl i => match ρ0[i]?, ρ[i]? with
    | some (some ⟨.own, _⟩), some (some ⟨.lent, d⟩) => ρ.set i (some ⟨.own, d⟩)
    | some (some ⟨.par, _⟩), some (some ⟨.lent, d⟩) => ρ.set i (some ⟨.par, d⟩)
    | _, _ => ρ
  | .vl _ => ρ
/-- either nothing is lent, or one slot of one's own -/
theorem lend_cases (pk : Pk) (ρ : Rho) : (lend pk ρ = ρ ∧ ∀ ρ', back pk ρ ρ' = ρ') ∨
    ∃ i m d, pk = .sl i ∧ (m = .own ∨ m = .par) ∧ ρ[i]? = some (some ⟨m, d⟩) ∧ lend pk ρ = ρ.set i (some ⟨.lent, d⟩) ∧ ∀ ρ' d', ρ'[i]? = some (some ⟨.lent, d'⟩) → back pk ρ ρ' = ρ'.set i (some ⟨m, d'⟩) := by
  cases pk with
  | vl d => exact .inl ⟨rfl, fun _ => rfl⟩
  | sl i =>
    cases e : ρ[i]? with
    | none => exact .inl ⟨by simp [lend, e], fun ρ' => by simp [back, e]⟩
    | some x =>
      cases x with
      | none => exact .inl ⟨by simp [lend, e], fun ρ' => by simp [back, e]⟩
      | some s =>
        obtain ⟨m, d⟩ := s
        cases m with
        | fz => exact .inl ⟨by simp [lend, e], fun ρ' => by simp [back, e]⟩
        | lent => exact .inl ⟨by simp [lend, e], fun ρ' => by simp [back, e]⟩
        | own => exact .inr ⟨i, .own, d, rfl, .inl rfl, e, by simp [lend, e], fun ρ' d' h => by simp [back, e, h]⟩
        | par => exact .inr ⟨i, .par, d, rfl, .inr rfl, e, by simp [lend, e], fun ρ' d' h => by simp [back, e, h]⟩
section
variable {K : PySem.W.Frag} {F F' H H' : Hp} {ρ ρ' : Rho} {σ σ' : L2.St}
/-- a slot's mode turns, both ways not frozen -/
theorem Rel.mode (R : Rel K F ρ σ H) {i : Nat} {m m' : Md} {d : D} (e : ρ[i]? = some (some ⟨m, d⟩)) (h : m ≠ .fz) (h' : m' ≠ .fz) : Rel K F (ρ.set i (some ⟨m', d⟩)) σ H := by
  refine ⟨R.le, by rw [List.length_set]; exact R.len, fun j s z => ?_, fun j k s t p h1 h2 m1 m2 h3 h4 => ?_⟩
  · rcases getElem?_set' z with ⟨ej, zz⟩ | ⟨_, zz⟩
    · cases zz
      obtain ⟨v, hv, ok⟩ := R.at_ i _ e
      obtain ⟨p, rfl, fp, oa⟩ := ok.nfz h
      exact ⟨_, by rw [ej]; exact hv, .mk_n h' fp oa⟩
    · exact R.at_ j s zz
  · have aux : ∀ (j : Nat) (s : Sl), (ρ.set i (some ⟨m', d⟩))[j]? = some (some s) → s.m ≠ .fz → ∃ s', ρ[j]? = some (some s') ∧ s'.m ≠ .fz := fun j s z hm => by
      rcases getElem?_set' z with ⟨rfl, _⟩ | ⟨_, z⟩
      · exact ⟨_, e, h⟩
      · exact ⟨s, z, hm⟩
    obtain ⟨s', e1, n1⟩ := aux j s h1 m1
    obtain ⟨t', e2, n2⟩ := aux k t h2 m2
    exact R.ne j k s' t' p e1 e2 n1 n2 h3 h4
theorem Rel.lend (R : Rel K F ρ σ H) (pk : Pk) : Rel K F (lend pk ρ) σ H := by
  rcases lend_cases pk ρ with ⟨e, _⟩ | ⟨i, m, d, rfl, hm, e, el, _⟩
  · rw [e]; exact R
  · rw [el]
    exact R.mode e (by rcases hm with rfl | rfl <;> (intro z; cases z)) (by intro z; cases z)
theorem Stp.lend {pk : Pk} (R : Rel K F ρ σ H) (R' : Rel K F' ρ' σ' H') (S : Stp F (VI.lend pk ρ) σ H F' ρ' σ' H') : Rel K F' (back pk ρ ρ') σ' H' ∧ Stp F ρ σ H F' (back pk ρ ρ') σ' H' := by
  rcases lend_cases pk ρ with ⟨e, b⟩ | ⟨i, m, d, rfl, hm, e, el, b⟩
  · rw [e] at S
    rw [b]
    exact ⟨R', S⟩
  · have hi : i < ρ.length := (List.getElem?_eq_some_iff.mp e).1
    have li : (VI.lend (.sl i) ρ)[i]? = some (some ⟨.lent, d⟩) := by rw [el, List.getElem?_set_self hi]
    have lj : ∀ j, j ≠ i → (VI.lend (.sl i) ρ)[j]? = ρ[j]? := fun j hj => by rw [el, List.getElem?_set_ne (Ne.symm hj)]
    obtain ⟨⟨d', e'⟩, es⟩ := S.fwd i .lent d trivial li
    rw [b ρ' d' e']
    have hi' : i < ρ'.length := (List.getElem?_eq_some_iff.mp e').1
    have bi : (ρ'.set i (some ⟨m, d'⟩))[i]? = some (some ⟨m, d'⟩) := List.getElem?_set_self hi'
    have bj : ∀ j, j ≠ i → (ρ'.set i (some ⟨m, d'⟩))[j]? = ρ'[j]? := fun j hj => List.getElem?_set_ne (Ne.symm hj)
    have nm : m ≠ .fz := by rcases hm with rfl | rfl <;> (intro z; cases z)
    have oO : ∀ a, OwnO (VI.lend (.sl i) ρ) σ a → OwnO ρ σ a := fun a ⟨j, s, h1, h2, h3⟩ => by
      by_cases hj : j = i
      · subst hj; rw [li] at h1; cases h1; cases h2
      · rw [lj j hj] at h1; exact ⟨j, s, h1, h2, h3⟩
    have oA : ∀ a, Own (VI.lend (.sl i) ρ) σ a → Own ρ σ a := fun a ⟨j, s, h1, h2, h3⟩ => by
      by_cases hj : j = i
      · subst hj; rw [li] at h1; cases h1; rcases h2 with h2 | h2 <;> cases h2
      · rw [lj j hj] at h1; exact ⟨j, s, h1, h2, h3⟩
    refine ⟨R'.mode e' (by intro z; cases z) nm, ⟨S.le, fun a o h n => S.keep a o h fun z => n (oA a z), S.there, fun a o h => ?_, fun a h => ?_, fun j m' dd hm' z => ?_, fun j m' dd hm' z => ?_⟩⟩
    · rcases S.newF a o h with q | q | q | q
      · exact .inl q
      · exact .inr (.inl q)
      · exact .inr (.inr (.inl (oO a q)))
      · exact .inr (.inr (.inr q))
    · obtain ⟨j, s, h1, h2, h3⟩ := h
      by_cases hj : j = i
      · subst hj
        rw [bi] at h1; cases h1
        cases h2
        rw [es] at h3
        exact .inl ⟨j, _, e, rfl, h3⟩
      · rw [bj j hj] at h1
        rcases S.ownO a ⟨j, s, h1, h2, h3⟩ with q | q
        · exact .inl (oO a q)
        · exact .inr q
    · by_cases hj : j = i
      · subst hj
        rw [e] at z; cases z
        exact ⟨⟨d', bi⟩, es⟩
      · rw [bj j hj]
        exact S.fwd j m' dd hm' (by rw [lj j hj]; exact z)
    · by_cases hj : j = i
      · subst hj
        rw [bi] at z; cases z
        exact ⟨d, e⟩
      · rw [bj j hj] at z
        obtain ⟨d2, q⟩ := S.bwd j m' dd hm' z
        rw [lj j hj] at q
        exact ⟨d2, q⟩
end

/-! ### a walk -/
def Itn (K : PySem.W.Frag) (F : Hp) (ρ : Rho) (σ : L2.St) (H : Hp) (J : It) (ds : List D) : Prop := ∃ G Y, Walk J ds.length G Y ∧
  (∀ F' ρ' σ' H', Stp F ρ σ H F' ρ' σ' H' → Le F' H' → G H') ∧
  ∀ (i : Nat) F' ρ' σ' H' x H'', i < ds.length → Stp F ρ σ H F' ρ' σ' H' → Le F' H' → Y i H' x H'' → ∃ F'' d, ds[i]? = some d ∧ New K F' H' F'' H'' x ⟨.fz, d⟩
def loopM (b : MG) (body : MS) : List D → MS
  | [], ρ => some (.nx, ρ)
  | d :: ds, ρ => match b d ρ with
    | none => none
    | some ρ1 => match body ρ1 with
      | some (.nx, ρ2) => loopM b body ds ρ2
      | some (.ct, ρ2) => loopM b body ds ρ2
      | some (.bk, ρ2) => some (.nx, ρ2)
      | some (.rt r, ρ2) => some (.rt r, ρ2)
      | none => none
theorem for_ok {K : PySem.W.Frag} {F H : Hp} {ρ ρ' : Rho} {σ : L2.St} {J : It} {ds : List D} {is : List Nat} {b : MG} {body : MS} {fl : Fl} {D : Ends} (R : Rel K F ρ σ H) (it : Itn K F ρ σ H J ds) (e : loopM b body ds ρ = some (fl, ρ'))
    (post : ∀ F' σ' H', Rel K F' ρ' σ' H' → Stp F ρ σ H F' ρ' σ' H' → EndOk K D ρ σ H F' σ' H' fl) :
    ∃ W : Nat → Nat → L2.St → Hp → Prop, (∃ m, W 0 m σ H) ∧ ∀ i m σ H, W i m σ H →
      (J.stop i H ∧ D.nx σ H) ∨ (J.go i H ∧ ∃ N : L2.St → Hp → Prop, (∀ σ' H', N σ' H' → ∃ m', m' < m ∧ W (i + 1) m' σ' H') ∧ ∀ x H', J.yld i H x H' → tG K is b x σ H' fun σ2 H2 => tS K body { D with nx := N, ct := N, bk := D.nx } σ2 H2) := by
  obtain ⟨G, Y, w, hG, hY⟩ := it
  refine for_it w (fun k σ' H' => ∃ F' ρ1, Rel K F' ρ1 σ' H' ∧ Stp F ρ σ H F' ρ1 σ' H' ∧ loopM b body (ds.drop k) ρ1 = some (fl, ρ')) ⟨F, ρ, R, .refl, by rw [List.drop_zero]; exact e⟩ (fun i σ' H' _ ⟨F', ρ1, R1, S1, _⟩ => hG F' ρ1 σ' H' S1 R1.le) (fun k x σ1 H1 H2 hk ⟨F1, ρ1, R1, S1, e1⟩ y => ?_) (fun σ' H' ⟨F', ρ1, R1, S1, e1⟩ => ?_)
  · obtain ⟨F2, d, hd, N⟩ := hY k F1 ρ1 σ1 H1 x H2 hk S1 R1.le y
    obtain ⟨R2, S2⟩ := R1.new N
    have S12 := S1.trans S2.stp
    have ed : ds.drop k = d :: ds.drop (k + 1) := by
      rw [List.drop_eq_getElem_cons hk]
      congr 1
      rw [List.getElem?_eq_getElem hk] at hd
      exact Option.some.inj hd
    rw [ed] at e1
    unfold loopM at e1
    cases hb : b d ρ1 with
    | none => rw [hb] at e1; cases e1
    | some ρa =>
      rw [hb] at e1
      simp only at e1
      refine ⟨F2, ρ1, d, ρa, R2, N.res, hb, fun σ2 _ R3 S3 => ?_⟩
      cases hB : body ρa with
      | none => rw [hB] at e1; cases e1
      | some z =>
        obtain ⟨fl', ρb⟩ := z
        rw [hB] at e1
        refine ⟨F2, ρa, fl', ρb, R3, hB, fun F4 σ4 H4 R4 S4 => ?_⟩
        have S14 := (S12.trans S3).trans S4
        cases fl' with
        | nx => exact ⟨F4, ρb, R4, S14, e1⟩
        | ct => exact ⟨F4, ρb, R4, S14, e1⟩
        | bk =>
          simp only [Option.some.injEq, Prod.mk.injEq] at e1
          obtain ⟨rfl, rfl⟩ := e1
          exact post F4 σ4 H4 R4 S14
        | rt r =>
          simp only [Option.some.injEq, Prod.mk.injEq] at e1
          obtain ⟨rfl, rfl⟩ := e1
          exact fun v q => post F4 σ4 H4 R4 S14 v (q.back (S12.trans S3))
  · rw [List.drop_length] at e1
    cases e1
    exact post F' σ' H' R1 S1
/-- the items of what is walked -/
def itemsD : D → Option (List D)
  | .lst ds => some ds
  | .tup ds => some ds
  | .str x => some (x.cps.toList.map fun c => .str ⟨#[c]⟩)
  | _ => none
def fFor (items : D → Option (List D)) (src : Opd) (b : MG) (body : MS) : MS := fun ρ => do
  let (pk, ρ1) ← evalO src ρ
  let d ← look pk ρ1
  let ds ← items d
  let (fl, ρ2) ← loopM b body ds (lend pk ρ1)
  pure (fl, back pk ρ1 ρ2)
/-- a value's walk (what is walked is lent) -/
def Walks (K : PySem.W.Frag) (items : D → Option (List D)) (wi : TE → TI) : Prop := ∀ (o : Opd) (σ : L2.St) (H : Hp) (R : It → Hp → Prop), (∃ F ρ pk ρ1 d ds, Rel K F ρ σ H ∧ evalO o ρ = some (pk, ρ1) ∧ look pk ρ1 = some d ∧ items d = some ds ∧
    ∀ F' H' J, Rel K F' ρ1 σ H' → StpE F ρ σ H F' ρ1 H' → Itn K F' (lend pk ρ1) σ H' J ds → R J H') → wi (tO K o) σ H R
theorem tS_for {K : PySem.W.Frag} {items : D → Option (List D)} {wi : TE → TI} {src : Opd} {is : List Nat} {b : MG} {body : MS} {D : Ends} {σ : L2.St} {H : Hp} (hw : Walks K items wi) (h : tS K (fFor items src b body) D σ H) : tFor (wi (tO K src)) (tG K is b) (tS K body) D σ H := by
  obtain ⟨F, ρ, fl, ρ', R, e, post⟩ := h
  obtain ⟨⟨pk, ρ1⟩, e1, e⟩ := bind_some e
  obtain ⟨d, e2, e⟩ := bind_some e
  obtain ⟨ds, e3, e⟩ := bind_some e
  obtain ⟨⟨fl', ρ2⟩, e4, e⟩ := bind_some e
  cases e
  refine hw src σ H _ ⟨F, ρ, pk, ρ1, d, ds, R, e1, e2, e3, fun F1 H1 J R1 S1 it => ?_⟩
  refine for_ok (R1.lend pk) it e4 fun F2 σ2 H2 R2 S2 => ?_
  obtain ⟨R3, S3⟩ := S2.lend R1 R2
  have q := (post F2 σ2 H2 R3 (S1.stp.trans S3)).back S1.stp
  cases fl with
  | nx => exact q
  | bk => exact q
  | ct => exact q
  | rt r =>
    refine fun v z => q v ?_
    rcases z.own_or with ⟨m, w⟩ | ⟨m, p, rfl, hp, fp, w⟩
    · unfold ResR; rw [m]; exact w
    · unfold ResR; rw [m]
      refine ⟨p, rfl, ?_, fp, w⟩
      rcases hp with ⟨j, s, h1, h2, h3⟩ | hp
      · rcases lend_cases pk ρ1 with ⟨e, _⟩ | ⟨i, m', d', rfl, hm, e, el, _⟩
        · rw [e] at h1; exact .inl ⟨j, s, h1, h2, h3⟩
        · rw [el] at h1
          rcases getElem?_set' h1 with ⟨_, h⟩ | ⟨_, h⟩
          · cases h; cases h2
          · exact .inl ⟨j, s, h, h2, h3⟩
      · exact .inr hp
/-- a frozen sequence, or a lent one, stands still -/
theorem itn_list {K : PySem.W.Frag} {F H : Hp} {ρ : Rho} {σ : L2.St} {a : Addr} {vs : List V} {ds : List D} (hs : ∀ F' ρ' σ' H', Stp F ρ σ H F' ρ' σ' H' → Le F' H' → SqL K H' a vs) (hr : RepL K F vs ds) : Itn K F ρ σ H (Itl K a) ds :=
  ⟨fun H => SqL K H a vs, YAt vs, by rw [← hr.length]; exact walk_list, hs, fun i F' ρ' σ' H' x H'' hi S l y => by
    obtain ⟨rfl, hx⟩ := y
    obtain ⟨d, hd, r⟩ := hr.get hx
    exact ⟨F', d, hd, New.same l (r.mono S.le)⟩⟩
theorem itn_tup {K : PySem.W.Frag} {F H : Hp} {ρ : Rho} {σ : L2.St} {a : Addr} {vs : List V} {ds : List D} (hs : ∀ F' ρ' σ' H', Stp F ρ σ H F' ρ' σ' H' → Le F' H' → SqT K H' a vs) (hr : RepL K F vs ds) : Itn K F ρ σ H (Itt K a) ds :=
  ⟨fun H => SqT K H a vs, YAt vs, by rw [← hr.length]; exact walk_tup, hs, fun i F' ρ' σ' H' x H'' hi S l y => by
    obtain ⟨rfl, hx⟩ := y
    obtain ⟨d, hd, r⟩ := hr.get hx
    exact ⟨F', d, hd, New.same l (r.mono S.le)⟩⟩
/-- what is lent is no one's to write -/
theorem lent_not_own {K : PySem.W.Frag} {F H : Hp} {ρ : Rho} {σ : L2.St} {i : Nat} {d : D} {p : Addr} (R : Rel K F ρ σ H) (e : ρ[i]? = some (some ⟨.lent, d⟩)) (hv : σ[i]? = some (some (.ref p))) : ¬ Own ρ σ p := fun ⟨j, s, h1, h2, h3⟩ => by
  have q := R.ne i j _ s p e h1 (by intro z; cases z) (by rcases h2 with h2 | h2 <;> (rw [h2]; intro z; cases z)) hv h3
  subst q
  rw [e] at h1; cases h1
  rcases h2 with h2 | h2 <;> cases h2
/-- the slot that is walked, lent: its object stands still -/
theorem lent_stays {K : PySem.W.Frag} {F H : Hp} {ρ : Rho} {σ : L2.St} {i : Nat} {s : Sl} {p : Addr} {o : HO} (R : Rel K F ρ σ H) (e : ρ[i]? = some (some s)) (hm : s.m ≠ .fz) (hv : σ[i]? = some (some (.ref p))) (ho : H p = some o) :
    ∀ F' ρ' σ' H', Stp F (lend (.sl i) ρ) σ H F' ρ' σ' H' → H' p = some o := fun F' ρ' σ' H' S => by
  refine S.keep p o ho ?_
  obtain ⟨m, d⟩ := s
  have hl : (lend (.sl i) ρ)[i]? = some (some ⟨.lent, d⟩) := by
    have hi : i < ρ.length := (List.getElem?_eq_some_iff.mp e).1
    cases m with
    | fz => exact absurd rfl hm
    | own => simp only [lend, e]; rw [List.getElem?_set_self hi]
    | par => simp only [lend, e]; rw [List.getElem?_set_self hi]
    | lent => simp only [lend, e]
  exact lent_not_own (R.lend (.sl i)) hl hv
theorem PkOk.stays {K : PySem.W.Frag} {F H : Hp} {ρ : Rho} {σ : L2.St} {v : V} {pk : Pk} {d : D} (R : Rel K F ρ σ H) (h : PkOk K F σ v pk) (e : look pk ρ = some d) :
    Rep K F v d ∨ ∃ p o, v = .ref p ∧ H p = some o ∧ OwnAt K F H p d ∧ ∀ F' ρ' σ' H', Stp F (lend pk ρ) σ H F' ρ' σ' H' → H' p = some o := by
  cases pk with
  | vl d' => cases e; exact .inl h
  | sl i =>
    unfold look at e
    simp only at e
    split at e
    · rename_i s hs
      cases e
      obtain ⟨w, hw, ok⟩ := R.at_ i s hs
      have h' : σ[i]? = some (some v) := h
      rw [h'] at hw; cases hw
      by_cases hm : s.m = .fz
      · exact .inl (ok.fz hm)
      · obtain ⟨p, rfl, fp, oa⟩ := ok.nfz hm
        obtain ⟨o, ho⟩ := oa.has
        exact .inr ⟨p, o, rfl, ho, oa, lent_stays R hs hm h' ho⟩
    · cases e
def itemsL : D → Option (List D)
  | .lst ds => some ds
  | _ => none
def itemsT : D → Option (List D)
  | .tup ds => some ds
  | _ => none
theorem walks_list {K : PySem.W.Frag} : Walks K itemsL (iList K) := fun o σ H R ⟨F, ρ, pk, ρ1, d, ds, R0, e1, e2, e3, post⟩ => by
  cases d with
  | lst ds' =>
    cases e3
    refine ⟨F, ρ, pk, ρ1, R0, e1, fun v F1 H1 R1 S1 P1 => ?_⟩
    rcases P1.stays R1 e2 with h | ⟨p, o, rfl, ho, oa, st⟩
    · cases h with
      | @lst a vs _ h1 h2 => exact ⟨a, rfl, ⟨vs, SqL.of (R1.le _ _ h1)⟩, post F1 H1 _ R1 S1 (itn_list (fun F' ρ' σ' H' S l => SqL.of ((S.le.trans l) _ _ h1)) h2)⟩
    · obtain ⟨vs, h1, h2⟩ := oa
      rw [ho] at h1; cases h1
      exact ⟨p, rfl, ⟨vs, SqL.of ho⟩, post F1 H1 _ R1 S1 (itn_list (fun F' ρ' σ' H' S l => SqL.of (st F' ρ' σ' H' S)) h2)⟩
  | _ => cases e3
theorem walks_tup {K : PySem.W.Frag} : Walks K itemsT (iTup K) := fun o σ H R ⟨F, ρ, pk, ρ1, d, ds, R0, e1, e2, e3, post⟩ => by
  cases d with
  | tup ds' =>
    cases e3
    refine ⟨F, ρ, pk, ρ1, R0, e1, fun v F1 H1 R1 S1 P1 => ?_⟩
    rcases P1.stays R1 e2 with h | ⟨p, o, rfl, ho, oa, st⟩
    · cases h with
      | @tup a vs _ h1 h2 => exact ⟨a, rfl, ⟨vs, SqT.of (R1.le _ _ h1)⟩, post F1 H1 _ R1 S1 (itn_tup (fun F' ρ' σ' H' S l => SqT.of ((S.le.trans l) _ _ h1)) h2)⟩
    · exact oa.elim
  | _ => cases e3
theorem vs_for {X : Cx} {tg iter : Expr} {body : List Stmt} {items : D → Option (List D)} {wi : TE → TI} {src : Opd} {is : List Nat} {b : MG} {g : MS} {pos : Pos} (hw : Walks X.K items wi) (hp : PassesOwn (model X.prog X.w) X.A X.env X.xe) (hc : X.calm = true)
    (hi : PI X tg iter (wi (tO X.K src))) (hg : VG X tg is b) (hb : VB X body g) (hs : ∀ x, foldedSetIterable iter X.env x = pure x := by intro _; rfl) : VS X (.For tg iter body [] pos) (fFor items src b g) := PS.of (ps_for hp hc hi hg hb hs) fun _ _ _ _ q => tS_for hw q
end VI

namespace VI
open PySem PySem.Spec PyProof.Rows L2

/-! ### range -/
def rangeD (lo : Int) (n : Nat) : List D := (List.range n).map fun i => .int (lo + (i : Nat))
theorem rangeD_length (lo : Int) (n : Nat) : (rangeD lo n).length = n := by unfold rangeD; simp
theorem itn_range {K : PySem.W.Frag} {F H : Hp} {ρ : Rho} {σ : L2.St} {lo : Int} {n : Nat} : Itn K F ρ σ H (Itr lo n) (rangeD lo n) :=
  ⟨fun _ => True, YFn fun i => .int (lo + i), by rw [rangeD_length]; exact walk_range, fun _ _ _ _ _ _ => trivial, fun i F' ρ' σ' H' x H'' hi S l y => by
    obtain ⟨rfl, rfl⟩ := y
    rw [rangeD_length] at hi
    exact ⟨F', .int (lo + i), by simp [rangeD, hi], New.same l (.int _)⟩⟩
/-- over a number of operands, none of which is walked itself -/
def fForN (g : List D → Option (List D)) (os : List Opd) (b : MG) (body : MS) : MS := fun ρ => do
  let (pks, ρ1) ← evalOs os ρ
  let es ← looks ρ1 pks
  let ds ← g es
  loopM b body ds ρ1
def WalksN (K : PySem.W.Frag) (g : List D → Option (List D)) (wi : TA → TI) : Prop := ∀ (os : List Opd) (σ : L2.St) (H : Hp) (R : It → Hp → Prop), (∃ F ρ pks ρ1 es ds, Rel K F ρ σ H ∧ evalOs os ρ = some (pks, ρ1) ∧ looks ρ1 pks = some es ∧ g es = some ds ∧
    ∀ F' H' J, Rel K F' ρ1 σ H' → StpE F ρ σ H F' ρ1 H' → Itn K F' ρ1 σ H' J ds → R J H') → wi (tA K os) σ H R
theorem tS_forN {K : PySem.W.Frag} {g : List D → Option (List D)} {wi : TA → TI} {os : List Opd} {is : List Nat} {b : MG} {body : MS} {D : Ends} {σ : L2.St} {H : Hp} (hw : WalksN K g wi) (h : tS K (fForN g os b body) D σ H) : tFor (wi (tA K os)) (tG K is b) (tS K body) D σ H := by
  obtain ⟨F, ρ, fl, ρ', R, e, post⟩ := h
  obtain ⟨⟨pks, ρ1⟩, e1, e⟩ := bind_some e
  obtain ⟨es, e2, e⟩ := bind_some e
  obtain ⟨ds, e3, e⟩ := bind_some e
  refine hw os σ H _ ⟨F, ρ, pks, ρ1, es, ds, R, e1, e2, e3, fun F1 H1 J R1 S1 it => ?_⟩
  exact for_ok R1 it e fun F2 σ2 H2 R2 S2 => (post F2 σ2 H2 R2 (S1.stp.trans S2)).back S1.stp
def gRng1 : List D → Option (List D)
  | [.int j] => if -(2 ^ 62) ≤ j ∧ j < 2 ^ 62 then some (rangeD 0 j.toNat) else none
  | _ => none
def gRng2 : List D → Option (List D)
  | [.int i, .int j] => if -(2 ^ 62) ≤ i ∧ i < 2 ^ 62 ∧ -(2 ^ 62) ≤ j ∧ j < 2 ^ 62 then some (rangeD i (j - i).toNat) else none
  | _ => none
theorem VwL.one {K : PySem.W.Frag} {F H : Hp} {vs : List V} {d : D} (h : VwL K F H vs [d]) : ∃ v, vs = [v] ∧ Vw K F H v d := by
  cases h with | cons h t => cases t; exact ⟨_, rfl, h⟩
theorem VwL.two {K : PySem.W.Frag} {F H : Hp} {vs : List V} {d e : D} (h : VwL K F H vs [d, e]) : ∃ v w, vs = [v, w] ∧ Vw K F H v d ∧ Vw K F H w e := by
  cases h with | cons h t => obtain ⟨w, rfl, q⟩ := t.one; exact ⟨_, w, rfl, h, q⟩
theorem VwL.three {K : PySem.W.Frag} {F H : Hp} {vs : List V} {d e f : D} (h : VwL K F H vs [d, e, f]) : ∃ v w z, vs = [v, w, z] ∧ Vw K F H v d ∧ Vw K F H w e ∧ Vw K F H z f := by
  cases h with | cons h t => obtain ⟨w, z, rfl, q⟩ := t.two; exact ⟨_, w, z, rfl, h, q⟩
theorem walks_rng1 {K : PySem.W.Frag} : WalksN K gRng1 iRng1 := fun os σ H R ⟨F, ρ, pks, ρ1, es, ds, R0, e1, e2, e3, post⟩ => by
  refine ⟨F, ρ, pks, ρ1, R0, e1, fun vs F1 H1 R1 S1 P1 => ?_⟩
  have v := P1.vw R1 e2
  unfold gRng1 at e3
  split at e3
  · rename_i j
    obtain ⟨x, rfl, w⟩ := v.one
    split at e3
    · rename_i hb
      cases e3
      exact ⟨j, by rw [w.int], hb.1, hb.2, post F1 H1 _ R1 S1 itn_range⟩
    · cases e3
  · cases e3
theorem walks_rng2 {K : PySem.W.Frag} : WalksN K gRng2 iRng2 := fun os σ H R ⟨F, ρ, pks, ρ1, es, ds, R0, e1, e2, e3, post⟩ => by
  refine ⟨F, ρ, pks, ρ1, R0, e1, fun vs F1 H1 R1 S1 P1 => ?_⟩
  have v := P1.vw R1 e2
  unfold gRng2 at e3
  split at e3
  · rename_i i j
    obtain ⟨x, y, rfl, w, w'⟩ := v.two
    split at e3
    · rename_i hb
      cases e3
      exact ⟨i, j, by rw [w.int, w'.int], hb, post F1 H1 _ R1 S1 itn_range⟩
    · cases e3
  · cases e3
theorem vs_forN {X : Cx} {tg iter : Expr} {body : List Stmt} {g : List D → Option (List D)} {wi : TA → TI} {os : List Opd} {is : List Nat} {b : MG} {m : MS} {pos : Pos} (hw : WalksN X.K g wi) (hp : PassesOwn (model X.prog X.w) X.A X.env X.xe) (hc : X.calm = true)
    (hi : PI X tg iter (wi (tA X.K os))) (hg : VG X tg is b) (hb : VB X body m) (hs : ∀ x, foldedSetIterable iter X.env x = pure x := by intro _; rfl) : VS X (.For tg iter body [] pos) (fForN g os b m) := PS.of (ps_for hp hc hi hg hb hs) fun _ _ _ _ q => tS_forN hw q

/-! ### while -/
def whileM (t : MT) (body : MS) : Nat → MS
  | 0, _ => none
  | n + 1, ρ => match t ρ with
    | some (true, ρ1) => match body ρ1 with
      | some (.nx, ρ2) => whileM t body n ρ2
      | some (.ct, ρ2) => whileM t body n ρ2
      | some (.bk, ρ2) => some (.nx, ρ2)
      | some (.rt r, ρ2) => some (.rt r, ρ2)
      | none => none
    | some (false, ρ1) => some (.nx, ρ1)
    | none => none
theorem tS_while {K : PySem.W.Frag} {t : MT} {body : MS} {n : Nat} {D : Ends} {σ : L2.St} {H : Hp} (h : tS K (whileM t body n) D σ H) : tWhile (tT K t) (tS K body) D σ H := by
  obtain ⟨F, ρ, fl, ρ', R, e, post⟩ := h
  refine ⟨fun m σ' H' => ∃ F' ρ1, Rel K F' ρ1 σ' H' ∧ Stp F ρ σ H F' ρ1 σ' H' ∧ whileM t body m ρ1 = some (fl, ρ'), ⟨n, F, ρ, R, .refl, e⟩, fun m σ1 H1 ⟨F1, ρ1, R1, S1, e1⟩ => ?_⟩
  cases m with
  | zero => cases e1
  | succ m =>
    unfold whileM at e1
    cases ht : t ρ1 with
    | none => rw [ht] at e1; cases e1
    | some z =>
      obtain ⟨c, ρa⟩ := z
      rw [ht] at e1
      refine ⟨F1, ρ1, c, ρa, R1, ht, fun F2 H2 R2 S2 => ?_⟩
      have S12 := S1.trans S2.stp
      cases c with
      | false =>
        refine iteF ?_
        cases e1
        exact post F2 σ1 H2 R2 S12
      | true =>
        refine iteT ?_
        simp only at e1
        cases hB : body ρa with
        | none => rw [hB] at e1; cases e1
        | some z =>
          obtain ⟨fl', ρb⟩ := z
          rw [hB] at e1
          refine ⟨fun σ' H' => ∃ F' ρ1, Rel K F' ρ1 σ' H' ∧ Stp F ρ σ H F' ρ1 σ' H' ∧ whileM t body m ρ1 = some (fl, ρ'), fun σ' H' q => ⟨m, Nat.lt_succ_self m, q⟩, F2, ρa, fl', ρb, R2, hB, fun F4 σ4 H4 R4 S4 => ?_⟩
          have S14 := S12.trans S4
          cases fl' with
          | nx => exact ⟨F4, ρb, R4, S14, e1⟩
          | ct => exact ⟨F4, ρb, R4, S14, e1⟩
          | bk =>
            simp only [Option.some.injEq, Prod.mk.injEq] at e1
            obtain ⟨rfl, rfl⟩ := e1
            exact post F4 σ4 H4 R4 S14
          | rt r =>
            simp only [Option.some.injEq, Prod.mk.injEq] at e1
            obtain ⟨rfl, rfl⟩ := e1
            exact fun v q => post F4 σ4 H4 R4 S14 v (q.back S12)
theorem vs_while {X : Cx} {c : Expr} {body : List Stmt} {t : MT} {g : MS} {pos : Pos} (n : Nat) (hp : PassesOwn (model X.prog X.w) X.A X.env X.xe) (hc : VT X c t) (hb : VB X body g) : VS X (.While c body [] pos) (whileM t g n) := PS.of (ps_while hp hc hb) fun _ _ _ _ q => tS_while q

/-! ### defs -/
abbrev FnM := List Sl → Option (Sl × List Sl)
@[simp] def outs (ρ' : Rho) : Nat → List Sl → List Sl
  | _, [] => []
  | i, a :: as => (match ρ'[i]? with
    | some (some s) => if a.m = .fz then a else s
    | _ => a) :: outs ρ' (i + 1) as
theorem outs_get {ρ' : Rho} {a s : Sl} : ∀ {as : List Sl} {k i : Nat}, as[i]? = some a → a.m ≠ .fz → ρ'[k + i]? = some (some s) → (outs ρ' k as)[i]? = some s
  | [], _, _, h, _, _ => by simp at h
  | b :: bs, k, 0, h, hm, e => by
    simp at h; subst h
    simp only [Nat.add_zero] at e
    simp [outs, e, hm]
  | b :: bs, k, i + 1, h, hm, e => by
    have := outs_get (as := bs) (k := k + 1) (i := i) (by simpa using h) hm (by rw [show k + 1 + i = k + (i + 1) by omega]; exact e)
    simpa [outs] using this
def fnM (n : Nat) (g : MS) : FnM := fun as => match g (as.map some ++ List.replicate n none) with
  | some (.rt r, ρ') => some (r, outs ρ' 0 as)
  | some (.nx, ρ') => some (⟨.fz, .non⟩, outs ρ' 0 as)
  | _ => none
structure CallPost (K : PySem.W.Frag) (F H : Hp) (as : List Sl) (vs : List V) (F' H' : Hp) (os : List Sl) (v : V) (r : Sl) : Prop where
  leF : Le F F'
  leH : Le F' H'
  keep : ∀ a o, H a = some o → (∀ (i : Nat) (s : Sl), as[i]? = some s → s.m = .par → vs[i]? ≠ some (.ref a)) → H' a = some o
  there : ∀ a o, H a = some o → ∃ o', H' a = some o' ∧ (IsTup o' → o' = o)
  newF : ∀ a o, F' a = some o → (∃ o', F a = some o') ∨ H a = none ∨ ∃ vs, H a = some (.tup vs)
  args : ∀ (i : Nat) (s : Sl), as[i]? = some s → s.m ≠ .fz → ∃ d', os[i]? = some ⟨s.m, d'⟩ ∧ ∃ p, vs[i]? = some (.ref p) ∧ F' p = none ∧ OwnAt K F' H' p d'
  res : Res K F' H H' v r
def spM (K : PySem.W.Frag) (np : Nat) (fM : FnM) : Sp := fun vs H Q _ => ∃ F as r os, as.length = np ∧ Rel K F (as.map some) (vs.map some) H ∧ (∀ a ∈ as, a.m ≠ .own) ∧ fM as = some (r, os) ∧ ∀ v F' H', CallPost K F H as vs F' H' os v r → Q v H'
theorem map_some_get {α : Type} {l : List α} {i : Nat} {x : α} (h : (l.map some)[i]? = some (some x)) : l[i]? = some x := by
  rw [List.getElem?_map] at h
  cases e : l[i]? with
  | none => rw [e] at h; cases h
  | some y => rw [e] at h; cases h; rfl
theorem pad_get {α : Type} {l : List α} {n i : Nat} {x : α} (h : (l.map some ++ List.replicate n none)[i]? = some (some x)) : l[i]? = some x := by
  by_cases hi : i < l.length
  · rw [List.getElem?_append_left (by simpa using hi)] at h
    exact map_some_get h
  · rw [List.getElem?_append_right (by simpa using hi), List.getElem?_replicate] at h
    split at h <;> cases h
theorem pad_get' {α : Type} {l : List α} {n i : Nat} {x : α} (h : l[i]? = some x) : (l.map some ++ List.replicate n none)[i]? = some (some x) := by
  have hi : i < l.length := (List.getElem?_eq_some_iff.mp h).1
  rw [List.getElem?_append_left (by simpa using hi), List.getElem?_map, h]; rfl
theorem Rel.pad {K : PySem.W.Frag} {F H : Hp} {as : List Sl} {vs : List V} {n : Nat} (R : Rel K F (as.map some) (vs.map some) H) : Rel K F (as.map some ++ List.replicate n none) (vs.map some ++ List.replicate n none) H := by
  refine ⟨R.le, by have := R.len; simp only [List.length_append, List.length_replicate, List.length_map] at *; omega, fun i s e => ?_, fun i j s t p h1 h2 m1 m2 h3 h4 => ?_⟩
  · obtain ⟨v, hv, ok⟩ := R.at_ i s (by rw [List.getElem?_map, pad_get e]; rfl)
    exact ⟨v, pad_get' (map_some_get hv), ok⟩
  · exact R.ne i j s t p (by rw [List.getElem?_map, pad_get h1]; rfl) (by rw [List.getElem?_map, pad_get h2]; rfl) m1 m2 (by rw [List.getElem?_map, pad_get h3]; rfl) (by rw [List.getElem?_map, pad_get h4]; rfl)
/-- behind a def's body -/
theorem call_post {K : PySem.W.Frag} {F F' H H' : Hp} {as : List Sl} {vs : List V} {n : Nat} {ρ' : Rho} {σ' : L2.St} {v : V} {r : Sl} (R : Rel K F (as.map some) (vs.map some) H) (no : ∀ a ∈ as, a.m ≠ .own)
    (R' : Rel K F' ρ' σ' H') (S : Stp F (as.map some ++ List.replicate n none) (vs.map some ++ List.replicate n none) H F' ρ' σ' H') (res : ResR K (as.map some ++ List.replicate n none) (vs.map some ++ List.replicate n none) H F' H' v r) :
    CallPost K F H as vs F' H' (outs ρ' 0 as) v r := by
  have noO : ∀ a, ¬ OwnO (as.map some ++ List.replicate n none) (vs.map some ++ List.replicate n none) a := fun a ⟨i, s, h1, h2, _⟩ => no s (List.mem_of_getElem? (pad_get h1)) h2
  refine ⟨S.le, R'.le, fun a o h hn => S.keep a o h fun ⟨i, s, h1, h2, h3⟩ => ?_, S.there, fun a o h => ?_, fun i s e hm => ?_, ?_⟩
  · rcases h2 with h2 | h2
    · exact no s (List.mem_of_getElem? (pad_get h1)) h2
    · exact hn i s (pad_get h1) h2 (pad_get h3)
  · rcases S.newF a o h with q | q | q | q
    · exact .inl q
    · exact .inr (.inl q)
    · exact absurd q (noO a)
    · exact .inr (.inr q)
  · obtain ⟨m, d⟩ := s
    have hf : m.fixed := by
      cases m with
      | fz => exact absurd rfl hm
      | own => exact absurd rfl (no _ (List.mem_of_getElem? e))
      | par => trivial
      | lent => trivial
    obtain ⟨⟨d', e'⟩, es⟩ := S.fwd i m d hf (pad_get' e)
    refine ⟨d', outs_get e hm (by rw [Nat.zero_add]; exact e'), ?_⟩
    obtain ⟨w, hw, ok⟩ := R'.at_ i _ e'
    obtain ⟨p, rfl, fp, oa⟩ := ok.nfz hm
    rw [es] at hw
    exact ⟨p, pad_get hw, fp, oa⟩
  · rcases res.own_or with ⟨m, q⟩ | ⟨m, p, rfl, hp, fp, q⟩
    · unfold Res; rw [m]; exact q
    · unfold Res; rw [m]
      rcases hp with hp | hp
      · exact absurd hp (noO p)
      · exact ⟨p, rfl, hp, fp, q⟩
/-! ### calls -/
def argOf (ρ : Rho) : Pk → Option Sl
  | .vl d => some ⟨.fz, d⟩
  | .sl i => match ρ[i]? with
    | some (some ⟨.own, d⟩) => some ⟨.par, d⟩
    | some (some s) => some s
    | _ => none
def argsOf (ρ : Rho) : List Pk → Option (List Sl)
  | [] => some []
  | pk :: pks => do
    let a ← argOf ρ pk
    let as ← argsOf ρ pks
    pure (a :: as)
/-- no slot of one's own is handed in twice -/
@[simp] def nodupS (ρ : Rho) : List Pk → Bool
  | [] => true
  | .vl _ :: pks => nodupS ρ pks
  | .sl i :: pks => (match ρ[i]? with
    | some (some ⟨.fz, _⟩) => true
    | _ => pks.all fun
      | .sl j => i != j
      | .vl _ => true) && nodupS ρ pks
@[simp] def wb : List Pk → List Sl → Rho → Rho
  | .sl i :: pks, o :: os, ρ => wb pks os (match ρ[i]? with
    | some (some ⟨.fz, _⟩) => ρ
    | some (some ⟨m, _⟩) => ρ.set i (some ⟨m, o.d⟩)
    | _ => ρ)
  | .vl _ :: pks, _ :: os, ρ => wb pks os ρ
  | _, _, ρ => ρ
def fCall (fM : FnM) (os : List Opd) : ME := fun ρ => do
  let (pks, ρ1) ← evalOs os ρ
  let as ← argsOf ρ1 pks
  if nodupS ρ1 pks = true then do
    let (r, outs) ← fM as
    pure (r, wb pks outs ρ1)
  else none
end VI

namespace VI
open PySem PySem.Spec PyProof.Rows L2

theorem PkL.len {K : PySem.W.Frag} {F : Hp} {σ : L2.St} : ∀ {vs : List V} {pks : List Pk}, PkL K F σ vs pks → vs.length = pks.length
  | _, _, .nil => rfl
  | _, _, .cons _ t => by rw [List.length_cons, List.length_cons, t.len]
theorem PkL.get {K : PySem.W.Frag} {F : Hp} {σ : L2.St} : ∀ {vs : List V} {pks : List Pk} {j : Nat} {v : V}, PkL K F σ vs pks → vs[j]? = some v → ∃ pk, pks[j]? = some pk ∧ PkOk K F σ v pk
  | _, _, _, _, .nil, h => by simp at h
  | _, _, 0, _, .cons h _, e => by simp at e; subst e; exact ⟨_, rfl, h⟩
  | _, _, j + 1, v, .cons _ t, e => by
    obtain ⟨pk, h1, h2⟩ := PkL.get (j := j) (v := v) t (by simpa using e)
    exact ⟨pk, by simpa using h1, h2⟩
theorem PkL.getP {K : PySem.W.Frag} {F : Hp} {σ : L2.St} : ∀ {vs : List V} {pks : List Pk} {j : Nat} {pk : Pk}, PkL K F σ vs pks → pks[j]? = some pk → ∃ v, vs[j]? = some v ∧ PkOk K F σ v pk
  | _, _, _, _, .nil, h => by simp at h
  | _, _, 0, _, .cons h _, e => by simp at e; subst e; exact ⟨_, rfl, h⟩
  | _, _, j + 1, v, .cons _ t, e => by
    obtain ⟨pk, h1, h2⟩ := PkL.getP (j := j) (pk := v) t (by simpa using e)
    exact ⟨pk, by simpa using h1, h2⟩
theorem argsOf_get {ρ : Rho} : ∀ {pks : List Pk} {as : List Sl} {j : Nat} {a : Sl}, argsOf ρ pks = some as → as[j]? = some a → ∃ pk, pks[j]? = some pk ∧ argOf ρ pk = some a
  | [], as, j, a, h, e => by cases h; simp at e
  | pk :: pks, as, j, a, h, e => by
    obtain ⟨b, h1, h⟩ := bind_some h
    obtain ⟨bs, h2, h⟩ := bind_some h
    cases h
    cases j with
    | zero => simp at e; subst e; exact ⟨pk, rfl, h1⟩
    | succ j =>
      obtain ⟨q, e1, e2⟩ := argsOf_get (j := j) h2 (by simpa using e)
      exact ⟨q, by simpa using e1, e2⟩
theorem argsOf_getP {ρ : Rho} : ∀ {pks : List Pk} {as : List Sl} {j : Nat} {pk : Pk}, argsOf ρ pks = some as → pks[j]? = some pk → ∃ a, as[j]? = some a ∧ argOf ρ pk = some a
  | [], as, j, a, h, e => by simp at e
  | pk :: pks, as, j, a, h, e => by
    obtain ⟨b, h1, h⟩ := bind_some h
    obtain ⟨bs, h2, h⟩ := bind_some h
    cases h
    cases j with
    | zero => simp at e; subst e; exact ⟨b, rfl, h1⟩
    | succ j =>
      obtain ⟨q, e1, e2⟩ := argsOf_getP (j := j) h2 (by simpa using e)
      exact ⟨q, by simpa using e1, e2⟩
theorem argsOf_len {ρ : Rho} : ∀ {pks : List Pk} {as : List Sl}, argsOf ρ pks = some as → as.length = pks.length
  | [], as, h => by cases h; rfl
  | pk :: pks, as, h => by
    obtain ⟨b, h1, h⟩ := bind_some h
    obtain ⟨bs, h2, h⟩ := bind_some h
    cases h
    rw [List.length_cons, List.length_cons, argsOf_len h2]
theorem nodupS_at {ρ : Rho} {i : Nat} {s : Sl} (hs : ρ[i]? = some (some s)) (hm : s.m ≠ .fz) : ∀ {pks : List Pk} {j k : Nat}, nodupS ρ pks = true → pks[j]? = some (.sl i) → pks[k]? = some (.sl i) → j = k
  | [], j, k, _, h, _ => by simp at h
  | .vl d :: pks, j, k, h, h1, h2 => by
    cases j with
    | zero => simp at h1
    | succ j =>
      cases k with
      | zero => simp at h2
      | succ k => exact congrArg (· + 1) (nodupS_at hs hm (pks := pks) (j := j) (k := k) h (by simpa using h1) (by simpa using h2))
  | .sl a :: pks, j, k, h, h1, h2 => by
    unfold nodupS at h
    rw [Bool.and_eq_true] at h
    obtain ⟨ha, hr⟩ := h
    have key : ∀ (k : Nat), a = i → pks[k]? = some (Pk.sl i) → False := fun k e q => by
      subst e
      rw [hs] at ha
      obtain ⟨m, d⟩ := s
      cases m with
      | fz => exact hm rfl
      | _ =>
        have z := List.all_eq_true.mp ha _ (List.mem_of_getElem? q)
        simp at z
    cases j with
    | zero =>
      cases k with
      | zero => rfl
      | succ k => exact (key k (by simpa using h1) (by simpa using h2)).elim
    | succ j =>
      cases k with
      | zero => exact (key j (by simpa using h2) (by simpa using h1)).elim
      | succ k => exact congrArg (· + 1) (nodupS_at hs hm (pks := pks) (j := j) (k := k) hr (by simpa using h1) (by simpa using h2))
theorem argOf_slot {ρ : Rho} {i : Nat} {a : Sl} (h : argOf ρ (.sl i) = some a) : ∃ s, ρ[i]? = some (some s) ∧ s.d = a.d ∧ ((s.m = .own ∧ a.m = .par) ∨ (s.m ≠ .own ∧ a.m = s.m)) := by
  unfold argOf at h
  simp only at h
  split at h
  · rename_i d hd
    cases h
    exact ⟨_, hd, rfl, .inl ⟨rfl, rfl⟩⟩
  · rename_i s hs hne
    cases h
    refine ⟨_, hne, rfl, .inr ⟨fun z => ?_, rfl⟩⟩
    obtain ⟨m, d⟩ := a
    cases z
    exact hs d rfl
  · cases h
theorem argOf_mk {ρ : Rho} {i : Nat} {s : Sl} (h : ρ[i]? = some (some s)) : argOf ρ (.sl i) = some ⟨if s.m = .own then .par else s.m, s.d⟩ := by
  obtain ⟨m, d⟩ := s
  cases m <;> simp [argOf, h]

theorem wb_len : ∀ (pks : List Pk) (os : List Sl) (ρ : Rho), (wb pks os ρ).length = ρ.length
  | [], _, _ => by simp [wb]
  | .vl _ :: pks, [], _ => by simp [wb]
  | .sl _ :: pks, [], _ => by simp [wb]
  | .vl _ :: pks, _ :: os, ρ => by simp [wb, wb_len pks os ρ]
  | .sl i :: pks, o :: os, ρ => by
    unfold wb
    rw [wb_len pks os]
    split <;> simp
/-- modes stay -/
theorem wb_fwd {i : Nat} {m : Md} : ∀ (pks : List Pk) (os : List Sl) (ρ : Rho) (d : D), ρ[i]? = some (some ⟨m, d⟩) → ∃ d', (wb pks os ρ)[i]? = some (some ⟨m, d'⟩)
  | [], _, _, d, h => ⟨d, by simpa [wb] using h⟩
  | .vl _ :: pks, [], _, d, h => ⟨d, by simpa [wb] using h⟩
  | .sl _ :: pks, [], _, d, h => ⟨d, by simpa [wb] using h⟩
  | .vl _ :: pks, _ :: os, ρ, d, h => by simpa [wb] using wb_fwd pks os ρ d h
  | .sl k :: pks, o :: os, ρ, d, h => by
    unfold wb
    split
    · exact wb_fwd pks os ρ d h
    · rename_i m' d' _ hk
      by_cases e : i = k
      · subst e
        rw [h] at hk; cases hk
        exact wb_fwd pks os _ o.d (List.getElem?_set_self (List.getElem?_eq_some_iff.mp h).1)
      · exact wb_fwd pks os _ d (by rw [List.getElem?_set_ne (Ne.symm e)]; exact h)
    · exact wb_fwd pks os ρ d h
theorem wb_get {i : Nat} {s : Sl} : ∀ (pks : List Pk) (os : List Sl) (ρ : Rho), (wb pks os ρ)[i]? = some (some s) →
    ∃ s0, ρ[i]? = some (some s0) ∧ s0.m = s.m ∧ ((s = s0 ∧ (s.m = .fz ∨ ∀ (j : Nat), pks[j]? = some (.sl i) → os[j]? = none)) ∨ ∃ (j : Nat) (o : Sl), pks[j]? = some (.sl i) ∧ os[j]? = some o ∧ s.d = o.d ∧ s.m ≠ .fz)
  | [], os, ρ, h => ⟨s, by simpa [wb] using h, rfl, .inl ⟨rfl, .inr fun j z => by simp at z⟩⟩
  | .vl _ :: pks, [], ρ, h => ⟨s, by simpa [wb] using h, rfl, .inl ⟨rfl, .inr fun j z => by simp⟩⟩
  | .sl _ :: pks, [], ρ, h => ⟨s, by simpa [wb] using h, rfl, .inl ⟨rfl, .inr fun j z => by simp⟩⟩
  | .vl _ :: pks, o :: os, ρ, h => by
    obtain ⟨s0, h1, h2, h3⟩ := wb_get pks os ρ (by simpa [wb] using h)
    refine ⟨s0, h1, h2, ?_⟩
    rcases h3 with ⟨e, h3⟩ | ⟨j, o', e1, e2, e3⟩
    · refine .inl ⟨e, ?_⟩
      rcases h3 with h3 | h3
      · exact .inl h3
      · refine .inr fun j z => ?_
        cases j with
        | zero => simp at z
        | succ j => simpa using h3 j (by simpa using z)
    · exact .inr ⟨j + 1, o', by simpa using e1, by simpa using e2, e3⟩
  | .sl k :: pks, o :: os, ρ, h => by
    unfold wb at h
    obtain ⟨s1, h1, h2, h3⟩ := wb_get pks os _ h
    by_cases e : i = k
    · subst e
      split at h1
      · rename_i d hd
        rw [h1] at hd; cases hd
        refine ⟨_, h1, h2, ?_⟩
        rcases h3 with ⟨e, h3⟩ | ⟨j, o', e1, e2, e3, e4⟩
        · exact .inl ⟨e, .inl h2.symm⟩
        · exact absurd h2.symm e4
      · rename_i m d hn hk
        have hi : i < ρ.length := (List.getElem?_eq_some_iff.mp hk).1
        rw [List.getElem?_set_self hi] at h1
        cases h1
        have hm : s.m ≠ .fz := fun z => hn (h2.trans z)
        refine ⟨_, hk, h2, .inr ?_⟩
        rcases h3 with ⟨e, h3⟩ | ⟨j, o', e1, e2, e3⟩
        · exact ⟨0, o, rfl, rfl, by rw [e], hm⟩
        · exact ⟨j + 1, o', by simpa using e1, by simpa using e2, e3⟩
      · rename_i hn
        exact (hn s1.m s1.d h1).elim
    · have hr : ρ[i]? = some (some s1) := by
        split at h1
        · exact h1
        · rw [List.getElem?_set_ne (Ne.symm e)] at h1; exact h1
        · exact h1
      refine ⟨s1, hr, h2, ?_⟩
      rcases h3 with ⟨e', h3⟩ | ⟨j, o', e1, e2, e3⟩
      · refine .inl ⟨e', ?_⟩
        rcases h3 with h3 | h3
        · exact .inl h3
        · refine .inr fun j z => ?_
          cases j with
          | zero => simp at z; exact absurd z.symm e
          | succ j => simpa using h3 j (by simpa using z)
      · exact .inr ⟨j + 1, o', by simpa using e1, by simpa using e2, e3⟩

section
variable {K : PySem.W.Frag} {F F' H H' : Hp} {ρ : Rho} {σ : L2.St} {vs : List V} {pks : List Pk} {as os : List Sl} {v : V} {r : Sl}
theorem args_rel (R : Rel K F ρ σ H) (P : PkL K F σ vs pks) (ea : argsOf ρ pks = some as) (nd : nodupS ρ pks = true) : Rel K F (as.map some) (vs.map some) H ∧ ∀ a ∈ as, a.m ≠ .own := by
  have slot : ∀ (j : Nat) (a : Sl), as[j]? = some a → a.m ≠ .fz → ∃ i s v, pks[j]? = some (.sl i) ∧ ρ[i]? = some (some s) ∧ s.m ≠ .fz ∧ vs[j]? = some v ∧ σ[i]? = some (some v) ∧ s.d = a.d := fun j a e hm => by
    obtain ⟨pk, h1, h2⟩ := argsOf_get ea e
    obtain ⟨v, hv, ok⟩ := P.getP h1
    cases pk with
    | vl d => cases h2; exact absurd rfl hm
    | sl i =>
      obtain ⟨s, hs, hd, hmm⟩ := argOf_slot h2
      refine ⟨i, s, v, h1, hs, ?_, hv, ok, hd⟩
      rcases hmm with ⟨q, _⟩ | ⟨_, q⟩
      · rw [q]; intro z; cases z
      · rw [← q]; exact hm
  refine ⟨⟨R.le, by rw [List.length_map, List.length_map, argsOf_len ea, P.len], fun j a e => ?_, fun j k a b p h1 h2 m1 m2 h3 h4 => ?_⟩, fun a ha z => ?_⟩
  · have e := map_some_get e
    obtain ⟨pk, h1, h2⟩ := argsOf_get ea e
    obtain ⟨v, hv, ok⟩ := P.getP h1
    refine ⟨v, by rw [List.getElem?_map, hv]; rfl, ?_⟩
    cases pk with
    | vl d => cases h2; exact ok
    | sl i =>
      obtain ⟨s, hs, hd, hmm⟩ := argOf_slot h2
      obtain ⟨w, hw, ok'⟩ := R.at_ i s hs
      have ok2 : σ[i]? = some (some v) := ok
      rw [ok2] at hw; cases hw
      by_cases hm : s.m = .fz
      · have am : a.m = .fz := by
          rcases hmm with ⟨q, _⟩ | ⟨_, q⟩
          · rw [hm] at q; cases q
          · rw [q]; exact hm
        exact .mk_fz am (by rw [← hd]; exact ok'.fz hm)
      · obtain ⟨p, rfl, fp, oa⟩ := ok'.nfz hm
        have am : a.m ≠ .fz := by
          rcases hmm with ⟨_, q⟩ | ⟨_, q⟩
          · rw [q]; intro z; cases z
          · rw [q]; exact hm
        exact .mk_n am fp (by rw [← hd]; exact oa)
  · obtain ⟨i, s, v, p1, r1, n1, v1, s1, _⟩ := slot j a (map_some_get h1) m1
    obtain ⟨i', s', v', p2, r2, n2, v2, s2, _⟩ := slot k b (map_some_get h2) m2
    have z1 := map_some_get h3
    have z2 := map_some_get h4
    rw [v1] at z1; cases z1
    rw [v2] at z2; cases z2
    have e := R.ne i i' s s' p r1 r2 n1 n2 s1 s2
    subst e
    exact nodupS_at r1 n1 nd p1 p2
  · obtain ⟨j, hj⟩ := List.getElem?_of_mem ha
    obtain ⟨pk, h1, h2⟩ := argsOf_get ea hj
    cases pk with
    | vl d => cases h2; cases z
    | sl i =>
      obtain ⟨s, hs, hd, hmm⟩ := argOf_slot h2
      rcases hmm with ⟨_, q⟩ | ⟨n, q⟩
      · rw [q] at z; cases z
      · rw [q] at z; exact n z
theorem call_rel (R : Rel K F ρ σ H) (P : PkL K F σ vs pks) (ea : argsOf ρ pks = some as) (nd : nodupS ρ pks = true) (C : CallPost K F H as vs F' H' os v r) :
    Rel K F' (wb pks os ρ) σ H' ∧ StpE F ρ σ H F' (wb pks os ρ) H' := by
  -- an argument that may be written is a slot of one's own
  have parS : ∀ (k : Nat) (a : Sl) (p : Addr), as[k]? = some a → a.m = .par → vs[k]? = some (.ref p) → ∃ i s, pks[k]? = some (.sl i) ∧ ρ[i]? = some (some s) ∧ (s.m = .own ∨ s.m = .par) ∧ σ[i]? = some (some (.ref p)) := fun k a p e hm hv => by
    obtain ⟨pk, h1, h2⟩ := argsOf_get ea e
    obtain ⟨v, hv', ok⟩ := P.getP h1
    rw [hv] at hv'; cases hv'
    cases pk with
    | vl d => cases h2; cases hm
    | sl i =>
      obtain ⟨s, hs, hd, hmm⟩ := argOf_slot h2
      refine ⟨i, s, h1, hs, ?_, ok⟩
      rcases hmm with ⟨q, _⟩ | ⟨_, q⟩
      · exact .inl q
      · exact .inr (by rw [← q]; exact hm)
  have bk : ∀ (j : Nat) (s' : Sl), (wb pks os ρ)[j]? = some (some s') → ∃ s, ρ[j]? = some (some s) ∧ s.m = s'.m := fun j s' h => by
    obtain ⟨s0, h1, h2, _⟩ := wb_get pks os ρ h
    exact ⟨s0, h1, h2⟩
  refine ⟨⟨C.leH, by rw [wb_len]; exact R.len, fun i s e => ?_, fun i j s t p h1 h2 m1 m2 h3 h4 => ?_⟩, ⟨⟨C.leF, fun a o h n => C.keep a o h fun k s e hm hv => ?_, C.there, fun a o h => ?_, fun a h => .inl ?_, fun j m d hm z => ⟨wb_fwd pks os ρ d z, rfl⟩, fun j m d hm z => ?_⟩, fun j s h _ => bk j s h⟩⟩
  · obtain ⟨s0, h1, h2, h3⟩ := wb_get pks os ρ e
    obtain ⟨w, hw, ok⟩ := R.at_ i s0 h1
    refine ⟨w, hw, ?_⟩
    rcases h3 with ⟨rfl, h3⟩ | ⟨j, o, e1, e2, e3, e4⟩
    · by_cases hm : s.m = .fz
      · exact .mk_fz hm ((ok.fz hm).mono C.leF)
      · obtain ⟨p, rfl, fp, oa⟩ := ok.nfz hm
        obtain ⟨u, hu⟩ := oa.has
        have np : ∀ (j : Nat), pks[j]? ≠ some (Pk.sl i) := fun j z => by
          rcases h3 with h3 | h3
          · exact hm h3
          · obtain ⟨a, ha, he⟩ := argsOf_getP ea z
            rw [argOf_mk h1] at he
            cases he
            obtain ⟨d', q, _⟩ := C.args j _ ha (by
              show (if s.m = .own then Md.par else s.m) ≠ .fz
              split
              · intro z; cases z
              · exact hm)
            rw [h3 j z] at q; cases q
        refine .mk_n hm ?_ (oa.mono C.leF ((C.keep p u hu fun k a ea' hma hv => ?_).trans hu.symm))
        · cases z : F' p with
          | none => rfl
          | some x =>
            rcases C.newF p x z with ⟨o', q⟩ | q | ⟨vs, q⟩
            · rw [fp] at q; cases q
            · rw [hu] at q; cases q
            · exact (oa.noTup q).elim
        · obtain ⟨i', s', q1, q2, q3, q4⟩ := parS k a p ea' hma hv
          have e := R.ne i i' s s' p h1 q2 hm (by rcases q3 with q | q <;> (rw [q]; intro z; cases z)) hw q4
          subst e
          exact np k q1
    · obtain ⟨a, ha, he⟩ := argsOf_getP ea e1
      rw [argOf_mk h1] at he
      cases he
      have nfz : s0.m ≠ .fz := by rw [h2]; exact e4
      obtain ⟨d', q1, p, q2, q3, q4⟩ := C.args j _ ha (by
        show (if s0.m = .own then Md.par else s0.m) ≠ .fz
        split
        · intro z; cases z
        · exact nfz)
      rw [e2] at q1; cases q1
      obtain ⟨v', hv', okv⟩ := P.getP e1
      rw [q2] at hv'; cases hv'
      have okv' : σ[i]? = some (some (.ref p)) := okv
      rw [okv'] at hw; cases hw
      refine .mk_n e4 q3 ?_
      rw [e3]; exact q4
  · obtain ⟨s0, e1, q1⟩ := bk i s h1
    obtain ⟨t0, e2, q2⟩ := bk j t h2
    exact R.ne i j s0 t0 p e1 e2 (by rw [q1]; exact m1) (by rw [q2]; exact m2) h3 h4
  · obtain ⟨i', s', q1, q2, q3, q4⟩ := parS k s a e hm hv
    exact n ⟨i', s', q2, q3, q4⟩
  · rcases C.newF a o h with q | q | q
    · exact .inl q
    · exact .inr (.inl q)
    · exact .inr (.inr (.inr q))
  · obtain ⟨i, s, h1, h2, h3⟩ := h
    obtain ⟨s0, e1, q1⟩ := bk i s h1
    exact ⟨i, s0, e1, by rw [q1]; exact h2, h3⟩
  · obtain ⟨⟨m', d'⟩, e1, q1⟩ := bk j _ z
    cases q1
    exact ⟨d', e1⟩
end
theorem tE_call {K : PySem.W.Frag} {fM : FnM} {np : Nat} {os : List Opd} {σ : L2.St} {H : Hp} {Q : VK} {E : XK} (hnp : os.length = np) (h : tE K (fCall fM os) σ H Q) : tA K os σ H fun vs H1 => spM K np fM (vs ++ []) H1 Q E := by
  obtain ⟨F, ρ, s, ρ2, R, e, post⟩ := h
  obtain ⟨⟨pks, ρ1⟩, e1, e⟩ := bind_some e
  obtain ⟨as, e2, e⟩ := bind_some e
  split at e
  · rename_i nd
    obtain ⟨⟨r, outs⟩, e3, e⟩ := bind_some e
    cases e
    refine ⟨F, ρ, pks, ρ1, R, e1, fun vs F1 H1 R1 S1 P1 => ?_⟩
    obtain ⟨Ra, no⟩ := args_rel R1 P1 e2 nd
    rw [List.append_nil]
    have hl : as.length = np := by
      rw [argsOf_len e2, ← hnp]
      have : ∀ (os : List Opd) (ρ ρ1 : Rho) (pks : List Pk), evalOs os ρ = some (pks, ρ1) → pks.length = os.length := by
        intro os
        induction os with
        | nil => intro ρ ρ1 pks h; cases h; rfl
        | cons o os ih =>
          intro ρ ρ1 pks h
          obtain ⟨⟨pa, ρa⟩, _, h⟩ := bind_some h
          obtain ⟨⟨pb, ρb⟩, hb, h⟩ := bind_some h
          cases h
          rw [List.length_cons, List.length_cons, ih _ _ _ hb]
      exact this os ρ ρ1 pks e1
    refine ⟨F1, as, _, _, hl, Ra, no, e3, fun v F' H' C => ?_⟩
    obtain ⟨R2, S2⟩ := call_rel R1 P1 e2 nd C
    exact post v F' H' R2 (S1.trans S2) (C.res.back S1)
  · cases e
end VI

namespace VI
open PySem PySem.Spec PyProof.Rows L2

/-! ### list comprehensions -/
@[simp] def wipeR (ρ : Rho) : List Nat → Rho
  | [] => ρ
  | v :: vs => (wipeR ρ vs).set v none
theorem wipeR_len (ρ : Rho) : ∀ is, (wipeR ρ is).length = ρ.length
  | [] => rfl
  | v :: vs => by unfold wipeR; rw [List.length_set, wipeR_len ρ vs]
theorem wipeR_get {ρ : Rho} {i : Nat} {s : Sl} : ∀ {is : List Nat}, (wipeR ρ is)[i]? = some (some s) → ρ[i]? = some (some s) ∧ i ∉ is
  | [], h => ⟨h, by simp⟩
  | v :: vs, h => by
    unfold wipeR at h
    rcases getElem?_set' h with ⟨_, z⟩ | ⟨n, z⟩
    · cases z
    · obtain ⟨h1, h2⟩ := wipeR_get z
      exact ⟨h1, by simp only [List.mem_cons, not_or]; exact ⟨n, h2⟩⟩
theorem wipeR_out {ρ : Rho} {i : Nat} : ∀ {is : List Nat}, i ∉ is → (wipeR ρ is)[i]? = ρ[i]?
  | [], _ => rfl
  | v :: vs, h => by
    unfold wipeR
    simp only [List.mem_cons, not_or] at h
    rw [List.getElem?_set_ne (Ne.symm h.1)]
    exact wipeR_out h.2
theorem wipe_out {σ : L2.St} {i : Nat} : ∀ {is : List Nat}, i ∉ is → (wipe σ is)[i]? = σ[i]?
  | [], _ => rfl
  | v :: vs, h => by
    unfold wipe
    simp only [List.mem_cons, not_or] at h
    rw [List.getElem?_set_ne (Ne.symm h.1)]
    exact wipe_out h.2
section
variable {K : PySem.W.Frag} {F F' H H' : Hp} {ρ ρ' : Rho} {σ σ' : L2.St} {p : Addr} {is : List Nat}
/-- slots that hold nothing of `is`, the same elsewhere -/
theorem Rel.onto (R : Rel K F ρ σ H) (hn : ∀ (i : Nat) (s : Sl), ρ[i]? = some (some s) → i ∉ is) (e : wipe σ' is = wipe σ is) : Rel K F ρ σ' H := by
  have el : σ'.length = σ.length := by rw [← wipe_length σ' is, e, wipe_length]
  have eo : ∀ i, i ∉ is → σ'[i]? = σ[i]? := fun i hi => by rw [← wipe_out hi, e, wipe_out hi]
  refine ⟨R.le, by rw [el]; exact R.len, fun i s h => ?_, fun i j s t q h1 h2 m1 m2 h3 h4 => ?_⟩
  · obtain ⟨v, hv, ok⟩ := R.at_ i s h
    exact ⟨v, by rw [eo i (hn i s h)]; exact hv, ok⟩
  · rw [eo i (hn i s h1)] at h3
    rw [eo j (hn j t h2)] at h4
    exact R.ne i j s t q h1 h2 m1 m2 h3 h4
theorem Rel.wipe (R : Rel K F ρ σ H) (is : List Nat) : Rel K F (wipeR ρ is) σ H := by
  refine ⟨R.le, by rw [wipeR_len]; exact R.len, fun i s h => R.at_ i s (wipeR_get h).1, fun i j s t q h1 h2 => R.ne i j s t q (wipeR_get h1).1 (wipeR_get h2).1⟩
/-- no slot of one's own holds p -/
def NotP (ρ : Rho) (σ : L2.St) (p : Addr) : Prop := ∀ (j : Nat) (s : Sl), ρ[j]? = some (some s) → s.m ≠ .fz → σ[j]? ≠ some (some (.ref p))
theorem NotP.own (h : NotP ρ σ p) : ¬ Own ρ σ p := fun ⟨j, s, h1, h2, h3⟩ => h j s h1 (by rcases h2 with h2 | h2 <;> (rw [h2]; intro z; cases z)) h3
theorem Stp.notP {o : HO} (S : Stp F ρ σ H F' ρ' σ' H') (h : NotP ρ σ p) (hp : H p = some o) : NotP ρ' σ' p := fun j s e hm z => by
  obtain ⟨m, d⟩ := s
  have fx : m.fixed → False := fun hf => by
    obtain ⟨d', q⟩ := S.bwd j m d hf e
    obtain ⟨_, q2⟩ := S.fwd j m d' hf q
    exact h j _ q hm (by rw [← q2]; exact z)
  cases m with
  | fz => exact hm rfl
  | own =>
    rcases S.ownO p ⟨j, _, e, rfl, z⟩ with q | q
    · exact h.own q.own
    · rw [hp] at q; cases q
  | par => exact fx trivial
  | lent => exact fx trivial
theorem Stp.prot {o : HO} (S : Stp F ρ σ H F' ρ' σ' H') (h : NotP ρ σ p) (hp : H p = some o) (hF : F p = none) (ht : ∀ vs, o ≠ .tup vs := by intro _ h; cases h) : NotP ρ' σ' p ∧ H' p = some o ∧ F' p = none := by
  refine ⟨S.notP h hp, S.keep p o hp h.own, ?_⟩
  cases z : F' p with
  | none => rfl
  | some u =>
    rcases S.newF p u z with ⟨o', q⟩ | q | q | ⟨vs, q⟩
    · rw [hF] at q; cases q
    · rw [hp] at q; cases q
    · exact absurd q.own h.own
    · rw [hp] at q; cases q; exact absurd rfl (ht vs)
/-- a protected object turns -/
theorem Rel.updP {o' : HO} (R : Rel K F ρ σ H) (h : NotP ρ σ p) (hF : F p = none) : Rel K F ρ σ (upd H p o') := by
  refine ⟨R.le.upd2 hF, R.len, fun i s e => ?_, R.ne⟩
  obtain ⟨v, hv, ok⟩ := R.at_ i s e
  refine ⟨v, hv, ?_⟩
  by_cases hm : s.m = .fz
  · exact .mk_fz hm (ok.fz hm)
  · obtain ⟨q, rfl, fq, oq⟩ := ok.nfz hm
    have ne : q ≠ p := fun z => h i s e hm (by rw [hv, z])
    exact .mk_n hm fq (oq.mono (Le.refl F) (upd_ne ne))
end
/-- a target leaves what is one's own -/
def NB (b : MG) : Prop := ∀ d ρ ρ', b d ρ = some ρ' → ∀ (j : Nat) (s : Sl), ρ'[j]? = some (some s) → s.m ≠ .fz → ρ[j]? = some (some s)
theorem nb_name (i : Nat) : NB (bindN i) := fun d ρ ρ' e j s h hm => by
  unfold bindN at e
  split at e
  · cases e
    rcases getElem?_set' h with ⟨_, z⟩ | ⟨_, z⟩
    · cases z; exact absurd rfl hm
    · exact z
  · cases e
theorem nb_all : ∀ (is : List Nat) (ds : List D) (ρ ρ' : Rho), bindA is ds ρ = some ρ' → ∀ (j : Nat) (s : Sl), ρ'[j]? = some (some s) → s.m ≠ .fz → ρ[j]? = some (some s)
  | [], [], ρ, ρ', e, j, s, h, _ => by cases e; exact h
  | i :: is, d :: ds, ρ, ρ', e, j, s, h, hm => by
    obtain ⟨ρ1, e1, e2⟩ := Option.bind_eq_some_iff.mp (show (bindN i d ρ).bind (bindA is ds) = some ρ' from e)
    exact nb_name i d ρ ρ1 e1 j s (nb_all is ds ρ1 ρ' e2 j s h hm) hm
  | [], _ :: _, _, _, h, _, _, _, _ => by cases h
  | _ :: _, [], _, _, h, _, _, _, _ => by cases h
theorem nb_tup (is : List Nat) : NB (bindT is) := fun d ρ ρ' e j s h hm => by
  cases d with
  | tup ds => exact nb_all is ds ρ ρ' e j s h hm
  | _ => cases e

def compM (is : List Nat) (b : MG) (t : MT) (f : ME) : List D → List D → Rho → Option (List D × Rho)
  | [], acc, ρ => some (acc, ρ)
  | d :: ds, acc, ρ => do
    let ρ1 ← b d ρ
    let (c, ρ2) ← t ρ1
    if c = true then do
      let (r, ρ3) ← f ρ2
      compM is b t f ds (acc ++ [r.d]) (wipeR ρ3 is)
    else compM is b t f ds acc (wipeR ρ2 is)
theorem compM_len {is : List Nat} {b : MG} {t : MT} {f : ME} : ∀ {ds acc acc' : List D} {ρ ρ' : Rho}, compM is b t f ds acc ρ = some (acc', ρ') → acc.length ≤ acc'.length
  | [], acc, acc', ρ, ρ', h => by cases h; exact Nat.le_refl _
  | d :: ds, acc, acc', ρ, ρ', h => by
    obtain ⟨ρ1, _, h⟩ := bind_some h
    obtain ⟨⟨c, ρ2⟩, _, h⟩ := bind_some h
    cases c with
    | true =>
      obtain ⟨⟨r, ρ3⟩, _, h⟩ := bind_some h
      have := compM_len h
      rw [List.length_append] at this
      exact Nat.le_of_succ_le this
    | false => exact compM_len h
def fYes : MT := fun ρ => some (true, ρ)
def fComp (items : D → Option (List D)) (src : Opd) (is : List Nat) (b : MG) (t : MT) (f : ME) : ME := fun ρ => do
  let (pk, ρ1) ← evalO src ρ
  let d ← look pk ρ1
  let ds ← items d
  if is.all (free (lend pk ρ1)) = true then do
    let (acc, ρ2) ← compM is b t f ds [] (wipeR (lend pk ρ1) is)
    if acc.length ≤ sizeLine then pure (⟨.own, .lst acc⟩, back pk ρ1 ρ2) else none
  else none
/-- over operands that are not walked themselves -/
def fCompN (g : List D → Option (List D)) (os : List Opd) (is : List Nat) (b : MG) (t : MT) (f : ME) : ME := fun ρ => do
  let (pks, ρ1) ← evalOs os ρ
  let es ← looks ρ1 pks
  let ds ← g es
  if is.all (free ρ1) = true then do
    let (acc, ρ2) ← compM is b t f ds [] (wipeR ρ1 is)
    if acc.length ≤ sizeLine then pure (⟨.own, .lst acc⟩, ρ2) else none
  else none
theorem comp_ok {K : PySem.W.Frag} {F H : Hp} {ρ ρ' : Rho} {σ : L2.St} {J : It} {ds acc : List D} {is : List Nat} {b : MG} {t : MT} {f : ME} {p : Addr} {Qd : Hp → Prop} (R : Rel K F ρ σ H) (it : Itn K F (wipeR ρ is) σ H J ds) (hb : NB b) (hf : is.all (free ρ) = true) (hp : H p = none)
    (e : compM is b t f ds [] (wipeR ρ is) = some (acc, ρ')) (hz : acc.length ≤ sizeLine)
    (post : ∀ F' H', Rel K F' ρ' σ H' → StpE F ρ σ H F' ρ' H' → F' p = none → OwnAt K F' H' p (.lst acc) → Qd H') :
    ∃ W : Nat → Nat → Hp → Prop, (∃ m, W 0 m (upd H p (.lst []))) ∧ ∀ i m H, W i m H →
      (J.stop i H ∧ Qd H) ∨ (J.go i H ∧ ∃ Nx : Hp → Prop, (∀ H', Nx H' → ∃ m', m' < m ∧ W (i + 1) m' H') ∧ ∀ x H', J.yld i H x H' → tG K is b x (wipe σ is) H' fun σ2 H2 => wipe σ2 is = wipe σ is ∧ tT K t σ2 H2 fun c H3 =>
        if c = true then tE K f σ2 H3 fun y H4 => ∃ acc, H4 p = some (.lst acc) ∧ acc.length < sizeLine ∧ Nx (upd H4 p (.lst (acc ++ [y]))) else Nx H3) := by
  obtain ⟨G, Y, w, hG, hY⟩ := it
  have hFp : F p = none := R.le.none hp
  have wn : ∀ (i : Nat) (s : Sl), (wipeR ρ is)[i]? = some (some s) → i ∉ is := fun i s h => (wipeR_get h).2
  have Rw : Rel K F (wipeR ρ is) σ H := R.wipe is
  have np0 : NotP (wipeR ρ is) σ p := fun j s h hm z => by
    obtain ⟨v, hv, ok⟩ := Rw.at_ j s h
    obtain ⟨q, rfl, _, oa⟩ := ok.nfz hm
    rw [hv] at z; cases z
    obtain ⟨u, hu⟩ := oa.has
    rw [hp] at hu; cases hu
  have eww : wipe (wipe σ is) is = wipe σ is := by
    have aux : ∀ (l : List Nat) (τ : L2.St), (∀ i ∈ l, i ∈ is) → wipe (wipe τ l) is = wipe τ is := by
      intro l
      induction l with
      | nil => intro τ _; rfl
      | cons v vs ih => intro τ h; show wipe ((wipe τ vs).set v none) is = wipe τ is; rw [wipe_set (h v List.mem_cons_self)]; exact ih τ fun i hi => h i (List.mem_cons_of_mem _ hi)
    exact aux is σ fun i h => h
  -- the state between two turns, over σ
  refine lc_it w (fun k H' => ∃ F' ρ1 acc1 accV, Rel K F' ρ1 σ H' ∧ Stp F (wipeR ρ is) σ H F' ρ1 σ H' ∧ (∀ (i : Nat) (s : Sl), ρ1[i]? = some (some s) → i ∉ is) ∧
      (∀ (j : Nat) (s : Sl), ρ1[j]? = some (some s) → s.m ≠ .fz → ∃ s0, (wipeR ρ is)[j]? = some (some s0) ∧ s0.m = s.m) ∧ NotP ρ1 σ p ∧ H' p = some (.lst accV) ∧ F' p = none ∧ RepL K F' accV acc1 ∧
      compM is b t f (ds.drop k) acc1 ρ1 = some (acc, ρ')) ?_ (fun i H' _ ⟨F', ρ1, _, _, R1, S1, _⟩ => hG F' ρ1 σ H' S1 R1.le) (fun k x H1 H2 hk ⟨F1, ρ1, acc1, accV, R1, S1, n1, b1, np1, hp1, fp1, ra1, e1⟩ y => ?_) (fun H' ⟨F', ρ1, acc1, accV, R1, S1, n1, b1, np1, hp1, fp1, ra1, e1⟩ => ?_)
  · refine ⟨F, wipeR ρ is, [], [], Rw.updP np0 hFp, ⟨Le.refl F, fun a o h _ => by rw [upd_ne (ne_of_none h hp)]; exact h, fun a o h => ⟨o, by rw [upd_ne (ne_of_none h hp)]; exact h, fun _ => rfl⟩, fun _ o h => .inl ⟨o, h⟩, fun _ h => .inl h, fun _ _ d _ h => ⟨⟨d, h⟩, rfl⟩, fun _ _ d _ h => ⟨d, h⟩⟩, wn, fun j s h _ => ⟨s, h, rfl⟩, np0, upd_same, hFp, .nil, by rw [List.drop_zero]; exact e⟩
  · obtain ⟨F2, d, hd, N⟩ := hY k F1 ρ1 σ H1 x H2 hk S1 R1.le y
    obtain ⟨R2, S2⟩ := R1.new N
    obtain ⟨np2, hp2, fp2⟩ := S2.stp.prot np1 hp1 fp1
    have ed : ds.drop k = d :: ds.drop (k + 1) := by
      rw [List.drop_eq_getElem_cons hk]
      congr 1
      rw [List.getElem?_eq_getElem hk] at hd
      exact Option.some.inj hd
    rw [ed] at e1
    obtain ⟨ρa, ea, e1⟩ := bind_some e1
    obtain ⟨⟨c, ρb⟩, eb, e1⟩ := bind_some e1
    -- over the wiped slots
    have R2w : Rel K F2 ρ1 (wipe σ is) H2 := R2.onto n1 eww
    refine ⟨F2, ρ1, d, ρa, R2w, N.res, ea, fun σ2 ew R3 S3 => ⟨ew.trans eww, ?_⟩⟩
    have ew' : wipe σ2 is = wipe σ is := ew.trans eww
    have np2w : NotP ρ1 (wipe σ is) p := fun j s h hm z => np2 j s h hm (by rw [wipe_out (n1 j s h)] at z; exact z)
    obtain ⟨np3, hp3, fp3⟩ := S3.prot np2w hp2 fp2
    refine ⟨F2, ρa, c, ρb, R3, eb, fun F4 H4 R4 S4 => ?_⟩
    obtain ⟨np4, hp4, fp4⟩ := S4.stp.prot np3 hp3 fp3
    -- a turn's end: from the slots that were bound back to σ
    have fin : ∀ (F5 : Hp) (ρc : Rho) (H5 H6 : Hp) (acc2 : List D) (accW : List V), Rel K F5 ρc σ2 H5 → StpE F2 ρa σ2 H2 F5 ρc H5 → (∀ a, a ≠ p → H6 a = H5 a) → H6 p = some (.lst accW) → F5 p = none → NotP ρc σ2 p → RepL K F5 accW acc2 →
        compM is b t f (ds.drop (k + 1)) acc2 (wipeR ρc is) = some (acc, ρ') →
        ∃ F' ρ1 acc1 accV, Rel K F' ρ1 σ H6 ∧ Stp F (wipeR ρ is) σ H F' ρ1 σ H6 ∧ (∀ (i : Nat) (s : Sl), ρ1[i]? = some (some s) → i ∉ is) ∧ (∀ (j : Nat) (s : Sl), ρ1[j]? = some (some s) → s.m ≠ .fz → ∃ s0, (wipeR ρ is)[j]? = some (some s0) ∧ s0.m = s.m) ∧ NotP ρ1 σ p ∧ H6 p = some (.lst accV) ∧ F' p = none ∧ RepL K F' accV acc1 ∧ compM is b t f (ds.drop (k + 1)) acc1 ρ1 = some (acc, ρ') := by
      intro F5 ρc H5 H6 acc2 accW R5 S5 h6 hp6 fp5 np5 ra5 e5
      have eo : ∀ i, i ∉ is → σ2[i]? = σ[i]? := fun i hi => by rw [← wipe_out hi, ew', wipe_out hi]
      have e6 : H6 = upd H5 p (.lst accW) := by
        funext a
        by_cases z : a = p
        · subst z; rw [upd_same]; exact hp6
        · rw [upd_ne z]; exact h6 a z
      have n5 : ∀ (i : Nat) (s : Sl), (wipeR ρc is)[i]? = some (some s) → i ∉ is := fun i s h => (wipeR_get h).2
      have R6 : Rel K F5 (wipeR ρc is) σ H5 := (R5.wipe is).onto n5 ew'.symm
      have np6 : NotP (wipeR ρc is) σ p := fun j s h hm z => np5 j s (wipeR_get h).1 hm (by rw [eo j (n5 j s h)]; exact z)
      -- modes, from the bound slots back
      have md : ∀ (j : Nat) (s : Sl), ρc[j]? = some (some s) → s.m ≠ .fz → ∃ s0, (wipeR ρ is)[j]? = some (some s0) ∧ s0.m = s.m := fun j s h hm => by
        obtain ⟨s1, h1, m1⟩ := S5.back j s h hm
        have hm1 : s1.m ≠ .fz := by rw [m1]; exact hm
        obtain ⟨s0, h0, m0⟩ := b1 j s1 (hb d ρ1 ρa ea j s1 h1 hm1) hm1
        exact ⟨s0, h0, m0.trans m1⟩
      -- the step, over σ: from ahead of the loop to the turn's start, the binding, the rest
      have SA : Stp F (wipeR ρ is) σ H F2 ρ1 σ H2 := S1.trans S2.stp
      have SB : Stp F2 ρ1 (wipe σ is) H2 F5 ρc σ2 H5 := S3.trans S5.stp
      have S6 : Stp F (wipeR ρ is) σ H F5 (wipeR ρc is) σ H6 := by
        have ownW : ∀ a, Own ρ1 (wipe σ is) a → Own ρ1 σ a := fun a ⟨j, s, h1, h2, h3⟩ => ⟨j, s, h1, h2, by rw [wipe_out (n1 j s h1)] at h3; exact h3⟩
        have ownOW : ∀ a, OwnO ρ1 (wipe σ is) a → OwnO ρ1 σ a := fun a ⟨j, s, h1, h2, h3⟩ => ⟨j, s, h1, h2, by rw [wipe_out (n1 j s h1)] at h3; exact h3⟩
        have SB' : Stp F2 ρ1 σ H2 F5 (wipeR ρc is) σ H5 := by
          refine ⟨SB.le, fun a o h n => SB.keep a o h fun z => n (ownW a z), SB.there, fun a o h => ?_, fun a h => ?_, fun j m dd hm z => ?_, fun j m dd hm z => ?_⟩
          · rcases SB.newF a o h with q | q | q | q
            · exact .inl q
            · exact .inr (.inl q)
            · exact .inr (.inr (.inl (ownOW a q)))
            · exact .inr (.inr (.inr q))
          · obtain ⟨j, s, h1, h2, h3⟩ := h
            have q := wipeR_get h1
            rcases SB.ownO a ⟨j, s, q.1, h2, by rw [eo j q.2]; exact h3⟩ with z | z
            · exact .inl (ownOW a z)
            · exact .inr z
          · obtain ⟨⟨d', e'⟩, _⟩ := SB.fwd j m dd hm z
            exact ⟨⟨d', by rw [wipeR_out (n1 j _ z)]; exact e'⟩, rfl⟩
          · exact SB.bwd j m dd hm (wipeR_get z).1
        have SC := SA.trans SB'
        rw [e6]
        refine ⟨SC.le, fun a o h n => ?_, fun a o h => ?_, SC.newF, SC.ownO, SC.fwd, SC.bwd⟩
        · rw [upd_ne (ne_of_none h hp)]; exact SC.keep a o h n
        · rw [upd_ne (ne_of_none h hp)]; exact SC.there a o h
      refine ⟨F5, wipeR ρc is, acc2, accW, ?_, S6, n5, fun j s h hm => md j s (wipeR_get h).1 hm, np6, hp6, fp5, ra5, e5⟩
      rw [e6]
      exact R6.updP np6 fp5
    cases c with
    | false =>
      refine iteF ?_
      exact fin F4 ρb H4 H4 acc1 accV R4 S4 (fun _ _ => rfl) hp4 fp4 np4 (ra1.mono (S2.stp.le.trans S4.stp.le)) e1
    | true =>
      refine iteT ?_
      obtain ⟨⟨r, ρc⟩, ec, e1⟩ := bind_some e1
      refine ⟨F4, ρb, r, ρc, R4, ec, fun v F5 H5 R5 S5 res => ?_⟩
      obtain ⟨F6, R6, S6, rp⟩ := res.frozen R4 R5 S5
      obtain ⟨np6, hp6, fp6⟩ := S6.stp.prot np4 hp4 fp4
      have le16 : Le F1 F6 := (S2.stp.le.trans S4.stp.le).trans S6.stp.le
      refine ⟨accV, hp6, ?_, fin F6 ρc H5 (upd H5 p (.lst (accV ++ [v]))) (acc1 ++ [r.d]) (accV ++ [v]) R6 (S4.trans S6) (fun a z => upd_ne z) upd_same fp6 np6 ((ra1.mono le16).append (.one rp)) e1⟩
      have := compM_len e1
      rw [List.length_append] at this
      rw [ra1.length]
      exact Nat.lt_of_lt_of_le (Nat.lt_succ_self _) (Nat.le_trans this hz)
  · rw [List.drop_length] at e1
    cases e1
    refine post F' H' R1 ⟨⟨S1.le, fun a o h n => S1.keep a o h fun ⟨j, s, h1, h2, h3⟩ => n ⟨j, s, (wipeR_get h1).1, h2, h3⟩, S1.there, fun a o h => ?_, fun a h => ?_, fun j m d hm z => ?_, fun j m d hm z => ?_⟩, fun j s h hm => ?_⟩ fp1 ⟨accV, hp1, ra1⟩
    · rcases S1.newF a o h with q | q | ⟨j, s, h1, h2, h3⟩ | q
      · exact .inl q
      · exact .inr (.inl q)
      · exact .inr (.inr (.inl ⟨j, s, (wipeR_get h1).1, h2, h3⟩))
      · exact .inr (.inr (.inr q))
    · rcases S1.ownO a h with ⟨j, s, h1, h2, h3⟩ | q
      · exact .inl ⟨j, s, (wipeR_get h1).1, h2, h3⟩
      · exact .inr q
    · have nj : j ∉ is := fun hj => free_not (List.all_eq_true.mp hf j hj) hm z
      exact S1.fwd j m d hm (by rw [wipeR_out nj]; exact z)
    · obtain ⟨d', q⟩ := S1.bwd j m d hm z
      exact ⟨d', (wipeR_get q).1⟩
    · obtain ⟨s0, q, m0⟩ := b1 j s h hm
      exact ⟨s0, (wipeR_get q).1, m0⟩
end VI

namespace VI
open PySem PySem.Spec PyProof.Rows L2

theorem Stp.unwipe {F F' H H' : Hp} {ρ ρ' : Rho} {σ σ' : L2.St} {is : List Nat} (hf : is.all (free ρ) = true) (S : Stp F (wipeR ρ is) σ H F' ρ' σ' H') : Stp F ρ σ H F' ρ' σ' H' := by
  refine ⟨S.le, fun a o h n => S.keep a o h fun ⟨j, s, h1, h2, h3⟩ => n ⟨j, s, (wipeR_get h1).1, h2, h3⟩, S.there, fun a o h => ?_, fun a h => ?_, fun j m d hm z => ?_, fun j m d hm z => ?_⟩
  · rcases S.newF a o h with q | q | ⟨j, s, h1, h2, h3⟩ | q
    · exact .inl q
    · exact .inr (.inl q)
    · exact .inr (.inr (.inl ⟨j, s, (wipeR_get h1).1, h2, h3⟩))
    · exact .inr (.inr (.inr q))
  · rcases S.ownO a h with ⟨j, s, h1, h2, h3⟩ | q
    · exact .inl ⟨j, s, (wipeR_get h1).1, h2, h3⟩
    · exact .inr q
  · have nj : j ∉ is := fun hj => free_not (List.all_eq_true.mp hf j hj) hm z
    exact S.fwd j m d hm (by rw [wipeR_out nj]; exact z)
  · obtain ⟨d', q⟩ := S.bwd j m d hm z
    exact ⟨d', (wipeR_get q).1⟩
theorem Itn.wiped {K : PySem.W.Frag} {F H : Hp} {ρ : Rho} {σ : L2.St} {J : It} {ds : List D} {is : List Nat} (hf : is.all (free ρ) = true) (h : Itn K F ρ σ H J ds) : Itn K F (wipeR ρ is) σ H J ds := by
  obtain ⟨G, Y, w, hG, hY⟩ := h
  exact ⟨G, Y, w, fun F' ρ' σ' H' S l => hG F' ρ' σ' H' (S.unwipe hf) l, fun i F' ρ' σ' H' x H'' hi S l y => hY i F' ρ' σ' H' x H'' hi (S.unwipe hf) l y⟩
theorem StpE.lend {K : PySem.W.Frag} {F F' H H' : Hp} {ρ ρ' : Rho} {σ : L2.St} {pk : Pk} (R : Rel K F ρ σ H) (R' : Rel K F' ρ' σ H') (S : StpE F (VI.lend pk ρ) σ H F' ρ' H') : Rel K F' (VI.back pk ρ ρ') σ H' ∧ StpE F ρ σ H F' (VI.back pk ρ ρ') H' := by
  obtain ⟨R2, S2⟩ := S.stp.lend R R'
  refine ⟨R2, S2, fun j s h hm => ?_⟩
  rcases lend_cases pk ρ with ⟨e, b⟩ | ⟨i, m, d, rfl, hmm, e, el, b⟩
  · rw [b] at h
    obtain ⟨s0, h0, m0⟩ := S.back j s h hm
    rw [e] at h0
    exact ⟨s0, h0, m0⟩
  · have hi : i < ρ.length := (List.getElem?_eq_some_iff.mp e).1
    have li : (VI.lend (.sl i) ρ)[i]? = some (some ⟨.lent, d⟩) := by rw [el, List.getElem?_set_self hi]
    obtain ⟨⟨d', e'⟩, _⟩ := S.stp.fwd i .lent d trivial li
    rw [b ρ' d' e'] at h
    rcases getElem?_set' h with ⟨ej, z⟩ | ⟨n, z⟩
    · cases z
      exact ⟨⟨m, d⟩, by rw [ej]; exact e, rfl⟩
    · obtain ⟨s0, h0, m0⟩ := S.back j s z hm
      rw [el, List.getElem?_set_ne (Ne.symm n)] at h0
      exact ⟨s0, h0, m0⟩
theorem tE_comp {K : PySem.W.Frag} {items : D → Option (List D)} {wi : TE → TI} {src : Opd} {is : List Nat} {b : MG} {t : MT} {f : ME} {σ : L2.St} {H : Hp} {Q : VK} (hw : Walks K items wi) (hb : NB b) (h : tE K (fComp items src is b t f) σ H Q) :
    tLc (wi (tO K src)) (tG K is b) (tT K t) (tE K f) is σ H Q := by
  obtain ⟨F, ρ, r, ρ', R, e, post⟩ := h
  obtain ⟨⟨pk, ρ1⟩, e1, e⟩ := bind_some e
  obtain ⟨d, e2, e⟩ := bind_some e
  obtain ⟨ds, e3, e⟩ := bind_some e
  split at e
  · rename_i hf
    obtain ⟨⟨acc, ρ2⟩, e4, e⟩ := bind_some e
    dsimp only at e
    split at e
    · rename_i hz
      cases e
      refine hw src σ H _ ⟨F, ρ, pk, ρ1, d, ds, R, e1, e2, e3, fun F1 H1 J R1 S1 it p hp => ?_⟩
      refine comp_ok (R1.lend pk) (it.wiped hf) hb hf hp e4 hz fun F2 H2 R2 S2 fp oa => ?_
      obtain ⟨R3, S3⟩ := S2.lend R1 R2
      exact post (.ref p) F2 H2 R3 (S1.trans S3) ⟨p, rfl, none_back S1.stp hp, fp, oa⟩
    · cases e
  · cases e
theorem tE_compN {K : PySem.W.Frag} {g : List D → Option (List D)} {wi : TA → TI} {os : List Opd} {is : List Nat} {b : MG} {t : MT} {f : ME} {σ : L2.St} {H : Hp} {Q : VK} (hw : WalksN K g wi) (hb : NB b) (h : tE K (fCompN g os is b t f) σ H Q) :
    tLc (wi (tA K os)) (tG K is b) (tT K t) (tE K f) is σ H Q := by
  obtain ⟨F, ρ, r, ρ', R, e, post⟩ := h
  obtain ⟨⟨pks, ρ1⟩, e1, e⟩ := bind_some e
  obtain ⟨es, e2, e⟩ := bind_some e
  obtain ⟨ds, e3, e⟩ := bind_some e
  split at e
  · rename_i hf
    obtain ⟨⟨acc, ρ2⟩, e4, e⟩ := bind_some e
    dsimp only at e
    split at e
    · rename_i hz
      cases e
      refine hw os σ H _ ⟨F, ρ, pks, ρ1, es, ds, R, e1, e2, e3, fun F1 H1 J R1 S1 it p hp => ?_⟩
      refine comp_ok R1 (it.wiped hf) hb hf hp e4 hz fun F2 H2 R2 S2 fp oa => ?_
      exact post (.ref p) F2 H2 R2 (S1.trans S2) ⟨p, rfl, none_back S1.stp hp, fp, oa⟩
    · cases e
  · cases e
abbrev VTs (X : Cx) (ifs : List Expr) (t : MT) : Prop := PTs X ifs (tT X.K t)
theorem PTs.of {X : Cx} {ifs : List Expr} {t t' : TT} (h : PTs X ifs t) (q : ∀ σ H Q, t' σ H Q → t σ H Q) : PTs X ifs t' := ⟨fun pins s σ H Q I w => h.run pins s σ H Q I (q σ H Q w)⟩
theorem vts_nil {X : Cx} : VTs X [] fYes := PTs.of pts_nil fun σ H Q ⟨F, ρ, c, ρ', R, e, post⟩ => by
  cases e
  exact post F H R .refl
theorem vts_one {X : Cx} {c : Expr} {t : MT} (h : VT X c t) : VTs X [c] t := pts_one h
section
variable {X : Cx} {elt tg iter : Expr} {ifs : List Expr} {scope : Scope} {pos : Pos} {own : List (Str × Nat)} {is : List Nat} {b : MG} {t : MT} {f : ME}
theorem ve_comp {items : D → Option (List D)} {wi : TE → TI} {src : Opd} (own : List (Str × Nat)) (hw : Walks X.K items wi) (hb : NB b) (hc : X.calm = true) (hN : X.N.Nodup) (hi : PI X tg iter (wi (tO X.K src))) (ok : BlkOk X.N X.env.scope scope own)
    (hg : ∀ (s : Shared) (H : Hp) (C : Addr) (cl : List (Str × Addr)) (fp : List Addr), VG (X.blk s H scope (compEnvC scope cl C X.env) fp) tg is b) (ht : ∀ (s : Shared) (H : Hp) (C : Addr) (cl : List (Str × Addr)) (fp : List Addr), VTs (X.blk s H scope (compEnvC scope cl C X.env) fp) ifs t)
    (he : ∀ (s : Shared) (H : Hp) (C : Addr) (cl : List (Str × Addr)) (fp : List Addr), VE (X.blk s H scope (compEnvC scope cl C X.env) fp) elt f) (ho : own.map (·.2) = is := by rfl) (hs : ∀ x, foldedSetIterable iter X.env x = pure x := by intro _; rfl) :
    VE X (.ListComp elt [⟨tg, iter, ifs, 0⟩] scope pos) (fComp items src is b t f) := VE.of (pe_lc hc hN hi ok hg ht he hs) fun _ _ _ _ q => by rw [ho]; exact tE_comp hw hb q
theorem ve_compN {g : List D → Option (List D)} {wi : TA → TI} {os : List Opd} (own : List (Str × Nat)) (hw : WalksN X.K g wi) (hb : NB b) (hc : X.calm = true) (hN : X.N.Nodup) (hi : PI X tg iter (wi (tA X.K os))) (ok : BlkOk X.N X.env.scope scope own)
    (hg : ∀ (s : Shared) (H : Hp) (C : Addr) (cl : List (Str × Addr)) (fp : List Addr), VG (X.blk s H scope (compEnvC scope cl C X.env) fp) tg is b) (ht : ∀ (s : Shared) (H : Hp) (C : Addr) (cl : List (Str × Addr)) (fp : List Addr), VTs (X.blk s H scope (compEnvC scope cl C X.env) fp) ifs t)
    (he : ∀ (s : Shared) (H : Hp) (C : Addr) (cl : List (Str × Addr)) (fp : List Addr), VE (X.blk s H scope (compEnvC scope cl C X.env) fp) elt f) (ho : own.map (·.2) = is := by rfl) (hs : ∀ x, foldedSetIterable iter X.env x = pure x := by intro _; rfl) :
    VE X (.ListComp elt [⟨tg, iter, ifs, 0⟩] scope pos) (fCompN g os is b t f) := VE.of (pe_lc hc hN hi ok hg ht he hs) fun _ _ _ _ q => by rw [ho]; exact tE_compN hw hb q
theorem tAsg_mono {te te' : TE} {g : TG} {D : Ends} {σ : L2.St} {H : Hp} (h : ∀ Q, te' σ H Q → te σ H Q) (q : tAsg te' g D σ H) : tAsg te g D σ H := h _ q
/-- name = [..] on one line -/
theorem vs_setComp {items : D → Option (List D)} {wi : TE → TI} {src : Opd} {i : Nat} {y : Str} {py spos : Pos} (own : List (Str × Nat)) (hw : Walks X.K items wi) (hb : NB b) (hc : X.calm = true) (hN : X.N.Nodup) (hy : X.N[i]? = some y) (hyl : X.env.scope.names.lookup y = some .local)
    (hsw : swapsWith (.ListComp elt [⟨tg, iter, ifs, 0⟩] scope pos) (some (.Name y py)) spos.line X.env = pure true) (hi : PI X tg iter (wi (tO X.K src))) (ok : BlkOk X.N X.env.scope scope own)
    (hg : ∀ (s : Shared) (H : Hp) (C : Addr) (cl : List (Str × Addr)) (fp : List Addr), VG (X.blk s H scope (compEnvC scope cl C X.env) fp) tg is b) (ht : ∀ (s : Shared) (H : Hp) (C : Addr) (cl : List (Str × Addr)) (fp : List Addr), VTs (X.blk s H scope (compEnvC scope cl C X.env) fp) ifs t)
    (he : ∀ (s : Shared) (H : Hp) (C : Addr) (cl : List (Str × Addr)) (fp : List Addr), VE (X.blk s H scope (compEnvC scope cl C X.env) fp) elt f) (ho : own.map (·.2) = is := by rfl) (hs : ∀ x, foldedSetIterable iter X.env x = pure x := by intro _; rfl) :
    VS X (.Assign [.Name y py] (.ListComp elt [⟨tg, iter, ifs, 0⟩] scope pos) spos) (fAsg i (fComp items src is b t f)) :=
  PS.of (ps_setLc hc hN hy hyl hsw hi ok hg ht he hs) fun _ _ _ _ q => tAsg_mono (fun _ z => by rw [ho]; exact tE_comp hw hb z) (tS_asg q)
theorem vs_setCompN {g : List D → Option (List D)} {wi : TA → TI} {os : List Opd} {i : Nat} {y : Str} {py spos : Pos} (own : List (Str × Nat)) (hw : WalksN X.K g wi) (hb : NB b) (hc : X.calm = true) (hN : X.N.Nodup) (hy : X.N[i]? = some y) (hyl : X.env.scope.names.lookup y = some .local)
    (hsw : swapsWith (.ListComp elt [⟨tg, iter, ifs, 0⟩] scope pos) (some (.Name y py)) spos.line X.env = pure true) (hi : PI X tg iter (wi (tA X.K os))) (ok : BlkOk X.N X.env.scope scope own)
    (hg : ∀ (s : Shared) (H : Hp) (C : Addr) (cl : List (Str × Addr)) (fp : List Addr), VG (X.blk s H scope (compEnvC scope cl C X.env) fp) tg is b) (ht : ∀ (s : Shared) (H : Hp) (C : Addr) (cl : List (Str × Addr)) (fp : List Addr), VTs (X.blk s H scope (compEnvC scope cl C X.env) fp) ifs t)
    (he : ∀ (s : Shared) (H : Hp) (C : Addr) (cl : List (Str × Addr)) (fp : List Addr), VE (X.blk s H scope (compEnvC scope cl C X.env) fp) elt f) (ho : own.map (·.2) = is := by rfl) (hs : ∀ x, foldedSetIterable iter X.env x = pure x := by intro _; rfl) :
    VS X (.Assign [.Name y py] (.ListComp elt [⟨tg, iter, ifs, 0⟩] scope pos) spos) (fAsg i (fCompN g os is b t f)) :=
  PS.of (ps_setLc hc hN hy hyl hsw hi ok hg ht he hs) fun _ _ _ _ q => tAsg_mono (fun _ z => by rw [ho]; exact tE_compN hw hb z) (tS_asg q)
end

/-! ### writing to an object of one's own -/
def Md.wr : Md → Bool
  | .own => true
  | .par => true
  | _ => false
theorem wr_own {m : Md} (h : m.wr = true) : m = .own ∨ m = .par := by cases m <;> first | exact .inl rfl | exact .inr rfl | cases h
theorem Rel.write {K : PySem.W.Frag} {F H : Hp} {ρ : Rho} {σ : L2.St} {i : Nat} {m : Md} {d d' : D} {p : Addr} {o : HO} (R : Rel K F ρ σ H) (e : ρ[i]? = some (some ⟨m, d⟩)) (hm : m.wr = true) (hv : σ[i]? = some (some (.ref p))) (hF : F p = none) (oa : OwnAt K F (upd H p o) p d') :
    Rel K F (ρ.set i (some ⟨m, d'⟩)) σ (upd H p o) ∧ StpE F ρ σ H F (ρ.set i (some ⟨m, d'⟩)) (upd H p o) := by
  have hi : i < ρ.length := (List.getElem?_eq_some_iff.mp e).1
  have nm : m ≠ .fz := by rcases wr_own hm with rfl | rfl <;> (intro z; cases z)
  have aux : ∀ (j : Nat) (s : Sl), (ρ.set i (some ⟨m, d'⟩))[j]? = some (some s) → ∃ s', ρ[j]? = some (some s') ∧ s'.m = s.m := fun j s z => by
    rcases getElem?_set' z with ⟨ej, z⟩ | ⟨_, z⟩
    · cases z; exact ⟨⟨m, d⟩, by rw [ej]; exact e, rfl⟩
    · exact ⟨s, z, rfl⟩
  have own : Own ρ σ p := ⟨i, _, e, wr_own hm, hv⟩
  refine ⟨⟨R.le.upd2 hF, by rw [List.length_set]; exact R.len, fun j s z => ?_, fun j k s t q h1 h2 m1 m2 h3 h4 => ?_⟩, ⟨⟨Le.refl F, fun a u h n => ?_, fun a u h => ?_, fun _ u h => .inl ⟨u, h⟩, fun a h => .inl ?_, fun j m' dd hm' z => ?_, fun j m' dd hm' z => ?_⟩, fun j s z _ => aux j s z⟩⟩
  · rcases getElem?_set' z with ⟨ej, z⟩ | ⟨n, z⟩
    · cases z
      exact ⟨.ref p, by rw [ej]; exact hv, .mk_n nm hF oa⟩
    · obtain ⟨w, hw, ok⟩ := R.at_ j s z
      refine ⟨w, hw, ?_⟩
      by_cases hs : s.m = .fz
      · exact .mk_fz hs (ok.fz hs)
      · obtain ⟨q, rfl, fq, oq⟩ := ok.nfz hs
        have ne : q ≠ p := fun zz => n (R.ne j i s _ p z e hs nm (by rw [hw, zz]) hv)
        exact .mk_n hs fq (oq.mono (Le.refl F) (upd_ne ne))
  · obtain ⟨s', e1, q1⟩ := aux j s h1
    obtain ⟨t', e2, q2⟩ := aux k t h2
    exact R.ne j k s' t' q e1 e2 (by rw [q1]; exact m1) (by rw [q2]; exact m2) h3 h4
  · have ne : a ≠ p := fun z => n (by rw [z]; exact own)
    rw [upd_ne ne]; exact h
  · by_cases z : a = p
    · subst z; exact ⟨o, upd_same, fun ⟨vs, z⟩ => by subst z; exact (oa.noTup upd_same).elim⟩
    · exact ⟨u, by rw [upd_ne z]; exact h, fun _ => rfl⟩
  · obtain ⟨j, s, h1, h2, h3⟩ := h
    obtain ⟨s', e1, q1⟩ := aux j s h1
    exact ⟨j, s', e1, by rw [q1]; exact h2, h3⟩
  · by_cases ej : j = i
    · subst ej
      rw [e] at z; cases z
      exact ⟨⟨d', List.getElem?_set_self hi⟩, rfl⟩
    · rw [List.getElem?_set_ne (Ne.symm ej)]
      exact ⟨⟨dd, z⟩, rfl⟩
  · obtain ⟨⟨m2, d2⟩, e1, q1⟩ := aux j _ z
    cases q1
    exact ⟨d2, e1⟩
/-- a method that writes: the receiver a slot of one's own -/
def fMut (i : Nat) (ty : D → Bool) (g : D → List D → Option (D × D)) (fs : List ME) : ME := fun ρ => match ρ[i]? with
  | some (some ⟨_, d0⟩) => if ty d0 = true then
      (evalZ fs ρ).bind fun z => match z.2[i]? with
        | some (some ⟨m, d⟩) => if m.wr = true then (g d z.1).map fun y => (⟨.fz, y.2⟩, z.2.set i (some ⟨m, y.1⟩)) else none
        | _ => none
    else none
  | _ => none
def MuOk (K : PySem.W.Frag) (r : V → List V → Hp → VK → Prop) (g : D → List D → Option (D × D)) : Prop := ∀ (F H : Hp) (p : Addr) (d : D) (ds : List D) (vs : List V) (d' x : D) (Q : VK), Le F H → F p = none → OwnAt K F H p d → RepL K F vs ds → g d ds = some (d', x) →
  (∀ v o, OwnAt K F (upd H p o) p d' → Rep K F v x → Q v (upd H p o)) → r (.ref p) vs H Q
def isL : D → Bool
  | .lst _ => true
  | _ => false
def isDK : D → Bool
  | .dK _ => true
  | .dT _ => true
  | _ => false
theorem SlOk.tyL {K : PySem.W.Frag} {F H : Hp} {v : V} {s : Sl} (ok : SlOk K F H v s) (l : Le F H) (h : isL s.d = true) : tyV K "list" v H := by
  obtain ⟨m, d⟩ := s
  cases d with
  | lst ds => obtain ⟨a, vs, rfl, hs, _⟩ := ok.vw.lst l; exact .inl ⟨rfl, vs, SqL.of hs⟩
  | _ => cases h
theorem tE_mut {K : PySem.W.Frag} {T : String} {ty : D → Bool} {r : V → List V → Hp → VK → Prop} {g : D → List D → Option (D × D)} {i : Nat} {fs : List ME} {σ : L2.St} {H : Hp} {Q : VK} (hty : ∀ F H v s, SlOk K F H v s → Le F H → ty s.d = true → tyV K T v H) (hg : MuOk K r g) (h : tE K (fMut i ty g fs) σ H Q) :
    tVar i σ H fun x H1 => tyV K T x H1 ∧ tZ K fs σ H1 fun xs H2 => r x xs H2 Q := by
  obtain ⟨F, ρ, s, ρ', R, e, post⟩ := h
  unfold fMut at e
  split at e
  · rename_i m0 d0 h0
    split at e
    · rename_i ht
      obtain ⟨⟨ds, ρ1⟩, e1, e⟩ := Option.bind_eq_some_iff.mp e
      dsimp only at e
      split at e
      · rename_i m d hd
        split at e
        · rename_i hm
          obtain ⟨⟨d', x⟩, e2, e⟩ := Option.map_eq_some_iff.mp e
          cases e
          obtain ⟨v, hv, ok⟩ := R.at_ i _ h0
          refine ⟨v, hv, hty F H v _ ok R.le ht, F, ρ, ds, ρ1, R, e1, fun vs F1 H1 R1 S1 P1 => ?_⟩
          obtain ⟨w, hw, ok1⟩ := R1.at_ i _ hd
          rw [hv] at hw; cases hw
          have nm : m ≠ .fz := by rcases wr_own hm with rfl | rfl <;> (intro z; cases z)
          obtain ⟨p, rfl, fp, oa⟩ := ok1.nfz nm
          refine hg F1 H1 p d ds vs d' x _ R1.le fp oa P1 e2 fun v o oa' rp => ?_
          obtain ⟨R2, S2⟩ := R1.write hd hm hv fp oa'
          exact post v F1 _ R2 (S1.trans S2) rp
        · cases e
      · cases e
    · cases e
  · cases e
theorem ve_mut {X : Cx} {T id : String} {ty : D → Bool} {r : V → List V → Hp → VK → Prop} {g : D → List D → Option (D × D)} {i : Nat} {x name : Str} {p apos cpos : Pos} {e : Expr} {es : List Expr} {fs : List ME} (hty : ∀ F H v s, SlOk X.K F H v s → Le F H → ty s.d = true → tyV X.K T v H) (hg : MuOk X.K r g) (pa : PlainAttrs T) (slot : Slot T name id) (ht : typeOf (.builtin id) = pure (.type "method_descriptor")) (hm : MtR X id r) (ho : PE X (.Name x p) (tVar i)) (ha : VZ X (e :: es) fs)
    (hbase : attributeBase (.Name x p) name X.env (eval (.Name x p) X.env) = eval (.Name x p) X.env := by rfl)
    (hfew : ((backTo cpos (starEach (e :: es) X.env)).all (fun x => !x.1) && (backToKw cpos (keywordEach [] X.env)).all (fun x => x.1.isSome)
      && decide ((e :: es).length + ([] : List Keyword).length + (if ([] : List Keyword).isEmpty then 0 else 1) < 30)) = true := by rfl)
    (hline : (apos.endLine == cpos.line) = true := by rfl) (hs : starEach (e :: es) X.env = (false, eval e X.env) :: starEach es X.env := by rfl) (hplain : (backTo cpos (starEach es X.env)).any (·.1) = false := by rfl) :
    VE X (.Call (.Attribute (.Name x p) name apos) (e :: es) [] cpos) (fMut i ty g fs) := VE.of (pe_bm pa slot ht hm ho ha hbase hfew hline hs hplain) fun _ _ _ _ q => tE_mut hty hg q
theorem ve_mut0 {X : Cx} {T id : String} {ty : D → Bool} {r : V → List V → Hp → VK → Prop} {g : D → List D → Option (D × D)} {i : Nat} {x name : Str} {p apos cpos : Pos} (hty : ∀ F H v s, SlOk X.K F H v s → Le F H → ty s.d = true → tyV X.K T v H) (hg : MuOk X.K r g) (pa : PlainAttrs T) (slot : Slot T name id) (ht : typeOf (.builtin id) = pure (.type "method_descriptor")) (hm : MtR X id r) (ho : PE X (.Name x p) (tVar i))
    (hbase : attributeBase (.Name x p) name X.env (eval (.Name x p) X.env) = eval (.Name x p) X.env := by rfl) (hline : (apos.endLine == cpos.line) = true := by rfl) :
    VE X (.Call (.Attribute (.Name x p) name apos) [] [] cpos) (fMut i ty g []) := VE.of (pe_bm0 pa slot ht hm ho hbase hline) fun σ H Q _ q => by
  obtain ⟨v, hv, t, F, ρ, ds, ρ1, R, e, post⟩ := tE_mut hty hg q
  cases e
  exact ⟨v, hv, t, post [] F H R .refl .nil⟩
/-- lists -/
def gAppend : D → List D → Option (D × D)
  | .lst xs, [y] => if xs.length < sizeLine then some (.lst (xs ++ [y]), .non) else none
  | _, _ => none
theorem mu_append {K : PySem.W.Frag} : MuOk K rAppend gAppend := fun F H p d ds vs d' x Q l fp oa rp e k => by
  unfold gAppend at e
  split at e
  · rename_i xs y
    split at e
    · rename_i hz
      cases e
      obtain ⟨ws, h1, h2⟩ := oa
      cases rp with
      | cons r t =>
        cases t
        exact ⟨p, ws, _, rfl, rfl, h1, by rw [h2.length]; exact hz, k _ _ ⟨_, upd_same, h2.append (.one r)⟩ .non⟩
    · cases e
  · cases e
def gPopAt : D → List D → Option (D × D)
  | .lst xs, [.int i] => match ixN xs.length i with
    | some k => match xs[k]? with
      | some y => if xs.length ≤ sizeLine then some (.lst (xs.eraseIdx k), y) else none
      | none => none
    | none => none
  | _, _ => none
theorem mu_popAt {K : PySem.W.Frag} : MuOk K rPopAt gPopAt := fun F H p d ds vs d' x Q l fp oa rp e k => by
  unfold gPopAt at e
  split at e
  · rename_i xs i
    split at e
    · rename_i j hj
      split at e
      · rename_i y hy
        split at e
        · rename_i hz
          cases e
          obtain ⟨ws, h1, h2⟩ := oa
          cases rp with
          | cons r t =>
            cases t
            cases r
            obtain ⟨w, hw, rw'⟩ := h2.getD hy
            rw [← h2.length] at hj
            obtain ⟨q1, q2, q3, q4⟩ := ixN_seq hj
            have hn := line63
            have hl := h2.length
            exact ⟨p, ws, i, j, w, rfl, rfl, h1, by omega, by omega, q1, hw, k _ _ ⟨_, upd_same, h2.eraseIdx j⟩ rw'⟩
        · cases e
      · cases e
    · cases e
  · cases e
def gPop : D → List D → Option (D × D)
  | .lst xs, [] => match xs[xs.length - 1]? with
    | some y => some (.lst xs.dropLast, y)
    | none => none
  | _, _ => none
theorem mu_pop {K : PySem.W.Frag} : MuOk K rPop gPop := fun F H p d ds vs d' x Q l fp oa rp e k => by
  unfold gPop at e
  split at e
  · rename_i xs
    split at e
    · rename_i y hy
      cases e
      obtain ⟨ws, h1, h2⟩ := oa
      cases rp
      obtain ⟨w, hw, rw'⟩ := h2.getD hy
      exact ⟨p, ws, w, rfl, rfl, h1, by rw [h2.length]; exact hw, k _ _ ⟨_, upd_same, h2.dropLast⟩ rw'⟩
    · cases e
  · cases e
def gClear : D → List D → Option (D × D)
  | .lst _, [] => some (.lst [], .non)
  | _, _ => none
theorem mu_clear {K : PySem.W.Frag} : MuOk K rClear gClear := fun F H p d ds vs d' x Q l fp oa rp e k => by
  unfold gClear at e
  split at e
  · cases e
    obtain ⟨ws, h1, h2⟩ := oa
    cases rp
    exact ⟨p, ws, rfl, rfl, h1, k _ _ ⟨_, upd_same, .nil⟩ .non⟩
  · cases e
end VI

/-! A def's promise where nothing is being shown (no repr under way): FnG. -/
namespace VI
open PySem PySem.Spec PyProof.Rows L2

abbrev SpG := List V → Hp → VK → Prop
structure FnG (P : Program) (w : World) (K : PySem.W.Frag) (mg : Str → Option Value) (base : Heap) (k : Nat) (f : Addr) (fd : FuncData) (ps : List Str) (sp : SpG) : Prop where
  len : ∀ vs H Q, sp vs H Q → vs.length = ps.length
  run : ∀ (A : Around) (outer : List Env) (s : Shared) (H : Hp) (args : Args) (us : List Value) (vs : List V) (Q : VK), Room k A → A.guards = some [] → Env0 P w K mg base A outer s H →
    BindsTo s fd args (ps.zip us) → Vals vs us → sp vs H Q → codeAny (model P w) A (.call (.ref f) args) (CR CX0 outer P w H s Q E0) s
theorem FnG.mono {P : Program} {w : World} {K : PySem.W.Frag} {mg : Str → Option Value} {base : Heap} {j k : Nat} {f : Addr} {fd : FuncData} {ps : List Str} {sp : SpG}
    (F : FnG P w K mg base j f fd ps sp) (h : j ≤ k) : FnG P w K mg base k f fd ps sp :=
  ⟨F.len, fun A outer s H args us vs Q hr => F.run A outer s H args us vs Q (hr.mono h)⟩
/-- any promise of the layer holds here too -/
theorem FnG.of {P : Program} {w : World} {K : PySem.W.Frag} {mg : Str → Option Value} {base : Heap} {k : Nat} {f : Addr} {fd : FuncData} {ps : List Str} {sp : Sp}
    (F : FnOk P w K mg base CX0 k f fd ps sp) : FnG P w K mg base k f fd ps (fun vs H Q => sp vs H Q E0) :=
  ⟨fun vs H Q h => F.len vs H Q E0 h, fun A outer s H args us vs Q hr _ e0 hb r h => F.run A outer s H args us vs Q E0 hr e0 hb r h⟩
/-- a def as it stands behind the top, whatever its defaults -/
structure FunA (K : PySem.W.Frag) (x qual : Str) (st : Stmt) (f : Addr) (fd : FuncData) : Prop where
  ex : ∃ (oc : Value) (od : Option Addr) (dV kV doc pm : Value) (an : Option Addr) (cdv ct : Value) (osl : Array (Option Value)),
    fd = PySem.W.fnOf x qual (defArgs st) (defBody st) (defScope st) dV kV doc pm an cdv ct ∧ K.lookup f = some ⟨oc, od, .func fd, osl⟩ ∧ PySem.W.codeIn K cdv qual = true
theorem funA {K : PySem.W.Frag} {x qual : Str} {st : Stmt} {f : Addr} {fd : FuncData} (F : Fun K x qual st f fd) : FunA K x qual st f fd := by
  obtain ⟨oc, od, kV, doc, pm, an, cdv, ct, osl, e, lk, hcd⟩ := F.ex
  exact ⟨oc, od, .none, kV, doc, pm, an, cdv, ct, osl, e, lk, hcd⟩
section
variable {P : Program} {w : World} {K : PySem.W.Frag} {mg : Str → Option Value} {base : Heap} {x qual : Str} {st : Stmt} {f : Addr} {fd : FuncData} {N ps : List Str} {k : Nat}
theorem fnG_of {sp : SpG} (Fn : FunA K x qual st f fd) (S : FnScope N ps (defScope st)) (len : ∀ vs H Q, sp vs H Q → vs.length = ps.length)
    (hbody : ∀ (cdv : Value) (A : Around) (outer : List Env) (s : Shared) (H : Hp) (vs : List V) (Q : VK), Room k (A.deeper (envOfC qual (defScope st) s.heap.objs.size f cdv)) → A.guards = some [] → sp vs H Q →
      ∃ t, PSs (cxOf CX0 P w K mg base N qual (defScope st) f cdv A outer s H E0).nox (defBody st) t ∧ t { nx := fun _ H' => Q .non H', rt := Q } (L2.start N vs) H) :
    FnG P w K mg base (k + 1) f fd ps sp := by
  obtain ⟨oc, od, dV, kV, doc, pm, an, cdv, ct, osl, rfl, lk, hcd⟩ := Fn.ex
  refine ⟨len, fun A outer s H args us vs Q hr hgu e0 hb rv hsp => ?_⟩
  have KX : K.In s.heap := e0.mod.kin.keeps fun b o e => (e0.bs b o e).1
  have lim : s.heap.NoLimit := e0.mod.nolimit.keeps fun b o e => (e0.bs b o e).1
  have kinds : ∀ y ∈ ps.zip us, (defScope st).names.lookup y.1 = some .local ∨
      ((defScope st).names.lookup y.1 = some .cell ∧ ((cellsFrom (s.heap.objs.size + 1) (defScope st).names []).lookup y.1).isSome = true) := by
    rintro ⟨n, v⟩ hy
    exact (S.par n (List.of_mem_zip hy).1).imp id fun q => ⟨q, PySem.W.cellsFrom_some _ _ _ (.inl q)⟩
  refine codeAny_call_function hr.depth (KX _ _ lk) rfl S.co S.gen rfl (PySem.W.codeRec_of KX hcd) (hb _ _ _ _ ?_)
  refine wpAny_newFunctionEnv_cells S.kind kinds fun env he s1 inC => ?_
  subst he
  refine ⟨lim.keeps inC.toInCall.keep, codeAny_func ?_⟩
  obtain ⟨t, ht, hq⟩ := hbody cdv A outer s H vs Q (hr.deeper _) hgu hsp
  have I := inv_start (CX := CX0) (E := E0) S hr.hd e0 (len _ _ _ hsp) rv inC
  refine wpAny_mono (ht.nox.run [] s1 (L2.start N vs) H _ I hq) (fun fl s' hs => ?_) fun e s' hs => hs
  cases fl with
  | ret u => obtain ⟨v, σ', H', J, r, q⟩ := hs; exact ⟨v, H', J.os, J.bare, J.base, J.hok, r, q⟩
  | next => obtain ⟨σ', H', J, q⟩ := hs; exact ⟨.non, H', J.os, J.bare, J.base, J.hok, rfl, q⟩
  | brk => obtain ⟨_, _, _, q⟩ := hs; exact q.elim
  | cont => obtain ⟨_, _, _, q⟩ := hs; exact q.elim
end
/-! ### calls -/
section
variable {X : Cx} {k : Nat} {f : Addr} {fd : FuncData} {ps : List Str} {sp : SpG} {dvs : List V} {ds : List Value} {x : Str} {p pos : Pos} {e : Expr} {es : List Expr} {t : TA}
theorem run_fnG {pins : List (Addr × Obj)} {σ : L2.St} {H : Hp} {s : Shared} {Q : VK} {us : List Value} {vs : List V} (F : FnG X.prog X.w X.K X.mg X.base k f fd ps sp) (hr : Room k X.A) (hgu : X.A.guards = some []) (hb : Binds X.K fd ps ds) (hd : Vals dvs ds)
    (I : Inv X pins σ H s) (r : Vals vs us) (h : sp (vs ++ dvs) H Q) : wpAny (model X.prog X.w) X.A (call (.ref f) us) (EP X pins σ Q) X.xe s := by
  have r2 := r.append hd
  have hl : (us ++ ds).length = ps.length := by rw [← r2.length]; exact F.len _ _ _ h
  refine wpAny_call (codeAny_mono (F.run X.A X.stack s H ⟨us, []⟩ (us ++ ds) (vs ++ dvs) Q hr hgu I.env0 (hb s us I.kIn hl) r2 h) fun res s' hq => ?_)
  cases res with
  | error ex => exact hq.elim
  | ok fl => cases fl with
    | ret u => exact I.after hq
    | _ => exact hq.elim
def tCallG (sp : SpG) (dvs : List V) (t : TA) : TE := fun σ H Q => t σ H fun vs H1 => sp (vs ++ dvs) H1 Q
theorem pe_callG (F : FnG X.prog X.w X.K X.mg X.base k f fd ps sp) (hr : Room k X.A) (hgu : X.A.guards = some []) (hg : Gl X x) (hm : X.mg x = some (.ref f)) (hk : PySem.W.keepIn X.K (.ref f) = true) (hb : Binds X.K fd ps ds) (hd : Vals dvs ds)
    (ha : PA X (e :: es) t) (hdb : (x == ("__debug__" : Str)) = false := by decide) (he : starEach (e :: es) X.env = (false, eval e X.env) :: starEach es X.env := by rfl) (hpl : (backTo pos (starEach es X.env)).any (·.1) = false := by rfl) :
    PE X (.Call (.Name x p) (e :: es) [] pos) (tCallG sp dvs t) :=
  ⟨fun pins s σ H Q I h => wpAny_Call_Name_kw (ld_glob I hg hm (PySem.W.callWith_K (h₀ := X.base) I.ok.mod.kin hk
    (thn (ha.run pos pins s σ H _ I h) fun us s1 ⟨vs, H1, I1, r, q⟩ => ⟨I1.kIn, run_fnG F hr hgu hb hd I1 r q⟩) he hpl) hdb)⟩
theorem pe_callG0 (F : FnG X.prog X.w X.K X.mg X.base k f fd ps sp) (hr : Room k X.A) (hgu : X.A.guards = some []) (hg : Gl X x) (hm : X.mg x = some (.ref f)) (hk : PySem.W.keepIn X.K (.ref f) = true) (hb : Binds X.K fd ps ds) (hd : Vals dvs ds)
    (hdb : (x == ("__debug__" : Str)) = false := by decide) : PE X (.Call (.Name x p) [] [] pos) (tCallG sp dvs tNil) :=
  ⟨fun pins s σ H Q I h => wpAny_Call_Name_kw (ld_glob I hg hm (PySem.W.callWith_K0 I.kIn hk (run_fnG (us := []) F hr hgu hb hd I .nil h)) hdb)⟩
end
def spG (K : PySem.W.Frag) (np : Nat) (fM : FnM) : SpG := fun vs H Q => spM K np fM vs H Q E0
theorem fn_okA {P : Program} {w : World} {K : PySem.W.Frag} {mg : Str → Option Value} {base : Heap} {x qual : Str} {st : Stmt} {f : Addr} {fd : FuncData} {N ps : List Str} {k n : Nat} {g : MS} (Fn : FunA K x qual st f fd) (S : FnScope N ps (defScope st)) (hn : N.length = ps.length + n)
    (hbody : ∀ (cdv : Value) (A : Around) (outer : List Env) (s : Shared) (H : Hp), Room k (A.deeper (envOfC qual (defScope st) s.heap.objs.size f cdv)) → A.guards = some [] → VB (cxOf CX0 P w K mg base N qual (defScope st) f cdv A outer s H E0).nox (defBody st) g) :
    FnG P w K mg base (k + 1) f fd ps (spG K ps.length (fnM n g)) := by
  have lv : ∀ {F H : Hp} {as : List Sl} {vs : List V}, as.length = ps.length → Rel K F (as.map some) (vs.map some) H → vs.length = ps.length := fun hl R => by
    have := R.len
    simp only [List.length_map] at this
    omega
  refine fnG_of Fn S (fun vs H Q h => ?_) (fun cdv A outer s H vs Q hr hgu h => ⟨_, hbody cdv A outer s H hr hgu, ?_⟩)
  · obtain ⟨F, as, r, os, hl, R, _⟩ := h
    exact lv hl R
  · obtain ⟨F, as, r, os, hl, R, no, e, post⟩ := h
    have hv := lv hl R
    have est : L2.start N vs = vs.map some ++ List.replicate n none := by
      unfold L2.start; rw [show N.length - vs.length = n by omega]
    rw [est]
    unfold fnM at e
    split at e
    · rename_i r' ρ' hg
      cases e
      exact ⟨F, _, _, _, R.pad, hg, fun F' σ' H' R' S' v res => post v F' H' (call_post R no R' S' res)⟩
    · rename_i ρ' hg
      cases e
      exact ⟨F, _, _, _, R.pad, hg, fun F' σ' H' R' S' => post .non F' H' (call_post R no R' S' Rep.non)⟩
    · cases e
theorem fn_ok {P : Program} {w : World} {K : PySem.W.Frag} {mg : Str → Option Value} {base : Heap} {x qual : Str} {st : Stmt} {f : Addr} {fd : FuncData} {N ps : List Str} {k n : Nat} {g : MS} (Fn : Fun K x qual st f fd) (S : FnScope N ps (defScope st)) (hn : N.length = ps.length + n)
    (hbody : ∀ (cdv : Value) (A : Around) (outer : List Env) (s : Shared) (H : Hp), Room k (A.deeper (envOfC qual (defScope st) s.heap.objs.size f cdv)) → A.guards = some [] → VB (cxOf CX0 P w K mg base N qual (defScope st) f cdv A outer s H E0).nox (defBody st) g) :
    FnG P w K mg base (k + 1) f fd ps (spG K ps.length (fnM n g)) := fn_okA (funA Fn) S hn hbody
theorem ve_call {X : Cx} {k : Nat} {f : Addr} {fd : FuncData} {ps : List Str} {fM : FnM} {x : Str} {p pos : Pos} {e : Expr} {es : List Expr} {os : List Opd} (F : FnG X.prog X.w X.K X.mg X.base k f fd ps (spG X.K ps.length fM)) (hr : Room k X.A) (hgu : X.A.guards = some []) (hg : Gl X x) (hm : X.mg x = some (.ref f)) (hk : PySem.W.keepIn X.K (.ref f) = true) (hb : Binds X.K fd ps [])
    (ha : VA X (e :: es) os) (hnp : os.length = ps.length := by rfl) (hdb : (x == ("__debug__" : Str)) = false := by decide) (he : starEach (e :: es) X.env = (false, eval e X.env) :: starEach es X.env := by rfl) (hpl : (backTo pos (starEach es X.env)).any (·.1) = false := by rfl) :
    VE X (.Call (.Name x p) (e :: es) [] pos) (fCall fM os) := VE.of (pe_callG F hr hgu hg hm hk hb .nil ha hdb he hpl) fun _ _ _ _ q => tE_call hnp q
end VI

/-! The end of a law whose def keeps a FnG promise. -/
namespace VI
open PySem PySem.Spec PyProof.Rows L2

/-- what a law's call has to come to -/
def LawPost (s₁ : Shared) (r : Result) (s' : Shared) : Prop := r = .ok (.ret (.bool true)) ∧ OldK s₁.heap s'.heap ∧ s'.os = s₁.os ∧ AllBare s'.gens
section
variable {P : Program} {w : World} {K : PySem.W.Frag} {mg mb : Str → Option Value} {k : Nat} {fa a : Addr} {fd : FuncData} {x : Str} {sp : SpG} {s₁ : Shared} {vs : List Value} {ns : List Int}
/-- from an abstract heap that tracks the script at most -/
theorem law_core (KX : K.In s₁.heap) (hns : s₁.heap.Ns mainGlobals mg) (hb : s₁.heap.Ns builtinsNs mb) (hbb : ∀ x : Str, x ≠ "__name__" → mb x = bootBuiltins x) (hlim : s₁.heap.NoLimit) (hg : s₁.gens = #[])
    (ha : s₁.heap.get? a = some { cls := .type "list", data := .seq vs.toArray }) (hr : Room k callerA)
    (F : ∀ base : Heap, K.In base → base.Ns mainGlobals mg → FnG P w K mg base k fa fd [x] sp) (hbind : ∀ (s : Shared) (u : Value), BindsTo s fd ⟨[u], []⟩ [(x, u)])
    {H : Hp} (hO : Only H) (hok : HOk P w H s₁.heap) (hA : ∀ b, H b ≠ none → b = a) (hK : H a ≠ none → K.lookup a = none) (hsp : sp [.ref a] H fun v _ => v = .bl true) :
    codeAny (model P w) callerA (.call (.ref fa) ⟨[.ref a], []⟩) (LawPost s₁) s₁ := by
  have only : ∀ {b : Addr} {u : HO}, H b = some u → b = a := fun {b u} q => hA b (by rw [q]; intro z; cases z)
  have dictFree : ∀ {b : Addr} {o : Obj} {es : Array DictEntry} {ep : Nat}, s₁.heap.get? b = some o → o.data = .dict es ep → H b = none := by
    intro b o es ep e d
    cases q : H b with
    | none => rfl
    | some u =>
      rw [only q, ha] at e
      cases e
      exact nomatch (show Data.seq vs.toArray _ = Data.dict es ep from d)
  have ns' : ∀ {b : Addr} {m : Str → Option Value}, s₁.heap.Ns b m → (hidT s₁.heap H).Ns b m := by
    rintro b m ⟨o, es, ep, e, d, r⟩
    exact ⟨o, es, ep, hidT_get e (dictFree e d), d, r⟩
  have kb : K.In (hidT s₁.heap H) := fun b o e => hidT_get (KX b o e) (by
    cases q : H b with
    | none => rfl
    | some u =>
      have z := only q
      rw [z] at e q
      rw [hK (by rw [q]; intro y; cases y)] at e
      cases e)
  obtain ⟨mc, l1, l2⟩ := hlim
  have e0 : Env0 P w K mg (hidT s₁.heap H) callerA [] s₁ H := ⟨rfl, ⟨kb, ns' hns, ⟨mb, ns' hb, hbb⟩, ⟨mc, ns' l1, l2⟩⟩, fun b o e => of_hidT e, Nat.le_of_eq (hidT_size _ _), trivial, fun b z => (nomatch (show b ∈ ([] : List Addr) from z)), hok, .of_eq hg⟩
  refine codeAny_mono ((F _ kb (ns' hns)).run callerA [] s₁ H ⟨[.ref a], []⟩ [.ref a] [.ref a] _ hr rfl e0 (hbind s₁ (.ref a)) (.cons rfl .nil) hsp) fun r s' h => ?_
  cases r with
  | error e => exact h.elim
  | ok fl =>
    cases fl with
    | ret u =>
      obtain ⟨v, H', os, bare, un, hok', r', q⟩ := h
      obtain rfl : v = .bl true := q
      obtain rfl : u = Value.bool true := r'
      refine ⟨rfl, OldK.of_keep fun b o e => ?_, os, bare⟩
      rcases hO b with z | ⟨ob, xs, z⟩
      · exact un.keep b o e z (fun y => nomatch (show b ∈ ([] : List Addr) from y)) (fun y => nomatch y)
      · have e1 := (hok b _ z).1
        rw [e] at e1
        cases e1
        exact (hok' b _ (un.frzs b _ _ z)).1
    | _ => exact h.elim
theorem law_end (KX : K.In s₁.heap) (hns : s₁.heap.Ns mainGlobals mg) (hb : s₁.heap.Ns builtinsNs mb) (hbb : ∀ x : Str, x ≠ "__name__" → mb x = bootBuiltins x) (hlim : s₁.heap.NoLimit) (hg : s₁.gens = #[])
    (ha : s₁.heap.get? a = some { cls := .type "list", data := .seq vs.toArray }) (hi : IntsAre vs ns) (hl : ns.length ≤ sizeLine) (hr : Room k callerA)
    (F : ∀ base : Heap, K.In base → base.Ns mainGlobals mg → FnG P w K mg base k fa fd [x] sp) (hbind : ∀ (s : Shared) (u : Value), BindsTo s fd ⟨[u], []⟩ [(x, u)])
    (hsp : ∀ H : Hp, SqL K H a (ns.map V.int) → sp [.ref a] H fun v _ => v = .bl true) : codeAny (model P w) callerA (.call (.ref fa) ⟨[.ref a], []⟩) (LawPost s₁) s₁ := by
  have rv := vals_ints hi
  have lv := hi.length
  cases hk : K.lookup a with
  | some o =>
    have e := KX a o hk
    rw [ha] at e
    cases e
    exact law_core KX hns hb hbb hlim hg ha hr F hbind (H := fun _ => none) (fun _ => .inl rfl) (fun b u z => nomatch z) (fun b z => absurd rfl z) (fun z => absurd rfl z)
      (hsp _ (.inr ⟨_, vs.toArray, _, hk, rfl, rfl, rfl, by rw [List.size_toArray, lv]; exact hl, by simpa using rv⟩))
  | none =>
    let o : Obj := { cls := .type "list", data := .seq vs.toArray }
    let H : Hp := upd (fun _ => none) a (.frz o (.lst (ns.map V.int)))
    have at_ : ∀ {b : Addr} {u : HO}, H b = some u → b = a ∧ u = .frz o (.lst (ns.map V.int)) := fun {b u} z => by
      by_cases y : b = a
      · subst y
        have z' : some (HO.frz o (.lst (ns.map V.int))) = some u := upd_same.symm.trans z
        cases z'
        exact ⟨rfl, rfl⟩
      · have z' : (none : Option HO) = some u := (upd_ne y).symm.trans z
        cases z'
    refine law_core KX hns hb hbb hlim hg ha hr F hbind (H := H) (fun b => ?_) (fun b u z => ?_) (fun b z => ?_) (fun _ => hk) (hsp H (.inl (.inr ⟨o, upd_same⟩)))
    · cases q : H b with
      | none => exact .inl rfl
      | some u => obtain ⟨_, rfl⟩ := at_ q; exact .inr ⟨_, _, rfl⟩
    · obtain ⟨rfl, rfl⟩ := at_ z
      exact ⟨ha, by rw [List.length_map]; exact hl, vs, _, rv, ha⟩
    · cases q : H b with
      | none => exact absurd q z
      | some u => exact (at_ q).1
end
/-- the goal behind the head, from the law's promise -/
theorem walk_law {l : PySem.W.OpenLaw} {n k : Nat} {q : Program} {loose : List Str} {XP : (Str → Option Value) → Heap → Prop} {YP : World → Heap → Prop} {d : DefRec} {K : Params → PySem.W.Frag} {sp : PySem.W.Frag → SpG} {x : Str}
    (hn : l.most = some n) (hn2 : n ≤ sizeLine) (hdf : d.params.defaults = []) (hr : Room k callerA) (hY : ∀ (w : World) (h : Heap), YP w h → (K w.params).In h)
    (F : ∀ (w : World) (mg : Str → Option Value) (fa : Addr) (h : Heap), (K w.params).In h → h.Ns mainGlobals mg → mg d.name = some (.ref fa) → ∃ fd : FuncData, (∀ (s : Shared) (u : Value), BindsTo s fd ⟨[u], []⟩ [(x, u)]) ∧
        ∀ base : Heap, (K w.params).In base → base.Ns mainGlobals mg → FnG l.prog w (K w.params) mg base k fa fd [x] (sp (K w.params)))
    (hsp : ∀ (K : PySem.W.Frag) (H : Hp) (a : Addr) (ns : List Int), ns.length ≤ n → SqL K H a (ns.map V.int) → sp K [.ref a] H fun v _ => v = .bl true) :
    PySem.W.WalkO q loose XP YP l.row.toRowW d [] (fun f vs => PySem.call f vs) := by
  refine Att.attach_call hn hdf fun w s₀ s₁ mg mb fa o pm cd doc a vs ns G Y ho hd hcd hmg hobj hints hlen hg => ?_
  obtain ⟨fd, hb, hF⟩ := F w mg fa _ (hY w _ Y) G.T.g hmg
  exact law_end (hY w _ Y) G.T.g G.T.b G.T.builtins G.T.nolimit hg hobj hints (Nat.le_trans hlen hn2) hr hF hb fun H hS => hsp _ H a ns hlen hS
end VI

/-! Operations on data: ==, in, repr, sorted; ints, texts, lists, tuples. -/
namespace VI
open PySem PySem.Spec PyProof.Rows L2

/-! ### data as the library's -/
mutual
def D.py : D → PyData
  | .non => .none
  | .bl b => .bool b
  | .int i => .int i
  | .str x => .str x
  | .tup xs => .tuple (pyL xs)
  | .lst xs => .list (pyL xs)
  | .dK _ => .none
  | .dT _ => .none
  | .ins _ _ => .none
  | .ptr _ => .none
  | .seq _ => .none
  | .tupK _ => .none
  | .ty _ => .none
  | .cls _ => .none
def pyL : List D → List PyData
  | [] => []
  | d :: ds => d.py :: pyL ds
end
mutual
def D.pure : D → Bool
  | .non => true
  | .bl _ => true
  | .int _ => true
  | .str _ => true
  | .tup xs => pureL xs
  | .lst xs => pureL xs
  | .dK _ => false
  | .dT _ => false
  | .ins _ _ => false
  | .ptr _ => false
  | .seq _ => false
  | .tupK _ => false
  | .ty _ => false
  | .cls _ => false
def pureL : List D → Bool
  | [] => true
  | d :: ds => d.pure && pureL ds
end
theorem pyL_map : ∀ ds : List D, pyL ds = ds.map D.py
  | [] => by simp [pyL]
  | d :: ds => by simp [pyL, pyL_map ds]
theorem pureL_all : ∀ ds : List D, pureL ds = ds.all D.pure
  | [] => by simp [pureL]
  | d :: ds => by simp [pureL, pureL_all ds]
theorem Rep.dp {K : PySem.W.Frag} {H : Hp} {v : V} {d : D} (h : Rep K H v d) : d.pure = true → Dp K H v d.py :=
  Rep.rec (motive_1 := fun v d _ => d.pure = true → Dp K H v d.py) (motive_2 := fun vs ds _ => pureL ds = true → DpAll K H vs (pyL ds))
    (fun _ => by rw [D.py]; exact .non) (fun b _ => by rw [D.py]; exact .bl b) (fun i _ => by rw [D.py]; exact .int i) (fun x _ => by rw [D.py]; exact .str x)
    (fun h1 _ q hp => by rw [D.py]; rw [D.pure] at hp; exact .tup (SqT.of h1) (q hp)) (fun h1 _ q hp => by rw [D.py]; rw [D.pure] at hp; exact .lst (SqL.of h1) (q hp))
    (fun _ _ _ _ hp => by rw [D.pure] at hp; cases hp) (fun _ _ _ _ hp => by rw [D.pure] at hp; cases hp) (fun _ _ _ _ _ hp => by rw [D.pure] at hp; cases hp) (fun _ hp => by rw [D.pure] at hp; cases hp)
    (fun _ _ _ hp => by rw [D.pure] at hp; cases hp) (fun _ _ _ hp => by rw [D.pure] at hp; cases hp) (fun _ hp => by rw [D.pure] at hp; cases hp) (fun _ hp => by rw [D.pure] at hp; cases hp) (fun _ => by rw [pyL]; exact .nil)
    (fun _ _ q r hp => by rw [pyL]; rw [pureL, Bool.and_eq_true] at hp; exact .cons (q hp.1) (r hp.2)) h
/-- a value as data -/
theorem Vw.dp {K : PySem.W.Frag} {F H : Hp} {v : V} {d : D} (h : Vw K F H v d) (l : Le F H) (hp : d.pure = true) : Dp K H v d.py := (h.rep l).dp hp
/-- plain data that the model compares -/
def D.ok (d : D) : Bool := d.pure && SeqAt.shaped d.py
theorem D.ok.p {d : D} (h : d.ok = true) : d.pure = true := (Bool.and_eq_true_iff.mp h).1
theorem D.ok.s {d : D} (h : d.ok = true) : SeqAt.shaped d.py = true := (Bool.and_eq_true_iff.mp h).2
abbrev fzB (b : Bool) : Option Sl := some ⟨.fz, .bl b⟩
abbrev fzI (i : Int) : Option Sl := some ⟨.fz, .int i⟩
abbrev fzS (x : Str) : Option Sl := some ⟨.fz, .str x⟩
def eqD (a b : D) : Bool := PyData.eqv a.py b.py
def eqOk : D → D → Bool
  | .str _, .str _ => true
  | a, b => a.ok && b.ok
def gEq (a b : D) : Option Sl := if eqOk a b = true then fzB (eqD a b) else none
def gNe (a b : D) : Option Sl := if eqOk a b = true then fzB (!eqD a b) else none
theorem eqOk_cases {a b : D} (h : eqOk a b = true) : (∃ x y, a = .str x ∧ b = .str y) ∨ (a.ok = true ∧ b.ok = true) := by
  unfold eqOk at h
  split at h
  · exact .inl ⟨_, _, rfl, rfl⟩
  · exact .inr (Bool.and_eq_true_iff.mp h)
theorem eqOk_of {a b : D} (h1 : a.ok = true) (h2 : b.ok = true) : eqOk a b = true := by
  unfold eqOk
  split
  · rfl
  · rw [h1, h2]; rfl
theorem eqD_strV (x y : Str) : eqD (.str x) (.str y) = decide (V.str x = V.str y) := by
  simp only [eqD, D.py, PyData.eqv, V.str.injEq]; rfl
theorem op2_eq {K : PySem.W.Frag} : Op2 K (fun x y H Q => rEq x y H Q ∨ rEqD K x y H Q) gEq := fun F H x y d e s Q l v w g k => by
  unfold gEq at g
  split at g
  · rename_i h
    cases g
    rcases eqOk_cases h with ⟨a, b, rfl, rfl⟩ | h
    · obtain rfl := v.str
      obtain rfl := w.str
      exact .inl ⟨rfl, by rw [← eqD_strV]; exact k _ _ _ (New.same l (.bl _))⟩
    · exact .inr ⟨d.py, e.py, v.dp l (D.ok.p h.1), w.dp l (D.ok.p h.2), D.ok.s h.1, D.ok.s h.2, k _ _ _ (New.same l (.bl _))⟩
  · cases g
theorem op2_ne {K : PySem.W.Frag} : Op2 K (fun x y H Q => rNe x y H Q ∨ rNeD K x y H Q) gNe := fun F H x y d e s Q l v w g k => by
  unfold gNe at g
  split at g
  · rename_i h
    cases g
    rcases eqOk_cases h with ⟨a, b, rfl, rfl⟩ | h
    · obtain rfl := v.str
      obtain rfl := w.str
      exact .inl ⟨rfl, by rw [← eqD_strV]; exact k _ _ _ (New.same l (.bl _))⟩
    · exact .inr ⟨d.py, e.py, v.dp l (D.ok.p h.1), w.dp l (D.ok.p h.2), D.ok.s h.1, D.ok.s h.2, k _ _ _ (New.same l (.bl _))⟩
  · cases g
section
variable {X : Cx}
/-- repr of data, where nothing is being shown -/
def rRepr (K : PySem.W.Frag) : List V → Hp → VK → Prop := fun xs H Q => ∃ x d, xs = [x] ∧ Dp K H x d ∧ d.showable = true ∧ d.depth ≤ 64 ∧ d.shown.length ≤ sizeLine ∧ Q (.str d.shown) H
mutual
theorem Dp.noDict {K : PySem.W.Frag} {H : Hp} : ∀ (d : PyData) (v : V), Dp K H v d → d.hasDict = false
  | .none, _, _ => by simp [PyData.hasDict]
  | .bool _, _, _ => by simp [PyData.hasDict]
  | .int _, _, _ => by simp [PyData.hasDict]
  | .str _, _, _ => by simp [PyData.hasDict]
  | .list ds, _, h => by cases h with | lst _ h2 => simpa [PyData.hasDict] using Dp.noDicts ds _ h2
  | .tuple ds, _, h => by cases h with | tup _ h2 => simpa [PyData.hasDict] using Dp.noDicts ds _ h2
  | .dict _, _, h => by cases h
theorem Dp.noDicts {K : PySem.W.Frag} {H : Hp} : ∀ (ds : List PyData) (vs : List V), DpAll K H vs ds → PyData.hasDictAll ds = false
  | [], _, _ => by simp [PyData.hasDictAll]
  | d :: ds, _, h => by cases h with | cons h1 h2 => simp [PyData.hasDictAll, Dp.noDict d _ h1, Dp.noDicts ds _ h2]
end
theorem call_reprD {k : Nat} (hr : Room k X.A) (hg : X.A.guards = some []) : CallR X (.builtin "repr") (rRepr X.K) := by
  intro pins s σ H xs us Q I r h
  obtain ⟨x, d, rfl, hd, hs, hdp, hz, q⟩ := h
  obtain ⟨u, rfl, ru⟩ := vals1 r
  have hnd := Dp.noDict d x hd
  cases hd with
  | non => cases ru; exact PySem.P.repr_of_none (by rw [PyData.shown] at q; exact ⟨.str _, H, I.tok _, ⟨_, rfl⟩, q⟩)
  | bl b => cases ru; exact PySem.P.repr_of_bool (by rw [PyData.shown] at q; exact ⟨.str _, H, I.tok _, ⟨_, rfl⟩, by cases b <;> exact q⟩)
  | int i =>
    obtain ⟨t, rfl⟩ := ru
    rw [PyData.showable] at hs
    exact PySem.P.repr_of_int (of_decide_eq_true hs) (by rw [PyData.shown] at q; exact ⟨.str _, H, I.tok _, ⟨_, rfl⟩, q⟩)
  | str z =>
    obtain ⟨t, rfl⟩ := ru
    rw [PyData.shown] at hz
    exact PySem.P.repr_of_str (by rw [PyData.shown] at q; exact ⟨.str _, H, I.tok _, ⟨_, rfl⟩, q⟩) hz
  | lst h1 h2 =>
    obtain ⟨as, rd⟩ := Dp.reads I _ _ u (.lst h1 h2) ru
    cases ru
    have hu := hr.units
    have := hr.un
    exact repr_of_reads' rd hs (PyData.noDict_hsm hnd) hg (by omega) (fun _ _ e => e) (fun h' u tk hk => ⟨.str _, H, I.kept (t' := tk) hk, ⟨u, rfl⟩, q⟩) hz
  | tup h1 h2 =>
    obtain ⟨as, rd⟩ := Dp.reads I _ _ u (.tup h1 h2) ru
    cases ru
    have := hr.un
    exact repr_of_reads' rd hs (PyData.noDict_hsm hnd) hg (by omega) (fun _ _ e => e) (fun h' u tk hk => ⟨.str _, H, I.kept (t' := tk) hk, ⟨u, rfl⟩, q⟩) hz
def reprOk (d : D) : Bool := d.pure && d.py.showable && decide (d.py.depth ≤ 64) && decide (d.py.shown.length ≤ sizeLine)
def gRepr : List D → Option Sl
  | [d] => if reprOk d = true then fzS d.py.shown else none
  | _ => none
theorem opN_repr {K : PySem.W.Frag} : OpN K (rRepr K) gRepr := fun F H vs ds s Q l v g k => by
  unfold gRepr at g
  split at g
  · rename_i d
    split at g
    · rename_i h
      cases g
      obtain ⟨x, rfl, w⟩ := v.one
      unfold reprOk at h
      simp only [Bool.and_eq_true, decide_eq_true_eq] at h
      exact ⟨x, d.py, rfl, w.dp l h.1.1.1, h.1.1.2, h.1.2, h.2, k _ _ _ (New.same l (.str _))⟩
    · cases g
  · cases g
/-! ### sorted -/
def sortOk (ds : List D) : Bool := ds.all (fun d => d.pure && decide (d.py.depth ≤ 64)) && ds.all (fun d => ds.all fun e => PySem.W.alike d.py e.py) && decide (ds.length ≤ sizeLine) &&
  (ds.all (fun d => match d with | .tup (_ :: _) => true | _ => false) || ds.all fun d => match d with | .tup _ => false | .non => false | _ => true)
def sortL (ds : List D) : List D := ds.mergeSort (PySem.W.dataLe false D.py)
def gSorted : List D → Option Sl
  | [.lst ds] => if sortOk ds = true then some ⟨.own, .lst (sortL ds)⟩ else none
  | _ => none
def rSortedD (K : PySem.W.Frag) : List V → Hp → VK → Prop := fun xs H Q => ∃ (a : Addr) (vs : List V) (ds : List D) (F : Hp), xs = [.ref a] ∧ Le F H ∧ SqL K H a vs ∧ RepL K F vs ds ∧ sortOk ds = true ∧
  ∀ ws p, H p = none → RepL K F ws (sortL ds) → Q (.ref p) (upd H p (.lst ws))
theorem each_of {K : PySem.W.Frag} {F : Hp} {ds : List D} {xs : List V} {us : List Value} (h : RepL K F xs ds) (r : Vals xs us) : PySem.W.EachIs (fun u d => ∃ x, RelV x u ∧ Rep K F x d) us ds := by
  induction ds generalizing xs us with
  | nil => cases h; cases r; exact .nil
  | cons d ds ih =>
    cases h with
    | cons h1 h2 => cases r with | cons r1 r2 => exact .cons ⟨_, r1, h1⟩ (ih h2 r2)
theorem each_back {K : PySem.W.Frag} {F : Hp} {ds : List D} {us : List Value} (h : PySem.W.EachIs (fun u d => ∃ x, RelV x u ∧ Rep K F x d) us ds) : ∃ xs, Vals xs us ∧ RepL K F xs ds := by
  induction ds generalizing us with
  | nil => cases h; exact ⟨[], .nil, .nil⟩
  | cons d ds ih =>
    cases h with
    | cons h1 h2 =>
      obtain ⟨x, r, q⟩ := h1
      obtain ⟨xs, rs, qs⟩ := ih h2
      exact ⟨x :: xs, .cons r rs, .cons q qs⟩
theorem call_sortedD {k : Nat} (hr : Room k X.A) : CallR X (.builtin "sorted") (rSortedD X.K) := by
  intro pins s σ H xs us Q I r h
  obtain ⟨a, vs, ds, F, rfl, l, hs, rp, ok, q⟩ := h
  obtain ⟨its, rv, hl, _⟩ := I.list hs
  rw [Vals.ref1 r]
  unfold sortOk at ok
  simp only [Bool.and_eq_true, List.all_eq_true, decide_eq_true_eq, Bool.or_eq_true] at ok
  obtain ⟨⟨⟨h1, h2⟩, h3⟩, h4⟩ := ok
  have each := each_of rp rv
  have er : PySem.W.EachIs (fun u d => ∃ as, Reads s.heap u d.py as) its ds := (PySem.W.each_mem each).mono fun u d ⟨⟨x, rx, hx⟩, hm⟩ => Dp.reads I _ _ u ((hx.mono l).dp (h1 d hm).1) rx
  have hun := hr.un
  have hsort : PySem.W.Sortable (ds.map D.py) := by
    rcases h4 with h4 | h4
    · refine .inl fun d hd => ?_
      obtain ⟨b, hb, rfl⟩ := List.mem_map.mp hd
      have z := h4 b hb
      split at z
      · rename_i x r; exact ⟨x.py, pyL r, by simp [D.py, pyL]⟩
      · cases z
    · refine .inr fun d hd => ?_
      obtain ⟨b, hb, rfl⟩ := List.mem_map.mp hd
      have z := h4 b hb
      have zp := (h1 b hb).1
      cases b <;> first | (simp at z; done) | (simp [D.py]; done) | (simp [D.pure] at zp; done)
  refine PySem.W.sorted_data (enc := D.py) hl.isList each er (fun d hd d' hd' => ?_) hsort h3 (fun b hb => ?_) fun out ho he => ?_
  · obtain ⟨b, hb, rfl⟩ := List.mem_map.mp hd
    obtain ⟨b', hb', rfl⟩ := List.mem_map.mp hd'
    exact h2 b hb b' hb'
  · have := (h1 b hb).2
    omega
  · obtain ⟨ws, rw', rp'⟩ := each_back he
    obtain ⟨ep, he'⟩ := PyProof.Rows.sortedAll_at s.heap its out.toArray
    have hlen : ws.length ≤ sizeLine := by rw [rw'.length, ho]; exact h3
    exact ⟨.ref _, upd H (s.heap.objs.size + 1) (.lst ws), I.laid (t' := s.toks) (fun _ _ => PyProof.Rows.sortedAll_old) (Nat.le_succ _) ⟨hlen, out, ep, rw', by simpa using he'⟩, rfl, q ws _ (I.hok.fresh (Nat.le_succ _)) rp'⟩
theorem opN_sorted {K : PySem.W.Frag} : OpN K (rSortedD K) gSorted := fun F H vs ds s Q l v g k => by
  unfold gSorted at g
  split at g
  · rename_i es
    split at g
    · rename_i h
      cases g
      obtain ⟨x, rfl, w⟩ := v.one
      obtain ⟨a, ws, rfl, h1, h2⟩ := w.lst l
      exact ⟨a, ws, es, F, rfl, l, SqL.of h1, h2, h, fun ws p hp rp => k _ _ _ (New.lst l hp rp)⟩
    · cases g
  · cases g
/-! ### in, not in -/
def rInL (K : PySem.W.Frag) (neg : Bool) : R2 := if neg then rNotInD K else rInD K
def inL (x : D) (ys : List D) : Bool := ys.any fun z => eqD z x
def gIn : D → D → Option Sl
  | x, .lst ys => if x.ok = true ∧ (D.lst ys).ok = true then fzB (inL x ys) else none
  | _, _ => none
def gNotIn : D → D → Option Sl
  | x, .lst ys => if x.ok = true ∧ (D.lst ys).ok = true then fzB (!inL x ys) else none
  | _, _ => none
theorem any_pyL (x : D) (ys : List D) : ((pyL ys).any fun z => PyData.eqv z x.py) = inL x ys := by
  rw [pyL_map, List.any_map]; rfl
theorem op2_in {K : PySem.W.Frag} : Op2 K (rInD K) gIn := fun F H x y d e s Q l v w g k => by
  unfold gIn at g
  split at g
  · rename_i ys
    split at g
    · rename_i h
      cases g
      have q := w.dp l (D.ok.p h.2)
      have z := D.ok.s h.2
      rw [D.py] at q z
      exact ⟨d.py, pyL ys, v.dp l (D.ok.p h.1), q, D.ok.s h.1, z, by rw [any_pyL]; exact k _ _ _ (New.same l (.bl _))⟩
    · cases g
  · cases g
theorem op2_notIn {K : PySem.W.Frag} : Op2 K (rNotInD K) gNotIn := fun F H x y d e s Q l v w g k => by
  unfold gNotIn at g
  split at g
  · rename_i ys
    split at g
    · rename_i h
      cases g
      have q := w.dp l (D.ok.p h.2)
      have z := D.ok.s h.2
      rw [D.py] at q z
      exact ⟨d.py, pyL ys, v.dp l (D.ok.p h.1), q, D.ok.s h.1, z, by rw [any_pyL]; exact k _ _ _ (New.same l (.bl _))⟩
    · cases g
  · cases g
end
end VI

namespace VI
open PySem PySem.Spec PyProof.Rows L2

/-! ### ints -/
section
variable {K : PySem.W.Frag}
theorem op2_i0 {f : Int → Int → V} {g : D → D → Option Sl} (hg : ∀ d e s, g d e = some s → ∃ i j x, d = .int i ∧ e = .int j ∧ s = ⟨.fz, x⟩ ∧ ∀ F, Rep K F (f i j) x) : Op2 K (rI0 f) g := fun F H x y d e s Q l v w h k => by
  obtain ⟨i, j, z, rfl, rfl, rfl, rp⟩ := hg d e s h
  exact ⟨i, j, v.int, w.int, k _ _ _ (New.same l (rp F))⟩
theorem op2_i {C : Int → Int → Prop} {f : Int → Int → V} {g : D → D → Option Sl} (hg : ∀ d e s, g d e = some s → ∃ i j x, d = .int i ∧ e = .int j ∧ C i j ∧ s = ⟨.fz, x⟩ ∧ ∀ F, Rep K F (f i j) x) : Op2 K (rI C f) g := fun F H x y d e s Q l v w h k => by
  obtain ⟨i, j, z, rfl, rfl, c, rfl, rp⟩ := hg d e s h
  exact ⟨i, j, v.int, w.int, c, k _ _ _ (New.same l (rp F))⟩
def gI2 (f : Int → Int → D) : D → D → Option Sl
  | .int i, .int j => some ⟨.fz, f i j⟩
  | _, _ => none
theorem gI2_inv {f : Int → Int → D} {d e : D} {s : Sl} (h : gI2 f d e = some s) : ∃ i j, d = .int i ∧ e = .int j ∧ s = ⟨.fz, f i j⟩ := by
  unfold gI2 at h
  split at h
  · cases h; exact ⟨_, _, rfl, rfl, rfl⟩
  · cases h
theorem op2_int {f : Int → Int → Int} : Op2 K (rI0 fun i j => .int (f i j)) (gI2 fun i j => .int (f i j)) := op2_i0 fun d e s h => by
  obtain ⟨i, j, rfl, rfl, rfl⟩ := gI2_inv h
  exact ⟨i, j, _, rfl, rfl, rfl, fun F => .int _⟩
theorem op2_cmp {f : Int → Int → Bool} : Op2 K (rI0 fun i j => .bl (f i j)) (gI2 fun i j => .bl (f i j)) := op2_i0 fun d e s h => by
  obtain ⟨i, j, rfl, rfl, rfl⟩ := gI2_inv h
  exact ⟨i, j, _, rfl, rfl, rfl, fun F => .bl _⟩
def gI2c (C : Int → Int → Prop) [∀ i j, Decidable (C i j)] (f : Int → Int → Int) : D → D → Option Sl
  | .int i, .int j => if C i j then fzI (f i j) else none
  | _, _ => none
theorem op2_intc {C : Int → Int → Prop} [∀ i j, Decidable (C i j)] {f : Int → Int → Int} : Op2 K (rI C fun i j => .int (f i j)) (gI2c C f) := op2_i fun d e s h => by
  unfold gI2c at h
  split at h
  · split at h
    · rename_i c; cases h; exact ⟨_, _, _, rfl, rfl, c, rfl, fun F => .int _⟩
    · cases h
  · cases h
instance (i j : Int) : Decidable (CMul i j) := by unfold CMul; exact inferInstance
instance (i j : Int) : Decidable (CDivN i j) := by unfold CDivN; exact inferInstance
instance (i j : Int) : Decidable (CPow i j) := by unfold CPow; exact inferInstance
/-- either of two operations -/
def orG (g h : D → D → Option Sl) : D → D → Option Sl := fun d e => match g d e with
  | some s => some s
  | none => h d e
theorem Op2.or {r r' : R2} {g h : D → D → Option Sl} (a : Op2 K r g) (b : Op2 K r' h) : Op2 K (fun x y H Q => r x y H Q ∨ r' x y H Q) (orG g h) := fun F H x y d e s Q l v w q k => by
  unfold orG at q
  split at q
  · rename_i s' hs; cases q; exact .inl (a F H x y d e s Q l v w hs k)
  · exact .inr (b F H x y d e s Q l v w q k)
def orN (g h : List D → Option Sl) : List D → Option Sl := fun ds => match g ds with
  | some s => some s
  | none => h ds
theorem OpN.or {r r' : List V → Hp → VK → Prop} {g h : List D → Option Sl} (a : OpN K r g) (b : OpN K r' h) : OpN K (fun xs H Q => r xs H Q ∨ r' xs H Q) (orN g h) := fun F H vs ds s Q l v q k => by
  unfold orN at q
  split at q
  · rename_i s' hs; cases q; exact .inl (a F H vs ds s Q l v hs k)
  · exact .inr (b F H vs ds s Q l v q k)
/-! ### texts, lists, tuples: + -/
def gAddS : D → D → Option Sl
  | .str x, .str y => if x.length + y.length ≤ sizeLine then fzS (x ++ y) else none
  | _, _ => none
theorem op2_addS : Op2 K (fun x y H Q => ∃ i j, x = .str i ∧ y = .str j ∧ i.length + j.length ≤ sizeLine ∧ Q (.str (i ++ j)) H) gAddS := fun F H x y d e s Q l v w q k => by
  unfold gAddS at q
  split at q
  · split at q
    · rename_i h; cases q; exact ⟨_, _, v.str, w.str, h, k _ _ _ (New.same l (.str _))⟩
    · cases q
  · cases q
def gAddL : D → D → Option Sl
  | .lst x, .lst y => if x.length + y.length ≤ sizeLine then some ⟨.own, .lst (x ++ y)⟩ else none
  | _, _ => none
theorem op2_addL : Op2 K rCat gAddL := fun F H x y d e s Q l v w q k => by
  unfold gAddL at q
  split at q
  · split at q
    · rename_i h
      cases q
      obtain ⟨a, vs, rfl, h1, h2⟩ := v.lst l
      obtain ⟨b, ws, rfl, h3, h4⟩ := w.lst l
      exact ⟨a, b, vs, ws, rfl, rfl, h1, h3, by rw [h2.length, h4.length]; exact h, fun p hp => k _ _ _ (New.lst l hp (h2.append h4))⟩
    · cases q
  · cases q
def gAddT : D → D → Option Sl
  | .tup x, .tup y => if x ≠ [] ∧ x.length + y.length ≤ sizeLine then some ⟨.fz, .tup (x ++ y)⟩ else none
  | _, _ => none
def gMulL : D → D → Option Sl
  | .lst x, .int n => if -(2 ^ 63) ≤ n ∧ n < 2 ^ 63 ∧ x.length * n.toNat ≤ sizeLine then some ⟨.own, .lst (List.replicate n.toNat x).flatten⟩ else none
  | _, _ => none
theorem RepL.rep {F : Hp} {vs : List V} {ds : List D} (h : RepL K F vs ds) : ∀ n, RepL K F (List.replicate n vs).flatten (List.replicate n ds).flatten
  | 0 => .nil
  | n + 1 => by rw [List.replicate_succ, List.replicate_succ, List.flatten_cons, List.flatten_cons]; exact h.append (RepL.rep h n)
theorem op2_mulL : Op2 K rRep gMulL := fun F H x y d e s Q l v w q k => by
  unfold gMulL at q
  split at q
  · split at q
    · rename_i h
      cases q
      obtain ⟨a, vs, rfl, h1, h2⟩ := v.lst l
      exact ⟨a, _, vs, rfl, w.int, h1, h.1, h.2.1, by rw [h2.length]; exact h.2.2, fun p hp => k _ _ _ (New.lst l hp (h2.rep _))⟩
    · cases q
  · cases q
/-! ### subscripts -/
def gIxL : D → D → Option Sl
  | .lst x, .int i => match atI x i with
    | some d => some ⟨.fz, d⟩
    | none => none
  | _, _ => none
def gIxT : D → D → Option Sl
  | .tup x, .int i => match atI x i with
    | some d => some ⟨.fz, d⟩
    | none => none
  | _, _ => none
theorem RepL.atI {F : Hp} {vs : List V} {ds : List D} (h : RepL K F vs ds) {i : Int} {d : D} (e : atI ds i = some d) : ∃ v, L2.atI vs i = some v ∧ Rep K F v d := by
  unfold L2.atI at e ⊢
  rw [h.length]
  cases q : ixN ds.length i with
  | none => rw [q] at e; cases e
  | some j =>
    rw [q] at e
    exact h.getD e
theorem op2_ixL : Op2 K (rIxL K) gIxL := fun F H x y d e s Q l v w q k => by
  unfold gIxL at q
  split at q
  · split at q
    · rename_i z hz
      cases q
      obtain ⟨a, vs, rfl, h1, h2⟩ := v.lst l
      obtain ⟨u, hu, r⟩ := h2.atI hz
      exact ⟨a, vs, _, u, rfl, w.int, SqL.of h1, hu, k _ _ _ (New.same l r)⟩
    · cases q
  · cases q
theorem op2_ixT : Op2 K (rIxT K) gIxT := fun F H x y d e s Q l v w q k => by
  unfold gIxT at q
  split at q
  · split at q
    · rename_i z hz
      cases q
      obtain ⟨a, vs, rfl, h1, h2, _⟩ := v.tup l
      obtain ⟨u, hu, r⟩ := h2.atI hz
      exact ⟨a, vs, _, u, rfl, w.int, SqT.of h1, hu, k _ _ _ (New.same l r)⟩
    · cases q
  · cases q
def gIxS : D → D → Option Sl
  | .str x, .int i => if x.length ≤ sizeLine then match atI x.cps.toList i with
      | some c => fzS ⟨#[c]⟩
      | none => none
    else none
  | _, _ => none
theorem op2_ixS : Op2 K rIxS gIxS := fun F H x y d e s Q l v w q k => by
  unfold gIxS at q
  split at q
  · split at q
    · rename_i h
      split at q
      · rename_i c hc
        cases q
        exact ⟨_, _, c, v.str, w.int, h, hc, k _ _ _ (New.same l (.str _))⟩
      · cases q
    · cases q
  · cases q
def gIx : D → D → Option Sl := orG gIxL (orG gIxT gIxS)
theorem op2_ix : Op2 K (rIx K) gIx := op2_ixL.or (op2_ixT.or op2_ixS)
/-! ### calls -/
def gLen : List D → Option Sl
  | [.lst x] => fzI x.length
  | [.tup x] => fzI x.length
  | _ => none
theorem opN_len : OpN K (fun xs H Q => ∃ p ys, xs = [.ref p] ∧ (SqL K H p ys ∨ SqT K H p ys) ∧ Q (.int ys.length) H) gLen := fun F H vs ds s Q l v q k => by
  unfold gLen at q
  split at q
  · cases q
    obtain ⟨x, rfl, w⟩ := v.one
    obtain ⟨a, ws, rfl, h1, h2⟩ := w.lst l
    exact ⟨a, ws, rfl, .inl (SqL.of h1), by rw [h2.length]; exact k _ _ _ (New.same l (.int _))⟩
  · cases q
    obtain ⟨x, rfl, w⟩ := v.one
    obtain ⟨a, ws, rfl, h1, h2, _⟩ := w.tup l
    exact ⟨a, ws, rfl, .inr (SqT.of h1), by rw [h2.length]; exact k _ _ _ (New.same l (.int _))⟩
  · cases q
def gLenS : List D → Option Sl
  | [.str x] => if x.length ≤ sizeLine then fzI x.length else none
  | _ => none
theorem opN_lenS : OpN K (fun xs H Q => ∃ z, xs = [.str z] ∧ z.length ≤ sizeLine ∧ Q (.int z.length) H) gLenS := fun F H vs ds s Q l v q k => by
  unfold gLenS at q
  split at q
  · split at q
    · rename_i h
      cases q
      obtain ⟨x, rfl, w⟩ := v.one
      exact ⟨_, by rw [w.str], h, k _ _ _ (New.same l (.int _))⟩
    · cases q
  · cases q
def gAbs : List D → Option Sl
  | [.int i] => fzI (if i < 0 then -i else i)
  | _ => none
theorem opN_abs : OpN K (fun xs H Q => ∃ i, xs = [.int i] ∧ Q (.int (if i < 0 then -i else i)) H) gAbs := fun F H vs ds s Q l v q k => by
  unfold gAbs at q
  split at q
  · cases q
    obtain ⟨x, rfl, w⟩ := v.one
    exact ⟨_, by rw [w.int], k _ _ _ (New.same l (.int _))⟩
  · cases q
def gInt : List D → Option Sl
  | [.int i] => fzI i
  | [.bl b] => fzI (if b then 1 else 0)
  | _ => none
theorem opN_int : OpN K (fun xs H Q => (∃ i, xs = [.int i] ∧ Q (.int i) H) ∨ ∃ k, xs = [.bl k] ∧ Q (.int (if k then 1 else 0)) H) gInt := fun F H vs ds s Q l v q k => by
  unfold gInt at q
  split at q
  · cases q
    obtain ⟨x, rfl, w⟩ := v.one
    exact .inl ⟨_, by rw [w.int], k _ _ _ (New.same l (.int _))⟩
  · cases q
    obtain ⟨x, rfl, w⟩ := v.one
    exact .inr ⟨_, by rw [w.bl], k _ _ _ (New.same l (.int _))⟩
  · cases q
def gList : List D → Option Sl
  | [.lst x] => some ⟨.own, .lst x⟩
  | [.tup x] => some ⟨.own, .lst x⟩
  | _ => none
theorem opN_list : OpN K (fun xs H Q => ∃ p ys, xs = [.ref p] ∧ (SqL K H p ys ∨ SqT K H p ys) ∧ ∀ l, H l = none → Q (.ref l) (upd H l (.lst ys))) gList := fun F H vs ds s Q l v q k => by
  unfold gList at q
  split at q
  · cases q
    obtain ⟨x, rfl, w⟩ := v.one
    obtain ⟨a, ws, rfl, h1, h2⟩ := w.lst l
    exact ⟨a, ws, rfl, .inl (SqL.of h1), fun p hp => k _ _ _ (New.lst l hp h2)⟩
  · cases q
    obtain ⟨x, rfl, w⟩ := v.one
    obtain ⟨a, ws, rfl, h1, h2, _⟩ := w.tup l
    exact ⟨a, ws, rfl, .inr (SqT.of h1), fun p hp => k _ _ _ (New.lst l hp h2)⟩
  · cases q
/-- list(text) -/
def signsD (x : Str) : List D := x.cps.toList.map fun c => .str ⟨#[c]⟩
def gListS : List D → Option Sl
  | [.str x] => if x.cps.size ≤ sizeLine then some ⟨.own, .lst (signsD x)⟩ else none
  | _ => none
theorem RepL.signs {F : Hp} : ∀ cs : List Nat, RepL K F (cs.map fun c => V.str ⟨#[c]⟩) (cs.map fun c => D.str ⟨#[c]⟩)
  | [] => .nil
  | c :: cs => .cons (.str _) (RepL.signs cs)
def rListS : List V → Hp → VK → Prop := fun xs H Q => ∃ z : Str, xs = [.str z] ∧ z.cps.size ≤ sizeLine ∧ ∀ p, H p = none → Q (.ref p) (upd H p (.lst (z.cps.toList.map fun c => .str ⟨#[c]⟩)))
theorem opN_listS : OpN K rListS gListS := fun F H vs ds s Q l v q k => by
  unfold gListS at q
  split at q
  · split at q
    · rename_i h
      cases q
      obtain ⟨x, rfl, w⟩ := v.one
      exact ⟨_, by rw [w.str], h, fun p hp => k _ _ _ (New.lst l hp (RepL.signs _))⟩
    · cases q
  · cases q
end
theorem call_list_text {X : Cx} (hc : X.calm = true) : CallR X (.type "list") rListS := by
  intro pins s σ H xs us Q I r h
  obtain ⟨z, rfl, hz, q⟩ := h
  obtain ⟨u, rfl, ru⟩ := vals1 r
  obtain ⟨t, rfl⟩ := ru
  refine call_list_str (I.ok.hd hc) z t (hn := hz) fun h' tk acc c hk hS ha => ?_
  refine ⟨.ref s.heap.objs.size, upd H s.heap.objs.size (.lst (z.cps.toList.map fun c => .str ⟨#[c]⟩)), I.laid (t' := tk) hk (Nat.le_refl _) ⟨by rw [List.length_map]; simpa using hz, acc.toList, c, ?_, by simpa using hS⟩, rfl, q _ I.fresh⟩
  refine vals_of_at (by simp [ha.1]) fun j x w h1 h2 => ?_
  obtain ⟨c', u', hc', rfl⟩ := ha.2 j w (by simpa using h2)
  rw [List.getElem?_map] at h1
  have e : z.cps.toList[j]? = some c' := by simpa using hc'
  rw [e] at h1
  cases h1
  exact ⟨u', rfl⟩
end VI

namespace VI
open PySem PySem.Spec PyProof.Rows L2

/-! ### slices -/
abbrev MP := Option ME
def evalP : MP → Rho → Option (Option Int × Rho)
  | none, ρ => some (none, ρ)
  | some f, ρ => match f ρ with
    | some (⟨.fz, .int i⟩, ρ1) => some (some i, ρ1)
    | _ => none
def tP (K : PySem.W.Frag) (p : MP) : TO := fun σ H Q => ∃ F ρ o ρ', Rel K F ρ σ H ∧ evalP p ρ = some (o, ρ') ∧ ∀ F' H', Rel K F' ρ' σ H' → StpE F ρ σ H F' ρ' H' → Q o H'
abbrev VP (X : Cx) (e : Option Expr) (p : MP) : Prop := PO X e (tP X.K p)
theorem PO.of {X : Cx} {e : Option Expr} {t t' : TO} (h : PO X e t) (q : ∀ σ H Q, t' σ H Q → t σ H Q) : PO X e t' := ⟨fun pins s σ H Q I w => h.run pins s σ H Q I (q σ H Q w)⟩
theorem vp_none {X : Cx} : VP X none none := PO.of po_none fun σ H Q ⟨F, ρ, o, ρ', R, e, post⟩ => by cases e; exact post F H R .refl
theorem vp_some {X : Cx} {e : Expr} {f : ME} (h : VE X e f) : VP X (some e) (some f) := PO.of (po_some h) fun σ H Q ⟨F, ρ, o, ρ', R, e, post⟩ => by
  unfold evalP at e
  simp only at e
  split at e
  · rename_i i ρ1 hf
    cases e
    refine ⟨F, ρ, _, _, R, hf, fun v F1 H1 R1 S1 res => ?_⟩
    have q : Rep X.K F1 v (.int i) := res
    cases q
    exact ⟨i, rfl, post F1 H1 R1 S1⟩
  · cases e
def cutD (xs : List D) (lo hi : Option Int) : List D := (xs.drop (HT.sIx xs.length 0 lo)).take (HT.sIx xs.length xs.length hi - HT.sIx xs.length 0 lo)
theorem RepL.cut {K : PySem.W.Frag} {F : Hp} {vs : List V} {ds : List D} (h : RepL K F vs ds) (lo hi : Option Int) : RepL K F (cutV vs lo hi) (cutD ds lo hi) := by
  unfold cutV cutD; rw [h.length]; exact (h.drop _).take _
def Op3 (K : PySem.W.Frag) (r : V → Option Int → Option Int → Hp → VK → Prop) (g : D → Option Int → Option Int → Option Sl) : Prop := ∀ (F H : Hp) (x : V) (d : D) (lo hi : Option Int) (s : Sl) (Q : VK), Le F H → Vw K F H x d → g d lo hi = some s → (∀ v F' H', New K F H F' H' v s → Q v H') → r x lo hi H Q
def fSl (g : D → Option Int → Option Int → Option Sl) (a : Opd) (lo hi : MP) : ME := fun ρ => do
  let (pk, ρ1) ← evalO a ρ
  let (l, ρ2) ← evalP lo ρ1
  let (h, ρ3) ← evalP hi ρ2
  let d ← look pk ρ3
  let r ← g d l h
  pure (r, ρ3)
theorem tE_sl {K : PySem.W.Frag} {r : V → Option Int → Option Int → Hp → VK → Prop} {g : D → Option Int → Option Int → Option Sl} {a : Opd} {lo hi : MP} {σ : L2.St} {H : Hp} {Q : VK} (hg : Op3 K r g) (h : tE K (fSl g a lo hi) σ H Q) : tSl r (tO K a) (tP K lo) (tP K hi) σ H Q := by
  obtain ⟨F, ρ, s, ρ', R, e, post⟩ := h
  obtain ⟨⟨pk, ρ1⟩, e1, e⟩ := bind_some e
  obtain ⟨⟨l, ρ2⟩, e2, e⟩ := bind_some e
  obtain ⟨⟨u, ρ3⟩, e3, e⟩ := bind_some e
  obtain ⟨d, e4, e⟩ := bind_some e
  obtain ⟨s', e5, e⟩ := bind_some e
  cases e
  refine ⟨F, ρ, pk, ρ1, R, e1, fun x F1 H1 R1 S1 P1 => ⟨F1, ρ1, l, ρ2, R1, e2, fun F2 H2 R2 S2 => ⟨F2, ρ2, u, _, R2, e3, fun F3 H3 R3 S3 => ?_⟩⟩⟩
  refine hg F3 H3 x d l u s _ R3.le ((P1.mono (S2.stp.le.trans S3.stp.le)).vw R3 e4) e5 fun v F4 H4 N => ?_
  obtain ⟨R4, S4, q⟩ := after_ops R3 ((S1.trans S2).trans S3) N
  exact post v F4 H4 R4 S4 q
theorem ve_slice {X : Cx} {r : V → Option Int → Option Int → Hp → VK → Prop} {g : D → Option Int → Option Int → Option Sl} {e : Expr} {lo hi : Option Expr} {a : Opd} {l h : MP} {p2 pos : Pos} (hr : SlR X r) (hg : Op3 X.K r g) (he : VO X e a) (hl : VP X lo l) (hh : VP X hi h) : VE X (.Subscript e (.Slice lo hi none p2) pos) (fSl g a l h) :=
  VE.of (pe_slice hr he hl hh) fun _ _ _ _ q => tE_sl hg q
def gSlL : D → Option Int → Option Int → Option Sl
  | .lst xs, lo, hi => some ⟨.own, .lst (cutD xs lo hi)⟩
  | .seq xs, lo, hi => some ⟨.own, .lst (cutD xs lo hi)⟩
  | _, _, _ => none
theorem op3_slL {K : PySem.W.Frag} : Op3 K (rSlL K) gSlL := fun F H x d lo hi s Q l v g k => by
  unfold gSlL at g
  split at g
  · cases g
    obtain ⟨a, vs, rfl, h1, h2⟩ := v.lst l
    exact ⟨a, vs, rfl, SqL.of h1, fun p hp => k _ _ _ (New.lst l hp (h2.cut lo hi))⟩
  · cases g
    obtain ⟨a, vs, rfl, h1, h2⟩ := v.seq l
    exact ⟨a, vs, rfl, h1, fun p hp => k _ _ _ (New.lst l hp (h2.cut lo hi))⟩
  · cases g

/-! ### dicts -/
section
variable {κ : Type} [DecidableEq κ]
def valD (es : List (κ × D)) (k : κ) : Option D := (es.find? fun e => decide (e.1 = k)).map (·.2)
def putD (es : List (κ × D)) (k : κ) (d : D) : List (κ × D) :=
  if (es.any fun e => decide (e.1 = k)) = true then es.map (fun e => if e.1 = k then (e.1, d) else e) else es ++ [(k, d)]
variable {K : PySem.W.Frag} {F : Hp}
theorem kv_val : ∀ {kvs : List (κ × V)} {es : List (κ × D)} {k : κ}, kvs.map Prod.fst = es.map Prod.fst → RepL K F (kvs.map Prod.snd) (es.map Prod.snd) →
    (∀ d, valD es k = some d → ∃ v, valV kvs k = some v ∧ Rep K F v d) ∧ (valD es k = none → valV kvs k = none)
  | [], [], k, _, _ => ⟨fun d h => by simp [valD] at h, fun _ => rfl⟩
  | (k1, v1) :: kvs, (k2, d2) :: es, k, h1, h2 => by
    simp only [List.map_cons, List.cons.injEq] at h1
    obtain ⟨rfl, h1⟩ := h1
    cases h2 with
    | cons r t =>
      by_cases e : k1 = k
      · subst e
        refine ⟨fun d h => ?_, fun h => ?_⟩
        · have : d2 = d := by simpa [valD] using h
          subst this
          exact ⟨v1, by simp [valV], r⟩
        · simp [valD] at h
      · have q := kv_val (k := k) h1 t
        refine ⟨fun d h => ?_, fun h => ?_⟩
        · obtain ⟨v, hv, rv⟩ := q.1 d (by simpa [valD, e] using h)
          exact ⟨v, by simpa [valV, e] using hv, rv⟩
        · have := q.2 (by simpa [valD, e] using h)
          simpa [valV, e] using this
  | [], _ :: _, _, h, _ => by cases h
  | _ :: _, [], _, h, _ => by cases h
theorem any_keys {kvs : List (κ × V)} {es : List (κ × D)} {k : κ} (h : kvs.map Prod.fst = es.map Prod.fst) : (kvs.any fun kv => decide (kv.1 = k)) = (es.any fun e => decide (e.1 = k)) := by
  have e1 : (kvs.any fun kv => decide (kv.1 = k)) = ((kvs.map Prod.fst).any fun x => decide (x = k)) := by rw [List.any_map]; rfl
  have e2 : (es.any fun e => decide (e.1 = k)) = ((es.map Prod.fst).any fun x => decide (x = k)) := by rw [List.any_map]; rfl
  rw [e1, e2, h]
theorem kv_map {k : κ} {v : V} {d : D} (r : Rep K F v d) : ∀ {kvs : List (κ × V)} {es : List (κ × D)}, kvs.map Prod.fst = es.map Prod.fst → RepL K F (kvs.map Prod.snd) (es.map Prod.snd) →
    (kvs.map fun kv => if kv.1 = k then (kv.1, v) else kv).map Prod.fst = (es.map fun e => if e.1 = k then (e.1, d) else e).map Prod.fst ∧ RepL K F ((kvs.map fun kv => if kv.1 = k then (kv.1, v) else kv).map Prod.snd) ((es.map fun e => if e.1 = k then (e.1, d) else e).map Prod.snd)
  | [], [], _, _ => ⟨rfl, .nil⟩
  | (k1, v1) :: kvs, (k2, d2) :: es, h1, h2 => by
    simp only [List.map_cons, List.cons.injEq] at h1
    obtain ⟨rfl, h1⟩ := h1
    cases h2 with
    | cons r1 t =>
      obtain ⟨q1, q2⟩ := kv_map r h1 t
      by_cases e : k1 = k
      · simp only [List.map_cons, e, if_true]
        exact ⟨by rw [q1], .cons r q2⟩
      · simp only [List.map_cons, if_neg e]
        exact ⟨by rw [q1], .cons r1 q2⟩
  | [], _ :: _, h, _ => by cases h
  | _ :: _, [], h, _ => by cases h
theorem kv_put {kvs : List (κ × V)} {es : List (κ × D)} {k : κ} {v : V} {d : D} (h1 : kvs.map Prod.fst = es.map Prod.fst) (h2 : RepL K F (kvs.map Prod.snd) (es.map Prod.snd)) (r : Rep K F v d) :
    (putK kvs k v).map Prod.fst = (putD es k d).map Prod.fst ∧ RepL K F ((putK kvs k v).map Prod.snd) ((putD es k d).map Prod.snd) := by
  unfold putK putD
  rw [any_keys h1]
  split
  · exact kv_map r h1 h2
  · rw [List.map_append, List.map_append, List.map_append, List.map_append, h1]
    exact ⟨rfl, h2.append (.one r)⟩
end
/-- a key of a dict -/
def keyOf : D → Option Key
  | .int i => some (.inl i)
  | .str x => some (.inr x)
  | _ => none
def keysOf : List D → Option (List Key)
  | [] => some []
  | d :: ds => do
    let k ← keyOf d
    let ks ← keysOf ds
    pure (k :: ks)
theorem keyOf_v {K : PySem.W.Frag} {F : Hp} {v : V} {d : D} {k : Key} (h : Rep K F v d) (e : keyOf d = some k) : v = kV k := by
  cases h <;> first | (cases e; rfl) | cases e
theorem keysOf_v {K : PySem.W.Frag} {F : Hp} : ∀ {vs : List V} {ds : List D} {ks : List Key}, RepL K F vs ds → keysOf ds = some ks → vs = ks.map kV
  | _, _, _, .nil, e => by cases e; rfl
  | _, _, _, .cons h t, e => by
    obtain ⟨k, e1, e⟩ := bind_some e
    obtain ⟨ks, e2, e⟩ := bind_some e
    cases e
    rw [keyOf_v h e1, keysOf_v t e2]; rfl
/-- what a dict tells of a key -/
def getD : D → D → Option (Option D)
  | .dK es, k => match keyOf k with
    | some k => some (valD es k)
    | none => none
  | .dT es, .tup ks => match keysOf ks with
    | some k => some (valD es k)
    | none => none
  | _, _ => none
theorem dget_of {K : PySem.W.Frag} {F H : Hp} {x y : V} {d k : D} {o : Option D} (l : Le F H) (v : Vw K F H x d) (w : Vw K F H y k) (e : getD d k = some o) :
    ∃ a r, x = .ref a ∧ DGet H a y r ∧ (∀ z, o = some z → ∃ u, r = some u ∧ Rep K F u z) ∧ (o = none → r = none) := by
  unfold getD at e
  split at e
  · rename_i es
    split at e
    · rename_i kk hk
      cases e
      obtain ⟨a, kvs, rfl, h1, h2, h3⟩ := v.dK l
      have ek : y = kV kk := by
        rcases w with w | ⟨p, rfl, _, w⟩
        · exact keyOf_v w hk
        · cases k <;> first | exact w.elim | cases hk
      subst ek
      obtain ⟨q1, q2⟩ := kv_val (k := kk) h2 h3
      exact ⟨a, _, rfl, .inl ⟨kvs, kk, h1, rfl, rfl⟩, q1, q2⟩
    · cases e
  · rename_i es ks
    split at e
    · rename_i kk hk
      cases e
      obtain ⟨a, kvs, rfl, h1, h2, h3⟩ := v.dT l
      obtain ⟨b, vs, rfl, g1, g2, _⟩ := w.tup l
      have ek := keysOf_v g2 hk
      subst ek
      obtain ⟨q1, q2⟩ := kv_val (k := kk) h2 h3
      exact ⟨a, _, rfl, .inr ⟨kvs, kk, b, h1, rfl, g1, rfl⟩, q1, q2⟩
    · cases e
  · cases e
def gDIx (d k : D) : Option Sl := match getD d k with
  | some (some z) => some ⟨.fz, z⟩
  | _ => none
def rDIx : R2 := fun x y H Q => ∃ a v, x = .ref a ∧ DGet H a y (some v) ∧ Q v H
theorem op2_dix {K : PySem.W.Frag} : Op2 K rDIx gDIx := fun F H x y d e s Q l v w q k => by
  unfold gDIx at q
  split at q
  · rename_i z hz
    cases q
    obtain ⟨a, r, rfl, h1, h2, _⟩ := dget_of l v w hz
    obtain ⟨u, rfl, ru⟩ := h2 z rfl
    exact ⟨a, u, rfl, h1, k _ _ _ (New.same l ru)⟩
  · cases q
/-- an expression by either of two rules, by what its operands are -/
theorem ve_or2 {X : Cx} {e : Expr} {g h : D → D → Option Sl} {a b : Opd} (h1 : VE X e (fOp2 g a b)) (h2 : VE X e (fOp2 h a b)) : VE X e (fOp2 (orG g h) a b) := ⟨fun pins s σ H Q I w => by
  obtain ⟨F, ρ, r, ρ', R, e, post⟩ := w
  obtain ⟨⟨pa, ρ1⟩, e1, e⟩ := bind_some e
  obtain ⟨⟨pb, ρ2⟩, e2, e⟩ := bind_some e
  obtain ⟨d, e3, e⟩ := bind_some e
  obtain ⟨d', e4, e⟩ := bind_some e
  obtain ⟨r', e5, e⟩ := bind_some e
  cases e
  unfold orG at e5
  split at e5
  · rename_i s' hs
    cases e5
    exact h1.run pins s σ H Q I ⟨F, ρ, r, ρ', R, by simp [fOp2, e1, e2, e3, e4, hs], post⟩
  · exact h2.run pins s σ H Q I ⟨F, ρ, r, ρ', R, by simp [fOp2, e1, e2, e3, e4, e5], post⟩⟩
def gSubD : D → D → Option Sl := orG gIx gDIx
theorem ve_sub {X : Cx} {a b : Expr} {oa ob : Opd} {pos : Pos} (hu : X.A.units + 1 < cLine) (ha : VO X a oa) (hb : VO X b ob) (hs : PlainIx b) : VE X (.Subscript a b pos) (fOp2 gSubD oa ob) :=
  ve_or2 (ve_ix ix_seq op2_ix ha hb hs) (VE.of (pe_dget hu ha hb hs) fun _ _ _ _ q => tE_op2 op2_dix q)
/-- list(d) -/
def gListD : List D → Option Sl
  | [.dK es] => some ⟨.own, .lst (es.map fun e => match e.1 with | .inl i => .int i | .inr x => .str x)⟩
  | _ => none
theorem RepL.keys {K : PySem.W.Frag} {F : Hp} : ∀ ks : List Key, RepL K F (ks.map kV) (ks.map fun k => match k with | .inl i => .int i | .inr x => .str x)
  | [] => .nil
  | .inl i :: ks => .cons (.int i) (RepL.keys ks)
  | .inr x :: ks => .cons (.str x) (RepL.keys ks)
def rListK : List V → Hp → VK → Prop := fun xs H Q => ∃ (a : Addr) (kvs : List (Key × V)), xs = [.ref a] ∧ Rd H a (.dK kvs) ∧ ∀ p, H p = none → Q (.ref p) (upd H p (.lst (kvs.map fun kv => kV kv.1)))
theorem opN_listD {K : PySem.W.Frag} : OpN K rListK gListD := fun F H vs ds s Q l v q k => by
  unfold gListD at q
  split at q
  · rename_i es
    cases q
    obtain ⟨x, rfl, w⟩ := v.one
    obtain ⟨a, kvs, rfl, h1, h2, h3⟩ := w.dK l
    refine ⟨a, kvs, rfl, h1, fun p hp => k _ _ _ (New.lst l hp ?_)⟩
    have e1 : (kvs.map fun kv => kV kv.1) = (kvs.map Prod.fst).map kV := by rw [List.map_map]; rfl
    have e2 : (es.map fun e => (match e.1 with | .inl i => D.int i | .inr x => .str x : D)) = (es.map Prod.fst).map fun k => match k with | .inl i => .int i | .inr x => .str x := by rw [List.map_map]; rfl
    rw [e1, e2, h2]
    exact RepL.keys _
  · cases q
/-- dict([(k, v), ..]) -/
def pairsOf : List D → Option (List (Key × D))
  | [] => some []
  | .tup [k, v] :: ds => do
    let kk ← keyOf k
    let es ← pairsOf ds
    pure ((kk, v) :: es)
  | _ => none
def mergeD (es more : List (Key × D)) : List (Key × D) := more.foldl (fun acc e => putD acc e.1 e.2) es
def gDictP : List D → Option Sl
  | [.lst ds] => match pairsOf ds with
    | some es => some ⟨.own, .dK (mergeD [] es)⟩
    | none => none
  | _ => none
theorem kv_merge {K : PySem.W.Frag} {F : Hp} : ∀ {more : List (Key × V)} {moreD : List (Key × D)} {kvs : List (Key × V)} {es : List (Key × D)}, more.map Prod.fst = moreD.map Prod.fst → RepL K F (more.map Prod.snd) (moreD.map Prod.snd) → kvs.map Prod.fst = es.map Prod.fst → RepL K F (kvs.map Prod.snd) (es.map Prod.snd) →
    (mergeK kvs more).map Prod.fst = (mergeD es moreD).map Prod.fst ∧ RepL K F ((mergeK kvs more).map Prod.snd) ((mergeD es moreD).map Prod.snd)
  | [], [], kvs, es, _, _, h3, h4 => ⟨h3, h4⟩
  | (k1, v1) :: more, (k2, d2) :: moreD, kvs, es, h1, h2, h3, h4 => by
    simp only [List.map_cons, List.cons.injEq] at h1
    obtain ⟨rfl, h1⟩ := h1
    cases h2 with
    | cons r t =>
      obtain ⟨q1, q2⟩ := kv_put (k := k1) h3 h4 r
      exact kv_merge (more := more) (moreD := moreD) h1 t q1 q2
  | [], _ :: _, _, _, h, _, _, _ => by cases h
  | _ :: _, [], _, _, h, _, _, _ => by cases h
theorem pairs_rep {K : PySem.W.Frag} {F H : Hp} (l : Le F H) : ∀ {vs : List V} {ds : List D} {es : List (Key × D)}, RepL K F vs ds → pairsOf ds = some es →
    ∃ (ps : List Addr) (kvs : List (Key × V)), vs = ps.map V.ref ∧ Paired (fun p (kv : Key × V) => SqT K H p [kV kv.1, kv.2]) ps kvs ∧ kvs.map Prod.fst = es.map Prod.fst ∧ RepL K F (kvs.map Prod.snd) (es.map Prod.snd)
  | _, _, _, .nil, e => by cases e; exact ⟨[], [], rfl, .nil, rfl, .nil⟩
  | _, _, _, .cons h t, e => by
    cases h with
    | @tup a ws es' h1 h2 =>
      cases h2 with
      | nil => cases e
      | cons r1 t1 =>
        cases t1 with
        | nil => cases e
        | cons r2 t2 =>
          cases t2 with
          | cons _ _ => cases e
          | nil =>
            obtain ⟨kk, e1, e⟩ := bind_some e
            obtain ⟨es2, e2, e⟩ := bind_some e
            cases e
            obtain ⟨ps, kvs, rfl, q1, q2, q3⟩ := pairs_rep l t e2
            have ek := keyOf_v r1 e1
            subst ek
            exact ⟨a :: ps, (kk, _) :: kvs, rfl, .cons (SqT.of (l _ _ h1)) q1, by rw [List.map_cons, List.map_cons, q2], .cons r2 q3⟩
    | _ => cases e
def rDictP (K : PySem.W.Frag) : List V → Hp → VK → Prop := fun xs H Q => ∃ (a : Addr) (ps : List Addr) (kvs : List (Key × V)), xs = [.ref a] ∧ SqL K H a (ps.map V.ref) ∧ Paired (fun p kv => SqT K H p [kV kv.1, kv.2]) ps kvs ∧
    ∀ p, H p = none → Q (.ref p) (upd H p (.dK (mergeK [] kvs)))
theorem opN_dictP {K : PySem.W.Frag} : OpN K (rDictP K) gDictP := fun F H vs ds s Q l v q k => by
  unfold gDictP at q
  split at q
  · rename_i xs
    split at q
    · rename_i es he
      cases q
      obtain ⟨x, rfl, w⟩ := v.one
      obtain ⟨a, ws, rfl, h1, h2⟩ := w.lst l
      obtain ⟨ps, kvs, rfl, q1, q2, q3⟩ := pairs_rep l h2 he
      obtain ⟨m1, m2⟩ := kv_merge (kvs := []) (es := []) q2 q3 rfl .nil
      exact ⟨a, ps, kvs, rfl, SqL.of h1, q1, fun p hp => k _ _ _ (New.own l hp ⟨_, upd_same, m1, m2⟩)⟩
    · cases q
  · cases q
end VI

namespace VI
open PySem PySem.Spec PyProof.Rows L2

/-! ### methods of texts -/
def strsOf : List D → Option (List Str)
  | [] => some []
  | .str x :: ds => do
    let xs ← strsOf ds
    pure (x :: xs)
  | _ => none
theorem strsOf_v {K : PySem.W.Frag} {F : Hp} : ∀ {vs : List V} {ds : List D} {xs : List Str}, RepL K F vs ds → strsOf ds = some xs → vs = xs.map V.str
  | _, _, _, .nil, e => by cases e; rfl
  | _, _, _, .cons h t, e => by
    cases h with
    | str x =>
      obtain ⟨xs, e2, e⟩ := bind_some e
      cases e
      rw [strsOf_v t e2]; rfl
    | _ => cases e
def isS : D → Bool
  | .str _ => true
  | _ => false
/-- o.m(e) of a text -/
def fM1 (g : D → D → Option Sl) (a b : Opd) : ME := fun ρ => do
  let (pa, ρ1) ← evalO a ρ
  let d0 ← look pa ρ1
  if isS d0 = true then do
    let (pb, ρ2) ← evalO b ρ1
    let d ← look pa ρ2
    let e ← look pb ρ2
    let r ← g d e
    pure (r, ρ2)
  else none
theorem tE_m1 {K : PySem.W.Frag} {r : V → List V → Hp → VK → Prop} {g : D → D → Option Sl} {a b : Opd} {σ : L2.St} {H : Hp} {Q : VK} (hg : Op2 K (fun x y H Q => r x [y] H Q) g) (h : tE K (fM1 g a b) σ H Q) : tM1 r (tO K a) (tO K b) σ H Q := by
  obtain ⟨F, ρ, s, ρ', R, e, post⟩ := h
  obtain ⟨⟨pa, ρ1⟩, e1, e⟩ := bind_some e
  obtain ⟨d0, e0, e⟩ := bind_some e
  split at e
  · rename_i hs
    obtain ⟨⟨pb, ρ2⟩, e2, e⟩ := bind_some e
    obtain ⟨d, e3, e⟩ := bind_some e
    obtain ⟨d', e4, e⟩ := bind_some e
    obtain ⟨s', e5, e⟩ := bind_some e
    cases e
    refine ⟨F, ρ, pa, ρ1, R, e1, fun x F1 H1 R1 S1 P1 => ⟨?_, F1, ρ1, pb, _, R1, e2, fun y F2 H2 R2 S2 P2 => ?_⟩⟩
    · cases d0 with
      | str z => exact ⟨z, (P1.vw R1 e0).str⟩
      | _ => cases hs
    · refine hg F2 H2 x y d d' s _ R2.le ((P1.mono S2.stp.le).vw R2 e3) (P2.vw R2 e4) e5 fun v F3 H3 N => ?_
      obtain ⟨R3, S3, q⟩ := after_ops R2 (S1.trans S2) N
      exact post v F3 H3 R3 S3 q
  · cases e
def gJoin : D → D → Option Sl
  | .str a, .lst ds => match strsOf ds with
    | some ys => if (ys.map (·.length)).sum + ys.length * a.length ≤ 16777216 then fzS (Txt.join a ys) else none
    | none => none
  | _, _ => none
theorem op2_join {K : PySem.W.Frag} : Op2 K (fun x y H Q => ∃ a p, ∃ ys : List Str, x = .str a ∧ [y] = [.ref p] ∧ (SqL K H p (ys.map V.str) ∨ SqT K H p (ys.map V.str)) ∧
      (ys.map (·.length)).sum + ys.length * a.length ≤ 16777216 ∧ Q (.str (Txt.join a ys)) H) gJoin := fun F H x y d e s Q l v w q k => by
  unfold gJoin at q
  split at q
  · split at q
    · rename_i ys hy
      split at q
      · rename_i hz
        cases q
        obtain ⟨p, ws, rfl, h1, h2⟩ := w.lst l
        rw [strsOf_v h2 hy] at h1
        exact ⟨_, p, ys, v.str, rfl, .inl (SqL.of h1), hz, k _ _ _ (New.same l (.str _))⟩
      · cases q
    · cases q
  · cases q
theorem ve_join {X : Cx} {o e : Expr} {a b : Opd} {apos pos : Pos} (ho : VO X o a) (he : VO X e b) (hs : starEach [e] X.env = [(false, eval e X.env)] := by rfl) (hbase : attributeBase o "join" X.env (eval o X.env) = eval o X.env := by rfl) (hline : (apos.endLine == pos.line) = true := by rfl) :
    VE X (.Call (.Attribute o "join" apos) [e] [] pos) (fM1 gJoin a b) := VE.of (pe_join ho he hs hbase hline) fun _ _ _ _ q => tE_m1 op2_join q

/-! ### extend -/
def gExtend : D → List D → Option (D × D)
  | .lst xs, [.lst ys] => if xs.length + ys.length ≤ sizeLine then some (.lst (xs ++ ys), .non) else none
  | _, _ => none
theorem mu_extend {K : PySem.W.Frag} : MuOk K rExtend gExtend := fun F H p d ds vs d' x Q l fp oa rp e k => by
  unfold gExtend at e
  split at e
  · rename_i xs ys
    split at e
    · rename_i hz
      cases e
      obtain ⟨ws, h1, h2⟩ := oa
      cases rp with
      | cons r t =>
        cases t
        cases r with
        | @lst b zs _ h3 h4 => exact ⟨p, b, ws, zs, rfl, rfl, h1, l _ _ h3, by rw [h2.length, h4.length]; exact hz, k _ _ ⟨_, upd_same, h2.append h4⟩ .non⟩
    · cases e
  · cases e

/-! ### o[i] = e, the object a slot of one's own -/
def fSet (i : Nat) (g : D → D → D → Option D) (fk fv : ME) : MS := fun ρ => do
  let (rv, ρ1) ← fv ρ
  let (rk, ρ2) ← (match ρ1[i]? with
    | some (some _) => fk ρ1
    | _ => none)
  match ρ2[i]? with
  | some (some ⟨m, d⟩) => if m.wr = true then (g d rk.d rv.d).map fun d' => (.nx, ρ2.set i (some ⟨m, d'⟩)) else none
  | _ => none
def SetOk (K : PySem.W.Frag) (t : TSet) (g : D → D → D → Option D) : Prop := ∀ (F H : Hp) (p : Addr) (d k x d' : D) (kv xv : V) (Q : Hp → Prop), Le F H → F p = none → OwnAt K F H p d → Rep K F kv k → Rep K F xv x → g d k x = some d' →
  (∀ o, OwnAt K F (upd H p o) p d' → Q (upd H p o)) → t (.ref p) kv xv H Q
theorem tS_set {K : PySem.W.Frag} {i : Nat} {g : D → D → D → Option D} {t : TSet} {fk fv : ME} {D : Ends} {σ : L2.St} {H : Hp} (hg : SetOk K t g) (h : tS K (fSet i g fk fv) D σ H) : tAsg (tE K fv) (gSub (tVar i) (tE K fk) t) D σ H := by
  obtain ⟨F, ρ, fl, ρ', R, e, post⟩ := h
  obtain ⟨⟨rv, ρ1⟩, e1, e⟩ := bind_some e
  obtain ⟨⟨rk, ρ2⟩, e2, e⟩ := bind_some e
  dsimp only at e e2
  split at e2
  · rename_i s0 h0
    split at e
    · rename_i m d hd
      split at e
      · rename_i hm
        obtain ⟨d', e3, e⟩ := Option.map_eq_some_iff.mp e
        cases e
        refine ⟨F, ρ, rv, ρ1, R, e1, fun xv F1 H1 R1 S1 res => ?_⟩
        obtain ⟨F1', R1', S1', rx⟩ := res.frozen R R1 S1
        obtain ⟨v, hv, _⟩ := R1'.at_ i s0 h0
        refine ⟨v, hv, F1', ρ1, rk, ρ2, R1', e2, fun kv F2 H2 R2 S2 res2 => ?_⟩
        obtain ⟨F2', R2', S2', rk'⟩ := res2.frozen R1' R2 S2
        obtain ⟨w, hw, ok⟩ := R2'.at_ i _ hd
        rw [hv] at hw; cases hw
        have nm : m ≠ .fz := by rcases wr_own hm with rfl | rfl <;> (intro z; cases z)
        obtain ⟨p, rfl, fp, oa⟩ := ok.nfz nm
        refine hg F2' H2 p d rk.d rv.d d' kv xv _ R2'.le fp oa rk' (rx.mono S2'.stp.le) e3 fun o oa' => ?_
        obtain ⟨R3, S3⟩ := R2'.write hd hm hv fp oa'
        exact post F2' σ _ R3 (((S1'.trans S2').trans S3).stp)
      · cases e
    · cases e
  · cases e2
theorem vs_set {X : Cx} {i : Nat} {g : D → D → D → Option D} {t : TSet} {x : Str} {p ps pos : Pos} {k e : Expr} {fk fv : ME} (hg : SetOk X.K t g) (hs : PSet X t) (he : VE X e fv) (ho : PE X (.Name x p) (tVar i)) (hk : VE X k fk)
    (ha : ∀ v, assign (.Subscript (.Name x p) k ps) X.env v = (do
      let ov ← holding [v] (eval (.Name x p) X.env)
      let iv ← holding [v, ov] (eval k X.env)
      standAt ps
      holding [v, ov, iv] (setItem ov iv v)
      release [v, ov, iv] []) := by intro _; rfl)
    (h1 : swapsWithSole [.Subscript (.Name x p) k ps] e pos.line X.env = pure false := by rfl) (h2 : swappedStores [.Subscript (.Name x p) k ps] e X.env = pure none := by rfl)
    (h3 : (assignEach [.Subscript (.Name x p) k ps] X.env).map (·.2) = [assign (.Subscript (.Name x p) k ps) X.env] := by rfl) :
    VS X (.Assign [.Subscript (.Name x p) k ps] e pos) (fSet i g fk fv) := PS.of (ps_asg he (pg_sub ho hk hs ha) h1 h2 h3) fun _ _ _ _ q => tS_set hg q
def gSetL : D → D → D → Option D
  | .lst xs, .int k, x => match ixN xs.length k with
    | some j => some (.lst (xs.set j x))
    | none => none
  | _, _, _ => none
theorem set_l {K : PySem.W.Frag} : SetOk K rSetL gSetL := fun F H p d k x d' kv xv Q l fp oa rk rx e q => by
  unfold gSetL at e
  split at e
  · split at e
    · rename_i j hj
      cases e
      obtain ⟨vs, h1, h2⟩ := oa
      cases rk
      exact ⟨p, vs, _, j, rfl, rfl, h1, by rw [h2.length]; exact hj, q _ ⟨_, upd_same, h2.set rx j⟩⟩
    · cases e
  · cases e
/-- o[i] op= e of a list of one's own -/
def fAug (i : Nat) (g : D → D → Option Sl) (fk fv : ME) : MS := fun ρ => do
  let (rk, ρ1) ← (match ρ[i]? with
    | some (some _) => fk ρ
    | _ => none)
  let old ← (match ρ1[i]? with
    | some (some s) => (gIxL s.d rk.d)
    | _ => none)
  let (rv, ρ2) ← fv ρ1
  let new ← g old.d rv.d
  match ρ2[i]? with
  | some (some ⟨m, d⟩) => if m.wr = true ∧ new.m = .fz then (gSetL d rk.d new.d).map fun d' => (.nx, ρ2.set i (some ⟨m, d'⟩)) else none
  | _ => none
def tGetL : V → V → Hp → VK → Prop := fun o k H Q => ∃ p xs i v, o = .ref p ∧ k = .int i ∧ 0 ≤ i ∧ H p = some (.lst xs) ∧ atI xs i = some v ∧ Q v H
theorem get_l {X : Cx} : PGet X tGetL := by
  intro pins s σ H o k ov iv Q I r1 r2 h
  obtain ⟨p, xs, i, z, rfl, rfl, h0, hH, he, q⟩ := h
  cases r1
  obtain ⟨t, rfl⟩ := r2
  obtain ⟨its, rv, pl, hz⟩ := I.list (SqL.of (K := X.K) hH)
  obtain ⟨j, h1, h2, h3, h4, h5⟩ := atI_get he
  obtain ⟨w, ew, rw'⟩ := rv.get h2
  have hn := line63
  have hj : i.toNat = j := by
    rw [seqIndex_of h0 h5] at h1
    exact Option.some.inj h1
  exact wpAny_getItem_list pl.isList h0 (by omega) (by rw [hj]; simpa using ew) ⟨z, H, I, rw', q⟩
def isNat : D → Bool
  | .int i => decide (0 ≤ i)
  | _ => false
/-- .. with a written place -/
def fAugC (i : Nat) (k : Int) (g : D → D → Option Sl) (fv : ME) : MS := fAug i g (fC (.int k)) fv
theorem tS_aug {K : PySem.W.Frag} {i : Nat} {k : Int} {g : D → D → Option Sl} {tip : TIp} {fv : ME} {D : Ends} {σ : L2.St} {H : Hp} (hk : 0 ≤ k) (hg : Op2 K tip g) (h : tS K (fAugC i k g fv) D σ H) : tAugS (tVar i) (tC (.int k)) (tE K fv) tGetL tip rSetL D σ H := by
  obtain ⟨F, ρ, fl, ρ', R, e, post⟩ := h
  obtain ⟨⟨rk, ρ1⟩, e1, f1⟩ := bind_some e
  clear e
  obtain ⟨old, e2, f2⟩ := bind_some f1
  clear f1
  obtain ⟨⟨rv, ρ2⟩, e3, f3⟩ := bind_some f2
  clear f2
  obtain ⟨new, e4, e⟩ := bind_some f3
  clear f3
  try dsimp only at e
  try dsimp only at e1
  try dsimp only at e2
  split at e1
  · rename_i s0 h0
    cases e1
    split at e2
    · rename_i s1 h1
      rw [h0] at h1; cases h1
      split at e
      · rename_i m d hd
        split at e
        · rename_i hm
          obtain ⟨d', e5, e⟩ := Option.map_eq_some_iff.mp e
          cases e
          obtain ⟨v, hv, ok⟩ := R.at_ i s0 h0
          refine ⟨v, hv, ?_⟩
          unfold gIxL at e2
          split at e2
          · rename_i xs j hx hj
            cases hj
            split at e2
            · rename_i z hz
              cases e2
              have vw := ok.vw
              rw [hx] at vw
              obtain ⟨a, vs, rfl, q1, q2⟩ := vw.lst R.le
              obtain ⟨u, hu, ru⟩ := q2.atI hz
              refine ⟨a, vs, k, u, rfl, rfl, hk, q1, hu, F, ρ, rv, ρ2, R, e3, fun w F1 H1 R1 S1 res => ?_⟩
              obtain ⟨F2, R2, S2, rw'⟩ := res.frozen R R1 S1
              refine hg F2 H1 u w z rv.d new _ R2.le (.inl (ru.mono S2.stp.le)) (.inl rw') e4 fun y F3 H3 N => ?_
              obtain ⟨R3, S3, q⟩ := after_ops R2 S2 N
              have ry : Rep K F3 y new.d := by
                rcases q.own_or with ⟨_, q⟩ | ⟨q, _⟩
                · exact q
                · rw [hm.2] at q; cases q
              obtain ⟨w', hw, ok'⟩ := R3.at_ i _ hd
              rw [hv] at hw; cases hw
              have nm : m ≠ .fz := by rcases wr_own hm.1 with rfl | rfl <;> (intro z; cases z)
              obtain ⟨p, ep, fp, oa⟩ := ok'.nfz nm
              cases ep
              refine set_l F3 H3 a d (.int k) new.d d' (.int k) y _ R3.le fp oa (.int k) ry e5 fun o oa' => ?_
              obtain ⟨R4, S4⟩ := R3.write hd hm.1 hv fp oa'
              exact post F3 σ _ R4 (S3.trans S4).stp
            · cases e2
          · cases e2
        · cases e
      · cases e
    · cases e2
  · cases e1
theorem op2_ipAdd {K : PySem.W.Frag} : Op2 K (ipI fun i j => i + j) (gI2 fun i j => .int (i + j)) := fun F H x y d e s Q l v w h k => by
  obtain ⟨i, j, rfl, rfl, rfl⟩ := gI2_inv h
  exact ⟨i, j, v.int, w.int, k _ _ _ (New.same l (.int _))⟩
theorem vs_aug {X : Cx} {i : Nat} {k : Int} {x : Str} {p tpos pos cpos : Pos} {kk : Nat} {e : Expr} {fv : ME} (hk : 0 ≤ k) (ho : PE X (.Name x p) (tVar i)) (he : VE X e fv)
    (ha : ∀ ov iv new, augStore (.Constant (.int k) kk cpos) ov iv new = (do holding [new, ov, iv] (setItem ov iv new); release [new, ov, iv] []; pure .next) := by intros; rfl) :
    VS X (.AugAssign (.Subscript (.Name x p) (.Constant (.int k) kk cpos) tpos) .Add e pos) (fAugC i k (gI2 fun i j => .int (i + j)) fv) :=
  PS.of (ps_augS ho pe_int get_l he ip_add set_list ha) fun _ _ _ _ q => tS_aug hk op2_ipAdd q

/-! ### a, b = x, y of plain local names -/
def fPar (i j : Nat) (f g : ME) : MS := fun ρ => do
  let (r, ρ1) ← f ρ
  let (s, ρ2) ← g ρ1
  if free ρ2 i = true ∧ free ρ2 j = true then pure (.nx, (ρ2.set i (some r)).set j (some s)) else none
/-- two values, the first one's own kept over the second -/
def tZ2 (K : PySem.W.Frag) (f g : ME) : TA := fun σ H Q => ∃ F ρ r ρ1 s ρ2, Rel K F ρ σ H ∧ f ρ = some (r, ρ1) ∧ g ρ1 = some (s, ρ2) ∧ ∀ v w F1 H1 F2 H2, Rel K F1 ρ1 σ H1 → StpE F ρ σ H F1 ρ1 H1 → Res K F1 H H1 v r → Rel K F2 ρ2 σ H2 → StpE F1 ρ1 σ H1 F2 ρ2 H2 → Res K F2 H1 H2 w s → Q [v, w] H2
theorem va_two {X : Cx} {a b : Expr} {f g : ME} (ha : VE X a f) (hb : VE X b g) (h1 : starEach [a, b] X.env = (false, eval a X.env) :: starEach [b] X.env := by rfl) (h2 : starEach [b] X.env = (false, eval b X.env) :: starEach [] X.env := by rfl) : PA X [a, b] (tZ2 X.K f g) :=
  PA.of (pa_cons ha (pa_cons hb pa_nil h2) h1) fun σ H Q ⟨F, ρ, r, ρ1, s, ρ2, R, e1, e2, post⟩ =>
    ⟨F, ρ, r, ρ1, R, e1, fun v F1 H1 R1 S1 res1 => ⟨F1, ρ1, s, ρ2, R1, e2, fun w F2 H2 R2 S2 res2 => post v w F1 H1 F2 H2 R1 S1 res1 R2 S2 res2⟩⟩
/-- the first value, over the second's evaluation -/
theorem Res.over {K : PySem.W.Frag} {F F1 F2 H H1 H2 : Hp} {ρ ρ1 ρ2 : Rho} {σ : L2.St} {v : V} {r : Sl} (R : Rel K F ρ σ H) (S1 : StpE F ρ σ H F1 ρ1 H1) (S2 : StpE F1 ρ1 σ H1 F2 ρ2 H2) (h : Res K F1 H H1 v r) : Res K F2 H H2 v r := by
  rcases h.own_or with ⟨m, q⟩ | ⟨m, p, rfl, hp, fp, q⟩
  · unfold Res; rw [m]; exact q.mono S2.stp.le
  · unfold Res; rw [m]
    obtain ⟨o, ho⟩ := q.has
    have np : NotP ρ1 σ p := fresh_ne R S1 hp
    obtain ⟨_, h2, f2⟩ := S2.stp.prot np ho fp (fun vs e => q.noTup (ho.trans (by rw [e])))
    exact ⟨p, rfl, hp, f2, q.mono S2.stp.le (h2.trans ho.symm)⟩
theorem tS_par {K : PySem.W.Frag} {i j : Nat} {f g : ME} {D : Ends} {σ : L2.St} {H : Hp} (hij : i ≠ j) (h : tS K (fPar i j f g) D σ H) : tPar i j (tZ2 K f g) D σ H := by
  obtain ⟨F, ρ, fl, ρ', R, e, post⟩ := h
  obtain ⟨⟨r, ρ1⟩, e1, e⟩ := bind_some e
  obtain ⟨⟨s, ρ2⟩, e2, e⟩ := bind_some e
  dsimp only at e
  split at e
  · rename_i hf
    cases e
    refine ⟨F, ρ, r, ρ1, s, ρ2, R, e1, e2, fun v w F1 H1 F2 H2 R1 S1 res1 R2 S2 res2 => ⟨v, w, rfl, ?_⟩⟩
    have S12 := S1.trans S2
    have resv := res1.over R S1 S2
    obtain ⟨R3, S3⟩ := Stp.put R R2 S12 resv hf.1
    -- the second, stored behind the first
    have nfix : ¬ s.m.fixed := by rcases res2.own_or with ⟨m, _⟩ | ⟨m, _⟩ <;> (rw [m]; exact id)
    have hj2 : j < ρ2.length := free_lt hf.2
    have hjs : j < σ.length := by rw [← R2.len]; exact hj2
    have frj : ∀ (m : Md) (d : VI.D), m.fixed → (ρ2.set i (some r))[j]? ≠ some (some ⟨m, d⟩) := fun m d hm z => by
      rw [List.getElem?_set_ne hij] at z
      exact free_not hf.2 hm z
    refine post F2 _ H2 (R3.put (by rw [List.length_set]; exact hj2) ?_ ?_) ⟨S3.le, S3.keep, S3.there, S3.newF, fun a h => ?_, fun k m d hm z => ?_, fun k m d hm z => ?_⟩
    · rcases res2.own_or with ⟨m, q⟩ | ⟨m, p, rfl, hp, fp, q⟩
      · exact .mk_fz m q
      · exact .mk_n (by rw [m]; intro z; cases z) fp q
    · intro nm p ep k t hk hm z
      rcases res2.own_or with ⟨m, q⟩ | ⟨m, p', rfl, hp, fp, q⟩
      · exact nm m
      · cases ep
        rcases getElem?_set' hk with ⟨rfl, zz⟩ | ⟨nk, hk⟩
        · cases zz
          have his : k < σ.length := by rw [← R2.len]; exact free_lt hf.1
          rw [List.getElem?_set_self his] at z
          cases z
          rcases res1.own_or with ⟨m1, _⟩ | ⟨m1, p1, e3, hp1, fp1, q1⟩
          · exact hm m1
          · cases e3
            obtain ⟨o, ho⟩ := q1.has
            rw [hp] at ho; cases ho
        · rw [List.getElem?_set_ne (Ne.symm nk)] at z
          exact fresh_ne R1 S2 hp k t hk hm z
    · obtain ⟨k, t, h1, h2, h3⟩ := h
      rcases getElem?_set' h1 with ⟨rfl, zz⟩ | ⟨nk, h1⟩
      · cases zz
        rw [List.getElem?_set_self (by rw [List.length_set]; exact hjs)] at h3
        rcases res2.own_or with ⟨m, q⟩ | ⟨m, p', rfl, hp, fp, q⟩
        · rw [m] at h2; cases h2
        · cases h3; exact .inr (none_back S1.stp hp)
      · rw [List.getElem?_set_ne (Ne.symm nk)] at h3
        exact S3.ownO a ⟨k, t, h1, h2, h3⟩
    · obtain ⟨⟨d', e'⟩, es⟩ := S3.fwd k m d hm z
      have nk : k ≠ j := fun zz => by subst zz; exact frj m d' hm e'
      rw [List.getElem?_set_ne (Ne.symm nk), List.getElem?_set_ne (Ne.symm nk)]
      exact ⟨⟨d', e'⟩, es⟩
    · rcases getElem?_set' z with ⟨_, zz⟩ | ⟨_, zz⟩
      · cases zz; exact absurd hm nfix
      · exact S3.bwd k m d hm zz
  · cases e
theorem vs_par {X : Cx} {i j : Nat} {x y : Str} {a b : Expr} {f g : ME} {px py pt pos : Pos} {kt k2 pt2} (hc : X.calm = true) (hN : X.N.Nodup) (hi : X.N[i]? = some x) (hj : X.N[j]? = some y) (hij : i ≠ j)
    (hx : X.env.scope.names.lookup x = some .local) (hy : X.env.scope.names.lookup y = some .local) (ha : VE X a f) (hb : VE X b g)
    (hw : swappedStores [.Tuple [.Name x px, .Name y py] kt pt] (.Tuple [a, b] k2 pt2) X.env = pure (some [x, y]))
    (h1 : starEach [a, b] X.env = (false, eval a X.env) :: starEach [b] X.env := by rfl) (h2 : starEach [b] X.env = (false, eval b X.env) :: starEach [] X.env := by rfl)
    (hs : swapsWithSole [.Tuple [.Name x px, .Name y py] kt pt] (.Tuple [a, b] k2 pt2) pos.line X.env = pure false := by rfl) :
    VS X (.Assign [.Tuple [.Name x px, .Name y py] kt pt] (.Tuple [a, b] k2 pt2) pos) (fPar i j f g) := PS.of (ps_par hc hN hi hj hij hx hy (va_two ha hb h1 h2) hw hs) fun _ _ _ _ q => tS_par hij q

/-! ### walking a list, a tuple or a text -/
def itemsS : D → Option (List D)
  | .str x => some (signsD x)
  | _ => none
theorem signsD_len (x : Str) : (signsD x).length = x.cps.size := by unfold signsD; simp
theorem itn_str {K : PySem.W.Frag} {F H : Hp} {ρ : Rho} {σ : L2.St} {x : Str} : Itn K F ρ σ H (Its x) (signsD x) :=
  ⟨fun _ => True, _, by rw [signsD_len]; exact walk_str, fun _ _ _ _ _ _ => trivial, fun i F' ρ' σ' H' v H'' hi S l y => by
    obtain ⟨rfl, c, hc, rfl⟩ := y
    refine ⟨F', .str ⟨#[c]⟩, ?_, New.same l (.str _)⟩
    unfold signsD
    rw [List.getElem?_map]
    have e : x.cps.toList[i]? = some c := by simpa using hc
    rw [e]; rfl⟩
theorem walks_str {K : PySem.W.Frag} : Walks K itemsS (fun te => iStr te) := fun o σ H R ⟨F, ρ, pk, ρ1, d, ds, R0, e1, e2, e3, post⟩ => by
  cases d with
  | str x =>
    cases e3
    exact ⟨F, ρ, pk, ρ1, R0, e1, fun v F1 H1 R1 S1 P1 => ⟨x, (P1.vw R1 e2).str, post F1 H1 _ R1 S1 itn_str⟩⟩
  | _ => cases e3
def orI (f g : D → Option (List D)) : D → Option (List D) := fun d => match f d with
  | some x => some x
  | none => g d
theorem Walks.or {K : PySem.W.Frag} {f g : D → Option (List D)} {w w' : TE → TI} (a : Walks K f w) (b : Walks K g w') : Walks K (orI f g) (fun te σ H R => w te σ H R ∨ w' te σ H R) := fun o σ H R ⟨F, ρ, pk, ρ1, d, ds, R0, e1, e2, e3, post⟩ => by
  unfold orI at e3
  split at e3
  · rename_i x hx
    cases e3
    exact .inl (a o σ H R ⟨F, ρ, pk, ρ1, d, ds, R0, e1, e2, hx, post⟩)
  · exact .inr (b o σ H R ⟨F, ρ, pk, ρ1, d, ds, R0, e1, e2, e3, post⟩)
theorem PI.or {X : Cx} {tg iter : Expr} {w w' : TI} (a : PI X tg iter w) (b : PI X tg iter w') : PI X tg iter (fun σ H R => w σ H R ∨ w' σ H R) := ⟨fun pins s σ H R I h => h.elim (a.run pins s σ H R I) (b.run pins s σ H R I)⟩
def items : D → Option (List D) := orI itemsL (orI itemsT itemsS)
def iAny (K : PySem.W.Frag) (te : TE) : TI := fun σ H R => iList K te σ H R ∨ iTup K te σ H R ∨ iStr te σ H R
theorem walks_any {K : PySem.W.Frag} : Walks K items (iAny K) := walks_list.or (walks_tup.or walks_str)
theorem pi_any {X : Cx} {tg iter : Expr} {o : Opd} (h : VO X iter o) : PI X tg iter (iAny X.K (tO X.K o)) := PI.or (pi_list h) (PI.or (pi_tup h) (pi_str h))
end VI

/-! The rules as the printed derivations name them. -/
namespace VI
open PySem PySem.Spec PyProof.Rows L2

def gAdd : D → D → Option Sl := orG (gI2 fun i j => .int (i + j)) (orG gAddS gAddL)
def gMinus : D → D → Option Sl := gI2 fun i j => .int (i - j)
def gMul : D → D → Option Sl := orG (gI2c CMul fun i j => i * j) gMulL
def gMod : D → D → Option Sl := gI2c (fun _ j => j ≠ 0) fun i j => i.fmod j
def gFdiv : D → D → Option Sl := gI2c CDivN fun i j => i.fdiv j
def gPow : D → D → Option Sl := gI2c CPow fun i j => i ^ j.toNat
def gLt : D → D → Option Sl := gI2 fun i j => .bl (decide (i < j))
def gLe : D → D → Option Sl := gI2 fun i j => .bl (decide (i ≤ j))
def gGt : D → D → Option Sl := gI2 fun i j => .bl (decide (j < i))
def gGe : D → D → Option Sl := gI2 fun i j => .bl (decide (j ≤ i))
def gLenA : List D → Option Sl := orN gLen gLenS
def gListA : List D → Option Sl := orN gList (orN gListS gListD)
section
variable {X : Cx} {a b : Expr} {oa ob : Opd} {pos : Pos}
theorem v_add (ha : VO X a oa) (hb : VO X b ob) : VE X (.BinOp a .Add b pos) (fOp2 gAdd oa ob) := ve_op (op_add.or (op_add_str.or op_cat)) (op2_int.or (op2_addS.or op2_addL)) ha hb
theorem v_sub (ha : VO X a oa) (hb : VO X b ob) : VE X (.BinOp a .Sub b pos) (fOp2 gMinus oa ob) := ve_op op_sub op2_int ha hb
theorem v_mul (ha : VO X a oa) (hb : VO X b ob) : VE X (.BinOp a .Mult b pos) (fOp2 gMul oa ob) := ve_op (op_mul.or op_rep) (op2_intc.or op2_mulL) ha hb
theorem v_mod (ha : VO X a oa) (hb : VO X b ob) : VE X (.BinOp a .Mod b pos) (fOp2 gMod oa ob) := ve_op op_modN op2_intc ha hb
theorem v_fdiv (ha : VO X a oa) (hb : VO X b ob) : VE X (.BinOp a .FloorDiv b pos) (fOp2 gFdiv oa ob) := ve_op op_fdivN op2_intc ha hb
theorem v_pow (ha : VO X a oa) (hb : VO X b ob) : VE X (.BinOp a .Pow b pos) (fOp2 gPow oa ob) := ve_op op_pow op2_intc ha hb
theorem v_lt (ha : VO X a oa) (hb : VO X b ob) : VE X (.Compare a [.Lt] [b] pos) (fOp2 gLt oa ob) := ve_cmp op_lt op2_cmp ha hb (nomark _)
theorem v_le (ha : VO X a oa) (hb : VO X b ob) : VE X (.Compare a [.LtE] [b] pos) (fOp2 gLe oa ob) := ve_cmp op_le op2_cmp ha hb (nomark _)
theorem v_gt (ha : VO X a oa) (hb : VO X b ob) : VE X (.Compare a [.Gt] [b] pos) (fOp2 gGt oa ob) := ve_cmp op_gt op2_cmp ha hb (nomark _)
theorem v_ge (ha : VO X a oa) (hb : VO X b ob) : VE X (.Compare a [.GtE] [b] pos) (fOp2 gGe oa ob) := ve_cmp op_ge op2_cmp ha hb (nomark _)
theorem t_lt (ha : VO X a oa) (hb : VO X b ob) : VT X (.Compare a [.Lt] [b] pos) (fT (fOp2 gLt oa ob)) := vt_cmp op_lt op2_cmp ha hb (nomark _)
theorem t_le (ha : VO X a oa) (hb : VO X b ob) : VT X (.Compare a [.LtE] [b] pos) (fT (fOp2 gLe oa ob)) := vt_cmp op_le op2_cmp ha hb (nomark _)
theorem t_gt (ha : VO X a oa) (hb : VO X b ob) : VT X (.Compare a [.Gt] [b] pos) (fT (fOp2 gGt oa ob)) := vt_cmp op_gt op2_cmp ha hb (nomark _)
theorem t_ge (ha : VO X a oa) (hb : VO X b ob) : VT X (.Compare a [.GtE] [b] pos) (fT (fOp2 gGe oa ob)) := vt_cmp op_ge op2_cmp ha hb (nomark _)
variable {k : Nat}
theorem v_eq (hr : Room k X.A) (ha : VO X a oa) (hb : VO X b ob) : VE X (.Compare a [.Eq] [b] pos) (fOp2 gEq oa ob) := ve_cmp (op_eq.or (op_eqD hr.units)) op2_eq ha hb (nomark _)
theorem v_ne (hr : Room k X.A) (ha : VO X a oa) (hb : VO X b ob) : VE X (.Compare a [.NotEq] [b] pos) (fOp2 gNe oa ob) := ve_cmp (op_ne.or (op_neD hr.units)) op2_ne ha hb (nomark _)
theorem t_eq (hr : Room k X.A) (ha : VO X a oa) (hb : VO X b ob) : VT X (.Compare a [.Eq] [b] pos) (fT (fOp2 gEq oa ob)) := vt_cmp (op_eq.or (op_eqD hr.units)) op2_eq ha hb (nomark _)
theorem t_ne (hr : Room k X.A) (ha : VO X a oa) (hb : VO X b ob) : VT X (.Compare a [.NotEq] [b] pos) (fT (fOp2 gNe oa ob)) := vt_cmp (op_ne.or (op_neD hr.units)) op2_ne ha hb (nomark _)
theorem u65 (hr : Room k X.A) : X.A.units + 65 < cLine := by have := hr.un; omega
theorem v_in (hr : Room k X.A) (ha : VO X a oa) (hb : VO X b ob) (hm : behindInMarks .In b = false := by rfl) : VE X (.Compare a [.In] [b] pos) (fOp2 gIn oa ob) := ve_cmp (op_inD (u65 hr)) op2_in ha hb hm
theorem v_notin (hr : Room k X.A) (ha : VO X a oa) (hb : VO X b ob) (hm : behindInMarks .NotIn b = false := by rfl) : VE X (.Compare a [.NotIn] [b] pos) (fOp2 gNotIn oa ob) := ve_cmp (op_notInD (u65 hr)) op2_notIn ha hb hm
theorem t_in (hr : Room k X.A) (ha : VO X a oa) (hb : VO X b ob) (hm : behindInMarks .In b = false := by rfl) : VT X (.Compare a [.In] [b] pos) (fT (fOp2 gIn oa ob)) := vt_cmp (op_inD (u65 hr)) op2_in ha hb hm
theorem t_notin (hr : Room k X.A) (ha : VO X a oa) (hb : VO X b ob) (hm : behindInMarks .NotIn b = false := by rfl) : VT X (.Compare a [.NotIn] [b] pos) (fT (fOp2 gNotIn oa ob)) := vt_cmp (op_notInD (u65 hr)) op2_notIn ha hb hm
variable {e : Expr} {o : Opd} {p : Pos}
theorem v_len (hm : X.mg "len" = none) (ha : VO X e o) (hg : Gl X "len" := by rfl) (hs : starEach [e] X.env = (false, eval e X.env) :: starEach [] X.env := by rfl) : VE X (.Call (.Name "len" p) [e] [] pos) (fOpN gLenA [o]) := ve_callB (call_len_seq.or call_len_str) (opN_len.or opN_lenS) hg hm PySem.boot_len (va_cons ha va_nil hs) (he := hs)
theorem v_abs (hm : X.mg "abs" = none) (ha : VO X e o) (hg : Gl X "abs" := by rfl) (hs : starEach [e] X.env = (false, eval e X.env) :: starEach [] X.env := by rfl) : VE X (.Call (.Name "abs" p) [e] [] pos) (fOpN gAbs [o]) := ve_callB call_abs opN_abs hg hm (by decide +kernel) (va_cons ha va_nil hs) (he := hs)
theorem v_int (hm : X.mg "int" = none) (ha : VO X e o) (hg : Gl X "int" := by rfl) (hs : starEach [e] X.env = (false, eval e X.env) :: starEach [] X.env := by rfl) : VE X (.Call (.Name "int" p) [e] [] pos) (fOpN gInt [o]) := ve_callTy call_int1 opN_int hg hm (by decide +kernel) (va_cons ha va_nil hs) (he := hs)
theorem v_list (hc : X.calm = true) (hm : X.mg "list" = none) (ha : VO X e o) (hg : Gl X "list" := by rfl) (hs : starEach [e] X.env = (false, eval e X.env) :: starEach [] X.env := by rfl) : VE X (.Call (.Name "list" p) [e] [] pos) (fOpN gListA [o]) := ve_callTy (call_list_of.or ((call_list_text hc).or (call_listD hc))) (opN_list.or (opN_listS.or opN_listD)) hg hm (by decide +kernel) (va_cons ha va_nil hs) (he := hs)
theorem v_dict (hc : X.calm = true) (hm : X.mg "dict" = none) (ha : VO X e o) (hg : Gl X "dict" := by rfl) (hs : starEach [e] X.env = (false, eval e X.env) :: starEach [] X.env := by rfl) : VE X (.Call (.Name "dict" p) [e] [] pos) (fOpN gDictP [o]) := ve_callTy (call_dictP hc) opN_dictP hg hm (by decide +kernel) (va_cons ha va_nil hs) (he := hs)
theorem v_repr (hr : Room k X.A) (hgu : X.A.guards = some []) (hm : X.mg "repr" = none) (ha : VO X e o) (hg : Gl X "repr" := by rfl) (hs : starEach [e] X.env = (false, eval e X.env) :: starEach [] X.env := by rfl) : VE X (.Call (.Name "repr" p) [e] [] pos) (fOpN gRepr [o]) := ve_callB (call_reprD hr hgu) opN_repr hg hm (by decide +kernel) (va_cons ha va_nil hs) (he := hs)
theorem v_sorted (hr : Room k X.A) (hm : X.mg "sorted" = none) (ha : VO X e o) (hg : Gl X "sorted" := by rfl) (hs : starEach [e] X.env = (false, eval e X.env) :: starEach [] X.env := by rfl) : VE X (.Call (.Name "sorted" p) [e] [] pos) (fOpN gSorted [o]) := ve_callB (call_sortedD hr) opN_sorted hg hm (by decide +kernel) (va_cons ha va_nil hs) (he := hs)
theorem v_cut {lo hi : Option Expr} {l h : MP} {p2 : Pos} (he : VO X e o) (hl : VP X lo l) (hh : VP X hi h) : VE X (.Subscript e (.Slice lo hi none p2) pos) (fSl gSlL o l h) := ve_slice sl_list op3_slL he hl hh
theorem v_ix (hr : Room k X.A) (ha : VO X a oa) (hb : VO X b ob) (hs : PlainIx b := by intro _ _; rfl) : VE X (.Subscript a b pos) (fOp2 gSubD oa ob) := ve_sub (hu_of hr) ha hb hs
variable {i : Nat} {x : Str} {apos : Pos} {f : ME}
theorem v_append (ho : PE X (.Name x p) (tVar i)) (ha : VE X e f) (hs : starEach [e] X.env = (false, eval e X.env) :: starEach [] X.env := by rfl) (hb : attributeBase (.Name x p) "append" X.env (eval (.Name x p) X.env) = eval (.Name x p) X.env := by rfl) (hl : (apos.endLine == pos.line) = true := by rfl)
    (hfew : ((backTo pos (starEach [e] X.env)).all (fun x => !x.1) && (backToKw pos (keywordEach [] X.env)).all (fun x => x.1.isSome) && decide ([e].length + ([] : List Keyword).length + (if ([] : List Keyword).isEmpty then 0 else 1) < 30)) = true := by rfl) :
    VE X (.Call (.Attribute (.Name x p) "append" apos) [e] [] pos) (fMut i isL gAppend [f]) := ve_mut (fun _ _ _ _ ok l h => ok.tyL l h) mu_append PySem.F.plainAttrs_list PySem.F.slot_list_append PySem.F.type_list_append mt_append ho (vz_cons ha vz_nil hs) hb hfew hl hs
theorem v_extend (ho : PE X (.Name x p) (tVar i)) (ha : VE X e f) (hs : starEach [e] X.env = (false, eval e X.env) :: starEach [] X.env := by rfl) (hb : attributeBase (.Name x p) "extend" X.env (eval (.Name x p) X.env) = eval (.Name x p) X.env := by rfl) (hl : (apos.endLine == pos.line) = true := by rfl)
    (hfew : ((backTo pos (starEach [e] X.env)).all (fun x => !x.1) && (backToKw pos (keywordEach [] X.env)).all (fun x => x.1.isSome) && decide ([e].length + ([] : List Keyword).length + (if ([] : List Keyword).isEmpty then 0 else 1) < 30)) = true := by rfl) :
    VE X (.Call (.Attribute (.Name x p) "extend" apos) [e] [] pos) (fMut i isL gExtend [f]) := ve_mut (fun _ _ _ _ ok l h => ok.tyL l h) mu_extend PySem.F.plainAttrs_list PySem.F.slot_list_extend PySem.F.type_list_extend mt_extend ho (vz_cons ha vz_nil hs) hb hfew hl hs
theorem v_popAt (ho : PE X (.Name x p) (tVar i)) (ha : VE X e f) (hs : starEach [e] X.env = (false, eval e X.env) :: starEach [] X.env := by rfl) (hb : attributeBase (.Name x p) "pop" X.env (eval (.Name x p) X.env) = eval (.Name x p) X.env := by rfl) (hl : (apos.endLine == pos.line) = true := by rfl)
    (hfew : ((backTo pos (starEach [e] X.env)).all (fun x => !x.1) && (backToKw pos (keywordEach [] X.env)).all (fun x => x.1.isSome) && decide ([e].length + ([] : List Keyword).length + (if ([] : List Keyword).isEmpty then 0 else 1) < 30)) = true := by rfl) :
    VE X (.Call (.Attribute (.Name x p) "pop" apos) [e] [] pos) (fMut i isL gPopAt [f]) := ve_mut (fun _ _ _ _ ok l h => ok.tyL l h) mu_popAt PySem.F.plainAttrs_list PySem.F.slot_list_pop PySem.F.type_list_pop mt_popAt ho (vz_cons ha vz_nil hs) hb hfew hl hs
end
/-! ### a, b[k] = x, y -/
def fMix (i b : Nat) (k : Int) (f g : ME) : MS := fun ρ => do
  let (ds, ρ1) ← evalZ [f, g] ρ
  match ds with
  | [d1, d2] => (bindN i d1 ρ1).bind fun ρ2 => match ρ2[b]? with
    | some (some ⟨m, d⟩) => if m.wr = true then (gSetL d (.int k) d2).map fun d' => (.nx, ρ2.set b (some ⟨m, d'⟩)) else none
    | _ => none
  | _ => none
theorem vs_mix {X : Cx} {i b : Nat} {k : Int} {x y : Str} {a c : Expr} {f g : ME} {px py pk ps pt pos : Pos} {kt k2 kk : Nat} {pt2 : Pos} (hc : X.calm = true) (hN : X.N.Nodup) (hi : X.N[i]? = some x) (hx : Loc X.env.scope x) (hy : PE X (.Name y py) (tVar b)) (ha : VE X a f) (hb : VE X c g)
    (h1 : starEach [a, c] X.env = (false, eval a X.env) :: starEach [c] X.env := by rfl) (h2 : starEach [c] X.env = (false, eval c X.env) :: starEach [] X.env := by rfl)
    (hf : X.fn x = true ∨ X.env.scope.names.lookup x = some .local := by first | exact .inl rfl | exact .inr rfl | assumption)
    (hs : ∀ v, assign (.Subscript (.Name y py) (.Constant (.int k) kk pk) ps) X.env v = (do
      let ov ← holding [v] (eval (.Name y py) X.env)
      let iv ← holding [v, ov] (eval (.Constant (.int k) kk pk) X.env)
      standAt ps
      holding [v, ov, iv] (setItem ov iv v)
      release [v, ov, iv] []) := by intro _; rfl)
    (h3 : (assignEach [.Name x px, .Subscript (.Name y py) (.Constant (.int k) kk pk) ps] X.env).map (·.2) = assign (.Name x px) X.env :: (assignEach [.Subscript (.Name y py) (.Constant (.int k) kk pk) ps] X.env).map (·.2) := by rfl)
    (h4 : (assignEach [.Subscript (.Name y py) (.Constant (.int k) kk pk) ps] X.env).map (·.2) = assign (.Subscript (.Name y py) (.Constant (.int k) kk pk) ps) X.env :: (assignEach [] X.env).map (·.2) := by rfl)
    (h5 : (assignEach [.Name x px, .Subscript (.Name y py) (.Constant (.int k) kk pk) ps] X.env).length = 2 := by rfl) (h6 : (assignEach [.Name x px, .Subscript (.Name y py) (.Constant (.int k) kk pk) ps] X.env).findIdx? (·.1) = none := by rfl)
    (h7 : swapsWithSole [.Tuple [.Name x px, .Subscript (.Name y py) (.Constant (.int k) kk pk) ps] kt pt] (.Tuple [a, c] k2 pt2) pos.line X.env = pure false := by rfl)
    (h8 : swappedStores [.Tuple [.Name x px, .Subscript (.Name y py) (.Constant (.int k) kk pk) ps] kt pt] (.Tuple [a, c] k2 pt2) X.env = pure none := by rfl)
    (h9 : (assignEach [.Tuple [.Name x px, .Subscript (.Name y py) (.Constant (.int k) kk pk) ps] kt pt] X.env).map (·.2) = [assign (.Tuple [.Name x px, .Subscript (.Name y py) (.Constant (.int k) kk pk) ps] kt pt) X.env] := by rfl) :
    VS X (.Assign [.Tuple [.Name x px, .Subscript (.Name y py) (.Constant (.int k) kk pk) ps] kt pt] (.Tuple [a, c] k2 pt2) pos) (fMix i b k f g) :=
  PS.of (ps_asg (ve_tup (vz_cons ha (vz_cons hb vz_nil h2) h1)) (pg_tup hc (pgs_cons (pg_name hN hi hx hf) (pgs_cons (pg_sub hy pe_int set_list hs) pgs_nil h4) h3) h5 h6) h7 h8 h9) fun D σ H _ ⟨F, ρ, fl, ρ', R, e, post⟩ => by
    obtain ⟨⟨ds, ρ1⟩, e1, e⟩ := bind_some e
    dsimp only at e
    split at e
    · rename_i d1 d2
      obtain ⟨ρ2, e2, e⟩ := Option.bind_eq_some_iff.mp e
      split at e
      · rename_i m d hd
        split at e
        · rename_i hm
          obtain ⟨d', e3, e⟩ := Option.map_eq_some_iff.mp e
          cases e
          have e4 : fDisp gTup [f, g] ρ = some (⟨.fz, .tup [d1, d2]⟩, ρ1) := by
            unfold fDisp
            rw [e1]
            simp [gTup, show (2 : Nat) ≤ sizeLine by decide]
          refine ⟨F, ρ, _, ρ1, R, e4, fun v F1 H1 R1 S1 res => ?_⟩
          have rp : Rep X.K F1 v (.tup [d1, d2]) := res
          cases rp with
          | @tup q vs _ t1 t2 =>
            cases t2 with
            | @cons v1 _ _ _ r1 t2 =>
              cases t2 with
              | @cons v2 _ _ _ r2 t2 =>
                cases t2
                obtain ⟨R2, S2⟩ := bindN_ok R1 r1 e2
                obtain ⟨w, hw, ok⟩ := R2.at_ b _ hd
                have nm : m ≠ .fz := by rcases wr_own hm with rfl | rfl <;> (intro z; cases z)
                obtain ⟨p, rfl, fp, oa⟩ := ok.nfz nm
                refine ⟨q, [v1, v2], rfl, SqT.of (R1.le _ _ t1), rfl, v1, [v2], rfl, v2, [], rfl, .ref p, hw, ?_⟩
                refine set_l F1 H1 p d (.int k) d2 d' (.int k) v2 _ R2.le fp oa (.int k) r2 e3 fun o oa' => ⟨rfl, ?_⟩
                obtain ⟨R3, S3⟩ := R2.write hd hm hw fp oa'
                exact post F1 _ _ R3 ((S1.stp.trans S2).trans S3.stp)
        · cases e
      · cases e
    · cases e
/-- a def of the text that may be called -/
def Callee (P : Program) (w : World) (K : PySem.W.Frag) (mg : Str → Option Value) (base : Heap) (k : Nat) (x : Str) (ps : List Str) (m : FnM) : Prop :=
  ∃ f fd, FnG P w K mg base k f fd ps (spG K ps.length m) ∧ mg x = some (.ref f) ∧ PySem.W.keepIn K (.ref f) = true ∧ L2.Binds K fd ps []
theorem v_call {X : Cx} {j k : Nat} {ps : List Str} {m : FnM} {x : Str} {p pos : Pos} {e : Expr} {es : List Expr} {os : List Opd} (C : Callee X.prog X.w X.K X.mg X.base j x ps m) (hr : Room k X.A) (hgu : X.A.guards = some []) (hjk : j ≤ k) (ha : VA X (e :: es) os) (hnp : os.length = ps.length := by rfl)
    (hg : Gl X x := by rfl) (hdb : (x == ("__debug__" : Str)) = false := by decide) (he : starEach (e :: es) X.env = (false, eval e X.env) :: starEach es X.env := by rfl) (hpl : (backTo pos (starEach es X.env)).any (·.1) = false := by rfl) :
    VE X (.Call (.Name x p) (e :: es) [] pos) (fCall m os) := by
  obtain ⟨f, fd, F, hm, hk, hb⟩ := C
  exact ve_call F (hr.mono hjk) hgu hg hm hk hb ha hnp hdb he hpl
theorem callee_mk {P : Program} {w : World} {K : PySem.W.Frag} {mg : Str → Option Value} {base : Heap} {x qual : Str} {st : Stmt} {f : Addr} {fd : FuncData} {N ps : List Str} {k n : Nat} {g : MS} (Fn : Fun K x qual st f fd) (hm : mg x = some (.ref f)) (S : FnScope N ps (defScope st)) (hn : N.length = ps.length + n)
    (hb : L2.Binds K fd ps []) (hbody : ∀ (cdv : Value) (A : Around) (outer : List Env) (s : Shared) (H : Hp), Room k (A.deeper (envOfC qual (defScope st) s.heap.objs.size f cdv)) → A.guards = some [] → VB (cxOf CX0 P w K mg base N qual (defScope st) f cdv A outer s H E0).nox (defBody st) g) :
    Callee P w K mg base (k + 1) x ps (fnM n g) := ⟨f, fd, fn_ok Fn S hn hbody, hm, Fn.kp, hb⟩
/-- the law's own function object -/
theorem callee_law {P : Program} {w : World} {K : PySem.W.Frag} {mg : Str → Option Value} {base : Heap} {x qual : Str} {st : Stmt} {f : Addr} {fd : FuncData} {ps : List Str} {k : Nat} {m : FnM} (Fn : Fun K x qual st f fd) (hm : mg x = some (.ref f)) (C : Callee P w K mg base k x ps m) : ∃ fd', FnG P w K mg base k f fd' ps (spG K ps.length m) := by
  obtain ⟨f', fd', F, h, _⟩ := C
  rw [hm] at h
  cases h
  exact ⟨fd', F⟩
end VI

/-! Classes of the text: fields, new instances, methods. -/
namespace VI
open PySem PySem.Spec PyProof.Rows L2

/-! ### fields -/
def putFD (f : Str) (v : D) : List (Str × D) → List (Str × D)
  | [] => [(f, v)]
  | (g, x) :: r => if g = f then (g, v) :: r else (g, x) :: putFD f v r
section
variable {K : PySem.W.Frag} {F : Hp}
theorem fs_put {f : Str} {v : V} {d : D} (rv : Rep K F v d) : ∀ {vfs : List (Str × V)} {fs : List (Str × D)}, vfs.map Prod.fst = fs.map Prod.fst → RepL K F (vfs.map Prod.snd) (fs.map Prod.snd) →
    (putF f v vfs).map Prod.fst = (putFD f d fs).map Prod.fst ∧ RepL K F ((putF f v vfs).map Prod.snd) ((putFD f d fs).map Prod.snd)
  | [], [], _, _ => ⟨rfl, .one rv⟩
  | (g, x) :: vfs, (g', y) :: fs, h1, h2 => by
    simp only [List.map_cons, List.cons.injEq] at h1
    obtain ⟨rfl, h1⟩ := h1
    cases h2 with
    | cons r t =>
      by_cases e : g = f
      · simp only [putF, putFD, if_pos e, List.map_cons]
        exact ⟨by rw [h1], .cons rv t⟩
      · obtain ⟨q1, q2⟩ := fs_put rv h1 t
        simp only [putF, putFD, if_neg e, List.map_cons]
        exact ⟨by rw [q1], .cons r q2⟩
  | [], _ :: _, h, _ => by cases h
  | _ :: _, [], h, _ => by cases h
theorem fs_look {f : Str} : ∀ {vfs : List (Str × V)} {fs : List (Str × D)}, vfs.map Prod.fst = fs.map Prod.fst → RepL K F (vfs.map Prod.snd) (fs.map Prod.snd) →
    (∀ d, fs.lookup f = some d → ∃ v, vfs.lookup f = some v ∧ Rep K F v d) ∧ (fs.lookup f = none → vfs.lookup f = none)
  | [], [], _, _ => ⟨fun d h => (by cases h), fun _ => rfl⟩
  | (g, x) :: vfs, (g', y) :: fs, h1, h2 => by
    simp only [List.map_cons, List.cons.injEq] at h1
    obtain ⟨rfl, h1⟩ := h1
    cases h2 with
    | cons r t =>
      obtain ⟨q1, q2⟩ := fs_look (f := f) h1 t
      cases e : (f == g) with
      | true => exact ⟨fun d h => ⟨x, (by simp only [List.lookup, e]), (by simp only [List.lookup, e] at h; cases h; exact r)⟩, fun h => (by simp only [List.lookup, e] at h; cases h)⟩
      | false => exact ⟨fun d h => (by simp only [List.lookup, e] at h ⊢; exact q1 d h), fun h => (by simp only [List.lookup, e] at h ⊢; exact q2 h)⟩
  | [], _ :: _, h, _ => by cases h
  | _ :: _, [], h, _ => by cases h
theorem fs_len {vfs : List (Str × V)} {fs : List (Str × D)} (h : vfs.map Prod.fst = fs.map Prod.fst) : vfs.length = fs.length := by
  have := congrArg List.length h
  simpa using this
end
/-- of the classes cs, none has the name f itself -/
def ClsF (K : PySem.W.Frag) (cs : List Str) (f : Str) : Prop := ∀ c ∈ cs, ∀ C, clsA K c = some C → Cls K C ∧ NoAttr K C f
def gFld (cs : List Str) (f : Str) : D → Option Sl
  | .ins c fs => if cs.contains c = true then (match fs.lookup f with | some d => some ⟨.fz, d⟩ | none => none) else none
  | _ => none
def rFld (K : PySem.W.Frag) (f : Str) : V → Hp → VK → Prop := fun x H Q => ∃ a C dx fs v, x = .ref a ∧ H a = some (.ins C dx fs) ∧ Cls K C ∧ NoAttr K C f ∧ fs.lookup f = some v ∧ Q v H
theorem op1_fld {K : PySem.W.Frag} {cs : List Str} {f : Str} (hc : ClsF K cs f) : Op1 K (rFld K f) (gFld cs f) := fun F H x d s Q l v g k => by
  unfold gFld at g
  split at g
  · rename_i c fs
    split at g
    · rename_i hcs
      split at g
      · rename_i z hz
        cases g
        obtain ⟨a, C, dx, vfs, rfl, h0, h1, h2, h3⟩ := v.ins l
        obtain ⟨u, hu, ru⟩ := (fs_look h2 h3).1 z hz
        obtain ⟨c1, c2⟩ := hc c (by simpa using hcs) C h0
        exact ⟨a, C, dx, vfs, u, rfl, h1, c1, c2, hu, k _ _ _ (New.same l ru)⟩
      · cases g
    · cases g
  · cases g
theorem ve_fld {X : Cx} {cs : List Str} {f : Str} {e : Expr} {o : Opd} {pos : Pos} (hc : ClsF X.K cs f) (he : VO X e o) (hb : attributeBase e f X.env (eval e X.env) = eval e X.env := by rfl) : VE X (.Attribute e f pos) (fOp1 (gFld cs f) o) :=
  VE.of (pe_fld he hb) fun _ _ _ _ q => tE_op1 (op1_fld hc) q
/-- o.f = e, o a slot of one's own -/
def fSetF (i : Nat) (cs : List Str) (f : Str) (fv : ME) : MS := fun ρ => match fv ρ with
  | some (rv, ρ1) => match ρ1[i]? with
    | some (some ⟨m, .ins c fs⟩) => if m.wr = true ∧ cs.contains c = true ∧ fs.length < 1000 then some (.nx, ρ1.set i (some ⟨m, .ins c (putFD f rv.d fs)⟩)) else none
    | _ => none
  | none => none
theorem tS_setF {K : PySem.W.Frag} {i : Nat} {cs : List Str} {f : Str} {fv : ME} {D : Ends} {σ : L2.St} {H : Hp} (hc : ClsF K cs f) (h : tS K (fSetF i cs f fv) D σ H) : sFld K (tVar i) (tE K fv) f D σ H := by
  obtain ⟨F, ρ, fl, ρ', R, e, post⟩ := h
  unfold fSetF at e
  split at e
  · rename_i rv ρ1 e1
    split at e
    · rename_i m c fs hd
      split at e
      · rename_i hm
        cases e
        refine ⟨F, ρ, rv, ρ1, R, e1, fun xv F1 H1 R1 S1 res => ?_⟩
        obtain ⟨F2, R2, S2, rx⟩ := res.frozen R R1 S1
        obtain ⟨v, hv, ok⟩ := R2.at_ i _ hd
        have nm : m ≠ .fz := by rcases wr_own hm.1 with rfl | rfl <;> (intro z; cases z)
        obtain ⟨p, rfl, fp, oa⟩ := ok.nfz nm
        obtain ⟨C, dx, vfs, h0, h1, h2, h3⟩ := oa
        obtain ⟨c1, c2⟩ := hc c (by simpa using hm.2.1) C h0
        obtain ⟨q1, q2⟩ := fs_put (f := f) rx h2 h3
        obtain ⟨R3, S3⟩ := R2.write (d' := .ins c (putFD f rv.d fs)) (o := .ins C dx (putF f xv vfs)) hd hm.1 hv fp ⟨C, dx, _, h0, upd_same, q1, q2⟩
        exact ⟨.ref p, hv, p, C, dx, vfs, rfl, h1, c1, c2, by rw [fs_len h2]; exact hm.2.2, post F2 σ _ R3 (S2.trans S3).stp⟩
      · cases e
    · cases e
  · cases e
theorem vs_setF {X : Cx} {i : Nat} {cs : List Str} {f : Str} {x : Str} {p pos' pos : Pos} {value : Expr} {fv : ME} (hc : ClsF X.K cs f) (ho : PE X (.Name x p) (tVar i)) (hv : VE X value fv) (hs : swapsWith value (some (.Attribute (.Name x p) f pos')) pos.line X.env = pure false := by rfl) :
    VS X (.Assign [.Attribute (.Name x p) f pos'] value pos) (fSetF i cs f fv) := PS.of (ps_fld ho hv hs) fun _ _ _ _ q => tS_setF hc q

/-! ### methods -/
section
variable {X : Cx} {k : Nat} {f C : Addr} {fd : FuncData} {ps : List Str} {sp : SpG} {dvs : List V} {ds : List Value} {x m : Str} {p pos apos : Pos} {e o : Expr} {es : List Expr} {ta : TE} {t : TA}
def tMethG (C : Addr) (m : Str) (sp : SpG) (dvs : List V) (ta : TE) (t : TA) : TE := fun σ H Q => ta σ H fun x H1 => ∃ a dx fs, x = .ref a ∧ H1 a = some (.ins C dx fs) ∧ fs.lookup m = none ∧ t σ H1 fun vs H2 => sp (x :: (vs ++ dvs)) H2 Q
theorem pe_methG {pl : Sem Bool} (he : PE X o ta) (c : Cls X.K C) (hm : Meth X.K C m f) (F : FnG X.prog X.w X.K X.mg X.base k f fd ps sp) (hr : Room k X.A) (hgu : X.A.guards = some []) (hb : Binds X.K fd ps ds) (hd : Vals dvs ds) (ha : PA X (e :: es) t)
    (hst : starEach (e :: es) X.env = (false, eval e X.env) :: starEach es X.env := by rfl) (hpl : (backTo pos (starEach es X.env)).any (·.1) = false := by rfl)
    (ht : eval (.Call (.Attribute o m apos) (e :: es) [] pos) X.env = (do
      let ov ← eval o X.env
      standAt apos.atName
      let (f, first) ← holding [ov] (getMethod ov m pl)
      callWith pos f first (backTo pos (starEach (e :: es) X.env)) (backToKw pos (keywordEach [] X.env))) := by rfl) :
    PE X (.Call (.Attribute o m apos) (e :: es) [] pos) (tMethG C m sp dvs ta t) := by
  refine ⟨fun pins s σ H Q I h => ?_⟩
  refine PySem.W.methodCall_KW (pl := pl) (thn (he.run pins s σ H _ I h) fun u s1 ⟨x, H1, I1, rx, a, dx, fs, ex, ea, l, q⟩ => ?_) ht
  subst ex
  obtain rfl : u = Value.ref a := rx
  refine getmeth_ok I1 ea c hm l ?_
  refine PySem.W.callWith_K (first := [.ref a]) (h₀ := X.base) I.ok.mod.kin hm.kp (thn (ha.run pos pins s1 σ H1 _ I1 q) fun us s2 ⟨vs, H2, I2, r, q2⟩ => ⟨I2.kIn, ?_⟩) hst hpl
  exact run_fnG (us := .ref a :: us) (vs := .ref a :: vs) F hr hgu hb hd I2 (.cons rfl r) q2
theorem pe_meth0G {pl : Sem Bool} (he : PE X o ta) (c : Cls X.K C) (hm : Meth X.K C m f) (F : FnG X.prog X.w X.K X.mg X.base k f fd ps sp) (hr : Room k X.A) (hgu : X.A.guards = some []) (hb : Binds X.K fd ps ds) (hd : Vals dvs ds)
    (ht : eval (.Call (.Attribute o m apos) [] [] pos) X.env = (do
      let ov ← eval o X.env
      standAt apos.atName
      let (f, first) ← holding [ov] (getMethod ov m pl)
      callWith pos f first (backTo pos (starEach [] X.env)) (backToKw pos (keywordEach [] X.env))) := by rfl) :
    PE X (.Call (.Attribute o m apos) [] [] pos) (tMethG C m sp dvs ta tNil) := by
  refine ⟨fun pins s σ H Q I h => ?_⟩
  refine PySem.W.methodCall_KW (pl := pl) (thn (he.run pins s σ H _ I h) fun u s1 ⟨x, H1, I1, rx, a, dx, fs, ex, ea, l, q⟩ => ?_) ht
  subst ex
  obtain rfl : u = Value.ref a := rx
  refine getmeth_ok I1 ea c hm l ?_
  exact PySem.W.callWith_K0 (first := [.ref a]) I1.kIn hm.kp (run_fnG (us := [.ref a]) (vs := [.ref a]) F hr hgu hb hd I1 (.cons rfl .nil) q)
/-- a new instance by its own __init__ -/
theorem run_makeG {pins : List (Addr × Obj)} {σ : L2.St} {H : Hp} {s : Shared} {Q : VK} {us : List Value} {vs : List V} (M : Mk X.K C f) (F : FnG X.prog X.w X.K X.mg X.base k f fd ps sp) (hr : Room (k + 1) X.A) (hgu : X.A.guards = some []) (hb : Binds X.K fd ps ds) (hd : Vals dvs ds)
    (I : Inv X pins σ H s) (r : Vals vs us)
    (h : ∀ x dx, H x = none → H dx = none → dx ≠ x → sp (.ref x :: (vs ++ dvs)) (upd (upd H dx (.own x)) x (.ins C dx [])) (fun v H2 => v = .non ∧ Q (.ref x) H2)) :
    wpAny (model X.prog X.w) X.A (call (.ref C) us) (EP X pins σ Q) X.xe s := by
  have hq := h (s.heap.objs.size + 1) s.heap.objs.size (I.hok.fresh (Nat.le_succ _)) (I.hok.fresh (Nat.le_refl _)) (Nat.ne_of_lt (Nat.lt_succ_self _))
  have I2 := Inv.made (C := C) I
  have r2 : Vals (V.ref (s.heap.objs.size + 1) :: (vs ++ dvs)) (Value.ref (s.heap.objs.size + 1) :: (us ++ ds)) := .cons rfl (r.append hd)
  have hl : (Value.ref (s.heap.objs.size + 1) :: us ++ ds).length = ps.length := by
    have e := r2.length
    rw [F.len _ _ _ hq] at e
    exact e.symm
  refine wpAny_call (make_map (f := f) I.kIn M.makes M.init (beq_iff_eq.mp M.fn) (codeAny_mono (F.run _ X.stack _ _ ⟨Value.ref (s.heap.objs.size + 1) :: us, []⟩ (Value.ref (s.heap.objs.size + 1) :: (us ++ ds)) _ _ (hr.make C us []) hgu
    (I2.env0.make C us []) (hb _ (Value.ref (s.heap.objs.size + 1) :: us) I2.kIn hl) r2 hq) fun r s' hq' => ?_))
  cases r with
  | error e => exact hq'.elim
  | ok fl =>
    cases fl with
    | ret u =>
      obtain ⟨v, H', I3, rv, ev, q3⟩ := I2.after hq'
      subst ev
      exact ⟨rv, ⟨V.ref (s.heap.objs.size + 1), H', I3, rfl, q3⟩⟩
    | next => exact False.elim hq'
    | brk => exact False.elim hq'
    | cont => exact False.elim hq'
def tMakeG (C : Addr) (sp : SpG) (dvs : List V) (t : TA) : TE := fun σ H Q => t σ H fun vs H1 => ∀ x dx, H1 x = none → H1 dx = none → dx ≠ x →
  sp (.ref x :: (vs ++ dvs)) (upd (upd H1 dx (.own x)) x (.ins C dx [])) (fun v H2 => v = .non ∧ Q (.ref x) H2)
theorem pe_makeG (M : Mk X.K C f) (F : FnG X.prog X.w X.K X.mg X.base k f fd ps sp) (hr : Room (k + 1) X.A) (hgu : X.A.guards = some []) (hg : Gl X x) (hm : X.mg x = some (.ref C)) (hb : Binds X.K fd ps ds) (hd : Vals dvs ds)
    (ha : PA X (e :: es) t) (hdb : (x == ("__debug__" : Str)) = false := by decide) (he : starEach (e :: es) X.env = (false, eval e X.env) :: starEach es X.env := by rfl) (hpl : (backTo pos (starEach es X.env)).any (·.1) = false := by rfl) :
    PE X (.Call (.Name x p) (e :: es) [] pos) (tMakeG C sp dvs t) := by
  refine ⟨fun pins s σ H Q I h => ?_⟩
  refine wpAny_Call_Name_kw (ld_glob I hg hm ?_ hdb)
  refine PySem.W.callWith_K (h₀ := X.base) I.ok.mod.kin M.kp (thn (ha.run pos pins s σ H _ I h) fun us s1 ⟨vs, H1, I1, r, q⟩ => ⟨I1.kIn, ?_⟩) he hpl
  exact run_makeG M F hr hgu hb hd I1 r q
end
/-- a method of a class of the text -/
def Mth (P : Program) (w : World) (K : PySem.W.Frag) (mg : Str → Option Value) (base : Heap) (k np : Nat) (m c : Str) (M : FnM) : Prop :=
  ∃ C f fd ps, clsA K c = some C ∧ Cls K C ∧ Meth K C m f ∧ ps.length = np ∧ FnG P w K mg base k f fd ps (spG K np M) ∧ Binds K fd ps []
def fMeth (m : Str) (tbl : Str → Option FnM) (o : Opd) (os : List Opd) : ME := fun ρ => do
  let (pk, ρ0) ← evalO o ρ
  match look pk ρ0 with
  | some (.ins c fs) =>
    if fs.lookup m = none then
      match tbl c with
      | some M => do
        let (pks, ρ1) ← evalOs os ρ0
        let as ← argsOf ρ1 (pk :: pks)
        if nodupS ρ1 (pk :: pks) = true then do
          let (r, outs) ← M as
          pure (r, wb (pk :: pks) outs ρ1)
        else none
      | none => none
    else none
  | _ => none
theorem evalOs_len : ∀ {os : List Opd} {ρ ρ1 : Rho} {pks : List Pk}, evalOs os ρ = some (pks, ρ1) → pks.length = os.length
  | [], _, _, _, h => by cases h; rfl
  | o :: os, _, _, _, h => by
    obtain ⟨⟨pa, ρa⟩, _, h⟩ := bind_some h
    obtain ⟨⟨pb, ρb⟩, hb, h⟩ := bind_some h
    cases h
    rw [List.length_cons, List.length_cons, evalOs_len hb]
theorem tE_meth {K : PySem.W.Frag} {m : Str} {tbl : Str → Option FnM} {np : Nat} {o : Opd} {os : List Opd} {σ : L2.St} {H : Hp} {Q : VK} (hnp : os.length + 1 = np) (h : tE K (fMeth m tbl o os) σ H Q) :
    ∃ c M, tbl c = some M ∧ ∀ C, clsA K c = some C → tMethG C m (spG K np M) [] (tO K o) (tA K os) σ H Q := by
  obtain ⟨F, ρ, s, ρ2, R, e, post⟩ := h
  obtain ⟨⟨pk, ρ0⟩, e0, e⟩ := bind_some e
  dsimp only at e
  split at e
  · rename_i c fs hlk
    split at e
    · rename_i hfm
      split at e
      · rename_i M hM
        obtain ⟨⟨pks, ρ1⟩, e1, e⟩ := bind_some e
        obtain ⟨as, e2, e⟩ := bind_some e
        dsimp only at e e2
        split at e
        · rename_i nd
          obtain ⟨⟨r, outs⟩, e3, e⟩ := bind_some e
          cases e
          refine ⟨c, M, hM, fun C hC => ⟨F, ρ, pk, ρ0, R, e0, fun x F1 H1 R1 S1 P1 => ?_⟩⟩
          obtain ⟨a, C', dx, vfs, rfl, h0, h1, h2, h3⟩ := (P1.vw R1 hlk).ins R1.le
          rw [hC] at h0; cases h0
          refine ⟨a, dx, vfs, rfl, h1, (fs_look h2 h3).2 hfm, F1, ρ0, pks, ρ1, R1, e1, fun vs F2 H2 R2 S2 P2 => ?_⟩
          have P : PkL K F2 σ (.ref a :: vs) (pk :: pks) := .cons (P1.mono S2.stp.le) P2
          obtain ⟨Ra, no⟩ := args_rel R2 P e2 nd
          show spG K np M (V.ref a :: (vs ++ [])) H2 Q
          rw [List.append_nil]
          have hl : as.length = np := by
            rw [argsOf_len e2, List.length_cons, evalOs_len e1]; exact hnp
          refine ⟨F2, as, _, _, hl, Ra, no, e3, fun v F' H' Cp => ?_⟩
          obtain ⟨R3, S3⟩ := call_rel R2 P e2 nd Cp
          exact post v F' H' R3 ((S1.trans S2).trans S3) ((Cp.res.back S2).back S1)
        · cases e
      · cases e
    · cases e
  · cases e
theorem ve_meth {X : Cx} {k j np : Nat} {m : Str} {tbl : Str → Option FnM} {pos apos : Pos} {pl : Sem Bool} {e ob : Expr} {es : List Expr} {o : Opd} {os : List Opd} (hT : ∀ c M, tbl c = some M → Mth X.prog X.w X.K X.mg X.base j np m c M) (hr : Room k X.A) (hgu : X.A.guards = some []) (hjk : j ≤ k)
    (ho : VO X ob o) (ha : VA X (e :: es) os) (hnp : os.length + 1 = np := by rfl)
    (hst : starEach (e :: es) X.env = (false, eval e X.env) :: starEach es X.env := by rfl) (hpl : (backTo pos (starEach es X.env)).any (·.1) = false := by rfl)
    (ht : eval (.Call (.Attribute ob m apos) (e :: es) [] pos) X.env = (do
      let ov ← eval ob X.env
      standAt apos.atName
      let (f, first) ← holding [ov] (getMethod ov m pl)
      callWith pos f first (backTo pos (starEach (e :: es) X.env)) (backToKw pos (keywordEach [] X.env))) := by rfl) :
    VE X (.Call (.Attribute ob m apos) (e :: es) [] pos) (fMeth m tbl o os) := ⟨fun pins s σ H Q I h => by
  obtain ⟨c, M, hM, q⟩ := tE_meth hnp h
  obtain ⟨C, f, fd, ps, hC, c1, c2, hl, F, hb⟩ := hT c M hM
  exact (pe_methG (pl := pl) ho c1 c2 F (hr.mono hjk) hgu hb .nil ha hst hpl ht).run pins s σ H Q I (q C hC)⟩
theorem ve_meth0 {X : Cx} {k j : Nat} {m : Str} {tbl : Str → Option FnM} {pos apos : Pos} {pl : Sem Bool} {ob : Expr} {o : Opd} (hT : ∀ c M, tbl c = some M → Mth X.prog X.w X.K X.mg X.base j 1 m c M) (hr : Room k X.A) (hgu : X.A.guards = some []) (hjk : j ≤ k)
    (ho : VO X ob o)
    (ht : eval (.Call (.Attribute ob m apos) [] [] pos) X.env = (do
      let ov ← eval ob X.env
      standAt apos.atName
      let (f, first) ← holding [ov] (getMethod ov m pl)
      callWith pos f first (backTo pos (starEach [] X.env)) (backToKw pos (keywordEach [] X.env))) := by rfl) :
    VE X (.Call (.Attribute ob m apos) [] [] pos) (fMeth m tbl o []) := ⟨fun pins s σ H Q I h => by
  obtain ⟨c, M, hM, q⟩ := tE_meth (np := 1) rfl h
  obtain ⟨C, f, fd, ps, hC, c1, c2, hl, F, hb⟩ := hT c M hM
  refine (pe_meth0G (pl := pl) ho c1 c2 F (hr.mono hjk) hgu hb .nil ht).run pins s σ H Q I ?_
  obtain ⟨F0, ρ, pk, ρ0, R, e0, post⟩ := q C hC
  refine ⟨F0, ρ, pk, ρ0, R, e0, fun x F1 H1 R1 S1 P1 => ?_⟩
  obtain ⟨a, dx, vfs, rfl, h1, h2, F2, ρ1, pks, ρ2, R2, e2, post2⟩ := post x F1 H1 R1 S1 P1
  cases e2
  exact ⟨a, dx, vfs, rfl, h1, h2, post2 [] F2 H1 R2 .refl .nil⟩⟩

/-! ### new instances -/
def fMake (c : Str) (M : FnM) (dd : List D) (os : List Opd) : ME := fun ρ => do
  let (pks, ρ1) ← evalOs os ρ
  let as ← argsOf ρ1 pks
  if nodupS ρ1 pks = true then
    match M (⟨.par, .ins c []⟩ :: (as ++ dd.map fun d => ⟨.fz, d⟩)) with
    | some (⟨.fz, .non⟩, ⟨.par, d⟩ :: outs) => some (⟨.own, d⟩, wb pks outs ρ1)
    | _ => none
  else none
section
variable {K : PySem.W.Frag} {F F' H H' : Hp} {as os : List Sl} {vs dvs : List V} {dd : List D} {c : Str} {C x dx : Addr}
theorem app_get {α : Type} {l m : List α} {i : Nat} {a : α} (h : (l ++ m)[i]? = some a) : l[i]? = some a ∨ ∃ j, i = l.length + j ∧ m[j]? = some a := by
  by_cases hi : i < l.length
  · rw [List.getElem?_append_left hi] at h; exact .inl h
  · rw [List.getElem?_append_right (by omega)] at h; exact .inr ⟨i - l.length, by omega, h⟩
theorem make_rel (hC : clsA K c = some C) (hd : RepL K F dvs dd) (R : Rel K F (as.map some) (vs.map some) H) (no : ∀ a ∈ as, a.m ≠ .own) (hx : H x = none) (hdx : H dx = none) (hne : dx ≠ x) :
    Rel K F ((⟨.par, .ins c []⟩ :: (as ++ dd.map fun d => ⟨.fz, d⟩) : List Sl).map some) ((V.ref x :: (vs ++ dvs)).map some) (upd (upd H dx (.own x)) x (.ins C dx [])) ∧ ∀ a ∈ (⟨.par, .ins c []⟩ :: (as ++ dd.map fun d => ⟨.fz, d⟩) : List Sl), a.m ≠ .own := by
  have hlen : as.length = vs.length := by have := R.len; simpa using this
  have fx : F x = none := R.le.none hx
  have fdx : F dx = none := R.le.none hdx
  have le : Le F (upd (upd H dx (.own x)) x (.ins C dx [])) := (R.le.upd2 fdx).upd2 fx
  have keep : ∀ a o, H a = some o → (upd (upd H dx (.own x)) x (.ins C dx [])) a = some o := fun a o h => by
    rw [upd_ne (ne_of_none h hx), upd_ne (ne_of_none h hdx)]; exact h
  -- an argument that is not frozen
  have slot : ∀ (i : Nat) (s : Sl), (⟨.par, .ins c []⟩ :: (as ++ dd.map fun d => ⟨.fz, d⟩) : List Sl)[i]? = some s → s.m ≠ .fz → (i = 0 ∧ s = ⟨.par, .ins c []⟩) ∨ ∃ j, i = j + 1 ∧ as[j]? = some s := fun i s h hm => by
    cases i with
    | zero => simp at h; exact .inl ⟨rfl, h.symm⟩
    | succ j =>
      rw [List.getElem?_cons_succ] at h
      rcases app_get h with h | ⟨j', _, h⟩
      · exact .inr ⟨j, rfl, h⟩
      · rw [List.getElem?_map] at h
        obtain ⟨d, _, rfl⟩ := Option.map_eq_some_iff.mp h
        exact absurd rfl hm
  have vat : ∀ (j : Nat) (v : V), vs[j]? = some v → (V.ref x :: (vs ++ dvs))[j + 1]? = some v := fun j v h => by
    rw [List.getElem?_cons_succ, List.getElem?_append_left (List.getElem?_eq_some_iff.mp h).1]; exact h
  refine ⟨⟨le, ?_, fun i s e => ?_, fun i j s t p h1 h2 m1 m2 h3 h4 => ?_⟩, fun a ha => ?_⟩
  · have := hd.length
    simp only [List.length_map, List.length_cons, List.length_append]; omega
  · have e := map_some_get e
    cases i with
    | zero =>
      simp at e; subst e
      exact ⟨.ref x, rfl, .mk_n (by intro z; cases z) fx ⟨C, dx, [], hC, upd_same, rfl, .nil⟩⟩
    | succ j =>
      rw [List.getElem?_cons_succ] at e
      rcases app_get e with e | ⟨j', ej, e⟩
      · obtain ⟨v, hv, ok⟩ := R.at_ j s (by rw [List.getElem?_map, e]; rfl)
        refine ⟨v, by rw [List.getElem?_map, vat j v (map_some_get hv)]; rfl, ?_⟩
        by_cases hm : s.m = .fz
        · exact .mk_fz hm (ok.fz hm)
        · obtain ⟨p, rfl, fp, oa⟩ := ok.nfz hm
          obtain ⟨u, hu⟩ := oa.has
          exact .mk_n hm fp (oa.mono (Le.refl F) ((keep p u hu).trans hu.symm))
      · rw [List.getElem?_map] at e
        obtain ⟨d, hd', rfl⟩ := Option.map_eq_some_iff.mp e
        obtain ⟨v, hv, rv⟩ := hd.getD hd'
        refine ⟨v, ?_, .mk_fz rfl rv⟩
        rw [List.getElem?_map, List.getElem?_cons_succ, List.getElem?_append_right (by omega), show j - vs.length = j' by omega, hv]; rfl
  · have g1 := map_some_get h1
    have g2 := map_some_get h2
    have g3 := map_some_get h3
    have g4 := map_some_get h4
    have key : ∀ (j : Nat) (s : Sl), as[j]? = some s → s.m ≠ .fz → (V.ref x :: (vs ++ dvs))[j + 1]? = some (.ref p) → (vs.map some)[j]? = some (some (.ref p)) ∧ p ≠ x := fun j s hj hm hv => by
      obtain ⟨v, hv', ok⟩ := R.at_ j s (by rw [List.getElem?_map, hj]; rfl)
      have := vat j v (map_some_get hv')
      rw [hv] at this; cases this
      obtain ⟨q, e, _, oa⟩ := ok.nfz hm
      cases e
      obtain ⟨u, hu⟩ := oa.has
      exact ⟨hv', fun z => by rw [z, hx] at hu; cases hu⟩
    rcases slot i s g1 m1 with ⟨rfl, _⟩ | ⟨i', rfl, a1⟩
    · rcases slot j t g2 m2 with ⟨rfl, _⟩ | ⟨j', rfl, a2⟩
      · rfl
      · simp at g3; subst g3
        exact absurd rfl (key j' t a2 m2 g4).2
    · rcases slot j t g2 m2 with ⟨rfl, _⟩ | ⟨j', rfl, a2⟩
      · simp at g4; subst g4
        exact absurd rfl (key i' s a1 m1 g3).2
      · exact congrArg (· + 1) (R.ne i' j' s t p (by rw [List.getElem?_map, a1]; rfl) (by rw [List.getElem?_map, a2]; rfl) m1 m2 (key i' s a1 m1 g3).1 (key j' t a2 m2 g4).1)
  · rcases List.mem_cons.mp ha with rfl | ha
    · intro z; cases z
    · rcases List.mem_append.mp ha with ha | ha
      · exact no a ha
      · obtain ⟨d, _, rfl⟩ := List.mem_map.mp ha
        intro z; cases z
theorem make_post {v : V} {d : D} {o0 : List Sl} (hlen : as.length = vs.length) (hx : H x = none) (hdx : H dx = none) (hne : dx ≠ x)
    (Cp : CallPost K F (upd (upd H dx (.own x)) x (.ins C dx [])) (⟨.par, .ins c []⟩ :: (as ++ dd.map fun d => ⟨.fz, d⟩)) (V.ref x :: (vs ++ dvs)) F' H' (⟨.par, d⟩ :: o0) v ⟨.fz, .non⟩) :
    v = .non ∧ CallPost K F H as vs F' H' o0 (.ref x) ⟨.own, d⟩ := by
  have keep : ∀ a o, H a = some o → (upd (upd H dx (.own x)) x (.ins C dx [])) a = some o := fun a o h => by
    rw [upd_ne (ne_of_none h hx), upd_ne (ne_of_none h hdx)]; exact h
  have vat : ∀ (j : Nat) (s : Sl), as[j]? = some s → (V.ref x :: (vs ++ dvs))[j + 1]? = vs[j]? := fun j s h => by
    rw [List.getElem?_cons_succ, List.getElem?_append_left (by have := (List.getElem?_eq_some_iff.mp h).1; omega)]
  refine ⟨?_, Cp.leF, Cp.leH, fun a o h hn => Cp.keep a o (keep a o h) fun i s hi hm => ?_, fun a o h => Cp.there a o (keep a o h), fun a o h => ?_, fun i s hi hm => ?_, ?_⟩
  · have : Rep K F' v .non := Cp.res
    cases this; rfl
  · cases i with
    | zero =>
      intro z
      simp at z
      rw [z, h] at hx; cases hx
    | succ j =>
      rw [List.getElem?_cons_succ] at hi
      rcases app_get hi with hi | ⟨j', _, hi⟩
      · rw [vat j s hi]; exact hn j s hi hm
      · rw [List.getElem?_map] at hi
        obtain ⟨d, _, rfl⟩ := Option.map_eq_some_iff.mp hi
        cases hm
  · rcases Cp.newF a o h with q | q
    · exact .inl q
    · right
      cases z : H a with
      | none => exact .inl rfl
      | some u =>
        rw [keep a u z] at q
        rcases q with q | ⟨vs, q⟩
        · cases q
        · exact .inr ⟨vs, q⟩
  · obtain ⟨d', q1, p, q2, q3⟩ := Cp.args (i + 1) s (by rw [List.getElem?_cons_succ, List.getElem?_append_left (List.getElem?_eq_some_iff.mp hi).1]; exact hi) hm
    rw [List.getElem?_cons_succ] at q1
    rw [vat i s hi] at q2
    exact ⟨d', q1, p, q2, q3⟩
  · obtain ⟨d', q1, p, q2, q3, q4⟩ := Cp.args 0 ⟨.par, .ins c []⟩ rfl (by intro z; cases z)
    simp at q1 q2
    subst q1; subst q2
    exact ⟨x, rfl, hx, q3, q4⟩
end
theorem tE_make {K : PySem.W.Frag} {c : Str} {C : Addr} {M : FnM} {np : Nat} {dd : List D} {dvs : List V} {os : List Opd} {σ : L2.St} {H : Hp} {Q : VK} (hC : clsA K c = some C) (hd : ∀ F, RepL K F dvs dd) (hnp : os.length + dd.length + 1 = np) (h : tE K (fMake c M dd os) σ H Q) :
    tMakeG C (spG K np M) dvs (tA K os) σ H Q := by
  obtain ⟨F, ρ, s, ρ2, R, e, post⟩ := h
  obtain ⟨⟨pks, ρ1⟩, e1, e⟩ := bind_some e
  obtain ⟨as, e2, e⟩ := bind_some e
  try dsimp only at e
  split at e
  · rename_i nd
    split at e
    · rename_i d outs e3
      cases e
      refine ⟨F, ρ, pks, ρ1, R, e1, fun vs F1 H1 R1 S1 P1 x dx hx hdx hne => ?_⟩
      obtain ⟨Ra, no⟩ := args_rel R1 P1 e2 nd
      obtain ⟨Rb, nb⟩ := make_rel (C := C) hC (hd F1) Ra no hx hdx hne
      have hlen : as.length = vs.length := by have := Ra.len; simpa using this
      have hl : (⟨.par, .ins c []⟩ :: (as ++ dd.map fun d => ⟨.fz, d⟩) : List Sl).length = np := by
        simp only [List.length_cons, List.length_append, List.length_map]
        rw [argsOf_len e2, evalOs_len e1]; exact hnp
      refine ⟨F1, _, _, _, hl, Rb, nb, e3, fun v F' H' Cp => ?_⟩
      obtain ⟨hv, Cq⟩ := make_post hlen hx hdx hne Cp
      obtain ⟨R2, S2⟩ := call_rel R1 P1 e2 nd Cq
      exact ⟨hv, post (.ref x) F' H' R2 (S1.trans S2) (Cq.res.back S1)⟩
    · cases e
  · cases e
/-- a class of the text that can be made -/
def Mak (P : Program) (w : World) (K : PySem.W.Frag) (mg : Str → Option Value) (base : Heap) (k np : Nat) (c : Str) (dd : List D) (M : FnM) : Prop :=
  ∃ C f fd ps dvs ds, clsA K c = some C ∧ mg c = some (.ref C) ∧ Mk K C f ∧ ps.length = np ∧ FnG P w K mg base k f fd ps (spG K np M) ∧ Binds K fd ps ds ∧ Vals dvs ds ∧ ∀ F, RepL K F dvs dd
theorem ve_make {X : Cx} {k j np : Nat} {c : Str} {dd : List D} {M : FnM} {p pos : Pos} {e : Expr} {es : List Expr} {os : List Opd} (hM : Mak X.prog X.w X.K X.mg X.base j np c dd M) (hr : Room k X.A) (hgu : X.A.guards = some []) (hjk : j + 1 ≤ k) (ha : VA X (e :: es) os)
    (hnp : os.length + dd.length + 1 = np := by rfl) (hg : Gl X c := by rfl) (hdb : (c == ("__debug__" : Str)) = false := by decide) (he : starEach (e :: es) X.env = (false, eval e X.env) :: starEach es X.env := by rfl) (hpl : (backTo pos (starEach es X.env)).any (·.1) = false := by rfl) :
    VE X (.Call (.Name c p) (e :: es) [] pos) (fMake c M dd os) := by
  obtain ⟨C, f, fd, ps, dvs, ds, hC, hm, mk, hl, F, hb, hd, hr'⟩ := hM
  exact VE.of (pe_makeG mk F (hr.mono hjk) hgu hg hm hb hd ha hdb he hpl) fun _ _ _ _ q => tE_make hC hr' hnp q
end VI

/-! Own operators of classes of the text: in, o[i], len, ==, binary ones, ~. -/
namespace VI
open PySem PySem.Spec PyProof.Rows L2

section
variable {X : Cx} {k : Nat} {f C : Addr} {fd : FuncData} {ps : List Str} {sp : SpG}
/-- a call from within a builtin -/
theorem run_fnA {A : Around} {pins : List (Addr × Obj)} {σ : L2.St} {H : Hp} {s : Shared} {Q : VK} {us : List Value} {vs : List V} (F : FnG X.prog X.w X.K X.mg X.base k f fd ps sp) (hr : Room k A) (hgu : A.guards = some []) (hfr : A.frames = X.A.frames) (hb : Binds X.K fd ps [])
    (I : Inv X pins σ H s) (r : Vals vs us) (h : sp vs H Q) : wpAny (model X.prog X.w) A (call (.ref f) us) (EP X pins σ Q) X.xe s := by
  have hl : (us ++ []).length = ps.length := by rw [List.append_nil, ← r.length]; exact F.len _ _ _ h
  have e0 : Env0 X.prog X.w X.K X.mg X.base A X.stack s H := by
    have e := I.env0
    exact ⟨by rw [hfr]; exact e.frames, e.mod, e.bs, e.bsz, e.funs, e.frf, e.hok, e.bare⟩
  have hb' := hb s us I.kIn hl
  rw [List.append_nil] at hb'
  refine wpAny_call (codeAny_mono (F.run A X.stack s H ⟨us, []⟩ us vs Q hr hgu e0 hb' r h) fun res s' hq => ?_)
  cases res with
  | error ex => exact hq.elim
  | ok fl => cases fl with
    | ret u => exact I.after hq
    | _ => exact hq.elim
end
/-- an own special method -/
def Spc (P : Program) (w : World) (K : PySem.W.Frag) (mg : Str → Option Value) (base : Heap) (k np : Nat) (m c : Str) (M : FnM) : Prop :=
  ∃ C f fd ps, clsA K c = some C ∧ PySem.W.findIn K (.ref C) m = some (some (.ref f)) ∧ PySem.W.isFn K (.ref f) = true ∧ PySem.W.fnIn K f = true ∧ PySem.W.selfFirst K C = true ∧ PySem.W.noSeq K C = true ∧ ps.length = np ∧ FnG P w K mg base k f fd ps (spG K np M) ∧ Binds K fd ps []
theorem ins_at {X : Cx} {pins : List (Addr × Obj)} {σ : L2.St} {H : Hp} {s : Shared} {a C dx : Addr} {fs : List (Str × V)} (I : Inv X pins σ H s) (e : H a = some (.ins C dx fs)) : ∃ ox od, PySem.W.InstAt s.heap a ox C od := by
  obtain ⟨mA, J, _⟩ := ins_get I.hok e
  obtain ⟨od, J, _⟩ := J.look
  exact ⟨_, _, J⟩
/-! what a special method's answer becomes -/
inductive Fin3 where | id | bool | neg
def Fin3.d : Fin3 → Sl → Option Sl
  | .id, r => some r
  | .bool, ⟨.fz, .bl b⟩ => some ⟨.fz, .bl b⟩
  | .neg, ⟨.fz, .bl b⟩ => some ⟨.fz, .bl (!b)⟩
  | _, _ => none
def Fin3.v : Fin3 → V → V → Prop
  | .id, v, w => w = v
  | .bool, v, w => ∃ b, v = .bl b ∧ w = .bl b
  | .neg, v, w => ∃ b, v = .bl b ∧ w = .bl (!b)
@[simp] def ord2 {α : Type} : Bool → α → α → List α
  | true, a, b => [b, a]
  | false, a, b => [a, b]
@[simp] def rcv {α : Type} : Bool → α → α → α
  | true, _, b => b
  | false, a, _ => a
/-- an operator of two operands by an own method; swap: the receiver is the right one -/
def fSp2 (swap : Bool) (fin : Fin3) (tbl : Str → Option FnM) (a b : Opd) : ME := fun ρ => do
  let (pa, ρ1) ← evalO a ρ
  let (pb, ρ2) ← evalO b ρ1
  match look (rcv swap pa pb) ρ2 with
  | some (.ins c _) =>
    match tbl c with
    | some M => do
      let as ← argsOf ρ2 (ord2 swap pa pb)
      if nodupS ρ2 (ord2 swap pa pb) = true then do
        let (r, outs) ← M as
        let r' ← fin.d r
        pure (r', wb (ord2 swap pa pb) outs ρ2)
      else none
    | none => none
  | _ => none
def rSp2 (K : PySem.W.Frag) (swap : Bool) (fin : Fin3) (tbl : Str → Option FnM) : R2 := fun x y H Q => ∃ c M, tbl c = some M ∧ ∀ C, clsA K c = some C → ∃ a dx fs, rcv swap x y = .ref a ∧ H a = some (.ins C dx fs) ∧
  spG K 2 M (ord2 swap x y) H fun v H' => ∃ w, fin.v v w ∧ Q w H'
theorem fin_res {K : PySem.W.Frag} {F' H H' : Hp} {v : V} {r r' : Sl} {fin : Fin3} (h : Res K F' H H' v r) (e : fin.d r = some r') : ∃ w, fin.v v w ∧ Res K F' H H' w r' := by
  cases fin with
  | id => cases e; exact ⟨v, rfl, h⟩
  | bool =>
    obtain ⟨m, d⟩ := r
    cases m <;> cases d <;> first | cases e | skip
    have h' : Rep K F' v (.bl _) := h
    cases h'
    exact ⟨_, ⟨_, rfl, rfl⟩, Rep.bl _⟩
  | neg =>
    obtain ⟨m, d⟩ := r
    cases m <;> cases d <;> first | cases e | skip
    have h' : Rep K F' v (.bl _) := h
    cases h'
    exact ⟨_, ⟨_, rfl, rfl⟩, Rep.bl _⟩
theorem tE_sp2 {K : PySem.W.Frag} {swap : Bool} {fin : Fin3} {tbl : Str → Option FnM} {a b : Opd} {σ : L2.St} {H : Hp} {Q : VK} (h : tE K (fSp2 swap fin tbl a b) σ H Q) : tOp (rSp2 K swap fin tbl) (tO K a) (tO K b) σ H Q := by
  obtain ⟨F, ρ, s, ρ', R, e, post⟩ := h
  obtain ⟨⟨pa, ρ1⟩, e1, e⟩ := bind_some e
  obtain ⟨⟨pb, ρ2⟩, e2, e⟩ := bind_some e
  try dsimp only at e
  split at e
  · rename_i c fs hlk
    split at e
    · rename_i M hM
      obtain ⟨as, e3, e⟩ := bind_some e
      try dsimp only at e
      split at e
      · rename_i nd
        obtain ⟨⟨r, outs⟩, e4, e⟩ := bind_some e
        obtain ⟨r', e5, e⟩ := bind_some e
        cases e
        refine ⟨F, ρ, pa, ρ1, R, e1, fun x F1 H1 R1 S1 P1 => ⟨F1, ρ1, pb, ρ2, R1, e2, fun y F2 H2 R2 S2 P2 => ⟨c, M, hM, fun C hC => ?_⟩⟩⟩
        have P1' : PkOk K F2 σ x pa := P1.mono S2.stp.le
        have Pr : PkOk K F2 σ (rcv swap x y) (rcv swap pa pb) := by cases swap <;> assumption
        obtain ⟨a', C', dx, vfs, ea, h0, h1, h2, h3⟩ := (Pr.vw R2 hlk).ins R2.le
        rw [hC] at h0; cases h0
        refine ⟨a', dx, vfs, ea, h1, ?_⟩
        have P : PkL K F2 σ (ord2 swap x y) (ord2 swap pa pb) := by
          cases swap
          · exact .cons P1' (.cons P2 .nil)
          · exact .cons P2 (.cons P1' .nil)
        obtain ⟨Ra, no⟩ := args_rel R2 P e3 nd
        have hl : as.length = 2 := by rw [argsOf_len e3]; cases swap <;> rfl
        refine ⟨F2, as, _, _, hl, Ra, no, e4, fun v F' H' Cp => ?_⟩
        obtain ⟨R3, S3⟩ := call_rel R2 P e3 nd Cp
        obtain ⟨w, hw, res⟩ := fin_res ((Cp.res.back S2).back S1) e5
        exact ⟨w, hw, post w F' H' R3 ((S1.trans S2).trans S3) res⟩
      · cases e
    · cases e
  · cases e
section
variable {X : Cx} {j k : Nat} {tbl : Str → Option FnM}
theorem op_inI (hT : ∀ c M, tbl c = some M → Spc X.prog X.w X.K X.mg X.base j 2 "__contains__" c M) (hr : Room k X.A) (hgu : X.A.guards = some []) (hjk : j ≤ k) : OpR X (compareOp .In) (rSp2 X.K true .bool tbl) := by
  intro pins s σ H x y v u Q I rx ry h
  obtain ⟨c, M, hM, h⟩ := h
  obtain ⟨C, f, fd, ps, hC, hs, hf, hfn, hsf, hns, hl, F, hb⟩ := hT c M hM
  obtain ⟨a, dx, fs, ey, ea, hsp⟩ := h C hC
  have ey' : y = .ref a := ey
  subst ey'
  cases ry
  obtain ⟨ox, od, J⟩ := ins_at I ea
  obtain ⟨m, hF⟩ := I.fr
  refine PySem.W.in_K hF I.ok.mod.kin J hs hf (wpAny_mono (run_fnA F (hr.mono hjk) hgu rfl hb I (.cons (show L2.RelV (.ref a) (Value.ref a) from rfl) (.cons rx .nil)) hsp) (fun r s' z => ?_) fun _ _ z => z)
  obtain ⟨w, H', I', rw', w', ⟨b, rfl, rfl⟩, q⟩ := z
  cases rw'
  exact wpAny_truthy_bool ⟨.bl b, H', I', rfl, q⟩
theorem op_notInI (hT : ∀ c M, tbl c = some M → Spc X.prog X.w X.K X.mg X.base j 2 "__contains__" c M) (hr : Room k X.A) (hgu : X.A.guards = some []) (hjk : j ≤ k) : OpR X (compareOp .NotIn) (rSp2 X.K true .neg tbl) := by
  intro pins s σ H x y v u Q I rx ry h
  obtain ⟨c, M, hM, h⟩ := h
  obtain ⟨C, f, fd, ps, hC, hs, hf, hfn, hsf, hns, hl, F, hb⟩ := hT c M hM
  obtain ⟨a, dx, fs, ey, ea, hsp⟩ := h C hC
  have ey' : y = .ref a := ey
  subst ey'
  cases ry
  obtain ⟨ox, od, J⟩ := ins_at I ea
  obtain ⟨m, hF⟩ := I.fr
  refine PySem.W.notIn_K hF I.ok.mod.kin J hs hf (wpAny_mono (run_fnA F (hr.mono hjk) hgu rfl hb I (.cons (show L2.RelV (.ref a) (Value.ref a) from rfl) (.cons rx .nil)) hsp) (fun r s' z => ?_) fun _ _ z => z)
  obtain ⟨w, H', I', rw', w', ⟨b, rfl, rfl⟩, q⟩ := z
  cases rw'
  exact wpAny_truthy_bool ⟨.bl (!b), H', I', rfl, q⟩
/-- == of two instances, or of an instance and a value whose type does not come first -/
theorem op_eqI {c₀ : Str} (hT : ∀ c M, tbl c = some M → Spc X.prog X.w X.K X.mg X.base j 2 "__eq__" c M) (hr : Room k X.A) (hgu : X.A.guards = some []) (hjk : j ≤ k) : OpR X (compareOp .Eq) (fun x y H Q => rSp2 X.K false .bool tbl x y H Q ∧ ∀ c M, tbl c = some M → ∀ C, clsA X.K c = some C → ∃ b dx fs, y = .ref b ∧ H b = some (.ins C dx fs)) := by
  intro pins s σ H x y v u Q I rx ry h
  obtain ⟨⟨c, M, hM, h⟩, hy⟩ := h
  obtain ⟨C, f, fd, ps, hC, hs, hf, hfn, hsf, hns, hl, F, hb⟩ := hT c M hM
  obtain ⟨a, dx, fs, ex, ea, hsp⟩ := h C hC
  have ex' : x = .ref a := ex
  subst ex'
  obtain ⟨b, dy, gs, rfl, eb⟩ := hy c M hM C hC
  cases rx
  cases ry
  obtain ⟨ox, od, J⟩ := ins_at I ea
  obtain ⟨oy, oe, J'⟩ := ins_at I eb
  obtain ⟨m, hF⟩ := I.fr
  have hu := hr.units
  have := hr.un
  show wpAny _ _ (richCompare .Eq (.ref a) (.ref b)) _ _ _
  refine PySem.W.cmp_K (op := .Eq) (tb := .ref C) (by omega) hF I.ok.mod.kin J J'.type (by simp [PySem.W.notFirst]) hs hf (wpAny_mono (run_fnA F (hr.mono hjk) hgu rfl hb I (.cons (show L2.RelV (.ref a) (Value.ref a) from rfl) (.cons (show L2.RelV (.ref b) (Value.ref b) from rfl) .nil)) hsp) (fun r s' z => ?_) fun _ _ z => z)
  obtain ⟨w, H', I', rw', w', ⟨b, rfl, rfl⟩, q⟩ := z
  cases rw'
  exact ⟨.bl b, H', I', rfl, q⟩
end
end VI

/-! set(xs) of any number of texts, and len of it. -/
namespace VI
open PySem PySem.Spec PyProof.Rows L2

/-- the texts, each where it is first met -/
def ddS (ys : List Str) (x : Str) : List Str := if x ∈ ys then ys else ys ++ [x]
def dedS (xs : List Str) : List Str := xs.foldl ddS []
theorem dedS_snoc (xs : List Str) (x : Str) : dedS (xs ++ [x]) = ddS (dedS xs) x := by unfold dedS; rw [List.foldl_append]; rfl
theorem dedS_len : ∀ xs : List Str, (dedS xs).length ≤ xs.length := by
  intro xs
  suffices h : ∀ (xs ys : List Str), (xs.foldl ddS ys).length ≤ ys.length + xs.length by simpa [dedS] using h xs []
  intro xs
  induction xs with
  | nil => intro ys; simp
  | cons x xs ih =>
    intro ys
    have := ih (ddS ys x)
    have l : (ddS ys x).length ≤ ys.length + 1 := by unfold ddS; split <;> simp
    simp only [List.foldl_cons, List.length_cons]; omega
def has (ys : List Str) (k : Str) : Bool := decide (k ∈ ys)
theorem has_dd (ys : List Str) (x k : Str) : has (ddS ys x) k = (has ys k || decide (k = x)) := by
  unfold has ddS
  by_cases h : x ∈ ys
  · rw [if_pos h]
    by_cases e : k = x
    · subst e; simp [h]
    · simp [e]
  · rw [if_neg h]; simp
theorem len_dd (ys : List Str) (x : Str) : (ddS ys x).length = if has ys x = true then ys.length else ys.length + 1 := by
  unfold ddS has
  by_cases h : x ∈ ys <;> simp [h]
section
variable {prog : Program} {w : World} {A : Around} {R : Result → Shared → Prop} {it : Addr} {fp wr : List Addr} {G : Array GenState → Array GenState → Prop} {n : Nat} {P : Nat → Value → Prop} {St : Nat → Shared → Prop}
theorem SetOf_stays {κ : Type} [DecidableEq κ] {knd : KeyKind prog w κ} {h h' : Heap} {a : Addr} {S : κ → Bool} {m : Nat} (hS : h.SetOf knd a S m) (e : ∀ o, h.get? a = some o → h'.get? a = some o) : h'.SetOf knd a S m := by
  obtain ⟨o, es, ep, t, ho, r⟩ := hS
  exact ⟨o, es, ep, t, e o ho, r⟩
/-- the texts that an iterator gives go into a set, one by one -/
theorem fill (W : WalksS prog w A.in1 it fp wr G n P St) (S : Addr) (far : S ∉ fp) (xs : List Str) (hn : xs.length = n) (small : n + 1 < scanBound) (vals : ∀ i v, P i v → ∃ x t, xs[i]? = some x ∧ v = .str x t)
    (left : Nat) : ∀ (i : Nat) (s : Shared), i + left = n → St i s → s.heap.SetOf (PySem.strKind prog w) S (has (dedS (xs.take i))) (dedS (xs.take i)).length →
      (∀ s', Moved (S :: wr) G s s' → s'.heap.SetOf (PySem.strKind prog w) S (has (dedS xs)) (dedS xs).length → R (.ok (.ret .none)) s') →
      codeAny (model prog w) A (.builtin "set.update.loop" ⟨[.ref S, .ref it], []⟩) R s := by
  have off : S ∉ wr := fun h => far (W.sub _ h)
  have more : ∀ b ∈ wr, b ∈ S :: wr := fun b hb => List.mem_cons_of_mem _ hb
  have step : ∀ (s : Shared), wpAny (model prog w) A.in1 (Builtin.«set.update.loop» ⟨[.ref S, .ref it], []⟩) (fun fin s' => match fin with | .done f => R (.ok f) s' | .again c' => c'.quiet = true ∧ codeAny (model prog w) A c' R s') (fun e s' => R (.error e) s') s → codeAny (model prog w) A (.builtin "set.update.loop" ⟨[.ref S, .ref it], []⟩) R s := fun s h =>
    codeAny_builtin PyProof.Rows.F.entry_set_update_loop (by rw [Around.under_plainId PyProof.Rows.F.plain_set_update_loop _]; exact h)
  induction left with
  | zero =>
    intro i s hi st hS fin
    obtain rfl : i = n := hi
    refine step s ?_
    show wpAny _ A.in1 (pyNext (.ref it) >>= _) _ _ s
    refine wpAny_bind (W.done s _ _ st fun s' mv => ?_)
    rw [← hn, List.take_length] at hS
    exact wpAny_pure (fin s' (mv.mono more) (SetOf_stays hS fun o e => mv.heap S o off e))
  | succ left ih =>
    intro i s hi st hS fin
    have lt : i < n := by omega
    refine step s ?_
    show wpAny _ A.in1 (pyNext (.ref it) >>= _) _ _ s
    refine wpAny_bind (W.item i s _ _ lt st fun v s1 pv st1 mv => ?_)
    obtain ⟨x, t, hx, rfl⟩ := vals i v pv
    have hS1 := SetOf_stays (h' := s1.heap) hS fun o e => mv.heap S o off e
    show wpAny _ A.in1 (holding [Value.str x t] (setAdd S (.str x t)) >>= _) _ _ s1
    refine wpAny_bind (wpAny_holding ?_)
    unfold setAdd
    refine wpAny_holding (wpAny_bind ((PySem.strKind prog w).pyHash (k := x) (strKind_is _ _ _ _) ?_))
    have room : (dedS (xs.take i)).length + 1 < scanBound := by
      have := dedS_len (xs.take i)
      rw [List.length_take] at this; omega
    refine wpAny_setAddHashed_of (knd := PySem.strKind prog w) (s := { s1 with toks := s1.toks + 1 }) (strKind_is _ _ _ _) rfl hS1 room fun h2 but hS2 => ?_
    have et : xs.take (i + 1) = xs.take i ++ [x] := by
      obtain ⟨hl, rfl⟩ := List.getElem?_eq_some_iff.mp hx
      exact (List.take_append_getElem hl).symm
    have hS3 : h2.SetOf (PySem.strKind prog w) S (has (dedS (xs.take (i + 1)))) (dedS (xs.take (i + 1))).length := by
      rw [et, dedS_snoc]
      exact PyProof.Rows.SetOf_congr hS2 (fun k => (has_dd _ x k).symm) (len_dd _ x).symm
    refine wpAny_pure ⟨plainId_quiet PyProof.Rows.F.plain_set_update_loop _, ih (i + 1) _ (by omega) (W.frame _ s1 _ _ st1 (Nat.le_succ _) fun b hb o e => ?_) hS3 fun s3 mv3 hS4 => ?_⟩
    · have nb : b ≠ S := fun z => far (z ▸ hb)
      rw [but.2 b nb]; exact e
    · refine fin s3 (Moved.trans W.gtrans ((mv.mono more).then_heap (Nat.le_succ _) fun b o hb e => ?_) mv3) hS4
      have nb : b ≠ S := fun z => hb (by rw [z]; exact List.mem_cons_self)
      rw [but.2 b nb]; exact e
end
section
variable {prog : Program} {w : World} {A : Around} {E : Value → Shared → Prop} {s : Shared}
/-- what of a kind of sequence is asked: how its iterator is made and walked -/
structure SeqKd (prog : Program) (w : World) (T : String) (ic : String) : Prop where
  noSet : isSubtype (.type T) (.type "set") = pure false
  noFrz : isSubtype (.type T) (.type "frozenset") = pure false
  noDict : (Value.type T == Value.type "dict") = false
  iter : ∀ {A : Around} {E : Value → Shared → Prop} {s : Shared} {l : Addr} {o : Obj} {items : Array Value} {c : Nat} {Q : Value → Shared → Prop}, s.heap.get? l = some o → o.cls = .type T → o.data = .seq items c →
    Q (.ref s.heap.objs.size) { s with heap := s.heap.push { cls := .type ic, data := .fields #[.ref l, .int 0 0] } } → wpAny (model prog w) A (pyIter (.ref l)) Q E s
  walk : ∀ {A : Around} (_ : A.handled = none) (I l : Addr) (_ : l ≠ I) (items : Array Value), ∃ St : Nat → Shared → Prop, WalksS prog w A I [I, l] [I] (fun g g' => g' = g) items.size (fun i v => items[i]? = some v) St ∧
    ∀ (s : Shared) (o oI : Obj) (c : Nat), s.heap.get? I = some { cls := .type ic, data := .fields #[.ref l, .int 0 0] } → s.heap.get? l = some o → o.cls = .type T → o.data = .seq items c → St 0 s
theorem kd_list : SeqKd prog w "list" "list_iterator" where
  noSet := PySem.F.sub_list_set
  noFrz := PySem.F.sub_list_frozenset
  noDict := by decide
  iter := fun h1 h2 h3 q => wpAny_pyIter_list ⟨_, h1, h2, _, h3⟩ q
  walk := fun hh I l hne items => ⟨_, (Walks.list hh I l hne items).toS, fun s o oI c h1 h2 h3 h4 => ⟨⟨_, h1, rfl, rfl⟩, ⟨o, h2, h3, c, h4⟩⟩⟩
theorem kd_tuple : SeqKd prog w "tuple" "tuple_iterator" where
  noSet := PySem.F.sub_tuple_set
  noFrz := PySem.F.sub_tuple_frozenset
  noDict := by decide
  iter := fun h1 h2 h3 q => wpAny_pyIter_tuple ⟨_, h1, h2, _, h3⟩ q
  walk := fun hh I l hne items => ⟨_, (Walks.tuple hh I l hne items).toS, fun s o oI c h1 h2 h3 h4 => ⟨⟨_, h1, rfl, rfl⟩, ⟨o, h2, h3, c, h4⟩⟩⟩
/-- set(xs): a new set of the texts -/
theorem set_new {T ic : String} (kd : SeqKd prog w T ic) {l : Addr} {ol : Obj} {items : Array Value} {cap : Nat} {xs : List Str} {Q : Value → Shared → Prop} (calm : A.handled = none) (hol : s.heap.get? l = some ol) (hcl : ol.cls = .type T) (hdl : ol.data = .seq items cap)
    (texts : ∀ (i : Nat) (v : Value), items[i]? = some v → ∃ x t, xs[i]? = some x ∧ v = Value.str x t) (hn : xs.length = items.size) (small : items.size + 1 < scanBound)
    (q : ∀ (h' : Heap) (tk : Nat), h'.SetOf (PySem.strKind prog w) s.heap.objs.size (has (dedS xs)) (dedS xs).length → (∀ b o, s.heap.get? b = some o → h'.get? b = some o) → Q (.ref s.heap.objs.size) { s with heap := h', toks := tk }) :
    wpAny (model prog w) A (call (.type "set") [.ref l]) Q E s := by
  obtain ⟨c, tl, hmro⟩ := PySem.F.called_set.mro
  have hmade := PySem.F.called_set.made
  have hsub := PySem.F.called_set.sub
  refine wpAny_call (codeAny_of_tree ?_)
  show wpAny _ _ (callAny (.type "set") _) _ _ _
  refine wpAny_pure ⟨Code.quiet_builtin _ (by decide +kernel), codeAny_builtin PySem.F.entry_type_call ?_⟩
  rw [Around.under_plain (weight_type_call_type "set" [.ref l] []) rfl]
  have g1 := PySem.F.called_set.notType
  have g2 := PySem.F.called_set.canCreate
  have g3 := PySem.F.typeCall_set_1 (.ref l)
  repeat (any_goals (first | assumption | wp_step))
  -- the empty set
  refine codeAny_mono (code_set_new_1 (.ref l) (E := E) (Q₁ := fun obj s1 => ∃ led : Bool, obj = .ref s.heap.objs.size ∧ s1 = { s with heap := s.heap.push { cls := .type "set", dict := none, data := .set #[] 0 (.fresh 0 0 led) } }) fun led => ⟨led, rfl, rfl⟩) fun r s1 hr => ?_
  cases r with
  | error e => exact hr
  | ok fl =>
    cases fl with
    | ret obj =>
      obtain ⟨led, rfl, rfl⟩ := hr
      generalize hemp : ({ cls := .type "set", dict := none, data := .set #[] 0 (.fresh 0 0 led) } : Obj) = emp
      have getS : (s.heap.push emp).get? s.heap.objs.size = some emp := Heap.get?_push_size _ (by rw [← hemp]; rfl)
      have tyS : Shared.TypeIs { s with heap := s.heap.push emp } (.ref s.heap.objs.size) "set" := ⟨_, getS, by rw [← hemp]⟩
      have i1 := PySem.F.called_set.init.lookup
      have i2 := PySem.F.called_set.init.bind (.ref s.heap.objs.size)
      repeat (any_goals (first | assumption | wp_step))
      -- it is filled
      refine codeAny_mono (codeAny_call_builtin (R := wants (fun r s2 => r = .none ∧ ∃ h' tk, s2 = { s with heap := h', toks := tk } ∧ h'.SetOf (PySem.strKind prog w) s.heap.objs.size (has (dedS xs)) (dedS xs).length ∧ ∀ b o, s.heap.get? b = some o → h'.get? b = some o) E)
        PySem.F.called_set.init.plain PySem.F.entry_set_init (check_set_init_1 tyS ?_)) fun r2 s2 hr2 => ?_
      · have hol1 : (s.heap.push emp).get? l = some ol := Heap.get?_push_of_some _ hol
        have ls : l < s.heap.objs.size := Heap.lt_size hol
        have k1 := kd.noSet
        have k2 := kd.noFrz
        have k3 := kd.noDict
        subst hemp
        unfold Builtin.«set.__init__» noKeywords Builtin.Frozenset.updateFrom
        generalize hPI : pyIter = PI
        obtain ⟨oc, od, dt, sl⟩ := ol
        simp only at hcl hdl
        subst hcl
        subst hdl
        wp_walk
        subst hPI
        refine kd.iter (o := ⟨.type T, od, .seq items cap, sl⟩) (items := items) (c := cap) ?iA ?iB ?iC ?iD
        case iA => exact hol1
        case iB => rfl
        case iC => rfl
        refine wpAny_bind (wpAny_runValue ?_)
        have calm3 : A.in1.in1.in1.handled = none := by simp [calm]
        have ne : l ≠ (s.heap.push ({ cls := .type "set", dict := none, data := .set #[] 0 (.fresh 0 0 led) } : Obj)).objs.size := by rw [Heap.size_push]; exact Nat.ne_of_lt (Nat.lt_succ_of_lt ls)
        have far : s.heap.objs.size ∉ [(s.heap.push ({ cls := .type "set", dict := none, data := .set #[] 0 (.fresh 0 0 led) } : Obj)).objs.size, l] := by
          rw [Heap.size_push]
          intro z
          rcases List.mem_cons.mp z with z | z
          · exact absurd z (Nat.ne_of_lt (Nat.lt_succ_self _))
          · rcases List.mem_cons.mp z with z | z
            · exact absurd z (Nat.ne_of_gt ls)
            · cases z
        obtain ⟨St, W, st0⟩ := kd.walk (prog := prog) (w := w) calm3 (s.heap.push ({ cls := .type "set", dict := none, data := .set #[] 0 (.fresh 0 0 led) } : Obj)).objs.size l ne items
        refine fill W s.heap.objs.size far xs hn small texts items.size 0 _ (by omega) (st0 _ ⟨.type T, od, .seq items cap, sl⟩ default cap (Heap.get?_push_size _ rfl) (Heap.get?_push_of_some _ hol1) rfl rfl) ?_ fun s3 mv hS => ?_
        · have g := Heap.get?_push_of_some (h := s.heap.push ({ cls := .type "set", dict := none, data := .set #[] 0 (.fresh 0 0 led) } : Obj)) { cls := .type ic, data := .fields #[.ref l, .int 0 0] } getS
          exact PyProof.Rows.SetOf_congr ((PyProof.Rows.setObjOf_fresh (knd := PySem.strKind prog w) led).setOf g (by unfold scanBound; omega)) (fun _ => rfl) rfl
        · obtain ⟨h3, g3, d3, tk3, os3⟩ := s3
          obtain rfl : g3 = s.gens := mv.gens
          obtain rfl : d3 = s.drawn := mv.drawn
          obtain rfl : os3 = s.os := mv.os
          refine wpAny_pure (wpAny_pure ⟨rfl, h3, tk3, rfl, hS, fun b o e => mv.heap b o ?_ (Heap.get?_push_of_some _ (Heap.get?_push_of_some _ e))⟩)
          have lb := Heap.lt_size e
          rw [Heap.size_push]
          intro z
          rcases List.mem_cons.mp z with z | z
          · exact absurd z (Nat.ne_of_lt lb)
          · rcases List.mem_cons.mp z with z | z
            · exact absurd z (Nat.ne_of_lt (Nat.lt_succ_of_lt lb))
            · cases z
      · cases r2 with
        | error e => exact hr2
        | ok fl2 =>
          cases fl2 with
          | ret r =>
            obtain ⟨rfl, h', tk, rfl, hS, hk⟩ := hr2
            repeat (any_goals (first | assumption | wp_step))
            exact q _ _ hS hk
          | _ => exact hr2.elim
    | _ => exact hr.elim
end
end VI

/-! len(set(xs)); isinstance; all, any; tuple(xs); names of classes as values. -/
namespace VI
open PySem PySem.Spec PyProof.Rows L2

/-! ### len(set(xs)) -/
def tLenS (K : PySem.W.Frag) (ta : TE) : TE := fun σ H Q => ta σ H fun x H1 => ∃ l, ∃ xs : List Str, x = .ref l ∧ (SqL K H1 l (xs.map V.str) ∨ SqT K H1 l (xs.map V.str)) ∧ xs.length ≤ 4000 ∧ Q (.int (dedS xs).length) H1
theorem texts_at {xs : List Str} {its : List Value} (r : Vals (xs.map V.str) its) : ∀ (i : Nat) (v : Value), its.toArray[i]? = some v → ∃ x t, xs[i]? = some x ∧ v = Value.str x t := fun i v h => by
  have h' : its[i]? = some v := by simpa using h
  have hi : i < xs.length := by
    have := (List.getElem?_eq_some_iff.mp h').1
    rw [← r.length, List.length_map] at this; exact this
  obtain ⟨u, hu, t, ht⟩ := r.get (i := i) (x := .str xs[i]) (by simp [hi])
  rw [h'] at hu
  cases hu
  exact ⟨xs[i], t, List.getElem?_eq_getElem hi, ht⟩
theorem pe_lenS {X : Cx} {a : Expr} {ta : TE} {p p2 q pos : Pos} (hc : X.calm = true) (hg : Gl X "len") (hm : X.mg "len" = none) (hg2 : Gl X "set") (hm2 : X.mg "set" = none) (ha : PE X a ta)
    (na : starEach [a] X.env = (false, eval a X.env) :: starEach [] X.env := by rfl) : PE X (.Call (.Name "len" p) [.Call (.Name "set" p2) [a] [] q] [] pos) (tLenS X.K ta) := by
  refine ⟨fun pins s σ H Q I h => ?_⟩
  refine Call_ (ld_blt I hg hm boot_len ?_)
  refine PyProof.Rows.callWith_builtin1 (PyProof.Rows.args_cons ?_ rfl) rfl rfl
  refine Call_ (ld_blt I hg2 hm2 boot_set ?_)
  refine PyProof.Rows.callWith_type1 (PyProof.Rows.args_cons (thn (ha.run pins s σ H _ I h) fun v s1 z => PyProof.Rows.args_nil ?_) na) na rfl
  obtain ⟨x, H1, I1, r1, l, xs, rfl, hq, hl, q1⟩ := z
  cases r1
  have small : ∀ {n : Nat}, n = xs.length → n + 1 < scanBound := fun e => by unfold scanBound; omega
  have last : ∀ (h' : Heap) (tk : Nat), h'.SetOf (PySem.strKind X.prog X.w) s1.heap.objs.size (has (dedS xs)) (dedS xs).length → (∀ b o, s1.heap.get? b = some o → h'.get? b = some o) →
      wpAny (model X.prog X.w) X.A (spliced (backTo pos (starEach [] X.env))) (fun vs s2 => wpAny (model X.prog X.w) X.A (call (.builtin "len") (Value.ref s1.heap.objs.size :: vs)) (EP X pins σ Q) X.xe s2) X.xe { s1 with heap := h', toks := tk } := fun h' tk hS hk => by
    refine PyProof.Rows.args_nil ?_
    obtain ⟨o, es, ep, t, ho, hex, hd, _, _, _, hf, hn⟩ := hS
    have I2 : Inv X pins σ H1 { s1 with heap := h', toks := tk } := I1.kept hk
    have := dedS_len xs
    exact call_len_set ho hex hd hf (by rw [hn]; omega) ⟨.int (dedS xs).length, H1, I2.tok _, ⟨_, by rw [hn]⟩, q1⟩
  rcases hq with hq | hq
  · obtain ⟨its, r, pl, hz⟩ := I1.list hq
    obtain ⟨o, h1, h2, c, h3⟩ := pl.isList
    have e : its.toArray.size = xs.length := by rw [List.size_toArray, ← r.length, List.length_map]
    exact set_new kd_list (I1.ok.hd hc) h1 h2 h3 (texts_at r) e.symm (small e) last
  · obtain ⟨its, r, pl, hz⟩ := I1.tuple hq
    obtain ⟨o, h1, h2, c, h3⟩ := pl
    have e : its.toArray.size = xs.length := by rw [List.size_toArray, ← r.length, List.length_map]
    exact set_new kd_tuple (I1.ok.hd hc) h1 h2 h3 (texts_at r) e.symm (small e) last
def gLenSet : D → Option Sl
  | .lst ds => match strsOf ds with
    | some xs => if xs.length ≤ 4000 then fzI (dedS xs).length else none
    | none => none
  | .tup ds => match strsOf ds with
    | some xs => if xs.length ≤ 4000 then fzI (dedS xs).length else none
    | none => none
  | _ => none
def rLenS (K : PySem.W.Frag) : V → Hp → VK → Prop := fun x H Q => ∃ l, ∃ xs : List Str, x = .ref l ∧ (SqL K H l (xs.map V.str) ∨ SqT K H l (xs.map V.str)) ∧ xs.length ≤ 4000 ∧ Q (.int (dedS xs).length) H
theorem op1_lenSet {K : PySem.W.Frag} : Op1 K (rLenS K) gLenSet := fun F H x d s Q l v g k => by
  unfold gLenSet at g
  split at g
  · split at g
    · rename_i ds xs hx
      split at g
      · rename_i hl
        cases g
        obtain ⟨a, vs, rfl, h1, h2⟩ := v.lst l
        have e := strsOf_v h2 hx
        subst e
        exact ⟨a, xs, rfl, .inl (SqL.of h1), hl, k _ _ _ (New.same l (.int _))⟩
      · cases g
    · cases g
  · split at g
    · rename_i ds xs hx
      split at g
      · rename_i hl
        cases g
        obtain ⟨a, vs, rfl, h1, h2, _⟩ := v.tup l
        have e := strsOf_v h2 hx
        subst e
        exact ⟨a, xs, rfl, .inr (SqT.of h1), hl, k _ _ _ (New.same l (.int _))⟩
      · cases g
    · cases g
  · cases g
theorem v_lenSet {X : Cx} {a : Expr} {o : Opd} {p p2 q pos : Pos} (hc : X.calm = true) (hm : X.mg "len" = none) (hm2 : X.mg "set" = none) (ha : VO X a o) (hg : Gl X "len" := by rfl) (hg2 : Gl X "set" := by rfl)
    (na : starEach [a] X.env = (false, eval a X.env) :: starEach [] X.env := by rfl) : VE X (.Call (.Name "len" p) [.Call (.Name "set" p2) [a] [] q] [] pos) (fOp1 gLenSet o) :=
  VE.of (pe_lenS hc hg hm hg2 hm2 ha na) fun _ _ _ _ q => tE_op1 op1_lenSet q

/-! ### all, any, tuple -/
def blsOf : List D → Option (List Bool)
  | [] => some []
  | .bl x :: ds => do
    let xs ← blsOf ds
    pure (x :: xs)
  | _ => none
theorem blsOf_v {K : PySem.W.Frag} {F : Hp} : ∀ {vs : List V} {ds : List D} {xs : List Bool}, RepL K F vs ds → blsOf ds = some xs → vs = xs.map V.bl
  | _, _, _, .nil, e => by cases e; rfl
  | _, _, _, .cons h t, e => by
    cases h with
    | bl b =>
      obtain ⟨xs, e1, e⟩ := bind_some e
      cases e
      rw [blsOf_v t e1]; rfl
    | _ => cases e
def gAll : List D → Option Sl
  | [.lst ds] => match blsOf ds with
    | some xs => fzB (xs.all id)
    | none => none
  | _ => none
def gAny : List D → Option Sl
  | [.lst ds] => match blsOf ds with
    | some xs => fzB (xs.any id)
    | none => none
  | _ => none
theorem opN_all {K : PySem.W.Frag} : OpN K (rAll K) gAll := fun F H vs ds s Q l v g k => by
  unfold gAll at g
  split at g
  · split at g
    · rename_i es xs hx
      cases g
      obtain ⟨x, rfl, w⟩ := v.one
      obtain ⟨a, ws, rfl, h1, h2⟩ := w.lst l
      have e := blsOf_v h2 hx
      subst e
      exact ⟨a, xs, rfl, SqL.of h1, k _ _ _ (New.same l (.bl _))⟩
    · cases g
  · cases g
theorem opN_any {K : PySem.W.Frag} : OpN K (rAny K) gAny := fun F H vs ds s Q l v g k => by
  unfold gAny at g
  split at g
  · split at g
    · rename_i es xs hx
      cases g
      obtain ⟨x, rfl, w⟩ := v.one
      obtain ⟨a, ws, rfl, h1, h2⟩ := w.lst l
      have e := blsOf_v h2 hx
      subst e
      exact ⟨a, xs, rfl, SqL.of h1, k _ _ _ (New.same l (.bl _))⟩
    · cases g
  · cases g
def gTuple : List D → Option Sl
  | [.lst ds] => some ⟨.fz, .tup ds⟩
  | [.tup ds] => some ⟨.fz, .tup ds⟩
  | _ => none
theorem opN_tuple {K : PySem.W.Frag} : OpN K (fun xs H Q => ∃ p ys, xs = [.ref p] ∧ ((SqL K H p ys ∧ ∀ l, H l = none → Q (.ref l) (upd H l (.tup ys))) ∨ (SqT K H p ys ∧ Q (.ref p) H))) gTuple := fun F H vs ds s Q l v g k => by
  unfold gTuple at g
  split at g
  · cases g
    obtain ⟨x, rfl, w⟩ := v.one
    obtain ⟨a, ws, rfl, h1, h2⟩ := w.lst l
    exact ⟨a, ws, rfl, .inl ⟨SqL.of h1, fun p hp => k _ _ _ (New.tup l hp h2)⟩⟩
  · cases g
    obtain ⟨x, rfl, w⟩ := v.one
    obtain ⟨a, ws, rfl, h1, h2, h3⟩ := w.tup l
    exact ⟨a, ws, rfl, .inr ⟨SqT.of h1, k _ _ _ (New.same l (.tup h3 h2))⟩⟩
  · cases g
section
variable {X : Cx} {e : Expr} {o : Opd} {p pos : Pos}
theorem v_all (hc : X.calm = true) (hm : X.mg "all" = none) (ha : VO X e o) (hg : Gl X "all" := by rfl) (hs : starEach [e] X.env = (false, eval e X.env) :: starEach [] X.env := by rfl) : VE X (.Call (.Name "all" p) [e] [] pos) (fOpN gAll [o]) := ve_callB (cr_all hc) opN_all hg hm (by decide +kernel) (va_cons ha va_nil hs) (he := hs)
theorem v_any (hc : X.calm = true) (hm : X.mg "any" = none) (ha : VO X e o) (hg : Gl X "any" := by rfl) (hs : starEach [e] X.env = (false, eval e X.env) :: starEach [] X.env := by rfl) : VE X (.Call (.Name "any" p) [e] [] pos) (fOpN gAny [o]) := ve_callB (cr_any hc) opN_any hg hm (by decide +kernel) (va_cons ha va_nil hs) (he := hs)
theorem v_tuple (hm : X.mg "tuple" = none) (ha : VO X e o) (hg : Gl X "tuple" := by rfl) (hs : starEach [e] X.env = (false, eval e X.env) :: starEach [] X.env := by rfl) : VE X (.Call (.Name "tuple" p) [e] [] pos) (fOpN gTuple [o]) := ve_callTy call_tuple_of opN_tuple hg hm (by decide +kernel) (va_cons ha va_nil hs) (he := hs)
end

/-! ### isinstance -/
abbrev TK := Sum String Str
def tyK : D → Option TK
  | .non => some (.inl "NoneType")
  | .bl _ => some (.inl "bool")
  | .int _ => some (.inl "int")
  | .str _ => some (.inl "str")
  | .tup _ => some (.inl "tuple")
  | .lst _ => some (.inl "list")
  | .dK _ => some (.inl "dict")
  | .tupK _ => some (.inl "tuple")
  | .ins c _ => some (.inr c)
  | _ => none
def clK : D → Option TK
  | .ty n => some (.inl n)
  | .cls c => some (.inr c)
  | _ => none
def clKs : List D → Option (List TK)
  | [] => some []
  | d :: ds => do
    let k ← clK d
    let ks ← clKs ds
    pure (k :: ks)
def valK (K : PySem.W.Frag) : TK → Option Value
  | .inl n => some (.type n)
  | .inr c => (clsA K c).map .ref
/-- what isinstance tells of types and classes -/
structure IsTab (K : PySem.W.Frag) (T : TK → TK → Option Bool) : Prop where
  own : ∀ c k r, T (.inr c) k = some r → ∀ C, clsA K c = some C → Cls K C ∧ PySem.W.findIn K (.ref C) "__class__" = some (some (.builtin "object.__class__")) ∧ PySem.W.specialIn K (.builtin "object.__class__") "__get__" = some (some (.builtin "getset_descriptor.__get__")) ∧
    PySem.W.takesIn K (.builtin "object.__class__") = some true ∧ PySem.W.mroIn K C (.type "object") = some true
  ans : ∀ a b r u v, T a b = some r → valK K a = some u → valK K b = some v → PySem.W.kitOne K u v = some r
def anyT (T : TK → TK → Option Bool) (a : TK) : List TK → Option Bool
  | [] => some false
  | b :: bs => match T a b with
    | some true => some true
    | some false => anyT T a bs
    | none => none
def gIsi (T : TK → TK → Option Bool) : List D → Option Sl
  | [x, .tup cs] => match tyK x, clKs cs with
    | some a, some bs => (anyT T a bs).bind fun r => if cs = [] then none else fzB r
    | _, _ => none
  | [x, c] => match tyK x, clK c with
    | some a, some b => (T a b).bind fun r => fzB r
    | _, _ => none
  | _ => none
theorem Vw.tupK {K : PySem.W.Frag} {F H : Hp} {v : V} {ds : List D} (h : Vw K F H v (.tupK ds)) (l : Le F H) : ∃ a vs, v = .ref a ∧ SqT K H a vs ∧ RepL K F vs ds := by
  rcases h with h | ⟨p, rfl, _, h⟩
  · cases h with | tupK h1 h2 => exact ⟨_, _, rfl, l.sqT h1, h2⟩
  · exact h.elim
theorem tyX_of {K : PySem.W.Frag} {T : TK → TK → Option Bool} {F H : Hp} {v : V} {d : D} {a k : TK} {r : Bool} (hT : IsTab K T) (l : Le F H) (h : Vw K F H v d) (e : tyK d = some a) (q : T a k = some r) : ∃ t, valK K a = some t ∧ TyX K H v t := by
  cases d with
  | non => cases e; rw [h.non]; exact ⟨_, rfl, .base .non⟩
  | bl b => cases e; rw [h.bl]; exact ⟨_, rfl, .base (.bl b)⟩
  | int i => cases e; rw [h.int]; exact ⟨_, rfl, .base (.int i)⟩
  | str x => cases e; rw [h.str]; exact ⟨_, rfl, .base (.str x)⟩
  | tup xs => cases e; obtain ⟨p, vs, rfl, h1, _⟩ := h.tup l; exact ⟨_, rfl, .base (.tup h1)⟩
  | lst xs => cases e; obtain ⟨p, vs, rfl, h1, _⟩ := h.lst l; exact ⟨_, rfl, .base (.lst h1)⟩
  | dK es =>
    cases e
    obtain ⟨p, vs, rfl, h1, _⟩ := h.dK l
    rcases h1 with h1 | ⟨o, h1⟩
    · exact ⟨_, rfl, .base (.dK h1)⟩
    · exact ⟨_, rfl, .fDict h1⟩
  | tupK xs =>
    cases e
    obtain ⟨p, vs, rfl, h1, _⟩ := h.tupK l
    rcases h1 with (h1 | ⟨o, h1⟩) | ⟨o, its, n, h1, h2, _⟩
    · exact ⟨_, rfl, .base (.tup h1)⟩
    · exact ⟨_, rfl, .fTuple h1⟩
    · exact ⟨_, rfl, .kTuple h1 h2⟩
  | ins c fs =>
    cases e
    obtain ⟨p, C, dx, vfs, rfl, h0, h1, _⟩ := h.ins l
    obtain ⟨g1, g2, g3, g4, g5⟩ := hT.own c k r q C h0
    exact ⟨.ref C, by simp [valK, h0], .base (.ins h1 g1 g2 g3 g4 g5)⟩
  | _ => cases e
theorem clK_of {K : PySem.W.Frag} {F : Hp} {v : V} {d : D} {b : TK} (h : Rep K F v d) (e : clK d = some b) : ∃ u, valK K b = some u ∧ ClsV v u := by
  cases d with
  | ty n => cases e; cases h; exact ⟨_, rfl, .ty n⟩
  | cls c => cases e; cases h with | cls h0 => exact ⟨_, by simp [valK, h0], .own _⟩
  | _ => cases e
theorem clK_vw {K : PySem.W.Frag} {F H : Hp} {v : V} {d : D} {b : TK} (h : Vw K F H v d) (e : clK d = some b) : ∃ u, valK K b = some u ∧ ClsV v u := by
  rcases h with h | ⟨p, rfl, _, h⟩
  · exact clK_of h e
  · cases d <;> first | exact h.elim | cases e
theorem clKs_of {K : PySem.W.Frag} {F : Hp} : ∀ {vs : List V} {ds : List D} {bs : List TK}, RepL K F vs ds → clKs ds = some bs → ∃ us, Paired ClsV vs us ∧ bs.mapM (valK K) = some us
  | _, _, _, .nil, e => by cases e; exact ⟨[], .nil, rfl⟩
  | _, _, _, .cons h t, e => by
    obtain ⟨b, e1, e⟩ := bind_some e
    obtain ⟨bs, e2, e⟩ := bind_some e
    cases e
    obtain ⟨u, h1, h2⟩ := clK_of h e1
    obtain ⟨us, p, h3⟩ := clKs_of t e2
    exact ⟨u :: us, .cons h2 p, by simp [List.mapM_cons, h1, h3]⟩
theorem anyT_kit {K : PySem.W.Frag} {T : TK → TK → Option Bool} (hT : IsTab K T) {a : TK} {t : Value} (ha : valK K a = some t) : ∀ {bs : List TK} {us : List Value} {r : Bool}, bs.mapM (valK K) = some us → anyT T a bs = some r → PySem.W.kitAny K t us = some r
  | [], us, r, h, e => by cases h; cases e; rfl
  | b :: bs, us, r, h, e => by
    rw [List.mapM_cons] at h
    obtain ⟨u, h1, h⟩ := bind_some h
    obtain ⟨us', h2, h⟩ := bind_some h
    cases h
    unfold anyT at e
    unfold PySem.W.kitAny
    cases q : T a b with
    | none => rw [q] at e; cases e
    | some r1 =>
      rw [q] at e
      rw [hT.ans a b r1 t u q ha h1]
      cases r1 with
      | true => exact e
      | false => exact anyT_kit hT ha h2 e
theorem anyT_some {T : TK → TK → Option Bool} {a b : TK} {bs : List TK} {r : Bool} (h : anyT T a (b :: bs) = some r) : ∃ r', T a b = some r' := by
  unfold anyT at h
  cases q : T a b with
  | none => rw [q] at h; cases h
  | some r1 => exact ⟨r1, rfl⟩
theorem opN_isi {K : PySem.W.Frag} {T : TK → TK → Option Bool} (hT : IsTab K T) : OpN K (fun xs H Q => rIsi K xs H Q ∨ rIsiT K xs H Q) (gIsi T) := fun F H vs ds s Q l v g k => by
  unfold gIsi at g
  split at g
  · rename_i x cs
    split at g
    · rename_i a bs ha hb
      obtain ⟨r, hr, g⟩ := Option.bind_eq_some_iff.mp g
      split at g
      · cases g
      · rename_i hne
        cases g
        obtain ⟨v1, v2, rfl, w1, w2⟩ := v.two
        obtain ⟨p, ws, rfl, h1, h2, _⟩ := w2.tup l
        obtain ⟨us, pr, hm⟩ := clKs_of h2 hb
        obtain ⟨b0, bt, rfl⟩ : ∃ b0 bt, bs = b0 :: bt := by
          cases bs with
          | nil =>
            cases cs with
            | nil => exact absurd rfl hne
            | cons c cs =>
              obtain ⟨_, _, hb⟩ := bind_some hb
              obtain ⟨_, _, hb⟩ := bind_some hb
              cases hb
          | cons b0 bt => exact ⟨b0, bt, rfl⟩
        obtain ⟨r', hr'⟩ := anyT_some hr
        obtain ⟨t, ht, tx⟩ := tyX_of hT l w1 ha hr'
        exact .inr ⟨v1, p, ws, t, us, r, rfl, h1, pr, tx, anyT_kit hT ht hm hr, k _ _ _ (New.same l (.bl _))⟩
    · cases g
  · rename_i x c _
    split at g
    · rename_i a b ha hb
      obtain ⟨r, hr, g⟩ := Option.bind_eq_some_iff.mp g
      cases g
      obtain ⟨v1, v2, rfl, w1, w2⟩ := v.two
      obtain ⟨u, hu, cv⟩ := clK_vw w2 hb
      obtain ⟨t, ht, tx⟩ := tyX_of hT l w1 ha hr
      exact .inl ⟨v1, v2, t, u, r, rfl, cv, tx, hT.ans a b r t u hr ht hu, k _ _ _ (New.same l (.bl _))⟩
    · cases g
  · cases g
section
variable {X : Cx} {T : TK → TK → Option Bool} {e e2 : Expr} {o o2 : Opd} {p pos : Pos}
theorem v_isi (hT : IsTab X.K T) (hm : X.mg "isinstance" = none) (ha : VO X e o) (hb : VO X e2 o2) (hg : Gl X "isinstance" := by rfl) (hs : starEach [e, e2] X.env = (false, eval e X.env) :: starEach [e2] X.env := by rfl) (hs2 : starEach [e2] X.env = (false, eval e2 X.env) :: starEach [] X.env := by rfl)
    (hpl : (backTo pos (starEach [e2] X.env)).any (·.1) = false := by rfl) : VE X (.Call (.Name "isinstance" p) [e, e2] [] pos) (fOpN (gIsi T) [o, o2]) := ve_callB (call_isi.or call_isiT) (opN_isi hT) hg hm (by decide +kernel) (va_cons ha (va_cons hb va_nil hs2) hs) (he := hs) (hpl := hpl)
/-- a built-in class as a value -/
theorem v_ty {x : Str} {n : String} (hm : X.mg x = none) (hv : bootBuiltins x = some (.type n)) (hg : Gl X x := by rfl) (hn : x ≠ "__name__" := by decide) (hd : (x == ("__debug__" : Str)) = false := by decide) : VE X (.Name x p) (fC (.ty n)) :=
  ve_c (pe_bltn (v := .ty n) hg hm hv (show L2.RelV (.ty n) (.type n) from rfl) hn hd) fun _ => .ty n
/-- a class of the text as a value -/
theorem v_cls {c : Str} {C : Addr} (hm : X.mg c = some (.ref C)) (hC : clsA X.K c = some C) (hg : Gl X c := by rfl) (hd : (c == ("__debug__" : Str)) = false := by decide) : VE X (.Name c p) (fC (.cls c)) :=
  ve_glob hg hm (v := .ref C) rfl (fun _ => .cls hC) hd
end
end VI

/-! Dicts: new, get, in, store; in of tuples and texts. -/
namespace VI
open PySem PySem.Spec PyProof.Rows L2

/-! ### a new dict -/
def fNew (d : D) : ME := fun ρ => some (⟨.own, d⟩, ρ)
theorem ve_dnewK {X : Cx} {pos : Pos} : VE X (.Dict [] [] pos) (fNew (.dK [])) := VE.of pe_dnewK fun σ H Q _ ⟨F, ρ, s, ρ', R, e, post⟩ p hp => by
  cases e
  have N : New X.K F H F (upd H p (.dK [])) (.ref p) ⟨.own, .dK []⟩ := New.own R.le hp ⟨[], upd_same, rfl, .nil⟩
  obtain ⟨R2, S2⟩ := R.new N
  exact post _ F _ R2 S2 N.res
theorem ve_dnewT {X : Cx} {pos : Pos} : VE X (.Dict [] [] pos) (fNew (.dT [])) := VE.of pe_dnewT fun σ H Q _ ⟨F, ρ, s, ρ', R, e, post⟩ p hp => by
  cases e
  have N : New X.K F H F (upd H p (.dT [])) (.ref p) ⟨.own, .dT []⟩ := New.own R.le hp ⟨[], upd_same, rfl, .nil⟩
  obtain ⟨R2, S2⟩ := R.new N
  exact post _ F _ R2 S2 N.res

/-! ### in, not in -/
def rDIn (neg : Bool) : R2 := fun y x H Q => ∃ a o, x = .ref a ∧ DGet H a y o ∧ Q (.bl (if neg then !o.isSome else o.isSome)) H
section
variable {X : Cx}
theorem op_din (hu : X.A.units + 1 < cLine) : OpR X (compareOp .In) (rDIn false) := by
  intro pins s σ H x y v u Q I rx ry h
  obtain ⟨a, o, rfl, g, q⟩ := h
  cases (show u = Value.ref a from ry)
  exact d_in hu I g rx fun s' I' => ⟨.bl _, H, I', rfl, q⟩
theorem op_dnotin (hu : X.A.units + 1 < cLine) : OpR X (compareOp .NotIn) (rDIn true) := by
  intro pins s σ H x y v u Q I rx ry h
  obtain ⟨a, o, rfl, g, q⟩ := h
  cases (show u = Value.ref a from ry)
  exact d_notIn hu I g rx fun s' I' => ⟨.bl _, H, I', rfl, q⟩
end
def gInDc (k d : D) : Option Sl := match getD d k with
  | some o => fzB o.isSome
  | none => none
def gNotInDc (k d : D) : Option Sl := match getD d k with
  | some o => fzB (!o.isSome)
  | none => none
theorem dget_some {K : PySem.W.Frag} {F H : Hp} {x y : V} {d k : D} {o : Option D} (l : Le F H) (v : Vw K F H x d) (w : Vw K F H y k) (e : getD d k = some o) : ∃ a r, x = .ref a ∧ DGet H a y r ∧ r.isSome = o.isSome := by
  obtain ⟨a, r, h1, h2, h3, h4⟩ := dget_of l v w e
  refine ⟨a, r, h1, h2, ?_⟩
  cases o with
  | none => rw [h4 rfl]; rfl
  | some z => obtain ⟨u, rfl, _⟩ := h3 z rfl; rfl
theorem op2_inDc {K : PySem.W.Frag} : Op2 K (rDIn false) gInDc := fun F H x y d e s Q l v w g k => by
  unfold gInDc at g
  split at g
  · rename_i o ho
    cases g
    obtain ⟨a, r, rfl, h1, h2⟩ := dget_some l w v ho
    exact ⟨a, r, rfl, h1, by simp only [h2]; exact k _ _ _ (New.same l (.bl _))⟩
  · cases g
theorem op2_notInDc {K : PySem.W.Frag} : Op2 K (rDIn true) gNotInDc := fun F H x y d e s Q l v w g k => by
  unfold gNotInDc at g
  split at g
  · rename_i o ho
    cases g
    obtain ⟨a, r, rfl, h1, h2⟩ := dget_some l w v ho
    exact ⟨a, r, rfl, h1, by simp only [h2]; exact k _ _ _ (New.same l (.bl _))⟩
  · cases g
/-- in a tuple, items of any depth -/
def rInT (K : PySem.W.Frag) (neg : Bool) : R2 := fun x y H Q => ∃ d ds, Dp K H x d ∧ Dp K H y (.tuple ds) ∧ SeqAt.shaped d = true ∧ SeqAt.shaped (.tuple ds) = true ∧ Q (.bl (if neg then !ds.any fun z => PyData.eqv z d else ds.any fun z => PyData.eqv z d)) H
section
variable {X : Cx}
theorem op_inT (hu : X.A.units + 65 < cLine) : OpR X (compareOp .In) (rInT X.K false) := by
  intro pins s σ H x y v u Q I rx ry h
  obtain ⟨d, ds, hd, he, sd, se, q⟩ := h
  obtain ⟨as, r1⟩ := Dp.reads I d x v hd rx
  obtain ⟨bs, r2⟩ := Dp.reads I (.tuple ds) y u he ry
  exact SeqAt.in_tuple_reads r2 r1 (SeqAt.canLay_of_shaped se) (SeqAt.canLay_of_shaped sd) (room_in_shaped sd hu) ⟨.bl _, H, I, rfl, q⟩
theorem op_notInT (hu : X.A.units + 65 < cLine) : OpR X (compareOp .NotIn) (rInT X.K true) := by
  intro pins s σ H x y v u Q I rx ry h
  obtain ⟨d, ds, hd, he, sd, se, q⟩ := h
  obtain ⟨as, r1⟩ := Dp.reads I d x v hd rx
  obtain ⟨bs, r2⟩ := Dp.reads I (.tuple ds) y u he ry
  exact SeqAt.notIn_tuple_reads r2 r1 (SeqAt.canLay_of_shaped se) (SeqAt.canLay_of_shaped sd) (room_in_shaped sd hu) ⟨.bl _, H, I, rfl, q⟩
end
def gInT : D → D → Option Sl
  | x, .tup ys => if x.ok = true ∧ (D.tup ys).ok = true then fzB (inL x ys) else none
  | _, _ => none
def gNotInT : D → D → Option Sl
  | x, .tup ys => if x.ok = true ∧ (D.tup ys).ok = true then fzB (!inL x ys) else none
  | _, _ => none
theorem op2_inT {K : PySem.W.Frag} : Op2 K (rInT K false) gInT := fun F H x y d e s Q l v w g k => by
  unfold gInT at g
  split at g
  · rename_i ys
    split at g
    · rename_i h
      cases g
      have q := w.dp l (D.ok.p h.2)
      have z := D.ok.s h.2
      rw [D.py] at q z
      exact ⟨d.py, pyL ys, v.dp l (D.ok.p h.1), q, D.ok.s h.1, z, by rw [any_pyL]; exact k _ _ _ (New.same l (.bl _))⟩
    · cases g
  · cases g
theorem op2_notInT {K : PySem.W.Frag} : Op2 K (rInT K true) gNotInT := fun F H x y d e s Q l v w g k => by
  unfold gNotInT at g
  split at g
  · rename_i ys
    split at g
    · rename_i h
      cases g
      have q := w.dp l (D.ok.p h.2)
      have z := D.ok.s h.2
      rw [D.py] at q z
      exact ⟨d.py, pyL ys, v.dp l (D.ok.p h.1), q, D.ok.s h.1, z, by rw [any_pyL]; exact k _ _ _ (New.same l (.bl _))⟩
    · cases g
  · cases g
/-- one sign in a text -/
def signOf (x : Str) : Option Nat := match x.cps.toList with
  | [c] => some c
  | _ => none
theorem signOf_eq {x : Str} {c : Nat} (h : signOf x = some c) : x = ⟨#[c]⟩ := by
  unfold signOf at h
  split at h
  · rename_i c' e
    cases h
    obtain ⟨a⟩ := x
    congr 1
    apply Array.ext'
    simpa using e
  · cases h
def gInS : D → D → Option Sl
  | .str x, .str y => match signOf x with
    | some c => fzB (decide (c ∈ y.cps.toList))
    | none => none
  | _, _ => none
def gNotInS : D → D → Option Sl
  | .str x, .str y => match signOf x with
    | some c => fzB (!decide (c ∈ y.cps.toList))
    | none => none
  | _, _ => none
theorem op2_inS {K : PySem.W.Frag} : Op2 K (fun x y H Q => ∃ (c : Nat) (z : Str), x = .str ⟨#[c]⟩ ∧ y = .str z ∧ Q (.bl (decide (c ∈ z.cps.toList))) H) gInS := fun F H x y d e s Q l v w g k => by
  unfold gInS at g
  split at g
  · split at g
    · rename_i c hc
      cases g
      exact ⟨c, _, by rw [v.str, signOf_eq hc], w.str, k _ _ _ (New.same l (.bl _))⟩
    · cases g
  · cases g
theorem op2_notInS {K : PySem.W.Frag} : Op2 K (fun x y H Q => ∃ (c : Nat) (z : Str), x = .str ⟨#[c]⟩ ∧ y = .str z ∧ Q (.bl (!decide (c ∈ z.cps.toList))) H) gNotInS := fun F H x y d e s Q l v w g k => by
  unfold gNotInS at g
  split at g
  · split at g
    · rename_i c hc
      cases g
      exact ⟨c, _, by rw [v.str, signOf_eq hc], w.str, k _ _ _ (New.same l (.bl _))⟩
    · cases g
  · cases g
def gInA : D → D → Option Sl := orG gIn (orG gInT (orG gInS gInDc))
def gNotInA : D → D → Option Sl := orG gNotIn (orG gNotInT (orG gNotInS gNotInDc))
section
variable {X : Cx} {k : Nat} {a b : Expr} {oa ob : Opd} {pos : Pos}
theorem u1 (hr : Room k X.A) : X.A.units + 1 < cLine := by have := hr.un; omega
theorem v_inA (hr : Room k X.A) (ha : VO X a oa) (hb : VO X b ob) (hm : behindInMarks .In b = false := by rfl) : VE X (.Compare a [.In] [b] pos) (fOp2 gInA oa ob) := ve_cmp ((op_inD (u65 hr)).or ((op_inT (u65 hr)).or ((op_in_sign (X := X)).or (op_din (u1 hr))))) (op2_in.or (op2_inT.or (op2_inS.or op2_inDc))) ha hb hm
theorem v_notinA (hr : Room k X.A) (ha : VO X a oa) (hb : VO X b ob) (hm : behindInMarks .NotIn b = false := by rfl) : VE X (.Compare a [.NotIn] [b] pos) (fOp2 gNotInA oa ob) := ve_cmp ((op_notInD (u65 hr)).or ((op_notInT (u65 hr)).or ((op_notIn_sign (X := X)).or (op_dnotin (u1 hr))))) (op2_notIn.or (op2_notInT.or (op2_notInS.or op2_notInDc))) ha hb hm
theorem t_inA (hr : Room k X.A) (ha : VO X a oa) (hb : VO X b ob) (hm : behindInMarks .In b = false := by rfl) : VT X (.Compare a [.In] [b] pos) (fT (fOp2 gInA oa ob)) := vt_cmp ((op_inD (u65 hr)).or ((op_inT (u65 hr)).or ((op_in_sign (X := X)).or (op_din (u1 hr))))) (op2_in.or (op2_inT.or (op2_inS.or op2_inDc))) ha hb hm
theorem t_notinA (hr : Room k X.A) (ha : VO X a oa) (hb : VO X b ob) (hm : behindInMarks .NotIn b = false := by rfl) : VT X (.Compare a [.NotIn] [b] pos) (fT (fOp2 gNotInA oa ob)) := vt_cmp ((op_notInD (u65 hr)).or ((op_notInT (u65 hr)).or ((op_notIn_sign (X := X)).or (op_dnotin (u1 hr))))) (op2_notIn.or (op2_notInT.or (op2_notInS.or op2_notInDc))) ha hb hm
end

/-! ### store -/
def gSetDc : D → D → D → Option D
  | .dK es, k, x => match keyOf k with
    | some k => if es.length < sizeLine then some (.dK (putD es k x)) else none
    | none => none
  | .dT es, .tup ks, x => match keysOf ks with
    | some k => if es.length < sizeLine then some (.dT (putD es k x)) else none
    | none => none
  | _, _, _ => none
theorem len_fst {α β γ : Type} {l : List (α × β)} {m : List (α × γ)} (h : l.map Prod.fst = m.map Prod.fst) : l.length = m.length := by
  have := congrArg List.length h
  simpa using this
theorem set_d {K : PySem.W.Frag} : SetOk K rSetD gSetDc := fun F H p d k x d' kv xv Q l fp oa rk rx e q => by
  unfold gSetDc at e
  split at e
  · rename_i es
    split at e
    · rename_i kk hk
      split at e
      · rename_i hl
        cases e
        obtain ⟨kvs, h1, h2, h3⟩ := oa
        have ek := keyOf_v rk hk
        subst ek
        obtain ⟨q1, q2⟩ := kv_put (k := kk) h2 h3 rx
        exact ⟨p, _, rfl, DPut.k h1 (by rw [len_fst h2]; exact hl), q _ ⟨_, upd_same, q1, q2⟩⟩
      · cases e
    · cases e
  · rename_i es ks
    split at e
    · rename_i kk hk
      split at e
      · rename_i hl
        cases e
        obtain ⟨kvs, h1, h2, h3⟩ := oa
        cases rk with
        | tup g1 g2 =>
          have ek := keysOf_v g2 hk
          subst ek
          obtain ⟨q1, q2⟩ := kv_put (k := kk) h2 h3 rx
          exact ⟨p, _, rfl, DPut.t h1 (l _ _ g1) (by rw [len_fst h2]; exact hl), q _ ⟨_, upd_same, q1, q2⟩⟩
      · cases e
    · cases e
  · cases e
/-- either kind of store -/
theorem psetOr {X : Cx} {t t' : TSet} (a : PSet X t) (b : PSet X t') : PSet X (fun o i v H Q => t o i v H Q ∨ t' o i v H Q) := fun pins s σ H o i v ov iv u Q I ro ri rv h => h.elim (a pins s σ H o i v ov iv u Q I ro ri rv) (b pins s σ H o i v ov iv u Q I ro ri rv)
def orS (g h : D → D → D → Option D) : D → D → D → Option D := fun d k x => match g d k x with
  | some r => some r
  | none => h d k x
theorem SetOk.or {K : PySem.W.Frag} {t t' : TSet} {g h : D → D → D → Option D} (a : SetOk K t g) (b : SetOk K t' h) : SetOk K (fun o i v H Q => t o i v H Q ∨ t' o i v H Q) (orS g h) := fun F H p d k x d' kv xv Q l fp oa rk rx e q => by
  unfold orS at e
  split at e
  · rename_i r hr; cases e; exact .inl (a F H p d k x d' kv xv Q l fp oa rk rx hr q)
  · exact .inr (b F H p d k x d' kv xv Q l fp oa rk rx e q)
def gSetA : D → D → D → Option D := orS gSetL gSetDc
theorem set_a {K : PySem.W.Frag} : SetOk K (fun o i v H Q => rSetL o i v H Q ∨ rSetD o i v H Q) gSetA := set_l.or set_d
theorem set_any {X : Cx} {k : Nat} (hr : Room k X.A) : PSet X (fun o i v H Q => rSetL o i v H Q ∨ rSetD o i v H Q) := psetOr set_list (set_dict (u1 hr))

/-! ### d.get(k), d.get(k, x) -/
def isDc : D → Bool
  | .dK _ => true
  | .dT _ => true
  | _ => false
theorem Vw.isD {K : PySem.W.Frag} {F H : Hp} {v : V} {d : D} (h : Vw K F H v d) (l : Le F H) (e : isDc d = true) : ∃ a, v = .ref a ∧ IsD H a := by
  cases d with
  | dK es => obtain ⟨a, kvs, rfl, h1, _⟩ := h.dK l; exact ⟨a, rfl, .inl ⟨kvs, h1⟩⟩
  | dT es => obtain ⟨a, kvs, rfl, h1, _⟩ := h.dT l; exact ⟨a, rfl, .inr ⟨kvs, h1⟩⟩
  | _ => cases e
def fGet1 (a b : Opd) : ME := fun ρ => do
  let (pa, ρ1) ← evalO a ρ
  let d0 ← look pa ρ1
  if isDc d0 = true then do
    let (pb, ρ2) ← evalO b ρ1
    let d ← look pa ρ2
    let k ← look pb ρ2
    let o ← getD d k
    pure (⟨.fz, o.getD .non⟩, ρ2)
  else none
def fGet2 (a b : Opd) (f : ME) : ME := fun ρ => do
  let (pa, ρ1) ← evalO a ρ
  let d0 ← look pa ρ1
  if isDc d0 = true then do
    let (pb, ρ2) ← evalO b ρ1
    let (x, ρ3) ← f ρ2
    let d ← look pa ρ3
    let k ← look pb ρ3
    let o ← getD d k
    pure (⟨.fz, o.getD x.d⟩, ρ3)
  else none
theorem tE_get1 {K : PySem.W.Frag} {a b : Opd} {σ : L2.St} {H : Hp} {Q : VK} (h : tE K (fGet1 a b) σ H Q) : tDGet1 (tO K a) (tO K b) σ H Q := by
  obtain ⟨F, ρ, s, ρ', R, e, post⟩ := h
  obtain ⟨⟨pa, ρ1⟩, e1, e⟩ := bind_some e
  obtain ⟨d0, e2, e⟩ := bind_some e
  dsimp only at e e2
  split at e
  · rename_i hd
    obtain ⟨⟨pb, ρ2⟩, e3, e⟩ := bind_some e
    obtain ⟨d, e4, e⟩ := bind_some e
    obtain ⟨k, e5, e⟩ := bind_some e
    obtain ⟨o, e6, e⟩ := bind_some e
    cases e
    refine ⟨F, ρ, pa, ρ1, R, e1, fun x F1 H1 R1 S1 P1 => ?_⟩
    obtain ⟨ad, rfl, hI⟩ := (P1.vw R1 e2).isD R1.le hd
    refine ⟨ad, rfl, hI, F1, ρ1, pb, _, R1, e3, fun y F2 H2 R2 S2 P2 => ?_⟩
    obtain ⟨a', r, ea, h1, h2, h3⟩ := dget_of R2.le ((P1.mono S2.stp.le).vw R2 e4) (P2.vw R2 e5) e6
    cases ea
    refine ⟨r, h1, post _ F2 H2 R2 (S1.trans S2) ?_⟩
    cases o with
    | none => rw [h3 rfl]; exact Rep.non
    | some z => obtain ⟨u, rfl, ru⟩ := h2 z rfl; exact ru
  · cases e
theorem tE_get2 {K : PySem.W.Frag} {a b : Opd} {f : ME} {σ : L2.St} {H : Hp} {Q : VK} (h : tE K (fGet2 a b f) σ H Q) : tDGet2 (tO K a) (tO K b) (tE K f) σ H Q := by
  obtain ⟨F, ρ, s, ρ', R, e, post⟩ := h
  obtain ⟨⟨pa, ρ1⟩, e1, e⟩ := bind_some e
  obtain ⟨d0, e2, e⟩ := bind_some e
  dsimp only at e e2
  split at e
  · rename_i hd
    obtain ⟨⟨pb, ρ2⟩, e3, e⟩ := bind_some e
    obtain ⟨⟨x, ρ3⟩, e7, e⟩ := bind_some e
    obtain ⟨d, e4, e⟩ := bind_some e
    obtain ⟨k, e5, e⟩ := bind_some e
    obtain ⟨o, e6, e⟩ := bind_some e
    cases e
    refine ⟨F, ρ, pa, ρ1, R, e1, fun x1 F1 H1 R1 S1 P1 => ?_⟩
    obtain ⟨ad, rfl, hI⟩ := (P1.vw R1 e2).isD R1.le hd
    refine ⟨ad, rfl, hI, F1, ρ1, pb, _, R1, e3, fun y F2 H2 R2 S2 P2 => ?_⟩
    refine ⟨F2, ρ2, x, _, R2, e7, fun z F3 H3 R3 S3 res => ?_⟩
    obtain ⟨F4, R4, S4, rz⟩ := res.frozen R2 R3 S3
    obtain ⟨a', r, ea, h1, h2, h3⟩ := dget_of R4.le (((P1.mono S2.stp.le).mono S4.stp.le).vw R4 e4) ((P2.mono S4.stp.le).vw R4 e5) e6
    cases ea
    refine ⟨r, h1, post _ F4 H3 R4 ((S1.trans S2).trans S4) ?_⟩
    cases o with
    | none => rw [h3 rfl]; exact rz
    | some z => obtain ⟨u, rfl, ru⟩ := h2 z rfl; exact ru
  · cases e
theorem v_get1 {X : Cx} {k : Nat} {o e : Expr} {a b : Opd} {apos cpos : Pos} (hr : Room k X.A) (ho : VO X o a) (he : VO X e b) (m : M1 X o "get" apos e cpos := by exact ⟨rfl, rfl, rfl, rfl⟩) : VE X (.Call (.Attribute o "get" apos) [e] [] cpos) (fGet1 a b) :=
  VE.of (pe_dget1 (u1 hr) ho he m) fun _ _ _ _ q => tE_get1 q
theorem v_get2 {X : Cx} {k : Nat} {o e x : Expr} {a b : Opd} {f : ME} {apos cpos : Pos} (hr : Room k X.A) (ho : VO X o a) (he : VO X e b) (hx : VE X x f) (m : M2 X o "get" apos e x cpos := by exact ⟨rfl, rfl, rfl, rfl⟩) : VE X (.Call (.Attribute o "get" apos) [e, x] [] cpos) (fGet2 a b f) :=
  VE.of (pe_dget2 (u1 hr) ho he hx m) fun _ _ _ _ q => tE_get2 q
end VI

/-! Dicts that are walked: keys, values, items; they are locked meanwhile. -/
namespace VI
open PySem PySem.Spec PyProof.Rows L2

/-! ### locking -/
def IsDO : HO → Prop
  | .dK _ => True
  | .dT _ => True
  | _ => False
theorem IsDO.mut {u : HO} (h : IsDO u) : Mut (some u) := by
  cases u <;> first | exact h.elim | exact True.intro
/-- F and G are alike but at d, where both read as the dict u -/
structure Lk (d : Addr) (u : HO) (F G : Hp) : Prop where
  dict : IsDO u
  same : ∀ a, a ≠ d → G a = F a
  f : Rd F d u
  g : Rd G d u
section
variable {d : Addr} {u : HO} {F G : Hp} {K : PySem.W.Frag}
theorem Lk.symm (h : Lk d u F G) : Lk d u G F := ⟨h.dict, fun a n => (h.same a n).symm, h.g, h.f⟩
theorem Lk.rd_at (h : Lk d u F G) {w : HO} (q : Rd F d w) (hw : IsDO w ∨ (∃ xs, w = .lst xs) ∨ ∃ xs, w = .tup xs) : w = u := by
  have dn := h.dict
  rcases h.f with f | ⟨o, f⟩ <;> rcases q with q | ⟨o', q⟩ <;> (rw [f] at q; cases q)
  · rfl
  · exact dn.elim
  · rcases hw with hw | ⟨_, hw⟩ | ⟨_, hw⟩
    · exact hw.elim
    · cases hw
    · cases hw
  · rfl
theorem Lk.rd (h : Lk d u F G) {a : Addr} {w : HO} (q : Rd F a w) (hw : IsDO w ∨ (∃ xs, w = .lst xs) ∨ ∃ xs, w = .tup xs) : Rd G a w := by
  by_cases e : a = d
  · subst e
    have := h.rd_at q hw
    subst this
    exact h.g
  · unfold Rd at q ⊢
    rw [h.same a e]
    exact q
theorem Lk.ne (h : Lk d u F G) {a : Addr} {w : HO} (q : F a = some w) (hw : ¬ IsDO w) (hf : ∀ o v, w ≠ .frz o v) : a ≠ d := fun e => by
  subst e
  have dn := h.dict
  rcases h.f with f | ⟨o, f⟩ <;> (rw [f] at q; cases q)
  · exact hw dn
  · exact hf _ _ rfl
theorem Lk.at_ (h : Lk d u F G) {a : Addr} {w : HO} (q : F a = some w) (hw : ¬ IsDO w) (hf : ∀ o v, w ≠ .frz o v) : G a = some w := by
  rw [h.same a (h.ne q hw hf)]; exact q
theorem Lk.sqL (h : Lk d u F G) {a : Addr} {xs : List V} (q : SqL K F a xs) : SqL K G a xs := by
  rcases q with q | q
  · exact .inl (h.rd q (.inr (.inl ⟨_, rfl⟩)))
  · exact .inr q
theorem Lk.sqT (h : Lk d u F G) {a : Addr} {xs : List V} (q : SqT K F a xs) : SqT K G a xs := by
  rcases q with q | q
  · exact .inl (h.rd q (.inr (.inr ⟨_, rfl⟩)))
  · exact .inr q
theorem Rep.lk (e : Lk d u F G) {v : V} {x : D} (h : Rep K F v x) : Rep K G v x :=
  Rep.rec (motive_1 := fun v d _ => Rep K G v d) (motive_2 := fun vs ds _ => RepL K G vs ds) .non .bl .int .str
    (fun h1 _ q => .tup (e.at_ h1 id (by intro _ _ z; cases z)) q) (fun h1 _ q => .lst (e.at_ h1 id (by intro _ _ z; cases z)) q)
    (fun h1 h2 _ q => .dK (e.rd h1 (.inl trivial)) h2 q) (fun h1 h2 _ q => .dT (e.rd h1 (.inl trivial)) h2 q) (fun h0 h1 h2 _ q => .ins h0 (e.at_ h1 id (by intro _ _ z; cases z)) h2 q) .ptr
    (fun h1 _ q => .seq (e.sqL h1) q) (fun h1 _ q => .tupK (e.sqT h1) q) .ty .cls .nil (fun _ _ q r => .cons q r) h
theorem RepL.lk (e : Lk d u F G) : ∀ {vs : List V} {ds : List D}, RepL K F vs ds → RepL K G vs ds
  | _, _, .nil => .nil
  | _, _, .cons h t => .cons (h.lk e) (t.lk e)
theorem OwnAt.lk {H H' : Hp} {p : Addr} {x : D} (e : Lk d u F G) (hp : H' p = H p) (h : OwnAt K F H p x) : OwnAt K G H' p x := by
  cases x with
  | lst ds => obtain ⟨vs, h1, h2⟩ := h; exact ⟨vs, hp.trans h1, h2.lk e⟩
  | dK es => obtain ⟨vs, h1, h2, h3⟩ := h; exact ⟨vs, hp.trans h1, h2, h3.lk e⟩
  | dT es => obtain ⟨vs, h1, h2, h3⟩ := h; exact ⟨vs, hp.trans h1, h2, h3.lk e⟩
  | ins c fs => obtain ⟨C, dx, vs, h0, h1, h2, h3⟩ := h; exact ⟨C, dx, vs, h0, hp.trans h1, h2, h3.lk e⟩
  | _ => exact h.elim
theorem Lk.mk_lock {o : Obj} (hd : IsDO u) (h : F d = some u) : Lk d u F (upd F d (.frz o u)) := ⟨hd, fun a n => upd_ne n, .inl h, .inr ⟨o, upd_same⟩⟩
theorem Lk.mk_unlock {o : Obj} (hd : IsDO u) (h : F d = some (.frz o u)) : Lk d u F (upd F d u) := ⟨hd, fun a n => upd_ne n, .inr ⟨o, h⟩, .inl upd_same⟩
/-- the relation, locked or unlocked -/
theorem Rel.lk {H H' : Hp} {ρ : Rho} {σ : L2.St} (R : Rel K F ρ σ H) (e : Lk d u F G) (hs : ∀ a, a ≠ d → H' a = H a) (hd : H' d = G d) : Rel K G ρ σ H' := by
  have hF : F d ≠ none := by rcases e.f with f | ⟨o, f⟩ <;> (rw [f]; intro z; cases z)
  refine ⟨fun a o h => ?_, R.len, fun i s h => ?_, R.ne⟩
  · by_cases z : a = d
    · subst z; rw [hd]; exact h
    · rw [hs a z]; rw [e.same a z] at h; exact R.le a o h
  · obtain ⟨v, hv, ok⟩ := R.at_ i s h
    refine ⟨v, hv, ?_⟩
    by_cases hm : s.m = .fz
    · exact .mk_fz hm ((ok.fz hm).lk e)
    · obtain ⟨q, rfl, fq, oq⟩ := ok.nfz hm
      have ne : q ≠ d := fun z => by subst z; exact hF fq
      exact .mk_n hm (by rw [e.same q ne]; exact fq) (oq.lk e (hs q ne))
theorem Rel.lock {H : Hp} {ρ : Rho} {σ : L2.St} (R : Rel K F ρ σ H) (hd : IsDO u) (h : F d = some u) (o : Obj) : Rel K (upd F d (.frz o u)) ρ σ (upd H d (.frz o u)) :=
  R.lk (Lk.mk_lock hd h) (fun a n => upd_ne n) (by rw [upd_same, upd_same])
/-- a step between, seen from outside -/
theorem Stp.unlock {H F1 H1 : Hp} {ρ ρ1 : Rho} {σ σ1 : L2.St} {o : Obj} (R : Rel K F ρ σ H) (hd : IsDO u) (h : F d = some u) (R1 : Rel K F1 ρ1 σ1 H1) (S : Stp (upd F d (.frz o u)) ρ σ (upd H d (.frz o u)) F1 ρ1 σ1 H1) :
    F1 d = some (.frz o u) ∧ H1 d = some (.frz o u) ∧ Rel K (upd F1 d u) ρ1 σ1 (upd H1 d u) ∧ Stp F ρ σ H (upd F1 d u) ρ1 σ1 (upd H1 d u) := by
  have f1 : F1 d = some (.frz o u) := S.le d _ upd_same
  have h1 : H1 d = some (.frz o u) := R1.le d _ f1
  have hH : H d = some u := R.le d u h
  refine ⟨f1, h1, R1.lk (Lk.mk_unlock hd f1) (fun a n => upd_ne n) (by rw [upd_same, upd_same]), ⟨fun a w q => ?_, fun a w q n => ?_, fun a w q => ?_, fun a w q => ?_, fun a q => ?_, S.fwd, S.bwd⟩⟩
  · by_cases z : a = d
    · subst z; rw [h] at q; cases q; exact upd_same
    · rw [upd_ne z]; exact S.le a w (by rw [upd_ne z]; exact q)
  · by_cases z : a = d
    · subst z; rw [hH] at q; cases q; exact upd_same
    · rw [upd_ne z]; exact S.keep a w (by rw [upd_ne z]; exact q) n
  · by_cases z : a = d
    · subst z; rw [hH] at q; cases q; exact ⟨u, upd_same, fun _ => rfl⟩
    · rw [upd_ne z]; exact S.there a w (by rw [upd_ne z]; exact q)
  · by_cases z : a = d
    · subst z; exact .inl ⟨u, h⟩
    · rw [upd_ne z] at q
      rcases S.newF a w q with ⟨o', q⟩ | q | q | ⟨vs, q⟩
      · rw [upd_ne z] at q; exact .inl ⟨o', q⟩
      · rw [upd_ne z] at q; exact .inr (.inl q)
      · exact .inr (.inr (.inl q))
      · rw [upd_ne z] at q; exact .inr (.inr (.inr ⟨vs, q⟩))
  · rcases S.ownO a q with q | q
    · exact .inl q
    · by_cases z : a = d
      · subst z; rw [upd_same] at q; cases q
      · rw [upd_ne z] at q; exact .inr q
theorem Res.unlock {H F1 H1 : Hp} {o : Obj} {v : V} {r : Sl} (hd : IsDO u) (f1 : F1 d = some (.frz o u)) (h : Res K F1 (upd H d (.frz o u)) H1 v r) : Res K (upd F1 d u) H (upd H1 d u) v r := by
  rcases h.own_or with ⟨m, q⟩ | ⟨m, p, rfl, hp, fp, q⟩
  · unfold Res; rw [m]; exact q.lk (Lk.mk_unlock hd f1)
  · unfold Res; rw [m]
    have ne : p ≠ d := fun z => by subst z; rw [f1] at fp; cases fp
    rw [upd_ne ne] at hp
    exact ⟨p, rfl, hp, by rw [upd_ne ne]; exact fp, q.lk (Lk.mk_unlock hd f1) (upd_ne ne)⟩
end

/-! ### what is walked: a name, or a field of a name -/
inductive DS where | sl (i : Nat) | fd (cs : List Str) (f : Str) (i : Nat)
def tDS (K : PySem.W.Frag) : DS → TE
  | .sl i => tVar i
  | .fd _ f i => tUn (rFld K f) (tVar i)
def dsAt : DS → Rho → Option D
  | .sl i, ρ => match ρ[i]? with
    | some (some ⟨.fz, d⟩) => some d
    | _ => none
  | .fd cs f i, ρ => match ρ[i]? with
    | some (some ⟨_, .ins c fs⟩) => if cs.contains c = true then fs.lookup f else none
    | _ => none
def DsOk (K : PySem.W.Frag) : DS → Prop
  | .sl _ => True
  | .fd cs f _ => ClsF K cs f
/-- its value, in this heap and in one that is alike but for dicts -/
theorem ds_val {K : PySem.W.Frag} {F H : Hp} {ρ : Rho} {σ : L2.St} {s : DS} {x : D} (hs : DsOk K s) (R : Rel K F ρ σ H) (e : dsAt s ρ = some x) :
    ∃ v, Rep K F v x ∧ ∀ (H' : Hp) (Q : VK), (∀ a C dx vfs, H a = some (.ins C dx vfs) → H' a = some (.ins C dx vfs)) → Q v H' → tDS K s σ H' Q := by
  cases s with
  | sl i =>
    unfold dsAt at e
    simp only at e
    split at e
    · rename_i d hd
      cases e
      obtain ⟨v, hv, ok⟩ := R.at_ i _ hd
      exact ⟨v, ok.fz rfl, fun H' Q _ q => ⟨v, hv, q⟩⟩
    · cases e
  | fd cs f i =>
    unfold dsAt at e
    simp only at e
    split at e
    · rename_i m c fs hd
      split at e
      · rename_i hc
        obtain ⟨v, hv, ok⟩ := R.at_ i _ hd
        obtain ⟨a, C, dx, vfs, rfl, h0, h1, h2, h3⟩ := ok.vw.ins R.le
        obtain ⟨u, hu, ru⟩ := (fs_look h2 h3).1 x e
        obtain ⟨c1, c2⟩ := hs c (by simpa using hc) C h0
        exact ⟨u, ru, fun H' Q hk q => ⟨.ref a, hv, a, C, dx, vfs, u, rfl, hk a C dx vfs h1, c1, c2, hu, q⟩⟩
      · cases e
    · cases e
/-! ### keys, values, items -/
def keyD : Key → D
  | .inl i => .int i
  | .inr x => .str x
theorem rep_key {K : PySem.W.Frag} {F : Hp} : ∀ k : Key, Rep K F (kV k) (keyD k)
  | .inl i => .int i
  | .inr x => .str x
theorem rep_keys {K : PySem.W.Frag} {F : Hp} : ∀ ks : List Key, RepL K F (ks.map kV) (ks.map keyD)
  | [] => .nil
  | k :: ks => .cons (rep_key k) (rep_keys ks)
def kysD : D → Option (List D)
  | .dK es => some (es.map fun e => keyD e.1)
  | .dT es => some (es.map fun e => .tup (e.1.map keyD))
  | _ => none
def vlsD : D → Option (List D)
  | .dK es => some (es.map fun e => e.2)
  | _ => none
def itmD : D → Option (List D)
  | .dK es => some (es.map fun e => .tup [keyD e.1, e.2])
  | .dT es => some (es.map fun e => .tup [.tup (e.1.map keyD), e.2])
  | _ => none
section
variable {K : PySem.W.Frag} {F H : Hp} {ρ : Rho} {σ : L2.St}
theorem kv_at {κ : Type} {kvs : List (κ × V)} {es : List (κ × D)} (h1 : kvs.map Prod.fst = es.map Prod.fst) (h2 : RepL K F (kvs.map Prod.snd) (es.map Prod.snd)) {i : Nat} {k : κ} {v : V} (e : kvs[i]? = some (k, v)) : ∃ d, es[i]? = some (k, d) ∧ Rep K F v d := by
  have e1 : (kvs.map Prod.fst)[i]? = some k := by rw [List.getElem?_map, e]; rfl
  rw [h1, List.getElem?_map] at e1
  have e2 : (kvs.map Prod.snd)[i]? = some v := by rw [List.getElem?_map, e]; rfl
  obtain ⟨d, e3, r⟩ := h2.get e2
  rw [List.getElem?_map] at e3
  cases q : es[i]? with
  | none => rw [q] at e1; cases e1
  | some p =>
    obtain ⟨k', d'⟩ := p
    rw [q] at e1 e3
    cases e1; cases e3
    exact ⟨d', rfl, r⟩
/-- a key's own tuple comes to the data -/
theorem New.key {q : Addr} {ks : List Key} (hl : Le F H) (h : H q = some (.tup (ks.map kV))) : ∃ F', New K F H F' H (.ref q) ⟨.fz, .tup (ks.map keyD)⟩ := by
  cases e : F q with
  | some o =>
    have := hl q o e
    rw [h] at this; cases this
    exact ⟨F, New.same hl (.tup e (rep_keys ks))⟩
  | none =>
    refine ⟨upd F q (.tup (ks.map kV)), Le.upd e, fun a o z => ?_, .refl H, fun a o z => ?_, Rep.tup upd_same (rep_keys ks)⟩
    · by_cases y : a = q
      · subst y; rw [upd_same] at z; cases z; exact h
      · rw [upd_ne y] at z; exact hl a o z
    · by_cases y : a = q
      · subst y; exact .inr (.inr ⟨_, h⟩)
      · rw [upd_ne y] at z; exact .inl ⟨o, z⟩
theorem New.andTup {F1 : Hp} {v : V} {r : Sl} {vs : List V} {ds : List D} {p : Addr} (N : New K F H F1 H v r) (hp : H p = none) (h : RepL K F1 vs ds) : New K F H (upd F1 p (.tup vs)) (upd H p (.tup vs)) (.ref p) ⟨.fz, .tup ds⟩ := by
  have M := New.tup (K := K) N.leH hp h
  refine ⟨N.leF.trans M.leF, M.leH, M.keep, fun a o z => ?_, M.res⟩
  rcases M.newF a o z with ⟨o', q⟩ | q | q
  · exact N.newF a o' q
  · exact .inr (.inl q)
  · exact .inr (.inr q)
theorem itn_keysK {d : Addr} {o : Obj} {kvs : List (Key × V)} {es : List (Key × D)} (hF : F d = some (.frz o (.dK kvs))) (h1 : kvs.map Prod.fst = es.map Prod.fst) : Itn K F ρ σ H (Itk d o kvs) (es.map fun e => keyD e.1) := by
  refine ⟨_, _, by rw [List.length_map, ← len_fst h1]; exact walk_keys, fun F' ρ' σ' H' S l => l d _ (S.le d _ hF), fun i F' ρ' σ' H' x H'' hi S l y => ?_⟩
  obtain ⟨rfl, k, v, e, rfl⟩ := y
  have e1 : (kvs.map Prod.fst)[i]? = some k := by rw [List.getElem?_map, e]; rfl
  rw [h1] at e1
  refine ⟨F', keyD k, ?_, New.same l (rep_key k)⟩
  rw [show (es.map fun e => keyD e.1) = (es.map Prod.fst).map keyD by rw [List.map_map]; rfl, List.getElem?_map, e1]; rfl
theorem itn_keysT {d : Addr} {o : Obj} {kvs : List (List Key × V)} {es : List (List Key × D)} (hF : F d = some (.frz o (.dT kvs))) (h1 : kvs.map Prod.fst = es.map Prod.fst) : Itn K F ρ σ H (Itkt d o kvs) (es.map fun e => .tup (e.1.map keyD)) := by
  refine ⟨_, _, by rw [List.length_map, ← len_fst h1]; exact walk_keysT, fun F' ρ' σ' H' S l => l d _ (S.le d _ hF), fun i F' ρ' σ' H' x H'' hi S l y => ?_⟩
  obtain ⟨rfl, k, v, q, e, rfl, hq⟩ := y
  have e1 : (kvs.map Prod.fst)[i]? = some k := by rw [List.getElem?_map, e]; rfl
  rw [h1] at e1
  obtain ⟨F'', N⟩ := New.key (K := K) l hq
  refine ⟨F'', _, ?_, N⟩
  rw [show (es.map fun e => D.tup (e.1.map keyD)) = (es.map Prod.fst).map (fun k => D.tup (k.map keyD)) by rw [List.map_map]; rfl, List.getElem?_map, e1]; rfl
theorem itn_vals {d : Addr} {o : Obj} {kvs : List (Key × V)} {es : List (Key × D)} (hF : F d = some (.frz o (.dK kvs))) (h1 : kvs.map Prod.fst = es.map Prod.fst) (h2 : RepL K F (kvs.map Prod.snd) (es.map Prod.snd)) : Itn K F ρ σ H (Itd d o kvs) (es.map fun e => e.2) := by
  refine ⟨_, _, by rw [List.length_map, ← len_fst h1]; exact walk_values, fun F' ρ' σ' H' S l => l d _ (S.le d _ hF), fun i F' ρ' σ' H' x H'' hi S l y => ?_⟩
  obtain ⟨rfl, k, e⟩ := y
  obtain ⟨dd, e1, r⟩ := kv_at h1 h2 e
  exact ⟨F', dd, by rw [List.getElem?_map, e1]; rfl, New.same l (r.mono S.le)⟩
theorem itn_itemsK {d : Addr} {o : Obj} {kvs : List (Key × V)} {es : List (Key × D)} (hF : F d = some (.frz o (.dK kvs))) (h1 : kvs.map Prod.fst = es.map Prod.fst) (h2 : RepL K F (kvs.map Prod.snd) (es.map Prod.snd)) : Itn K F ρ σ H (Iti d o kvs) (es.map fun e => .tup [keyD e.1, e.2]) := by
  refine ⟨_, _, by rw [List.length_map, ← len_fst h1]; exact (Walk.mk (fun _ _ hi q => ⟨q, hi⟩) (fun _ q => ⟨q, Nat.le_refl _⟩) (fun _ _ _ _ _ _ y => y) : Walk (Iti d o kvs) kvs.length (fun H => H d = some (.frz o (.dK kvs))) _), fun F' ρ' σ' H' S l => l d _ (S.le d _ hF), fun i F' ρ' σ' H' x H'' hi S l y => ?_⟩
  obtain ⟨T, k, v, e, rfl, hT, rfl⟩ := y
  obtain ⟨dd, e1, r⟩ := kv_at h1 h2 e
  exact ⟨_, _, by rw [List.getElem?_map, e1]; rfl, New.tup l hT (.cons (rep_key k) (.one (r.mono S.le)))⟩
def Itit (d : Addr) (o : Obj) (kvs : List (List Key × V)) : It :=
  ⟨fun i H => H d = some (.frz o (.dT kvs)) ∧ i < kvs.length, fun i H x H' => ∃ T k v q, kvs[i]? = some (k, v) ∧ x = .ref T ∧ H T = none ∧ H q = some (.tup (k.map kV)) ∧ H' = upd H T (.tup [.ref q, v]), fun i H => H d = some (.frz o (.dT kvs)) ∧ kvs.length ≤ i⟩
theorem itn_itemsT {d : Addr} {o : Obj} {kvs : List (List Key × V)} {es : List (List Key × D)} (hF : F d = some (.frz o (.dT kvs))) (h1 : kvs.map Prod.fst = es.map Prod.fst) (h2 : RepL K F (kvs.map Prod.snd) (es.map Prod.snd)) : Itn K F ρ σ H (Itit d o kvs) (es.map fun e => .tup [.tup (e.1.map keyD), e.2]) := by
  refine ⟨_, _, by rw [List.length_map, ← len_fst h1]; exact (Walk.mk (fun _ _ hi q => ⟨q, hi⟩) (fun _ q => ⟨q, Nat.le_refl _⟩) (fun _ _ _ _ _ _ y => y) : Walk (Itit d o kvs) kvs.length (fun H => H d = some (.frz o (.dT kvs))) _), fun F' ρ' σ' H' S l => l d _ (S.le d _ hF), fun i F' ρ' σ' H' x H'' hi S l y => ?_⟩
  obtain ⟨T, k, v, q, e, rfl, hT, hq, rfl⟩ := y
  obtain ⟨dd, e1, r⟩ := kv_at h1 h2 e
  obtain ⟨F'', N⟩ := New.key (K := K) l hq
  exact ⟨_, _, by rw [List.getElem?_map, e1]; rfl, N.andTup hT (.cons N.res (.one ((r.mono S.le).mono N.leF)))⟩
end
section
variable {X : Cx} {pins : List (Addr × Obj)} {σ : L2.St} {H : Hp} {s : Shared} {d : Addr} {o : Obj}
theorem frzT' {kvs : List (List Key × V)} (I : Inv X pins σ H s) (h : H d = some (.frz o (.dT kvs))) :
    (d == sysModules) = false ∧ s.heap.get? d = some o ∧ o.ExactDict ∧ ∃ (es : Array DictEntry) (ep : Nat), o.data = .dict es ep ∧ es.size = kvs.length ∧
      ∀ (i : Nat) (k : List Key) (v : V), kvs[i]? = some (k, v) → ∃ (en : DictEntry) (q : Addr), es[i]? = some en ∧ en.key = .ref q ∧ H q = some (.tup (k.map kV)) ∧ RelV v en.val := by
  obtain ⟨hd, z, hs, xs, pr, o', es, ep, ho, hx, hdt, he, _⟩ := I.hok d _ h
  rw [hd] at ho
  cases ho
  refine ⟨hs, hd, hx, es, ep, hdt, ?_, fun i k v e => ?_⟩
  · have l1 : es.size = xs.length := size_of_entries he
    have l2 : kvs.length = xs.length := Paired.length pr
    omega
  · obtain ⟨b, hb, e1, e2, e3⟩ := paired_get pr e
    have q := entry_at he i
    rw [hb] at q
    exact ⟨_, b.2.1, q, rfl, e2, e3⟩
end
theorem turn_itemsT {P : Program} {w : World} {K : PySem.W.Frag} {d : Addr} {o : Obj} {es : Array DictEntry} {ep : Nat} {kvs : List (List Key × V)} {elts : List Expr} {kk : Nat} {tpos : Pos} (it : Addr) (hod : o.data = .dict es ep) :
    Turn P w K (.Tuple elts kk tpos) (Itit d o kvs) [it] it (fun i h => ∃ ok ov, IsItemIter h it d i kvs.length ep ok ov) where
  mem := by simp
  obj := fun i h st b hb => by
    have e : b = it := by simpa using hb
    subst e
    obtain ⟨ok, ov, e⟩ := st
    exact ⟨_, e, fun v z => nomatch z⟩
  keep := fun i h h' st k => let ⟨ok, ov, e⟩ := st; ⟨ok, ov, k it (by simp) _ e⟩
  item := by
    intro X hP hw hK hc i pins s σ H E I hf st hg
    subst hP hw hK
    obtain ⟨hd, hi⟩ := hg
    obtain ⟨hs, hgd, hx, es', ep', hdt, hsz, ent⟩ := frzT' I hd
    obtain ⟨rfl, rfl⟩ := dict_ep hod hdt
    obtain ⟨⟨k, v⟩, hkv⟩ : ∃ p, kvs[i]? = some p := ⟨kvs[i], List.getElem?_eq_getElem hi⟩
    obtain ⟨en, q, hen, hk, hq, rv⟩ := ent i k v hkv
    obtain ⟨ok, ov, he⟩ := st
    rw [← hsz] at he
    have hie : i < es'.size := by rw [hsz]; exact hi
    have een : es'[i] = en := by rw [Array.getElem?_eq_getElem hie] at hen; exact Option.some.inj hen
    have hlt : it < s.heap.objs.size := Heap.lt_size he
    refine DT.nextI he ⟨o, hgd, hx, hod⟩ hie fun h' ho hT hz hkp => ?_
    rw [een] at ho hT
    refine ⟨_, rfl, wpAny_letOwnedTupleGo_items (s := { s with heap := h' }) ho fun h'' he' sb => ?_⟩
    have hT2 : h''.get? s.heap.objs.size = some { cls := .type "tuple", data := .seq #[en.key, en.val] } := (sb.2 _ (Nat.ne_of_gt hlt)).trans hT
    have new : ObjOk X.prog X.w (upd H s.heap.objs.size (.tup [.ref q, v])) h'' s.heap.objs.size (.tup [.ref q, v]) :=
      ⟨by show 2 ≤ sizeLine; decide, [en.key, en.val], .cons (by rw [hk]; rfl) (.cons rv .nil), ⟨_, hT2, rfl, _, rfl⟩⟩
    have I1 : Inv X pins σ (upd H s.heap.objs.size (.tup [.ref q, v])) { s with heap := h'' } :=
      I.turnedNew (t' := s.toks) (ch := [it]) (fun b ob hb e => (sb.2 b (by simpa using hb)).trans (hkp b ob (by simpa using hb) e)) hf (Nat.le_refl _) new
    refine ⟨.ref s.heap.objs.size, _, I1, rfl, ⟨_, k, v, q, hkv, rfl, I.hok.fresh (Nat.le_refl _), hq, rfl⟩, ⟨en.key, en.val, ?_⟩, fun b hb => ?_⟩
    · rw [← hsz]; exact he'
    · have e : b = it := by simpa using hb
      rw [e, upd_ne (Nat.ne_of_lt hlt)]
      exact (hf it (by simp)).1
  done := by
    intro X hP hw hK hc i pins s σ H E I hf st hg
    subst hP hw hK
    obtain ⟨hd, hi⟩ := hg
    obtain ⟨f0, f1, f2, f3, f4, f5⟩ := hf it (by simp)
    obtain ⟨hs, hgd, hx, es', ep', hdt, hsz, ent⟩ := frzT' I hd
    obtain ⟨rfl, rfl⟩ := dict_ep hod hdt
    obtain ⟨ok, ov, he⟩ := st
    rw [← hsz] at he
    exact DT.endI (I.ok.hd hc) he ⟨o, hgd, hx, hod⟩ (by omega) fun h' eb => ⟨rfl, I.turned (t' := s.toks) (fun b ob hb e => eb b ob hb e) f0 f1 f3 f4 f5⟩
  self := fun A i s Q E st h => let ⟨_, _, e⟩ := st; PySem.W.kcp_self e h
def iItemsT (td : TE) : TI := fun σ H R => td σ H fun x H1 => ∃ d o kvs, x = .ref d ∧ H1 d = some (.frz o (.dT kvs)) ∧ R (Itit d o kvs) H1
theorem pi_itemsT {X : Cx} {e : Expr} {td : TE} {apos cpos : Pos} {elts : List Expr} {kk : Nat} {tpos : Pos} (he : PE X e td) (hbase : attributeBase e "items" X.env (eval e X.env) = eval e X.env := by rfl) (hline : (apos.endLine == cpos.line) = true := by rfl) :
    PI X (.Tuple elts kk tpos) (.Call (.Attribute e "items" apos) [] [] cpos) (iItemsT td) := by
  refine ⟨fun pins s σ H R I h => ?_⟩
  refine wpAny_Call_method (T := "dict") (id := "dict.items") hbase rfl hline F.plainAttrs_dict F.slot_dict_items F.type_dict_items (thn (he.run pins s σ H _ I h) fun u s1 ⟨x, H1, I1, rx, d, o, kvs, ex, hd, q⟩ => ?_)
  subst ex
  obtain rfl : u = Value.ref d := rx
  obtain ⟨hs, hgd, hx, es, ep, hdt, hsz, ent⟩ := frzT' I1 hd
  obtain ⟨t1, t2, _⟩ := isD_at I1 (a := d) (.inr ⟨kvs, .inr ⟨o, hd⟩⟩)
  refine ⟨t1, t2, ?_⟩
  have raw : DT.Raw s1.heap d es ep := ⟨o, hgd, hx, hdt⟩
  have I2 : Inv X pins σ H1 { s1 with heap := s1.heap.push { cls := .type "dict_items", data := .fields #[.ref d] } } := I1.kept (t' := s1.toks) fun b ob q => Heap.get?_push_of_some _ q
  have fin : wpAny (model X.prog X.w) X.A (pyIter (.ref s1.heap.objs.size)) (PIE X pins σ (.Tuple elts kk tpos) R) X.xe { s1 with heap := s1.heap.push { cls := .type "dict_items", data := .fields #[.ref d] } } := by
    refine DT.iterI (d := d) ⟨_, Heap.get?_push_size _ rfl, rfl, rfl⟩ (raw.push _) (pi_one (tk := s1.toks) I2 _ (turn_itemsT _ hdt) ⟨.none, .none, ?_⟩ q)
    rw [← hsz]
    exact Heap.get?_push_size _ rfl
  show wpAny _ _ (callWith cpos (.builtin "dict.items") [.ref d] [] []) _ X.xe s1
  exact method_meetsIn F.slot_dict_items F.entry_dict_items rfl (PySem.evalArgs_none ⟨rfl, t1, F.args_dict_items_1 _, _, DT.meetsItems (es := es) (ep := ep) hs, raw, fin⟩)
end VI

/-! Dict comprehensions, keys of either kind. -/
namespace VI
open PySem PySem.Spec PyProof.Rows L2
section
variable {X : Cx}
/-- d[y] = v by a comprehension, keys of either kind -/
theorem dG_set {pins : List (Addr × Obj)} {σ : L2.St} {H H' : Hp} {s : Shared} {E : Value → Shared → Prop} {a : Addr} {y v : V} {u r : Value} {Q : Unit → Shared → Prop} (hu : X.A.units < cLine) (I : L2.Inv X pins σ H s) (g : DPut H a y v H')
    (ry : L2.RelV y u) (rv : L2.RelV v r) (h : ∀ s', L2.Inv X pins σ H' s' → Q () s') : wpAny (model X.prog X.w) X.A (dictSet a u r) Q E s := by
  rcases g with ⟨kvs, k, e, ey, l, eH⟩ | ⟨kvs, k, b, e, ey, eb, l, eH⟩
  · subst ey eH
    exact d_dictSet I e l ry rv h
  · subst ey eH
    cases (show u = Value.ref b from ry)
    obtain ⟨z, hd, xs, rel, dd⟩ := dt_of I.hok e
    have hl : (putK kvs k v).length ≤ sizeLine := Nat.le_trans (length_putK kvs k v) l
    refine wpAny_dictSet_heap (hsz := by rw [← Paired.length rel]; exact z) (show (tupleKind (mixKind X.prog X.w)).room X.A from hu) (key_of I.hok eb) dd fun h' dd' hs => h _ ?_
    obtain ⟨q, es, ep, hq, h2, h3, h4, _, h5⟩ := dd'
    refine d_write I (by rw [e]; exact True.intro) hs ⟨q, hq⟩ ⟨hl, hd, _, (rel.put k eb rv).keeps fun c ys ec => ?_, q, es, ep, hq, h2, h3, h4, h5⟩
    rw [upd_ne (ne_of ec e (fun z => nomatch z))]
    exact ec
/-! a comprehension's block: its context, the end of a turn, the way back out -/
section
variable {pins : List (Addr × Obj)} {σ : L2.St} {H3 : Hp} {s3 : Shared} {scope : Scope} {ce : Env} {fp : List Addr} {own : List (Str × Nat)}
theorem blk_fp {σ' : L2.St} {H' : Hp} {s' : Shared} (I : L2.Inv (X.blk s3 H3 scope ce fp) [] σ' H' s') (hn : ∀ b ∈ fp, H' b = none) : ∀ b ∈ fp, FpOk (X.blk s3 H3 scope ce fp) [] H' b := fun b hb =>
  ⟨hn b hb, (I.ok.exf b hb).1, I.ok.exfs b hb, .inl hb, (I.ok.exf b hb).2, fun p hp => by cases (show p ∈ ([] : List (Addr × Obj)) from hp)⟩
theorem blk_out {τ : L2.St} {H' : Hp} {s' : Shared} (I3 : L2.Inv X pins σ H3 s3) (f3 : ∀ b ∈ fp, FpOk X pins H3 b) (hL : ce.locals = s3.heap.objs.size) (I : L2.Inv (X.blk s3 H3 scope ce fp) [] τ H' s') :
    L2.Inv X pins σ H' s' ∧ (∃ m, s'.heap.Ns s3.heap.objs.size m) ∧ FpOk X pins H' s3.heap.objs.size := by
  refine ⟨I3.call' (ch := fp) I.os I.base I.hok I.bare fun b hb => ?_, ?_, I3.fpOk (Nat.le_refl _) ?_⟩
  · obtain ⟨_, g1, _, g3, g4, g5⟩ := f3 b hb
    exact ⟨g3, g1, g4, g5⟩
  · obtain ⟨m, hm, _⟩ := I.loc
    exact ⟨m, by rw [← hL]; exact hm⟩
  · rw [← hL]; exact I.free
theorem blk_end {J : It} {tg : Expr} {it : Addr} {tn : Nat → Heap → Prop} {i : Nat} {s7 s' : Shared} {τ : L2.St} {H' : Hp} (T : Turn X.prog X.w X.K tg J fp it tn) (st : tn i s7.heap) (hw : wipe τ (own.map (·.2)) = wipe σ (own.map (·.2)))
    (I : L2.Inv (X.blk s3 H3 scope ce fp) ([] ++ pinsAt fp s7.heap) τ H' s') : L2.Inv (X.blk s3 H3 scope ce fp) [] (wipe σ (own.map (·.2))) H' s' ∧ tn i s'.heap ∧ ∀ b ∈ fp, H' b = none := by
  have at_ : ∀ b ∈ fp, ∀ o, s7.heap.get? b = some o → s'.heap.get? b = some o ∧ H' b = none := fun b hb o e => by
    have z := I.pin (b, o) (List.mem_append_right _ (List.mem_append_right _ (mem_pinsAt hb e)))
    exact ⟨z.1, z.2.1⟩
  refine ⟨(I.unpinned (pins := [])).weak ?_ (fun j v e => ?_), T.keep _ _ _ st fun b hb o e => (at_ b hb o e).1, fun b hb => ?_⟩
  · rw [← hw, wipe_length]
  · rw [← hw] at e; exact (wipe_some e).1
  · obtain ⟨o, e, _⟩ := T.obj _ _ st b hb
    exact (at_ b hb o e).2
end
def tDcG (o0 : HO) (wi : TI) (g : TG) (tt : TT) (tk tv : TE) (vs : List Nat) : TE := fun σ H Q => wi σ H fun J H1 => ∀ D, H1 D = none → ∃ W : Nat → Nat → Hp → Prop, (∃ m, W 0 m (upd H1 D o0)) ∧ ∀ i m H, W i m H →
  (J.stop i H ∧ Q (.ref D) H) ∨ (J.go i H ∧ ∃ Nx : Hp → Prop, (∀ H', Nx H' → ∃ m', m' < m ∧ W (i + 1) m' H') ∧ ∀ x H', J.yld i H x H' → g x (wipe σ vs) H' fun σ2 H2 => wipe σ2 vs = wipe σ vs ∧ tt σ2 H2 fun b H3 =>
    if b = true then tk σ2 H3 fun y H4 => tv σ2 H4 fun z H5 => ∃ H6, DPut H5 D y z H6 ∧ Nx H6 else Nx H3)
variable {kx vx tg iter : Expr} {ifs : List Expr} {scope : Scope} {own : List (Str × Nat)} {pos : Pos} {wi : TI} {g : TG} {tt : TT} {tk tv : TE}
theorem pe_dcG {o0 : HO} (hu : X.A.units < cLine) (h0 : o0 = .dK [] ∨ o0 = .dT []) (hc : X.calm = true) (hN : X.N.Nodup) (hi : PI X tg iter wi) (ok : BlkOk X.N X.env.scope scope own)
    (hg : ∀ (s : Shared) (H : Hp) (C : Addr) (cl : List (Str × Addr)) (fp : List Addr), PG (X.blk s H scope (compEnvC scope cl C X.env) fp) tg g) (ht : ∀ (s : Shared) (H : Hp) (C : Addr) (cl : List (Str × Addr)) (fp : List Addr), PTs (X.blk s H scope (compEnvC scope cl C X.env) fp) ifs tt)
    (hk : ∀ (s : Shared) (H : Hp) (C : Addr) (cl : List (Str × Addr)) (fp : List Addr), PE (X.blk s H scope (compEnvC scope cl C X.env) fp) kx tk)
    (he : ∀ (s : Shared) (H : Hp) (C : Addr) (cl : List (Str × Addr)) (fp : List Addr), PE (X.blk s H scope (compEnvC scope cl C X.env) fp) vx tv) (hs : ∀ x, foldedSetIterable iter X.env x = pure x := by intro _; rfl) :
    PE X (.DictComp kx vx [⟨tg, iter, ifs, 0⟩] scope pos) (tDcG o0 wi g tt tk tv (own.map (·.2))) := by
  refine ⟨fun pins s σ H Q I h => ?_⟩
  rw [arm_eval_DictComp]
  have hfree : ∀ y ∈ scope.names, y.2 = .free → ∃ c, X.env.cells.lookup y.1 = some c := fun y hy e =>
    (ok.free y hy e).elim (fun k => I.ok.has _ (.inl k)) (fun k => I.ok.has _ (.inr k))
  refine wpAny_comprehension_free (use := none) rfl hs (closure_ok hfree) ok.kind (fun y hy e => by rw [ok.uniq y hy, e]) (thn (hi.run pins s σ H _ I h) fun xv s1 hx => thn hx fun itv s2 h2 => ?_)
  obtain ⟨it, fp, tn, J, H2, rfl, I2, T, st2, f2, q⟩ := h2
  obtain ⟨W, ⟨m0, w0⟩, turn⟩ := q s2.heap.objs.size (I2.hok.fresh (Nat.le_refl _))
  refine wpAny_newObj_type (newEnv_comp ?_)
  have lt2 : ∀ b ∈ fp, b < s2.heap.objs.size := fun b hb => by
    obtain ⟨o, e, _⟩ := T.obj _ _ st2 b hb
    exact Heap.lt_size e
  -- the new dict
  have I3 : L2.Inv X pins σ (upd H2 s2.heap.objs.size o0) { s2 with heap := s2.heap.push { cls := .type "dict", data := .dict #[] } } := by
    refine I2.laid (t' := s2.toks) (fun b o e => Heap.get?_push_of_some _ e) (Nat.le_refl _) ?_
    rcases h0 with rfl | rfl
    · exact dk_empty s2.heap I2.big
    · exact dt_empty s2.heap I2.big
  have f3 : ∀ b ∈ fp, FpOk X pins (upd H2 s2.heap.objs.size o0) b := fun b hb => by
    refine ⟨?_, (f2 b hb).2⟩
    rw [upd_ne (Nat.ne_of_lt (lt2 b hb))]
    exact (f2 b hb).1
  have st3 : tn 0 (s2.heap.push { cls := .type "dict", data := .dict #[] }) := T.keep _ _ _ st2 fun b _ o e => Heap.get?_push_of_some _ e
  generalize hD : s2.heap.objs.size = D at *
  generalize hH3 : upd H2 D o0 = H3 at *
  generalize hs3 : ({ s2 with heap := s2.heap.push { cls := .type "dict", data := .dict #[] } } : Shared) = s3 at *
  have st3 : tn 0 s3.heap := by rw [← hs3]; exact st3
  have lt3 : ∀ b ∈ fp, FpOk X pins H3 b ∧ b < s3.heap.objs.size := fun b hb => ⟨f3 b hb, by rw [← hs3]; show b < (s2.heap.push _).objs.size; rw [Heap.size_push]; exact Nat.lt_succ_of_lt (hD ▸ lt2 b hb)⟩
  have I4 := block_start I3 ok hN lt3
  have pg := hg s3 H3 s3.heap.objs.size (cellsFrom (s3.heap.objs.size + 1) scope.names (cloFrom X.env.cells scope.names [])) fp
  have pt := ht s3 H3 s3.heap.objs.size (cellsFrom (s3.heap.objs.size + 1) scope.names (cloFrom X.env.cells scope.names [])) fp
  have pk := hk s3 H3 s3.heap.objs.size (cellsFrom (s3.heap.objs.size + 1) scope.names (cloFrom X.env.cells scope.names [])) fp
  have pe := he s3 H3 s3.heap.objs.size (cellsFrom (s3.heap.objs.size + 1) scope.names (cloFrom X.env.cells scope.names [])) fp
  show codeAny _ _ (.compStart (.DictComp kx vx [⟨tg, iter, ifs, 0⟩] scope pos) 0 (.ref it) (.ref D) (compEnvC scope (cellsFrom (s3.heap.objs.size + 1) scope.names (cloFrom X.env.cells scope.names [])) s3.heap.objs.size X.env)) (compPost (model X.prog X.w) X.A X.xe none (EP X pins σ Q) (.ref D) s3.heap.objs.size) { s3 with heap := pushCells (s3.heap.push { cls := .type "dict", data := .dict #[] }) scope.names }
  have hL : (compEnvC scope (cellsFrom (s3.heap.objs.size + 1) scope.names (cloFrom X.env.cells scope.names [])) s3.heap.objs.size X.env).locals = s3.heap.objs.size := rfl
  generalize compEnvC scope (cellsFrom (s3.heap.objs.size + 1) scope.names (cloFrom X.env.cells scope.names [])) s3.heap.objs.size X.env = ce at *
  have st4 : tn 0 (pushCells (s3.heap.push { cls := .type "dict", data := .dict #[] }) scope.names) := T.keep _ _ _ st3 fun b _ o e => pushCells_keeps _ _ _ _ (Heap.get?_push_of_some _ e)
  generalize hs4 : ({ s3 with heap := pushCells (s3.heap.push { cls := .type "dict", data := .dict #[] }) scope.names } : Shared) = s4 at I4 ⊢
  replace st4 : tn 0 s4.heap := by rw [← hs4]; exact st4
  have n3 : ∀ b ∈ fp, H3 b = none := fun b hb => (f3 b hb).1
  suffices loop : codeAny (model X.prog X.w) X.A (.compLoop (.DictComp kx vx [⟨tg, iter, ifs, 0⟩] scope pos) 0 (.ref it) (.ref D) ce) (compPost (model X.prog X.w) X.A X.xe none (EP X pins σ Q) (.ref D) s3.heap.objs.size) s4 from
    codeAny_compStart_dict loop (T.self X.A 0 _ _ _ st4 loop)
  refine compLoop_anyD (fun n s' => ∃ i H', L2.Inv (X.blk s3 H3 scope ce fp) [] (wipe σ (own.map (·.2))) H' s' ∧ tn i s'.heap ∧ (∀ b ∈ fp, H' b = none) ∧ W i n H') ?_ m0 ⟨0, H3, I4, st4, n3, w0⟩
  rintro n s5 ⟨i, H5, I5, st5, n5, w5⟩
  rcases turn i n H5 w5 with ⟨stop, qq⟩ | ⟨go, Nx, hNx, step⟩
  · refine thnF (T.done (X.blk s3 H3 scope ce fp) rfl rfl rfl hc i [] s5 _ H5 (fun _ _ => False) I5 (blk_fp I5 n5) st5 stop) fun r s6 ⟨hr, I6⟩ => ?_
    subst hr
    obtain ⟨I7, ⟨m, hm⟩, f⟩ := blk_out I3 f3 hL I6
    refine ⟨m, hm, fun h'' sb => ⟨.ref D, H5, I7.turned (t' := s6.toks) (fun b o hb e => (sb.2 b hb).trans e) f.1 f.2.1 f.2.2.2.1 f.2.2.2.2.1 f.2.2.2.2.2, rfl, qq⟩⟩
  · refine thnF (T.item (X.blk s3 H3 scope ce fp) rfl rfl rfl hc i [] s5 _ H5 (fun _ _ => False) I5 (blk_fp I5 n5) st5 go) fun r s6 ⟨u, hr, h6⟩ => ?_
    subst hr
    refine thnF h6 fun _ s7 ⟨x, H7, I7, r7, y7, st7, n7⟩ => ?_
    refine thnF (pg.run _ s7 _ H7 x u _ (I7.pinned (blk_fp I7 n7) (T.obj _ _ st7)) r7 (step x H7 y7)) fun _ s8 ⟨σ8, H8, I8, hw8, q8⟩ => ?_
    refine thnF (pt.run _ s8 σ8 H8 _ I8 q8) fun b s9 ⟨H9, I9, q9⟩ => ?_
    have fin : ∀ {s' : Shared} {H' : Hp}, L2.Inv (X.blk s3 H3 scope ce fp) ([] ++ pinsAt fp s7.heap) σ8 H' s' → Nx H' → ∃ m, m < n ∧ ∃ i H', L2.Inv (X.blk s3 H3 scope ce fp) [] (wipe σ (own.map (·.2))) H' s' ∧ tn i s'.heap ∧ (∀ b ∈ fp, H' b = none) ∧ W i m H' := fun {s' H'} I' nx => by
      obtain ⟨m', hm, w'⟩ := hNx H' nx
      obtain ⟨a1, a2, a3⟩ := blk_end T st7 hw8 I'
      exact ⟨m', hm, i + 1, H', a1, a2, a3, w'⟩
    cases b with
    | false => exact fin I9 (by simpa using q9)
    | true =>
      rw [if_pos rfl] at q9
      refine thnF (pk.run _ s9 σ8 H9 _ I9 q9) fun z s10 ⟨yk, H10, I10, r10, q10⟩ => ?_
      refine thnF (pe.run _ s10 σ8 H10 _ I10 q10) fun z2 s11 ⟨yv, H11, I11, r11, H12, put, nx⟩ => ?_
      exact dG_set (X := X.blk s3 H3 scope ce fp) hu I11 put r10 r11 fun s12 I12 => fin I12 nx
end
end VI

/-! Comprehensions of dicts, and over dicts; loops over dicts. -/
namespace VI
open PySem PySem.Spec PyProof.Rows L2

def compDM (is : List Nat) (b : MG) (t : MT) (fk fv : ME) : List D → D → Rho → Option (D × Rho)
  | [], acc, ρ => some (acc, ρ)
  | d :: ds, acc, ρ => do
    let ρ1 ← b d ρ
    let (c, ρ2) ← t ρ1
    if c = true then do
      let (rk, ρ3) ← fk ρ2
      let (rv, ρ4) ← fv ρ3
      let acc' ← gSetDc acc rk.d rv.d
      compDM is b t fk fv ds acc' (wipeR ρ4 is)
    else compDM is b t fk fv ds acc (wipeR ρ2 is)
theorem compD_ok {K : PySem.W.Frag} {F H : Hp} {ρ ρ' : Rho} {σ : L2.St} {J : It} {ds : List D} {d0 acc : D} {o0 : HO} {is : List Nat} {b : MG} {t : MT} {fk fv : ME} {p : Addr} {Qd : Hp → Prop} (R : Rel K F ρ σ H) (it : Itn K F (wipeR ρ is) σ H J ds) (hb : NB b) (hf : is.all (free ρ) = true) (hp : H p = none)
    (h0 : OwnAt K F (upd H p o0) p d0) (e : compDM is b t fk fv ds d0 (wipeR ρ is) = some (acc, ρ'))
    (post : ∀ F' H', Rel K F' ρ' σ H' → StpE F ρ σ H F' ρ' H' → F' p = none → OwnAt K F' H' p acc → Qd H') :
    ∃ W : Nat → Nat → Hp → Prop, (∃ m, W 0 m (upd H p o0)) ∧ ∀ i m H, W i m H →
      (J.stop i H ∧ Qd H) ∨ (J.go i H ∧ ∃ Nx : Hp → Prop, (∀ H', Nx H' → ∃ m', m' < m ∧ W (i + 1) m' H') ∧ ∀ x H', J.yld i H x H' → tG K is b x (wipe σ is) H' fun σ2 H2 => wipe σ2 is = wipe σ is ∧ tT K t σ2 H2 fun c H3 =>
        if c = true then tE K fk σ2 H3 fun y H4 => tE K fv σ2 H4 fun z H5 => ∃ H6, DPut H5 p y z H6 ∧ Nx H6 else Nx H3) := by
  obtain ⟨G, Y, w, hG, hY⟩ := it
  have hFp : F p = none := R.le.none hp
  have wn : ∀ (i : Nat) (s : Sl), (wipeR ρ is)[i]? = some (some s) → i ∉ is := fun i s h => (wipeR_get h).2
  have Rw : Rel K F (wipeR ρ is) σ H := R.wipe is
  have np0 : NotP (wipeR ρ is) σ p := fun j s h hm z => by
    obtain ⟨v, hv, ok⟩ := Rw.at_ j s h
    obtain ⟨q, rfl, _, oa⟩ := ok.nfz hm
    rw [hv] at z; cases z
    obtain ⟨u, hu⟩ := oa.has
    rw [hp] at hu; cases hu
  have eww : wipe (wipe σ is) is = wipe σ is := by
    have aux : ∀ (l : List Nat) (τ : L2.St), (∀ i ∈ l, i ∈ is) → wipe (wipe τ l) is = wipe τ is := by
      intro l
      induction l with
      | nil => intro τ _; rfl
      | cons v vs ih => intro τ h; show wipe ((wipe τ vs).set v none) is = wipe τ is; rw [wipe_set (h v List.mem_cons_self)]; exact ih τ fun i hi => h i (List.mem_cons_of_mem _ hi)
    exact aux is σ fun i h => h
  -- the state between two turns, over σ
  have prot : ∀ {F1 F2 H1 H2 : Hp} {ρ1 ρ2 : Rho} {σ1 σ2 : L2.St} {x : D}, Stp F1 ρ1 σ1 H1 F2 ρ2 σ2 H2 → NotP ρ1 σ1 p → F1 p = none → OwnAt K F1 H1 p x → NotP ρ2 σ2 p ∧ F2 p = none ∧ OwnAt K F2 H2 p x ∧ H2 p = H1 p := fun {F1 F2 H1 H2 ρ1 ρ2 σ1 σ2 x} S n f o => by
    obtain ⟨u, hu⟩ := o.has
    obtain ⟨n2, h2, f2⟩ := S.prot n hu f (fun vs z => o.noTup (hu.trans (by rw [z])))
    exact ⟨n2, f2, o.mono S.le (h2.trans hu.symm), h2.trans hu.symm⟩
  let Pv : Nat → Hp → Prop := fun k H' => ∃ F' ρ1 acc1, Rel K F' ρ1 σ H' ∧ Stp F (wipeR ρ is) σ H F' ρ1 σ H' ∧ (∀ (i : Nat) (s : Sl), ρ1[i]? = some (some s) → i ∉ is) ∧
      (∀ (j : Nat) (s : Sl), ρ1[j]? = some (some s) → s.m ≠ .fz → ∃ s0, (wipeR ρ is)[j]? = some (some s0) ∧ s0.m = s.m) ∧ NotP ρ1 σ p ∧ F' p = none ∧ OwnAt K F' H' p acc1 ∧
      compDM is b t fk fv (ds.drop k) acc1 ρ1 = some (acc, ρ')
  refine ⟨fun i m H => m = ds.length - i ∧ i ≤ ds.length ∧ Pv i H, ⟨ds.length, by simp, Nat.zero_le _, F, wipeR ρ is, d0, Rw.updP np0 hFp, ⟨Le.refl F, fun a o h _ => by rw [upd_ne (ne_of_none h hp)]; exact h, fun a o h => ⟨o, by rw [upd_ne (ne_of_none h hp)]; exact h, fun _ => rfl⟩, fun _ o h => .inl ⟨o, h⟩, fun _ h => .inl h, fun _ _ d _ h => ⟨⟨d, h⟩, rfl⟩, fun _ _ d _ h => ⟨d, h⟩⟩, wn, fun j s h _ => ⟨s, h, rfl⟩, np0, hFp, h0, by rw [List.drop_zero]; exact e⟩, ?_⟩
  rintro k m H1 ⟨rfl, hk', F1, ρ1, acc1, R1, S1, n1, b1, np1, fp1, oa1, e1⟩
  have g1 : G H1 := hG F1 ρ1 σ H1 S1 R1.le
  by_cases hk : k < ds.length
  · refine .inr ⟨w.goes k H1 hk g1, Pv (k + 1), fun H' p' => ⟨ds.length - (k + 1), by omega, rfl, hk, p'⟩, fun x H2 y => ?_⟩
    obtain ⟨F2, d, hd, N⟩ := hY k F1 ρ1 σ H1 x H2 hk S1 R1.le (w.yields k H1 x H2 hk g1 y)
    obtain ⟨R2, S2⟩ := R1.new N
    obtain ⟨np2, fp2, oa2, _⟩ := prot S2.stp np1 fp1 oa1
    have ed : ds.drop k = d :: ds.drop (k + 1) := by
      rw [List.drop_eq_getElem_cons hk]
      congr 1
      rw [List.getElem?_eq_getElem hk] at hd
      exact Option.some.inj hd
    rw [ed] at e1
    obtain ⟨ρa, ea, e1⟩ := bind_some e1
    obtain ⟨⟨c, ρb⟩, eb, e1⟩ := bind_some e1
    -- over the wiped slots
    have R2w : Rel K F2 ρ1 (wipe σ is) H2 := R2.onto n1 eww
    refine ⟨F2, ρ1, d, ρa, R2w, N.res, ea, fun σ2 ew R3 S3 => ⟨ew.trans eww, ?_⟩⟩
    have ew' : wipe σ2 is = wipe σ is := ew.trans eww
    have np2w : NotP ρ1 (wipe σ is) p := fun j s h hm z => np2 j s h hm (by rw [wipe_out (n1 j s h)] at z; exact z)
    obtain ⟨np3, fp3, oa3, _⟩ := prot S3 np2w fp2 oa2
    refine ⟨F2, ρa, c, ρb, R3, eb, fun F4 H4 R4 S4 => ?_⟩
    obtain ⟨np4, fp4, oa4, _⟩ := prot S4.stp np3 fp3 oa3
    -- a turn's end: from the slots that were bound back to σ
    have fin : ∀ (F5 : Hp) (ρc : Rho) (H5 H6 : Hp) (acc2 : D) (o : HO), Rel K F5 ρc σ2 H5 → StpE F2 ρa σ2 H2 F5 ρc H5 → H6 = upd H5 p o → F5 p = none → NotP ρc σ2 p → OwnAt K F5 H6 p acc2 →
        compDM is b t fk fv (ds.drop (k + 1)) acc2 (wipeR ρc is) = some (acc, ρ') → Pv (k + 1) H6 := by
      intro F5 ρc H5 H6 acc2 o R5 S5 e6 fp5 np5 ra5 e5
      have eo : ∀ i, i ∉ is → σ2[i]? = σ[i]? := fun i hi => by rw [← wipe_out hi, ew', wipe_out hi]
      have n5 : ∀ (i : Nat) (s : Sl), (wipeR ρc is)[i]? = some (some s) → i ∉ is := fun i s h => (wipeR_get h).2
      have R6 : Rel K F5 (wipeR ρc is) σ H5 := (R5.wipe is).onto n5 ew'.symm
      have np6 : NotP (wipeR ρc is) σ p := fun j s h hm z => np5 j s (wipeR_get h).1 hm (by rw [eo j (n5 j s h)]; exact z)
      -- modes, from the bound slots back
      have md : ∀ (j : Nat) (s : Sl), ρc[j]? = some (some s) → s.m ≠ .fz → ∃ s0, (wipeR ρ is)[j]? = some (some s0) ∧ s0.m = s.m := fun j s h hm => by
        obtain ⟨s1, h1, m1⟩ := S5.back j s h hm
        have hm1 : s1.m ≠ .fz := by rw [m1]; exact hm
        obtain ⟨s0, h0, m0⟩ := b1 j s1 (hb d ρ1 ρa ea j s1 h1 hm1) hm1
        exact ⟨s0, h0, m0.trans m1⟩
      have SA : Stp F (wipeR ρ is) σ H F2 ρ1 σ H2 := S1.trans S2.stp
      have SB : Stp F2 ρ1 (wipe σ is) H2 F5 ρc σ2 H5 := S3.trans S5.stp
      have S6 : Stp F (wipeR ρ is) σ H F5 (wipeR ρc is) σ H6 := by
        have ownW : ∀ a, Own ρ1 (wipe σ is) a → Own ρ1 σ a := fun a ⟨j, s, h1, h2, h3⟩ => ⟨j, s, h1, h2, by rw [wipe_out (n1 j s h1)] at h3; exact h3⟩
        have ownOW : ∀ a, OwnO ρ1 (wipe σ is) a → OwnO ρ1 σ a := fun a ⟨j, s, h1, h2, h3⟩ => ⟨j, s, h1, h2, by rw [wipe_out (n1 j s h1)] at h3; exact h3⟩
        have SB' : Stp F2 ρ1 σ H2 F5 (wipeR ρc is) σ H5 := by
          refine ⟨SB.le, fun a o h n => SB.keep a o h fun z => n (ownW a z), SB.there, fun a o h => ?_, fun a h => ?_, fun j m dd hm z => ?_, fun j m dd hm z => ?_⟩
          · rcases SB.newF a o h with q | q | q | q
            · exact .inl q
            · exact .inr (.inl q)
            · exact .inr (.inr (.inl (ownOW a q)))
            · exact .inr (.inr (.inr q))
          · obtain ⟨j, s, h1, h2, h3⟩ := h
            have q := wipeR_get h1
            rcases SB.ownO a ⟨j, s, q.1, h2, by rw [eo j q.2]; exact h3⟩ with z | z
            · exact .inl (ownOW a z)
            · exact .inr z
          · obtain ⟨⟨d', e'⟩, _⟩ := SB.fwd j m dd hm z
            exact ⟨⟨d', by rw [wipeR_out (n1 j _ z)]; exact e'⟩, rfl⟩
          · exact SB.bwd j m dd hm (wipeR_get z).1
        have SC := SA.trans SB'
        rw [e6]
        refine ⟨SC.le, fun a o h n => ?_, fun a o h => ?_, SC.newF, SC.ownO, SC.fwd, SC.bwd⟩
        · rw [upd_ne (ne_of_none h hp)]; exact SC.keep a o h n
        · rw [upd_ne (ne_of_none h hp)]; exact SC.there a o h
      refine ⟨F5, wipeR ρc is, acc2, ?_, S6, n5, fun j s h hm => md j s (wipeR_get h).1 hm, np6, fp5, ra5, e5⟩
      rw [e6]
      exact R6.updP np6 fp5
    cases c with
    | false =>
      refine iteF ?_
      obtain ⟨o4, ho4⟩ := oa4.has
      refine fin F4 ρb H4 H4 acc1 o4 R4 S4 ?_ fp4 np4 oa4 e1
      funext a
      by_cases z : a = p
      · subst z; rw [upd_same]; exact ho4
      · rw [upd_ne z]
    | true =>
      refine iteT ?_
      obtain ⟨⟨rk, ρc⟩, ec, e1⟩ := bind_some e1
      obtain ⟨⟨rv, ρd⟩, ed', e1⟩ := bind_some e1
      obtain ⟨acc', eg, e1⟩ := bind_some e1
      refine ⟨F4, ρb, rk, ρc, R4, ec, fun v F5 H5 R5 S5 res => ?_⟩
      obtain ⟨F6, R6, S6, rp⟩ := res.frozen R4 R5 S5
      obtain ⟨np6, fp6, oa6, _⟩ := prot S6.stp np4 fp4 oa4
      refine ⟨F6, ρc, rv, ρd, R6, ed', fun v2 F7 H7 R7 S7 res2 => ?_⟩
      obtain ⟨F8, R8, S8, rp2⟩ := res2.frozen R6 R7 S7
      obtain ⟨np8, fp8, oa8, _⟩ := prot S8.stp np6 fp6 oa6
      obtain ⟨a, H9, ea9, put, nx⟩ := set_d (K := K) F8 H7 p acc1 rk.d rv.d acc' v v2 (fun H9 => Pv (k + 1) H9) R8.le fp8 oa8 (rp.mono S8.stp.le) rp2 eg fun o oa9 =>
        fin F8 ρd H7 _ acc' o R8 ((S4.trans S6).trans S8) rfl fp8 np8 oa9 e1
      cases ea9
      exact ⟨H9, put, nx⟩
  · have ek : k = ds.length := by omega
    subst ek
    rw [List.drop_length] at e1
    cases e1
    refine .inl ⟨w.stops H1 g1, post F1 H1 R1 ⟨⟨S1.le, fun a o h n => S1.keep a o h fun ⟨j, s, h1, h2, h3⟩ => n ⟨j, s, (wipeR_get h1).1, h2, h3⟩, S1.there, fun a o h => ?_, fun a h => ?_, fun j m d hm z => ?_, fun j m d hm z => ?_⟩, fun j s h hm => ?_⟩ fp1 oa1⟩
    · rcases S1.newF a o h with q | q | ⟨j, s, h1, h2, h3⟩ | q
      · exact .inl q
      · exact .inr (.inl q)
      · exact .inr (.inr (.inl ⟨j, s, (wipeR_get h1).1, h2, h3⟩))
      · exact .inr (.inr (.inr q))
    · rcases S1.ownO a h with ⟨j, s, h1, h2, h3⟩ | q
      · exact .inl ⟨j, s, (wipeR_get h1).1, h2, h3⟩
      · exact .inr q
    · have nj : j ∉ is := fun hj => free_not (List.all_eq_true.mp hf j hj) hm z
      exact S1.fwd j m d hm (by rw [wipeR_out nj]; exact z)
    · obtain ⟨d', q⟩ := S1.bwd j m d hm z
      exact ⟨d', (wipeR_get q).1⟩
    · obtain ⟨s0, q, m0⟩ := b1 j s h hm
      exact ⟨s0, (wipeR_get q).1, m0⟩
/-! ### a dict comprehension over what any loop walks -/
def dNew (k : Bool) : D := if k = true then .dT [] else .dK []
def oNew (k : Bool) : HO := if k = true then .dT [] else .dK []
theorem own_new {K : PySem.W.Frag} {F H : Hp} {p : Addr} (k : Bool) : OwnAt K F (upd H p (oNew k)) p (dNew k) := by
  cases k
  · exact ⟨[], upd_same, rfl, .nil⟩
  · exact ⟨[], upd_same, rfl, .nil⟩
theorem oNew_or (k : Bool) : oNew k = .dK [] ∨ oNew k = .dT [] := by cases k <;> first | exact .inl rfl | exact .inr rfl
def fDComp (k : Bool) (items : D → Option (List D)) (src : Opd) (is : List Nat) (b : MG) (t : MT) (fk fv : ME) : ME := fun ρ => do
  let (pk, ρ1) ← evalO src ρ
  let d ← look pk ρ1
  let ds ← items d
  if is.all (free (lend pk ρ1)) = true then do
    let (acc, ρ2) ← compDM is b t fk fv ds (dNew k) (wipeR (lend pk ρ1) is)
    pure (⟨.own, acc⟩, back pk ρ1 ρ2)
  else none
theorem tE_dcomp {K : PySem.W.Frag} {k : Bool} {items : D → Option (List D)} {wi : TE → TI} {src : Opd} {is : List Nat} {b : MG} {t : MT} {fk fv : ME} {σ : L2.St} {H : Hp} {Q : VK} (hw : Walks K items wi) (hb : NB b) (h : tE K (fDComp k items src is b t fk fv) σ H Q) :
    tDcG (oNew k) (wi (tO K src)) (tG K is b) (tT K t) (tE K fk) (tE K fv) is σ H Q := by
  obtain ⟨F, ρ, r, ρ', R, e, post⟩ := h
  obtain ⟨⟨pk, ρ1⟩, e1, e⟩ := bind_some e
  obtain ⟨d, e2, e⟩ := bind_some e
  obtain ⟨ds, e3, e⟩ := bind_some e
  split at e
  · rename_i hf
    obtain ⟨⟨acc, ρ2⟩, e4, e⟩ := bind_some e
    cases e
    refine hw src σ H _ ⟨F, ρ, pk, ρ1, d, ds, R, e1, e2, e3, fun F1 H1 J R1 S1 it p hp => ?_⟩
    refine compD_ok (R1.lend pk) (it.wiped hf) hb hf hp (own_new k) e4 fun F2 H2 R2 S2 fp oa => ?_
    obtain ⟨R3, S3⟩ := S2.lend R1 R2
    exact post (.ref p) F2 H2 R3 (S1.trans S3) ⟨p, rfl, none_back S1.stp hp, fp, oa⟩
  · cases e
def fDCompN (k : Bool) (g : List D → Option (List D)) (os : List Opd) (is : List Nat) (b : MG) (t : MT) (fk fv : ME) : ME := fun ρ => do
  let (pks, ρ1) ← evalOs os ρ
  let es ← looks ρ1 pks
  let ds ← g es
  if is.all (free ρ1) = true then do
    let (acc, ρ2) ← compDM is b t fk fv ds (dNew k) (wipeR ρ1 is)
    pure (⟨.own, acc⟩, ρ2)
  else none
theorem tE_dcompN {K : PySem.W.Frag} {k : Bool} {g : List D → Option (List D)} {wi : TA → TI} {os : List Opd} {is : List Nat} {b : MG} {t : MT} {fk fv : ME} {σ : L2.St} {H : Hp} {Q : VK} (hw : WalksN K g wi) (hb : NB b) (h : tE K (fDCompN k g os is b t fk fv) σ H Q) :
    tDcG (oNew k) (wi (tA K os)) (tG K is b) (tT K t) (tE K fk) (tE K fv) is σ H Q := by
  obtain ⟨F, ρ, r, ρ', R, e, post⟩ := h
  obtain ⟨⟨pks, ρ1⟩, e1, e⟩ := bind_some e
  obtain ⟨es, e2, e⟩ := bind_some e
  obtain ⟨ds, e3, e⟩ := bind_some e
  split at e
  · rename_i hf
    obtain ⟨⟨acc, ρ2⟩, e4, e⟩ := bind_some e
    cases e
    refine hw os σ H _ ⟨F, ρ, pks, ρ1, es, ds, R, e1, e2, e3, fun F1 H1 J R1 S1 it p hp => ?_⟩
    refine compD_ok R1 (it.wiped hf) hb hf hp (own_new k) e4 fun F2 H2 R2 S2 fp oa => ?_
    exact post (.ref p) F2 H2 R2 (S1.trans S2) ⟨p, rfl, none_back S1.stp hp, fp, oa⟩
  · cases e
section
variable {X : Cx} {kx vx tg iter : Expr} {ifs : List Expr} {scope : Scope} {pos : Pos} {is : List Nat} {b : MG} {t : MT} {fk fv : ME} {kd : Nat}
theorem ve_dcomp (k : Bool) {items : D → Option (List D)} {wi : TE → TI} {src : Opd} (own : List (Str × Nat)) (hw : Walks X.K items wi) (hb : NB b) (hr : Room kd X.A) (hc : X.calm = true) (hN : X.N.Nodup) (hi : PI X tg iter (wi (tO X.K src))) (ok : BlkOk X.N X.env.scope scope own)
    (hg : ∀ (s : Shared) (H : Hp) (C : Addr) (cl : List (Str × Addr)) (fp : List Addr), VG (X.blk s H scope (compEnvC scope cl C X.env) fp) tg is b) (ht : ∀ (s : Shared) (H : Hp) (C : Addr) (cl : List (Str × Addr)) (fp : List Addr), VTs (X.blk s H scope (compEnvC scope cl C X.env) fp) ifs t)
    (hk : ∀ (s : Shared) (H : Hp) (C : Addr) (cl : List (Str × Addr)) (fp : List Addr), VE (X.blk s H scope (compEnvC scope cl C X.env) fp) kx fk) (he : ∀ (s : Shared) (H : Hp) (C : Addr) (cl : List (Str × Addr)) (fp : List Addr), VE (X.blk s H scope (compEnvC scope cl C X.env) fp) vx fv)
    (ho : own.map (·.2) = is := by rfl) (hs : ∀ x, foldedSetIterable iter X.env x = pure x := by intro _; rfl) :
    VE X (.DictComp kx vx [⟨tg, iter, ifs, 0⟩] scope pos) (fDComp k items src is b t fk fv) := VE.of (pe_dcG (by have := u1 hr; omega) (oNew_or k) hc hN hi ok hg ht hk he hs) fun _ _ _ _ q => by rw [ho]; exact tE_dcomp hw hb q
theorem ve_dcompN (k : Bool) {g : List D → Option (List D)} {wi : TA → TI} {os : List Opd} (own : List (Str × Nat)) (hw : WalksN X.K g wi) (hb : NB b) (hr : Room kd X.A) (hc : X.calm = true) (hN : X.N.Nodup) (hi : PI X tg iter (wi (tA X.K os))) (ok : BlkOk X.N X.env.scope scope own)
    (hg : ∀ (s : Shared) (H : Hp) (C : Addr) (cl : List (Str × Addr)) (fp : List Addr), VG (X.blk s H scope (compEnvC scope cl C X.env) fp) tg is b) (ht : ∀ (s : Shared) (H : Hp) (C : Addr) (cl : List (Str × Addr)) (fp : List Addr), VTs (X.blk s H scope (compEnvC scope cl C X.env) fp) ifs t)
    (hk : ∀ (s : Shared) (H : Hp) (C : Addr) (cl : List (Str × Addr)) (fp : List Addr), VE (X.blk s H scope (compEnvC scope cl C X.env) fp) kx fk) (he : ∀ (s : Shared) (H : Hp) (C : Addr) (cl : List (Str × Addr)) (fp : List Addr), VE (X.blk s H scope (compEnvC scope cl C X.env) fp) vx fv)
    (ho : own.map (·.2) = is := by rfl) (hs : ∀ x, foldedSetIterable iter X.env x = pure x := by intro _; rfl) :
    VE X (.DictComp kx vx [⟨tg, iter, ifs, 0⟩] scope pos) (fDCompN k g os is b t fk fv) := VE.of (pe_dcG (by have := u1 hr; omega) (oNew_or k) hc hN hi ok hg ht hk he hs) fun _ _ _ _ q => by rw [ho]; exact tE_dcompN hw hb q
end

/-! ### over a dict: it is locked, or it was already -/
def LkRep (K : PySem.W.Frag) (F : Hp) (a : Addr) (o : Obj) : D → Prop
  | .dK es => ∃ kvs : List (Key × V), F a = some (.frz o (.dK kvs)) ∧ kvs.map Prod.fst = es.map Prod.fst ∧ RepL K F (kvs.map Prod.snd) (es.map Prod.snd)
  | .dT es => ∃ kvs : List (List Key × V), F a = some (.frz o (.dT kvs)) ∧ kvs.map Prod.fst = es.map Prod.fst ∧ RepL K F (kvs.map Prod.snd) (es.map Prod.snd)
  | _ => False
/-- the walk of a locked dict -/
def LkW (K : PySem.W.Frag) (g : D → Option (List D)) (wi : TE → TI) : Prop := ∀ (te : TE) (σ : L2.St) (H F : Hp) (ρ : Rho) (x : D) (ds : List D) (a : Addr) (o : Obj) (R : It → Hp → Prop), Le F H → (∀ Q : VK, Q (.ref a) H → te σ H Q) → LkRep K F a o x → g x = some ds →
  (∀ J, Itn K F ρ σ H J ds → R J H) → wi te σ H R
theorem lkw_keys {K : PySem.W.Frag} : LkW K kysD iKeys := fun te σ H F ρ x ds a o R l ht hx hg post => by
  refine ht _ ?_
  cases x with
  | dK es => cases hg; obtain ⟨kvs, h1, h2, h3⟩ := hx; exact ⟨a, o, rfl, .inl ⟨kvs, l _ _ h1, post _ (itn_keysK h1 h2)⟩⟩
  | dT es => cases hg; obtain ⟨kvs, h1, h2, h3⟩ := hx; exact ⟨a, o, rfl, .inr ⟨kvs, l _ _ h1, post _ (itn_keysT h1 h2)⟩⟩
  | _ => cases hg
theorem lkw_vals {K : PySem.W.Frag} : LkW K vlsD iVals := fun te σ H F ρ x ds a o R l ht hx hg post => by
  refine ht _ ?_
  cases x with
  | dK es => cases hg; obtain ⟨kvs, h1, h2, h3⟩ := hx; exact ⟨a, o, kvs, rfl, l _ _ h1, post _ (itn_vals h1 h2 h3)⟩
  | _ => cases hg
def iItemsA (te : TE) : TI := fun σ H R => iItems te σ H R ∨ iItemsT te σ H R
theorem lkw_items {K : PySem.W.Frag} : LkW K itmD iItemsA := fun te σ H F ρ x ds a o R l ht hx hg post => by
  cases x with
  | dK es => cases hg; obtain ⟨kvs, h1, h2, h3⟩ := hx; exact .inl (ht _ ⟨a, o, kvs, rfl, l _ _ h1, post _ (itn_itemsK h1 h2 h3)⟩)
  | dT es => cases hg; obtain ⟨kvs, h1, h2, h3⟩ := hx; exact .inr (ht _ ⟨a, o, kvs, rfl, l _ _ h1, post _ (itn_itemsT h1 h2 h3)⟩)
  | _ => cases hg
theorem pi_itemsA {X : Cx} {e : Expr} {td : TE} {apos cpos : Pos} {elts : List Expr} {kk : Nat} {tpos : Pos} (he : PE X e td) (hbase : attributeBase e "items" X.env (eval e X.env) = eval e X.env := by rfl) (hline : (apos.endLine == cpos.line) = true := by rfl) :
    PI X (.Tuple elts kk tpos) (.Call (.Attribute e "items" apos) [] [] cpos) (iItemsA td) := PI.or (pi_items he hbase hline) (pi_itemsT he hbase hline)
/-- a dict's value, unlocked or locked -/
theorem rep_dict {K : PySem.W.Frag} {F : Hp} {v : V} {x : D} (h : Rep K F v x) (e : isDc x = true) : ∃ a, v = .ref a ∧ ((∃ o, LkRep K F a o x) ∨ ∃ u, F a = some u ∧ IsDO u ∧ ∀ o, LkRep K (upd F a (.frz o u)) a o x) := by
  cases x with
  | dK es =>
    cases h with
    | @dK a kvs _ h1 h2 h3 =>
      refine ⟨a, rfl, ?_⟩
      rcases h1 with h1 | ⟨o, h1⟩
      · exact .inr ⟨_, h1, trivial, fun o => ⟨kvs, upd_same, h2, h3.lk (Lk.mk_lock (show IsDO (.dK kvs) from trivial) h1)⟩⟩
      · exact .inl ⟨o, kvs, h1, h2, h3⟩
  | dT es =>
    cases h with
    | @dT a kvs _ h1 h2 h3 =>
      refine ⟨a, rfl, ?_⟩
      rcases h1 with h1 | ⟨o, h1⟩
      · exact .inr ⟨_, h1, trivial, fun o => ⟨kvs, upd_same, h2, h3.lk (Lk.mk_lock (show IsDO (.dT kvs) from trivial) h1)⟩⟩
      · exact .inl ⟨o, kvs, h1, h2, h3⟩
  | _ => cases e
theorem not_ins {F H : Hp} {a : Addr} {u w : HO} (l : Le F H) (h : F a = some u) (hu : IsDO u) : ∀ b C dx vfs, H b = some (.ins C dx vfs) → upd H a w b = some (.ins C dx vfs) := fun b C dx vfs e => by
  have ne : b ≠ a := fun z => by subst z; rw [l _ _ h] at e; cases e; exact hu
  rw [upd_ne ne]; exact e
theorem lockE {K : PySem.W.Frag} {s : DS} {f : ME} {T : TE} {σ : L2.St} {H : Hp} {Q : VK} (hs : DsOk K s) (hf : ∀ ρ r, f ρ = some r → ∃ x, dsAt s ρ = some x ∧ isDc x = true)
    (core : ∀ F ρ H r ρ' x a o, Rel K F ρ σ H → f ρ = some (r, ρ') → dsAt s ρ = some x → (∀ Q : VK, Q (.ref a) H → tDS K s σ H Q) → LkRep K F a o x → ∀ Q : VK, (∀ v F' H', Rel K F' ρ' σ H' → StpE F ρ σ H F' ρ' H' → Res K F' H H' v r → Q v H') → T σ H Q)
    (h : tE K f σ H Q) : T σ H Q ∨ tLockE T σ H Q := by
  obtain ⟨F, ρ, r, ρ', R, e, post⟩ := h
  obtain ⟨x, ex, dx⟩ := hf ρ _ e
  obtain ⟨v, rv, get⟩ := ds_val hs R ex
  obtain ⟨a, rfl, ⟨o, lk⟩ | ⟨u, hu, du, lk⟩⟩ := rep_dict rv dx
  · exact .inl (core F ρ H r ρ' x a o R e ex (fun Q q => get H Q (fun _ _ _ _ z => z) q) lk Q post)
  · refine .inr ⟨a, u, R.le _ _ hu, du.mut, fun od => ?_⟩
    refine core _ ρ _ r ρ' x a od (R.lock du hu od) e ex (fun Q q => get _ Q (not_ins R.le hu du) q) (lk od) _ fun v F1 H1 R1 S1 res => ?_
    obtain ⟨f1, h1, R2, S2⟩ := S1.stp.unlock R du hu R1
    exact ⟨h1, post v _ _ R2 ⟨S2, S1.back⟩ (res.unlock du f1)⟩
theorem PE.or' {X : Cx} {e : Expr} {t t' : TE} (a : PE X e t) (b : PE X e t') : PE X e (fun σ H Q => t σ H Q ∨ t' σ H Q) := ⟨fun pins s σ H Q I h => h.elim (a.run pins s σ H Q I) (b.run pins s σ H Q I)⟩
theorem PS.or' {X : Cx} {e : Stmt} {t t' : TS} (a : PS X e t) (b : PS X e t') : PS X e (fun D σ H => t D σ H ∨ t' D σ H) := ⟨fun pins s σ H D I h => h.elim (a.run pins s σ H D I) (b.run pins s σ H D I)⟩
def fCompD (g : D → Option (List D)) (s : DS) (is : List Nat) (b : MG) (t : MT) (f : ME) : ME := fun ρ => do
  let x ← dsAt s ρ
  if isDc x = true then do
    let ds ← g x
    if is.all (free ρ) = true then do
      let (acc, ρ2) ← compM is b t f ds [] (wipeR ρ is)
      if acc.length ≤ sizeLine then pure (⟨.own, .lst acc⟩, ρ2) else none
    else none
  else none
theorem tE_compD {K : PySem.W.Frag} {g : D → Option (List D)} {wi : TE → TI} {s : DS} {is : List Nat} {b : MG} {t : MT} {f : ME} {σ : L2.St} {H : Hp} {Q : VK} (hw : LkW K g wi) (hs : DsOk K s) (hb : NB b) (h : tE K (fCompD g s is b t f) σ H Q) :
    tLc (wi (tDS K s)) (tG K is b) (tT K t) (tE K f) is σ H Q ∨ tLockE (tLc (wi (tDS K s)) (tG K is b) (tT K t) (tE K f) is) σ H Q := by
  refine lockE hs (fun ρ r e => ?_) (fun F ρ H r ρ' x a o R e ex get lk Q post => ?_) h
  · obtain ⟨x, e1, e⟩ := bind_some e
    split at e
    · rename_i hd; exact ⟨x, e1, hd⟩
    · cases e
  · obtain ⟨x', e1, e⟩ := bind_some e
    rw [ex] at e1; cases e1
    split at e
    · obtain ⟨ds, e3, e⟩ := bind_some e
      split at e
      · rename_i hf
        obtain ⟨⟨acc, ρ2⟩, e4, e⟩ := bind_some e
        dsimp only at e
        split at e
        · rename_i hz
          cases e
          refine hw (tDS K s) σ H F ρ x ds a o _ R.le get lk e3 fun J it p hp => ?_
          exact comp_ok R (it.wiped hf) hb hf hp e4 hz fun F2 H2 R2 S2 fp oa => post (.ref p) F2 H2 R2 S2 ⟨p, rfl, hp, fp, oa⟩
        · cases e
      · cases e
    · cases e
def fDCompD (k : Bool) (g : D → Option (List D)) (s : DS) (is : List Nat) (b : MG) (t : MT) (fk fv : ME) : ME := fun ρ => do
  let x ← dsAt s ρ
  if isDc x = true then do
    let ds ← g x
    if is.all (free ρ) = true then do
      let (acc, ρ2) ← compDM is b t fk fv ds (dNew k) (wipeR ρ is)
      pure (⟨.own, acc⟩, ρ2)
    else none
  else none
theorem tE_dcompD {K : PySem.W.Frag} {k : Bool} {g : D → Option (List D)} {wi : TE → TI} {s : DS} {is : List Nat} {b : MG} {t : MT} {fk fv : ME} {σ : L2.St} {H : Hp} {Q : VK} (hw : LkW K g wi) (hs : DsOk K s) (hb : NB b) (h : tE K (fDCompD k g s is b t fk fv) σ H Q) :
    tDcG (oNew k) (wi (tDS K s)) (tG K is b) (tT K t) (tE K fk) (tE K fv) is σ H Q ∨ tLockE (tDcG (oNew k) (wi (tDS K s)) (tG K is b) (tT K t) (tE K fk) (tE K fv) is) σ H Q := by
  refine lockE hs (fun ρ r e => ?_) (fun F ρ H r ρ' x a o R e ex get lk Q post => ?_) h
  · obtain ⟨x, e1, e⟩ := bind_some e
    split at e
    · rename_i hd; exact ⟨x, e1, hd⟩
    · cases e
  · obtain ⟨x', e1, e⟩ := bind_some e
    rw [ex] at e1; cases e1
    split at e
    · obtain ⟨ds, e3, e⟩ := bind_some e
      split at e
      · rename_i hf
        obtain ⟨⟨acc, ρ2⟩, e4, e⟩ := bind_some e
        cases e
        refine hw (tDS K s) σ H F ρ x ds a o _ R.le get lk e3 fun J it p hp => ?_
        exact compD_ok R (it.wiped hf) hb hf hp (own_new k) e4 fun F2 H2 R2 S2 fp oa => post (.ref p) F2 H2 R2 S2 ⟨p, rfl, hp, fp, oa⟩
      · cases e
    · cases e
section
variable {X : Cx} {elt kx vx tg iter : Expr} {ifs : List Expr} {scope : Scope} {pos : Pos} {is : List Nat} {b : MG} {t : MT} {f fk fv : ME} {kd : Nat} {g : D → Option (List D)} {wi : TE → TI} {s : DS}
theorem ve_compD (own : List (Str × Nat)) (hw : LkW X.K g wi) (hd : DsOk X.K s) (hb : NB b) (hc : X.calm = true) (hN : X.N.Nodup) (hi : PI X tg iter (wi (tDS X.K s))) (ok : BlkOk X.N X.env.scope scope own)
    (hg : ∀ (s : Shared) (H : Hp) (C : Addr) (cl : List (Str × Addr)) (fp : List Addr), VG (X.blk s H scope (compEnvC scope cl C X.env) fp) tg is b) (ht : ∀ (s : Shared) (H : Hp) (C : Addr) (cl : List (Str × Addr)) (fp : List Addr), VTs (X.blk s H scope (compEnvC scope cl C X.env) fp) ifs t)
    (he : ∀ (s : Shared) (H : Hp) (C : Addr) (cl : List (Str × Addr)) (fp : List Addr), VE (X.blk s H scope (compEnvC scope cl C X.env) fp) elt f) (ho : own.map (·.2) = is := by rfl) (hs : ∀ x, foldedSetIterable iter X.env x = pure x := by intro _; rfl) :
    VE X (.ListComp elt [⟨tg, iter, ifs, 0⟩] scope pos) (fCompD g s is b t f) := VE.of (PE.or' (pe_lc hc hN hi ok hg ht he hs) (pe_lock (pe_lc hc hN hi ok hg ht he hs))) fun _ _ _ _ q => by rw [ho]; exact tE_compD hw hd hb q
theorem ve_dcompD (k : Bool) (own : List (Str × Nat)) (hw : LkW X.K g wi) (hd : DsOk X.K s) (hb : NB b) (hr : Room kd X.A) (hc : X.calm = true) (hN : X.N.Nodup) (hi : PI X tg iter (wi (tDS X.K s))) (ok : BlkOk X.N X.env.scope scope own)
    (hg : ∀ (s : Shared) (H : Hp) (C : Addr) (cl : List (Str × Addr)) (fp : List Addr), VG (X.blk s H scope (compEnvC scope cl C X.env) fp) tg is b) (ht : ∀ (s : Shared) (H : Hp) (C : Addr) (cl : List (Str × Addr)) (fp : List Addr), VTs (X.blk s H scope (compEnvC scope cl C X.env) fp) ifs t)
    (hk : ∀ (s : Shared) (H : Hp) (C : Addr) (cl : List (Str × Addr)) (fp : List Addr), VE (X.blk s H scope (compEnvC scope cl C X.env) fp) kx fk) (he : ∀ (s : Shared) (H : Hp) (C : Addr) (cl : List (Str × Addr)) (fp : List Addr), VE (X.blk s H scope (compEnvC scope cl C X.env) fp) vx fv)
    (ho : own.map (·.2) = is := by rfl) (hs : ∀ x, foldedSetIterable iter X.env x = pure x := by intro _; rfl) :
    VE X (.DictComp kx vx [⟨tg, iter, ifs, 0⟩] scope pos) (fDCompD k g s is b t fk fv) := VE.of (PE.or' (pe_dcG (by have := u1 hr; omega) (oNew_or k) hc hN hi ok hg ht hk he hs) (pe_lock (pe_dcG (by have := u1 hr; omega) (oNew_or k) hc hN hi ok hg ht hk he hs))) fun _ _ _ _ q => by rw [ho]; exact tE_dcompD hw hd hb q
end
/-! ### a loop over a dict -/
def fForD (g : D → Option (List D)) (s : DS) (b : MG) (body : MS) : MS := fun ρ => do
  let x ← dsAt s ρ
  if isDc x = true then do
    let ds ← g x
    loopM b body ds ρ
  else none
theorem EndOk.imp {K : PySem.W.Frag} {D D' : Ends} {ρ : Rho} {σ σ' : L2.St} {H F' H' : Hp} {fl : Fl} (h : EndOk K D ρ σ H F' σ' H' fl) (n : ∀ σ H, D.nx σ H → D'.nx σ H) (b : ∀ σ H, D.bk σ H → D'.bk σ H) (c : ∀ σ H, D.ct σ H → D'.ct σ H) (r : ∀ v H, D.rt v H → D'.rt v H) : EndOk K D' ρ σ H F' σ' H' fl := by
  cases fl with
  | nx => exact n _ _ h
  | bk => exact b _ _ h
  | ct => exact c _ _ h
  | rt x => exact fun v q => r _ _ (h v q)
theorem ResR.unlock {K : PySem.W.Frag} {d : Addr} {u : HO} {ρ : Rho} {σ : L2.St} {H F1 H1 : Hp} {o : Obj} {v : V} {r : Sl} (hd : IsDO u) (f1 : F1 d = some (.frz o u)) (h : ResR K ρ σ (upd H d (.frz o u)) F1 H1 v r) : ResR K ρ σ H (upd F1 d u) (upd H1 d u) v r := by
  rcases h.own_or with ⟨m, q⟩ | ⟨m, p, rfl, hp, fp, q⟩
  · unfold ResR; rw [m]; exact q.lk (Lk.mk_unlock hd f1)
  · unfold ResR; rw [m]
    have ne : p ≠ d := fun z => by subst z; rw [f1] at fp; cases fp
    rw [upd_ne ne] at hp
    exact ⟨p, rfl, hp, by rw [upd_ne ne]; exact fp, q.lk (Lk.mk_unlock hd f1) (upd_ne ne)⟩
theorem tS_forD {K : PySem.W.Frag} {g : D → Option (List D)} {wi : TE → TI} {s : DS} {is : List Nat} {b : MG} {body : MS} {D : Ends} {σ : L2.St} {H : Hp} (hw : LkW K g wi) (hs : DsOk K s) (h : tS K (fForD g s b body) D σ H) :
    tFor (wi (tDS K s)) (tG K is b) (tS K body) D σ H ∨ tLock (tFor (wi (tDS K s)) (tG K is b) (tS K body)) D σ H := by
  obtain ⟨F, ρ, fl, ρ', R, e, post⟩ := h
  obtain ⟨x, ex, e⟩ := bind_some e
  split at e
  · rename_i dx
    obtain ⟨ds, e3, e⟩ := bind_some e
    obtain ⟨v, rv, get⟩ := ds_val hs R ex
    obtain ⟨a, rfl, ⟨o, lk⟩ | ⟨u, hu, du, lk⟩⟩ := rep_dict rv dx
    · left
      refine hw (tDS K s) σ H F ρ x ds a o _ R.le (fun Q q => get H Q (fun _ _ _ _ z => z) q) lk e3 fun J it => ?_
      exact for_ok R it e post
    · refine .inr ⟨a, u, R.le _ _ hu, du.mut, fun od => ?_⟩
      have R0 := R.lock du hu od
      refine hw (tDS K s) σ _ _ ρ x ds a od _ R0.le (fun Q q => get _ Q (not_ins R.le hu du) q) (lk od) e3 fun J it => ?_
      refine for_ok R0 it e fun F1 σ1 H1 R1 S1 => ?_
      obtain ⟨f1, h1, R2, S2⟩ := S1.unlock R du hu R1
      have q := post _ σ1 _ R2 S2
      cases fl with
      | nx => exact ⟨h1, q⟩
      | bk => exact ⟨h1, q⟩
      | ct => exact ⟨h1, q⟩
      | rt r => exact fun v z => ⟨h1, q v (z.unlock du f1)⟩
  · cases e
theorem vs_forD {X : Cx} {tg iter : Expr} {body : List Stmt} {g : D → Option (List D)} {wi : TE → TI} {s : DS} {is : List Nat} {b : MG} {m : MS} {pos : Pos} (hw : LkW X.K g wi) (hd : DsOk X.K s) (hp : PassesOwn (model X.prog X.w) X.A X.env X.xe) (hc : X.calm = true)
    (hi : PI X tg iter (wi (tDS X.K s))) (hg : VG X tg is b) (hb : VB X body m) (hs : ∀ x, foldedSetIterable iter X.env x = pure x := by intro _; rfl) : VS X (.For tg iter body [] pos) (fForD g s b m) :=
  PS.of (PS.or' (ps_for hp hc hi hg hb hs) (ps_lock (ps_for hp hc hi hg hb hs))) fun _ _ _ _ q => tS_forD hw hd q
/-- what a dict source is in the text -/
theorem ds_sl {X : Cx} {i : Nat} {x : Str} {p : Pos} (h : PE X (.Name x p) (tVar i)) : PE X (.Name x p) (tDS X.K (.sl i)) := h
theorem ds_fd {X : Cx} {cs : List Str} {f : Str} {i : Nat} {x : Str} {p pos : Pos} (h : PE X (.Name x p) (tVar i)) (hb : attributeBase (.Name x p) f X.env (eval (.Name x p) X.env) = eval (.Name x p) X.env := by rfl) : PE X (.Attribute (.Name x p) f pos) (tDS X.K (.fd cs f i)) := pe_fld h hb
end VI

/-! sorted(d) of a dict. -/
namespace VI
open PySem PySem.Spec PyProof.Rows L2

section
variable {prog : Program} {w : World} {A : Around} {E : Value → Shared → Prop} {s : Shared}
theorem sortOk_parts {ds : List D} (ok : sortOk ds = true) : (∀ d ∈ ds, d.pure = true ∧ d.py.depth ≤ 64) ∧ PySem.W.AllAlike (ds.map D.py) ∧ ds.length ≤ sizeLine ∧ PySem.W.Sortable (ds.map D.py) := by
  unfold sortOk at ok
  simp only [Bool.and_eq_true, List.all_eq_true, decide_eq_true_eq, Bool.or_eq_true] at ok
  obtain ⟨⟨⟨h1, h2⟩, h3⟩, h4⟩ := ok
  refine ⟨h1, fun d hd d' hd' => ?_, h3, ?_⟩
  · obtain ⟨b, hb, rfl⟩ := List.mem_map.mp hd
    obtain ⟨b', hb', rfl⟩ := List.mem_map.mp hd'
    exact h2 b hb b' hb'
  · rcases h4 with h4 | h4
    · refine .inl fun d hd => ?_
      obtain ⟨b, hb, rfl⟩ := List.mem_map.mp hd
      have z := h4 b hb
      split at z
      · rename_i x r; exact ⟨x.py, pyL r, by simp [D.py, pyL]⟩
      · cases z
    · refine .inr fun d hd => ?_
      obtain ⟨b, hb, rfl⟩ := List.mem_map.mp hd
      have z := h4 b hb
      have zp := (h1 b hb).1
      cases b <;> first | (simp at z; done) | (simp [D.py]; done) | (simp [D.pure] at zp; done)
/-- list.sort() of a list that was just laid -/
theorem sort_new {R : Value → D → Prop} {acc : List Value} {ds : List D} {h' : Heap} {tk : Nat} {Q : Value → Shared → Prop} (e : PySem.W.EachIs R acc ds) (er : PySem.W.EachIs (fun v d => ∃ as, Reads h' v (D.py d) as) acc ds) (ok : sortOk ds = true) (hu : A.units + 100 < cLine)
    (h : ∀ out : List Value, out.length = ds.length → PySem.W.EachIs R out (sortL ds) → Q .none { s with heap := sortedHeap (h'.push (seqObj "list" acc.toArray 0)) h'.objs.size acc out.toArray, toks := tk }) :
    wpAny (model prog w) A (call (.builtin "list.sort") [.ref h'.objs.size]) Q E { s with heap := h'.push (seqObj "list" acc.toArray 0), toks := tk } := by
  obtain ⟨o1, o2, o3, o4⟩ := sortOk_parts ok
  have ho : (h'.push (seqObj "list" acc.toArray 0)).get? h'.objs.size = some (seqObj "list" acc.toArray 0) := Heap.get?_push_size _ rfl
  have er' : PySem.W.EachIs (fun v d => ∃ as, Reads (PySem.W.sortingHeap (h'.push (seqObj "list" acc.toArray 0)) h'.objs.size acc) v (D.py d) as) acc ds := er.mono fun _ _ ⟨as, r⟩ => ⟨as, PyProof.Rows.Reads.keeps (fun b o q => PySem.W.sortingHeap_old (Nat.ne_of_lt (Heap.lt_size q)) (Heap.get?_push_of_some _ q)) r⟩
  refine wpAny_call_entry slot_list_sort ⟨_, ho, rfl⟩ entry_list_sort (PySem.W.list_sort_vals (κ := PySem.W.dataKind (PySem.W.sortingHeap (h'.push (seqObj "list" acc.toArray 0)) h'.objs.size acc) (ds.map D.py)) (s := { s with heap := h'.push (seqObj "list" acc.toArray 0), toks := tk }) ho
    (PySem.W.SortsAt.data (s := { s with heap := PySem.W.sortingHeap (h'.push (seqObj "list" acc.toArray 0)) h'.objs.size acc, toks := tk }) (PySem.W.each_map (R := fun v d => ∃ as, Reads (PySem.W.sortingHeap (h'.push (seqObj "list" acc.toArray 0)) h'.objs.size acc) v d as) D.py er') o2 o4 (PySem.W.bound_map fun b hb => ?_)) (by rw [e.length]; exact o3) ⟨.none, rfl, ?_⟩) (args_list_sort _)
  · have := (o1 b hb).2
    show A.in1.units + _ < cLine
    have e1 : A.in1.units = A.units + 1 := rfl
    omega
  · exact h _ (by rw [PySem.W.sortVals_length false rfl]; exact e.length) (PySem.W.sortVals_data false e er' o2)
end

section
variable {X : Cx}
/-- what is sorted: the keys, as data of this heap -/
def rSortDc (K : PySem.W.Frag) : List V → Hp → VK → Prop := fun xs H Q => ∃ (a : Addr) (ds : List D), xs = [.ref a] ∧ sortOk ds = true ∧
  ((∃ kvs, Rd H a (.dK kvs) ∧ ds = kvs.map fun kv => keyD kv.1) ∨ ∃ kvs, Rd H a (.dT kvs) ∧ ds = kvs.map fun kv => D.tup (kv.1.map keyD)) ∧
  ∀ ws p, H p = none → RepL K H ws (sortL ds) → Q (.ref p) (upd H p (.lst ws))
theorem rep_tupL {K : PySem.W.Frag} {H : Hp} : ∀ {kvs : List (List Key × V)} {bs : List Addr}, IsKeys H kvs bs → RepL K H (bs.map V.ref) (kvs.map fun kv => D.tup (kv.1.map keyD))
  | [], _, h => by cases h; exact .nil
  | kv :: kvs, _, h => by cases h with | cons h1 h2 => exact .cons (.tup h1 (rep_keys _)) (rep_tupL h2)
theorem rep_keyL {K : PySem.W.Frag} {H : Hp} (kvs : List (Key × V)) : RepL K H (kvs.map fun kv => kV kv.1) (kvs.map fun kv => keyD kv.1) := by
  induction kvs with
  | nil => exact .nil
  | cons kv kvs ih => exact .cons (rep_key _) ih
theorem sort_tail {k : Nat} {pins : List (Addr × Obj)} {σ : L2.St} {H : Hp} {s : Shared} {Q : VK} {ds : List D} (hr : Room k X.A) (I : L2.Inv X pins σ H s) (ok : sortOk ds = true) (q : ∀ ws p, H p = none → RepL X.K H ws (sortL ds) → Q (.ref p) (upd H p (.lst ws)))
    (h' : Heap) (tk : Nat) (acc : List Value) (vs : List V) (hkp : ∀ b o, s.heap.get? b = some o → h'.get? b = some o) (rv : Vals vs acc) (rp : RepL X.K H vs ds) :
    wpAny (model X.prog X.w) X.A.in1 (newList acc >>= fun l => holding [l] (call (.builtin "list.sort") [l]) >>= fun _ => pure (PySem.Fin.done (.ret l))) (fun f s' => ∃ v, f = .done (.ret v) ∧ EP X pins σ Q v s') X.xe { s with heap := h', toks := tk } := by
  obtain ⟨o1, o2, o3, o4⟩ := sortOk_parts ok
  have I1 : L2.Inv X pins σ H { s with heap := h', toks := tk } := I.kept hkp
  have each := each_of rp rv
  have er : PySem.W.EachIs (fun u d => ∃ as, Reads h' u (D.py d) as) acc ds := (PySem.W.each_mem each).mono fun u d ⟨⟨x, rx, hx⟩, hm⟩ => Dp.reads I1 _ _ u (hx.dp (o1 d hm).1) rx
  refine wpAny_bind (wpAny_newList ?_ (by rw [each.length]; exact o3))
  refine wpAny_bind (wpAny_holding (sort_new each er ok (by have := hr.un; show X.A.units + 1 + 100 < cLine; omega) fun out ho he => ?_))
  obtain ⟨ws, rw', rp'⟩ := each_back he
  obtain ⟨e', he'⟩ := PyProof.Rows.sortedHeap_at (h := h'.push (seqObj "list" acc.toArray 0)) (vs := acc) (n := 0) (out := out.toArray) (Heap.get?_push_size _ rfl)
  refine wpAny_pure ⟨_, rfl, .ref h'.objs.size, upd H h'.objs.size (.lst ws), I1.laid (t' := tk) (fun b u e => ?_) (Nat.le_refl _) (show ObjOk X.prog X.w _ _ _ (.lst ws) from ⟨by rw [rw'.length, ho]; exact o3, out, e', rw', he'⟩), rfl, q ws _ (I1.hok.fresh (Nat.le_refl _)) rp'⟩
  have hb : b < h'.objs.size := Heap.lt_size e
  rw [PyProof.Rows.sortedHeap_old (Nat.ne_of_lt hb) (by rw [size_push']; exact Nat.lt_succ_of_lt hb)]
  exact Heap.get?_push_of_some _ e
theorem call_sortDc {k : Nat} (hr : Room k X.A) (hcalm : X.calm = true) : CallR X (.builtin "sorted") (rSortDc X.K) := by
  intro pins s σ H xs us Q I r h
  obtain ⟨a, ds, rfl, ok, hk, q⟩ := h
  rw [Vals.ref1 r]
  refine Calls.call_function_entry PyProof.Rows.kind_sorted PyProof.Rows.plain_sorted PyProof.Rows.entry_sorted (PyProof.Rows.args_sorted1 _) ?_
  unfold Builtin.«sorted»
  refine wpAny_bind (m := checkCount "sorted" 1 1 _) (wpAny_pure ?_)
  have tail := sort_tail hr I ok q
  rcases hk with ⟨kvs, hd, rfl⟩ | ⟨kvs, hd, rfl⟩
  · obtain ⟨z, lo, vs, rel, dd⟩ := dk_rd I.hok hd
    obtain ⟨ep, hat⟩ := dd.dictAt
    refine wpAny_bind (PySem.W.kdu_collect (A := X.A.in1) (PySem.W.kdl_dict (knd := mixKind X.prog X.w) (kvs := vs) (ep := ep) lo) (I.ok.hd hcalm) hat (by rw [← rel.length]; exact z) fun h' tk acc hkp hacc => ?_)
    refine tail h' tk acc.toList (kvs.map fun kv => kV kv.1) hkp ?_ (rep_keyL kvs)
    have el : acc.toList.length = acc.size := by simp
    refine vals_of_at (by rw [List.length_map, el, hacc.1, rel.length]) fun j x w' h1 h2 => ?_
    obtain ⟨kk, y, hky, hi⟩ := hacc.2 j w' (by rw [← Array.getElem?_toList]; exact h2)
    have e1 : (kvs.map (·.1))[j]? = some kk := by rw [KV.keys rel, List.getElem?_map, hky]; rfl
    have e2 : (kvs.map fun kv => kV kv.1)[j]? = some (kV kk) := by
      rw [show (kvs.map fun kv => kV kv.1) = (kvs.map (·.1)).map kV by rw [List.map_map]; rfl, List.getElem?_map, e1]; rfl
    rw [e2] at h1
    cases h1
    exact keyIs_rel hi
  · obtain ⟨z, hs, ks, pr, o, es, ep, ho, hx, hdt, he, hn⟩ := (show ObjOk X.prog X.w H s.heap a (.dT kvs) from hd.ok I.hok)
    have l1 : es.size = ks.length := size_of_entries he
    have l2 : kvs.length = ks.length := Paired.length pr
    refine wpAny_bind (PySem.W.kdu_collect (A := X.A.in1) (kdl_raw hs hx hdt) (I.ok.hd hcalm) ho (by omega) fun h' tk acc hkp it => ?_)
    have eb : acc.toList = (ks.map fun x => x.2.1).map Value.ref := by
      apply List.ext_getElem?
      intro j
      rw [List.map_map, List.getElem?_map]
      have hl : acc.toList.length = ks.length := by rw [Array.length_toList, it.1]; exact l1
      cases hj : acc.toList[j]? with
      | none =>
        have h1 := List.getElem?_eq_none_iff.mp hj
        rw [List.getElem?_eq_none (by omega)]
        rfl
      | some v =>
        obtain ⟨en, hen, hv⟩ := it.2 j v (by rw [← Array.getElem?_toList]; exact hj)
        have qe := entry_at he j
        rw [hen] at qe
        cases hb : ks[j]? with
        | none => rw [hb] at qe; cases qe
        | some b =>
          rw [hb] at qe
          have e2 : en = entryOfKey (tupleKind (mixKind X.prog X.w)) b := Option.some.inj qe
          rw [hv, e2]
          rfl
    exact tail h' tk acc.toList ((ks.map fun x => x.2.1).map V.ref) hkp (by rw [eb]; exact vals_refs _) (rep_tupL (isKeys_of pr))
end
section
variable {X : Cx}
def rSortTp (K : PySem.W.Frag) : List V → Hp → VK → Prop := fun xs H Q => ∃ (a : Addr) (vs : List V) (ds : List D) (F : Hp), xs = [.ref a] ∧ Le F H ∧ SqT K H a vs ∧ RepL K F vs ds ∧ sortOk ds = true ∧ ∀ ws p, H p = none → RepL K F ws (sortL ds) → Q (.ref p) (upd H p (.lst ws))
theorem sort_tailF {k : Nat} {pins : List (Addr × Obj)} {σ : L2.St} {F H : Hp} {s : Shared} {Q : VK} {ds : List D} (hr : Room k X.A) (I : L2.Inv X pins σ H s) (l : Le F H) (ok : sortOk ds = true) (q : ∀ ws p, H p = none → RepL X.K F ws (sortL ds) → Q (.ref p) (upd H p (.lst ws)))
    (h' : Heap) (tk : Nat) (acc : List Value) (vs : List V) (hkp : ∀ b o, s.heap.get? b = some o → h'.get? b = some o) (rv : Vals vs acc) (rp : RepL X.K F vs ds) :
    wpAny (model X.prog X.w) X.A.in1 (newList acc >>= fun l => holding [l] (call (.builtin "list.sort") [l]) >>= fun _ => pure (PySem.Fin.done (.ret l))) (fun f s' => ∃ v, f = .done (.ret v) ∧ EP X pins σ Q v s') X.xe { s with heap := h', toks := tk } := by
  obtain ⟨o1, o2, o3, o4⟩ := sortOk_parts ok
  have I1 : L2.Inv X pins σ H { s with heap := h', toks := tk } := I.kept hkp
  have each := each_of rp rv
  have er : PySem.W.EachIs (fun u d => ∃ as, Reads h' u (D.py d) as) acc ds := (PySem.W.each_mem each).mono fun u d ⟨⟨x, rx, hx⟩, hm⟩ => Dp.reads I1 _ _ u ((hx.mono l).dp (o1 d hm).1) rx
  refine wpAny_bind (wpAny_newList ?_ (by rw [each.length]; exact o3))
  refine wpAny_bind (wpAny_holding (sort_new each er ok (by have := hr.un; show X.A.units + 1 + 100 < cLine; omega) fun out ho he => ?_))
  obtain ⟨ws, rw', rp'⟩ := each_back he
  obtain ⟨e', he'⟩ := PyProof.Rows.sortedHeap_at (h := h'.push (seqObj "list" acc.toArray 0)) (vs := acc) (n := 0) (out := out.toArray) (Heap.get?_push_size _ rfl)
  refine wpAny_pure ⟨_, rfl, .ref h'.objs.size, upd H h'.objs.size (.lst ws), I1.laid (t' := tk) (fun b u e => ?_) (Nat.le_refl _) (show ObjOk X.prog X.w _ _ _ (.lst ws) from ⟨by rw [rw'.length, ho]; exact o3, out, e', rw', he'⟩), rfl, q ws _ (I1.hok.fresh (Nat.le_refl _)) rp'⟩
  have hb : b < h'.objs.size := Heap.lt_size e
  rw [PyProof.Rows.sortedHeap_old (Nat.ne_of_lt hb) (by rw [size_push']; exact Nat.lt_succ_of_lt hb)]
  exact Heap.get?_push_of_some _ e
theorem call_sortTp {k : Nat} (hr : Room k X.A) : CallR X (.builtin "sorted") (rSortTp X.K) := by
  intro pins s σ H xs us Q I r h
  obtain ⟨a, vs, ds, F, rfl, l, hs, rp, ok, q⟩ := h
  rw [Vals.ref1 r]
  obtain ⟨its, rv, ⟨o, h1, h2, n, h3⟩, hz⟩ := I.tuple hs
  refine Calls.call_function_entry PyProof.Rows.kind_sorted PyProof.Rows.plain_sorted PyProof.Rows.entry_sorted (PyProof.Rows.args_sorted1 _) ?_
  unfold Builtin.«sorted»
  refine wpAny_bind (m := checkCount "sorted" 1 1 _) (wpAny_pure ?_)
  refine wpAny_bind (wpAny_collect_seq a (.inr rfl) h1 h2 h3 (hsz := by rw [List.size_toArray]; exact Nat.le_trans (Nat.le_of_eq rv.length.symm) hz) fun h' hk => ?_)
  exact sort_tailF hr I l ok q h' s.toks its vs hk rv rp
end
/-- keys come to the data -/
theorem New.keyL {K : PySem.W.Frag} {H : Hp} : ∀ {ws : List V} {ds : List D} {F : Hp}, Le F H → RepL K H ws ds → (∀ d ∈ ds, ∃ ks : List Key, d = .tup (ks.map keyD)) →
    ∃ F', Le F F' ∧ Le F' H ∧ (∀ a o, F' a = some o → (∃ o', F a = some o') ∨ H a = none ∨ ∃ vs, H a = some (.tup vs)) ∧ RepL K F' ws ds
  | _, _, F, l, .nil, _ => ⟨F, .refl F, l, fun _ o h => .inl ⟨o, h⟩, .nil⟩
  | _, _, F, l, .cons h t, hd => by
    obtain ⟨ks, rfl⟩ := hd _ List.mem_cons_self
    cases h with
    | @tup b vs _ h1 h2 =>
      have ev : vs = ks.map kV := by
        clear h1 t hd
        induction ks generalizing vs with
        | nil => cases h2; rfl
        | cons k ks ih =>
          rw [List.map_cons] at h2
          cases h2 with
          | cons r t =>
            rw [ih t, List.map_cons]
            congr 1
            cases k <;> (cases r; rfl)
      subst ev
      obtain ⟨F1, N⟩ := New.key (K := K) l h1
      obtain ⟨F2, g1, g2, g3, g4⟩ := New.keyL N.leH t fun d h => hd d (List.mem_cons_of_mem _ h)
      refine ⟨F2, N.leF.trans g1, g2, fun a o h => ?_, .cons (Rep.mono g1 N.res) g4⟩
      rcases g3 a o h with ⟨o', q⟩ | q | q
      · exact N.newF a o' q
      · exact .inr (.inl q)
      · exact .inr (.inr q)
def gSortDc : List D → Option Sl
  | [d] => match kysD d with
    | some ds => if sortOk ds = true then some ⟨.own, .lst (sortL ds)⟩ else none
    | none => none
  | _ => none
theorem rep_flat {K : PySem.W.Frag} {F H : Hp} : ∀ {ws : List V} {ds : List D}, RepL K H ws ds → (∀ d ∈ ds, ∃ k : Key, d = keyD k) → RepL K F ws ds
  | _, _, .nil, _ => .nil
  | _, _, .cons h t, hd => by
    obtain ⟨k, rfl⟩ := hd _ List.mem_cons_self
    refine .cons ?_ (rep_flat t fun d h => hd d (List.mem_cons_of_mem _ h))
    cases k with
    | inl i => cases h; exact .int i
    | inr x => cases h; exact .str x
theorem opN_sortDc {K : PySem.W.Frag} : OpN K (rSortDc K) gSortDc := fun F H vs ds s Q l v g k => by
  unfold gSortDc at g
  split at g
  · rename_i d
    split at g
    · rename_i es hes
      split at g
      · rename_i ok
        cases g
        obtain ⟨x, rfl, w⟩ := v.one
        have mem : ∀ e, e ∈ sortL es → e ∈ es := fun e h => (List.mergeSort_perm es _).mem_iff.mp h
        cases d with
        | dK ks =>
          cases hes
          obtain ⟨a, kvs, rfl, h1, h2, h3⟩ := w.dK l
          have ek : (ks.map fun e => keyD e.1) = kvs.map fun e => keyD e.1 := by
            rw [show (ks.map fun e => keyD e.1) = (ks.map Prod.fst).map keyD by rw [List.map_map]; rfl, ← h2, List.map_map]; rfl
          refine ⟨a, _, rfl, ok, .inl ⟨kvs, h1, ek⟩, fun ws p hp rp => k _ _ _ (New.lst l hp (rep_flat rp fun e he => ?_))⟩
          obtain ⟨kd, _, rfl⟩ := List.mem_map.mp (mem e he)
          exact ⟨kd.1, rfl⟩
        | dT ks =>
          cases hes
          obtain ⟨a, kvs, rfl, h1, h2, h3⟩ := w.dT l
          have ek : (ks.map fun e => D.tup (e.1.map keyD)) = kvs.map fun e => D.tup (e.1.map keyD) := by
            rw [show (ks.map fun e => D.tup (e.1.map keyD)) = (ks.map Prod.fst).map (fun k => D.tup (k.map keyD)) by rw [List.map_map]; rfl, ← h2, List.map_map]; rfl
          refine ⟨a, _, rfl, ok, .inr ⟨kvs, h1, ek⟩, fun ws p hp rp => ?_⟩
          obtain ⟨F', g1, g2, g3, g4⟩ := New.keyL (F := F) l rp fun e he => by
            obtain ⟨kd, _, rfl⟩ := List.mem_map.mp (mem e he)
            exact ⟨kd.1, rfl⟩
          have fp : F' p = none := g2.none hp
          exact k _ F' _ ⟨g1, g2.upd2 fp, Le.upd hp, g3, ⟨p, rfl, hp, fp, ws, upd_same, g4⟩⟩
        | _ => cases hes
      · cases g
    · cases g
  · cases g
def gSortT : List D → Option Sl
  | [.tup ds] => if sortOk ds = true then some ⟨.own, .lst (sortL ds)⟩ else none
  | _ => none
theorem opN_sortTp {K : PySem.W.Frag} : OpN K (rSortTp K) gSortT := fun F H vs ds s Q l v g k => by
  unfold gSortT at g
  split at g
  · rename_i es
    split at g
    · rename_i h
      cases g
      obtain ⟨x, rfl, w⟩ := v.one
      obtain ⟨a, ws, rfl, h1, h2, _⟩ := w.tup l
      exact ⟨a, ws, es, F, rfl, l, SqT.of h1, h2, h, fun ws p hp rp => k _ _ _ (New.lst l hp rp)⟩
    · cases g
  · cases g
def gSortedA : List D → Option Sl := orN gSorted (orN gSortT gSortDc)
theorem v_sortedA {X : Cx} {k : Nat} {e : Expr} {o : Opd} {p pos : Pos} (hr : Room k X.A) (hc : X.calm = true) (hm : X.mg "sorted" = none) (ha : VO X e o) (hg : Gl X "sorted" := by rfl) (hs : starEach [e] X.env = (false, eval e X.env) :: starEach [] X.env := by rfl) : VE X (.Call (.Name "sorted" p) [e] [] pos) (fOpN gSortedA [o]) :=
  ve_callB ((call_sortedD hr).or ((call_sortTp hr).or (call_sortDc hr hc))) (opN_sorted.or (opN_sortTp.or opN_sortDc)) hg hm (by decide +kernel) (va_cons ha va_nil hs) (he := hs)
end VI

/-! Further operations: is, minus, chains, slices, sums of tuples, stars, zip, enumerate, lists unpacked. -/
namespace VI
open PySem PySem.Spec PyProof.Rows L2

/-! ### is None, is True -/
def gIsN : D → Option Sl
  | .non => fzB true
  | .ptr _ => none
  | _ => fzB false
def gNotN : D → Option Sl
  | .non => fzB false
  | .ptr _ => none
  | _ => fzB true
def nonB : D → Bool
  | .non => true
  | _ => false
theorem vw_non {K : PySem.W.Frag} {F H : Hp} {x : V} {d : D} (h : Vw K F H x d) : decide (x = .non) = nonB d := by
  rcases h with h | ⟨p, rfl, _, h⟩
  · cases h <;> simp [nonB]
  · cases d <;> first | exact h.elim | simp [nonB]
theorem op1_isN {K : PySem.W.Frag} : Op1 K (fun x H Q => Q (.bl (decide (x = .non))) H) gIsN := fun F H x d s Q l v g k => by
  have e := vw_non v
  have es : s = ⟨.fz, .bl (nonB d)⟩ := by unfold gIsN at g; cases d <;> first | (cases g; rfl) | cases g
  subst es
  show Q _ H
  rw [e]
  exact k _ _ _ (New.same l (.bl _))
theorem op1_notN {K : PySem.W.Frag} : Op1 K (fun x H Q => Q (.bl (!decide (x = .non))) H) gNotN := fun F H x d s Q l v g k => by
  have e := vw_non v
  have es : s = ⟨.fz, .bl (!nonB d)⟩ := by unfold gNotN at g; cases d <;> first | (cases g; rfl) | cases g
  subst es
  show Q _ H
  rw [e]
  exact k _ _ _ (New.same l (.bl _))
def gIsB : D → D → Option Sl
  | .bl a, .bl b => fzB (decide (a = b))
  | _, _ => none
def gNotB : D → D → Option Sl
  | .bl a, .bl b => fzB (!decide (a = b))
  | _, _ => none
theorem op2_isB {K : PySem.W.Frag} : Op2 K (fun x y H Q => ∃ a b, x = .bl a ∧ y = .bl b ∧ Q (.bl (decide (a = b))) H) gIsB := fun F H x y d e s Q l v w g k => by
  unfold gIsB at g
  split at g
  · cases g; exact ⟨_, _, v.bl, w.bl, k _ _ _ (New.same l (.bl _))⟩
  · cases g
theorem op2_notB {K : PySem.W.Frag} : Op2 K (fun x y H Q => ∃ a b, x = .bl a ∧ y = .bl b ∧ Q (.bl (!decide (a = b))) H) gNotB := fun F H x y d e s Q l v w g k => by
  unfold gNotB at g
  split at g
  · cases g; exact ⟨_, _, v.bl, w.bl, k _ _ _ (New.same l (.bl _))⟩
  · cases g
section
variable {X : Cx} {a b : Expr} {oa ob : Opd} {pos pos' : Pos} {j : Nat}
theorem v_isN (ha : VO X a oa) : VE X (.Compare a [.Is] [.Constant .none j pos'] pos) (fOp1 gIsN oa) := VE.of (pe_cmp (pc_isN ha)) fun _ _ _ _ q => tE_op1 op1_isN q
theorem v_notN (ha : VO X a oa) : VE X (.Compare a [.IsNot] [.Constant .none j pos'] pos) (fOp1 gNotN oa) := VE.of (pe_cmp (pc_notN ha)) fun _ _ _ _ q => tE_op1 op1_notN q
theorem t_isN (ha : VO X a oa) : VT X (.Compare a [.Is] [.Constant .none j pos'] pos) (fT (fOp1 gIsN oa)) := PT.of (pt_cmp (pc_isN ha)) fun _ _ _ q => tE_op1 op1_isN (tT_of q)
theorem t_notN (ha : VO X a oa) : VT X (.Compare a [.IsNot] [.Constant .none j pos'] pos) (fT (fOp1 gNotN oa)) := PT.of (pt_cmp (pc_notN ha)) fun _ _ _ q => tE_op1 op1_notN (tT_of q)
theorem v_isB (ha : VO X a oa) (hb : VO X b ob) : VE X (.Compare a [.Is] [b] pos) (fOp2 gIsB oa ob) := ve_cmp op_is_bl op2_isB ha hb (nomark _)
theorem v_notB (ha : VO X a oa) (hb : VO X b ob) : VE X (.Compare a [.IsNot] [b] pos) (fOp2 gNotB oa ob) := ve_cmp op_isnot_bl op2_notB ha hb (nomark _)
theorem t_isB (ha : VO X a oa) (hb : VO X b ob) : VT X (.Compare a [.Is] [b] pos) (fT (fOp2 gIsB oa ob)) := vt_cmp op_is_bl op2_isB ha hb (nomark _)
theorem t_notB (ha : VO X a oa) (hb : VO X b ob) : VT X (.Compare a [.IsNot] [b] pos) (fT (fOp2 gNotB oa ob)) := vt_cmp op_isnot_bl op2_notB ha hb (nomark _)
end
/-! ### minus -/
def gNeg : D → Option Sl
  | .int i => fzI (-i)
  | _ => none
theorem op1_neg {K : PySem.W.Frag} : Op1 K (rU fun i => .int (-i)) gNeg := fun F H x d s Q l v g k => by
  unfold gNeg at g
  split at g
  · cases g; exact ⟨_, v.int, k _ _ _ (New.same l (.int _))⟩
  · cases g
theorem v_neg {X : Cx} {a : Expr} {oa : Opd} {pos : Pos} (ha : VO X a oa) : VE X (.UnaryOp .USub a pos) (fOp1 gNeg oa) := VE.of (pe_un un_neg ha) fun _ _ _ _ q => tE_op1 op1_neg q
/-! ### a < b < c -/
def fChain (g g' : D → D → Option Sl) (a b c : Opd) : ME := fun ρ => do
  let (pa, ρ1) ← evalO a ρ
  let (pb, ρ2) ← evalO b ρ1
  let d ← look pa ρ2
  let e ← look pb ρ2
  let r ← g d e
  match r with
  | ⟨.fz, .bl true⟩ => do
    let (pc, ρ3) ← evalO c ρ2
    let e' ← look pb ρ3
    let f ← look pc ρ3
    let r' ← g' e' f
    pure (r', ρ3)
  | ⟨.fz, .bl false⟩ => pure (⟨.fz, .bl false⟩, ρ2)
  | _ => none
theorem tE_chain {K : PySem.W.Frag} {r r' : R2} {g g' : D → D → Option Sl} {a b c : Opd} {σ : L2.St} {H : Hp} {Q : VK} (hg : Op2 K r g) (hg' : Op2 K r' g') (h : tE K (fChain g g' a b c) σ H Q) : tChain r r' (tO K a) (tO K b) (tO K c) σ H Q := by
  obtain ⟨F, ρ, s, ρ', R, e, post⟩ := h
  obtain ⟨⟨pa, ρ1⟩, e1, e⟩ := bind_some e
  obtain ⟨⟨pb, ρ2⟩, e2, e⟩ := bind_some e
  obtain ⟨d, e3, e⟩ := bind_some e
  obtain ⟨f, e4, e⟩ := bind_some e
  obtain ⟨r1, e5, e⟩ := bind_some e
  refine ⟨F, ρ, pa, ρ1, R, e1, fun x F1 H1 R1 S1 P1 => ⟨F1, ρ1, pb, ρ2, R1, e2, fun y F2 H2 R2 S2 P2 => ?_⟩⟩
  refine hg F2 H2 x y d f r1 _ R2.le ((P1.mono S2.stp.le).vw R2 e3) (P2.vw R2 e4) e5 fun v F3 H3 N => ?_
  obtain ⟨R3, S3, q⟩ := after_ops R2 (S1.trans S2) N
  dsimp only at e
  split at e
  · obtain ⟨⟨pc, ρ3⟩, e6, e⟩ := bind_some e
    obtain ⟨f', e7, e⟩ := bind_some e
    obtain ⟨z, e8, e⟩ := bind_some e
    obtain ⟨r2, e9, e⟩ := bind_some e
    cases e
    have qv : Rep K F3 v (.bl true) := q
    cases qv
    refine ⟨true, rfl, ?_⟩
    refine iteT ?_
    refine ⟨F3, ρ2, pc, _, R3, e6, fun u F4 H4 R4 S4 P4 => ?_⟩
    refine hg' F4 H4 y u f' z _ _ R4.le (((P2.mono N.leF).mono S4.stp.le).vw R4 e7) (P4.vw R4 e8) e9 fun v5 F5 H5 N5 => ?_
    obtain ⟨R5, S5, q5⟩ := after_ops R4 (S3.trans S4) N5
    exact post v5 F5 H5 R5 S5 q5
  · cases e
    have qv : Rep K F3 v (.bl false) := q
    cases qv
    refine ⟨false, rfl, ?_⟩
    refine iteF ?_
    exact post _ F3 H3 R3 S3 q
  · cases e
theorem v_leLe {X : Cx} {a b c : Expr} {oa ob oc : Opd} {pos : Pos} (ha : VO X a oa) (hb : VO X b ob) (hc : VO X c oc) (hm : lastMarks [.LtE, .LtE] [b, c] = false := by with_unfolding_all rfl) : VE X (.Compare a [.LtE, .LtE] [b, c] pos) (fChain gLe gLe oa ob oc) :=
  VE.of (pe_chain op_le op_le ha hb hc hm) fun _ _ _ _ q => tE_chain op2_cmp op2_cmp q
theorem t_leLe {X : Cx} {a b c : Expr} {oa ob oc : Opd} {pos : Pos} (ha : VO X a oa) (hb : VO X b ob) (hc : VO X c oc) (hm : lastMarks [.LtE, .LtE] [b, c] = false := by with_unfolding_all rfl) : VT X (.Compare a [.LtE, .LtE] [b, c] pos) (fT (fChain gLe gLe oa ob oc)) :=
  PT.of (pt_chain op_le op_le ha hb hc hm) fun _ _ _ q => tE_chain op2_cmp op2_cmp (tT_of q)
/-! ### slices -/
def gSlT : D → Option Int → Option Int → Option Sl
  | .tup xs, lo, hi => some ⟨.fz, .tup (cutD xs lo hi)⟩
  | _, _, _ => none
theorem cut_whole {xs : List D} {lo hi : Option Int} (h : HT.sIx xs.length 0 lo = 0 ∧ HT.sIx xs.length xs.length hi = xs.length) : cutD xs lo hi = xs := by
  unfold cutD; rw [h.1, h.2]; simp
theorem op3_slT {K : PySem.W.Frag} : Op3 K (rSlA K) gSlT := fun F H x d lo hi s Q l v g k => by
  unfold gSlT at g
  split at g
  · rename_i xs _ _
    cases g
    obtain ⟨a, vs, rfl, h1, h2, h3⟩ := v.tup l
    refine ⟨a, vs, rfl, SqT.of h1, fun hw => ?_, fun hw p hp => k _ _ _ (New.tup l hp (h2.cut lo hi))⟩
    rw [h2.length] at hw
    refine k _ _ _ (New.same l ?_)
    rw [cut_whole hw]
    exact .tup h3 h2
  · cases g
def gSlS : D → Option Int → Option Int → Option Sl
  | .str x, lo, hi => if x.length ≤ sizeLine then fzS (cutS x lo hi) else none
  | _, _, _ => none
theorem op3_slS {K : PySem.W.Frag} : Op3 K rSlS gSlS := fun F H x d lo hi s Q l v g k => by
  unfold gSlS at g
  split at g
  · split at g
    · rename_i h; cases g; exact ⟨_, v.str, h, k _ _ _ (New.same l (.str _))⟩
    · cases g
  · cases g
def or3 (g h : D → Option Int → Option Int → Option Sl) : D → Option Int → Option Int → Option Sl := fun d lo hi => match g d lo hi with
  | some s => some s
  | none => h d lo hi
theorem Op3.or {K : PySem.W.Frag} {r r' : V → Option Int → Option Int → Hp → VK → Prop} {g h : D → Option Int → Option Int → Option Sl} (a : Op3 K r g) (b : Op3 K r' h) : Op3 K (fun x lo hi H Q => r x lo hi H Q ∨ r' x lo hi H Q) (or3 g h) := fun F H x d lo hi s Q l v q k => by
  unfold or3 at q
  split at q
  · rename_i s' hs; cases q; exact .inl (a F H x d lo hi s Q l v hs k)
  · exact .inr (b F H x d lo hi s Q l v q k)
theorem slOr {X : Cx} {r r' : V → Option Int → Option Int → Hp → VK → Prop} (a : SlR X r) (b : SlR X r') : SlR X (fun x lo hi H Q => r x lo hi H Q ∨ r' x lo hi H Q) := fun pins s σ H x v vl vu lo hi sl Q I rx hs pl pu h =>
  h.elim (fun h => a pins s σ H x v vl vu lo hi sl Q I rx hs pl pu h) (fun h => b pins s σ H x v vl vu lo hi sl Q I rx hs pl pu h)
def gSlA : D → Option Int → Option Int → Option Sl := or3 gSlL (or3 gSlT gSlS)
theorem v_cutA {X : Cx} {e : Expr} {o : Opd} {pos p2 : Pos} {lo hi : Option Expr} {l h : MP} (he : VO X e o) (hl : VP X lo l) (hh : VP X hi h) : VE X (.Subscript e (.Slice lo hi none p2) pos) (fSl gSlA o l h) :=
  ve_slice (slOr sl_list (slOr sl_tupA sl_str)) (op3_slL.or (op3_slT.or op3_slS)) he hl hh
/-- xs[::-1] -/
def gRev : D → Option Sl
  | .lst xs => some ⟨.own, .lst xs.reverse⟩
  | _ => none
def rRevL (K : PySem.W.Frag) : V → Hp → VK → Prop := fun x H Q => ∃ a xs, x = .ref a ∧ SqL K H a xs ∧ ∀ p, H p = none → Q (.ref p) (upd H p (.lst xs.reverse))
theorem op1_rev {K : PySem.W.Frag} : Op1 K (rRevL K) gRev := fun F H x d s Q l v g k => by
  unfold gRev at g
  split at g
  · cases g
    obtain ⟨a, vs, rfl, h1, h2⟩ := v.lst l
    exact ⟨a, vs, rfl, SqL.of h1, fun p hp => k _ _ _ (New.lst l hp h2.reverse)⟩
  · cases g
theorem v_rev {X : Cx} {e : Expr} {o : Opd} {k : Nat} {p1 p2 p3 pos : Pos} (he : VO X e o) : VE X (.Subscript e (.Slice none none (some (.UnaryOp .USub (.Constant (.int 1) k p1) p2)) p3) pos) (fOp1 gRev o) :=
  VE.of (pe_revL he) fun _ _ _ _ q => tE_op1 op1_rev q
/-! ### t + u -/
def gCat : D → D → Option Sl
  | .tup x, .tup y => if x.length + y.length ≤ sizeLine then some ⟨.fz, .tup (x ++ y)⟩ else none
  | _, _ => none
theorem op2_cat {K : PySem.W.Frag} : Op2 K (rCatA K) gCat := fun F H x y d e s Q l v w g k => by
  unfold gCat at g
  split at g
  · rename_i xs ys
    split at g
    · rename_i h
      cases g
      obtain ⟨a, vs, rfl, h1, h2, h3⟩ := v.tup l
      obtain ⟨b, ws, rfl, g1, g2, g3⟩ := w.tup l
      refine ⟨a, b, vs, ws, rfl, rfl, SqT.of h1, SqT.of g1, by rw [h2.length, g2.length]; exact h, fun z => ?_, fun _ z => ?_, fun _ _ p hp => k _ _ _ (New.tup l hp (h2.append g2))⟩
      · subst z; cases h2; exact k _ _ _ (New.same l (.tup g3 g2))
      · subst z; cases g2; exact k _ _ _ (New.same l (by rw [List.append_nil]; exact .tup h3 h2))
    · cases g
  · cases g
def gAddA : D → D → Option Sl := orG (gI2 fun i j => .int (i + j)) (orG gAddS (orG gAddL gCat))
theorem v_addA {X : Cx} {a b : Expr} {oa ob : Opd} {pos : Pos} (ha : VO X a oa) (hb : VO X b ob) : VE X (.BinOp a .Add b pos) (fOp2 gAddA oa ob) := ve_op (op_add.or (op_add_str.or (op_cat.or op_catA))) (op2_int.or (op2_addS.or (op2_addL.or op2_cat))) ha hb
/-! ### displays with stars -/
def evalS : List (Bool × ME) → Rho → Option (List D × Rho)
  | [], ρ => some ([], ρ)
  | (false, f) :: fs, ρ => do
    let (r, ρ1) ← f ρ
    let (ds, ρ2) ← evalS fs ρ1
    pure (r.d :: ds, ρ2)
  | (true, f) :: fs, ρ => do
    let (r, ρ1) ← f ρ
    let xs ← (match r.d with | .tup xs => some xs | .lst xs => some xs | _ => none)
    let (ds, ρ2) ← evalS fs ρ1
    pure (xs ++ ds, ρ2)
def tZS (K : PySem.W.Frag) (fs : List (Bool × ME)) : TA := fun σ H Q => ∃ F ρ ds ρ', Rel K F ρ σ H ∧ evalS fs ρ = some (ds, ρ') ∧ ∀ vs F' H', Rel K F' ρ' σ H' → StpE F ρ σ H F' ρ' H' → RepL K F' vs ds → Q vs H'
abbrev VZS (X : Cx) (es : List Expr) (fs : List (Bool × ME)) : Prop := PA X es (tZS X.K fs)
theorem vzs_nil {X : Cx} : VZS X [] [] := PA.of pa_nil fun σ H Q ⟨F, ρ, pks, ρ', R, e, post⟩ => by
  cases e
  exact post [] F H R .refl .nil
theorem vzs_cons {X : Cx} {e : Expr} {es : List Expr} {f : ME} {fs : List (Bool × ME)} (ha : VE X e f) (hr : VZS X es fs) (hs : starEach (e :: es) X.env = (false, eval e X.env) :: starEach es X.env := by rfl) : VZS X (e :: es) ((false, f) :: fs) :=
  PA.of (pa_cons ha hr hs) fun σ H Q ⟨F, ρ, pks, ρ', R, e, post⟩ => by
    obtain ⟨⟨r, ρ1⟩, e1, e⟩ := bind_some e
    obtain ⟨⟨pb, ρ2⟩, e2, e⟩ := bind_some e
    cases e
    refine ⟨F, ρ, r, ρ1, R, e1, fun x F1 H1 R1 S1 P1 => ?_⟩
    obtain ⟨F1', R1', S1', P1'⟩ := P1.frozen R R1 S1
    exact ⟨F1', ρ1, pb, ρ', R1', e2, fun vs F2 H2 R2 S2 P2 => post (x :: vs) F2 H2 R2 (S1'.trans S2) (.cons (P1'.mono S2.stp.le) P2)⟩
theorem vzs_star {X : Cx} {e : Expr} {es : List Expr} {p : Pos} {f : ME} {fs : List (Bool × ME)} (ha : VE X e f) (hr : VZS X es fs) (hs : starEach (.Starred e p :: es) X.env = (true, eval e X.env) :: starEach es X.env := by rfl) : VZS X (.Starred e p :: es) ((true, f) :: fs) :=
  PA.of (StX.pa_star ha hr hs) fun σ H Q ⟨F, ρ, pks, ρ', R, e, post⟩ => by
    obtain ⟨⟨r, ρ1⟩, e1, e⟩ := bind_some e
    obtain ⟨xs, e3, e⟩ := bind_some e
    obtain ⟨⟨pb, ρ2⟩, e2, e⟩ := bind_some e
    cases e
    refine ⟨F, ρ, r, ρ1, R, e1, fun x F1 H1 R1 S1 P1 => ?_⟩
    obtain ⟨F1', R1', S1', P1'⟩ := P1.frozen R R1 S1
    obtain ⟨rm, rd⟩ := r
    dsimp only at e3 P1'
    cases rd with
    | tup ys =>
      cases e3
      cases P1' with
      | @tup a vs _ h1 h2 => exact ⟨a, vs, rfl, .inl (SqT.of (R1'.le _ _ h1)), F1', ρ1, pb, ρ', R1', e2, fun ws F2 H2 R2 S2 P2 => post (vs ++ ws) F2 H2 R2 (S1'.trans S2) ((h2.mono S2.stp.le).append P2)⟩
    | lst ys =>
      cases e3
      cases P1' with
      | @lst a vs _ h1 h2 => exact ⟨a, vs, rfl, .inr (SqL.of (R1'.le _ _ h1)), F1', ρ1, pb, ρ', R1', e2, fun ws F2 H2 R2 S2 P2 => post (vs ++ ws) F2 H2 R2 (S1'.trans S2) ((h2.mono S2.stp.le).append P2)⟩
    | _ => cases e3
def fDispS (g : List D → Option Sl) (fs : List (Bool × ME)) : ME := fun ρ => do
  let (ds, ρ1) ← evalS fs ρ
  let r ← g ds
  pure (r, ρ1)
theorem tE_dispS {K : PySem.W.Frag} {r : List V → Hp → VK → Prop} {g : List D → Option Sl} {fs : List (Bool × ME)} {σ : L2.St} {H : Hp} {Q : VK} (hg : OpZ K r g) (h : tE K (fDispS g fs) σ H Q) : tZS K fs σ H fun vs H1 => r vs H1 Q := by
  obtain ⟨F, ρ, s, ρ2, R, e, post⟩ := h
  obtain ⟨⟨pa, ρ1⟩, e1, e⟩ := bind_some e
  obtain ⟨s', e5, e⟩ := bind_some e
  cases e
  refine ⟨F, ρ, pa, ρ2, R, e1, fun x F1 H1 R1 S1 P1 => ?_⟩
  refine hg F1 H1 x pa s _ R1.le P1 e5 fun v F3 H3 N => ?_
  obtain ⟨R3, S3, q⟩ := after_ops R1 S1 N
  exact post v F3 H3 R3 S3 q
theorem ve_tupS {X : Cx} {es : List Expr} {fs : List (Bool × ME)} {x1 : Nat} {pos : Pos} (h : VZS X es fs) : VE X (.Tuple es x1 pos) (fDispS gTup fs) :=
  VE.of (pe_tup h) fun σ H Q _ q => tE_dispS (r := fun xs H1 Q => xs.length ≤ sizeLine ∧ ∀ p, H1 p = none → Q (.ref p) (upd H1 p (.tup xs))) (fun F H vs ds s Q le rp e k => by
    unfold gTup at e
    split at e
    · rename_i hl
      cases e
      exact ⟨by rw [rp.length]; exact hl, fun p hp => k _ _ _ (New.tup le hp rp)⟩
    · cases e) q
theorem ve_lstS {X : Cx} {es : List Expr} {fs : List (Bool × ME)} {pos : Pos} (h : VZS X es fs) : VE X (.List es pos) (fDispS gLst fs) :=
  VE.of (pe_lst h) fun σ H Q _ q => tE_dispS (r := fun xs H1 Q => xs.length ≤ sizeLine ∧ ∀ p, H1 p = none → Q (.ref p) (upd H1 p (.lst xs))) (fun F H vs ds s Q le rp e k => by
    unfold gLst at e
    split at e
    · rename_i hl
      cases e
      exact ⟨by rw [rp.length]; exact hl, fun p hp => k _ _ _ (New.lst le hp rp)⟩
    · cases e) q
/-! ### over frozen operands: zip, enumerate -/
def WalksZ (K : PySem.W.Frag) (g : List D → Option (List D)) (wi : TA → TI) : Prop := ∀ (fs : List ME) (σ : L2.St) (H : Hp) (R : It → Hp → Prop), (∃ F ρ es ρ1 ds, Rel K F ρ σ H ∧ evalZ fs ρ = some (es, ρ1) ∧ g es = some ds ∧
    ∀ F' H' J, Rel K F' ρ1 σ H' → StpE F ρ σ H F' ρ1 H' → Itn K F' ρ1 σ H' J ds → R J H') → wi (tZ K fs) σ H R
def zipD : List D → List D → List D
  | x :: xs, y :: ys => .tup [x, y] :: zipD xs ys
  | _, _ => []
theorem zipD_len : ∀ xs ys : List D, (zipD xs ys).length = min xs.length ys.length
  | [], ys => by simp [zipD]
  | x :: xs, [] => by simp [zipD]
  | x :: xs, y :: ys => by simp only [zipD, List.length_cons, zipD_len xs ys]; omega
theorem zipD_get : ∀ {xs ys : List D} {i : Nat} {x y : D}, xs[i]? = some x → ys[i]? = some y → (zipD xs ys)[i]? = some (.tup [x, y])
  | [], _, _, _, _, h, _ => by simp at h
  | _ :: _, [], _, _, _, _, h => by simp at h
  | a :: xs, b :: ys, 0, x, y, h, q => by simp at h q; simp [zipD, h, q]
  | a :: xs, b :: ys, i + 1, x, y, h, q => by
    simp only [List.getElem?_cons_succ] at h q
    simp only [zipD, List.getElem?_cons_succ]
    exact zipD_get h q
def gZip : List D → Option (List D)
  | [.lst xs, .lst ys] => some (zipD xs ys)
  | _ => none
def gEnum : List D → Option (List D)
  | [.lst xs] => some (zipD (rangeD 0 xs.length) xs)
  | _ => none
theorem walks_zip {K : PySem.W.Frag} : WalksZ K gZip (iZip K) := fun fs σ H R ⟨F, ρ, es, ρ1, ds, R0, e1, e2, post⟩ => by
  unfold gZip at e2
  split at e2
  · rename_i xs ys
    cases e2
    refine ⟨F, ρ, _, ρ1, R0, e1, fun vs F1 H1 R1 S1 P1 => ?_⟩
    cases P1 with
    | cons p1 t1 =>
      cases t1 with
      | cons p2 t2 =>
        cases t2
        cases p1 with
        | @lst a us _ h1 h2 =>
          cases p2 with
          | @lst b ws _ g1 g2 =>
            refine ⟨a, b, us, ws, rfl, SqL.of (R1.le _ _ h1), SqL.of (R1.le _ _ g1), post F1 H1 _ R1 S1 ⟨_, _, walk_zip (K := K) (a := a) (b := b) (xs := us) (ys := ws) (by rw [zipD_len, h2.length, g2.length]), fun F' ρ' σ' H' S l => ⟨SqL.of (l _ _ (S.le _ _ h1)), SqL.of (l _ _ (S.le _ _ g1))⟩, fun i F' ρ' σ' H' x H'' hi S l y => ?_⟩⟩
            obtain ⟨T, u, w, rfl, hT, rfl, q1, q2⟩ := y
            obtain ⟨d1, e3, r1⟩ := h2.get q1
            obtain ⟨d2, e4, r2⟩ := g2.get q2
            exact ⟨_, _, zipD_get e3 e4, New.tup l hT (.cons (r1.mono S.le) (.one (r2.mono S.le)))⟩
  · cases e2
theorem walks_enum {K : PySem.W.Frag} : WalksZ K gEnum (iEnum K) := fun fs σ H R ⟨F, ρ, es, ρ1, ds, R0, e1, e2, post⟩ => by
  unfold gEnum at e2
  split at e2
  · rename_i xs
    cases e2
    refine ⟨F, ρ, _, ρ1, R0, e1, fun vs F1 H1 R1 S1 P1 => ?_⟩
    cases P1 with
    | cons p1 t1 =>
      cases t1
      cases p1 with
      | @lst a us _ h1 h2 =>
        refine ⟨a, us, rfl, SqL.of (R1.le _ _ h1), post F1 H1 _ R1 S1 ⟨_, _, (by rw [zipD_len, rangeD_length, Nat.min_self, ← h2.length]; exact walk_enum (K := K) (a := a) (xs := us)), fun F' ρ' σ' H' S l => SqL.of (l _ _ (S.le _ _ h1)), fun i F' ρ' σ' H' x H'' hi S l y => ?_⟩⟩
        obtain ⟨T, u, w, rfl, hT, rfl, q1, q2⟩ := y
        cases q1
        obtain ⟨d2, e4, r2⟩ := h2.get q2
        have hi' : i < xs.length := (List.getElem?_eq_some_iff.mp e4).1
        refine ⟨_, _, zipD_get (x := .int (i : Nat)) ?_ e4, New.tup l hT (.cons (.int _) (.one (r2.mono S.le)))⟩
        unfold rangeD
        simp [hi']
  · cases e2
def fForZ (g : List D → Option (List D)) (fs : List ME) (b : MG) (body : MS) : MS := fun ρ => do
  let (es, ρ1) ← evalZ fs ρ
  let ds ← g es
  loopM b body ds ρ1
theorem tS_forZ {K : PySem.W.Frag} {g : List D → Option (List D)} {wi : TA → TI} {fs : List ME} {is : List Nat} {b : MG} {body : MS} {D : Ends} {σ : L2.St} {H : Hp} (hw : WalksZ K g wi) (h : tS K (fForZ g fs b body) D σ H) : tFor (wi (tZ K fs)) (tG K is b) (tS K body) D σ H := by
  obtain ⟨F, ρ, fl, ρ', R, e, post⟩ := h
  obtain ⟨⟨es, ρ1⟩, e1, e⟩ := bind_some e
  obtain ⟨ds, e3, e⟩ := bind_some e
  refine hw fs σ H _ ⟨F, ρ, es, ρ1, ds, R, e1, e3, fun F1 H1 J R1 S1 it => ?_⟩
  exact for_ok R1 it e fun F2 σ2 H2 R2 S2 => (post F2 σ2 H2 R2 (S1.stp.trans S2)).back S1.stp
theorem vs_forZ {X : Cx} {tg iter : Expr} {body : List Stmt} {g : List D → Option (List D)} {wi : TA → TI} {fs : List ME} {is : List Nat} {b : MG} {m : MS} {pos : Pos} (hw : WalksZ X.K g wi) (hp : PassesOwn (model X.prog X.w) X.A X.env X.xe) (hc : X.calm = true)
    (hi : PI X tg iter (wi (tZ X.K fs))) (hg : VG X tg is b) (hb : VB X body m) (hs : ∀ x, foldedSetIterable iter X.env x = pure x := by intro _; rfl) : VS X (.For tg iter body [] pos) (fForZ g fs b m) := PS.of (ps_for hp hc hi hg hb hs) fun _ _ _ _ q => tS_forZ hw q
def fCompZ (g : List D → Option (List D)) (fs : List ME) (is : List Nat) (b : MG) (t : MT) (f : ME) : ME := fun ρ => do
  let (es, ρ1) ← evalZ fs ρ
  let ds ← g es
  if is.all (free ρ1) = true then do
    let (acc, ρ2) ← compM is b t f ds [] (wipeR ρ1 is)
    if acc.length ≤ sizeLine then pure (⟨.own, .lst acc⟩, ρ2) else none
  else none
theorem tE_compZ {K : PySem.W.Frag} {g : List D → Option (List D)} {wi : TA → TI} {fs : List ME} {is : List Nat} {b : MG} {t : MT} {f : ME} {σ : L2.St} {H : Hp} {Q : VK} (hw : WalksZ K g wi) (hb : NB b) (h : tE K (fCompZ g fs is b t f) σ H Q) :
    tLc (wi (tZ K fs)) (tG K is b) (tT K t) (tE K f) is σ H Q := by
  obtain ⟨F, ρ, r, ρ', R, e, post⟩ := h
  obtain ⟨⟨es, ρ1⟩, e1, e⟩ := bind_some e
  obtain ⟨ds, e3, e⟩ := bind_some e
  dsimp only at e
  split at e
  · rename_i hf
    obtain ⟨⟨acc, ρ2⟩, e4, e⟩ := bind_some e
    dsimp only at e
    split at e
    · rename_i hz
      cases e
      refine hw fs σ H _ ⟨F, ρ, es, ρ1, ds, R, e1, e3, fun F1 H1 J R1 S1 it p hp => ?_⟩
      refine comp_ok R1 (it.wiped hf) hb hf hp e4 hz fun F2 H2 R2 S2 fp oa => ?_
      exact post (.ref p) F2 H2 R2 (S1.trans S2) ⟨p, rfl, none_back S1.stp hp, fp, oa⟩
    · cases e
  · cases e
theorem ve_compZ {X : Cx} {elt tg iter : Expr} {ifs : List Expr} {scope : Scope} {pos : Pos} {is : List Nat} {b : MG} {t : MT} {f : ME} {g : List D → Option (List D)} {wi : TA → TI} {fs : List ME} (own : List (Str × Nat)) (hw : WalksZ X.K g wi) (hb : NB b) (hc : X.calm = true) (hN : X.N.Nodup) (hi : PI X tg iter (wi (tZ X.K fs))) (ok : BlkOk X.N X.env.scope scope own)
    (hg : ∀ (s : Shared) (H : Hp) (C : Addr) (cl : List (Str × Addr)) (fp : List Addr), VG (X.blk s H scope (compEnvC scope cl C X.env) fp) tg is b) (ht : ∀ (s : Shared) (H : Hp) (C : Addr) (cl : List (Str × Addr)) (fp : List Addr), VTs (X.blk s H scope (compEnvC scope cl C X.env) fp) ifs t)
    (he : ∀ (s : Shared) (H : Hp) (C : Addr) (cl : List (Str × Addr)) (fp : List Addr), VE (X.blk s H scope (compEnvC scope cl C X.env) fp) elt f) (ho : own.map (·.2) = is := by rfl) (hs : ∀ x, foldedSetIterable iter X.env x = pure x := by intro _; rfl) :
    VE X (.ListComp elt [⟨tg, iter, ifs, 0⟩] scope pos) (fCompZ g fs is b t f) := VE.of (pe_lc hc hN hi ok hg ht he hs) fun _ _ _ _ q => by rw [ho]; exact tE_compZ hw hb q
/-! ### a list, a tuple unpacked -/
def bindU (is : List Nat) : MG := fun d ρ => match d with
  | .tup ds => bindA is ds ρ
  | .lst ds => bindA is ds ρ
  | _ => none
theorem nb_unp (is : List Nat) : NB (bindU is) := fun d ρ ρ' e j s h hm => by
  cases d with
  | tup ds => exact nb_all is ds ρ ρ' e j s h hm
  | lst ds => exact nb_all is ds ρ ρ' e j s h hm
  | _ => cases e
theorem pgOr {X : Cx} {tg : Expr} {t t' : TG} (a : PG X tg t) (b : PG X tg t') : PG X tg (fun v σ H Q => t v σ H Q ∨ t' v σ H Q) := ⟨fun pins s σ H v u Q I r h => h.elim (a.run pins s σ H v u Q I r) (b.run pins s σ H v u Q I r)⟩
theorem vg_unp {X : Cx} {es : List Expr} {is : List Nat} {k : Nat} {pos : Pos} (hc : X.calm = true) (h : VGs X es is (bindA is)) (hn : (assignEach es X.env).length = is.length := by rfl) (hst : (assignEach es X.env).findIdx? (·.1) = none := by rfl) : VG X (.Tuple es k pos) is (bindU is) :=
  PG.of (pgOr (pg_tup hc h hn hst) (pg_lst hc h hn hst)) fun v σ H Q ⟨F, ρ, d, ρ', R, r, e, post⟩ => by
    cases r with
    | @tup a vs ds h1 h2 => exact .inl ⟨a, vs, rfl, SqT.of (R.le _ _ h1), by rw [h2.length]; exact bindA_len e, F, ρ, ds, ρ', R, h2, e, post⟩
    | @lst a vs ds h1 h2 => exact .inr ⟨a, vs, rfl, SqL.of (R.le _ _ h1), by rw [h2.length]; exact bindA_len e, F, ρ, ds, ρ', R, h2, e, post⟩
    | _ => cases e
/-! ### a tuple of the text's own constants is walked -/
def itemsTK : D → Option (List D)
  | .tupK ds => some ds
  | _ => none
theorem walks_tupK {K : PySem.W.Frag} : Walks K itemsTK (iTup K) := fun o σ H R ⟨F, ρ, pk, ρ1, d, ds, R0, e1, e2, e3, post⟩ => by
  cases d with
  | tupK ds' =>
    cases e3
    refine ⟨F, ρ, pk, ρ1, R0, e1, fun v F1 H1 R1 S1 P1 => ?_⟩
    rcases P1.stays R1 e2 with h | ⟨p, o, rfl, ho, oa, st⟩
    · cases h with
      | @tupK a vs _ h1 h2 => exact ⟨a, rfl, ⟨vs, R1.le.sqT h1⟩, post F1 H1 _ R1 S1 (itn_tup (fun F' ρ' σ' H' S l => (S.le.trans l).sqT h1) h2)⟩
    · exact oa.elim
  | _ => cases e3
def itemsA : D → Option (List D) := orI items itemsTK
def iAnyK (K : PySem.W.Frag) (te : TE) : TI := fun σ H R => iAny K te σ H R ∨ iTup K te σ H R
theorem walks_anyK {K : PySem.W.Frag} : Walks K itemsA (iAnyK K) := walks_any.or walks_tupK
theorem pi_anyK {X : Cx} {tg iter : Expr} {o : Opd} (h : VO X iter o) : PI X tg iter (iAnyK X.K (tO X.K o)) := PI.or (pi_any h) (pi_tup h)
end VI

/-! What a text's classes and defs are: facts made. -/
namespace VI
open PySem PySem.Spec PyProof.Rows L2

section
variable {P : Program} {w : World} {K : PySem.W.Frag} {mg : Str → Option Value} {base : Heap} {x qual c : Str} {st : Stmt} {f C : Addr} {fd : FuncData} {N ps : List Str} {k n : Nat} {g : MS}
theorem funD_A {dvs : List V} {kws : List (Str × V)} (F : FunD K x qual (defArgs st) (defBody st) (defScope st) dvs kws f fd) : FunA K x qual st f fd := by
  obtain ⟨oc, od, dV, kV, doc, pm, an, cdv, ct, osl, e, lk, hcd, _, _⟩ := F.ex
  exact ⟨oc, od, dV, kV, doc, pm, an, cdv, ct, osl, e, lk, hcd⟩
/-- one default, an object of the module -/
theorem funD_mk {T T0 : Addr} {oc tc : Value} {od an td : Option Addr} {osl ts : Array (Option Value)} {kV doc pm cdv ct : Value} {tn : Nat}
    (l : K.lookup f = some ⟨oc, od, .func (PySem.W.fnOf x qual (defArgs st) (defBody st) (defScope st) (.ref T) kV doc pm an cdv ct), osl⟩) (lT : K.lookup T = some ⟨tc, td, .seq #[.ref T0] tn, ts⟩)
    (c : PySem.W.codeIn K cdv qual = true) (kp : PySem.W.keepIn K (.ref f) = true) : FunD K x qual (defArgs st) (defBody st) (defScope st) [V.ref T0] [] f (PySem.W.fnOf x qual (defArgs st) (defBody st) (defScope st) (.ref T) kV doc pm an cdv ct) :=
  ⟨⟨oc, od, .ref T, kV, doc, pm, an, cdv, ct, osl, rfl, l, c, .inr ⟨by simp, T, _, [.ref T0], tn, rfl, lT, rfl, .cons rfl .nil⟩, .inl rfl⟩, kp⟩
theorem rep_unit {F : Hp} {T0 : Addr} {d0 : Option Addr} {n0 : Nat} {s0 : Array (Option Value)} (l0 : K.lookup T0 = some ⟨.type "tuple", d0, .seq #[] n0, s0⟩) : Rep K F (.ref T0) (.tupK []) :=
  .tupK (vs := []) (.inr ⟨_, #[], n0, l0, rfl, rfl, by simp, .nil⟩) .nil
theorem mth_mk {m : Str} (Fn : Fun K m qual st f fd) (hC : clsA K c = some C) (cl : Cls K C) (hm : Meth K C m f) (S : FnScope N ps (defScope st)) (hn : N.length = ps.length + n) (hb : Binds K fd ps [])
    (hbody : ∀ (cdv : Value) (A : Around) (outer : List Env) (s : Shared) (H : Hp), Room k (A.deeper (envOfC qual (defScope st) s.heap.objs.size f cdv)) → A.guards = some [] → VB (cxOf CX0 P w K mg base N qual (defScope st) f cdv A outer s H E0).nox (defBody st) g) :
    Mth P w K mg base (k + 1) ps.length m c (fnM n g) := ⟨C, f, fd, ps, hC, cl, hm, rfl, fn_ok Fn S hn hbody, hb⟩
theorem mak_mk {ds : List Value} {dvs : List V} {dd : List D} {m : Str} (Fn : FunA K m qual st f fd) (hC : clsA K c = some C) (hg : mg c = some (.ref C)) (mk : Mk K C f) (S : FnScope N ps (defScope st)) (hn : N.length = ps.length + n) (hb : Binds K fd ps ds) (hd : Vals dvs ds) (hr : ∀ F, RepL K F dvs dd)
    (hbody : ∀ (cdv : Value) (A : Around) (outer : List Env) (s : Shared) (H : Hp), Room k (A.deeper (envOfC qual (defScope st) s.heap.objs.size f cdv)) → A.guards = some [] → VB (cxOf CX0 P w K mg base N qual (defScope st) f cdv A outer s H E0).nox (defBody st) g) :
    Mak P w K mg base (k + 1) ps.length c dd (fnM n g) := ⟨C, f, fd, ps, dvs, ds, hC, hg, mk, rfl, fn_okA Fn S hn hbody, hb, hd, hr⟩
theorem spc_mk {m : Str} (Fn : Fun K m qual st f fd) (hC : clsA K c = some C) (h1 : PySem.W.findIn K (.ref C) m = some (some (.ref f))) (h2 : PySem.W.isFn K (.ref f) = true) (h3 : PySem.W.fnIn K f = true) (h4 : PySem.W.selfFirst K C = true) (h5 : PySem.W.noSeq K C = true) (S : FnScope N ps (defScope st)) (hn : N.length = ps.length + n) (hb : Binds K fd ps [])
    (hbody : ∀ (cdv : Value) (A : Around) (outer : List Env) (s : Shared) (H : Hp), Room k (A.deeper (envOfC qual (defScope st) s.heap.objs.size f cdv)) → A.guards = some [] → VB (cxOf CX0 P w K mg base N qual (defScope st) f cdv A outer s H E0).nox (defBody st) g) :
    Spc P w K mg base (k + 1) ps.length m c (fnM n g) := ⟨C, f, fd, ps, hC, h1, h2, h3, h4, h5, rfl, fn_ok Fn S hn hbody, hb⟩
theorem clsA_of {v : Addr} (h : PySem.W.nsIn K mainGlobals c = some (some (.ref v))) : clsA K c = some v := by unfold clsA; rw [h]
end
/-- a table by cases -/
def tb1 (c : Str) (M : FnM) : Str → Option FnM := fun x => if x = c then some M else none
def tbO (c : Str) (M : FnM) (r : Str → Option FnM) : Str → Option FnM := fun x => if x = c then some M else r x
theorem tb1_all {p : Str → FnM → Prop} {c : Str} {M : FnM} (h : p c M) : ∀ x N, tb1 c M x = some N → p x N := fun x N e => by
  unfold tb1 at e
  split at e
  · rename_i q; cases e; subst q; exact h
  · cases e
theorem tbO_all {p : Str → FnM → Prop} {c : Str} {M : FnM} {r : Str → Option FnM} (h : p c M) (t : ∀ x N, r x = some N → p x N) : ∀ x N, tbO c M r x = some N → p x N := fun x N e => by
  unfold tbO at e
  split at e
  · rename_i q; cases e; subst q; exact h
  · exact t x N e
section
variable {X : Cx} {j k : Nat} {tbl : Str → Option FnM} {a b : Expr} {oa ob : Opd} {pos : Pos}
theorem v_inI (hT : ∀ c M, tbl c = some M → Spc X.prog X.w X.K X.mg X.base j 2 "__contains__" c M) (hr : Room k X.A) (hgu : X.A.guards = some []) (hjk : j ≤ k) (ha : VO X a oa) (hb : VO X b ob) (hm : behindInMarks .In b = false := by rfl) : VE X (.Compare a [.In] [b] pos) (fSp2 true .bool tbl oa ob) :=
  VE.of (pe_cmpR (op_inI hT hr hgu hjk) ha hb hm) fun _ _ _ _ q => tE_sp2 q
theorem v_notinI (hT : ∀ c M, tbl c = some M → Spc X.prog X.w X.K X.mg X.base j 2 "__contains__" c M) (hr : Room k X.A) (hgu : X.A.guards = some []) (hjk : j ≤ k) (ha : VO X a oa) (hb : VO X b ob) (hm : behindInMarks .NotIn b = false := by rfl) : VE X (.Compare a [.NotIn] [b] pos) (fSp2 true .neg tbl oa ob) :=
  VE.of (pe_cmpR (op_notInI hT hr hgu hjk) ha hb hm) fun _ _ _ _ q => tE_sp2 q
theorem t_inI (hT : ∀ c M, tbl c = some M → Spc X.prog X.w X.K X.mg X.base j 2 "__contains__" c M) (hr : Room k X.A) (hgu : X.A.guards = some []) (hjk : j ≤ k) (ha : VO X a oa) (hb : VO X b ob) (hm : behindInMarks .In b = false := by rfl) : VT X (.Compare a [.In] [b] pos) (fT (fSp2 true .bool tbl oa ob)) :=
  PT.of (pt_cmpR (op_inI hT hr hgu hjk) ha hb hm) fun _ _ _ q => tE_sp2 (tT_of q)
theorem t_notinI (hT : ∀ c M, tbl c = some M → Spc X.prog X.w X.K X.mg X.base j 2 "__contains__" c M) (hr : Room k X.A) (hgu : X.A.guards = some []) (hjk : j ≤ k) (ha : VO X a oa) (hb : VO X b ob) (hm : behindInMarks .NotIn b = false := by rfl) : VT X (.Compare a [.NotIn] [b] pos) (fT (fSp2 true .neg tbl oa ob)) :=
  PT.of (pt_cmpR (op_notInI hT hr hgu hjk) ha hb hm) fun _ _ _ q => tE_sp2 (tT_of q)
end
/-! ### isinstance by a list of what is known -/
def tabL (l : List ((TK × TK) × Bool)) : TK → TK → Option Bool := fun a b => (l.find? fun e => decide (e.1 = (a, b))).map (·.2)
theorem tabL_mem {l : List ((TK × TK) × Bool)} {a b : TK} {r : Bool} (h : tabL l a b = some r) : ((a, b), r) ∈ l := by
  unfold tabL at h
  obtain ⟨e, he, rfl⟩ := Option.map_eq_some_iff.mp h
  have h1 := List.mem_of_find?_eq_some he
  have h2 := List.find?_some he
  obtain ⟨p, r⟩ := e
  have h3 : p = (a, b) := by simpa using h2
  subst h3
  exact h1
structure ClsI (K : PySem.W.Frag) (C : Addr) : Prop where
  cl : Cls K C
  c1 : PySem.W.findIn K (.ref C) "__class__" = some (some (.builtin "object.__class__"))
  c2 : PySem.W.specialIn K (.builtin "object.__class__") "__get__" = some (some (.builtin "getset_descriptor.__get__"))
  c3 : PySem.W.takesIn K (.builtin "object.__class__") = some true
  c4 : PySem.W.mroIn K C (.type "object") = some true
def EntOk (K : PySem.W.Frag) (e : (TK × TK) × Bool) : Prop := (∀ c C, e.1.1 = .inr c → clsA K c = some C → ClsI K C) ∧ ∀ u v, valK K e.1.1 = some u → valK K e.1.2 = some v → PySem.W.kitOne K u v = some e.2
theorem isTab_of {K : PySem.W.Frag} {l : List ((TK × TK) × Bool)} (h : ∀ e ∈ l, EntOk K e) : IsTab K (tabL l) where
  own := fun c k r e C hC => by
    have q := (h _ (tabL_mem e)).1 c C rfl hC
    exact ⟨q.cl, q.c1, q.c2, q.c3, q.c4⟩
  ans := fun a b r u v e hu hv => (h _ (tabL_mem e)).2 u v hu hv
theorem ent_bb {K : PySem.W.Frag} {a b : String} {r : Bool} (h : PySem.W.kitOne K (.type a) (.type b) = some r) : EntOk K ((.inl a, .inl b), r) := ⟨fun c C e => (nomatch e), fun u v hu hv => by cases hu; cases hv; exact h⟩
theorem ent_cb {K : PySem.W.Frag} {c : Str} {C : Addr} {b : String} {r : Bool} (hC : clsA K c = some C) (i : ClsI K C) (h : PySem.W.kitOne K (.ref C) (.type b) = some r) : EntOk K ((.inr c, .inl b), r) :=
  ⟨fun c' C' e hC' => by cases e; rw [hC] at hC'; cases hC'; exact i, fun u v hu hv => by simp only [valK, hC, Option.map_some, Option.some.injEq] at hu; subst hu; cases hv; exact h⟩
theorem ent_bc {K : PySem.W.Frag} {c : Str} {C : Addr} {b : String} {r : Bool} (hC : clsA K c = some C) (h : PySem.W.kitOne K (.type b) (.ref C) = some r) : EntOk K ((.inl b, .inr c), r) :=
  ⟨fun c' C' e => (nomatch e), fun u v hu hv => by simp only [valK, hC, Option.map_some, Option.some.injEq] at hv; subst hv; cases hu; exact h⟩
theorem ent_cc {K : PySem.W.Frag} {c e : Str} {C E : Addr} {r : Bool} (hC : clsA K c = some C) (hE : clsA K e = some E) (i : ClsI K C) (h : PySem.W.kitOne K (.ref C) (.ref E) = some r) : EntOk K ((.inr c, .inr e), r) :=
  ⟨fun c' C' e' hC' => by cases e'; rw [hC] at hC'; cases hC'; exact i, fun u v hu hv => by simp only [valK, hC, hE, Option.map_some, Option.some.injEq] at hu hv; subst hu hv; exact h⟩
theorem clsF_one {K : PySem.W.Frag} {c f : Str} {C : Addr} (hC : clsA K c = some C) (cl : Cls K C) (n : NoAttr K C f) : ∀ C', clsA K c = some C' → Cls K C' ∧ NoAttr K C' f := fun C' h => by rw [hC] at h; cases h; exact ⟨cl, n⟩
theorem clsF_nil {K : PySem.W.Frag} {f : Str} : ClsF K [] f := fun c h => nomatch h
theorem clsF_cons {K : PySem.W.Frag} {c f : Str} {cs : List Str} (h : ∀ C', clsA K c = some C' → Cls K C' ∧ NoAttr K C' f) (t : ClsF K cs f) : ClsF K (c :: cs) f := fun c' hc => by
  rcases List.mem_cons.mp hc with rfl | hc
  · exact h
  · exact t c' hc
end VI

/-! repr where dicts stand in tuples; the text's constants. -/
namespace VI
open PySem PySem.Spec PyProof.Rows L2

def keyPy : Key → PyData
  | .inl i => .int i
  | .inr x => .str x
mutual
def D.shw : D → Bool
  | .tup xs => shwL xs
  | .dK es => es.all fun e => e.2.pure
  | .non => true
  | .bl _ => true
  | .int _ => true
  | .str _ => true
  | .lst xs => pureL xs
  | _ => false
def shwL : List D → Bool
  | [] => true
  | d :: ds => d.shw && shwL ds
end
mutual
def D.pyR : D → PyData
  | .tup xs => .tuple (pyRL xs)
  | .dK es => .dict (es.map fun e => (keyPy e.1, e.2.py))
  | d => d.py
def pyRL : List D → List PyData
  | [] => []
  | d :: ds => d.pyR :: pyRL ds
end
theorem v_gstr {X : Cx} {x s : Str} {pos : Pos} (h : ∃ t, X.mg x = some (.str s t)) (hg : Gl X x := by rfl) (hd : (x == ("__debug__" : Str)) = false := by decide) : VE X (.Name x pos) (fC (.str s)) := by
  obtain ⟨t, h⟩ := h
  exact ve_glob hg h (v := .str s) ⟨t, rfl⟩ (fun _ => .str s) hd
theorem v_gint {X : Cx} {x : Str} {i : Int} {pos : Pos} (h : ∃ t, X.mg x = some (.int i t)) (hg : Gl X x := by rfl) (hd : (x == ("__debug__" : Str)) = false := by decide) : VE X (.Name x pos) (fC (.int i)) := by
  obtain ⟨t, h⟩ := h
  exact ve_glob hg h (v := .int i) ⟨t, rfl⟩ (fun _ => .int i) hd
theorem v_cls' {X : Cx} {c : Str} {p : Pos} (h : ∃ C, X.mg c = some (.ref C) ∧ clsA X.K c = some C) (hg : Gl X c := by rfl) (hd : (c == ("__debug__" : Str)) = false := by decide) : VE X (.Name c p) (fC (.cls c)) := by
  obtain ⟨C, h1, h2⟩ := h
  exact v_cls h1 h2 hg hd
/-! ### repr of a dict that stands by itself -/
section
variable {X : Cx}
def rReprE : List V → Hp → VK → Prop := fun xs H Q => ∃ a, xs = [.ref a] ∧ Rd H a (.dK []) ∧ Q (.str "{}") H
theorem call_reprE {k : Nat} (hr : Room k X.A) (hg : X.A.guards = some []) : CallR X (.builtin "repr") rReprE := by
  intro pins s σ H xs us Q I r h
  obtain ⟨a, rfl, hd, q⟩ := h
  rw [Vals.ref1 r]
  obtain ⟨z, lo, vs, rel, dd⟩ := dk_rd I.hok hd
  have ev : vs = [] := by have := rel.length; cases vs <;> simp_all
  subst ev
  obtain ⟨o, es, ep, ho, hx, hdt, he⟩ := dd
  have ees : es.toList = [] := by
    have := he.2.1.length
    cases h : es.toList with
    | nil => rfl
    | cons e t => rw [h] at this; simp at this
  have rd : Reads s.heap (.ref a) (.dict []) (a :: [] ++ []) := .dict ho hx.1 hdt (by rw [ees]; exact .nil) (by rw [ees]; exact .nil)
  have hne : a ≠ sysModules := by simpa using lo
  have hun := hr.un
  have esh : (PyData.dict []).shown = Str.ofString "{}" := by rw [PyData.shown, PyData.shownKv]; rfl
  exact repr_of_reads' rd (by simp [PyData.showable, PyData.showableKv]) (fun _ => by simpa using hne.symm) hg (by simp [PyData.depth, PyData.depthKv]; omega) (fun _ _ e => e) (fun h' u tk hk => ⟨.str _, H, I.kept (t' := tk) hk, ⟨u, rfl⟩, by rw [esh]; exact q⟩) (by rw [esh]; decide)
end
def gReprE : List D → Option Sl
  | [.dK []] => fzS "{}"
  | _ => none
theorem opN_reprE {K : PySem.W.Frag} : OpN K rReprE gReprE := fun F H vs ds s Q l v g k => by
  unfold gReprE at g
  split at g
  · cases g
    obtain ⟨x, rfl, w⟩ := v.one
    obtain ⟨a, kvs, rfl, h1, h2, h3⟩ := w.dK l
    have : kvs = [] := by cases kvs <;> simp_all
    subst this
    exact ⟨a, rfl, h1, k _ _ _ (New.same l (.str _))⟩
  · cases g
def gReprA : List D → Option Sl := orN gRepr gReprE
theorem v_reprA {X : Cx} {k : Nat} {e : Expr} {o : Opd} {p pos : Pos} (hr : Room k X.A) (hgu : X.A.guards = some []) (hm : X.mg "repr" = none) (ha : VO X e o) (hg : Gl X "repr" := by rfl) (hs : starEach [e] X.env = (false, eval e X.env) :: starEach [] X.env := by rfl) : VE X (.Call (.Name "repr" p) [e] [] pos) (fOpN gReprA [o]) :=
  ve_callB ((call_reprD hr hgu).or (call_reprE hr hgu)) (opN_repr.or opN_reprE) hg hm (by decide +kernel) (va_cons ha va_nil hs) (he := hs)
end VI

/-! max of two numbers, of a row of numbers. -/
namespace VI
open PySem PySem.Spec PyProof.Rows L2
def intsOf : List D → Option (List Int)
  | [] => some []
  | .int i :: ds => (intsOf ds).map (i :: ·)
  | _ :: _ => none
def maxI : List Int → Int
  | [] => 0
  | [x] => x
  | x :: xs => max x (maxI xs)
theorem maxI_mem : ∀ {xs : List Int}, xs ≠ [] → maxI xs ∈ xs
  | [], h => absurd rfl h
  | [x], _ => by simp [maxI]
  | x :: y :: xs, _ => by
    have := maxI_mem (xs := y :: xs) (by simp)
    rw [maxI]
    · rcases Int.le_total x (maxI (y :: xs)) with h | h
      · rw [Int.max_eq_right h]; exact List.mem_cons_of_mem _ this
      · rw [Int.max_eq_left h]; exact List.mem_cons_self
    · simp
theorem maxI_le : ∀ {xs : List Int} {x : Int}, x ∈ xs → x ≤ maxI xs
  | [y], x, h => by simp at h; simp [maxI, h]
  | y :: z :: xs, x, h => by
    rw [maxI]
    · rcases List.mem_cons.mp h with rfl | h
      · omega
      · have := maxI_le (xs := z :: xs) h
        omega
    · simp
def gMax2 : List D → Option Sl
  | [.int i, .int j] => fzI (if j > i then j else i)
  | _ => none
def gMaxL : List D → Option Sl
  | [.lst ds] => match intsOf ds with
    | some (n :: ns) => fzI (maxI (n :: ns))
    | _ => none
  | _ => none
section
variable {K : PySem.W.Frag}
theorem opN_max2 : OpN K (fun xs H Q => ∃ i j, xs = [.int i, .int j] ∧ Q (.int (if j > i then j else i)) H) gMax2 := fun F H vs ds s Q l v q k => by
  unfold gMax2 at q
  split at q
  · cases q
    obtain ⟨x, y, rfl, w, w2⟩ := v.two
    exact ⟨_, _, by rw [w.int, w2.int], k _ _ _ (New.same l (.int _))⟩
  · cases q
theorem rep_ints {F : Hp} : ∀ {ds : List D} {ns : List Int} {vs : List V}, intsOf ds = some ns → RepL K F vs ds → vs = ns.map V.int
  | [], ns, vs, h, r => by
    cases h; cases r; rfl
  | d :: ds, ns, vs, h, r => by
    cases r with
    | cons r1 r2 =>
      cases d with
      | int i =>
        simp only [intsOf] at h
        cases e : intsOf ds with
        | none => rw [e] at h; cases h
        | some ms =>
          rw [e] at h
          cases h
          cases r1
          rw [rep_ints e r2]; rfl
      | _ => cases h
theorem opN_maxL : OpN K (rMax K) gMaxL := fun F H vs ds s Q l v q k => by
  unfold gMaxL at q
  split at q
  · rename_i ds
    split at q
    · rename_i n ns e
      cases q
      obtain ⟨x, rfl, w⟩ := v.one
      obtain ⟨a, ws, rfl, h1, h2⟩ := w.lst l
      have e2 := rep_ints e h2
      subst e2
      refine ⟨a, n :: ns, rfl, SqL.of h1, by simp, fun m hm hb => ?_⟩
      have e3 : m = maxI (n :: ns) := Int.le_antisymm (maxI_le hm) (hb _ (maxI_mem (by simp)))
      subst e3
      exact k _ _ _ (New.same l (.int _))
    · cases q
  · cases q
def gMaxA : List D → Option Sl := orN gMax2 gMaxL
end
section
variable {X : Cx} {e e2 : Expr} {o o2 : Opd} {p pos : Pos}
theorem v_max1 (hc : X.calm = true) (hm : X.mg "max" = none) (ha : VO X e o) (hg : Gl X "max" := by rfl) (hs : starEach [e] X.env = (false, eval e X.env) :: starEach [] X.env := by rfl) : VE X (.Call (.Name "max" p) [e] [] pos) (fOpN gMaxA [o]) :=
  ve_callB ((call_max2 hc).or (cr_max hc)) (opN_max2.or opN_maxL) hg hm (by decide +kernel) (va_cons ha va_nil hs) (he := hs)
theorem v_max2 (hc : X.calm = true) (hm : X.mg "max" = none) (ha : VO X e o) (hb : VO X e2 o2) (hg : Gl X "max" := by rfl)
    (hs : starEach (e :: [e2]) X.env = (false, eval e X.env) :: starEach [e2] X.env := by rfl) (hs2 : starEach [e2] X.env = (false, eval e2 X.env) :: starEach [] X.env := by rfl)
    (hpl : (backTo pos (starEach [e2] X.env)).any (·.1) = false := by rfl) : VE X (.Call (.Name "max" p) [e, e2] [] pos) (fOpN gMaxA [o, o2]) :=
  ve_callB ((call_max2 hc).or (cr_max hc)) (opN_max2.or opN_maxL) hg hm (by decide +kernel) (va_cons ha (va_cons hb va_nil hs2) hs) (he := hs) (hpl := hpl)
end
end VI

/-! What a meaning comes to: plain predicates over slots. -/
namespace VI
open PySem PySem.Spec PyProof.Rows L2

def wg {α : Type} (o : Option α) (Q : α → Prop) : Prop := match o with
  | some a => Q a
  | none => False
@[simp] theorem wg_some {α : Type} {a : α} {Q : α → Prop} : wg (some a) Q ↔ Q a := Iff.rfl
@[simp] theorem wg_none {α : Type} {Q : α → Prop} : wg (none : Option α) Q ↔ False := Iff.rfl
@[simp] theorem wg_pure {α : Type} {a : α} {Q : α → Prop} : wg (pure a : Option α) Q ↔ Q a := Iff.rfl
theorem wg_out {α : Type} {o : Option α} {Q : α → Prop} (h : wg o Q) : ∃ a, o = some a ∧ Q a := by
  cases o with
  | none => exact h.elim
  | some a => exact ⟨a, rfl, h⟩
theorem wg_in {α : Type} {o : Option α} {Q : α → Prop} {a : α} (e : o = some a) (h : Q a) : wg o Q := by subst e; exact h
@[simp] theorem wg_bind {α β : Type} {o : Option α} {f : α → Option β} {Q : β → Prop} : wg (o >>= f) Q ↔ wg o fun a => wg (f a) Q := by
  cases o with
  | none => exact Iff.rfl
  | some a => exact Iff.rfl
@[simp] theorem wg_bind' {α β : Type} {o : Option α} {f : α → Option β} {Q : β → Prop} : wg (o.bind f) Q ↔ wg o fun a => wg (f a) Q := by
  cases o with
  | none => exact Iff.rfl
  | some a => exact Iff.rfl
@[simp] theorem wg_map {α β : Type} {o : Option α} {f : α → β} {Q : β → Prop} : wg (o.map f) Q ↔ wg o fun a => Q (f a) := by
  cases o with
  | none => exact Iff.rfl
  | some a => exact Iff.rfl
theorem wg_mono {α : Type} {o : Option α} {P Q : α → Prop} (h : wg o P) (k : ∀ a, P a → Q a) : wg o Q := by
  cases o with
  | none => exact h.elim
  | some a => exact k a h
theorem wg_ite {α : Type} {c : Prop} [Decidable c] {a b : Option α} {Q : α → Prop} : wg (if c then a else b) Q ↔ if c then wg a Q else wg b Q := by
  split <;> exact Iff.rfl
@[simp] theorem wg_gate {α : Type} {c : Prop} [Decidable c] {a : Option α} {Q : α → Prop} : wg (if c then a else none) Q ↔ c ∧ wg a Q := by
  by_cases h : c
  · rw [if_pos h]; exact ⟨fun x => ⟨h, x⟩, fun x => x.2⟩
  · rw [if_neg h]; exact ⟨fun x => x.elim, fun x => (h x.1).elim⟩
theorem wg_congr {α : Type} {o : Option α} {P Q : α → Prop} (h : ∀ a, P a ↔ Q a) : wg o P ↔ wg o Q := by
  cases o with
  | none => exact Iff.rfl
  | some a => exact h a

def wE (f : ME) (ρ : Rho) (Q : Sl → Rho → Prop) : Prop := wg (f ρ) fun x => Q x.1 x.2
def wT (f : MT) (ρ : Rho) (Q : Bool → Rho → Prop) : Prop := wg (f ρ) fun x => Q x.1 x.2
def wO (o : Opd) (ρ : Rho) (Q : Pk → Rho → Prop) : Prop := wg (evalO o ρ) fun x => Q x.1 x.2
def wOs (o : List Opd) (ρ : Rho) (Q : List Pk → Rho → Prop) : Prop := wg (evalOs o ρ) fun x => Q x.1 x.2
def wZ (o : List ME) (ρ : Rho) (Q : List D → Rho → Prop) : Prop := wg (evalZ o ρ) fun x => Q x.1 x.2
def wP (p : MP) (ρ : Rho) (Q : Option Int → Rho → Prop) : Prop := wg (evalP p ρ) fun x => Q x.1 x.2
def wS (g : MS) (ρ : Rho) (Q : Fl → Rho → Prop) : Prop := wg (g ρ) fun x => Q x.1 x.2
def wM (m : FnM) (as : List Sl) (Q : Sl → List Sl → Prop) : Prop := wg (m as) fun x => Q x.1 x.2
/-- what a slot shows -/
def at_ (ρ : Rho) (i : Nat) (Q : Sl → Prop) : Prop := match ρ[i]? with
  | some (some s) => Q s
  | _ => False
/-- by a slot's mode -/
def nq (s : Sl) (p q : Prop) : Prop := match s.m with
  | .fz => p
  | .own => q
  | _ => False
theorem nq_iff {s : Sl} {p q : Prop} : nq s p q ↔ (s.m = .fz ∧ p) ∨ (s.m = .own ∧ q) := by
  unfold nq; cases s.m <;> simp
@[simp] theorem nq_f {d : D} {p q : Prop} : nq ⟨.fz, d⟩ p q ↔ p := Iff.rfl
@[simp] theorem nq_o {d : D} {p q : Prop} : nq ⟨.own, d⟩ p q ↔ q := Iff.rfl
@[simp] theorem nq_p {d : D} {p q : Prop} : nq ⟨.par, d⟩ p q ↔ False := Iff.rfl
@[simp] theorem nq_l {d : D} {p q : Prop} : nq ⟨.lent, d⟩ p q ↔ False := Iff.rfl
/-- a truth -/
def bq (r : Sl) (K : Bool → Prop) : Prop := match r with
  | ⟨.fz, .bl b⟩ => K b
  | _ => False
theorem bq_iff {r : Sl} {K : Bool → Prop} : bq r K ↔ ∃ b, r = ⟨.fz, .bl b⟩ ∧ K b := by
  obtain ⟨m, d⟩ := r
  cases m <;> cases d <;> simp [bq]
@[simp] theorem bq_b {b : Bool} {K : Bool → Prop} : bq ⟨.fz, .bl b⟩ K ↔ K b := Iff.rfl
/-- an int -/
def iq (r : Sl) (K : Int → Prop) : Prop := match r with
  | ⟨.fz, .int b⟩ => K b
  | _ => False
theorem iq_iff {r : Sl} {K : Int → Prop} : iq r K ↔ ∃ b, r = ⟨.fz, .int b⟩ ∧ K b := by
  obtain ⟨m, d⟩ := r
  cases m <;> cases d <;> simp [iq]
@[simp] theorem iq_i {b : Int} {K : Int → Prop} : iq ⟨.fz, .int b⟩ K ↔ K b := Iff.rfl
section
variable {ρ : Rho} {Q : Sl → Rho → Prop} {QT : Bool → Rho → Prop} {QO : Pk → Rho → Prop} {QL : List Pk → Rho → Prop} {QZ : List D → Rho → Prop} {QP : Option Int → Rho → Prop} {QS : Fl → Rho → Prop}
theorem wE_mono {f : ME} {Q' : Sl → Rho → Prop} (h : wE f ρ Q) (k : ∀ r ρ, Q r ρ → Q' r ρ) : wE f ρ Q' := wg_mono h fun _ => k _ _
theorem wS_mono {f : MS} {Q' : Fl → Rho → Prop} (h : wS f ρ QS) (k : ∀ r ρ, QS r ρ → Q' r ρ) : wS f ρ Q' := wg_mono h fun _ => k _ _
theorem wM_mono {m : FnM} {as : List Sl} {Q Q' : Sl → List Sl → Prop} (h : wM m as Q) (k : ∀ r o, Q r o → Q' r o) : wM m as Q' := wg_mono h fun _ => k _ _
theorem w_C {d : D} : wE (fC d) ρ Q ↔ Q ⟨.fz, d⟩ ρ := by exact Iff.rfl
theorem w_name {i : Nat} : wE (fName i) ρ Q ↔ at_ ρ i fun s => nq s (Q s ρ) (Q ⟨.fz, s.d⟩ (ρ.set i (some ⟨.fz, s.d⟩))) := by
  simp only [nq_iff]
  unfold wE fName at_
  cases e : ρ[i]? with
  | none => simp
  | some x =>
    cases x with
    | none => simp
    | some s => obtain ⟨m, d⟩ := s; cases m <;> simp
theorem w_sl {i : Nat} : wO (.sl i) ρ QO ↔ at_ ρ i fun _ => QO (.sl i) ρ := by
  unfold wO at_
  simp only [evalO]
  cases e : ρ[i]? with
  | none => simp
  | some x => cases x <;> simp
theorem w_ex {f : ME} : wO (.ex f) ρ QO ↔ wE f ρ fun r ρ' => QO (.vl r.d) ρ' := by
  unfold wO wE
  simp only [evalO]
  cases e : f ρ with
  | none => exact Iff.rfl
  | some x => exact Iff.rfl
theorem w_op2 {g : D → D → Option Sl} {a b : Opd} : wE (fOp2 g a b) ρ Q ↔ wO a ρ fun pa ρ1 => wO b ρ1 fun pb ρ2 => wg (look pa ρ2) fun d => wg (look pb ρ2) fun e => wg (g d e) fun s => Q s ρ2 := by
  unfold wE fOp2 wO; simp only [wg_bind, wg_bind']; exact Iff.rfl
theorem w_op1 {g : D → Option Sl} {a : Opd} : wE (fOp1 g a) ρ Q ↔ wO a ρ fun pa ρ1 => wg (look pa ρ1) fun d => wg (g d) fun s => Q s ρ1 := by
  unfold wE fOp1 wO; simp only [wg_bind, wg_bind']; exact Iff.rfl
theorem w_opN {g : List D → Option Sl} {os : List Opd} : wE (fOpN g os) ρ Q ↔ wOs os ρ fun pks ρ1 => wg (looks ρ1 pks) fun ds => wg (g ds) fun s => Q s ρ1 := by
  unfold wE fOpN wOs; simp only [wg_bind, wg_bind']; exact Iff.rfl
theorem w_nil : wOs [] ρ QL ↔ QL [] ρ := by exact Iff.rfl
theorem w_cons {o : Opd} {os : List Opd} : wOs (o :: os) ρ QL ↔ wO o ρ fun pk ρ1 => wOs os ρ1 fun pks ρ2 => QL (pk :: pks) ρ2 := by
  unfold wOs; simp only [evalOs]; unfold wO; simp only [wg_bind]; exact Iff.rfl
theorem w_disp {g : List D → Option Sl} {fs : List ME} : wE (fDisp g fs) ρ Q ↔ wZ fs ρ fun ds ρ1 => wg (g ds) fun s => Q s ρ1 := by
  unfold wE fDisp wZ; simp only [wg_bind, wg_bind']; exact Iff.rfl
theorem w_znil : wZ [] ρ QZ ↔ QZ [] ρ := by exact Iff.rfl
theorem w_zcons {f : ME} {fs : List ME} : wZ (f :: fs) ρ QZ ↔ wE f ρ fun r ρ1 => wZ fs ρ1 fun ds ρ2 => QZ (r.d :: ds) ρ2 := by
  unfold wZ; simp only [evalZ]; unfold wE; simp only [wg_bind]; exact Iff.rfl
theorem w_pnone : wP none ρ QP ↔ QP none ρ := by exact Iff.rfl
theorem w_psome {f : ME} : wP (some f) ρ QP ↔ wE f ρ fun r ρ1 => iq r fun i => QP (some i) ρ1 := by
  simp only [iq_iff]
  unfold wP wE
  simp only [evalP]
  cases e : f ρ with
  | none => exact Iff.rfl
  | some x =>
    obtain ⟨⟨m, d⟩, ρ1⟩ := x
    cases m <;> cases d <;> simp
theorem w_cut {g : D → Option Int → Option Int → Option Sl} {a : Opd} {lo hi : MP} : wE (fSl g a lo hi) ρ Q ↔ wO a ρ fun pk ρ1 => wP lo ρ1 fun l ρ2 => wP hi ρ2 fun h ρ3 => wg (look pk ρ3) fun d => wg (g d l h) fun s => Q s ρ3 := by
  unfold wE fSl wO wP; simp only [wg_bind, wg_bind']; exact Iff.rfl
theorem w_m1 {g : D → D → Option Sl} {a b : Opd} : wE (fM1 g a b) ρ Q ↔ wO a ρ fun pa ρ1 => wg (look pa ρ1) fun d0 => isS d0 = true ∧ wO b ρ1 fun pb ρ2 => wg (look pa ρ2) fun d => wg (look pb ρ2) fun e => wg (g d e) fun s => Q s ρ2 := by
  unfold wE fM1 wO
  simp only [wg_bind]
  refine wg_congr fun x => ?_
  refine wg_congr fun d => ?_
  refine Iff.trans wg_gate (and_congr Iff.rfl ?_)
  simp only [wg_bind]
  exact Iff.rfl
theorem w_call {m : FnM} {os : List Opd} : wE (fCall m os) ρ Q ↔ wOs os ρ fun pks ρ1 => wg (argsOf ρ1 pks) fun as => nodupS ρ1 pks = true ∧ wM m as fun r o => Q r (wb pks o ρ1) := by
  unfold wE fCall wOs wM
  simp only [wg_bind]
  refine wg_congr fun x => ?_
  refine wg_congr fun d => ?_
  refine Iff.trans wg_gate (and_congr Iff.rfl ?_)
  simp only [wg_bind]
  exact Iff.rfl
theorem w_mut {i : Nat} {ty : D → Bool} {g : D → List D → Option (D × D)} {fs : List ME} : wE (fMut i ty g fs) ρ Q ↔ at_ ρ i fun s => ty s.d = true ∧ wZ fs ρ fun ds ρ1 => at_ ρ1 i fun s1 => s1.m.wr = true ∧ wg (g s1.d ds) fun y => Q ⟨.fz, y.2⟩ (ρ1.set i (some ⟨s1.m, y.1⟩)) := by
  unfold wE fMut at_ wZ
  cases e : ρ[i]? with
  | none => simp
  | some x =>
    cases x with
    | none => simp
    | some s =>
      simp only
      by_cases h : ty s.d = true
      · simp only [h, if_true, true_and]
        cases e2 : evalZ fs ρ with
        | none => simp
        | some z =>
          simp only [Option.bind_some, wg_some]
          cases e3 : z.2[i]? with
          | none => simp
          | some y =>
            cases y with
            | none => simp
            | some t =>
              simp only
              by_cases h2 : t.m.wr = true
              · simp [h2, wg_map]
              · simp [h2]
      · simp [h]
theorem w_andV {f g : ME} : wE (fAndV f g) ρ Q ↔ wE f ρ fun r ρ1 => bq r fun b => if b = true then wE g ρ1 Q else Q ⟨.fz, .bl false⟩ ρ1 := by
  simp only [bq_iff]
  unfold fAndV
  show wg (match f ρ with | some (⟨.fz, .bl true⟩, ρ1) => g ρ1 | some (⟨.fz, .bl false⟩, ρ1) => some (⟨.fz, .bl false⟩, ρ1) | _ => none) _ ↔ wg (f ρ) _
  cases e : f ρ with
  | none => simp
  | some x =>
    obtain ⟨⟨m, d⟩, ρ1⟩ := x
    cases m <;> cases d <;> simp [wE]
    rename_i b; cases b <;> simp
theorem w_orV {f g : ME} : wE (fOrV f g) ρ Q ↔ wE f ρ fun r ρ1 => bq r fun b => if b = true then Q ⟨.fz, .bl true⟩ ρ1 else wE g ρ1 Q := by
  simp only [bq_iff]
  unfold fOrV
  show wg (match f ρ with | some (⟨.fz, .bl true⟩, ρ1) => some (⟨.fz, .bl true⟩, ρ1) | some (⟨.fz, .bl false⟩, ρ1) => g ρ1 | _ => none) _ ↔ wg (f ρ) _
  cases e : f ρ with
  | none => simp
  | some x =>
    obtain ⟨⟨m, d⟩, ρ1⟩ := x
    cases m <;> cases d <;> simp [wE]
    rename_i b; cases b <;> simp
theorem w_notV {f : ME} : wE (fNotV f) ρ Q ↔ wE f ρ fun r ρ1 => bq r fun b => Q ⟨.fz, .bl (!b)⟩ ρ1 := by
  simp only [bq_iff]
  unfold wE fNotV
  cases e : f ρ with
  | none => exact Iff.rfl
  | some x =>
    obtain ⟨⟨m, d⟩, ρ1⟩ := x
    cases m <;> cases d <;> simp
    rename_i b; cases b <;> simp
theorem w_if {t : MT} {f g : ME} : wE (fIf t f g) ρ Q ↔ wT t ρ fun b ρ1 => if b = true then wE f ρ1 Q else wE g ρ1 Q := by
  unfold wE fIf wT
  cases e : t ρ with
  | none => simp
  | some x => obtain ⟨b, ρ1⟩ := x; cases b <;> simp
/-! tests -/
theorem w_T {f : ME} : wT (fT f) ρ QT ↔ wE f ρ fun r ρ1 => bq r fun b => QT b ρ1 := by
  simp only [bq_iff]
  unfold wT wE fT
  cases e : f ρ with
  | none => exact Iff.rfl
  | some x =>
    obtain ⟨⟨m, d⟩, ρ1⟩ := x
    cases m <;> cases d <;> simp
    rename_i b; cases b <;> simp
theorem w_and {f g : MT} : wT (fAnd f g) ρ QT ↔ wT f ρ fun b ρ1 => if b = true then wT g ρ1 QT else QT false ρ1 := by
  unfold wT fAnd
  cases e : f ρ with
  | none => simp
  | some x => obtain ⟨b, ρ1⟩ := x; cases b <;> simp
theorem w_or {f g : MT} : wT (fOr f g) ρ QT ↔ wT f ρ fun b ρ1 => if b = true then QT true ρ1 else wT g ρ1 QT := by
  unfold wT fOr
  cases e : f ρ with
  | none => simp
  | some x => obtain ⟨b, ρ1⟩ := x; cases b <;> simp
theorem w_not {f : MT} : wT (fNot f) ρ QT ↔ wT f ρ fun b ρ1 => QT (!b) ρ1 := by
  unfold wT fNot
  cases e : f ρ with
  | none => simp
  | some x => simp
theorem w_yes : wT fYes ρ QT ↔ QT true ρ := by exact Iff.rfl
/-! statements -/
theorem w_next : wS fNext ρ QS ↔ QS .nx ρ := by exact Iff.rfl
theorem w_seq {g h : MS} : wS (fSeq g h) ρ QS ↔ wS g ρ fun fl ρ1 => match fl with | .nx => wS h ρ1 QS | .bk => QS .bk ρ1 | .ct => QS .ct ρ1 | .rt r => QS (.rt r) ρ1 := by
  unfold wS fSeq
  cases e : g ρ with
  | none => simp
  | some x => obtain ⟨fl, ρ1⟩ := x; cases fl <;> simp
theorem w_expr {f : ME} : wS (fExpr f) ρ QS ↔ wE f ρ fun _ ρ1 => QS .nx ρ1 := by
  unfold wS fExpr wE
  cases e : f ρ with
  | none => simp
  | some x => simp
theorem w_ret {f : ME} : wS (fRet f) ρ QS ↔ wE f ρ fun r ρ1 => QS (.rt r) ρ1 := by
  unfold wS fRet wE
  cases e : f ρ with
  | none => simp
  | some x => simp
theorem w_ret0 : wS fRet0 ρ QS ↔ QS (.rt ⟨.fz, .non⟩) ρ := by exact Iff.rfl
theorem w_retN {i : Nat} : wS (fRetN i) ρ QS ↔ at_ ρ i fun s => nq s (QS (.rt s) ρ) (QS (.rt s) (ρ.set i none)) := by
  simp only [nq_iff]
  unfold wS fRetN at_
  cases e : ρ[i]? with
  | none => simp
  | some x =>
    cases x with
    | none => simp
    | some s => obtain ⟨m, d⟩ := s; cases m <;> simp
theorem w_ifS {t : MT} {g h : MS} : wS (fIfS t g h) ρ QS ↔ wT t ρ fun b ρ1 => if b = true then wS g ρ1 QS else wS h ρ1 QS := by
  unfold wS fIfS wT
  cases e : t ρ with
  | none => simp
  | some x => obtain ⟨b, ρ1⟩ := x; cases b <;> simp
theorem w_asg {i : Nat} {f : ME} : wS (fAsg i f) ρ QS ↔ wE f ρ fun r ρ1 => free ρ1 i = true ∧ QS .nx (ρ1.set i (some r)) := by
  unfold wS fAsg wE
  cases e : f ρ with
  | none => simp
  | some x =>
    simp only [wg_some]
    by_cases h : free x.2 i = true
    · simp [h]
    · simp [h]
theorem w_bind {b : MG} {f : ME} : wS (fBind b f) ρ QS ↔ wE f ρ fun r ρ1 => wg (b r.d ρ1) fun ρ2 => QS .nx ρ2 := by
  unfold wS fBind wE
  cases e : f ρ with
  | none => simp
  | some x =>
    simp only [wg_some]
    cases e2 : b x.1.d x.2 with
    | none => simp
    | some y => simp
theorem w_set {i : Nat} {g : D → D → D → Option D} {fk fv : ME} : wS (fSet i g fk fv) ρ QS ↔ wE fv ρ fun rv ρ1 => at_ ρ1 i fun _ => wE fk ρ1 fun rk ρ2 => at_ ρ2 i fun s => s.m.wr = true ∧ wg (g s.d rk.d rv.d) fun d' => QS .nx (ρ2.set i (some ⟨s.m, d'⟩)) := by
  unfold wS fSet wE at_
  simp only [wg_bind]
  cases e : fv ρ with
  | none => simp
  | some x =>
    simp only [wg_some]
    cases e1 : x.2[i]? with
    | none => simp
    | some z =>
      cases z with
      | none => simp
      | some s0 =>
        simp only
        cases e2 : fk x.2 with
        | none => simp
        | some y =>
          simp only [wg_some]
          cases e3 : y.2[i]? with
          | none => simp
          | some z =>
            cases z with
            | none => simp
            | some t =>
              simp only
              by_cases h2 : t.m.wr = true
              · simp [h2, wg_map]
              · simp [h2]
theorem w_par {i j : Nat} {f g : ME} : wS (fPar i j f g) ρ QS ↔ wE f ρ fun r ρ1 => wE g ρ1 fun s ρ2 => free ρ2 i = true ∧ free ρ2 j = true ∧ QS .nx ((ρ2.set i (some r)).set j (some s)) := by
  unfold wS fPar wE
  simp only [wg_bind]
  cases e : f ρ with
  | none => simp
  | some x =>
    simp only [wg_some]
    cases e2 : g x.2 with
    | none => simp
    | some y =>
      simp only [wg_some]
      by_cases h : free y.2 i = true ∧ free y.2 j = true
      · rw [if_pos h]; simp [h.1, h.2]
      · rw [if_neg h]
        simp only [wg_none, false_iff]
        exact fun z => h ⟨z.1, z.2.1⟩
theorem w_for {it : D → Option (List D)} {src : Opd} {b : MG} {body : MS} : wS (fFor it src b body) ρ QS ↔ wO src ρ fun pk ρ1 => wg (look pk ρ1) fun d => wg (it d) fun ds => wS (loopM b body ds) (lend pk ρ1) fun fl ρ2 => QS fl (back pk ρ1 ρ2) := by
  unfold wS fFor wO; simp only [wg_bind, wg_bind']; exact Iff.rfl
theorem w_forN {g : List D → Option (List D)} {os : List Opd} {b : MG} {body : MS} : wS (fForN g os b body) ρ QS ↔ wOs os ρ fun pks ρ1 => wg (looks ρ1 pks) fun es => wg (g es) fun ds => wS (loopM b body ds) ρ1 QS := by
  unfold wS fForN wOs; simp only [wg_bind, wg_bind', wg_pure]
theorem w_comp {it : D → Option (List D)} {src : Opd} {is : List Nat} {b : MG} {t : MT} {f : ME} : wE (fComp it src is b t f) ρ Q ↔ wO src ρ fun pk ρ1 => wg (look pk ρ1) fun d => wg (it d) fun ds => is.all (free (lend pk ρ1)) = true ∧
    wg (compM is b t f ds [] (wipeR (lend pk ρ1) is)) fun x => x.1.length ≤ sizeLine ∧ Q ⟨.own, .lst x.1⟩ (back pk ρ1 x.2) := by
  unfold wE fComp wO
  simp only [wg_bind, wg_bind']
  refine wg_congr fun x => ?_
  refine wg_congr fun d => wg_congr fun ds => ?_
  refine Iff.trans wg_gate (and_congr Iff.rfl ?_)
  simp only [wg_bind, wg_bind']
  refine wg_congr fun y => ?_
  refine Iff.trans wg_gate (and_congr Iff.rfl ?_)
  exact Iff.rfl
theorem w_compN {g : List D → Option (List D)} {os : List Opd} {is : List Nat} {b : MG} {t : MT} {f : ME} : wE (fCompN g os is b t f) ρ Q ↔ wOs os ρ fun pks ρ1 => wg (looks ρ1 pks) fun es => wg (g es) fun ds => is.all (free ρ1) = true ∧
    wg (compM is b t f ds [] (wipeR ρ1 is)) fun x => x.1.length ≤ sizeLine ∧ Q ⟨.own, .lst x.1⟩ x.2 := by
  unfold wE fCompN wOs
  simp only [wg_bind, wg_bind']
  refine wg_congr fun x => ?_
  refine wg_congr fun d => wg_congr fun ds => ?_
  refine Iff.trans wg_gate (and_congr Iff.rfl ?_)
  simp only [wg_bind, wg_bind']
  refine wg_congr fun y => ?_
  refine Iff.trans wg_gate (and_congr Iff.rfl ?_)
  exact Iff.rfl
end
/-! ### loops by what holds between two turns -/
theorem w_loop {b : MG} {body : MS} {QS : Fl → Rho → Prop} (I : Nat → Rho → Prop) : ∀ {ds : List D} {k : Nat} {ρ : Rho}, I k ρ →
    (∀ (j : Nat) (d : D) ρ, ds[j]? = some d → I (k + j) ρ → wg (b d ρ) fun ρ1 => wS body ρ1 fun fl ρ2 => match fl with | .nx => I (k + j + 1) ρ2 | .ct => I (k + j + 1) ρ2 | .bk => QS .nx ρ2 | .rt r => QS (.rt r) ρ2) →
    (∀ ρ, I (k + ds.length) ρ → QS .nx ρ) → wS (loopM b body ds) ρ QS
  | [], k, ρ, h, _, hd => by exact hd ρ h
  | d :: ds, k, ρ, h, hs, hd => by
    obtain ⟨ρ1, e1, q⟩ := wg_out (hs 0 d ρ rfl h)
    obtain ⟨⟨fl, ρ2⟩, e2, q⟩ := wg_out q
    have again : ∀ ρ2, I (k + 1) ρ2 → wS (loopM b body ds) ρ2 QS := fun ρ2 h2 => w_loop I (k := k + 1) h2 (fun j d' ρ' hj hi => by
      have := hs (j + 1) d' ρ' (by simpa using hj) (by rw [show k + (j + 1) = k + 1 + j by omega]; exact hi)
      rw [show k + (j + 1) + 1 = k + 1 + j + 1 by omega] at this
      exact this) (fun ρ' hi => hd ρ' (by rw [List.length_cons, show k + (ds.length + 1) = k + 1 + ds.length by omega]; exact hi))
    unfold wS
    simp only [loopM, e1, e2]
    cases fl with
    | nx => exact again ρ2 q
    | ct => exact again ρ2 q
    | bk => simpa using q
    | rt r => simpa using q
theorem w_compI {is : List Nat} {b : MG} {t : MT} {f : ME} {Q : List D × Rho → Prop} (I : Nat → List D → Rho → Prop) : ∀ {ds acc : List D} {k : Nat} {ρ : Rho}, I k acc ρ →
    (∀ (j : Nat) (d : D) acc ρ, ds[j]? = some d → I (k + j) acc ρ → wg (b d ρ) fun ρ1 => wT t ρ1 fun c ρ2 => if c = true then wE f ρ2 fun r ρ3 => I (k + j + 1) (acc ++ [r.d]) (wipeR ρ3 is) else I (k + j + 1) acc (wipeR ρ2 is)) →
    (∀ acc ρ, I (k + ds.length) acc ρ → Q (acc, ρ)) → wg (compM is b t f ds acc ρ) Q
  | [], acc, k, ρ, h, _, hd => by exact hd acc ρ h
  | d :: ds, acc, k, ρ, h, hs, hd => by
    obtain ⟨ρ1, e1, q⟩ := wg_out (hs 0 d acc ρ rfl h)
    obtain ⟨⟨c, ρ2⟩, e2, q⟩ := wg_out q
    have again : ∀ acc ρ2, I (k + 1) acc ρ2 → wg (compM is b t f ds acc ρ2) Q := fun acc ρ2 h2 => w_compI I (k := k + 1) h2 (fun j d' acc' ρ' hj hi => by
      have := hs (j + 1) d' acc' ρ' (by simpa using hj) (by rw [show k + (j + 1) = k + 1 + j by omega]; exact hi)
      rw [show k + (j + 1) + 1 = k + 1 + j + 1 by omega] at this
      exact this) (fun acc' ρ' hi => hd acc' ρ' (by rw [List.length_cons, show k + (ds.length + 1) = k + 1 + ds.length by omega]; exact hi))
    simp only [compM, wg_bind, e1, e2, wg_some]
    cases c with
    | true =>
      obtain ⟨⟨r, ρ3⟩, e3, q⟩ := wg_out q
      simp only [if_true, wg_bind, e3, wg_some]
      exact again _ _ q
    | false => exact again _ _ q
theorem w_while {t : MT} {body : MS} {QS : Fl → Rho → Prop} (I : Nat → Rho → Prop) : ∀ {n m : Nat} {ρ : Rho}, m < n → I m ρ →
    (∀ m ρ, I m ρ → wT t ρ fun c ρ1 => if c = true then wS body ρ1 fun fl ρ2 => match fl with | .nx => ∃ m', m' < m ∧ I m' ρ2 | .ct => ∃ m', m' < m ∧ I m' ρ2 | .bk => QS .nx ρ2 | .rt r => QS (.rt r) ρ2 else QS .nx ρ1) → wS (whileM t body n) ρ QS
  | 0, m, ρ, h, _, _ => absurd h (Nat.not_lt_zero _)
  | n + 1, m, ρ, h, hi, hs => by
    obtain ⟨⟨c, ρ1⟩, e1, q⟩ := wg_out (hs m ρ hi)
    unfold wS
    simp only [whileM, e1]
    cases c with
    | false => simpa using q
    | true =>
      obtain ⟨⟨fl, ρ2⟩, e2, q⟩ := wg_out q
      simp only [e2]
      cases fl with
      | nx => obtain ⟨m', hm, hi'⟩ := q; exact w_while I (by omega) hi' hs
      | ct => obtain ⟨m', hm, hi'⟩ := q; exact w_while I (by omega) hi' hs
      | bk => simpa using q
      | rt r => simpa using q
/-- a def -/
theorem w_fn {n : Nat} {g : MS} {as : List Sl} {Q : Sl → List Sl → Prop} : wM (fnM n g) as Q ↔ wS g (as.map some ++ List.replicate n none) fun fl ρ => match fl with | .rt r => Q r (outs ρ 0 as) | .nx => Q ⟨.fz, .non⟩ (outs ρ 0 as) | _ => False := by
  unfold wM fnM wS
  cases e : g (as.map some ++ List.replicate n none) with
  | none => simp
  | some x => obtain ⟨fl, ρ⟩ := x; cases fl <;> simp
@[simp] theorem at_z {s : Sl} {ρ : Rho} {Q : Sl → Prop} : at_ (some s :: ρ) 0 Q ↔ Q s := Iff.rfl
@[simp] theorem at_n {ρ : Rho} {Q : Sl → Prop} : at_ (none :: ρ) 0 Q ↔ False := Iff.rfl
@[simp] theorem at_s {x : Option Sl} {ρ : Rho} {i : Nat} {Q : Sl → Prop} : at_ (x :: ρ) (i + 1) Q ↔ at_ ρ i Q := Iff.rfl
theorem w_aug {ρ : Rho} {QS : Fl → Rho → Prop} {i : Nat} {k : Int} {g : D → D → Option Sl} {fv : ME} : wS (fAugC i k g fv) ρ QS ↔
    at_ ρ i fun s => wg (gIxL s.d (.int k)) fun old => wE fv ρ fun rv ρ2 => wg (g old.d rv.d) fun new => at_ ρ2 i fun s2 => (s2.m.wr = true ∧ new.m = .fz) ∧ wg (gSetL s2.d (.int k) new.d) fun d' => QS .nx (ρ2.set i (some ⟨s2.m, d'⟩)) := by
  unfold wS fAugC fAug at_ wE fC
  cases e : ρ[i]? with
  | none => simp only [e]; exact Iff.rfl
  | some x =>
    cases x with
    | none => simp only [e]; exact Iff.rfl
    | some s =>
      simp only [e]
      show wg (_ >>= _) _ ↔ _
      rw [wg_bind]
      show wg (_ >>= _) _ ↔ _
      rw [wg_bind]
      simp only [e]
      refine wg_congr fun old => ?_
      rw [wg_bind]
      refine wg_congr fun rv => ?_
      show wg (_ >>= _) _ ↔ _
      rw [wg_bind]
      refine wg_congr fun new => ?_
      cases e3 : rv.2[i]? with
      | none => simp only [e3]; exact Iff.rfl
      | some y =>
        cases y with
        | none => simp only [e3]; exact Iff.rfl
        | some t => simp only [e3]; rw [wg_gate, wg_map]
theorem w_mix {ρ : Rho} {QS : Fl → Rho → Prop} {i b : Nat} {k : Int} {f g : ME} : wS (fMix i b k f g) ρ QS ↔
    wE f ρ fun r1 ρ1 => wE g ρ1 fun r2 ρ2 => wg (bindN i r1.d ρ2) fun ρ3 => at_ ρ3 b fun s => s.m.wr = true ∧ wg (gSetL s.d (.int k) r2.d) fun d' => QS .nx (ρ3.set b (some ⟨s.m, d'⟩)) := by
  have h : wS (fMix i b k f g) ρ QS ↔ wZ [f, g] ρ fun ds ρ1 => wg (match ds with
      | [d1, d2] => (bindN i d1 ρ1).bind fun ρ2 => match ρ2[b]? with
        | some (some ⟨m, d⟩) => if m.wr = true then (gSetL d (.int k) d2).map fun d' => (Fl.nx, ρ2.set b (some ⟨m, d'⟩)) else none
        | _ => none
      | _ => none) fun x => QS x.1 x.2 := by
    unfold wS fMix wZ
    refine wg_bind.trans (wg_congr fun x => ?_)
    obtain ⟨ds, ρ1⟩ := x
    exact Iff.rfl
  rw [h]
  simp only [w_zcons, w_znil]
  refine wg_congr fun x => wg_congr fun y => ?_
  show wg (Option.bind _ _) _ ↔ _
  rw [wg_bind']
  refine wg_congr fun ρ3 => ?_
  unfold at_
  cases e3 : ρ3[b]? with
  | none => simp only [e3]; exact Iff.rfl
  | some y =>
    cases y with
    | none => simp only [e3]; exact Iff.rfl
    | some t => simp only [e3]; rw [wg_gate, wg_map]
/-! ### what follows is looked at behind what is ahead of it: it is handed on as an instance, which simp passes by -/
class Kt (α : Type) where
  k : α
def wgi {α : Type} (o : Option α) {Q : Kt (α → Prop)} : Prop := wg o Q.k
def wEi (f : ME) (ρ : Rho) {Q : Kt (Sl → Rho → Prop)} : Prop := wE f ρ Q.k
def wTi (f : MT) (ρ : Rho) {Q : Kt (Bool → Rho → Prop)} : Prop := wT f ρ Q.k
def wOi (f : Opd) (ρ : Rho) {Q : Kt (Pk → Rho → Prop)} : Prop := wO f ρ Q.k
def wOsi (f : List Opd) (ρ : Rho) {Q : Kt (List Pk → Rho → Prop)} : Prop := wOs f ρ Q.k
def wZi (f : List ME) (ρ : Rho) {Q : Kt (List D → Rho → Prop)} : Prop := wZ f ρ Q.k
def wPi (f : MP) (ρ : Rho) {Q : Kt (Option Int → Rho → Prop)} : Prop := wP f ρ Q.k
def wSi (f : MS) (ρ : Rho) {Q : Kt (Fl → Rho → Prop)} : Prop := wS f ρ Q.k
def wMi (f : FnM) (as : List Sl) {Q : Kt (Sl → List Sl → Prop)} : Prop := wM f as Q.k
def at_i (ρ : Rho) (i : Nat) {Q : Kt (Sl → Prop)} : Prop := at_ ρ i Q.k
def bqi (r : Sl) {Q : Kt (Bool → Prop)} : Prop := bq r Q.k
def iqi (r : Sl) {Q : Kt (Int → Prop)} : Prop := iq r Q.k
def nqi (s : Sl) {P Q : Kt Prop} : Prop := nq s P.k Q.k
@[simp ↓] theorem wg_u {α : Type} {o : Option α} {Q : α → Prop} : wg o Q ↔ wgi o (Q := ⟨Q⟩) := Iff.rfl
@[simp ↓] theorem wE_u {f : ME} {ρ : Rho} {Q : Sl → Rho → Prop} : wE f ρ Q ↔ wEi f ρ (Q := ⟨Q⟩) := Iff.rfl
@[simp ↓] theorem wT_u {f : MT} {ρ : Rho} {Q : Bool → Rho → Prop} : wT f ρ Q ↔ wTi f ρ (Q := ⟨Q⟩) := Iff.rfl
@[simp ↓] theorem wO_u {f : Opd} {ρ : Rho} {Q : Pk → Rho → Prop} : wO f ρ Q ↔ wOi f ρ (Q := ⟨Q⟩) := Iff.rfl
@[simp ↓] theorem wOs_u {f : List Opd} {ρ : Rho} {Q : List Pk → Rho → Prop} : wOs f ρ Q ↔ wOsi f ρ (Q := ⟨Q⟩) := Iff.rfl
@[simp ↓] theorem wZ_u {f : List ME} {ρ : Rho} {Q : List D → Rho → Prop} : wZ f ρ Q ↔ wZi f ρ (Q := ⟨Q⟩) := Iff.rfl
@[simp ↓] theorem wP_u {f : MP} {ρ : Rho} {Q : Option Int → Rho → Prop} : wP f ρ Q ↔ wPi f ρ (Q := ⟨Q⟩) := Iff.rfl
@[simp ↓] theorem wS_u {f : MS} {ρ : Rho} {Q : Fl → Rho → Prop} : wS f ρ Q ↔ wSi f ρ (Q := ⟨Q⟩) := Iff.rfl
@[simp ↓] theorem wM_u {f : FnM} {as : List Sl} {Q : Sl → List Sl → Prop} : wM f as Q ↔ wMi f as (Q := ⟨Q⟩) := Iff.rfl
@[simp ↓] theorem at_u {ρ : Rho} {i : Nat} {Q : Sl → Prop} : at_ ρ i Q ↔ at_i ρ i (Q := ⟨Q⟩) := Iff.rfl
@[simp ↓] theorem bq_u {r : Sl} {Q : Bool → Prop} : bq r Q ↔ bqi r (Q := ⟨Q⟩) := Iff.rfl
@[simp ↓] theorem iq_u {r : Sl} {Q : Int → Prop} : iq r Q ↔ iqi r (Q := ⟨Q⟩) := Iff.rfl
@[simp ↓] theorem nq_u {s : Sl} {P Q : Prop} : nq s P Q ↔ nqi s (P := ⟨P⟩) (Q := ⟨Q⟩) := Iff.rfl
section
variable {ρ : Rho} {Q : Sl → Rho → Prop} {QT : Bool → Rho → Prop} {QO : Pk → Rho → Prop} {QL : List Pk → Rho → Prop} {QZ : List D → Rho → Prop} {QP : Option Int → Rho → Prop} {QS : Fl → Rho → Prop}
@[simp ↓] theorem wg_some_i {α : Type} {a : α} {Q : α → Prop} : wgi (some a) (Q := ⟨Q⟩) ↔ Q a := wg_some
@[simp ↓] theorem wg_none_i {α : Type} {Q : α → Prop} : wgi (none : Option α) (Q := ⟨Q⟩) ↔ False := wg_none
@[simp ↓] theorem wg_pure_i {α : Type} {a : α} {Q : α → Prop} : wgi (pure a : Option α) (Q := ⟨Q⟩) ↔ Q a := wg_pure
@[simp ↓] theorem wg_bind_i {α β : Type} {o : Option α} {f : α → Option β} {Q : β → Prop} : wgi (o >>= f) (Q := ⟨Q⟩) ↔ wg o fun a => wg (f a) Q := wg_bind
@[simp ↓] theorem wg_bind_i' {α β : Type} {o : Option α} {f : α → Option β} {Q : β → Prop} : wgi (o.bind f) (Q := ⟨Q⟩) ↔ wg o fun a => wg (f a) Q := wg_bind
@[simp ↓] theorem wg_map_i {α β : Type} {o : Option α} {f : α → β} {Q : β → Prop} : wgi (o.map f) (Q := ⟨Q⟩) ↔ wg o fun a => Q (f a) := wg_map
@[simp ↓] theorem wg_gate_i {α : Type} {c : Prop} [Decidable c] {a : Option α} {Q : α → Prop} : wgi (if c then a else none) (Q := ⟨Q⟩) ↔ c ∧ wg a Q := wg_gate
@[simp ↓] theorem nq_f_i {d : D} {p q : Prop} : nqi ⟨.fz, d⟩ (P := ⟨p⟩) (Q := ⟨q⟩) ↔ p := nq_f
@[simp ↓] theorem nq_o_i {d : D} {p q : Prop} : nqi ⟨.own, d⟩ (P := ⟨p⟩) (Q := ⟨q⟩) ↔ q := nq_o
@[simp ↓] theorem nq_p_i {d : D} {p q : Prop} : nqi ⟨.par, d⟩ (P := ⟨p⟩) (Q := ⟨q⟩) ↔ False := nq_p
@[simp ↓] theorem nq_l_i {d : D} {p q : Prop} : nqi ⟨.lent, d⟩ (P := ⟨p⟩) (Q := ⟨q⟩) ↔ False := nq_l
@[simp ↓] theorem bq_b_i {b : Bool} {K : Bool → Prop} : bqi ⟨.fz, .bl b⟩ (Q := ⟨K⟩) ↔ K b := bq_b
@[simp ↓] theorem iq_i_i {b : Int} {K : Int → Prop} : iqi ⟨.fz, .int b⟩ (Q := ⟨K⟩) ↔ K b := iq_i
@[simp ↓] theorem w_C_i {d : D} : wEi (fC d) ρ (Q := ⟨Q⟩) ↔ Q ⟨.fz, d⟩ ρ := w_C
@[simp ↓] theorem w_name_i {i : Nat} : wEi (fName i) ρ (Q := ⟨Q⟩) ↔ at_ ρ i fun s => nq s (Q s ρ) (Q ⟨.fz, s.d⟩ (ρ.set i (some ⟨.fz, s.d⟩))) := w_name
@[simp ↓] theorem w_sl_i {i : Nat} : wOi (.sl i) ρ (Q := ⟨QO⟩) ↔ at_ ρ i fun _ => QO (.sl i) ρ := w_sl
@[simp ↓] theorem w_ex_i {f : ME} : wOi (.ex f) ρ (Q := ⟨QO⟩) ↔ wE f ρ fun r ρ' => QO (.vl r.d) ρ' := w_ex
@[simp ↓] theorem w_op2_i {g : D → D → Option Sl} {a b : Opd} : wEi (fOp2 g a b) ρ (Q := ⟨Q⟩) ↔ wO a ρ fun pa ρ1 => wO b ρ1 fun pb ρ2 => wg (look pa ρ2) fun d => wg (look pb ρ2) fun e => wg (g d e) fun s => Q s ρ2 := w_op2
@[simp ↓] theorem w_op1_i {g : D → Option Sl} {a : Opd} : wEi (fOp1 g a) ρ (Q := ⟨Q⟩) ↔ wO a ρ fun pa ρ1 => wg (look pa ρ1) fun d => wg (g d) fun s => Q s ρ1 := w_op1
@[simp ↓] theorem w_opN_i {g : List D → Option Sl} {os : List Opd} : wEi (fOpN g os) ρ (Q := ⟨Q⟩) ↔ wOs os ρ fun pks ρ1 => wg (looks ρ1 pks) fun ds => wg (g ds) fun s => Q s ρ1 := w_opN
@[simp ↓] theorem w_nil_i : wOsi [] ρ (Q := ⟨QL⟩) ↔ QL [] ρ := w_nil
@[simp ↓] theorem w_cons_i {o : Opd} {os : List Opd} : wOsi (o :: os) ρ (Q := ⟨QL⟩) ↔ wO o ρ fun pk ρ1 => wOs os ρ1 fun pks ρ2 => QL (pk :: pks) ρ2 := w_cons
@[simp ↓] theorem w_disp_i {g : List D → Option Sl} {fs : List ME} : wEi (fDisp g fs) ρ (Q := ⟨Q⟩) ↔ wZ fs ρ fun ds ρ1 => wg (g ds) fun s => Q s ρ1 := w_disp
@[simp ↓] theorem w_znil_i : wZi [] ρ (Q := ⟨QZ⟩) ↔ QZ [] ρ := w_znil
@[simp ↓] theorem w_zcons_i {f : ME} {fs : List ME} : wZi (f :: fs) ρ (Q := ⟨QZ⟩) ↔ wE f ρ fun r ρ1 => wZ fs ρ1 fun ds ρ2 => QZ (r.d :: ds) ρ2 := w_zcons
@[simp ↓] theorem w_pnone_i : wPi none ρ (Q := ⟨QP⟩) ↔ QP none ρ := w_pnone
@[simp ↓] theorem w_psome_i {f : ME} : wPi (some f) ρ (Q := ⟨QP⟩) ↔ wE f ρ fun r ρ1 => iq r fun i => QP (some i) ρ1 := w_psome
@[simp ↓] theorem w_cut_i {g : D → Option Int → Option Int → Option Sl} {a : Opd} {lo hi : MP} : wEi (fSl g a lo hi) ρ (Q := ⟨Q⟩) ↔ wO a ρ fun pk ρ1 => wP lo ρ1 fun l ρ2 => wP hi ρ2 fun h ρ3 => wg (look pk ρ3) fun d => wg (g d l h) fun s => Q s ρ3 := w_cut
@[simp ↓] theorem w_m1_i {g : D → D → Option Sl} {a b : Opd} : wEi (fM1 g a b) ρ (Q := ⟨Q⟩) ↔ wO a ρ fun pa ρ1 => wg (look pa ρ1) fun d0 => isS d0 = true ∧ wO b ρ1 fun pb ρ2 => wg (look pa ρ2) fun d => wg (look pb ρ2) fun e => wg (g d e) fun s => Q s ρ2 := w_m1
@[simp ↓] theorem w_call_i {m : FnM} {os : List Opd} : wEi (fCall m os) ρ (Q := ⟨Q⟩) ↔ wOs os ρ fun pks ρ1 => wg (argsOf ρ1 pks) fun as => nodupS ρ1 pks = true ∧ wM m as fun r o => Q r (wb pks o ρ1) := w_call
@[simp ↓] theorem w_mut_i {i : Nat} {ty : D → Bool} {g : D → List D → Option (D × D)} {fs : List ME} : wEi (fMut i ty g fs) ρ (Q := ⟨Q⟩) ↔ at_ ρ i fun s => ty s.d = true ∧ wZ fs ρ fun ds ρ1 => at_ ρ1 i fun s1 => s1.m.wr = true ∧ wg (g s1.d ds) fun y => Q ⟨.fz, y.2⟩ (ρ1.set i (some ⟨s1.m, y.1⟩)) := w_mut
@[simp ↓] theorem w_andV_i {f g : ME} : wEi (fAndV f g) ρ (Q := ⟨Q⟩) ↔ wE f ρ fun r ρ1 => bq r fun b => if b = true then wE g ρ1 Q else Q ⟨.fz, .bl false⟩ ρ1 := w_andV
@[simp ↓] theorem w_orV_i {f g : ME} : wEi (fOrV f g) ρ (Q := ⟨Q⟩) ↔ wE f ρ fun r ρ1 => bq r fun b => if b = true then Q ⟨.fz, .bl true⟩ ρ1 else wE g ρ1 Q := w_orV
@[simp ↓] theorem w_notV_i {f : ME} : wEi (fNotV f) ρ (Q := ⟨Q⟩) ↔ wE f ρ fun r ρ1 => bq r fun b => Q ⟨.fz, .bl (!b)⟩ ρ1 := w_notV
@[simp ↓] theorem w_if_i {t : MT} {f g : ME} : wEi (fIf t f g) ρ (Q := ⟨Q⟩) ↔ wT t ρ fun b ρ1 => if b = true then wE f ρ1 Q else wE g ρ1 Q := w_if
@[simp ↓] theorem w_T_i {f : ME} : wTi (fT f) ρ (Q := ⟨QT⟩) ↔ wE f ρ fun r ρ1 => bq r fun b => QT b ρ1 := w_T
@[simp ↓] theorem w_and_i {f g : MT} : wTi (fAnd f g) ρ (Q := ⟨QT⟩) ↔ wT f ρ fun b ρ1 => if b = true then wT g ρ1 QT else QT false ρ1 := w_and
@[simp ↓] theorem w_or_i {f g : MT} : wTi (fOr f g) ρ (Q := ⟨QT⟩) ↔ wT f ρ fun b ρ1 => if b = true then QT true ρ1 else wT g ρ1 QT := w_or
@[simp ↓] theorem w_not_i {f : MT} : wTi (fNot f) ρ (Q := ⟨QT⟩) ↔ wT f ρ fun b ρ1 => QT (!b) ρ1 := w_not
@[simp ↓] theorem w_yes_i : wTi fYes ρ (Q := ⟨QT⟩) ↔ QT true ρ := w_yes
@[simp ↓] theorem w_next_i : wSi fNext ρ (Q := ⟨QS⟩) ↔ QS .nx ρ := w_next
@[simp ↓] theorem w_seq_i {g h : MS} : wSi (fSeq g h) ρ (Q := ⟨QS⟩) ↔ wS g ρ fun fl ρ1 => match fl with | .nx => wS h ρ1 QS | .bk => QS .bk ρ1 | .ct => QS .ct ρ1 | .rt r => QS (.rt r) ρ1 := w_seq
@[simp ↓] theorem w_expr_i {f : ME} : wSi (fExpr f) ρ (Q := ⟨QS⟩) ↔ wE f ρ fun _ ρ1 => QS .nx ρ1 := w_expr
@[simp ↓] theorem w_ret_i {f : ME} : wSi (fRet f) ρ (Q := ⟨QS⟩) ↔ wE f ρ fun r ρ1 => QS (.rt r) ρ1 := w_ret
@[simp ↓] theorem w_ret0_i : wSi fRet0 ρ (Q := ⟨QS⟩) ↔ QS (.rt ⟨.fz, .non⟩) ρ := w_ret0
@[simp ↓] theorem w_retN_i {i : Nat} : wSi (fRetN i) ρ (Q := ⟨QS⟩) ↔ at_ ρ i fun s => nq s (QS (.rt s) ρ) (QS (.rt s) (ρ.set i none)) := w_retN
@[simp ↓] theorem w_ifS_i {t : MT} {g h : MS} : wSi (fIfS t g h) ρ (Q := ⟨QS⟩) ↔ wT t ρ fun b ρ1 => if b = true then wS g ρ1 QS else wS h ρ1 QS := w_ifS
@[simp ↓] theorem w_asg_i {i : Nat} {f : ME} : wSi (fAsg i f) ρ (Q := ⟨QS⟩) ↔ wE f ρ fun r ρ1 => free ρ1 i = true ∧ QS .nx (ρ1.set i (some r)) := w_asg
@[simp ↓] theorem w_bind_i {b : MG} {f : ME} : wSi (fBind b f) ρ (Q := ⟨QS⟩) ↔ wE f ρ fun r ρ1 => wg (b r.d ρ1) fun ρ2 => QS .nx ρ2 := w_bind
@[simp ↓] theorem w_set_i {i : Nat} {g : D → D → D → Option D} {fk fv : ME} : wSi (fSet i g fk fv) ρ (Q := ⟨QS⟩) ↔ wE fv ρ fun rv ρ1 => at_ ρ1 i fun _ => wE fk ρ1 fun rk ρ2 => at_ ρ2 i fun s => s.m.wr = true ∧ wg (g s.d rk.d rv.d) fun d' => QS .nx (ρ2.set i (some ⟨s.m, d'⟩)) := w_set
@[simp ↓] theorem w_par_i {i j : Nat} {f g : ME} : wSi (fPar i j f g) ρ (Q := ⟨QS⟩) ↔ wE f ρ fun r ρ1 => wE g ρ1 fun s ρ2 => free ρ2 i = true ∧ free ρ2 j = true ∧ QS .nx ((ρ2.set i (some r)).set j (some s)) := w_par
@[simp ↓] theorem w_for_i {it : D → Option (List D)} {src : Opd} {b : MG} {body : MS} : wSi (fFor it src b body) ρ (Q := ⟨QS⟩) ↔ wO src ρ fun pk ρ1 => wg (look pk ρ1) fun d => wg (it d) fun ds => wS (loopM b body ds) (lend pk ρ1) fun fl ρ2 => QS fl (back pk ρ1 ρ2) := w_for
@[simp ↓] theorem w_forN_i {g : List D → Option (List D)} {os : List Opd} {b : MG} {body : MS} : wSi (fForN g os b body) ρ (Q := ⟨QS⟩) ↔ wOs os ρ fun pks ρ1 => wg (looks ρ1 pks) fun es => wg (g es) fun ds => wS (loopM b body ds) ρ1 QS := w_forN
@[simp ↓] theorem w_comp_i {it : D → Option (List D)} {src : Opd} {is : List Nat} {b : MG} {t : MT} {f : ME} : wEi (fComp it src is b t f) ρ (Q := ⟨Q⟩) ↔ wO src ρ fun pk ρ1 => wg (look pk ρ1) fun d => wg (it d) fun ds => is.all (free (lend pk ρ1)) = true ∧
    wg (compM is b t f ds [] (wipeR (lend pk ρ1) is)) fun x => x.1.length ≤ sizeLine ∧ Q ⟨.own, .lst x.1⟩ (back pk ρ1 x.2) := w_comp
@[simp ↓] theorem w_compN_i {g : List D → Option (List D)} {os : List Opd} {is : List Nat} {b : MG} {t : MT} {f : ME} : wEi (fCompN g os is b t f) ρ (Q := ⟨Q⟩) ↔ wOs os ρ fun pks ρ1 => wg (looks ρ1 pks) fun es => wg (g es) fun ds => is.all (free ρ1) = true ∧
    wg (compM is b t f ds [] (wipeR ρ1 is)) fun x => x.1.length ≤ sizeLine ∧ Q ⟨.own, .lst x.1⟩ x.2 := w_compN
@[simp ↓] theorem at_z_i {s : Sl} {ρ : Rho} {Q : Sl → Prop} : at_i (some s :: ρ) 0 (Q := ⟨Q⟩) ↔ Q s := at_z
@[simp ↓] theorem at_n_i {ρ : Rho} {Q : Sl → Prop} : at_i (none :: ρ) 0 (Q := ⟨Q⟩) ↔ False := at_n
@[simp ↓] theorem at_s_i {x : Option Sl} {ρ : Rho} {i : Nat} {Q : Sl → Prop} : at_i (x :: ρ) (i + 1) (Q := ⟨Q⟩) ↔ at_ ρ i Q := at_s
@[simp ↓] theorem w_aug_i {ρ : Rho} {QS : Fl → Rho → Prop} {i : Nat} {k : Int} {g : D → D → Option Sl} {fv : ME} : wSi (fAugC i k g fv) ρ (Q := ⟨QS⟩) ↔ at_ ρ i fun s => wg (gIxL s.d (.int k)) fun old => wE fv ρ fun rv ρ2 => wg (g old.d rv.d) fun new => at_ ρ2 i fun s2 => (s2.m.wr = true ∧ new.m = .fz) ∧ wg (gSetL s2.d (.int k) new.d) fun d' => QS .nx (ρ2.set i (some ⟨s2.m, d'⟩)) := w_aug
@[simp ↓] theorem w_mix_i {ρ : Rho} {QS : Fl → Rho → Prop} {i b : Nat} {k : Int} {f g : ME} : wSi (fMix i b k f g) ρ (Q := ⟨QS⟩) ↔ wE f ρ fun r1 ρ1 => wE g ρ1 fun r2 ρ2 => wg (bindN i r1.d ρ2) fun ρ3 => at_ ρ3 b fun s => s.m.wr = true ∧ wg (gSetL s.d (.int k) r2.d) fun d' => QS .nx (ρ3.set b (some ⟨s.m, d'⟩)) := w_mix
end
end VI

/-! The operations at values that are known. -/
namespace VI
open PySem PySem.Spec PyProof.Rows L2
section
variable {Q : Sl → Prop}
@[simp] theorem e_add_i (i j : Int) : gAdd (.int i) (.int j) = some ⟨.fz, .int (i + j)⟩ := rfl
@[simp] theorem e_sub_i (i j : Int) : gMinus (.int i) (.int j) = some ⟨.fz, .int (i - j)⟩ := rfl
@[simp] theorem e_lt_i (i j : Int) : gLt (.int i) (.int j) = some ⟨.fz, .bl (decide (i < j))⟩ := rfl
@[simp] theorem e_le_i (i j : Int) : gLe (.int i) (.int j) = some ⟨.fz, .bl (decide (i ≤ j))⟩ := rfl
@[simp] theorem e_gt_i (i j : Int) : gGt (.int i) (.int j) = some ⟨.fz, .bl (decide (j < i))⟩ := rfl
@[simp] theorem e_ge_i (i j : Int) : gGe (.int i) (.int j) = some ⟨.fz, .bl (decide (j ≤ i))⟩ := rfl
@[simp] theorem e_int_i (i : Int) : gInt [.int i] = some ⟨.fz, .int i⟩ := rfl
@[simp] theorem e_int_b (b : Bool) : gInt [.bl b] = some ⟨.fz, .int (if b = true then 1 else 0)⟩ := rfl
@[simp] theorem e_abs_i (i : Int) : gAbs [.int i] = some ⟨.fz, .int (if i < 0 then -i else i)⟩ := rfl
@[simp] theorem e_lenL (xs : List D) : gLenA [.lst xs] = some ⟨.fz, .int xs.length⟩ := rfl
@[simp] theorem e_lenT (xs : List D) : gLenA [.tup xs] = some ⟨.fz, .int xs.length⟩ := rfl
@[simp] theorem e_listL (xs : List D) : gListA [.lst xs] = some ⟨.own, .lst xs⟩ := rfl
@[simp] theorem e_listT (xs : List D) : gListA [.tup xs] = some ⟨.own, .lst xs⟩ := rfl
@[simp] theorem e_itL (xs : List D) : items (.lst xs) = some xs := rfl
@[simp] theorem e_itT (xs : List D) : items (.tup xs) = some xs := rfl
@[simp] theorem e_slL (xs : List D) (lo hi : Option Int) : gSlL (.lst xs) lo hi = some ⟨.own, .lst (cutD xs lo hi)⟩ := rfl
@[simp] theorem e_slQ (xs : List D) (lo hi : Option Int) : gSlL (.seq xs) lo hi = some ⟨.own, .lst (cutD xs lo hi)⟩ := rfl
@[simp] theorem e_look (d : D) (ρ : Rho) : look (.vl d) ρ = some d := rfl
@[simp] theorem e_looks0 (ρ : Rho) : looks ρ [] = some [] := rfl
theorem w_looks {ρ : Rho} {pk : Pk} {pks : List Pk} {Q : List D → Prop} : wg (looks ρ (pk :: pks)) Q ↔ wg (look pk ρ) fun d => wg (looks ρ pks) fun ds => Q (d :: ds) := by
  rw [looks, wg_bind]
  refine wg_congr fun d => ?_
  rw [wg_bind]; exact Iff.rfl
@[simp ↓] theorem w_looks_i {ρ : Rho} {pk : Pk} {pks : List Pk} {Q : List D → Prop} : wgi (looks ρ (pk :: pks)) (Q := ⟨Q⟩) ↔ wg (look pk ρ) fun d => wg (looks ρ pks) fun ds => Q (d :: ds) := w_looks
theorem w_look {ρ : Rho} {i : Nat} {Q : D → Prop} : wg (look (.sl i) ρ) Q ↔ at_ ρ i fun s => Q s.d := by
  unfold at_
  simp only [look]
  cases e : ρ[i]? with
  | none => exact Iff.rfl
  | some x => cases x <;> exact Iff.rfl
@[simp ↓] theorem w_look_i {ρ : Rho} {i : Nat} {Q : D → Prop} : wgi (look (.sl i) ρ) (Q := ⟨Q⟩) ↔ at_ ρ i fun s => Q s.d := w_look
theorem w_argv {ρ : Rho} {d : D} {pks : List Pk} {Q : List Sl → Prop} : wg (argsOf ρ (.vl d :: pks)) Q ↔ wg (argsOf ρ pks) fun as => Q (⟨.fz, d⟩ :: as) := by
  rw [argsOf, wg_bind]
  show wg (_ >>= _) _ ↔ _
  rw [wg_bind]; exact Iff.rfl
@[simp ↓] theorem w_argv_i {ρ : Rho} {d : D} {pks : List Pk} {Q : List Sl → Prop} : wgi (argsOf ρ (.vl d :: pks)) (Q := ⟨Q⟩) ↔ wg (argsOf ρ pks) fun as => Q (⟨.fz, d⟩ :: as) := w_argv
theorem w_argn {ρ : Rho} {Q : List Sl → Prop} : wg (argsOf ρ []) Q ↔ Q [] := Iff.rfl
@[simp ↓] theorem w_argn_i {ρ : Rho} {Q : List Sl → Prop} : wgi (argsOf ρ []) (Q := ⟨Q⟩) ↔ Q [] := w_argn
def hand (s : Sl) : Sl := if s.m = .own then ⟨.par, s.d⟩ else s
@[simp] theorem hand_own (d : D) : hand ⟨.own, d⟩ = ⟨.par, d⟩ := rfl
@[simp] theorem hand_par (d : D) : hand ⟨.par, d⟩ = ⟨.par, d⟩ := rfl
@[simp] theorem hand_fz (d : D) : hand ⟨.fz, d⟩ = ⟨.fz, d⟩ := rfl
@[simp] theorem hand_lent (d : D) : hand ⟨.lent, d⟩ = ⟨.lent, d⟩ := rfl
theorem w_args {ρ : Rho} {i : Nat} {pks : List Pk} {Q : List Sl → Prop} : wg (argsOf ρ (.sl i :: pks)) Q ↔ at_ ρ i fun s => wg (argsOf ρ pks) fun as => Q (hand s :: as) := by
  rw [argsOf, wg_bind]
  unfold at_ hand
  simp only [argOf]
  cases e : ρ[i]? with
  | none => exact Iff.rfl
  | some x =>
    cases x with
    | none => exact Iff.rfl
    | some s =>
      obtain ⟨m, d⟩ := s
      cases m <;> (show wg (_ >>= _) _ ↔ _; rw [wg_bind]; exact Iff.rfl)
@[simp ↓] theorem w_args_i {ρ : Rho} {i : Nat} {pks : List Pk} {Q : List Sl → Prop} : wgi (argsOf ρ (.sl i :: pks)) (Q := ⟨Q⟩) ↔ at_ ρ i fun s => wg (argsOf ρ pks) fun as => Q (hand s :: as) := w_args
@[simp] theorem e_mul_i (i j : Int) : gMul (.int i) (.int j) = if CMul i j then some ⟨.fz, .int (i * j)⟩ else none := by
  unfold gMul orG gI2c gMulL
  by_cases h : CMul i j
  · simp only [if_pos h]
  · simp only [if_neg h]
@[simp] theorem e_mod_i (i j : Int) : gMod (.int i) (.int j) = if j ≠ 0 then some ⟨.fz, .int (i.fmod j)⟩ else none := rfl
@[simp] theorem e_fdiv_i (i j : Int) : gFdiv (.int i) (.int j) = if CDivN i j then some ⟨.fz, .int (i.fdiv j)⟩ else none := rfl
@[simp] theorem e_pow_i (i j : Int) : gPow (.int i) (.int j) = if CPow i j then some ⟨.fz, .int (i ^ j.toNat)⟩ else none := rfl
@[simp] theorem e_add_s (x y : Str) : gAdd (.str x) (.str y) = if x.length + y.length ≤ sizeLine then some ⟨.fz, .str (x ++ y)⟩ else none := by
  unfold gAdd orG gI2 gAddS gAddL
  by_cases h : x.length + y.length ≤ sizeLine
  · simp only [if_pos h]
  · simp only [if_neg h]
@[simp] theorem e_add_l (x y : List D) : gAdd (.lst x) (.lst y) = if x.length + y.length ≤ sizeLine then some ⟨.own, .lst (x ++ y)⟩ else none := by
  unfold gAdd orG gI2 gAddS gAddL
  by_cases h : x.length + y.length ≤ sizeLine
  · simp only [if_pos h]
  · simp only [if_neg h]
theorem w_sub_l {xs : List D} {i : Int} : wg (gSubD (.lst xs) (.int i)) Q ↔ wg (atI xs i) fun d => Q ⟨.fz, d⟩ := by
  unfold gSubD gIx orG gIxL gIxT gIxS gDIx getD
  cases e : atI xs i <;> simp only [e] <;> exact Iff.rfl
@[simp ↓] theorem w_sub_l_i {xs : List D} {i : Int} : wgi (gSubD (.lst xs) (.int i)) (Q := ⟨Q⟩) ↔ wg (atI xs i) fun d => Q ⟨.fz, d⟩ := w_sub_l
theorem w_sub_t {xs : List D} {i : Int} : wg (gSubD (.tup xs) (.int i)) Q ↔ wg (atI xs i) fun d => Q ⟨.fz, d⟩ := by
  unfold gSubD gIx orG gIxL gIxT gIxS gDIx getD
  cases e : atI xs i <;> simp only [e] <;> exact Iff.rfl
@[simp ↓] theorem w_sub_t_i {xs : List D} {i : Int} : wgi (gSubD (.tup xs) (.int i)) (Q := ⟨Q⟩) ↔ wg (atI xs i) fun d => Q ⟨.fz, d⟩ := w_sub_t
theorem w_ixL {xs : List D} {i : Int} : wg (gIxL (.lst xs) (.int i)) Q ↔ wg (atI xs i) fun d => Q ⟨.fz, d⟩ := by
  unfold gIxL
  cases e : atI xs i <;> simp only [e] <;> exact Iff.rfl
@[simp ↓] theorem w_ixL_i {xs : List D} {i : Int} : wgi (gIxL (.lst xs) (.int i)) (Q := ⟨Q⟩) ↔ wg (atI xs i) fun d => Q ⟨.fz, d⟩ := w_ixL
theorem gIxS_eq (x : Str) (i : Int) : gIxS (.str x) (.int i) = if x.length ≤ sizeLine then (match atI x.cps.toList i with | some c => fzS ⟨#[c]⟩ | none => none) else none := rfl
theorem w_sub_s {x : Str} {i : Int} : wg (gSubD (.str x) (.int i)) Q ↔ x.length ≤ sizeLine ∧ wg (atI x.cps.toList i) fun c => Q ⟨.fz, .str ⟨#[c]⟩⟩ := by
  have h : gSubD (.str x) (.int i) = gIxS (.str x) (.int i) := by
    unfold gSubD gIx orG gIxL gIxT gDIx getD
    cases e : gIxS (.str x) (.int i) <;> simp only [e]
  rw [h, gIxS_eq, wg_gate]
  refine and_congr Iff.rfl ?_
  cases e : atI x.cps.toList i <;> exact Iff.rfl
@[simp ↓] theorem w_sub_s_i {x : Str} {i : Int} : wgi (gSubD (.str x) (.int i)) (Q := ⟨Q⟩) ↔ x.length ≤ sizeLine ∧ wg (atI x.cps.toList i) fun c => Q ⟨.fz, .str ⟨#[c]⟩⟩ := w_sub_s
theorem w_sub_d {es : List (Key × D)} {x : Str} : wg (gSubD (.dK es) (.str x)) Q ↔ wg (valD es (.inr x)) fun d => Q ⟨.fz, d⟩ := by
  unfold gSubD gIx orG gIxL gIxT gIxS gDIx getD keyOf
  cases e : valD es (.inr x) <;> simp only [e] <;> exact Iff.rfl
@[simp ↓] theorem w_sub_d_i {es : List (Key × D)} {x : Str} : wgi (gSubD (.dK es) (.str x)) (Q := ⟨Q⟩) ↔ wg (valD es (.inr x)) fun d => Q ⟨.fz, d⟩ := w_sub_d
theorem atI_at {α : Type} {xs : List α} {i : Int} (h : 0 ≤ i) : atI xs i = xs[i.toNat]? := by
  unfold atI ixN
  rw [if_pos h]
  by_cases hl : i < xs.length
  · rw [if_pos hl]; rfl
  · rw [if_neg hl, List.getElem?_eq_none (by omega)]; rfl
@[simp] theorem atI_0 {α : Type} {x : α} {xs : List α} : atI (x :: xs) 0 = some x := by rw [atI_at (by decide)]; rfl
@[simp] theorem atI_1 {α : Type} {x y : α} {xs : List α} : atI (x :: y :: xs) 1 = some y := by rw [atI_at (by decide)]; rfl
@[simp] theorem atI_2 {α : Type} {x y z : α} {xs : List α} : atI (x :: y :: z :: xs) 2 = some z := by rw [atI_at (by decide)]; rfl
@[simp] theorem atI_3 {α : Type} {x y z w : α} {xs : List α} : atI (x :: y :: z :: w :: xs) 3 = some w := by rw [atI_at (by decide)]; rfl
@[simp] theorem e_set0 (x y : D) (xs : List D) : gSetL (.lst (x :: xs)) (.int 0) y = some (.lst (y :: xs)) := by
  simp [gSetL, ixN]
@[simp] theorem e_set1 (x y z : D) (xs : List D) : gSetL (.lst (x :: y :: xs)) (.int 1) z = some (.lst (x :: z :: xs)) := by
  have h : ixN (x :: y :: xs).length 1 = some 1 := by simp [ixN]; omega
  simp only [gSetL, h]; rfl
@[simp] theorem e_set2 (x y z w : D) (xs : List D) : gSetL (.lst (x :: y :: z :: xs)) (.int 2) w = some (.lst (x :: y :: w :: xs)) := by
  have h : ixN (x :: y :: z :: xs).length 2 = some 2 := by simp [ixN]; omega
  simp only [gSetL, h]; rfl
@[simp] theorem e_app (xs : List D) (y : D) : gAppend (.lst xs) [y] = if xs.length < sizeLine then some (.lst (xs ++ [y]), .non) else none := rfl
@[simp] theorem e_ext (xs ys : List D) : gExtend (.lst xs) [.lst ys] = if xs.length + ys.length ≤ sizeLine then some (.lst (xs ++ ys), .non) else none := rfl
theorem w_pop {xs : List D} {i : Int} {Q : D × D → Prop} : wg (gPopAt (.lst xs) [.int i]) Q ↔ wg (ixN xs.length i) fun k => wg (xs[k]?) fun y => xs.length ≤ sizeLine ∧ Q (.lst (xs.eraseIdx k), y) := by
  unfold gPopAt
  cases e : ixN xs.length i with
  | none => simp only [e]; exact Iff.rfl
  | some k =>
    simp only [e, wg_some]
    cases e2 : xs[k]? with
    | none => simp only [e2]; exact Iff.rfl
    | some y => simp only [e2, wg_some]; exact wg_gate
@[simp ↓] theorem w_pop_i {xs : List D} {i : Int} {Q : D × D → Prop} : wgi (gPopAt (.lst xs) [.int i]) (Q := ⟨Q⟩) ↔ wg (ixN xs.length i) fun k => wg (xs[k]?) fun y => xs.length ≤ sizeLine ∧ Q (.lst (xs.eraseIdx k), y) := w_pop
@[simp] theorem e_tup (ds : List D) : gTup ds = if ds.length ≤ sizeLine then some ⟨.fz, .tup ds⟩ else none := rfl
@[simp] theorem e_lst (ds : List D) : gLst ds = if ds.length ≤ sizeLine then some ⟨.own, .lst ds⟩ else none := rfl
@[simp] theorem e_sorted (ds : List D) : gSorted [.lst ds] = if sortOk ds = true then some ⟨.own, .lst (sortL ds)⟩ else none := rfl
@[simp] theorem e_eq (a b : D) : gEq a b = if eqOk a b = true then some ⟨.fz, .bl (eqD a b)⟩ else none := rfl
@[simp] theorem e_ne (a b : D) : gNe a b = if eqOk a b = true then some ⟨.fz, .bl (!eqD a b)⟩ else none := rfl
@[simp] theorem eo_s (x y : Str) : eqOk (.str x) (.str y) = true := rfl
@[simp] theorem eo_i (i : Int) (b : D) : eqOk (.int i) b = ((D.int i).ok && b.ok) := rfl
@[simp] theorem eo_b (i : Bool) (b : D) : eqOk (.bl i) b = ((D.bl i).ok && b.ok) := rfl
@[simp] theorem eo_n (b : D) : eqOk .non b = (D.non.ok && b.ok) := rfl
@[simp] theorem eo_l (xs : List D) (b : D) : eqOk (.lst xs) b = ((D.lst xs).ok && b.ok) := rfl
@[simp] theorem eo_t (xs : List D) (b : D) : eqOk (.tup xs) b = ((D.tup xs).ok && b.ok) := rfl
@[simp] theorem e_in (x : D) (ys : List D) : gIn x (.lst ys) = if x.ok = true ∧ (D.lst ys).ok = true then some ⟨.fz, .bl (inL x ys)⟩ else none := rfl
@[simp] theorem e_notin (x : D) (ys : List D) : gNotIn x (.lst ys) = if x.ok = true ∧ (D.lst ys).ok = true then some ⟨.fz, .bl (!inL x ys)⟩ else none := rfl
@[simp] theorem e_repr (d : D) : gRepr [d] = if reprOk d = true then some ⟨.fz, .str d.py.shown⟩ else none := rfl
@[simp] theorem e_rng1 (j : Int) : gRng1 [.int j] = if -(2 ^ 62) ≤ j ∧ j < 2 ^ 62 then some (rangeD 0 j.toNat) else none := rfl
@[simp] theorem e_bindN (i : Nat) (d : D) (ρ : Rho) : bindN i d ρ = if free ρ i = true then some (ρ.set i (some ⟨.fz, d⟩)) else none := rfl
@[simp] theorem e_bindT (is : List Nat) (ds : List D) (ρ : Rho) : bindT is (.tup ds) ρ = bindA is ds ρ := rfl
@[simp] theorem e_bindA0 (ρ : Rho) : bindA [] [] ρ = some ρ := rfl
theorem w_bindA {i : Nat} {is : List Nat} {d : D} {ds : List D} {ρ : Rho} {Q : Rho → Prop} : wg (bindA (i :: is) (d :: ds) ρ) Q ↔ free ρ i = true ∧ wg (bindA is ds (ρ.set i (some ⟨.fz, d⟩))) Q := by
  rw [bindA, wg_bind', e_bindN, wg_gate]; exact Iff.rfl
@[simp ↓] theorem w_bindA_i {i : Nat} {is : List Nat} {d : D} {ds : List D} {ρ : Rho} {Q : Rho → Prop} : wgi (bindA (i :: is) (d :: ds) ρ) (Q := ⟨Q⟩) ↔ free ρ i = true ∧ wg (bindA is ds (ρ.set i (some ⟨.fz, d⟩))) Q := w_bindA
def frx : Option Sl → Bool
  | some ⟨.par, _⟩ => false
  | some ⟨.lent, _⟩ => false
  | _ => true
@[simp] theorem fr_z {x : Option Sl} {ρ : Rho} : free (x :: ρ) 0 = frx x := by
  cases x with
  | none => rfl
  | some s => obtain ⟨m, d⟩ := s; cases m <;> rfl
@[simp] theorem frx_n : frx none = true := rfl
@[simp] theorem frx_f {d : D} : frx (some ⟨.fz, d⟩) = true := rfl
@[simp] theorem frx_o {d : D} : frx (some ⟨.own, d⟩) = true := rfl
@[simp] theorem frx_p {d : D} : frx (some ⟨.par, d⟩) = false := rfl
@[simp] theorem frx_l {d : D} : frx (some ⟨.lent, d⟩) = false := rfl
@[simp] theorem fr_s {x : Option Sl} {ρ : Rho} {i : Nat} : free (x :: ρ) (i + 1) = free ρ i := rfl
@[simp] theorem e_listS (x : Str) : gListA [.str x] = if x.cps.size ≤ sizeLine then some ⟨.own, .lst (signsD x)⟩ else none := by
  unfold gListA orN gList gListS gListD
  by_cases h : x.cps.size ≤ sizeLine
  · simp only [if_pos h]
  · simp only [if_neg h]
@[simp] theorem e_isL (xs : List D) : isL (.lst xs) = true := rfl
@[simp] theorem e_isS (x : Str) : isS (.str x) = true := rfl
@[simp] theorem e_wr1 : Md.wr .own = true := rfl
@[simp] theorem e_wr2 : Md.wr .par = true := rfl
@[simp] theorem e_i2 (f : Int → Int → D) (i j : Int) : gI2 f (.int i) (.int j) = some ⟨.fz, f i j⟩ := rfl
@[simp] theorem e_sz : sizeLine = 16777216 := by decide
theorem cut_hi {β : Type} (E : β → D) (xs : List β) {k : Int} (h : 0 ≤ k) : cutD (xs.map E) none (some k) = (xs.take k.toNat).map E := by
  unfold cutD HT.sIx
  simp only [List.length_map, List.drop_zero, Nat.sub_zero]
  rw [if_neg (by omega), ← List.map_take]
  congr 1
  rw [List.take_eq_take_iff]; omega
theorem cut_lo {β : Type} (E : β → D) (xs : List β) {k : Int} (h : 0 ≤ k) : cutD (xs.map E) (some k) none = (xs.drop k.toNat).map E := by
  unfold cutD HT.sIx
  simp only [List.length_map]
  rw [if_neg (by omega), ← List.map_drop, ← List.map_take]
  congr 1
  by_cases hk : k.toNat ≤ xs.length
  · rw [Nat.min_eq_left hk, List.take_of_length_le (by simp)]
  · rw [Nat.min_eq_right (by omega), List.drop_of_length_le (Nat.le_refl _), List.drop_of_length_le (l := xs) (by omega)]; simp
end
/-! ### loops over rows of known values -/
theorem w_loopX {β : Type} {b : MG} {body : MS} {QS : Fl → Rho → Prop} (E : β → D) (I : List β → Rho → Prop) {xs : List β} {ρ : Rho} (h0 : I [] ρ)
    (hs : ∀ (pre : List β) (x : β) (ρ : Rho), x ∈ xs → pre.length < xs.length → I pre ρ → wg (b (E x) ρ) fun ρ1 => wS body ρ1 fun fl ρ2 => match fl with | .nx => I (pre ++ [x]) ρ2 | .ct => I (pre ++ [x]) ρ2 | .bk => QS .nx ρ2 | .rt r => QS (.rt r) ρ2)
    (hd : ∀ ρ, I xs ρ → QS .nx ρ) : wS (loopM b body (xs.map E)) ρ QS := by
  refine w_loop (fun k ρ => I (xs.take k) ρ) (k := 0) (by simpa using h0) ?_ ?_
  · intro j d ρ hj hi
    rw [List.getElem?_map] at hj
    obtain ⟨x, hx, rfl⟩ := Option.map_eq_some_iff.mp hj
    have e : xs.take (0 + j + 1) = xs.take (0 + j) ++ [x] := by
      rw [Nat.zero_add]
      obtain ⟨hlt, rfl⟩ := List.getElem?_eq_some_iff.mp hx
      exact (List.take_append_getElem hlt).symm
    rw [e]
    exact hs _ x ρ (List.mem_of_getElem? hx) (by have := (List.getElem?_eq_some_iff.mp hx).1; rw [List.length_take]; omega) hi
  · intro ρ hi
    refine hd ρ ?_
    rwa [Nat.zero_add, List.length_map, List.take_length] at hi
theorem w_compX {β : Type} {is : List Nat} {b : MG} {t : MT} {f : ME} {Q : List D × Rho → Prop} (E : β → D) (I : List β → List D → Rho → Prop) {xs : List β} {ρ : Rho} (h0 : I [] [] ρ)
    (hs : ∀ (pre : List β) (x : β) acc (ρ : Rho), x ∈ xs → pre.length < xs.length → I pre acc ρ → wg (b (E x) ρ) fun ρ1 => wT t ρ1 fun c ρ2 => if c = true then wE f ρ2 fun r ρ3 => I (pre ++ [x]) (acc ++ [r.d]) (wipeR ρ3 is) else I (pre ++ [x]) acc (wipeR ρ2 is))
    (hd : ∀ acc ρ, I xs acc ρ → Q (acc, ρ)) : wg (compM is b t f (xs.map E) [] ρ) Q := by
  refine w_compI (fun k acc ρ => I (xs.take k) acc ρ) (k := 0) (by simpa using h0) ?_ ?_
  · intro j d acc ρ hj hi
    rw [List.getElem?_map] at hj
    obtain ⟨x, hx, rfl⟩ := Option.map_eq_some_iff.mp hj
    have e : xs.take (0 + j + 1) = xs.take (0 + j) ++ [x] := by
      rw [Nat.zero_add]
      obtain ⟨hlt, rfl⟩ := List.getElem?_eq_some_iff.mp hx
      exact (List.take_append_getElem hlt).symm
    rw [e]
    exact hs _ x acc ρ (List.mem_of_getElem? hx) (by have := (List.getElem?_eq_some_iff.mp hx).1; rw [List.length_take]; omega) hi
  · intro acc ρ hi
    refine hd acc ρ ?_
    rwa [Nat.zero_add, List.length_map, List.take_length] at hi
/-- a comprehension that leaves all as it was -/
theorem w_compP {β : Type} {is : List Nat} {b : MG} {t : MT} {f : ME} {Q : List D × Rho → Prop} (E : β → D) (p : β → Bool) (h : β → D) {xs : List β} {ρ : Rho}
    (hs : ∀ x, x ∈ xs → wg (b (E x) ρ) fun ρ1 => wT t ρ1 fun c ρ2 => c = p x ∧ if c = true then wE f ρ2 fun r ρ3 => r.d = h x ∧ wipeR ρ3 is = ρ else wipeR ρ2 is = ρ)
    (hd : Q ((xs.filter p).map h, ρ)) : wg (compM is b t f (xs.map E) [] ρ) Q := by
  refine w_compX E (fun pre acc ρ' => acc = (pre.filter p).map h ∧ ρ' = ρ) ⟨rfl, rfl⟩ ?_ ?_
  · rintro pre x acc ρ' hx _ ⟨rfl, rfl⟩
    refine wg_mono (hs x hx) fun ρ1 h1 => wg_mono h1 fun y h2 => ?_
    obtain ⟨e, h2⟩ := h2
    rw [List.filter_append]
    by_cases hp : p x = true
    · rw [if_pos (e.trans hp)] at h2 ⊢
      refine wE_mono h2 fun r ρ3 h3 => ?_
      obtain ⟨h3, h4⟩ := h3
      rw [h3]
      exact ⟨by simp [hp], h4⟩
    · rw [if_neg (by rw [e]; exact hp)] at h2 ⊢
      exact ⟨by simp [hp], h2⟩
  · rintro acc ρ' ⟨rfl, rfl⟩
    exact hd
theorem ok_int (i : Int) : (D.int i).ok = true := by simp [D.ok, D.pure, D.py, SeqAt.shaped, PyData.canLay0, PyData.depth]
theorem eqD_int (i j : Int) : eqD (.int i) (.int j) = decide (i = j) := by simp only [eqD, D.py, PyData.eqv]; rfl
end VI

/-! Sorting and showing plain data. -/
namespace VI
open PySem PySem.Spec PyProof.Rows L2
/-! ### sorted -/
abbrev dLe : D → D → Bool := PySem.W.dataLe false D.py
theorem dLe_total : PySem.W.TotalLe dLe := PySem.W.sortLe_total _ _ _
theorem dLe_toks {a b : D} (h1 : dLe a b = true) (h2 : dLe b a = true) : PySem.W.keyToks a.py = PySem.W.keyToks b.py := by
  have h1' : (!PySem.W.dataLt b.py a.py) = true := h1
  have h2' : (!PySem.W.dataLt a.py b.py) = true := h2
  rw [Bool.not_eq_true'] at h1' h2'
  exact (PyProof.Rows.listOrd PyProof.Rows.itemOrd).total _ _ h2' h1'
theorem toks_eqv' {x y : PyData} (h : PySem.W.alike x y = true) (e : PySem.W.keyToks x = PySem.W.keyToks y) : PyData.eqv x y = true := by
  cases q : PyData.eqv x y with
  | true => rfl
  | false =>
    have t := (PySem.W.toks_eqv x y h).2 q [] [.inl 0]
    rw [e, PySem.W.lex_pre] at t
    have t1 : PyProof.Rows.lexLt PyProof.Rows.itemOrd [] [.inl 0] = true := rfl
    have t2 : PyProof.Rows.lexLt PyProof.Rows.itemOrd (PySem.W.keyToks y) (PySem.W.keyToks y) = false := PyProof.Rows.lex_irrefl _
    rw [t1, t2] at t
    cases t
mutual
theorem eqv_inj : ∀ a b : D, a.pure = true → b.pure = true → PySem.W.alike a.py b.py = true → PyData.eqv a.py b.py = true → a = b
  | .non, b, _, hb, h, e => by cases b <;> first | rfl | (simp [D.py, PySem.W.alike] at h; done) | (simp [D.pure] at hb; done)
  | .bl x, b, _, hb, h, e => by cases b <;> first | (simp [D.py, PySem.W.alike] at h; done) | (simp [D.pure] at hb; done) | (simp [D.py, PyData.eqv] at e; rw [e])
  | .int x, b, _, hb, h, e => by cases b <;> first | (simp [D.py, PySem.W.alike] at h; done) | (simp [D.pure] at hb; done) | (simp [D.py, PyData.eqv] at e; rw [e])
  | .str x, b, _, hb, h, e => by cases b <;> first | (simp [D.py, PySem.W.alike] at h; done) | (simp [D.pure] at hb; done) | (simp [D.py, PyData.eqv] at e; rw [e])
  | .tup xs, b, ha, hb, h, e => by
    cases b <;> first | (simp [D.py, PySem.W.alike] at h; done) | (simp [D.pure] at hb; done) | skip
    rename_i ys
    simp only [D.py, PySem.W.alike, PyData.eqv, D.pure] at h e ha hb
    rw [eqvAll_inj xs ys ha hb h e]
  | .lst xs, b, ha, hb, h, e => by
    cases b <;> first | (simp [D.py, PySem.W.alike] at h; done) | (simp [D.pure] at hb; done) | skip
    rename_i ys
    simp only [D.py, PySem.W.alike, PyData.eqv, D.pure] at h e ha hb
    rw [eqvAll_inj xs ys ha hb h e]
  | .dK _, _, ha, _, _, _ => by simp [D.pure] at ha
  | .dT _, _, ha, _, _, _ => by simp [D.pure] at ha
  | .ins _ _, _, ha, _, _, _ => by simp [D.pure] at ha
  | .ptr _, _, ha, _, _, _ => by simp [D.pure] at ha
  | .seq _, _, ha, _, _, _ => by simp [D.pure] at ha
  | .tupK _, _, ha, _, _, _ => by simp [D.pure] at ha
  | .ty _, _, ha, _, _, _ => by simp [D.pure] at ha
  | .cls _, _, ha, _, _, _ => by simp [D.pure] at ha
theorem eqvAll_inj : ∀ xs ys : List D, pureL xs = true → pureL ys = true → PySem.W.alikeAll (pyL xs) (pyL ys) = true → PyData.eqvAll (pyL xs) (pyL ys) = true → xs = ys
  | [], [], _, _, _, _ => rfl
  | [], y :: ys, _, _, _, e => by simp [pyL, PyData.eqvAll] at e
  | x :: xs, [], _, _, _, e => by simp [pyL, PyData.eqvAll] at e
  | x :: xs, y :: ys, ha, hb, h, e => by
    simp only [pyL, pureL, PySem.W.alikeAll, PyData.eqvAll, Bool.and_eq_true] at ha hb h e
    rw [eqv_inj x y ha.1 hb.1 h.1 e.1, eqvAll_inj xs ys ha.2 hb.2 h.2 e.2]
end
theorem sortOk_inj {ds : List D} (ok : sortOk ds = true) : ∀ a ∈ ds, ∀ b ∈ ds, dLe a b = true → dLe b a = true → a = b := by
  unfold sortOk at ok
  simp only [Bool.and_eq_true, List.all_eq_true, decide_eq_true_eq] at ok
  obtain ⟨⟨⟨h1, h2⟩, _⟩, _⟩ := ok
  intro a ha b hb l1 l2
  have al := h2 a ha b hb
  exact eqv_inj a b (h1 a ha).1 (h1 b hb).1 al (toks_eqv' al (dLe_toks l1 l2))
theorem sortL_pw (ds : List D) : (sortL ds).Pairwise fun a b => dLe a b = true := PySem.W.sort_pairwise dLe_total ds
theorem sortL_perm0 (ds : List D) : (sortL ds).Perm ds := List.mergeSort_perm _ _
theorem sort_one {ds l m : List D} (ok : sortOk ds = true) (hl : l.Perm ds) (hm : m.Perm ds) (pl : l.Pairwise fun a b => dLe a b = true) (pm : m.Pairwise fun a b => dLe a b = true) : l = m :=
  List.Perm.eq_of_pairwise (le := fun a b => dLe a b = true) (fun a b ha hb => sortOk_inj ok a (hl.mem_iff.mp ha) b (hm.mem_iff.mp hb)) pl pm (hl.trans hm.symm)
theorem sortL_perm {ds es : List D} (ok : sortOk ds = true) (h : ds.Perm es) : sortL ds = sortL es :=
  sort_one ok (sortL_perm0 ds) ((sortL_perm0 es).trans h.symm) (sortL_pw ds) (sortL_pw es)
theorem sortL_app {ds l m : List D} (ok : sortOk ds = true) (h : ds.Perm (l ++ m)) (hlt : ∀ a ∈ l, ∀ b ∈ m, dLe a b = true) : sortL ds = sortL l ++ sortL m := by
  refine sort_one ok (sortL_perm0 ds) (((sortL_perm0 l).append (sortL_perm0 m)).trans h.symm) (sortL_pw ds) ?_
  exact List.pairwise_append.mpr ⟨sortL_pw l, sortL_pw m, fun a ha b hb => hlt a ((sortL_perm0 l).mem_iff.mp ha) b ((sortL_perm0 m).mem_iff.mp hb)⟩
theorem sortL_self {ds : List D} (ok : sortOk ds = true) (h : ds.Pairwise fun a b => dLe a b = true) : sortL ds = ds :=
  sort_one ok (sortL_perm0 ds) (.refl _) (sortL_pw ds) h
/-! ### what is shown -/
theorem shownAll_map : ∀ xs : List D, PyData.shownAll (pyL xs) = xs.map fun x => x.py.shown
  | [] => by simp [pyL, PyData.shownAll]
  | x :: xs => by simp [pyL, PyData.shownAll, shownAll_map xs]
theorem sum_le {α : Type} (f : α → Nat) (c : Nat) : ∀ xs : List α, (∀ x ∈ xs, f x ≤ c) → (xs.map f).sum ≤ xs.length * c
  | [], _ => by simp
  | x :: xs, h => by
    have h1 := h x List.mem_cons_self
    have h2 := sum_le f c xs fun y hy => h y (List.mem_cons_of_mem _ hy)
    simp only [List.map_cons, List.sum_cons, List.length_cons, Nat.succ_mul]; omega
theorem listText_le (ts : List Str) : (listText ts).length ≤ 2 + (ts.map fun t => t.length + 2).sum := by
  cases ts with
  | nil => decide +kernel
  | cons t r =>
    have h := textFrom_length_pos r 1 (("[" : Str) ++ (if (0 : Nat) > 0 then ", " else "" : String) ++ t) (Nat.succ_pos 0)
    have e : ((("[" : Str) ++ (if (0 : Nat) > 0 then ", " else "" : String) ++ t)).length = 1 + t.length := by
      rw [strLen_append, strLen_append]; rfl
    have hX : (listText (t :: r)).length = (textFrom 0 "[" (t :: r)).length + 1 := by
      show (textFrom 0 "[" (t :: r) ++ "]").length = _
      rw [strLen_append]; rfl
    have hY : (textFrom 0 "[" (t :: r)).length = (textFrom 1 (("[" : Str) ++ (if (0 : Nat) > 0 then ", " else "" : String) ++ t) r).length := rfl
    rw [hX, hY, h, e]
    unfold piled
    simp only [List.map_cons, List.sum_cons]; omega
theorem join_le (sep : Str) : ∀ ts : List Str, (Str.join sep ts).length ≤ (ts.map fun t => t.length + sep.length).sum
  | ts => by
    have := StrLaws.join_length_le sep ts
    refine Nat.le_trans this ?_
    have : ∀ ts : List Str, (ts.map fun t => t.length + sep.length).sum = (ts.map (·.length)).sum + ts.length * sep.length := by
      intro ts
      induction ts with
      | nil => simp
      | cons t ts ih => simp only [List.map_cons, List.sum_cons, List.length_cons, Nat.succ_mul, ih]; omega
    rw [this]
    exact Nat.le_refl _
theorem tupleText_le (ts : List Str) : (tupleText ts).length ≤ 3 + (ts.map fun t => t.length + 2).sum := by
  unfold tupleText
  rw [strLen_append, strLen_append]
  have h := join_le ", " ts
  have e : Str.length ", " = 2 := by decide +kernel
  rw [e] at h
  have e1 : Str.length ("(" : Str) = 1 := by decide +kernel
  have e2 : Str.length (Str.ofString (if (ts.length == 1) = true then ",)" else ")")) ≤ 2 := by
    split
    · decide +kernel
    · decide +kernel
  rw [e1]
  have e3 : Str.length (Str.ofString (if (ts.length == 1) = true then ",)" else ")") : Str) ≤ 2 := e2
  omega
theorem shown_lst {xs : List D} {c : Nat} (h : ∀ x ∈ xs, x.py.shown.length ≤ c) : (D.lst xs).py.shown.length ≤ 2 + xs.length * (c + 2) := by
  rw [D.py, PyData.shown, shownAll_map]
  refine Nat.le_trans (listText_le _) ?_
  rw [List.map_map]
  have := sum_le (fun x : D => x.py.shown.length + 2) (c + 2) xs fun x hx => by have := h x hx; omega
  exact Nat.add_le_add_left this 2
theorem shown_tup {xs : List D} {c : Nat} (h : ∀ x ∈ xs, x.py.shown.length ≤ c) : (D.tup xs).py.shown.length ≤ 3 + xs.length * (c + 2) := by
  rw [D.py, PyData.shown, shownAll_map]
  refine Nat.le_trans (tupleText_le _) ?_
  rw [List.map_map]
  have := sum_le (fun x : D => x.py.shown.length + 2) (c + 2) xs fun x hx => by have := h x hx; omega
  exact Nat.add_le_add_left this 3
theorem shown_str {x : Str} {n : Nat} (h : PyData.strOk x = true) (hn : x.length ≤ n) : (D.str x).py.shown.length ≤ 10 * n + 2 := by
  rw [D.py, PyData.shown]
  have h2 : ∀ c ∈ x.cps.toList, c < 16 ^ 8 := by
    unfold PyData.strOk at h
    intro c hc
    simp at h
    obtain ⟨i, hi, rfl⟩ := Array.mem_iff_getElem.mp (by simpa using hc)
    have := h i hi
    have e : (16 : Nat) ^ 8 = 4294967296 := by decide
    omega
  have := StrLaws.reprText_len x h2
  omega
theorem showableAll_iff : ∀ xs : List D, PyData.showableAll (pyL xs) = true ↔ ∀ x ∈ xs, x.py.showable = true
  | [] => by simp [pyL, PyData.showableAll]
  | x :: xs => by simp [pyL, PyData.showableAll, showableAll_iff xs]
/-- plain data that can be shown: depth, length of what is shown -/
def Shw (n c : Nat) (d : D) : Prop := d.pure = true ∧ d.py.showable = true ∧ d.py.depth ≤ n ∧ d.py.shown.length ≤ c
theorem depthAll_le (n : Nat) : ∀ xs : List D, (∀ x ∈ xs, x.py.depth ≤ n) → PyData.depthAll (pyL xs) ≤ n
  | [], _ => by simp [pyL, PyData.depthAll]
  | x :: xs, h => by
    rw [pyL, PyData.depthAll, Nat.max_le]
    exact ⟨h x List.mem_cons_self, depthAll_le n xs fun y hy => h y (List.mem_cons_of_mem _ hy)⟩
theorem shw_lst {n c : Nat} {xs : List D} (h : ∀ x ∈ xs, Shw n c x) : Shw (n + 1) (2 + xs.length * (c + 2)) (.lst xs) := by
  refine ⟨?_, ?_, ?_, shown_lst fun x hx => (h x hx).2.2.2⟩
  · rw [D.pure, pureL_all, List.all_eq_true]; exact fun x hx => (h x hx).1
  · rw [D.py, PyData.showable, showableAll_iff]; exact fun x hx => (h x hx).2.1
  · rw [D.py, PyData.depth]
    have := depthAll_le n xs fun x hx => (h x hx).2.2.1
    omega
theorem shw_tup {n c : Nat} {xs : List D} (h : ∀ x ∈ xs, Shw n c x) : Shw (n + 1) (3 + xs.length * (c + 2)) (.tup xs) := by
  refine ⟨?_, ?_, ?_, shown_tup fun x hx => (h x hx).2.2.2⟩
  · rw [D.pure, pureL_all, List.all_eq_true]; exact fun x hx => (h x hx).1
  · rw [D.py, PyData.showable, showableAll_iff]; exact fun x hx => (h x hx).2.1
  · rw [D.py, PyData.depth]
    have := depthAll_le n xs fun x hx => (h x hx).2.2.1
    omega
theorem shw_str {x : Str} {n k : Nat} (h : PyData.strOk x = true) (hn : x.length ≤ n) : Shw k (10 * n + 2) (.str x) :=
  ⟨by simp [D.pure], by simp [D.py, PyData.showable], by simp [D.py, PyData.depth], shown_str h hn⟩
theorem Shw.mono {n m c c' : Nat} {d : D} (h : Shw n c d) (h1 : n ≤ m) (h2 : c ≤ c') : Shw m c' d := ⟨h.1, h.2.1, Nat.le_trans h.2.2.1 h1, Nat.le_trans h.2.2.2 h2⟩
theorem Shw.ok {n c : Nat} {d : D} (h : Shw n c d) (h1 : n ≤ 64) (h2 : c ≤ 16777216) : reprOk d = true := by
  unfold reprOk
  rw [h.1, h.2.1]
  have := h.2.2.1
  have := h.2.2.2
  simp; omega
/-! ### a law's end -/
theorem RepL.ints {K : PySem.W.Frag} {F : Hp} : ∀ ns : List Int, RepL K F (ns.map V.int) (ns.map D.int)
  | [] => .nil
  | n :: ns => .cons (.int n) (RepL.ints ns)
theorem law_of {m : FnM} {ns : List Int} (h : wM m [⟨.fz, .seq (ns.map D.int)⟩] fun r _ => r = ⟨.fz, .bl true⟩) (K : PySem.W.Frag) (H : Hp) (a : Addr) (hS : SqL K H a (ns.map V.int)) : spG K 1 m [.ref a] H fun v _ => v = .bl true := by
  obtain ⟨⟨r, os⟩, e, q⟩ := wg_out h
  dsimp only at q
  subst q
  refine ⟨H, [⟨.fz, .seq (ns.map D.int)⟩], _, os, rfl, ⟨.refl H, rfl, ?_, ?_⟩, ?_, e, fun v F' H' C => ?_⟩
  · intro i s hs
    cases i with
    | zero =>
      simp at hs
      subst hs
      exact ⟨.ref a, rfl, .mk_fz rfl (.seq hS (RepL.ints ns))⟩
    | succ i => simp at hs
  · intro i j s t p h1 h2 m1
    cases i with
    | zero => simp at h1; subst h1; exact absurd rfl m1
    | succ i => simp at h1
  · intro x hx
    simp at hx; subst hx
    intro z; cases z
  · have r : Rep K F' v (.bl true) := C.res
    cases r; rfl
end VI

/-! What the further meanings come to. -/
namespace VI
open PySem PySem.Spec PyProof.Rows L2

/-- an instance -/
def cq (d : D) (K : Str → List (Str × D) → Prop) : Prop := match d with
  | .ins c fs => K c fs
  | _ => False
def cqi (d : D) {K : Kt (Str → List (Str × D) → Prop)} : Prop := cq d K.k
@[simp ↓] theorem cq_u {d : D} {K : Str → List (Str × D) → Prop} : cq d K ↔ cqi d (K := ⟨K⟩) := Iff.rfl
@[simp ↓] theorem cq_c {c : Str} {fs : List (Str × D)} {K : Str → List (Str × D) → Prop} : cqi (.ins c fs) (K := ⟨K⟩) ↔ K c fs := Iff.rfl
section
variable {ρ : Rho} {Q : Sl → Rho → Prop} {QT : Bool → Rho → Prop} {QS : Fl → Rho → Prop}
theorem w_meth {m : Str} {tbl : Str → Option FnM} {o : Opd} {os : List Opd} : wE (fMeth m tbl o os) ρ Q ↔ wO o ρ fun pk ρ0 => wg (look pk ρ0) fun d => cq d fun c fs => fs.lookup m = none ∧ wg (tbl c) fun M => wOs os ρ0 fun pks ρ1 => wg (argsOf ρ1 (pk :: pks)) fun as => nodupS ρ1 (pk :: pks) = true ∧ wM M as fun r o => Q r (wb (pk :: pks) o ρ1) := by
  unfold wE fMeth wO
  refine wg_bind.trans (wg_congr fun x => ?_)
  obtain ⟨pk, ρ0⟩ := x
  show wg (match look pk ρ0 with | some (.ins c fs) => _ | _ => none) _ ↔ wg (look pk ρ0) _
  cases e : look pk ρ0 with
  | none => exact Iff.rfl
  | some d =>
    cases d with
    | ins c fs =>
      show wg (if fs.lookup m = none then _ else none) _ ↔ _
      refine wg_gate.trans (and_congr Iff.rfl ?_)
      cases e2 : tbl c with
      | none => exact Iff.rfl
      | some M =>
        show wg (_ >>= _) _ ↔ _
        unfold wOs
        refine wg_bind.trans (wg_congr fun y => ?_)
        show wg (_ >>= _) _ ↔ _
        refine wg_bind.trans (wg_congr fun as => ?_)
        refine wg_gate.trans (and_congr Iff.rfl ?_)
        show wg (_ >>= _) _ ↔ _
        rw [wg_bind]
        exact Iff.rfl
    | _ => exact Iff.rfl
@[simp ↓] theorem w_meth_i {m : Str} {tbl : Str → Option FnM} {o : Opd} {os : List Opd} : wEi (fMeth m tbl o os) ρ (Q := ⟨Q⟩) ↔ wO o ρ fun pk ρ0 => wg (look pk ρ0) fun d => cq d fun c fs => fs.lookup m = none ∧ wg (tbl c) fun M => wOs os ρ0 fun pks ρ1 => wg (argsOf ρ1 (pk :: pks)) fun as => nodupS ρ1 (pk :: pks) = true ∧ wM M as fun r o => Q r (wb (pk :: pks) o ρ1) := w_meth
/-- what __init__ hands back -/
def mq (r : Sl) (os : List Sl) (K : D → List Sl → Prop) : Prop := match r, os with
  | ⟨.fz, .non⟩, ⟨.par, d⟩ :: outs => K d outs
  | _, _ => False
@[simp] theorem mq_c {d : D} {outs : List Sl} {K : D → List Sl → Prop} : mq ⟨.fz, .non⟩ (⟨.par, d⟩ :: outs) K ↔ K d outs := Iff.rfl
theorem w_make {c : Str} {M : FnM} {dd : List D} {os : List Opd} : wE (fMake c M dd os) ρ Q ↔ wOs os ρ fun pks ρ1 => wg (argsOf ρ1 pks) fun as => nodupS ρ1 pks = true ∧ wM M (⟨.par, .ins c []⟩ :: (as ++ dd.map fun d => ⟨.fz, d⟩)) fun r o => mq r o fun d outs => Q ⟨.own, d⟩ (wb pks outs ρ1) := by
  unfold wE fMake wOs wM
  refine wg_bind.trans (wg_congr fun x => ?_)
  show wg (_ >>= _) _ ↔ _
  refine wg_bind.trans (wg_congr fun as => ?_)
  refine wg_gate.trans (and_congr Iff.rfl ?_)
  cases e : M (⟨.par, .ins c []⟩ :: (as ++ dd.map fun d => ⟨.fz, d⟩)) with
  | none => exact Iff.rfl
  | some y =>
    obtain ⟨⟨rm, rd⟩, outs⟩ := y
    cases rm <;> cases rd <;> first | exact Iff.rfl | skip
    cases outs with
    | nil => exact Iff.rfl
    | cons o t => obtain ⟨om, od⟩ := o; cases om <;> exact Iff.rfl
@[simp ↓] theorem w_make_i {c : Str} {M : FnM} {dd : List D} {os : List Opd} : wEi (fMake c M dd os) ρ (Q := ⟨Q⟩) ↔ wOs os ρ fun pks ρ1 => wg (argsOf ρ1 pks) fun as => nodupS ρ1 pks = true ∧ wM M (⟨.par, .ins c []⟩ :: (as ++ dd.map fun d => ⟨.fz, d⟩)) fun r o => mq r o fun d outs => Q ⟨.own, d⟩ (wb pks outs ρ1) := w_make
theorem w_sp2 {sw : Bool} {fin : Fin3} {tbl : Str → Option FnM} {a b : Opd} : wE (fSp2 sw fin tbl a b) ρ Q ↔ wO a ρ fun pa ρ1 => wO b ρ1 fun pb ρ2 => wg (look (rcv sw pa pb) ρ2) fun d => cq d fun c _ => wg (tbl c) fun M => wg (argsOf ρ2 (ord2 sw pa pb)) fun as => nodupS ρ2 (ord2 sw pa pb) = true ∧ wM M as fun r o => wg (fin.d r) fun r' => Q r' (wb (ord2 sw pa pb) o ρ2) := by
  unfold wE fSp2 wO
  refine wg_bind.trans (wg_congr fun x => ?_)
  show wg (_ >>= _) _ ↔ _
  refine wg_bind.trans (wg_congr fun y => ?_)
  obtain ⟨pa, ρ1⟩ := x
  obtain ⟨pb, ρ2⟩ := y
  show wg (match look (rcv sw pa pb) ρ2 with | some (.ins c _) => _ | _ => none) _ ↔ wg (look (rcv sw pa pb) ρ2) _
  cases e : look (rcv sw pa pb) ρ2 with
  | none => exact Iff.rfl
  | some d =>
    cases d with
    | ins c fs =>
      show wg (match tbl c with | some M => _ | none => none) _ ↔ wg (tbl c) _
      cases e2 : tbl c with
      | none => exact Iff.rfl
      | some M =>
        show wg (_ >>= _) _ ↔ _
        refine wg_bind.trans (wg_congr fun as => ?_)
        refine wg_gate.trans (and_congr Iff.rfl ?_)
        show wg (_ >>= _) _ ↔ _
        refine wg_bind.trans (wg_congr fun z => ?_)
        show wg (_ >>= _) _ ↔ _
        rw [wg_bind]
        exact Iff.rfl
    | _ => exact Iff.rfl
@[simp ↓] theorem w_sp2_i {sw : Bool} {fin : Fin3} {tbl : Str → Option FnM} {a b : Opd} : wEi (fSp2 sw fin tbl a b) ρ (Q := ⟨Q⟩) ↔ wO a ρ fun pa ρ1 => wO b ρ1 fun pb ρ2 => wg (look (rcv sw pa pb) ρ2) fun d => cq d fun c _ => wg (tbl c) fun M => wg (argsOf ρ2 (ord2 sw pa pb)) fun as => nodupS ρ2 (ord2 sw pa pb) = true ∧ wM M as fun r o => wg (fin.d r) fun r' => Q r' (wb (ord2 sw pa pb) o ρ2) := w_sp2
theorem w_setF {i : Nat} {cs : List Str} {f : Str} {fv : ME} : wS (fSetF i cs f fv) ρ QS ↔ wE fv ρ fun rv ρ1 => at_ ρ1 i fun s => cq s.d fun c fs => (s.m.wr = true ∧ cs.contains c = true ∧ fs.length < 1000) ∧ QS .nx (ρ1.set i (some ⟨s.m, .ins c (putFD f rv.d fs)⟩)) := by
  unfold wS fSetF wE
  cases e : fv ρ with
  | none => exact Iff.rfl
  | some x =>
    obtain ⟨rv, ρ1⟩ := x
    simp only [wg_some]
    unfold at_
    cases e2 : ρ1[i]? with
    | none => exact Iff.rfl
    | some y =>
      cases y with
      | none => exact Iff.rfl
      | some s =>
        obtain ⟨m, d⟩ := s
        cases d with
        | ins c fs => exact wg_gate
        | _ => exact Iff.rfl
@[simp ↓] theorem w_setF_i {i : Nat} {cs : List Str} {f : Str} {fv : ME} : wSi (fSetF i cs f fv) ρ (Q := ⟨QS⟩) ↔ wE fv ρ fun rv ρ1 => at_ ρ1 i fun s => cq s.d fun c fs => (s.m.wr = true ∧ cs.contains c = true ∧ fs.length < 1000) ∧ QS .nx (ρ1.set i (some ⟨s.m, .ins c (putFD f rv.d fs)⟩)) := w_setF
@[simp ↓] theorem w_new_i {d : D} : wEi (fNew d) ρ (Q := ⟨Q⟩) ↔ Q ⟨.own, d⟩ ρ := Iff.rfl
@[simp ↓] theorem w_never_i : wSi fNever ρ (Q := ⟨QS⟩) ↔ False := Iff.rfl
theorem w_get1 {a b : Opd} : wE (fGet1 a b) ρ Q ↔ wO a ρ fun pa ρ1 => wg (look pa ρ1) fun d0 => isDc d0 = true ∧ wO b ρ1 fun pb ρ2 => wg (look pa ρ2) fun d => wg (look pb ρ2) fun k => wg (getD d k) fun o => Q ⟨.fz, o.getD .non⟩ ρ2 := by
  unfold wE fGet1 wO
  refine wg_bind.trans (wg_congr fun x => ?_)
  show wg (_ >>= _) _ ↔ _
  refine wg_bind.trans (wg_congr fun d => ?_)
  refine wg_gate.trans (and_congr Iff.rfl ?_)
  simp only [wg_bind]
  exact Iff.rfl
@[simp ↓] theorem w_get1_i {a b : Opd} : wEi (fGet1 a b) ρ (Q := ⟨Q⟩) ↔ wO a ρ fun pa ρ1 => wg (look pa ρ1) fun d0 => isDc d0 = true ∧ wO b ρ1 fun pb ρ2 => wg (look pa ρ2) fun d => wg (look pb ρ2) fun k => wg (getD d k) fun o => Q ⟨.fz, o.getD .non⟩ ρ2 := w_get1
theorem w_get2 {a b : Opd} {f : ME} : wE (fGet2 a b f) ρ Q ↔ wO a ρ fun pa ρ1 => wg (look pa ρ1) fun d0 => isDc d0 = true ∧ wO b ρ1 fun pb ρ2 => wE f ρ2 fun x ρ3 => wg (look pa ρ3) fun d => wg (look pb ρ3) fun k => wg (getD d k) fun o => Q ⟨.fz, o.getD x.d⟩ ρ3 := by
  unfold wE fGet2 wO
  refine wg_bind.trans (wg_congr fun x => ?_)
  show wg (_ >>= _) _ ↔ _
  refine wg_bind.trans (wg_congr fun d => ?_)
  refine wg_gate.trans (and_congr Iff.rfl ?_)
  simp only [wg_bind]
  exact Iff.rfl
@[simp ↓] theorem w_get2_i {a b : Opd} {f : ME} : wEi (fGet2 a b f) ρ (Q := ⟨Q⟩) ↔ wO a ρ fun pa ρ1 => wg (look pa ρ1) fun d0 => isDc d0 = true ∧ wO b ρ1 fun pb ρ2 => wE f ρ2 fun x ρ3 => wg (look pa ρ3) fun d => wg (look pb ρ3) fun k => wg (getD d k) fun o => Q ⟨.fz, o.getD x.d⟩ ρ3 := w_get2
theorem w_chain {g g' : D → D → Option Sl} {a b c : Opd} : wE (fChain g g' a b c) ρ Q ↔ wO a ρ fun pa ρ1 => wO b ρ1 fun pb ρ2 => wg (look pa ρ2) fun d => wg (look pb ρ2) fun e => wg (g d e) fun r => bq r fun t => if t = true then wO c ρ2 fun pc ρ3 => wg (look pb ρ3) fun e' => wg (look pc ρ3) fun f => wg (g' e' f) fun r' => Q r' ρ3 else Q ⟨.fz, .bl false⟩ ρ2 := by
  unfold wE fChain wO
  refine wg_bind.trans (wg_congr fun x => ?_)
  show wg (_ >>= _) _ ↔ _
  refine wg_bind.trans (wg_congr fun y => ?_)
  show wg (_ >>= _) _ ↔ _
  refine wg_bind.trans (wg_congr fun d => ?_)
  refine wg_bind.trans (wg_congr fun e => ?_)
  refine wg_bind.trans (wg_congr fun r => ?_)
  obtain ⟨m, d⟩ := r
  cases m <;> cases d <;> first | exact Iff.rfl | skip
  rename_i t
  cases t with
  | false => exact Iff.rfl
  | true =>
    show wg (_ >>= _) _ ↔ _
    refine wg_bind.trans (wg_congr fun z => ?_)
    show wg (_ >>= _) _ ↔ _
    refine wg_bind.trans (wg_congr fun z => ?_)
    refine wg_bind.trans (wg_congr fun z => ?_)
    refine wg_bind.trans (wg_congr fun z => ?_)
    exact Iff.rfl
@[simp ↓] theorem w_chain_i {g g' : D → D → Option Sl} {a b c : Opd} : wEi (fChain g g' a b c) ρ (Q := ⟨Q⟩) ↔ wO a ρ fun pa ρ1 => wO b ρ1 fun pb ρ2 => wg (look pa ρ2) fun d => wg (look pb ρ2) fun e => wg (g d e) fun r => bq r fun t => if t = true then wO c ρ2 fun pc ρ3 => wg (look pb ρ3) fun e' => wg (look pc ρ3) fun f => wg (g' e' f) fun r' => Q r' ρ3 else Q ⟨.fz, .bl false⟩ ρ2 := w_chain
/-! displays with stars -/
def wZS (o : List (Bool × ME)) (ρ : Rho) (Q : List D → Rho → Prop) : Prop := wg (evalS o ρ) fun x => Q x.1 x.2
def wZSi (f : List (Bool × ME)) (ρ : Rho) {Q : Kt (List D → Rho → Prop)} : Prop := wZS f ρ Q.k
@[simp ↓] theorem wZS_u {f : List (Bool × ME)} {ρ : Rho} {Q : List D → Rho → Prop} : wZS f ρ Q ↔ wZSi f ρ (Q := ⟨Q⟩) := Iff.rfl
/-- what a star spreads -/
def sq (d : D) : Option (List D) := match d with | .tup xs => some xs | .lst xs => some xs | _ => none
@[simp] theorem sq_t (xs : List D) : sq (.tup xs) = some xs := rfl
@[simp] theorem sq_l (xs : List D) : sq (.lst xs) = some xs := rfl
@[simp ↓] theorem w_snil_i {QZ : List D → Rho → Prop} : wZSi [] ρ (Q := ⟨QZ⟩) ↔ QZ [] ρ := Iff.rfl
@[simp ↓] theorem w_scons_i {f : ME} {fs : List (Bool × ME)} {QZ : List D → Rho → Prop} : wZSi ((false, f) :: fs) ρ (Q := ⟨QZ⟩) ↔ wE f ρ fun r ρ1 => wZS fs ρ1 fun ds ρ2 => QZ (r.d :: ds) ρ2 := by
  unfold wZSi wZS; simp only [evalS]; unfold wE; simp only [wg_bind]; exact Iff.rfl
@[simp ↓] theorem w_sstar_i {f : ME} {fs : List (Bool × ME)} {QZ : List D → Rho → Prop} : wZSi ((true, f) :: fs) ρ (Q := ⟨QZ⟩) ↔ wE f ρ fun r ρ1 => wg (sq r.d) fun xs => wZS fs ρ1 fun ds ρ2 => QZ (xs ++ ds) ρ2 := by
  unfold wZSi wZS; simp only [evalS]; unfold wE; simp only [wg_bind]; exact Iff.rfl
@[simp ↓] theorem w_dispS_i {g : List D → Option Sl} {fs : List (Bool × ME)} : wEi (fDispS g fs) ρ (Q := ⟨Q⟩) ↔ wZS fs ρ fun ds ρ1 => wg (g ds) fun s => Q s ρ1 := by
  unfold wEi wE fDispS wZS; simp only [wg_bind, wg_bind']; exact Iff.rfl
/-! loops -/
@[simp ↓] theorem w_forZ_i {g : List D → Option (List D)} {fs : List ME} {b : MG} {body : MS} : wSi (fForZ g fs b body) ρ (Q := ⟨QS⟩) ↔ wZ fs ρ fun es ρ1 => wg (g es) fun ds => wS (loopM b body ds) ρ1 QS := by
  unfold wSi wS fForZ wZ
  refine wg_bind.trans (wg_congr fun x => ?_)
  exact wg_bind
@[simp ↓] theorem w_compZ_i {g : List D → Option (List D)} {fs : List ME} {is : List Nat} {b : MG} {t : MT} {f : ME} : wEi (fCompZ g fs is b t f) ρ (Q := ⟨Q⟩) ↔ wZ fs ρ fun es ρ1 => wg (g es) fun ds => is.all (free ρ1) = true ∧
    wg (compM is b t f ds [] (wipeR ρ1 is)) fun x => x.1.length ≤ sizeLine ∧ Q ⟨.own, .lst x.1⟩ x.2 := by
  unfold wEi wE fCompZ wZ
  refine wg_bind.trans (wg_congr fun x => ?_)
  show wg (_ >>= _) _ ↔ _
  refine wg_bind.trans (wg_congr fun ds => ?_)
  refine wg_gate.trans (and_congr Iff.rfl ?_)
  refine wg_bind.trans (wg_congr fun y => ?_)
  exact wg_gate
@[simp ↓] theorem w_forD_i {g : D → Option (List D)} {s : DS} {b : MG} {body : MS} : wSi (fForD g s b body) ρ (Q := ⟨QS⟩) ↔ wg (dsAt s ρ) fun x => isDc x = true ∧ wg (g x) fun ds => wS (loopM b body ds) ρ QS := by
  unfold wSi wS fForD
  refine wg_bind.trans (wg_congr fun x => ?_)
  refine wg_gate.trans (and_congr Iff.rfl ?_)
  exact wg_bind
@[simp ↓] theorem w_compD_i {g : D → Option (List D)} {s : DS} {is : List Nat} {b : MG} {t : MT} {f : ME} : wEi (fCompD g s is b t f) ρ (Q := ⟨Q⟩) ↔ wg (dsAt s ρ) fun x => isDc x = true ∧ wg (g x) fun ds => is.all (free ρ) = true ∧
    wg (compM is b t f ds [] (wipeR ρ is)) fun x => x.1.length ≤ sizeLine ∧ Q ⟨.own, .lst x.1⟩ x.2 := by
  unfold wEi wE fCompD
  refine wg_bind.trans (wg_congr fun x => ?_)
  refine wg_gate.trans (and_congr Iff.rfl ?_)
  refine wg_bind.trans (wg_congr fun ds => ?_)
  refine wg_gate.trans (and_congr Iff.rfl ?_)
  refine wg_bind.trans (wg_congr fun y => ?_)
  exact wg_gate
@[simp ↓] theorem w_dcompD_i {k : Bool} {g : D → Option (List D)} {s : DS} {is : List Nat} {b : MG} {t : MT} {fk fv : ME} : wEi (fDCompD k g s is b t fk fv) ρ (Q := ⟨Q⟩) ↔ wg (dsAt s ρ) fun x => isDc x = true ∧ wg (g x) fun ds => is.all (free ρ) = true ∧
    wg (compDM is b t fk fv ds (dNew k) (wipeR ρ is)) fun x => Q ⟨.own, x.1⟩ x.2 := by
  unfold wEi wE fDCompD
  refine wg_bind.trans (wg_congr fun x => ?_)
  refine wg_gate.trans (and_congr Iff.rfl ?_)
  refine wg_bind.trans (wg_congr fun ds => ?_)
  refine wg_gate.trans (and_congr Iff.rfl ?_)
  refine wg_bind.trans (wg_congr fun y => ?_)
  exact Iff.rfl
@[simp ↓] theorem w_dcomp_i {k : Bool} {it : D → Option (List D)} {src : Opd} {is : List Nat} {b : MG} {t : MT} {fk fv : ME} : wEi (fDComp k it src is b t fk fv) ρ (Q := ⟨Q⟩) ↔ wO src ρ fun pk ρ1 => wg (look pk ρ1) fun d => wg (it d) fun ds => is.all (free (lend pk ρ1)) = true ∧
    wg (compDM is b t fk fv ds (dNew k) (wipeR (lend pk ρ1) is)) fun x => Q ⟨.own, x.1⟩ (back pk ρ1 x.2) := by
  unfold wEi wE fDComp wO
  refine wg_bind.trans (wg_congr fun x => ?_)
  show wg (_ >>= _) _ ↔ _
  refine wg_bind.trans (wg_congr fun d => ?_)
  refine wg_bind.trans (wg_congr fun ds => ?_)
  refine wg_gate.trans (and_congr Iff.rfl ?_)
  refine wg_bind.trans (wg_congr fun y => ?_)
  exact Iff.rfl
end
/-- a dict comprehension, by an invariant -/
theorem w_compDX {β : Type} {is : List Nat} {b : MG} {t : MT} {fk fv : ME} {Q : D × Rho → Prop} {d0 : D} (E : β → D) (I : List β → D → Rho → Prop) : ∀ {xs : List β} {pre : List β} {acc : D} {ρ : Rho}, I pre acc ρ →
    (∀ (p : List β) (x : β) acc (ρ : Rho), x ∈ xs → I p acc ρ → wg (b (E x) ρ) fun ρ1 => wT t ρ1 fun c ρ2 => if c = true then wE fk ρ2 fun rk ρ3 => wE fv ρ3 fun rv ρ4 => wg (gSetDc acc rk.d rv.d) fun acc' => I (p ++ [x]) acc' (wipeR ρ4 is) else I (p ++ [x]) acc (wipeR ρ2 is)) →
    (∀ acc ρ, I (pre ++ xs) acc ρ → Q (acc, ρ)) → wg (compDM is b t fk fv (xs.map E) acc ρ) Q
  | [], pre, acc, ρ, h0, _, hd => hd acc ρ (by simpa using h0)
  | x :: xs, pre, acc, ρ, h0, hs, hd => by
    rw [List.map_cons]
    unfold compDM
    refine wg_bind.mpr (wg_mono (hs pre x acc ρ List.mem_cons_self h0) fun ρ1 h1 => ?_)
    refine wg_bind.mpr (wg_mono h1 fun y h2 => ?_)
    obtain ⟨c, ρ2⟩ := y
    have go : ∀ acc' ρ', I (pre ++ [x]) acc' ρ' → wg (compDM is b t fk fv (xs.map E) acc' ρ') Q := fun acc' ρ' h => w_compDX (d0 := d0) E I h (fun p y a r hy => hs p y a r (List.mem_cons_of_mem _ hy)) (fun a r h => hd a r (by simpa using h))
    cases c with
    | false => exact go acc _ h2
    | true =>
      have h2' : wE fk ρ2 fun rk ρ3 => wE fv ρ3 fun rv ρ4 => wg (gSetDc acc rk.d rv.d) fun acc' => I (pre ++ [x]) acc' (wipeR ρ4 is) := h2
      show wg (fk ρ2 >>= _) Q
      refine wg_bind.mpr (wg_mono h2' fun z h3 => ?_)
      refine wg_bind.mpr (wg_mono h3 fun z2 h4 => ?_)
      refine wg_bind.mpr (wg_mono h4 fun z3 h5 => ?_)
      exact go z3 _ h5
end VI

/-! The further operations at values that are known. -/
namespace VI
open PySem PySem.Spec PyProof.Rows L2
section
variable {Q : Sl → Prop}
theorem orG_r {g h : D → D → Option Sl} {a b : D} (e : g a b = none) : orG g h a b = h a b := by unfold orG; rw [e]
theorem orG_l {g h : D → D → Option Sl} {a b : D} (e : h a b = none) : orG g h a b = g a b := by unfold orG; cases q : g a b <;> simp [e]
@[simp] theorem e_inA_l (x : D) (ys : List D) : gInA x (.lst ys) = if x.ok = true ∧ (D.lst ys).ok = true then some ⟨.fz, .bl (inL x ys)⟩ else none := by
  unfold gInA
  rw [orG_l (g := gIn)]
  · rfl
  · cases x <;> rfl
@[simp] theorem e_inA_t (x : D) (ys : List D) : gInA x (.tup ys) = if x.ok = true ∧ (D.tup ys).ok = true then some ⟨.fz, .bl (inL x ys)⟩ else none := by
  unfold gInA
  rw [orG_r (g := gIn) (by cases x <;> rfl), orG_l (g := gInT)]
  · rfl
  · cases x <;> rfl
@[simp] theorem e_inA_s (x y : Str) : gInA (.str x) (.str y) = match signOf x with | some c => fzB (decide (c ∈ y.cps.toList)) | none => none := by
  unfold gInA
  rw [orG_r (g := gIn) rfl, orG_r (g := gInT) rfl, orG_l (g := gInS)]
  · rfl
  · rfl
@[simp] theorem e_inA_K (x : D) (es : List (Key × D)) : gInA x (.dK es) = gInDc x (.dK es) := by
  unfold gInA
  rw [orG_r (g := gIn) (by cases x <;> rfl), orG_r (g := gInT) (by cases x <;> rfl), orG_r (g := gInS) (by cases x <;> rfl)]
@[simp] theorem e_inA_T (x : D) (es : List (List Key × D)) : gInA x (.dT es) = gInDc x (.dT es) := by
  unfold gInA
  rw [orG_r (g := gIn) (by cases x <;> rfl), orG_r (g := gInT) (by cases x <;> rfl), orG_r (g := gInS) (by cases x <;> rfl)]
@[simp] theorem e_notInA_l (x : D) (ys : List D) : gNotInA x (.lst ys) = if x.ok = true ∧ (D.lst ys).ok = true then some ⟨.fz, .bl (!inL x ys)⟩ else none := by
  unfold gNotInA
  rw [orG_l (g := gNotIn)]
  · rfl
  · cases x <;> rfl
@[simp] theorem e_notInA_t (x : D) (ys : List D) : gNotInA x (.tup ys) = if x.ok = true ∧ (D.tup ys).ok = true then some ⟨.fz, .bl (!inL x ys)⟩ else none := by
  unfold gNotInA
  rw [orG_r (g := gNotIn) (by cases x <;> rfl), orG_l (g := gNotInT)]
  · rfl
  · cases x <;> rfl
@[simp] theorem e_notInA_s (x y : Str) : gNotInA (.str x) (.str y) = match signOf x with | some c => fzB (!decide (c ∈ y.cps.toList)) | none => none := by
  unfold gNotInA
  rw [orG_r (g := gNotIn) rfl, orG_r (g := gNotInT) rfl, orG_l (g := gNotInS)]
  · rfl
  · rfl
@[simp] theorem e_notInA_K (x : D) (es : List (Key × D)) : gNotInA x (.dK es) = gNotInDc x (.dK es) := by
  unfold gNotInA
  rw [orG_r (g := gNotIn) (by cases x <;> rfl), orG_r (g := gNotInT) (by cases x <;> rfl), orG_r (g := gNotInS) (by cases x <;> rfl)]
@[simp] theorem e_notInA_T (x : D) (es : List (List Key × D)) : gNotInA x (.dT es) = gNotInDc x (.dT es) := by
  unfold gNotInA
  rw [orG_r (g := gNotIn) (by cases x <;> rfl), orG_r (g := gNotInT) (by cases x <;> rfl), orG_r (g := gNotInS) (by cases x <;> rfl)]
@[simp] theorem e_sign (c : Nat) : signOf ⟨#[c]⟩ = some c := rfl
/-! keys -/
@[simp] theorem e_keyS (x : Str) : keyOf (.str x) = some (.inr x) := rfl
@[simp] theorem e_keyI (i : Int) : keyOf (.int i) = some (.inl i) := rfl
@[simp] theorem e_keys2 (x y : Str) : keysOf [.str x, .str y] = some [.inr x, .inr y] := rfl
@[simp] theorem e_getK (es : List (Key × D)) (x : Str) : getD (.dK es) (.str x) = some (valD es (.inr x)) := rfl
@[simp] theorem e_getKI (es : List (Key × D)) (i : Int) : getD (.dK es) (.int i) = some (valD es (.inl i)) := rfl
@[simp] theorem e_getT (es : List (List Key × D)) (x y : Str) : getD (.dT es) (.tup [.str x, .str y]) = some (valD es [.inr x, .inr y]) := rfl
theorem w_inDc {k d : D} : wg (gInDc k d) Q ↔ wg (getD d k) fun o => Q ⟨.fz, .bl o.isSome⟩ := by
  unfold gInDc
  cases e : getD d k <;> exact Iff.rfl
@[simp ↓] theorem w_inDc_i {k d : D} : wgi (gInDc k d) (Q := ⟨Q⟩) ↔ wg (getD d k) fun o => Q ⟨.fz, .bl o.isSome⟩ := w_inDc
theorem w_notInDc {k d : D} : wg (gNotInDc k d) Q ↔ wg (getD d k) fun o => Q ⟨.fz, .bl (!o.isSome)⟩ := by
  unfold gNotInDc
  cases e : getD d k <;> exact Iff.rfl
@[simp ↓] theorem w_notInDc_i {k d : D} : wgi (gNotInDc k d) (Q := ⟨Q⟩) ↔ wg (getD d k) fun o => Q ⟨.fz, .bl (!o.isSome)⟩ := w_notInDc
theorem w_sub_T {es : List (List Key × D)} {x y : Str} : wg (gSubD (.dT es) (.tup [.str x, .str y])) Q ↔ wg (valD es [.inr x, .inr y]) fun d => Q ⟨.fz, d⟩ := by
  have h : gSubD (.dT es) (.tup [.str x, .str y]) = gDIx (.dT es) (.tup [.str x, .str y]) := rfl
  rw [h]
  unfold gDIx
  rw [e_getT]
  cases e : valD es [.inr x, .inr y] <;> exact Iff.rfl
@[simp ↓] theorem w_sub_T_i {es : List (List Key × D)} {x y : Str} : wgi (gSubD (.dT es) (.tup [.str x, .str y])) (Q := ⟨Q⟩) ↔ wg (valD es [.inr x, .inr y]) fun d => Q ⟨.fz, d⟩ := w_sub_T
/-! stores -/
@[simp] theorem e_setA_l (xs : List D) (k x : D) : gSetA (.lst xs) k x = gSetL (.lst xs) k x := by
  unfold gSetA orS
  cases e : gSetL (.lst xs) k x <;> simp [gSetDc]
@[simp] theorem e_setA_K (es : List (Key × D)) (k : Str) (x : D) : gSetA (.dK es) (.str k) x = if es.length < sizeLine then some (.dK (putD es (.inr k) x)) else none := rfl
@[simp] theorem e_setA_KI (es : List (Key × D)) (k : Int) (x : D) : gSetA (.dK es) (.int k) x = if es.length < sizeLine then some (.dK (putD es (.inl k) x)) else none := rfl
@[simp] theorem e_setA_T (es : List (List Key × D)) (a b : Str) (x : D) : gSetA (.dT es) (.tup [.str a, .str b]) x = if es.length < sizeLine then some (.dT (putD es [.inr a, .inr b] x)) else none := rfl
@[simp] theorem e_setDc_K (es : List (Key × D)) (k : Str) (x : D) : gSetDc (.dK es) (.str k) x = if es.length < sizeLine then some (.dK (putD es (.inr k) x)) else none := rfl
@[simp] theorem e_setDc_T (es : List (List Key × D)) (a b : Str) (x : D) : gSetDc (.dT es) (.tup [.str a, .str b]) x = if es.length < sizeLine then some (.dT (putD es [.inr a, .inr b] x)) else none := rfl
@[simp] theorem e_dNewT : dNew true = .dT [] := rfl
@[simp] theorem e_dNewK : dNew false = .dK [] := rfl
@[simp] theorem e_isDcK (es : List (Key × D)) : isDc (.dK es) = true := rfl
@[simp] theorem e_isDcT (es : List (List Key × D)) : isDc (.dT es) = true := rfl
@[simp] theorem e_kysK (es : List (Key × D)) : kysD (.dK es) = some (es.map fun e => keyD e.1) := rfl
@[simp] theorem e_kysT (es : List (List Key × D)) : kysD (.dT es) = some (es.map fun e => .tup (e.1.map keyD)) := rfl
@[simp] theorem e_vlsK (es : List (Key × D)) : vlsD (.dK es) = some (es.map fun e => e.2) := rfl
@[simp] theorem e_itmK (es : List (Key × D)) : itmD (.dK es) = some (es.map fun e => .tup [keyD e.1, e.2]) := rfl
@[simp] theorem e_itmT (es : List (List Key × D)) : itmD (.dT es) = some (es.map fun e => .tup [.tup (e.1.map keyD), e.2]) := rfl
@[simp] theorem e_keyDs (x : Str) : keyD (.inr x) = .str x := rfl
@[simp] theorem e_keyDi (i : Int) : keyD (.inl i) = .int i := rfl
/-! sorted, slices, sums -/
theorem orN_r {g h : List D → Option Sl} {a : List D} (e : g a = none) : orN g h a = h a := by unfold orN; rw [e]
theorem orN_l {g h : List D → Option Sl} {a : List D} (e : h a = none) : orN g h a = g a := by unfold orN; cases q : g a <;> simp [e]
@[simp] theorem e_sortA_l (ds : List D) : gSortedA [.lst ds] = if sortOk ds = true then some ⟨.own, .lst (sortL ds)⟩ else none := by
  unfold gSortedA
  rw [orN_l]
  · rfl
  · rfl
@[simp] theorem e_sortA_t (ds : List D) : gSortedA [.tup ds] = if sortOk ds = true then some ⟨.own, .lst (sortL ds)⟩ else none := by
  unfold gSortedA
  rw [orN_r rfl, orN_l]
  · rfl
  · rfl
@[simp] theorem e_sortA_K (es : List (Key × D)) : gSortedA [.dK es] = if sortOk (es.map fun e => keyD e.1) = true then some ⟨.own, .lst (sortL (es.map fun e => keyD e.1))⟩ else none := rfl
@[simp] theorem e_sortA_T (es : List (List Key × D)) : gSortedA [.dT es] = if sortOk (es.map fun e => .tup (e.1.map keyD)) = true then some ⟨.own, .lst (sortL (es.map fun e => .tup (e.1.map keyD)))⟩ else none := rfl
@[simp] theorem e_slA_l (xs : List D) (lo hi : Option Int) : gSlA (.lst xs) lo hi = some ⟨.own, .lst (cutD xs lo hi)⟩ := rfl
@[simp] theorem e_slA_q (xs : List D) (lo hi : Option Int) : gSlA (.seq xs) lo hi = some ⟨.own, .lst (cutD xs lo hi)⟩ := rfl
@[simp] theorem e_slA_t (xs : List D) (lo hi : Option Int) : gSlA (.tup xs) lo hi = some ⟨.fz, .tup (cutD xs lo hi)⟩ := rfl
@[simp] theorem e_slA_s (x : Str) (lo hi : Option Int) : gSlA (.str x) lo hi = if x.length ≤ sizeLine then some ⟨.fz, .str (cutS x lo hi)⟩ else none := rfl
@[simp] theorem e_rev (xs : List D) : gRev (.lst xs) = some ⟨.own, .lst xs.reverse⟩ := rfl
@[simp] theorem e_addA_i (i j : Int) : gAddA (.int i) (.int j) = some ⟨.fz, .int (i + j)⟩ := rfl
@[simp] theorem e_addA_s (x y : Str) : gAddA (.str x) (.str y) = if x.length + y.length ≤ sizeLine then some ⟨.fz, .str (x ++ y)⟩ else none := by
  unfold gAddA
  rw [orG_r rfl, orG_l]
  · rfl
  · rfl
@[simp] theorem e_addA_l (x y : List D) : gAddA (.lst x) (.lst y) = if x.length + y.length ≤ sizeLine then some ⟨.own, .lst (x ++ y)⟩ else none := by
  unfold gAddA
  rw [orG_r rfl, orG_r rfl, orG_l]
  · rfl
  · rfl
@[simp] theorem e_addA_t (x y : List D) : gAddA (.tup x) (.tup y) = if x.length + y.length ≤ sizeLine then some ⟨.fz, .tup (x ++ y)⟩ else none := by
  unfold gAddA
  rw [orG_r rfl, orG_r rfl, orG_r rfl]
  rfl
/-! is, minus, walks -/
@[simp] theorem e_isN_n : gIsN .non = some ⟨.fz, .bl true⟩ := rfl
@[simp] theorem e_isN_t (xs : List D) : gIsN (.tup xs) = some ⟨.fz, .bl false⟩ := rfl
@[simp] theorem e_isN_l (xs : List D) : gIsN (.lst xs) = some ⟨.fz, .bl false⟩ := rfl
@[simp] theorem e_isN_i (i : Int) : gIsN (.int i) = some ⟨.fz, .bl false⟩ := rfl
@[simp] theorem e_isN_b (i : Bool) : gIsN (.bl i) = some ⟨.fz, .bl false⟩ := rfl
@[simp] theorem e_isN_s (i : Str) : gIsN (.str i) = some ⟨.fz, .bl false⟩ := rfl
@[simp] theorem e_notN_n : gNotN .non = some ⟨.fz, .bl false⟩ := rfl
@[simp] theorem e_notN_t (xs : List D) : gNotN (.tup xs) = some ⟨.fz, .bl true⟩ := rfl
@[simp] theorem e_notN_l (xs : List D) : gNotN (.lst xs) = some ⟨.fz, .bl true⟩ := rfl
@[simp] theorem e_notN_i (i : Int) : gNotN (.int i) = some ⟨.fz, .bl true⟩ := rfl
@[simp] theorem e_notN_b (i : Bool) : gNotN (.bl i) = some ⟨.fz, .bl true⟩ := rfl
@[simp] theorem e_notN_s (i : Str) : gNotN (.str i) = some ⟨.fz, .bl true⟩ := rfl
@[simp] theorem e_isB (a b : Bool) : gIsB (.bl a) (.bl b) = some ⟨.fz, .bl (decide (a = b))⟩ := rfl
@[simp] theorem e_notB (a b : Bool) : gNotB (.bl a) (.bl b) = some ⟨.fz, .bl (!decide (a = b))⟩ := rfl
@[simp] theorem e_neg (i : Int) : gNeg (.int i) = some ⟨.fz, .int (-i)⟩ := rfl
@[simp] theorem e_itA_l (xs : List D) : itemsA (.lst xs) = some xs := rfl
@[simp] theorem e_itA_t (xs : List D) : itemsA (.tup xs) = some xs := rfl
@[simp] theorem e_itA_k (xs : List D) : itemsA (.tupK xs) = some xs := rfl
@[simp] theorem e_itA_s (x : Str) : itemsA (.str x) = some (signsD x) := rfl
@[simp] theorem e_bindU_t (is : List Nat) (ds : List D) (ρ : Rho) : bindU is (.tup ds) ρ = bindA is ds ρ := rfl
@[simp] theorem e_bindU_l (is : List Nat) (ds : List D) (ρ : Rho) : bindU is (.lst ds) ρ = bindA is ds ρ := rfl
@[simp] theorem e_tuple_l (ds : List D) : gTuple [.lst ds] = some ⟨.fz, .tup ds⟩ := rfl
@[simp] theorem e_tuple_t (ds : List D) : gTuple [.tup ds] = some ⟨.fz, .tup ds⟩ := rfl
theorem blsOf_map {β : Type} (f : β → Bool) : ∀ xs : List β, blsOf (xs.map fun x => D.bl (f x)) = some (xs.map f)
  | [] => rfl
  | x :: xs => by simp only [List.map_cons, blsOf, blsOf_map f xs]; rfl
theorem e_all {β : Type} (f : β → Bool) (xs : List β) : gAll [.lst (xs.map fun x => D.bl (f x))] = some ⟨.fz, .bl (xs.all f)⟩ := by
  unfold gAll
  simp only [blsOf_map, List.all_map]
  rfl
theorem e_any {β : Type} (f : β → Bool) (xs : List β) : gAny [.lst (xs.map fun x => D.bl (f x))] = some ⟨.fz, .bl (xs.any f)⟩ := by
  unfold gAny
  simp only [blsOf_map, List.any_map]
  rfl
@[simp] theorem e_reprA (d : D) : gReprA [d] = if reprOk d = true then some ⟨.fz, .str d.py.shown⟩ else gReprE [d] := by
  unfold gReprA orN
  rw [e_repr]
  by_cases h : reprOk d = true
  · simp only [if_pos h]
  · simp only [if_neg h]
theorem strsOf_map : ∀ xs : List Str, strsOf (xs.map D.str) = some xs
  | [] => rfl
  | x :: xs => by simp only [List.map_cons, strsOf, strsOf_map xs]; rfl
theorem e_lenSet_l (xs : List Str) : gLenSet (.lst (xs.map D.str)) = if xs.length ≤ 4000 then some ⟨.fz, .int (dedS xs).length⟩ else none := by
  unfold gLenSet; simp only [strsOf_map]
theorem e_lenSet_t (xs : List Str) : gLenSet (.tup (xs.map D.str)) = if xs.length ≤ 4000 then some ⟨.fz, .int (dedS xs).length⟩ else none := by
  unfold gLenSet; simp only [strsOf_map]
@[simp] theorem e_zip (xs ys : List D) : gZip [.lst xs, .lst ys] = some (zipD xs ys) := rfl
@[simp] theorem e_enum (xs : List D) : gEnum [.lst xs] = some (zipD (rangeD 0 xs.length) xs) := rfl
@[simp] theorem e_finB (b : Bool) : Fin3.d .bool ⟨.fz, .bl b⟩ = some ⟨.fz, .bl b⟩ := rfl
@[simp] theorem e_finN (b : Bool) : Fin3.d .neg ⟨.fz, .bl b⟩ = some ⟨.fz, .bl (!b)⟩ := rfl
@[simp] theorem e_tb1 (c : Str) (M : FnM) : tb1 c M c = some M := by simp [tb1]
theorem w_dsS {ρ : Rho} {i : Nat} {Q : D → Prop} : wg (dsAt (.sl i) ρ) Q ↔ at_ ρ i fun s => nq s (Q s.d) False := by
  unfold at_
  simp only [dsAt]
  cases e : ρ[i]? with
  | none => exact Iff.rfl
  | some x =>
    cases x with
    | none => exact Iff.rfl
    | some s => obtain ⟨m, d⟩ := s; cases m <;> exact Iff.rfl
@[simp ↓] theorem w_dsS_i {ρ : Rho} {i : Nat} {Q : D → Prop} : wgi (dsAt (.sl i) ρ) (Q := ⟨Q⟩) ↔ at_ ρ i fun s => nq s (Q s.d) False := w_dsS
theorem w_dsF {ρ : Rho} {cs : List Str} {f : Str} {i : Nat} {Q : D → Prop} : wg (dsAt (.fd cs f i) ρ) Q ↔ at_ ρ i fun s => cq s.d fun c fs => cs.contains c = true ∧ wg (fs.lookup f) Q := by
  unfold at_
  simp only [dsAt]
  cases e : ρ[i]? with
  | none => exact Iff.rfl
  | some x =>
    cases x with
    | none => exact Iff.rfl
    | some s =>
      obtain ⟨m, d⟩ := s
      cases d with
      | ins c fs => exact wg_gate
      | _ => exact Iff.rfl
@[simp ↓] theorem w_dsF_i {ρ : Rho} {cs : List Str} {f : Str} {i : Nat} {Q : D → Prop} : wgi (dsAt (.fd cs f i) ρ) (Q := ⟨Q⟩) ↔ at_ ρ i fun s => cq s.d fun c fs => cs.contains c = true ∧ wg (fs.lookup f) Q := w_dsF
theorem w_fld {cs : List Str} {f c : Str} {fs : List (Str × D)} : wg (gFld cs f (.ins c fs)) Q ↔ cs.contains c = true ∧ wg (fs.lookup f) fun d => Q ⟨.fz, d⟩ := by
  unfold gFld
  refine wg_gate.trans (and_congr Iff.rfl ?_)
  cases e : fs.lookup f <;> exact Iff.rfl
@[simp ↓] theorem w_fld_i {cs : List Str} {f c : Str} {fs : List (Str × D)} : wgi (gFld cs f (.ins c fs)) (Q := ⟨Q⟩) ↔ cs.contains c = true ∧ wg (fs.lookup f) fun d => Q ⟨.fz, d⟩ := w_fld
end
end VI

/-! The meanings that many laws share (printed by gen2.py --lib). -/
namespace VI
open PySem PySem.Spec PyProof.Rows L2
def fuel : Nat := 100000
-- _law_alike, slots 0:_law_found 1:_law_due
def b_law_alike : MS :=
  (fRet (fAndV (fOp2 gEq (.sl 0) (.sl 1)) (fOp2 gEq (.ex (fOpN gReprA [(.sl 0)])) (.ex (fOpN gReprA [(.sl 1)])))))
def m_law_alike : FnM := fnM 0 b_law_alike
-- _law_take, slots 0:_law_bag_here 1:_law_many 2:_law_early 3:_law_second 4:_law_cell 5:_law_mixed 6:_law_drawn
def b_law_take : MS :=
  (fSeq (fIfS (fT (fOp2 gEq (.ex (fOp2 gSubD (.sl 0) (.ex (fC (.int 0))))) (.ex (fC (.int 0))))) (fSeq (fAsg 4 (fOp2 gSubD (.ex (fOp2 gAddA (.ex (fSl gSlA (.ex (fOp2 gSubD (.sl 0) (.ex (fC (.int 3))))) (some (fOp2 gSubD (.sl 0) (.ex (fC (.int 2))))) none)) (.ex (fDisp gLst [(fC (.int 0))])))) (.ex (fC (.int 0)))))
  (fSeq (fAugC 0 2 (gI2 fun i j => .int (i + j)) (fC (.int 1)))
  (fSeq (fSet 0 gSetA (fC (.int 0)) (fOp2 gMul (.sl 4) (.ex (fOpN gInt [(.ex (fOp2 gGe (.sl 4) (.ex (fOp2 gPow (.ex (fC (.int 10))) (.ex (fC (.int 18)))))))]))))
  (fSeq (fAsg 5 (fOp2 gAddA (.ex (fOp2 gAddA (.ex (fOp2 gMul (.ex (fOp2 gSubD (.sl 0) (.ex (fC (.int 1))))) (.ex (fC (.int 48271))))) (.ex (fOp2 gMod (.ex (fOpN gInt [(.sl 4)])) (.ex (fC (.int 2147483647))))))) (.ex (fOp2 gMul (.ex (fC (.int 7919))) (.ex (fOp2 gSubD (.sl 0) (.ex (fC (.int 2)))))))))
  (fSet 0 gSetA (fC (.int 1)) (fOp2 gMod (.ex (fOpN gInt [(.sl 5)])) (.ex (fC (.int 2147483647))))))))) fNext)
  (fSeq (fIfS (fT (fOp2 gGt (.ex (fOp2 gSubD (.sl 0) (.ex (fC (.int 0))))) (.ex (fC (.int 0))))) (fSeq (fMix 6 0 0 (fOp2 gMod (.ex (fOpN gInt [(.ex (fOp2 gSubD (.sl 0) (.ex (fC (.int 0)))))])) (.sl 1)) (fOp2 gFdiv (.ex (fOpN gInt [(.ex (fOp2 gSubD (.sl 0) (.ex (fC (.int 0)))))])) (.sl 1)))
  (fRetN 6)) fNext)
  (fSeq (fAsg 2 (fOp2 gMod (.ex (fOpN gInt [(.ex (fOp2 gMul (.ex (fOp2 gAddA (.ex (fOp2 gSubD (.sl 0) (.ex (fC (.int 1))))) (.ex (fC (.int 1))))) (.ex (fC (.int 39373)))))])) (.ex (fC (.int 1000000007)))))
  (fSeq (fAsg 3 (fOp2 gMod (.ex (fOpN gInt [(.ex (fOp2 gMul (.ex (fOp2 gMod (.ex (fOpN gInt [(.ex (fOp2 gMul (.sl 2) (.sl 2)))])) (.ex (fC (.int 998244353))))) (.ex (fC (.int 30011)))))])) (.ex (fC (.int 998244353)))))
  (fRet (fOp2 gMod (.ex (fOpN gInt [(.ex (fOp2 gFdiv (.sl 3) (.ex (fC (.int 7)))))])) (.sl 1)))))))
def m_law_take : FnM := fnM 5 b_law_take
-- _law_pick, slots 0:_law_bag_here 1:_law_some
def b_law_pick : MS :=
  (fRet (fOp2 gSubD (.sl 1) (.ex (fCall m_law_take [(.sl 0), (.ex (fOpN gLenA [(.sl 1)]))]))))
def m_law_pick : FnM := fnM 0 b_law_pick
-- _law_mix, slots 0:_law_bag_here 1:_law_some 2:_law_rest 3:_law_found
def b_law_mix : MS :=
  (fSeq (fPar 2 3 (fOpN gListA [(.sl 1)]) (fDisp gLst []))
  (fSeq (whileM (fT (fOp2 gNe (.sl 2) (.ex (fDisp gLst [])))) (fExpr (fMut 3 isL gAppend [(fMut 2 isL gPopAt [(fCall m_law_take [(.sl 0), (.ex (fOpN gLenA [(.sl 2)]))])])])) fuel)
  (fRetN 3)))
def m_law_mix : FnM := fnM 2 b_law_mix
-- _law_pairs, slots 0:_law_things 1:_law_found 2:_law_x 3:_law_y
def b_law_pairs : MS :=
  (fSeq (fAsg 1 (fDisp gLst []))
  (fSeq (fFor itemsA (.ex (fOpN gSortedA [(.sl 0)])) (bindN 2) (fExpr (fMut 1 isL gExtend [(fComp itemsA (.ex (fOpN gSortedA [(.sl 0)])) [3] (bindN 3) (fT (fOp2 gNe (.sl 3) (.sl 2))) (fDisp gTup [(fName 2), (fName 3)]))])))
  (fRetN 1)))
def m_law_pairs : FnM := fnM 3 b_law_pairs
-- _law_any, slots 0:_law_bag_here 1:_law_things 2:_law_many 3:_law_told_here 4:_law_x 5:_law_y
def b_law_any : MS :=
  (fSeq (fAsg 3 (fSl gSlA (.ex (fCall m_law_mix [(.sl 0), (.ex (fCall m_law_pairs [(.sl 1)]))])) none (some (fName 2))))
  (fRet (fComp itemsA (.sl 3) [4, 5] (bindT [4, 5]) fYes (fDisp gTup [(fName 4), (fName 5), (fOp2 gLt (.ex (fCall m_law_take [(.sl 0), (.ex (fC (.int 5)))])) (.ex (fC (.int 3))))]))))
def m_law_any : FnM := fnM 3 b_law_any
-- _law_bag, slots 0:_law_script 1:_law_cell
def b_law_bag : MS :=
  (fRet (fDisp gLst [(fC (.int 0)), (fC (.int 1234567891)), (fC (.int 0)), (fComp itemsA (.ex (fSl gSlA (.sl 0) none (some (fC (.int 63))))) [1] (bindN 1) fYes (fOpN gAbs [(.sl 1)]))]))
def m_law_bag : FnM := fnM 1 b_law_bag
-- _law_leads, slots 0:_law_answer
def b_law_leads : MS :=
  (fRet (fIf (fT (fOp2 gSubD (.sl 0) (.ex (fC (.int 2))))) (fDisp gTup [(fOp2 gSubD (.sl 0) (.ex (fC (.int 0)))), (fOp2 gSubD (.sl 0) (.ex (fC (.int 1))))]) (fDisp gTup [(fOp2 gSubD (.sl 0) (.ex (fC (.int 1)))), (fOp2 gSubD (.sl 0) (.ex (fC (.int 0))))])))
def m_law_leads : FnM := fnM 0 b_law_leads
-- _law_names, slots 0:_law_bag_here 1:_law_many 2:_law_letters 3:_law_words 4:_law_stem 5:_law_way 6:_law_turn 7:_law_k
def b_law_names : MS :=
  (fSeq (fBind (bindU [5, 6]) (fDisp gTup [(fCall m_law_take [(.sl 0), (.ex (fC (.int 3)))]), (fCall m_law_take [(.sl 0), (.ex (fC (.int 26)))])]))
  (fSeq (fAsg 2 (fC (.str "abcdefghijklmnopqrstuvwxyz")))
  (fSeq (fAsg 3 (fDisp gLst [(fC (.str "better")), (fC (.str "not")), (fC (.str "things")), (fC (.str "step")), (fC (.str "say")), (fC (.str "a")), (fC (.str "aa")), (fC (.str "none")), (fC (.str "reached")), (fC (.str "open")), (fC (.str "zzzzzzzz"))]))
  (fSeq (fIfS (fT (fOp2 gEq (.sl 5) (.ex (fC (.int 0))))) (fRet (fCall m_law_mix [(.sl 0), (.ex (fSl gSlA (.ex (fOpN gListA [(.ex (fC (.str "abcdef")))])) none (some (fName 1))))])) fNext)
  (fSeq (fIfS (fT (fOp2 gEq (.sl 5) (.ex (fC (.int 1))))) (fRet (fCall m_law_mix [(.sl 0), (.ex (fSl gSlA (.ex (fSl gSlA (.ex (fOp2 gAddA (.sl 3) (.sl 3))) (some (fOp2 gMod (.ex (fOpN gInt [(.sl 6)])) (.ex (fC (.int 11))))) none)) none (some (fName 1))))])) fNext)
  (fSeq (fAsg 4 (fM1 gJoin (.ex (fC (.str ""))) (.ex (fCompN gRng1 [(.ex (fCall m_law_take [(.sl 0), (.ex (fC (.int 8)))]))] [7] (bindN 7) fYes (fOp2 gSubD (.sl 2) (.ex (fCall m_law_take [(.sl 0), (.ex (fC (.int 26)))])))))))
  (fRet (fCall m_law_mix [(.sl 0), (.ex (fCompN gRng1 [(.sl 1)] [7] (bindN 7) fYes (fOp2 gAddA (.sl 4) (.ex (fOp2 gSubD (.sl 2) (.ex (fOp2 gMod (.ex (fOpN gInt [(.ex (fOp2 gAddA (.sl 6) (.ex (fOp2 gMul (.ex (fC (.int 5))) (.sl 7)))))])) (.ex (fC (.int 26))))))))))]))))))))
def m_law_names : FnM := fnM 6 b_law_names
-- ends_of, slots 0:answer 1:x 2:y 3:truth
def b_ends_of : MS :=
  (fSeq (fBind (bindU [1, 2, 3]) (fName 0))
  (fRet (fIf (fT (fName 3)) (fDisp gTup [(fName 1), (fName 2)]) (fDisp gTup [(fName 2), (fName 1)]))))
def m_ends_of : FnM := fnM 3 b_ends_of
-- is_name, slots 0:thing 1:sign
def b_is_name (T : TK → TK → Option Bool) : MS :=
  (fSeq (fIfS (fOr (fNot (fT (fOpN (gIsi T) [(.sl 0), (.ex (fC (.ty "str")))]))) (fNot (fT (fChain gLe gLe (.ex (fC (.int 1))) (.ex (fOpN gLenA [(.sl 0)])) (.ex (fC (.int 8))))))) (fRet (fC (.bl false))) fNext)
  (fRet (fOpN gAll [(.ex (fComp itemsA (.sl 0) [1] (bindN 1) fYes (fOp2 gInA (.sl 1) (.ex (fC (.str "abcdefghijklmnopqrstuvwxyz"))))))])))
def m_is_name (T : TK → TK → Option Bool) : FnM := fnM 1 (b_is_name T)
-- are_names, slots 0:thing 1:one
def b_are_names (T : TK → TK → Option Bool) : MS :=
  (fSeq (fIfS (fOr (fNot (fT (fOpN (gIsi T) [(.sl 0), (.ex (fDisp gTup [(fC (.ty "list")), (fC (.ty "tuple"))]))]))) (fNot (fT (fOpN gAll [(.ex (fComp itemsA (.sl 0) [1] (bindN 1) fYes (fCall (m_is_name T) [(.sl 1)])))])))) (fRet (fC (.bl false))) fNext)
  (fRet (fOp2 gEq (.ex (fOp1 gLenSet (.sl 0))) (.ex (fOpN gLenA [(.sl 0)])))))
def m_are_names (T : TK → TK → Option Bool) : FnM := fnM 1 (b_are_names T)
-- is_pair, slots 0:thing
def b_is_pair (T : TK → TK → Option Bool) : MS :=
  (fRet (fAndV (fOpN (gIsi T) [(.sl 0), (.ex (fC (.ty "tuple")))]) (fAndV (fOp2 gEq (.ex (fOpN gLenA [(.sl 0)])) (.ex (fC (.int 2)))) (fCall (m_are_names T) [(.sl 0)]))))
def m_is_pair (T : TK → TK → Option Bool) : FnM := fnM 0 (b_is_pair T)
-- is_answer, slots 0:thing
def b_is_answer (T : TK → TK → Option Bool) : MS :=
  (fRet (fAndV (fOpN (gIsi T) [(.sl 0), (.ex (fC (.ty "tuple")))]) (fAndV (fOp2 gEq (.ex (fOpN gLenA [(.sl 0)])) (.ex (fC (.int 3)))) (fAndV (fCall (m_is_pair T) [(.ex (fSl gSlA (.sl 0) none (some (fC (.int 2)))))]) (fOpN (gIsi T) [(.ex (fOp2 gSubD (.sl 0) (.ex (fC (.int 2))))), (.ex (fC (.ty "bool")))])))))
def m_is_answer (T : TK → TK → Option Bool) : FnM := fnM 0 (b_is_answer T)
-- pair_of, slots 0:answer
def b_pair_of : MS :=
  (fRet (fSl gSlA (.sl 0) none (some (fC (.int 2)))))
def m_pair_of : FnM := fnM 0 b_pair_of
-- are_answers, slots 0:thing 1:one
def b_are_answers (T : TK → TK → Option Bool) : MS :=
  (fRet (fAndV (fOpN (gIsi T) [(.sl 0), (.ex (fDisp gTup [(fC (.ty "list")), (fC (.ty "tuple"))]))]) (fOpN gAll [(.ex (fComp itemsA (.sl 0) [1] (bindN 1) fYes (fCall (m_is_answer T) [(.sl 1)])))])))
def m_are_answers (T : TK → TK → Option Bool) : FnM := fnM 1 (b_are_answers T)
-- Book.__contains__, slots 0:self 1:thing
def b_Book_contains (T : TK → TK → Option Bool) : MS :=
  (fRet (fAndV (fCall (m_is_answer T) [(.sl 1)]) (fOp2 gEq (.ex (fGet1 (.ex (fOp1 (gFld ["Book"] "its_truths") (.sl 0))) (.ex (fCall m_pair_of [(.sl 1)])))) (.ex (fOp2 gSubD (.sl 1) (.ex (fC (.int 2))))))))
def m_Book_contains (T : TK → TK → Option Bool) : FnM := fnM 0 (b_Book_contains T)
-- Book.__init__, slots 0:self 1:things 2:answers 3:answer 4:truths 5:name 6:pair 7:truth
def b_Book_init (T : TK → TK → Option Bool) : MS :=
  (fSeq (fIfS (fNot (fT (fCall (m_are_names T) [(.sl 1)]))) fNever fNext)
  (fSeq (fIfS (fNot (fT (fCall (m_are_answers T) [(.sl 2)]))) fNever fNext)
  (fSeq (fFor itemsA (.sl 2) (bindN 3) (fFor itemsA (.ex (fCall m_pair_of [(.sl 3)])) (bindN 5) (fIfS (fT (fOp2 gNotInA (.sl 5) (.sl 1))) fNever fNext)))
  (fSeq (fAsg 4 (fNew (.dT [])))
  (fSeq (fFor itemsA (.sl 2) (bindN 3) (fSeq (fAsg 6 (fCall m_pair_of [(.sl 3)]))
  (fSeq (fIfS (fT (fOp2 gNe (.ex (fGet2 (.sl 4) (.sl 6) (fOp2 gSubD (.sl 3) (.ex (fC (.int 2)))))) (.ex (fOp2 gSubD (.sl 3) (.ex (fC (.int 2))))))) fNever fNext)
  (fSet 4 gSetA (fName 6) (fOp2 gSubD (.sl 3) (.ex (fC (.int 2))))))))
  (fSeq (fSetF 0 ["Book"] "its_things" (fOpN gTuple [(.ex (fOpN gSortedA [(.sl 1)]))]))
  (fSeq (fSetF 0 ["Book"] "its_truths" (fDComp true itemsA (.ex (fOpN gSortedA [(.sl 4)])) [6] (bindN 6) fYes (fName 6) (fOp2 gSubD (.sl 4) (.sl 6))))
  (fSetF 0 ["Book"] "its_answers" (fOpN gTuple [(.ex (fCompD itmD (.fd ["Book"] "its_truths" 0) [6, 7] (bindT [6, 7]) fYes (fDispS gTup [(true, (fName 6)), (false, (fName 7))])))])))))))))
def m_Book_init (T : TK → TK → Option Bool) : FnM := fnM 5 (b_Book_init T)
-- _law_weight, slots 0:_law_walk_here 1:_law_betters 2:_law_answer
def b_law_weight : MS :=
  (fSeq (fAsg 1 (fOpN gLenA [(.ex (fComp itemsA (.sl 0) [2] (bindN 2) (fT (fOp2 gSubD (.sl 2) (.ex (fC (.int 2))))) (fName 2)))]))
  (fRet (fDisp gTup [(fOp2 gMinus (.sl 1) (.ex (fOp2 gMinus (.ex (fOpN gLenA [(.sl 0)])) (.sl 1)))), (fName 1)])))
def m_law_weight : FnM := fnM 2 b_law_weight
-- _law_walk, slots 0:_law_bag_here 1:_law_answers 2:_law_many 3:_law_walk_here 4:_law_k 5:_law_after 6:_law_one
def b_law_walk : MS :=
  (fSeq (fAsg 3 (fDisp gLst []))
  (fSeq (fForN gRng1 [(.ex (fCall m_law_take [(.sl 0), (.ex (fOp2 gAddA (.sl 2) (.ex (fC (.int 1)))))]))] (bindN 4) (fSeq (fAsg 5 (fComp itemsA (.sl 1) [6] (bindN 6) (fOr (fT (fOp2 gEq (.sl 3) (.ex (fDisp gLst [])))) (fT (fOp2 gEq (.ex (fOp2 gSubD (.ex (fCall m_law_leads [(.sl 6)])) (.ex (fC (.int 0))))) (.ex (fOp2 gSubD (.ex (fCall m_law_leads [(.ex (fOp2 gSubD (.sl 3) (.ex (fOp1 gNeg (.ex (fC (.int 1)))))))])) (.ex (fC (.int 1)))))))) (fName 6)))
  (fIfS (fT (fOp2 gNe (.sl 5) (.ex (fDisp gLst [])))) (fExpr (fMut 3 isL gAppend [(fCall m_law_pick [(.sl 0), (.sl 5)])])) fNext)))
  (fRetN 3)))
def m_law_walk : FnM := fnM 4 b_law_walk
-- _law_is_walk, slots 0:_law_answers 1:_law_thing 2:_law_texts 3:_law_answer 4:_law_item 5:_law_k
def b_law_is_walk (T : TK → TK → Option Bool) : MS :=
  (fSeq (fIfS (fNot (fT (fOpN (gIsi T) [(.sl 1), (.ex (fC (.ty "list")))]))) (fRet (fC (.bl false))) fNext)
  (fSeq (fAsg 2 (fComp itemsA (.sl 0) [3] (bindN 3) fYes (fOpN gReprA [(.sl 3)])))
  (fSeq (fIfS (fT (fOp2 gNe (.ex (fComp itemsA (.sl 1) [4] (bindN 4) (fT (fOp2 gNotInA (.ex (fOpN gReprA [(.sl 4)])) (.sl 2))) (fName 4))) (.ex (fDisp gLst [])))) (fRet (fC (.bl false))) fNext)
  (fRet (fOp2 gEq (.ex (fCompN gRng2 [(.ex (fC (.int 1))), (.ex (fOpN gLenA [(.sl 1)]))] [5] (bindN 5) (fT (fOp2 gNe (.ex (fOp2 gSubD (.ex (fCall m_law_leads [(.ex (fOp2 gSubD (.sl 1) (.ex (fOp2 gMinus (.sl 5) (.ex (fC (.int 1)))))))])) (.ex (fC (.int 1))))) (.ex (fOp2 gSubD (.ex (fCall m_law_leads [(.ex (fOp2 gSubD (.sl 1) (.sl 5)))])) (.ex (fC (.int 0))))))) (fName 5))) (.ex (fDisp gLst [])))))))
def m_law_is_walk (T : TK → TK → Option Bool) : FnM := fnM 4 (b_law_is_walk T)
-- _law_odd_walk, slots 0:_law_bag_here 1:_law_walk_here 2:_law_things 3:_law_odd 4:_law_deep 5:_law_k 6:_law_x 7:_law_y 8:_law_way 9:_law_at 10:_law_one 11:_law_other 12:_law_truth
def b_law_odd_walk : MS :=
  (fSeq (fBind (bindU [6, 7]) (fCall m_law_pick [(.sl 0), (.ex (fCall m_law_pairs [(.sl 2)]))]))
  (fSeq (fAsg 3 (fDisp gLst [(fC .non), (fC (.int 5)), (fC (.bl true)), (fC (.str "walk")), (fDisp gTup []), (fDisp gLst [(fDisp gTup [])]), (fNew (.dK [])), (fOp2 gMul (.ex (fDisp gLst [(fC .non)])) (.ex (fC (.int 9000)))), (fDisp gLst [(fDisp gTup [(fName 6), (fName 7)])]), (fDisp gLst [(fDisp gTup [(fName 6), (fName 7), (fC (.int 1))])]), (fDisp gLst [(fDisp gTup [(fName 6), (fName 7), (fC (.str "True"))])])]))
  (fSeq (fAsg 3 (fOp2 gAddA (.sl 3) (.ex (fDisp gLst [(fDisp gLst [(fDisp gLst [(fName 6), (fName 7), (fC (.bl true))])]), (fDisp gLst [(fDisp gTup [(fName 6), (fName 6), (fC (.bl true))])]), (fDisp gLst [(fDisp gTup [(fName 6), (fC (.str "nobody")), (fC (.bl false))])]), (fDisp gLst [(fDisp gTup [(fName 6), (fName 7), (fC (.bl true)), (fName 6)])]), (fDisp gLst [(fDisp gTup [(fName 6), (fName 7), (fC .non)])])]))))
  (fSeq (fAsg 4 (fDisp gLst [(fDisp gTup [(fName 6), (fName 7), (fC (.bl true))])]))
  (fSeq (fForN gRng1 [(.ex (fC (.int 30)))] (bindN 5) (fAsg 4 (fDisp gLst [(fName 4)])))
  (fSeq (fAsg 3 (fOp2 gAddA (.sl 3) (.ex (fDisp gLst [(fOpN gTuple [(.sl 1)]), (fDisp gLst [(fName 1)]), (fDisp gLst [(fName 6)]), (fName 4), (fDisp gLst [(fDisp gTup [(fName 6), (fDisp gLst []), (fC (.bl true))])]), (fDisp gLst [(fDisp gTup [(fDisp gLst [(fName 6)]), (fName 7), (fC (.bl true))])]), (fDisp gLst [(fDisp gTup [(fName 6), (fName 7), (fDisp gLst [])])])]))))
  (fSeq (fExpr (fMut 3 isL gAppend [(fOp2 gAddA (.ex (fOp2 gAddA (.ex (fSl gSlA (.sl 1) none (some (fC (.int 1))))) (.ex (fComp itemsA (.ex (fSl gSlA (.sl 1) (some (fC (.int 1))) (some (fC (.int 2))))) [10, 11, 12] (bindT [10, 11, 12]) fYes (fDisp gTup [(fName 10), (fName 11), (fOpN gInt [(.sl 12)])]))))) (.ex (fSl gSlA (.sl 1) (some (fC (.int 2))) none)))]))
  (fSeq (fExpr (fMut 3 isL gAppend [(fOp2 gAddA (.ex (fComp itemsA (.ex (fSl gSlA (.sl 1) none (some (fC (.int 1))))) [10, 11, 12] (bindT [10, 11, 12]) fYes (fDisp gTup [(fName 10), (fName 11), (fOpN gInt [(.sl 12)])]))) (.ex (fSl gSlA (.sl 1) (some (fC (.int 1))) none)))]))
  (fSeq (fPar 8 9 (fCall m_law_take [(.sl 0), (.ex (fC (.int 8)))]) (fCall m_law_take [(.sl 0), (.ex (fOp2 gAddA (.ex (fOpN gLenA [(.sl 1)])) (.ex (fC (.int 1)))))]))
  (fSeq (fIfS (fT (fOp2 gLt (.sl 8) (.ex (fC (.int 2))))) (fRet (fOp2 gSubD (.sl 3) (.ex (fCall m_law_take [(.sl 0), (.ex (fC (.int 25)))])))) fNext)
  (fSeq (fIfS (fT (fOp2 gEq (.sl 8) (.ex (fC (.int 2))))) (fRet (fOp1 gRev (.sl 1))) fNext)
  (fSeq (fIfS (fT (fOp2 gEq (.sl 8) (.ex (fC (.int 3))))) (fRet (fOp2 gAddA (.ex (fOp2 gAddA (.ex (fSl gSlA (.sl 1) none (some (fName 9)))) (.ex (fDisp gLst [(fDisp gTup [(fName 6), (fName 7), (fOp2 gEq (.ex (fCall m_law_take [(.sl 0), (.ex (fC (.int 2)))])) (.ex (fC (.int 0))))])])))) (.ex (fSl gSlA (.sl 1) (some (fName 9)) none)))) fNext)
  (fSeq (fIfS (fT (fOp2 gEq (.sl 8) (.ex (fC (.int 4))))) (fRet (fOp2 gAddA (.ex (fSl gSlA (.sl 1) none (some (fName 9)))) (.ex (fSl gSlA (.sl 1) (some (fOp2 gAddA (.sl 9) (.ex (fC (.int 1))))) none)))) fNext)
  (fSeq (fIfS (fT (fOp2 gEq (.sl 8) (.ex (fC (.int 5))))) (fRet (fOp2 gAddA (.sl 1) (.ex (fSl gSlA (.sl 1) none (some (fName 9)))))) fNext)
  (fSeq (fIfS (fT (fOp2 gEq (.sl 8) (.ex (fC (.int 6))))) (fRet (fOp2 gAddA (.ex (fOp2 gAddA (.ex (fSl gSlA (.sl 1) none (some (fName 9)))) (.ex (fComp itemsA (.ex (fSl gSlA (.sl 1) (some (fName 9)) (some (fOp2 gAddA (.sl 9) (.ex (fC (.int 1))))))) [10, 11, 12] (bindT [10, 11, 12]) fYes (fDisp gTup [(fName 10), (fName 11), (fNotV (fName 12))]))))) (.ex (fSl gSlA (.sl 1) (some (fOp2 gAddA (.sl 9) (.ex (fC (.int 1))))) none)))) fNext)
  (fRet (fOp2 gAddA (.ex (fSl gSlA (.sl 1) (some (fName 9)) none)) (.ex (fSl gSlA (.sl 1) none (some (fName 9)))))))))))))))))))))
def m_law_odd_walk : FnM := fnM 10 b_law_odd_walk
-- _law_told, slots 0:_law_walk_here 1:_law_answer
def b_law_told : MS :=
  (fRet (fOp2 gAddA (.ex (fDisp gLst [(fOp2 gSubD (.ex (fCall m_law_leads [(.ex (fOp2 gSubD (.sl 0) (.ex (fC (.int 0)))))])) (.ex (fC (.int 0))))])) (.ex (fComp itemsA (.sl 0) [1] (bindN 1) fYes (fOp2 gSubD (.ex (fCall m_law_leads [(.sl 1)])) (.ex (fC (.int 1))))))))
def m_law_told : FnM := fnM 1 b_law_told
-- is_walk, slots 0:book 1:thing 2:one 3:other 4:item
def b_is_walk (T : TK → TK → Option Bool) : MS :=
  (fSeq (fIfS (fOr (fNot (fT (fOpN (gIsi T) [(.sl 1), (.ex (fC (.ty "list")))]))) (fNot (fT (fOpN gAll [(.ex (fComp itemsA (.sl 1) [4] (bindN 4) fYes (fSp2 true .bool (tb1 "Book" (m_Book_contains T)) (.sl 4) (.sl 0))))])))) (fRet (fC (.bl false))) fNext)
  (fRet (fOpN gAll [(.ex (fCompZ gZip [(fName 1), (fSl gSlA (.sl 1) (some (fC (.int 1))) none)] [2, 3] (bindT [2, 3]) fYes (fOp2 gEq (.ex (fOp2 gSubD (.ex (fCall m_ends_of [(.sl 2)])) (.ex (fC (.int 1))))) (.ex (fOp2 gSubD (.ex (fCall m_ends_of [(.sl 3)])) (.ex (fC (.int 0))))))))])))
def m_is_walk (T : TK → TK → Option Bool) : FnM := fnM 3 (b_is_walk T)
-- things_through, slots 0:walk 1:answer
def b_things_through : MS :=
  (fRet (fOp2 gAddA (.ex (fDisp gLst [(fOp2 gSubD (.ex (fCall m_ends_of [(.ex (fOp2 gSubD (.sl 0) (.ex (fC (.int 0)))))])) (.ex (fC (.int 0))))])) (.ex (fComp itemsA (.sl 0) [1] (bindN 1) fYes (fOp2 gSubD (.ex (fCall m_ends_of [(.sl 1)])) (.ex (fC (.int 1))))))))
def m_things_through : FnM := fnM 1 b_things_through
-- weight_of, slots 0:walk 1:betters 2:answer
def b_weight_of : MS :=
  (fSeq (fAsg 1 (fOpN gLenA [(.ex (fComp itemsA (.sl 0) [2] (bindN 2) (fT (fOp2 gSubD (.sl 2) (.ex (fC (.int 2))))) (fC (.int 1))))]))
  (fRet (fDisp gTup [(fOp2 gMinus (.ex (fOp2 gMul (.ex (fC (.int 2))) (.sl 1))) (.ex (fOpN gLenA [(.sl 0)]))), (fName 1)])))
def m_weight_of : FnM := fnM 2 b_weight_of
-- Book.answers, slots 0:self
def b_Book_answers : MS :=
  (fRet (fOpN gListA [(.ex (fOp1 (gFld ["Book"] "its_answers") (.sl 0)))]))
def m_Book_answers : FnM := fnM 0 b_Book_answers
-- Book.things, slots 0:self
def b_Book_things : MS :=
  (fRet (fOpN gListA [(.ex (fOp1 (gFld ["Book"] "its_things") (.sl 0)))]))
def m_Book_things : FnM := fnM 0 b_Book_things
-- is_possible, slots 0:book 1:known 2:answer 3:middle 4:things 5:much 6:steps 7:here 8:there 9:thing
def b_is_possible : MS :=
  (fSeq (fPar 4 5 (fMeth "things" (tb1 "Book" m_Book_things) (.sl 0) []) (fOp2 gAddA (.ex (fOpN gLenA [(.ex (fMeth "things" (tb1 "Book" m_Book_things) (.sl 0) []))])) (.ex (fC (.int 1)))))
  (fSeq (fAsg 1 (fDComp true itemsA (.sl 4) [9] (bindN 9) fYes (fDisp gTup [(fName 9), (fName 9)]) (fC (.int 0))))
  (fSeq (fFor itemsA (.ex (fMeth "answers" (tb1 "Book" m_Book_answers) (.sl 0) [])) (bindN 2) (fSeq (fAsg 6 (fIf (fT (fOp2 gSubD (.sl 2) (.ex (fC (.int 2))))) (fOp2 gAddA (.sl 5) (.ex (fC (.int 1)))) (fOp1 gNeg (.sl 5))))
  (fSet 1 gSetA (fCall m_ends_of [(.sl 2)]) (fOpN gMaxA [(.sl 6), (.ex (fGet2 (.sl 1) (.ex (fCall m_ends_of [(.sl 2)])) (fName 6)))]))))
  (fSeq (fFor itemsA (.sl 4) (bindN 3) (fSeq (fFor itemsA (.sl 4) (bindN 7) (fFor itemsA (.sl 4) (bindN 8) (fIfS (fAnd (fT (fOp2 gInA (.ex (fDisp gTup [(fName 7), (fName 3)])) (.sl 1))) (fT (fOp2 gInA (.ex (fDisp gTup [(fName 3), (fName 8)])) (.sl 1)))) (fSeq (fAsg 6 (fOp2 gAddA (.ex (fOp2 gSubD (.sl 1) (.ex (fDisp gTup [(fName 7), (fName 3)])))) (.ex (fOp2 gSubD (.sl 1) (.ex (fDisp gTup [(fName 3), (fName 8)]))))))
  (fSet 1 gSetA (fDisp gTup [(fName 7), (fName 8)]) (fOpN gMaxA [(.sl 6), (.ex (fGet2 (.sl 1) (.ex (fDisp gTup [(fName 7), (fName 8)])) (fName 6)))]))) fNext)))
  (fIfS (fT (fOp2 gGt (.ex (fOpN gMaxA [(.ex (fComp itemsA (.sl 4) [9] (bindN 9) fYes (fOp2 gSubD (.sl 1) (.ex (fDisp gTup [(fName 9), (fName 9)])))))])) (.ex (fC (.int 0))))) (fRet (fC (.bl false))) fNext)))
  (fRet (fC (.bl true)))))))
def m_is_possible : FnM := fnM 9 b_is_possible
-- step_of, slots 0:answer
def b_step_of : MS :=
  (fRet (fIf (fT (fOp2 gSubD (.sl 0) (.ex (fC (.int 2))))) (fC (.int 1)) (fOp1 gNeg (.ex (fC (.int 1))))))
def m_step_of : FnM := fnM 0 b_step_of
-- next_answer, slots 0:answers 1:level 2:here 3:last 4:steps 5:answer 6:begin 7:there
def b_next_answer : MS :=
  (fSeq (fFor itemsA (.sl 0) (bindN 5) (fSeq (fBind (bindU [6, 7]) (fCall m_ends_of [(.sl 5)]))
  (fIfS (fAnd (fT (fOp2 gEq (.sl 6) (.sl 2))) (fAnd (fT (fOp2 gInA (.ex (fDisp gTup [(fName 7), (fName 3)])) (.sl 1))) (fT (fOp2 gGe (.ex (fOp2 gAddA (.ex (fOp2 gAddA (.sl 4) (.ex (fCall m_step_of [(.sl 5)])))) (.ex (fOp2 gSubD (.sl 1) (.ex (fDisp gTup [(fName 7), (fName 3)])))))) (.ex (fC (.int 0))))))) (fRetN 5) fNext)))
  (fRet (fC .non)))
def m_next_answer : FnM := fnM 3 b_next_answer
-- least_ring, slots 0:book 1:levels 2:first 3:many 4:answers 5:begin 6:here 7:found 8:steps 9:rest 10:answer
def b_least_ring : MS :=
  (fSeq (fPar 3 4 (fOp2 gMinus (.ex (fOpN gLenA [(.sl 1)])) (.ex (fC (.int 1)))) (fMeth "answers" (tb1 "Book" m_Book_answers) (.sl 0) []))
  (fSeq (fFor itemsA (.sl 4) (bindN 2) (fSeq (fBind (bindU [5, 6]) (fCall m_ends_of [(.sl 2)]))
  (fSeq (fPar 7 8 (fDisp gLst [(fName 2)]) (fCall m_step_of [(.sl 2)]))
  (whileM (fT (fOp2 gLe (.ex (fOpN gLenA [(.sl 7)])) (.sl 3))) (fSeq (fAsg 9 (fGet1 (.ex (fOp2 gSubD (.sl 1) (.ex (fOp2 gMinus (.sl 3) (.ex (fOpN gLenA [(.sl 7)])))))) (.ex (fDisp gTup [(fName 6), (fName 5)]))))
  (fSeq (fIfS (fOr (fT (fOp1 gIsN (.sl 9))) (fT (fOp2 gLt (.ex (fOp2 gAddA (.sl 8) (.sl 9))) (.ex (fC (.int 0)))))) (fun ρ => some (.bk, ρ)) fNext)
  (fSeq (fIfS (fT (fOp2 gEq (.ex (fOpN gLenA [(.sl 7)])) (.sl 3))) (fRetN 7) fNext)
  (fSeq (fAsg 10 (fCall m_next_answer [(.sl 4), (.ex (fOp2 gSubD (.sl 1) (.ex (fOp2 gMinus (.ex (fOp2 gMinus (.sl 3) (.ex (fOpN gLenA [(.sl 7)])))) (.ex (fC (.int 1))))))), (.sl 6), (.sl 5), (.sl 8)]))
  (fSeq (fExpr (fMut 7 isL gAppend [(fName 10)]))
  (fPar 6 8 (fOp2 gSubD (.ex (fCall m_ends_of [(.sl 10)])) (.ex (fC (.int 1)))) (fOp2 gAddA (.sl 8) (.ex (fCall m_step_of [(.sl 10)]))))))))) fuel))))
  (fRet (fC .non))))
def m_least_ring : FnM := fnM 9 b_least_ring
-- one_more, slots 0:book 1:level 2:found 3:answer 4:last 5:here 6:there 7:more
def b_one_more : MS :=
  (fSeq (fAsg 2 (fNew (.dT [])))
  (fSeq (fFor itemsA (.ex (fMeth "answers" (tb1 "Book" m_Book_answers) (.sl 0) [])) (bindN 3) (fSeq (fBind (bindU [5, 6]) (fCall m_ends_of [(.sl 3)]))
  (fFor itemsA (.ex (fMeth "things" (tb1 "Book" m_Book_things) (.sl 0) [])) (bindN 4) (fIfS (fT (fOp2 gInA (.ex (fDisp gTup [(fName 6), (fName 4)])) (.sl 1))) (fSeq (fAsg 7 (fOp2 gAddA (.ex (fCall m_step_of [(.sl 3)])) (.ex (fOp2 gSubD (.sl 1) (.ex (fDisp gTup [(fName 6), (fName 4)]))))))
  (fSet 2 gSetA (fDisp gTup [(fName 5), (fName 4)]) (fOpN gMaxA [(.ex (fGet2 (.sl 2) (.ex (fDisp gTup [(fName 5), (fName 4)])) (fName 7))), (.sl 7)]))) fNext))))
  (fRetN 2)))
def m_one_more : FnM := fnM 6 b_one_more
-- ring_of, slots 0:book 1:levels 2:thing
def b_ring_of : MS :=
  (fSeq (fIfS (fT (fCall m_is_possible [(.sl 0)])) (fRet (fC .non)) fNext)
  (fSeq (fAsg 1 (fDisp gLst [(fDComp true itemsA (.ex (fMeth "things" (tb1 "Book" m_Book_things) (.sl 0) [])) [2] (bindN 2) fYes (fDisp gTup [(fName 2), (fName 2)]) (fC (.int 0)))]))
  (fSeq (whileM (fOr (fT (fOp2 gLt (.ex (fOpN gMaxA [(.ex (fComp itemsA (.ex (fMeth "things" (tb1 "Book" m_Book_things) (.sl 0) [])) [2] (bindN 2) fYes (fGet2 (.ex (fOp2 gSubD (.sl 1) (.ex (fOp1 gNeg (.ex (fC (.int 1))))))) (.ex (fDisp gTup [(fName 2), (fName 2)])) (fOp1 gNeg (.ex (fC (.int 1)))))))])) (.ex (fC (.int 0))))) (fT (fOp2 gEq (.ex (fOpN gLenA [(.sl 1)])) (.ex (fC (.int 1)))))) (fExpr (fMut 1 isL gAppend [(fCall m_one_more [(.sl 0), (.ex (fOp2 gSubD (.sl 1) (.ex (fOp1 gNeg (.ex (fC (.int 1)))))))])])) fuel)
  (fRet (fCall m_least_ring [(.sl 0), (.sl 1)])))))
def m_ring_of : FnM := fnM 2 b_ring_of
-- is_ring, slots 0:book 1:thing
def b_is_ring (T : TK → TK → Option Bool) : MS :=
  (fSeq (fIfS (fOr (fNot (fT (fCall (m_is_walk T) [(.sl 0), (.sl 1)]))) (fT (fOp2 gEq (.sl 1) (.ex (fDisp gLst []))))) (fRet (fC (.bl false))) fNext)
  (fRet (fAndV (fOp2 gEq (.ex (fOp2 gSubD (.ex (fCall m_ends_of [(.ex (fOp2 gSubD (.sl 1) (.ex (fC (.int 0)))))])) (.ex (fC (.int 0))))) (.ex (fOp2 gSubD (.ex (fCall m_ends_of [(.ex (fOp2 gSubD (.sl 1) (.ex (fOp1 gNeg (.ex (fC (.int 1)))))))])) (.ex (fC (.int 1)))))) (fOp2 gGe (.ex (fOp2 gSubD (.ex (fCall m_weight_of [(.sl 1)])) (.ex (fC (.int 0))))) (.ex (fC (.int 0)))))))
def m_is_ring (T : TK → TK → Option Bool) : FnM := fnM 0 (b_is_ring T)
-- _law_is_ring, slots 0:_law_answers 1:_law_thing
def b_law_is_ring (T : TK → TK → Option Bool) : MS :=
  (fSeq (fIfS (fOr (fNot (fT (fCall (m_law_is_walk T) [(.sl 0), (.sl 1)]))) (fT (fOp2 gEq (.sl 1) (.ex (fDisp gLst []))))) (fRet (fC (.bl false))) fNext)
  (fRet (fAndV (fOp2 gEq (.ex (fOp2 gSubD (.ex (fCall m_law_leads [(.ex (fOp2 gSubD (.sl 1) (.ex (fC (.int 0)))))])) (.ex (fC (.int 0))))) (.ex (fOp2 gSubD (.ex (fCall m_law_leads [(.ex (fOp2 gSubD (.sl 1) (.ex (fOp1 gNeg (.ex (fC (.int 1)))))))])) (.ex (fC (.int 1)))))) (fOp2 gGe (.ex (fOp2 gSubD (.ex (fCall m_law_weight [(.sl 1)])) (.ex (fC (.int 0))))) (.ex (fC (.int 0)))))))
def m_law_is_ring (T : TK → TK → Option Bool) : FnM := fnM 0 (b_law_is_ring T)
-- _law_rounds, slots 0:_law_bag_here 1:_law_answers 2:_law_found 3:_law_k 4:_law_walk_here
def b_law_rounds : MS :=
  (fSeq (fAsg 2 (fDisp gLst []))
  (fSeq (fForN gRng1 [(.ex (fC (.int 6)))] (bindN 3) (fSeq (fAsg 4 (fCall m_law_walk [(.sl 0), (.sl 1), (.ex (fC (.int 7)))]))
  (fIfS (fAnd (fT (fOp2 gNe (.sl 4) (.ex (fDisp gLst [])))) (fT (fOp2 gEq (.ex (fOp2 gSubD (.ex (fCall m_law_leads [(.ex (fOp2 gSubD (.sl 4) (.ex (fC (.int 0)))))])) (.ex (fC (.int 0))))) (.ex (fOp2 gSubD (.ex (fCall m_law_leads [(.ex (fOp2 gSubD (.sl 4) (.ex (fOp1 gNeg (.ex (fC (.int 1)))))))])) (.ex (fC (.int 1)))))))) (fExpr (fMut 2 isL gAppend [(fName 4)])) fNext)))
  (fRetN 2)))
def m_law_rounds : FnM := fnM 3 b_law_rounds
-- _law_worths, slots 0:_law_bag_here 1:_law_things 2:_law_step 3:_law_wide 4:_law_thing
def b_law_worths : MS :=
  (fSeq (fAsg 2 (fOp2 gAddA (.ex (fC (.int 1))) (.ex (fCall m_law_take [(.sl 0), (.ex (fC (.int 4)))]))))
  (fSeq (fAsg 3 (fOp2 gMul (.ex (fOp2 gSubD (.ex (fDisp gLst [(fC (.int 2)), (fC (.int 3)), (fC (.int 5)), (fC (.int 9))])) (.ex (fCall m_law_take [(.sl 0), (.ex (fC (.int 4)))])))) (.sl 2)))
  (fRet (fDisp gTup [(fOpN gDictP [(.ex (fComp itemsA (.sl 1) [4] (bindN 4) fYes (fDisp gTup [(fName 4), (fCall m_law_take [(.sl 0), (.sl 3)])])))]), (fName 2)]))))
def m_law_worths : FnM := fnM 3 b_law_worths
-- _law_betters, slots 0:_law_worths_here 1:_law_step 2:_law_x 3:_law_y
def b_law_betters : MS :=
  (fRet (fComp itemsA (.ex (fCall m_law_pairs [(.ex (fOpN gListA [(.sl 0)]))])) [2, 3] (bindT [2, 3]) (fT (fOp2 gGt (.ex (fOp2 gMinus (.ex (fOp2 gSubD (.sl 0) (.sl 2))) (.ex (fOp2 gSubD (.sl 0) (.sl 3))))) (.sl 1))) (fDisp gTup [(fName 2), (fName 3)])))
def m_law_betters : FnM := fnM 2 b_law_betters
-- _law_all_answers, slots 0:_law_things 1:_law_betters_here 2:_law_x 3:_law_y
def b_law_all_answers : MS :=
  (fRet (fComp itemsA (.ex (fCall m_law_pairs [(.sl 0)])) [2, 3] (bindT [2, 3]) fYes (fDisp gTup [(fName 2), (fName 3), (fOp2 gInA (.ex (fDisp gTup [(fName 2), (fName 3)])) (.sl 1))])))
def m_law_all_answers : FnM := fnM 2 b_law_all_answers
end VI

/-! The law machine: draws, mixes, names. -/
namespace VI
open PySem PySem.Spec PyProof.Rows L2
/-! ### the bag -/
def bagD (r m k : Int) (cells : List D) : D := .lst [.int r, .int m, .int k, .lst cells]
def Cells (cells : List D) : Prop := ∀ d ∈ cells, ∃ c : Int, 0 ≤ c ∧ d = .int c
def BagOk (b : D) : Prop := ∃ r m k cells, b = bagD r m k cells ∧ 0 ≤ r ∧ Cells cells ∧ cells.length ≤ 1000000
theorem cut_len (xs : List D) (lo hi : Option Int) : (cutD xs lo hi).length ≤ xs.length := by
  unfold cutD; rw [List.length_take, List.length_drop]; omega
theorem cell_ex {cells : List D} (h : Cells cells) (k : Int) : ∃ c : Int, 0 ≤ c ∧ atI (cutD cells (some k) none ++ [.int 0]) 0 = some (.int c) := by
  have key : ∀ l : List D, Cells l → ∃ c : Int, 0 ≤ c ∧ atI (l ++ [.int 0]) 0 = some (.int c) := by
    intro l hl
    cases l with
    | nil => exact ⟨0, Int.le_refl 0, rfl⟩
    | cons d l =>
      obtain ⟨c, hc, rfl⟩ := hl d List.mem_cons_self
      exact ⟨c, hc, atI_nat (j := 0) rfl⟩
  exact key _ fun d hd => h d (List.mem_of_mem_drop (List.mem_of_mem_take hd))
/-- a draw -/
theorem take_w {b : D} {many : Int} (hb : BagOk b) (h1 : 0 < many) (h2 : many < 1073741824) {Q : Sl → List Sl → Prop}
    (q : ∀ t b', 0 ≤ t → t < many → BagOk b' → Q ⟨.fz, .int t⟩ [⟨.par, b'⟩, ⟨.fz, .int many⟩]) : wM m_law_take [⟨.par, b⟩, ⟨.fz, .int many⟩] Q := by
  obtain ⟨r, m, k, cells, rfl, hr, hc, hz⟩ := hb
  have hm0 : many ≠ 0 := by omega
  have hma : many.natAbs < 1073741824 := by omega
  rw [m_law_take, w_fn, b_law_take]
  simp only [List.map_cons, List.map_nil, List.cons_append, List.nil_append, List.replicate_succ, List.replicate_zero]
  rw [w_seq]
  refine wS_mono (QS := fun fl ρ => fl = .nx ∧ ∃ r m k x4 x5, 0 ≤ r ∧ ρ = [some ⟨.par, bagD r m k cells⟩, some ⟨.fz, .int many⟩, none, none, x4, x5, none]) ?_ ?_
  · by_cases h0 : r = 0
    · subst h0
      obtain ⟨c, c0, ec⟩ := cell_ex hc k
      have e1 : ∀ x : Int, CMul x 48271 := fun x => .inr ⟨by decide, by decide⟩
      have e2 : ∀ x : Int, CMul 7919 x := fun x => .inl ⟨by decide, by decide⟩
      have e3 : ∀ x : Int, ∀ p : Prop, ∀ _ : Decidable p, CMul x (if p then 1 else 0) := fun x p _ => .inr (by split <;> exact ⟨by decide, by decide⟩)
      have e4 : CPow 10 18 := ⟨by decide, by decide, by decide⟩
      have e5 : (cutD cells (some k) none).length + 1 ≤ 16777216 := by
        have := cut_len cells (some k) none
        omega
      simp [bagD, ok_int, eqD_int, free, e1, e2, e3, e4, e5, ec, -Int.reducePow]
      split
      · omega
      · omega
    · simp [bagD, ok_int, eqD_int, h0, hr]
  · rintro fl ρ ⟨rfl, r, m, k, x4, x5, hr, rfl⟩
    by_cases h0 : 0 < r
    · have n1 := Int.fmod_nonneg_of_pos r h1
      have n2 := Int.fmod_lt_of_pos r h1
      have := q (r.fmod many) (bagD (r.fdiv many) m k cells) n1 n2 ⟨_, _, _, _, rfl, Int.fdiv_nonneg hr (Int.le_of_lt h1), hc, hz⟩
      simp [bagD, h0, hm0, CDivN, hma, free, outs]
      exact this
    · have e1 : ∀ x : Int, CMul x 39373 := fun x => .inr ⟨by decide, by decide⟩
      have e2 : ∀ x : Int, CMul (x.fmod 1000000007) (x.fmod 1000000007) := fun x => by
        have a := Int.fmod_nonneg_of_pos x (show (0 : Int) < 1000000007 by decide)
        have b := Int.fmod_lt_of_pos x (show (0 : Int) < 1000000007 by decide)
        exact .inl ⟨by omega, by omega⟩
      have e3 : ∀ x : Int, CMul x 30011 := fun x => .inr ⟨by decide, by decide⟩
      have e4 : ∀ x : Int, CDivN x 7 := fun x => ⟨by decide, by decide⟩
      simp [bagD, h0, hm0, free, outs, e1, e2, e3, e4]
      exact q _ _ (Int.fmod_nonneg_of_pos _ h1) (Int.fmod_lt_of_pos _ h1) ⟨_, _, _, _, rfl, hr, hc, hz⟩
/-! ### plain data -/
def Fine (n : Nat) (d : D) : Prop := d.pure = true ∧ d.py.canLay0 = true ∧ d.py.depth ≤ n
theorem canLayAll_iff : ∀ xs : List PyData, PyData.canLayAll0 xs = true ↔ ∀ x ∈ xs, x.canLay0 = true
  | [] => by simp [PyData.canLayAll0]
  | x :: xs => by simp [PyData.canLayAll0, canLayAll_iff xs]
theorem depthAll_iff (n : Nat) : ∀ xs : List PyData, PyData.depthAll xs ≤ n ↔ ∀ x ∈ xs, x.depth ≤ n
  | [] => by simp [PyData.depthAll]
  | x :: xs => by rw [PyData.depthAll, Nat.max_le, depthAll_iff n xs]; simp
theorem fine_lst {n : Nat} {xs : List D} : Fine (n + 1) (.lst xs) ↔ ∀ x ∈ xs, Fine n x := by
  unfold Fine
  rw [D.pure, D.py, PyData.canLay0, PyData.depth, pureL_all, pyL_map, canLayAll_iff, Nat.add_le_add_iff_right, depthAll_iff]
  simp only [List.all_eq_true, List.mem_map, forall_exists_index, and_imp, forall_apply_eq_imp_iff₂]
  exact ⟨fun ⟨a, b, c⟩ x hx => ⟨a x hx, b x hx, c x hx⟩, fun h => ⟨fun x hx => (h x hx).1, fun x hx => (h x hx).2.1, fun x hx => (h x hx).2.2⟩⟩
theorem fine_tup {n : Nat} {xs : List D} : Fine (n + 1) (.tup xs) ↔ ∀ x ∈ xs, Fine n x := by
  unfold Fine
  rw [D.pure, D.py, PyData.canLay0, PyData.depth, pureL_all, pyL_map, canLayAll_iff, Nat.add_le_add_iff_right, depthAll_iff]
  simp only [List.all_eq_true, List.mem_map, forall_exists_index, and_imp, forall_apply_eq_imp_iff₂]
  exact ⟨fun ⟨a, b, c⟩ x hx => ⟨a x hx, b x hx, c x hx⟩, fun h => ⟨fun x hx => (h x hx).1, fun x hx => (h x hx).2.1, fun x hx => (h x hx).2.2⟩⟩
theorem fine_str {n : Nat} {x : Str} : Fine n (.str x) ↔ PyData.strOk x = true := by
  unfold Fine; simp [D.pure, D.py, PyData.canLay0, PyData.depth]
theorem Fine.ok {n : Nat} {d : D} (h : Fine n d) (hn : n ≤ 64) : d.ok = true := by
  unfold D.ok SeqAt.shaped
  rw [h.1, h.2.1]
  have := h.2.2
  simp; omega
theorem Fine.mono {n m : Nat} {d : D} (h : Fine n d) (hn : n ≤ m) : Fine m d := ⟨h.1, h.2.1, Nat.le_trans h.2.2 hn⟩
theorem ok_lst {xs : List D} {n : Nat} (h : ∀ x ∈ xs, Fine n x) (hn : n ≤ 63) : (D.lst xs).ok = true := (fine_lst.mpr h).ok (by omega)
theorem eqD_nil (xs : List D) : eqD (.lst xs) (.lst []) = xs.isEmpty := by
  cases xs <;> simp [eqD, D.py, pyL, PyData.eqv, PyData.eqvAll]
theorem ok_nil : (D.lst []).ok = true := ok_lst (n := 0) (by simp) (by decide)
theorem erase_perm : ∀ (l : List D) (i : Nat) (h : i < l.length), (l[i] :: l.eraseIdx i).Perm l
  | [], i, h => absurd h (Nat.not_lt_zero _)
  | x :: l, 0, h => .refl _
  | x :: l, i + 1, h => by
    have := erase_perm l i (by simpa using h)
    simp only [List.getElem_cons_succ, List.eraseIdx_cons_succ]
    exact (List.Perm.swap x _ _).trans (this.cons x)
/-! ### what a mix is -/
theorem mix_w {b : D} {xs : List D} (hb : BagOk b) (hx : ∀ x ∈ xs, Fine 9 x) (hn : xs.length ≤ 90000) {Q : Sl → List Sl → Prop}
    (q : ∀ ys b', ys.Perm xs → BagOk b' → Q ⟨.own, .lst ys⟩ [⟨.par, b'⟩, ⟨.fz, .lst xs⟩]) : wM m_law_mix [⟨.par, b⟩, ⟨.fz, .lst xs⟩] Q := by
  rw [m_law_mix, w_fn, b_law_mix]
  simp only [List.map_cons, List.map_nil, List.cons_append, List.nil_append, List.replicate_succ, List.replicate_zero]
  rw [w_seq]
  simp [free]
  refine w_while (fun n ρ => ∃ b ys rest, BagOk b ∧ (ys ++ rest).Perm xs ∧ rest.length = n ∧ ρ = [some ⟨.par, b⟩, some ⟨.fz, .lst xs⟩, some ⟨.own, .lst rest⟩, some ⟨.own, .lst ys⟩]) (m := xs.length) (by unfold fuel; omega) ⟨b, [], xs, hb, by simp, rfl, rfl⟩ ?_
  rintro n ρ ⟨b, ys, rest, hb, hp, rfl, rfl⟩
  have hm : ∀ x ∈ rest, Fine 9 x := fun x h => hx x (hp.mem_iff.mp (by simp [h]))
  have hl : ys.length + rest.length = xs.length := by rw [← hp.length_eq, List.length_append]
  simp [ok_lst hm (by decide), ok_nil, eqD_nil]
  cases rest with
  | nil =>
    simp
    exact q _ _ (by simpa using hp) hb
  | cons r0 rest =>
    simp [nodupS]
    refine take_w hb (by omega) (by simp at hl; omega) fun t b' t0 t1 hb' => ?_
    have e : ixN (rest.length + 1) t = some t.toNat := by
      unfold ixN
      rw [if_pos t0, if_pos (by omega)]
    have e2 : (r0 :: rest)[t.toNat]? = some ((r0 :: rest)[t.toNat]'(by simp; omega)) := List.getElem?_eq_getElem _
    simp only [List.length_cons] at hl
    simp [wb, e]
    rw [e2]
    simp
    refine ⟨by omega, by omega, _, ?_, b', hb', _, _, ?_, rfl, rfl, rfl, rfl⟩
    · rw [List.length_eraseIdx_of_lt (by simp; omega)]; simp
    · refine List.Perm.trans ?_ hp
      rw [List.append_assoc]
      exact List.Perm.append_left ys (erase_perm (r0 :: rest) t.toNat (by simp; omega))
/-! ### names -/
def Letters (x : Str) : Prop := ∀ c ∈ x.cps.toList, 97 ≤ c ∧ c ≤ 122
def GoodN (x : Str) : Prop := Letters x ∧ 1 ≤ x.length ∧ x.length ≤ 8
def NamesN (ns : List Str) : Prop := (∀ x ∈ ns, GoodN x) ∧ ns.Nodup
def namesD (ns : List Str) : D := .lst (ns.map D.str)
theorem NamesN.perm {ns ms : List Str} (h : NamesN ns) (p : ms.Perm ns) : NamesN ms := ⟨fun z hz => h.1 z (p.mem_iff.mp hz), p.nodup_iff.mpr h.2⟩
theorem perm_map0 {β : Type} {E : β → D} {l1 l2 : List D} (h : l1.Perm l2) : ∀ xs : List β, l1 = xs.map E → ∃ zs : List β, zs.Perm xs ∧ l2 = zs.map E := by
  induction h with
  | nil => intro xs e; cases xs with
    | nil => exact ⟨[], .refl _, rfl⟩
    | cons _ _ => cases e
  | cons x h ih => intro xs e; cases xs with
    | nil => cases e
    | cons z xs =>
      simp only [List.map_cons, List.cons.injEq] at e
      obtain ⟨zs, p, e2⟩ := ih xs e.2
      exact ⟨z :: zs, p.cons z, by rw [List.map_cons, ← e2, e.1]⟩
  | swap x y l => intro xs e; cases xs with
    | nil => cases e
    | cons a xs => cases xs with
      | nil => simp at e
      | cons c xs =>
        simp only [List.map_cons, List.cons.injEq] at e
        exact ⟨c :: a :: xs, .swap a c xs, by rw [List.map_cons, List.map_cons, e.1, e.2.1, e.2.2]⟩
  | trans h1 h2 ih1 ih2 => intro xs e
                           obtain ⟨zs, p, e1⟩ := ih1 xs e
                           obtain ⟨ws, p2, e2⟩ := ih2 zs e1
                           exact ⟨ws, p2.trans p, e2⟩
theorem perm_map {β : Type} {E : β → D} {ys : List D} {xs : List β} (h : ys.Perm (xs.map E)) : ∃ zs : List β, zs.Perm xs ∧ ys = zs.map E := perm_map0 h.symm xs rfl
theorem cut_map {β : Type} (E : β → D) (xs : List β) (lo hi : Option Int) : cutD (xs.map E) lo hi = ((xs.drop (HT.sIx xs.length 0 lo)).take (HT.sIx xs.length xs.length hi - HT.sIx xs.length 0 lo)).map E := by
  unfold cutD; rw [List.length_map, List.map_take, List.map_drop]
theorem str_ok {x : Str} : PyData.strOk x = true ↔ ∀ c ∈ x.cps.toList, c < 0x110000 := by
  unfold PyData.strOk
  simp
  exact ⟨fun h c hc => by obtain ⟨i, hi, rfl⟩ := Array.mem_iff_getElem.mp hc; exact h i hi, fun h i hi => h _ (Array.getElem_mem hi)⟩
theorem letter_at {t : Int} (h0 : 0 ≤ t) (h1 : t < 26) : atI (Str.ofString "abcdefghijklmnopqrstuvwxyz").cps.toList t = some (97 + t.toNat) := by
  rw [atI_at h0]
  have key : ∀ k : Fin 26, (Str.ofString "abcdefghijklmnopqrstuvwxyz").cps.toList[k.val]? = some (97 + k.val) := by decide +kernel
  exact key ⟨t.toNat, by omega⟩
def one (c : Nat) : Str := ⟨#[c]⟩
theorem sum_ones : ∀ cs : List Nat, ((cs.map one).map (·.length)).sum = cs.length
  | [] => rfl
  | c :: cs => by simp only [List.map_cons, List.sum_cons, sum_ones cs, List.length_cons]; show 1 + cs.length = _; omega
theorem stem_of {cs : List Nat} (hc : ∀ c ∈ cs, c < 1114112) : PyData.strOk (Txt.join (Str.ofString "") (cs.map one)) = true ∧ (Txt.join (Str.ofString "") (cs.map one)).length ≤ cs.length := by
  unfold Txt.join
  rw [StrLaws.glued_eq_join]
  constructor
  · rw [str_ok]
    intro c h
    rcases (mem_join _ c _).mp h with ⟨t, ht, h⟩ | ⟨_, h⟩
    · obtain ⟨d, hd, rfl⟩ := List.mem_map.mp ht
      simp [one] at h
      subst h
      exact hc c hd
    · have e : (Str.ofString "").cps.toList = [] := by decide +kernel
      rw [e] at h; simp at h
  · have := StrLaws.join_length_le (Str.ofString "") (cs.map one)
    rw [sum_ones] at this
    have e : (Str.ofString "").length = 0 := by decide +kernel
    rw [e] at this; simpa using this
theorem len_app (x y : Str) : (x ++ y).length = x.length + y.length := strLen_append x y
theorem toL_app (x y : Str) : (x ++ y).cps.toList = x.cps.toList ++ y.cps.toList := by
  show (x.cps ++ y.cps).toList = _
  simp

theorem GoodN.ok {x : Str} (h : GoodN x) : PyData.strOk x = true := by
  rw [str_ok]
  intro c hc
  have := (h.1 c hc).2
  omega
/-- a mix of texts -/
theorem mixS_w {b : D} {ns : List Str} (hb : BagOk b) (hn : ∀ x ∈ ns, PyData.strOk x = true) (hz : ns.length ≤ 90000) {Q : Sl → List Sl → Prop}
    (q : ∀ ms b', ms.Perm ns → BagOk b' → Q ⟨.own, namesD ms⟩ [⟨.par, b'⟩, ⟨.fz, namesD ns⟩]) : wM m_law_mix [⟨.par, b⟩, ⟨.fz, namesD ns⟩] Q := by
  refine mix_w hb ?_ (by rw [List.length_map]; exact hz) ?_
  · intro x hx
    obtain ⟨n, hn', rfl⟩ := List.mem_map.mp hx
    exact fine_str.mpr (hn n hn')
  · intro ys b' p hb'
    obtain ⟨ms, p2, rfl⟩ := perm_map p
    exact q ms b' p2 hb'
def words : List Str := ["better", "not", "things", "step", "say", "a", "aa", "none", "reached", "open", "zzzzzzzz"]
instance (x : Str) : Decidable (Letters x) := by unfold Letters; infer_instance
instance (x : Str) : Decidable (GoodN x) := by unfold GoodN; infer_instance
instance (ns : List Str) : Decidable (NamesN ns) := by unfold NamesN; infer_instance
def six : List Str := ["a", "b", "c", "d", "e", "f"]
theorem names_a : ∀ k : Fin 7, NamesN (six.take k.val) ∧ (six.take k.val).length = k.val := by decide +kernel
theorem names_b : ∀ k : Fin 7, ∀ t : Fin 11, NamesN (((words ++ words).drop t.val).take k.val) ∧ (((words ++ words).drop t.val).take k.val).length = k.val := by decide +kernel
theorem stem_letters {cs : List Nat} (hc : ∀ c ∈ cs, 97 ≤ c ∧ c ≤ 122) : Letters (Txt.join (Str.ofString "") (cs.map one)) ∧ (Txt.join (Str.ofString "") (cs.map one)).length ≤ cs.length := by
  refine ⟨?_, (stem_of fun c h => by have := (hc c h).2; omega).2⟩
  unfold Txt.join
  rw [StrLaws.glued_eq_join]
  intro c h
  rcases (mem_join _ c _).mp h with ⟨t, ht, h⟩ | ⟨_, h⟩
  · obtain ⟨d, hd, rfl⟩ := List.mem_map.mp ht
    simp [one] at h
    subst h
    exact hc c hd
  · have e : (Str.ofString "").cps.toList = [] := by decide +kernel
    rw [e] at h; simp at h
theorem one_len (c : Nat) : (one c).length = 1 := rfl
theorem names_w {b : D} {many : Int} (hb : BagOk b) (h1 : 0 ≤ many) (h2 : many ≤ 6) {Q : Sl → List Sl → Prop}
    (q : ∀ ns b', NamesN ns → ns.length = many.toNat → BagOk b' → Q ⟨.own, namesD ns⟩ [⟨.par, b'⟩, ⟨.fz, .int many⟩]) : wM m_law_names [⟨.par, b⟩, ⟨.fz, .int many⟩] Q := by
  rw [m_law_names, w_fn, b_law_names]
  simp only [List.map_cons, List.map_nil, List.cons_append, List.nil_append, List.replicate_succ, List.replicate_zero]
  rw [w_seq]
  simp [nodupS]
  refine take_w hb (by decide) (by decide) fun way b1 w0 w1 hb1 => ?_
  simp [wb, nodupS]
  refine take_w hb1 (by decide) (by decide) fun turn b2 u0 u1 hb2 => ?_
  obtain ⟨k, hk, ek⟩ : ∃ k : Nat, k < 7 ∧ many.toNat = k := ⟨many.toNat, by omega, rfl⟩
  simp [wb, ok_int, eqD_int]
  by_cases c0 : way = 0
  · have e1 : signsD (Str.ofString "abcdef") = six.map D.str := by rfl
    have e2 : (Str.ofString "abcdef").cps.size ≤ 16777216 := by decide +kernel
    obtain ⟨n1, n2⟩ := names_a ⟨k, hk⟩
    simp [c0, e1, e2, cut_hi D.str six h1, ek, -List.map_take]
    refine mixS_w (ns := six.take k) hb2 (fun x hx => (n1.1 x hx).ok) (by dsimp only at n2; omega) fun ms b3 hm hb3 => ?_
    simp [wb, outs]
    exact q ms b3 (n1.perm hm) (by rw [hm.length_eq, ek]; exact n2) hb3
  · simp [c0]
    by_cases c1 : way = 1
    · simp [c1]
      have f0 := Int.fmod_nonneg_of_pos turn (show (0 : Int) < 11 by decide)
      have f1 := Int.fmod_lt_of_pos turn (show (0 : Int) < 11 by decide)
      obtain ⟨n1, n2⟩ := names_b ⟨k, hk⟩ ⟨(turn.fmod 11).toNat, by omega⟩
      have := mixS_w (ns := ((words ++ words).drop (turn.fmod 11).toNat).take k) (Q := fun r o => ∃ ms b', ms.Perm (((words ++ words).drop (turn.fmod 11).toNat).take k) ∧ BagOk b' ∧ r = ⟨.own, namesD ms⟩ ∧ o = [⟨.par, b'⟩, ⟨.fz, namesD (((words ++ words).drop (turn.fmod 11).toNat).take k)⟩]) hb2 (fun x hx => (n1.1 x hx).ok) (by dsimp only at n2; omega) fun ms b3 hm hb3 => ⟨ms, b3, hm, hb3, rfl, rfl⟩
      unfold namesD at this
      rw [← ek, ← cut_hi D.str _ h1, ← cut_lo D.str _ f0] at this
      refine wM_mono this ?_
      rintro r o ⟨ms, b3, hm, hb3, rfl, rfl⟩
      rw [ek] at hm
      simp [wb, outs]
      exact q ms b3 (n1.perm hm) (by rw [hm.length_eq, ek]; exact n2) hb3
    · simp [c1]
      refine take_w hb2 (by decide) (by decide) fun wide b3 v0 v1 hb3 => ?_
      simp [wb, wipeR, rangeD, -List.map_map]
      refine ⟨⟨by omega, by omega⟩, ?_⟩
      have e2 : (Str.ofString "abcdefghijklmnopqrstuvwxyz").length ≤ 16777216 := by decide +kernel
      refine w_compX (fun i : Nat => D.int i) (fun pre acc ρ => ∃ cs b, BagOk b ∧ acc = (cs.map one).map D.str ∧ cs.length = pre.length ∧ (∀ c ∈ cs, 97 ≤ c ∧ c ≤ 122) ∧
        ρ = [some ⟨.par, b⟩, some ⟨.fz, .int many⟩, some ⟨.fz, .str (Str.ofString "abcdefghijklmnopqrstuvwxyz")⟩, some ⟨.own, .lst (words.map D.str)⟩, none, some ⟨.fz, .int way⟩, some ⟨.fz, .int turn⟩, none]) ⟨[], b3, hb3, rfl, rfl, by simp, rfl⟩ ?_ ?_
      · rintro pre i acc ρ hi _ ⟨cs, b4, hb4, rfl, hl, hc, rfl⟩
        simp [nodupS]
        refine take_w hb4 (by decide) (by decide) fun t b5 t0 t1 hb5 => ?_
        simp [wb, e2, letter_at t0 t1, wipeR]
        refine ⟨cs ++ [97 + t.toNat], b5, hb5, by simp [one], by simp [hl], ?_, rfl⟩
        intro c hc'
        rcases List.mem_append.mp hc' with h | h
        · exact hc c h
        · simp at h; omega
      · rintro acc ρ ⟨cs, b4, hb4, rfl, hl, hc, rfl⟩
        obtain ⟨st1, st2⟩ := stem_letters hc
        have ej : gJoin (.str (Str.ofString "")) (.lst ((cs.map one).map D.str)) = some ⟨.fz, .str (Txt.join (Str.ofString "") (cs.map one))⟩ := by
          have e : (Str.ofString "").length = 0 := by decide +kernel
          rw [List.length_range] at hl
          simp only [gJoin, strsOf_map, sum_ones, e]
          rw [if_pos (by omega)]
        rw [List.length_range] at hl
        generalize hst : Txt.join (Str.ofString "") (cs.map one) = stem at *
        have e5 : ∀ x : Int, CMul 5 x := fun x => .inl ⟨by decide, by decide⟩
        have f0 : ∀ x : Int, 0 ≤ x.fmod 26 := fun x => Int.fmod_nonneg_of_pos x (by decide)
        have f1 : ∀ x : Int, x.fmod 26 < 26 := fun x => Int.fmod_lt_of_pos x (by decide)
        simp [ej, wipeR, rangeD, -List.map_map, hl]
        refine ⟨by omega, ⟨by omega, by omega⟩, ?_⟩
        refine w_compP (fun i : Nat => D.int i) (fun _ => true) (fun i => .str (stem ++ one (97 + ((turn + 5 * (i : Int)).fmod 26).toNat))) ?_ ?_
        · intro i hi
          have sl1 : stem.length + 1 ≤ 16777216 := by omega
          simp [e5, e2, letter_at (f0 _) (f1 _), wipeR, one]
          exact sl1
        · have key : NamesN ((List.range many.toNat).map fun i : Nat => stem ++ one (97 + ((turn + 5 * (i : Int)).fmod 26).toNat)) := by
            refine ⟨?_, ?_⟩
            · intro x hx
              obtain ⟨i, hi, rfl⟩ := List.mem_map.mp hx
              refine ⟨?_, ?_⟩
              · intro c hc
                rw [toL_app] at hc
                rcases List.mem_append.mp hc with h | h
                · exact st1 c h
                · have := f1 (turn + 5 * (i : Int))
                  simp [one] at h; omega
              · rw [len_app, one_len]; omega
            · refine List.pairwise_map.mpr (List.Pairwise.imp_of_mem ?_ List.nodup_range)
              intro i j hi hj hne e
              have e' := congrArg (fun x : Str => x.cps.toList) e
              simp only [toL_app] at e'
              have := List.append_cancel_left e'
              simp [one] at this
              rw [List.mem_range] at hi hj
              rw [Int.fmod_eq_emod_of_nonneg _ (by decide), Int.fmod_eq_emod_of_nonneg _ (by decide)] at this
              omega
          have ef : ((List.range many.toNat).filter fun _ => true) = List.range many.toNat := List.filter_eq_self.mpr (by simp)
          rw [ef]
          have em : ((List.range many.toNat).map fun i : Nat => D.str (stem ++ one (97 + ((turn + 5 * (i : Int)).fmod 26).toNat))) = ((List.range many.toNat).map fun i : Nat => stem ++ one (97 + ((turn + 5 * (i : Int)).fmod 26).toNat)).map D.str := by rw [List.map_map]; rfl
          rw [em]
          have hz : ((List.range many.toNat).map fun i : Nat => stem ++ one (97 + ((turn + 5 * (i : Int)).fmod 26).toNat)).length = many.toNat := by simp
          generalize (List.range many.toNat).map (fun i : Nat => stem ++ one (97 + ((turn + 5 * (i : Int)).fmod 26).toNat)) = nms at key hz
          simp [nodupS]
          refine ⟨by omega, ?_⟩
          refine mixS_w hb4 (fun x hx => (key.1 x hx).ok) (by omega) fun ms b5 hm hb5 => ?_
          simp [wb, outs]
          exact q ms b5 (key.perm hm) (by rw [hm.length_eq]; exact hz) hb5
end VI

/-! The law machine: pairs, worths, betters. -/
namespace VI
open PySem PySem.Spec PyProof.Rows L2
def rowD (r : List Str) : D := .tup (r.map D.str)
def pairD (p : Str × Str) : D := .tup [.str p.1, .str p.2]
def pairsD (ps : List (Str × Str)) : D := .lst (ps.map pairD)
theorem eqD_str (x y : Str) : eqD (.str x) (.str y) = decide (x = y) := by simp [eqD, D.py, PyData.eqv]; rfl
theorem eqD_pair (p q : Str × Str) : eqD (pairD p) (pairD q) = decide (p = q) := by
  simp [eqD, pairD, D.py, pyL, PyData.eqv, PyData.eqvAll, Prod.ext_iff]
  rfl
theorem alike_strs : ∀ xs ys : List Str, PySem.W.alikeAll (pyL (xs.map D.str)) (pyL (ys.map D.str)) = true
  | [], _ => by simp [pyL, PySem.W.alikeAll]
  | x :: xs, [] => by simp [pyL, PySem.W.alikeAll]
  | x :: xs, y :: ys => by simp [pyL, PySem.W.alikeAll, D.py, PySem.W.alike]; exact alike_strs xs ys
theorem pure_strs (xs : List Str) : pureL (xs.map D.str) = true := by rw [pureL_all]; simp [D.pure]
theorem depth_strs (xs : List Str) : PyData.depthAll (pyL (xs.map D.str)) ≤ 0 := by
  rw [depthAll_iff, pyL_map]; simp [D.py, PyData.depth]
theorem sortOk_strs {ns : List Str} (h : ns.length ≤ 16777216) : sortOk (ns.map D.str) = true := by
  unfold sortOk
  simp [D.pure, D.py, PyData.depth, PySem.W.alike, h]
theorem sortOk_rows {rs : List (List Str)} (h : rs.length ≤ 16777216) (h2 : ∀ r ∈ rs, r ≠ []) : sortOk (rs.map rowD) = true := by
  unfold sortOk
  simp only [Bool.and_eq_true, decide_eq_true_eq, List.all_eq_true, Bool.or_eq_true, List.length_map]
  refine ⟨⟨⟨?_, ?_⟩, by rw [e_sz]; exact h⟩, .inl ?_⟩
  · intro d hd
    obtain ⟨r, hr, rfl⟩ := List.mem_map.mp hd
    refine ⟨by rw [rowD, D.pure]; exact pure_strs r, ?_⟩
    rw [rowD, D.py, PyData.depth]
    have := depth_strs r
    omega
  · intro d hd e he
    obtain ⟨r, hr, rfl⟩ := List.mem_map.mp hd
    obtain ⟨t, ht, rfl⟩ := List.mem_map.mp he
    rw [rowD, rowD, D.py, D.py, PySem.W.alike]
    exact alike_strs r t
  · intro d hd
    obtain ⟨r, hr, rfl⟩ := List.mem_map.mp hd
    have := h2 r hr
    cases r with
    | nil => exact absurd rfl this
    | cons a x => rfl
theorem flat_len {α β : Type} {f : α → List β} {c : Nat} : ∀ {l : List α}, (∀ x ∈ l, (f x).length ≤ c) → (l.flatMap f).length ≤ l.length * c
  | [], _ => by simp
  | x :: l, h => by
    rw [List.flatMap_cons, List.length_append, List.length_cons, Nat.succ_mul]
    have h1 := h x List.mem_cons_self
    have h2 := flat_len (l := l) fun y hy => h y (List.mem_cons_of_mem _ hy)
    omega
theorem sort_map {β : Type} (E : β → D) (xs : List β) : ∃ ys : List β, ys.Perm xs ∧ sortL (xs.map E) = ys.map E := perm_map (List.mergeSort_perm _ _)
/-! ### pairs -/
def pairsOfNames (ms : List Str) (xs : List Str) : List (Str × Str) := xs.flatMap fun x => (ms.filter fun y => !decide (y = x)).map fun y => (x, y)
theorem pairs_w {m : Md} {ns : List Str} (hn : ∀ x ∈ ns, PyData.strOk x = true) (hz : ns.length ≤ 6) {Q : Sl → List Sl → Prop}
    (q : ∀ ms, ms.Perm ns → Q ⟨.own, pairsD (pairsOfNames ms ms)⟩ [⟨m, namesD ns⟩]) : wM m_law_pairs [⟨m, namesD ns⟩] Q := by
  rw [m_law_pairs, w_fn, b_law_pairs]
  obtain ⟨ms, hp, es⟩ := sort_map D.str ns
  have so : sortOk (ns.map D.str) = true := sortOk_strs (by omega)
  have hl : ms.length ≤ 6 := by rw [hp.length_eq]; exact hz
  have okm : ∀ x ∈ ms, (D.str x).ok = true := fun x hx => (fine_str (n := 0).mpr (hn x (hp.mem_iff.mp hx))).ok (by decide)
  simp only [List.map_cons, List.map_nil, List.cons_append, List.nil_append, List.replicate_succ, List.replicate_zero]
  simp [namesD, so, es, lend, back]
  refine w_loopX D.str (fun pre ρ => ∃ x2, frx x2 = true ∧ ρ = [some ⟨m, namesD ns⟩, some ⟨.own, pairsD (pairsOfNames ms pre)⟩, x2, none]) ⟨none, rfl, rfl⟩ ?_ ?_
  · rintro pre x ρ hx hpre ⟨x2, hx2, rfl⟩
    simp [namesD, pairsD, so, es, lend, back, hx2, wipeR]
    refine w_compP D.str (fun y => !decide (y = x)) (fun y => pairD (x, y)) ?_ ?_
    · intro y hy
      simp [okm x hx, okm y hy, eqD_str]
      by_cases e : y = x
      · simp [e, wipeR]
      · simp [e, wipeR, pairD]
    · have l1 : ((ms.filter fun y => !decide (y = x))).length ≤ 6 := Nat.le_trans (List.length_filter_le _ _) hl
      have l2 : (pairsOfNames ms pre).length ≤ pre.length * 6 := flat_len fun y _ => by rw [List.length_map]; exact Nat.le_trans (List.length_filter_le _ _) hl
      have e1 : (ms.filter fun y => !decide (y = x)).map (fun y => pairD (x, y)) = ((ms.filter fun y => !decide (y = x)).map fun y => (x, y)).map pairD := by rw [List.map_map]; rfl
      have e2 : pairsOfNames ms (pre ++ [x]) = pairsOfNames ms pre ++ (ms.filter fun y => !decide (y = x)).map fun y => (x, y) := by unfold pairsOfNames; rw [List.flatMap_append]; simp
      simp [e2, -List.map_map]
      refine ⟨by omega, by omega, _, rfl, rfl, ?_, rfl⟩
      rw [e1]; simp [pairsD]
  · rintro ρ ⟨x2, hx2, rfl⟩
    have := q ms hp
    simp
    exact this
/-! ### worths -/
def DOk (ns : List Str) (es : List (Key × D)) : Prop := ∀ e ∈ es, (∃ n ∈ ns, e.1 = .inr n) ∧ ∃ i : Int, e.2 = .int i
theorem put_ok {ns : List Str} {es : List (Key × D)} {n : Str} {i : Int} (h : DOk ns es) (hn : n ∈ ns) : DOk ns (putD es (.inr n) (.int i)) ∧ (putD es (.inr n) (.int i)).length ≤ es.length + 1 := by
  unfold putD
  split
  · refine ⟨?_, by simp⟩
    intro e he
    obtain ⟨f, hf, rfl⟩ := List.mem_map.mp he
    have := h f hf
    split
    · exact ⟨this.1, i, rfl⟩
    · exact this
  · refine ⟨?_, by simp⟩
    intro e he
    rcases List.mem_append.mp he with g | g
    · exact h e g
    · simp at g; subst g; exact ⟨⟨n, hn, rfl⟩, i, rfl⟩
theorem merge_ok {ns : List Str} : ∀ {zs : List (Str × Int)} {es : List (Key × D)}, DOk ns es → (∀ z ∈ zs, z.1 ∈ ns) → DOk ns (mergeD es (zs.map fun z => (.inr z.1, .int z.2))) ∧ (mergeD es (zs.map fun z => (.inr z.1, .int z.2))).length ≤ es.length + zs.length
  | [], es, h, _ => ⟨h, by simp [mergeD]⟩
  | z :: zs, es, h, hz => by
    obtain ⟨a, b⟩ := put_ok (i := z.2) h (hz z List.mem_cons_self)
    obtain ⟨c, d⟩ := merge_ok (zs := zs) a fun y hy => hz y (List.mem_cons_of_mem _ hy)
    refine ⟨c, Nat.le_trans d ?_⟩
    simp only [List.length_cons]; omega
theorem pairsOf_map : ∀ zs : List (Str × Int), pairsOf (zs.map fun z => D.tup [.str z.1, .int z.2]) = some (zs.map fun z => (.inr z.1, .int z.2))
  | [] => rfl
  | z :: zs => by rw [List.map_cons, pairsOf, pairsOf_map zs]; rfl
theorem worths_w {b : D} {ns : List Str} (hb : BagOk b) (hz : ns.length ≤ 6) {Q : Sl → List Sl → Prop}
    (q : ∀ es (step : Int) b', BagOk b' → DOk ns es → es.length ≤ 6 → Q ⟨.fz, .tup [.dK es, .int step]⟩ [⟨.par, b'⟩, ⟨.par, namesD ns⟩]) : wM m_law_worths [⟨.par, b⟩, ⟨.par, namesD ns⟩] Q := by
  rw [m_law_worths, w_fn, b_law_worths]
  simp only [List.map_cons, List.map_nil, List.cons_append, List.nil_append, List.replicate_succ, List.replicate_zero]
  rw [w_seq]
  simp [nodupS]
  refine take_w hb (by decide) (by decide) fun s b1 s0 s1 hb1 => ?_
  simp [wb, nodupS]
  refine take_w hb1 (by decide) (by decide) fun t b2 t0 t1 hb2 => ?_
  obtain ⟨wide, hw1, hw2, ew⟩ : ∃ wide : Int, 0 < wide ∧ wide < 10 ∧ atI [D.int 2, .int 3, .int 5, .int 9] t = some (.int wide) := by
    have ht : t = 0 ∨ t = 1 ∨ t = 2 ∨ t = 3 := by omega
    rcases ht with rfl | rfl | rfl | rfl
    · exact ⟨2, by decide, by decide, by simp⟩
    · exact ⟨3, by decide, by decide, by simp⟩
    · exact ⟨5, by decide, by decide, by simp⟩
    · exact ⟨9, by decide, by decide, by simp⟩
  have ec : CMul wide (1 + s) := .inl ⟨by omega, by omega⟩
  have hp : 0 < wide * (1 + s) := Int.mul_pos hw1 (by omega)
  have hq : wide * (1 + s) < 1073741824 := by
    have : wide * (1 + s) ≤ 10 * (1 + s) := Int.mul_le_mul_of_nonneg_right (by omega) (by omega)
    omega
  simp [wb, ew, ec, lend, back, namesD, wipeR]
  refine w_compX D.str (fun pre acc ρ => ∃ zs b, BagOk b ∧ acc = (zs.map fun z : Str × Int => D.tup [.str z.1, .int z.2]) ∧ zs.length = pre.length ∧ (∀ z ∈ zs, z.1 ∈ ns) ∧
    ρ = [some ⟨.par, b⟩, some ⟨.lent, .lst (ns.map D.str)⟩, some ⟨.fz, .int (1 + s)⟩, some ⟨.fz, .int (wide * (1 + s))⟩, none]) ⟨[], b2, hb2, rfl, rfl, by simp, rfl⟩ ?_ ?_
  · rintro pre x acc ρ hx hpre ⟨zs, b3, hb3, rfl, hl, hc, rfl⟩
    simp [nodupS]
    refine take_w hb3 hp hq fun v b4 v0 v1 hb4 => ?_
    simp [wb, wipeR]
    refine ⟨zs ++ [(x, v)], b4, hb4, by simp, by simp [hl], ?_, rfl⟩
    intro z z2 hz'
    rcases List.mem_append.mp hz' with g | g
    · exact hc (z, z2) g
    · simp at g; rw [g.1]; exact hx
  · rintro acc ρ ⟨zs, b3, hb3, rfl, hl, hc, rfl⟩
    obtain ⟨m1, m2⟩ := merge_ok (ns := ns) (es := []) (by intro e he; cases he) hc
    have ed : gDictP [.lst (zs.map fun z : Str × Int => D.tup [.str z.1, .int z.2])] = some ⟨.own, .dK (mergeD [] (zs.map fun z => (.inr z.1, .int z.2)))⟩ := by
      simp only [gDictP, pairsOf_map]
    simp [ed, outs, hl]
    refine ⟨by omega, q _ _ _ hb3 m1 (by simp at m2; omega)⟩
/-! ### betters -/
def keyN (e : Key × D) : Str := match e.1 with
  | .inr x => x
  | .inl _ => ""
def valN (es : List (Key × D)) (x : Str) : Int := match valD es (.inr x) with
  | some (.int i) => i
  | _ => 0
theorem keys_names {ns : List Str} {es : List (Key × D)} (h : DOk ns es) : gListA [.dK es] = some ⟨.own, namesD (es.map keyN)⟩ := by
  have e : (es.map fun e => (match e.1 with | .inl i => D.int i | .inr x => .str x : D)) = (es.map keyN).map D.str := by
    rw [List.map_map]
    refine List.map_congr_left fun e he => ?_
    obtain ⟨⟨n, _, hn⟩, _⟩ := h e he
    simp [keyN, hn]
  unfold gListA orN gList gListS gListD namesD
  (rw [← e]) <;> rfl
theorem val_key {ns : List Str} {es : List (Key × D)} (h : DOk ns es) {x : Str} (hx : x ∈ es.map keyN) : valD es (.inr x) = some (.int (valN es x)) := by
  obtain ⟨e, he, rfl⟩ := List.mem_map.mp hx
  obtain ⟨⟨n, hn, e1⟩, _⟩ := h e he
  have ek : keyN e = n := by simp [keyN, e1]
  rw [ek]
  have hs : (es.find? fun f => decide (f.1 = .inr n)).isSome := by
    rw [List.find?_isSome]; exact ⟨e, he, by simp [e1]⟩
  obtain ⟨f, hf⟩ := Option.isSome_iff_exists.mp hs
  obtain ⟨i, hi⟩ := (h f (List.mem_of_find?_eq_some hf)).2
  have ev : valD es (.inr n) = some (.int i) := by unfold valD; rw [hf]; simp [hi]
  unfold valN; rw [ev]
theorem pairs_mem {ms xs : List Str} {p : Str × Str} (h : p ∈ pairsOfNames ms xs) : p.1 ∈ xs ∧ p.2 ∈ ms := by
  unfold pairsOfNames at h
  obtain ⟨x, hx, h⟩ := List.mem_flatMap.mp h
  obtain ⟨y, hy, rfl⟩ := List.mem_map.mp h
  exact ⟨hx, (List.mem_filter.mp hy).1⟩
theorem pairs_len {ms : List Str} {k : Nat} (h : ms.length ≤ k) : (pairsOfNames ms ms).length ≤ k * k := by
  have : (pairsOfNames ms ms).length ≤ ms.length * k := flat_len fun y _ => by rw [List.length_map]; exact Nat.le_trans (List.length_filter_le _ _) h
  exact Nat.le_trans this (Nat.mul_le_mul_right k h)
def PairsIn (ns : List Str) (ps : List (Str × Str)) : Prop := ∀ p ∈ ps, p.1 ∈ ns ∧ p.2 ∈ ns
theorem betters_w {ns : List Str} {es : List (Key × D)} {step : Int} (hn : ∀ x ∈ ns, PyData.strOk x = true) (h : DOk ns es) (hz : es.length ≤ 6) {Q : Sl → List Sl → Prop}
    (q : ∀ ps, PairsIn ns ps → ps.length ≤ 36 → Q ⟨.own, pairsD ps⟩ [⟨.fz, .dK es⟩, ⟨.fz, .int step⟩]) : wM m_law_betters [⟨.fz, .dK es⟩, ⟨.fz, .int step⟩] Q := by
  rw [m_law_betters, w_fn, b_law_betters]
  simp only [List.map_cons, List.map_nil, List.cons_append, List.nil_append, List.replicate_succ, List.replicate_zero]
  have hk : ∀ x ∈ es.map keyN, x ∈ ns := fun x hx => by
    obtain ⟨e, he, rfl⟩ := List.mem_map.mp hx
    obtain ⟨⟨n, hn, e1⟩, _⟩ := h e he
    simpa [keyN, e1] using hn
  simp [keys_names h, nodupS]
  refine pairs_w (fun x hx => hn x (hk x hx)) (by simpa using hz) fun ms hp => ?_
  have hm : ∀ p ∈ pairsOfNames ms ms, p.1 ∈ es.map keyN ∧ p.2 ∈ es.map keyN := fun p hp' => ⟨hp.mem_iff.mp (pairs_mem hp').1, hp.mem_iff.mp (pairs_mem hp').2⟩
  have hl : (pairsOfNames ms ms).length ≤ 36 := pairs_len (k := 6) (by rw [hp.length_eq]; simpa using hz)
  simp [wb, pairsD, lend, back, wipeR]
  refine w_compP pairD (fun p => decide (step < valN es p.1 - valN es p.2)) pairD ?_ ?_
  · intro p hp'
    simp [pairD, val_key h (hm p hp').1, val_key h (hm p hp').2, wipeR]
  · have l1 := Nat.le_trans (List.length_filter_le (fun p : Str × Str => decide (step < valN es p.1 - valN es p.2)) (pairsOfNames ms ms)) hl
    simp [outs]
    refine ⟨by omega, q _ ?_ l1⟩
    intro p hp'
    have := (List.mem_filter.mp hp').1
    exact ⟨hk _ (hm p this).1, hk _ (hm p this).2⟩
end VI

/-! The kinds: is_name, are_names, is_pair, is_answer, are_answers. -/
namespace VI
open PySem PySem.Spec PyProof.Rows L2

/-! ### isinstance -/
def kinds : List String := ["NoneType", "bool", "int", "str", "tuple", "list", "dict"]
/-- what the table must tell: plain kinds, and the classes cs -/
structure TOk (T : TK → TK → Option Bool) (cs : List Str) : Prop where
  base : ∀ a ∈ kinds, ∀ b ∈ ["str", "list", "tuple", "bool"], T (.inl a) (.inl b) = some (decide (a = b))
  own : ∀ c ∈ cs, ∀ b ∈ ["str", "list", "tuple", "bool"], T (.inr c) (.inl b) = some false
/-- a value whose kind is known -/
def Typd (cs : List Str) : D → Prop
  | .non => True
  | .bl _ => True
  | .int _ => True
  | .str x => x.length ≤ 16777216
  | .tup _ => True
  | .lst _ => True
  | .dK _ => True
  | .ins c _ => c ∈ cs
  | .tupK _ => True
  | _ => False
def knd : D → String
  | .non => "NoneType"
  | .bl _ => "bool"
  | .int _ => "int"
  | .str _ => "str"
  | .tup _ => "tuple"
  | .lst _ => "list"
  | .dK _ => "dict"
  | .tupK _ => "tuple"
  | _ => ""
section
variable {T : TK → TK → Option Bool} {cs : List Str} {d : D} {b : String}
theorem isi_T (hT : TOk T cs) (h : Typd cs d) (hb : b ∈ ["str", "list", "tuple", "bool"]) : ∃ k, tyK d = some k ∧ T k (.inl b) = some (decide (knd d = b)) := by
  have ne : ("" : String) ≠ b := by rintro rfl; revert hb; decide
  cases d with
  | non => exact ⟨_, rfl, hT.base _ (by decide) b hb⟩
  | bl x => exact ⟨_, rfl, hT.base _ (by decide) b hb⟩
  | int x => exact ⟨_, rfl, hT.base _ (by decide) b hb⟩
  | str x => exact ⟨_, rfl, hT.base _ (by decide) b hb⟩
  | tup x => exact ⟨_, rfl, hT.base _ (by decide) b hb⟩
  | lst x => exact ⟨_, rfl, hT.base _ (by decide) b hb⟩
  | dK x => exact ⟨_, rfl, hT.base _ (by decide) b hb⟩
  | tupK x => exact ⟨_, rfl, hT.base _ (by decide) b hb⟩
  | ins c fs => exact ⟨_, rfl, by rw [hT.own c h b hb]; simp [knd, ne]⟩
  | _ => exact h.elim
theorem e_isi (hT : TOk T cs) (h : Typd cs d) (hb : b ∈ ["str", "list", "tuple", "bool"]) : gIsi T [d, .ty b] = some ⟨.fz, .bl (decide (knd d = b))⟩ := by
  obtain ⟨k, h1, h2⟩ := isi_T hT h hb
  unfold gIsi
  simp only [h1, clK, h2]
  rfl
theorem e_isiLT (hT : TOk T cs) (h : Typd cs d) : gIsi T [d, .tup [.ty "list", .ty "tuple"]] = some ⟨.fz, .bl (decide (knd d = "list") || decide (knd d = "tuple"))⟩ := by
  obtain ⟨k, h1, h2⟩ := isi_T (b := "list") hT h (by decide)
  obtain ⟨k', h1', h3⟩ := isi_T (b := "tuple") hT h (by decide)
  rw [h1] at h1'; cases h1'
  unfold gIsi
  simp only [h1, clKs, clK]
  show (anyT T k [.inl "list", .inl "tuple"]).bind _ = _
  simp only [anyT, h2, h3]
  cases decide (knd d = "list") <;> cases decide (knd d = "tuple") <;> simp
end
/-! ### what the kinds are -/
def isLtr (c : Nat) : Bool := decide (97 ≤ c ∧ c ≤ 122)
def nameB (x : Str) : Bool := decide (1 ≤ x.length) && decide (x.length ≤ 8) && x.cps.toList.all isLtr
theorem nameB_iff {x : Str} : nameB x = true ↔ GoodN x := by
  unfold nameB GoodN Letters isLtr
  simp only [Bool.and_eq_true, List.all_eq_true, decide_eq_true_eq]
  constructor
  · rintro ⟨⟨a, b⟩, c⟩; exact ⟨c, a, b⟩
  · rintro ⟨a, b, c⟩; exact ⟨⟨b, c⟩, a⟩
def isNameD : D → Bool
  | .str x => nameB x
  | _ => false
theorem letters_in {c : Nat} : decide (c ∈ (Str.ofString "abcdefghijklmnopqrstuvwxyz").cps) = isLtr c := by
  have e : (Str.ofString "abcdefghijklmnopqrstuvwxyz").cps.toList = (List.range 26).map fun i => 97 + i := by decide +kernel
  have e2 : (c ∈ (Str.ofString "abcdefghijklmnopqrstuvwxyz").cps) ↔ 97 ≤ c ∧ c ≤ 122 := by
    rw [← Array.mem_toList_iff, e]
    simp only [List.mem_map, List.mem_range]
    constructor
    · rintro ⟨i, hi, rfl⟩; omega
    · intro h; exact ⟨c - 97, by omega, by omega⟩
  unfold isLtr
  exact decide_eq_decide.mpr e2
theorem is_name_w {T : TK → TK → Option Bool} {cs : List Str} {d : D} {m : Md} (hT : TOk T cs) (h : Typd cs d) {Q : Sl → List Sl → Prop} (q : Q ⟨.fz, .bl (isNameD d)⟩ [⟨m, d⟩]) (hm : m = .fz ∨ m = .par) : wM (m_is_name T) [⟨m, d⟩] Q := by
  rw [m_is_name, w_fn, b_is_name]
  simp only [List.map_cons, List.map_nil, List.cons_append, List.nil_append, List.replicate_succ, List.replicate_zero]
  have e1 : gIsi T [d, .ty "str"] = some ⟨.fz, .bl (decide (knd d = "str"))⟩ := e_isi hT h (by decide)
  by_cases hs : knd d = "str"
  · obtain ⟨x, rfl⟩ : ∃ x, d = .str x := by cases d <;> first | exact ⟨_, rfl⟩ | (simp [knd] at hs)
    have hx : x.length ≤ 16777216 := h
    have e2 : gLenA [.str x] = some ⟨.fz, .int x.length⟩ := by
      show orN gLen gLenS [.str x] = _
      unfold orN gLen gLenS
      simp [hx]
    simp [e1, hs, e2]
    have hc : ∀ ρ : Rho, ρ = [some ⟨.fz, .str x⟩, none] ∨ ρ = [some ⟨.lent, .str x⟩, none] → ∀ {Q' : List D × Rho → Prop}, Q' (x.cps.toList.map (fun c => D.bl (isLtr c)), ρ) →
        wg (compM [1] (bindN 1) fYes (fOp2 gInA (.sl 1) (.ex (fC (.str (Str.ofString "abcdefghijklmnopqrstuvwxyz"))))) (signsD x) [] ρ) Q' := by
      intro ρ hρ Q' hq
      refine w_compP (fun c : Nat => D.str ⟨#[c]⟩) (fun _ => true) (fun c => .bl (isLtr c)) ?_ ?_
      · intro c _
        rcases hρ with rfl | rfl <;> simp [wipeR, letters_in]
      · have ef : (x.cps.toList.filter fun _ => true) = x.cps.toList := List.filter_eq_self.mpr (by simp)
        rw [ef]; exact hq
    have key : isNameD (.str x) = (decide ((1 : Int) ≤ x.length) && decide ((x.length : Int) ≤ 8) && x.cps.toList.all isLtr) := by
      show nameB x = _
      unfold nameB
      rw [decide_eq_decide.mpr (show 1 ≤ x.length ↔ (1 : Int) ≤ x.length by omega), decide_eq_decide.mpr (show x.length ≤ 8 ↔ (x.length : Int) ≤ 8 by omega)]
    rw [key] at q
    by_cases l1 : (1 : Int) ≤ x.length
    · by_cases l2 : (x.length : Int) ≤ 8
      · have l2' : ¬ (8 : Int) < x.length := by omega
        have lz : x.cps.toList.length ≤ 16777216 := hx
        simp only [l1, l2, decide_true, Bool.true_and] at q
        have ea := e_all isLtr x.cps.toList
        generalize x.cps.toList.all isLtr = ball at q ea
        rcases hm with rfl | rfl
        · simp [l1, l2', lend, back, wipeR]
          refine hc _ (.inl rfl) ?_
          have lz' : (x.cps.toList.map fun c => D.bl (isLtr c)).length ≤ 16777216 := by rw [List.length_map]; exact lz
          refine ⟨by rw [e_sz]; exact lz', ?_⟩
          simp [ea, outs]
          exact q
        · simp [l1, l2', lend, back, wipeR]
          refine hc _ (.inr rfl) ?_
          have lz' : (x.cps.toList.map fun c => D.bl (isLtr c)).length ≤ 16777216 := by rw [List.length_map]; exact lz
          refine ⟨by rw [e_sz]; exact lz', ?_⟩
          simp [ea, outs]
          exact q
      · have l2' : (8 : Int) < x.length := by omega
        simp [l1, l2, l2', outs] at q ⊢
        exact q
    · simp [l1, outs] at q ⊢
      exact q
  · have hn : isNameD d = false := by cases d <;> first | rfl | (exact absurd rfl hs)
    rw [hn] at q
    simp [e1, hs, outs]
    exact q

/-! ### are_names -/
def strsD : List D → List Str
  | [] => []
  | .str x :: ds => x :: strsD ds
  | _ :: ds => strsD ds
theorem strsD_all : ∀ {ds : List D}, ds.all isNameD = true → ds = (strsD ds).map D.str
  | [], _ => rfl
  | d :: ds, h => by
    rw [List.all_cons, Bool.and_eq_true] at h
    cases d with
    | str x => rw [strsD, List.map_cons, ← strsD_all h.2]
    | _ => exact absurd h.1 (by simp [isNameD])
theorem strsD_map (xs : List Str) : strsD (xs.map D.str) = xs := by
  induction xs with
  | nil => rfl
  | cons x xs ih => rw [List.map_cons, strsD, ih]
def areNamesL (ds : List D) : Bool := ds.all isNameD && decide (strsD ds).Nodup
def areNamesD : D → Bool
  | .lst ds => areNamesL ds
  | .tup ds => areNamesL ds
  | _ => false
/-- values in a row whose kinds are known -/
def TypL (cs : List Str) (ds : List D) : Prop := (∀ d ∈ ds, Typd cs d) ∧ ds.length ≤ 16777216 ∧ (ds.all isNameD = true → ds.length ≤ 4000)
def TypD (cs : List Str) : D → Prop
  | .lst ds => TypL cs ds
  | .tup ds => TypL cs ds
  | .tupK _ => False
  | d => Typd cs d
theorem TypD.typd {cs : List Str} {d : D} (h : TypD cs d) : Typd cs d := by
  cases d <;> first | exact trivial | exact h

theorem foldS_len : ∀ (xs ys : List Str), (xs.foldl ddS ys).length ≤ ys.length + xs.length
  | [], ys => by simp
  | x :: xs, ys => by
    have h := foldS_len xs (ddS ys x)
    have h2 : (ddS ys x).length ≤ ys.length + 1 := by unfold ddS; split <;> simp
    rw [List.foldl_cons, List.length_cons]; omega
theorem foldS_iff : ∀ (xs ys : List Str), (xs.foldl ddS ys).length = ys.length + xs.length ↔ xs.Nodup ∧ ∀ x ∈ xs, x ∉ ys
  | [], ys => by simp
  | x :: xs, ys => by
    rw [List.foldl_cons]
    by_cases h : x ∈ ys
    · have e : ddS ys x = ys := by unfold ddS; simp [h]
      have := foldS_len xs ys
      rw [e, List.length_cons]
      constructor
      · intro q; omega
      · rintro ⟨_, q⟩; exact absurd h (q x List.mem_cons_self)
    · have e : ddS ys x = ys ++ [x] := by unfold ddS; simp [h]
      rw [e, List.length_cons, show ys.length + (xs.length + 1) = (ys ++ [x]).length + xs.length by simp; omega, foldS_iff xs (ys ++ [x]), List.nodup_cons]
      constructor
      · rintro ⟨a, b⟩
        refine ⟨⟨fun hx => b x hx (by simp), a⟩, ?_⟩
        intro y hy
        rcases List.mem_cons.mp hy with rfl | hy
        · exact h
        · exact fun hq => b y hy (by simp [hq])
      · rintro ⟨⟨a, b⟩, c⟩
        refine ⟨b, fun y hy hq => ?_⟩
        rcases List.mem_append.mp hq with hq | hq
        · exact c y (List.mem_cons_of_mem _ hy) hq
        · simp at hq; subst hq; exact a hy
theorem ded_iff (xs : List Str) : (dedS xs).length = xs.length ↔ xs.Nodup := by
  have := foldS_iff xs []
  simpa [dedS] using this

/-- [f(one) for one in ..], slots: the row, one -/
theorem comp_call {M : FnM} {p : D → Bool} {ds : List D} {sl : Sl} {Q' : List D × Rho → Prop} (hM : ∀ d ∈ ds, ∀ Q : Sl → List Sl → Prop, Q ⟨.fz, .bl (p d)⟩ [⟨.fz, d⟩] → wM M [⟨.fz, d⟩] Q)
    (q : Q' (ds.map fun d => D.bl (p d), [some sl, none])) : wg (compM [1] (bindN 1) fYes (fCall M [(.sl 1)]) ds [] [some sl, none]) Q' := by
  have e : ds = ds.map fun d => d := by simp
  have key : wg (compM [1] (bindN 1) fYes (fCall M [(.sl 1)]) (ds.map fun d => d) [] [some sl, none]) Q' := by
    refine w_compP (fun d : D => d) (fun _ => true) (fun d => .bl (p d)) ?_ ?_
    · intro d hd
      simp [nodupS]
      refine hM d hd _ ?_
      simp [wb, wipeR]
    · have ef : (ds.filter fun _ => true) = ds := List.filter_eq_self.mpr (by simp)
      rw [ef]; exact q
  rwa [← e] at key
theorem all_mem {ds : List D} {p : D → Bool} (e : (ds.map fun d => D.bl (p d)).length ≤ sizeLine) : gAll [.lst (ds.map fun d => D.bl (p d))] = some ⟨.fz, .bl (ds.all p)⟩ := e_all p ds
theorem are_names_w {T : TK → TK → Option Bool} {cs : List Str} {d : D} {m : Md} (hT : TOk T cs) (h : TypD cs d) {Q : Sl → List Sl → Prop} (q : Q ⟨.fz, .bl (areNamesD d)⟩ [⟨m, d⟩]) (hm : m = .fz ∨ m = .par) : wM (m_are_names T) [⟨m, d⟩] Q := by
  rw [m_are_names, w_fn, b_are_names]
  simp only [List.map_cons, List.map_nil, List.cons_append, List.nil_append, List.replicate_succ, List.replicate_zero]
  have e1 := e_isiLT hT h.typd
  -- a row
  have row : ∀ ds, TypL cs ds → itemsA d = some ds → gLenA [d] = some ⟨.fz, .int ds.length⟩ → (∀ xs : List Str, ds = xs.map D.str → xs.length ≤ 4000 → gLenSet d = some ⟨.fz, .int (dedS xs).length⟩) → (decide (knd d = "list") || decide (knd d = "tuple")) = true → areNamesD d = areNamesL ds →
      wS (fSeq (fIfS (fOr (fNot (fT (fOpN (gIsi T) [(.sl 0), (.ex (fDisp gTup [(fC (.ty "list")), (fC (.ty "tuple"))]))]))) (fNot (fT (fOpN gAll [(.ex (fComp itemsA (.sl 0) [1] (bindN 1) fYes (fCall (m_is_name T) [(.sl 1)])))])))) (fRet (fC (.bl false))) fNext)
        (fRet (fOp2 gEq (.ex (fOp1 gLenSet (.sl 0))) (.ex (fOpN gLenA [(.sl 0)]))))) [some ⟨m, d⟩, none] fun fl ρ => match fl with | .rt r => Q r (outs ρ 0 [⟨m, d⟩]) | .nx => Q ⟨.fz, .non⟩ (outs ρ 0 [⟨m, d⟩]) | _ => False := by
    intro ds ht it ln ls kd ea
    obtain ⟨t1, t2, t3⟩ := ht
    have lz : (ds.map fun d => D.bl (isNameD d)).length ≤ sizeLine := by rw [List.length_map, e_sz]; exact t2
    have ga := e_all isNameD ds
    have hc : ∀ (sl : Sl) {Q' : List D × Rho → Prop}, Q' (ds.map fun d => D.bl (isNameD d), [some sl, none]) → wg (compM [1] (bindN 1) fYes (fCall (m_is_name T) [(.sl 1)]) ds [] [some sl, none]) Q' := fun sl Q' hq =>
      comp_call (fun d hd Q hQ => is_name_w hT (t1 d hd) hQ (.inl rfl)) hq
    rw [ea, areNamesL] at q
    have fin : ∀ b : Bool, ds.all isNameD = b → (if b = true then Q ⟨.fz, .bl (decide ((strsD ds).Nodup))⟩ [⟨m, d⟩] else Q ⟨.fz, .bl false⟩ [⟨m, d⟩]) := by
      intro b hb
      rw [hb] at q
      cases b <;> simpa using q
    generalize hal : ds.all isNameD = al at ga fin
    replace fin := fin al rfl
    have last : al = true → gEq (.int (dedS (strsD ds)).length) (.int ds.length) = some ⟨.fz, .bl (decide ((strsD ds).Nodup))⟩ ∧ gLenSet d = some ⟨.fz, .int (dedS (strsD ds)).length⟩ := by
      rintro rfl
      have e := strsD_all hal
      have l : (strsD ds).length = ds.length := by conv => rhs; rw [e, List.length_map]
      refine ⟨?_, ls _ e (by rw [l]; exact t3 hal)⟩
      rw [e_eq, eo_i, ok_int, ok_int]
      simp only [Bool.and_self, if_true, eqD_int]
      rw [decide_eq_decide.mpr (show ((dedS (strsD ds)).length : Int) = (ds.length : Int) ↔ (strsD ds).Nodup by rw [← l, ← ded_iff]; omega)]
    simp [e1, kd]
    rcases hm with rfl | rfl
    · simp [it, lend, back, wipeR]
      refine hc _ ?_
      refine ⟨lz, ?_⟩
      simp [ga]
      cases al with
      | false => simpa [outs] using fin
      | true =>
        obtain ⟨g1, g2⟩ := last rfl
        simp [g1, g2, ln, outs, -e_eq]
        simpa using fin
    · simp [it, lend, back, wipeR]
      refine hc _ ?_
      refine ⟨lz, ?_⟩
      simp [ga]
      cases al with
      | false => simpa [outs] using fin
      | true =>
        obtain ⟨g1, g2⟩ := last rfl
        simp [g1, g2, ln, outs, -e_eq]
        simpa using fin
  cases d with
  | lst ds => exact row ds h rfl rfl (fun xs e hx => by subst e; rw [e_lenSet_l, if_pos hx]) (by simp [knd]) rfl
  | tup ds => exact row ds h rfl rfl (fun xs e hx => by subst e; rw [e_lenSet_t, if_pos hx]) (by simp [knd]) rfl
  | tupK ds => exact h.elim
  | _ =>
    first
    | (simp [e1, knd, outs]; exact q)
    | exact h.elim

/-! ### is_pair, is_answer -/
def isPairD : D → Bool
  | .tup [a, b] => areNamesL [a, b]
  | _ => false
def isBlD : D → Bool
  | .bl _ => true
  | _ => false
def isAnswerD : D → Bool
  | .tup [a, b, c] => areNamesL [a, b] && isBlD c
  | _ => false
/-- a value that the kinds may be asked of -/
def Typ1 (cs : List Str) : D → Prop
  | .tup ds => ds.length ≤ 3 → ∀ x ∈ ds, Typd cs x
  | .tupK _ => False
  | d => Typd cs d
theorem Typ1.typd {cs : List Str} {d : D} (h : Typ1 cs d) : Typd cs d := by
  cases d <;> first | exact trivial | exact h
theorem typL2 {cs : List Str} {a b : D} (ha : Typd cs a) (hb : Typd cs b) : TypL cs [a, b] := ⟨by intro d hd; simp at hd; rcases hd with rfl | rfl <;> assumption, by simp, by simp⟩
theorem len_tup (ds : List D) : gLenA [.tup ds] = some ⟨.fz, .int ds.length⟩ := rfl
theorem is_pair_w {T : TK → TK → Option Bool} {cs : List Str} {d : D} {m : Md} (hT : TOk T cs) (h : Typ1 cs d) {Q : Sl → List Sl → Prop} (q : Q ⟨.fz, .bl (isPairD d)⟩ [⟨m, d⟩]) (hm : m = .fz ∨ m = .par) : wM (m_is_pair T) [⟨m, d⟩] Q := by
  rw [m_is_pair, w_fn, b_is_pair]
  simp only [List.map_cons, List.map_nil, List.cons_append, List.nil_append, List.replicate_succ, List.replicate_zero]
  have e1 : gIsi T [d, .ty "tuple"] = some ⟨.fz, .bl (decide (knd d = "tuple"))⟩ := e_isi hT h.typd (by decide)
  cases d with
  | tup ds =>
    have e2 : decide (knd (.tup ds) = "tuple") = true := by simp [knd]
    rw [e2] at e1
    by_cases hl : ds.length = 2
    · obtain ⟨a, b, rfl⟩ : ∃ a b, ds = [a, b] := by
        match ds, hl with
        | [a, b], _ => exact ⟨a, b, rfl⟩
      have hh := h (by simp)
      rcases hm with rfl | rfl
      · simp [e1, len_tup, ok_int, eqD_int, nodupS]
        refine are_names_w (d := .tup [a, b]) hT (typL2 (hh a (by simp)) (hh b (by simp))) ?_ (.inl rfl)
        simp [wb, outs]; exact q
      · simp [e1, len_tup, ok_int, eqD_int, nodupS]
        refine are_names_w (d := .tup [a, b]) hT (typL2 (hh a (by simp)) (hh b (by simp))) ?_ (.inr rfl)
        simp [wb, outs]; exact q
    · have hl' : ¬ (ds.length : Int) = 2 := by omega
      have ep : isPairD (.tup ds) = false := by
        match ds, hl with
        | [], _ => rfl
        | [_], _ => rfl
        | [a, b], h => exact absurd rfl h
        | _ :: _ :: _ :: _, _ => rfl
      rw [ep] at q
      simp [e1, len_tup, ok_int, eqD_int, hl', outs]; exact q
  | tupK ds => exact h.elim
  | _ =>
    first
    | (simp [e1, knd, outs]; exact q)
    | exact h.elim
theorem is_answer_w {T : TK → TK → Option Bool} {cs : List Str} {d : D} {m : Md} (hT : TOk T cs) (h : Typ1 cs d) {Q : Sl → List Sl → Prop} (q : Q ⟨.fz, .bl (isAnswerD d)⟩ [⟨m, d⟩]) (hm : m = .fz ∨ m = .par) : wM (m_is_answer T) [⟨m, d⟩] Q := by
  rw [m_is_answer, w_fn, b_is_answer]
  simp only [List.map_cons, List.map_nil, List.cons_append, List.nil_append, List.replicate_succ, List.replicate_zero]
  have e1 : gIsi T [d, .ty "tuple"] = some ⟨.fz, .bl (decide (knd d = "tuple"))⟩ := e_isi hT h.typd (by decide)
  cases d with
  | tup ds =>
    have e2 : decide (knd (.tup ds) = "tuple") = true := by simp [knd]
    rw [e2] at e1
    by_cases hl : ds.length = 3
    · obtain ⟨a, b, c, rfl⟩ : ∃ a b c, ds = [a, b, c] := by
        match ds, hl with
        | [a, b, c], _ => exact ⟨a, b, c, rfl⟩
      have hh := h (by simp)
      have e3 : gIsi T [c, .ty "bool"] = some ⟨.fz, .bl (decide (knd c = "bool"))⟩ := e_isi hT (hh c (by simp)) (by decide)
      have e4 : decide (knd c = "bool") = isBlD c := by cases c <;> simp [knd, isBlD]
      rw [e4] at e3
      have e5 : cutD [a, b, c] none (some 2) = [a, b] := by simp [cutD, HT.sIx]
      have e6 : isAnswerD (.tup [a, b, c]) = (areNamesL [a, b] && isBlD c) := rfl
      rw [e6] at q
      generalize isBlD c = bc at q e3
      simp [e1, len_tup, ok_int, eqD_int, nodupS, e5]
      refine is_pair_w (d := .tup [a, b]) hT (fun _ x hx => by simp at hx; rcases hx with rfl | rfl; exact hh _ (by simp); exact hh _ (by simp)) ?_ (.inl rfl)
      simp only [isPairD]
      generalize areNamesL [a, b] = an at q
      simp [wb]
      cases an with
      | false => simpa [outs] using q
      | true => simp [e3, outs]; simpa using q
    · have hl' : ¬ (ds.length : Int) = 3 := by omega
      have ep : isAnswerD (.tup ds) = false := by
        match ds, hl with
        | [], _ => rfl
        | [_], _ => rfl
        | [_, _], _ => rfl
        | [a, b, c], h => exact absurd rfl h
        | _ :: _ :: _ :: _ :: _, _ => rfl
      rw [ep] at q
      simp [e1, len_tup, ok_int, eqD_int, hl', outs]; exact q
  | tupK ds => exact h.elim
  | _ =>
    first
    | (simp [e1, knd, outs]; exact q)
    | exact h.elim
end VI

/-! Answers, and Books of them. -/
namespace VI
open PySem PySem.Spec PyProof.Rows L2

/-- a loop, by what is behind and ahead -/
theorem w_loopY {β : Type} {b : MG} {body : MS} {QS : Fl → Rho → Prop} (E : β → D) (I : List β → Rho → Prop) {xs : List β} {ρ : Rho} (h0 : I [] ρ)
    (hs : ∀ (pre : List β) (x : β) (post : List β) (ρ : Rho), xs = pre ++ x :: post → I pre ρ → wg (b (E x) ρ) fun ρ1 => wS body ρ1 fun fl ρ2 => match fl with | .nx => I (pre ++ [x]) ρ2 | .ct => I (pre ++ [x]) ρ2 | .bk => QS .nx ρ2 | .rt r => QS (.rt r) ρ2)
    (hd : ∀ ρ, I xs ρ → QS .nx ρ) : wS (loopM b body (xs.map E)) ρ QS := by
  refine w_loop (fun k ρ => I (xs.take k) ρ) (k := 0) (by simpa using h0) ?_ ?_
  · intro j d ρ hj hi
    rw [List.getElem?_map] at hj
    obtain ⟨x, hx, rfl⟩ := Option.map_eq_some_iff.mp hj
    have e : xs.take (0 + j + 1) = xs.take (0 + j) ++ [x] := by
      rw [Nat.zero_add]
      obtain ⟨hlt, rfl⟩ := List.getElem?_eq_some_iff.mp hx
      exact (List.take_append_getElem hlt).symm
    rw [e]
    refine hs _ x (xs.drop (0 + j + 1)) ρ ?_ hi
    have : xs.take (0 + j) ++ x :: xs.drop (0 + j + 1) = (xs.take (0 + j) ++ [x]) ++ xs.drop (0 + j + 1) := by simp
    rw [this, ← e, List.take_append_drop]
  · intro ρ hi
    refine hd ρ ?_
    rwa [Nat.zero_add, List.length_map, List.take_length] at hi

/-! ### answers -/
abbrev Ans := Str × Str × Bool
def ansD (a : Ans) : D := .tup [.str a.1, .str a.2.1, .bl a.2.2]
def ansP (a : Ans) : Str × Str := (a.1, a.2.1)
def ansF (a : Ans) : Str × Str := if a.2.2 = true then (a.1, a.2.1) else (a.2.1, a.1)
structure AnsOk (ns : List Str) (as : List Ans) : Prop where
  inn : ∀ a ∈ as, a.1 ∈ ns ∧ a.2.1 ∈ ns ∧ a.1 ≠ a.2.1
  nodup : (as.map ansP).Nodup
  len : as.length ≤ 36
theorem pair_of_w {m : Md} {a : Ans} {Q : Sl → List Sl → Prop} (q : Q ⟨.fz, pairD (ansP a)⟩ [⟨m, ansD a⟩]) : wM m_pair_of [⟨m, ansD a⟩] Q := by
  rw [m_pair_of, w_fn, b_pair_of]
  simp only [List.map_cons, List.map_nil, List.cons_append, List.nil_append, List.replicate_succ, List.replicate_zero]
  have e5 : cutD [.str a.1, .str a.2.1, .bl a.2.2] none (some 2) = [.str a.1, .str a.2.1] := by simp [cutD, HT.sIx]
  simp [ansD, e5, outs]
  exact q
theorem ends_of_w {a : Ans} {Q : Sl → List Sl → Prop} (q : Q ⟨.fz, pairD (ansF a)⟩ [⟨.fz, ansD a⟩]) : wM m_ends_of [⟨.fz, ansD a⟩] Q := by
  rw [m_ends_of, w_fn, b_ends_of]
  simp only [List.map_cons, List.map_nil, List.cons_append, List.nil_append, List.replicate_succ, List.replicate_zero]
  obtain ⟨x, y, t⟩ := a
  cases t with
  | true => simp [ansD, outs, free]; exact q
  | false => simp [ansD, outs, free]; exact q
/-- _law_leads -/
theorem leads_w {m : Md} {a : Ans} {Q : Sl → List Sl → Prop} (q : Q ⟨.fz, pairD (ansF a)⟩ [⟨m, ansD a⟩]) : wM m_law_leads [⟨m, ansD a⟩] Q := by
  rw [m_law_leads, w_fn, b_law_leads]
  simp only [List.map_cons, List.map_nil, List.cons_append, List.nil_append, List.replicate_succ, List.replicate_zero]
  obtain ⟨x, y, t⟩ := a
  cases t with
  | true => simp [ansD, outs]; exact q
  | false => simp [ansD, outs]; exact q
theorem GoodN.typd {cs : List Str} {x : Str} (h : GoodN x) : Typd cs (.str x) := by
  have := h.2.2
  show x.length ≤ 16777216
  omega
theorem isName_good {x : Str} (h : GoodN x) : isNameD (.str x) = true := nameB_iff.mpr h
theorem isAns_good {a : Ans} (h1 : GoodN a.1) (h2 : GoodN a.2.1) (hn : a.1 ≠ a.2.1) : isAnswerD (ansD a) = true := by
  have e : strsD [.str a.1, .str a.2.1] = [a.1, a.2.1] := rfl
  have : areNamesL [.str a.1, .str a.2.1] = true := by
    unfold areNamesL
    rw [e]
    simp [isName_good h1, isName_good h2, hn]
  show (areNamesL [.str a.1, .str a.2.1] && true) = true
  rw [this]; rfl
def areAnswersD : D → Bool
  | .lst ds => ds.all isAnswerD
  | .tup ds => ds.all isAnswerD
  | .tupK ds => ds.all isAnswerD
  | _ => false
/-- rows of which are_answers may be asked -/
def TypA (cs : List Str) : D → Prop
  | .lst ds => (∀ d ∈ ds, Typ1 cs d) ∧ ds.length ≤ 16777216
  | .tup ds => (∀ d ∈ ds, Typ1 cs d) ∧ ds.length ≤ 16777216
  | .tupK ds => (∀ d ∈ ds, Typ1 cs d) ∧ ds.length ≤ 16777216
  | d => Typd cs d
theorem TypA.typd {cs : List Str} {d : D} (h : TypA cs d) : Typd cs d := by
  cases d <;> first | exact trivial | exact h
theorem are_answers_w {T : TK → TK → Option Bool} {cs : List Str} {d : D} {m : Md} (hT : TOk T cs) (h : TypA cs d) {Q : Sl → List Sl → Prop} (q : Q ⟨.fz, .bl (areAnswersD d)⟩ [⟨m, d⟩]) (hm : m = .fz ∨ m = .par) : wM (m_are_answers T) [⟨m, d⟩] Q := by
  rw [m_are_answers, w_fn, b_are_answers]
  simp only [List.map_cons, List.map_nil, List.cons_append, List.nil_append, List.replicate_succ, List.replicate_zero]
  have e1 := e_isiLT hT h.typd
  have row : ∀ ds, (∀ d ∈ ds, Typ1 cs d) → ds.length ≤ 16777216 → itemsA d = some ds → (decide (knd d = "list") || decide (knd d = "tuple")) = true → areAnswersD d = ds.all isAnswerD →
      wS (fRet (fAndV (fOpN (gIsi T) [(.sl 0), (.ex (fDisp gTup [(fC (.ty "list")), (fC (.ty "tuple"))]))]) (fOpN gAll [(.ex (fComp itemsA (.sl 0) [1] (bindN 1) fYes (fCall (m_is_answer T) [(.sl 1)])))]))) [some ⟨m, d⟩, none] fun fl ρ => match fl with | .rt r => Q r (outs ρ 0 [⟨m, d⟩]) | .nx => Q ⟨.fz, .non⟩ (outs ρ 0 [⟨m, d⟩]) | _ => False := by
    intro ds t1 t2 it kd ea
    have lz : (ds.map fun d => D.bl (isAnswerD d)).length ≤ sizeLine := by rw [List.length_map, e_sz]; exact t2
    have ga := e_all isAnswerD ds
    have hc : ∀ (sl : Sl) {Q' : List D × Rho → Prop}, Q' (ds.map fun d => D.bl (isAnswerD d), [some sl, none]) → wg (compM [1] (bindN 1) fYes (fCall (m_is_answer T) [(.sl 1)]) ds [] [some sl, none]) Q' := fun sl Q' hq =>
      comp_call (fun d hd Q hQ => is_answer_w hT (t1 d hd) hQ (.inl rfl)) hq
    rw [ea] at q
    generalize ds.all isAnswerD = al at ga q
    simp [e1, kd]
    rcases hm with rfl | rfl
    · simp [it, lend, back, wipeR]
      refine hc _ ?_
      refine ⟨lz, ?_⟩
      simp [ga, outs]
      exact q
    · simp [it, lend, back, wipeR]
      refine hc _ ?_
      refine ⟨lz, ?_⟩
      simp [ga, outs]
      exact q
  cases d with
  | lst ds => exact row ds h.1 h.2 rfl (by simp [knd]) rfl
  | tup ds => exact row ds h.1 h.2 rfl (by simp [knd]) rfl
  | tupK ds => exact row ds h.1 h.2 rfl (by simp [knd]) rfl
  | _ =>
    first
    | (simp [e1, knd, outs]; exact q)
    | exact h.elim
end VI

/-! What is shown is shown of one value alone (plain texts, small numbers). -/
namespace VI
open PySem PySem.Spec PyProof.Rows L2
def sh (d : D) : List Nat := d.py.shown.cps.toList
def PlainS (x : Str) : Prop := ∀ c ∈ x.cps.toList, (97 ≤ c ∧ c ≤ 122) ∨ (65 ≤ c ∧ c ≤ 90)
mutual
def Smp : D → Prop
  | .non => True
  | .bl _ => True
  | .int i => 0 ≤ i ∧ i ≤ 9
  | .str x => PlainS x ∧ x.length ≤ 8
  | .tup xs => SmpL xs
  | .lst xs => SmpL xs
  | _ => False
def SmpL : List D → Prop
  | [] => True
  | x :: xs => Smp x ∧ SmpL xs
end
theorem smpL_iff : ∀ {xs : List D}, SmpL xs ↔ ∀ x ∈ xs, Smp x
  | [] => by simp [SmpL]
  | x :: xs => by rw [SmpL, smpL_iff (xs := xs)]; simp
def tl (c : Nat) : List (List Nat) → List Nat
  | [] => [c]
  | t :: r => 44 :: 32 :: (t ++ tl c r)
theorem join_tl (c : Nat) : ∀ (ts : List Str) (x : Str), (Str.join ", " (x :: ts)).cps.toList ++ [c] = x.cps.toList ++ tl c (ts.map fun t => t.cps.toList)
  | [], x => rfl
  | t :: ts, x => by
    have e : Str.join ", " (x :: t :: ts) = x ++ ", " ++ Str.join ", " (t :: ts) := rfl
    have e2 : Str.cps (", " : Str) = #[44, 32] := by decide +kernel
    rw [e, toL_app, toL_app, List.append_assoc, List.append_assoc, join_tl c ts t, e2]
    rfl
theorem shAll (xs : List D) : (PyData.shownAll (pyL xs)).map (fun t => t.cps.toList) = xs.map sh := by
  rw [shownAll_map, List.map_map]; rfl
theorem sh_non : sh .non = [78, 111, 110, 101] := by
  unfold sh; rw [D.py, PyData.shown_none]; decide +kernel
theorem sh_t : sh (.bl true) = [84, 114, 117, 101] := by
  unfold sh; rw [D.py, PyData.shown_bool]; decide +kernel
theorem sh_f : sh (.bl false) = [70, 97, 108, 115, 101] := by
  unfold sh; rw [D.py, PyData.shown_bool]; decide +kernel
theorem sh_int {i : Int} (h : 0 ≤ i ∧ i ≤ 9) : sh (.int i) = [48 + i.toNat] := by
  unfold sh; rw [D.py, PyData.shown_int]
  have key : ∀ k : Fin 10, (Str.ofString (toString ((k.val : Nat) : Int))).cps.toList = [48 + k.val] := by decide +kernel
  have := key ⟨i.toNat, by omega⟩
  have e : ((i.toNat : Nat) : Int) = i := by omega
  simp only [e] at this
  exact this
theorem fold_plain : ∀ (l : List Nat) (acc : Array Nat), (∀ c ∈ l, (97 ≤ c ∧ c ≤ 122) ∨ (65 ≤ c ∧ c ≤ 90)) → (l.foldl (fun out c => out ++ (Builtin.Str.reprChar 39 c).toArray) acc).toList = acc.toList ++ l
  | [], acc, _ => by simp
  | c :: l, acc, h => by
    have hc := h c List.mem_cons_self
    have e : Builtin.Str.reprChar 39 c = [c] := by
      have key : ∀ k : Fin 128, ((97 ≤ k.val ∧ k.val ≤ 122) ∨ (65 ≤ k.val ∧ k.val ≤ 90)) → Builtin.Str.reprChar 39 k.val = [k.val] := by decide +kernel
      exact key ⟨c, by omega⟩ hc
    rw [List.foldl_cons, fold_plain l _ fun d hd => h d (List.mem_cons_of_mem _ hd), e]
    simp
theorem sh_str {x : Str} (h : PlainS x) : sh (.str x) = 39 :: (x.cps.toList ++ [39]) := by
  unfold sh; rw [D.py, PyData.shown_str]
  have e : reprQuote x = 39 := by
    unfold reprQuote
    have : x.cps.contains 39 = false := by
      rw [Bool.eq_false_iff]
      intro hc
      have := h 39 (by simpa using hc)
      omega
    rw [this]; rfl
  unfold reprText
  rw [e]
  have := fold_plain x.cps.toList #[39] h
  simp only [Array.foldl_toList] at this
  rw [Array.toList_push, this]
  rfl
theorem sh_nil : sh (.lst []) = [91, 93] := by
  unfold sh; rw [D.py, PyData.shown_list]; decide +kernel
theorem sh_lst (x : D) (xs : List D) : sh (.lst (x :: xs)) = 91 :: (sh x ++ tl 93 (xs.map sh)) := by
  unfold sh
  rw [D.py, PyData.shown_list, toL_app, toL_app, pyL, PyData.shownAll_cons]
  have e1 : Str.cps ("[" : Str) = #[91] := by decide +kernel
  have e2 : Str.cps ("]" : Str) = #[93] := by decide +kernel
  rw [e1, e2, List.append_assoc]
  have := join_tl 93 (PyData.shownAll (pyL xs)) (x.py.shown)
  rw [shAll] at this
  show [91] ++ ((Str.join ", " (x.py.shown :: PyData.shownAll (pyL xs))).cps.toList ++ [93]) = _
  rw [this]
  rfl
theorem sh_tnil : sh (.tup []) = [40, 41] := by
  unfold sh; rw [D.py, PyData.shown_tuple]; decide +kernel
theorem sh_tup1 (x : D) : sh (.tup [x]) = 40 :: (sh x ++ [44, 41]) := by
  unfold sh
  rw [D.py, PyData.shown_tuple, toL_app, toL_app, pyL, pyL, PyData.shownAll_cons, PyData.shownAll_nil]
  have e1 : Str.cps ("(" : Str) = #[40] := by decide +kernel
  have e2 : Str.cps (((if [x.py].length == 1 then ",)" else ")" : String)) : Str) = #[44, 41] := by
    show Str.cps (((if 1 == 1 then ",)" else ")" : String)) : Str) = #[44, 41]
    decide +kernel
  rw [e1, e2]
  rfl
theorem sh_tup (x y : D) (xs : List D) : sh (.tup (x :: y :: xs)) = 40 :: (sh x ++ tl 41 ((y :: xs).map sh)) := by
  unfold sh
  rw [D.py, PyData.shown_tuple, toL_app, toL_app, pyL, PyData.shownAll_cons]
  have e1 : Str.cps ("(" : Str) = #[40] := by decide +kernel
  have e2 : Str.cps (((if (x.py :: pyL (y :: xs)).length == 1 then ",)" else ")" : String)) : Str) = #[41] := by
    have : ((x.py :: pyL (y :: xs)).length == 1) = false := by simp [pyL]
    rw [this]
    decide +kernel
  rw [e1, e2, List.append_assoc]
  have := join_tl 41 (PyData.shownAll (pyL (y :: xs))) (x.py.shown)
  rw [shAll] at this
  show [40] ++ ((Str.join ", " (x.py.shown :: PyData.shownAll (pyL (y :: xs)))).cps.toList ++ [41]) = _
  rw [this]
  rfl
/-- the first sign -/
theorem sh_head {d : D} (h : Smp d) : ∃ c t, sh d = c :: t ∧ c ≠ 93 ∧ c ≠ 41 ∧ c ≠ 44 := by
  cases d with
  | non => exact ⟨_, _, sh_non, by decide, by decide, by decide⟩
  | bl b => cases b with
    | true => exact ⟨_, _, sh_t, by decide, by decide, by decide⟩
    | false => exact ⟨_, _, sh_f, by decide, by decide, by decide⟩
  | int i =>
    have hi : 0 ≤ i ∧ i ≤ 9 := by simpa [Smp] using h
    exact ⟨_, _, sh_int hi, by omega, by omega, by omega⟩
  | str x => exact ⟨_, _, sh_str (by rw [Smp] at h; exact h.1), by decide, by decide, by decide⟩
  | tup xs => match xs with
    | [] => exact ⟨_, _, sh_tnil, by decide, by decide, by decide⟩
    | [x] => exact ⟨_, _, sh_tup1 x, by decide, by decide, by decide⟩
    | x :: y :: xs => exact ⟨_, _, sh_tup x y xs, by decide, by decide, by decide⟩
  | lst xs => match xs with
    | [] => exact ⟨_, _, sh_nil, by decide, by decide, by decide⟩
    | x :: xs => exact ⟨_, _, sh_lst x xs, by decide, by decide, by decide⟩
  | _ => exact (by simp [Smp] at h)
def End : List Nat → Prop
  | [] => True
  | c :: _ => c = 44 ∨ c = 93 ∨ c = 41
theorem end_tl {c : Nat} (hc : c = 93 ∨ c = 41) (ts : List (List Nat)) (r : List Nat) : End (tl c ts ++ r) := by
  cases ts with
  | nil => simp [tl, End]; omega
  | cons t ts => simp [tl, End]
theorem split39 : ∀ (x y : List Nat) {r s : List Nat}, 39 ∉ x → 39 ∉ y → x ++ 39 :: r = y ++ 39 :: s → x = y ∧ r = s
  | [], [], r, s, _, _, h => by simpa using h
  | [], b :: y, r, s, _, hy, h => by simp at h; exact absurd h.1 (fun e => hy (by simp [e]))
  | a :: x, [], r, s, hx, _, h => by simp at h; exact absurd h.1.symm (fun e => hx (by simp [e]))
  | a :: x, b :: y, r, s, hx, hy, h => by
    simp at h hx hy
    obtain ⟨e1, e2⟩ := split39 x y hx.2 hy.2 h.2
    exact ⟨by rw [h.1, e1], e2⟩
theorem no39 {x : Str} (h : PlainS x) : 39 ∉ x.cps.toList := fun hc => by have := h 39 hc; omega
theorem str_ext {x y : Str} (h : x.cps.toList = y.cps.toList) : x = y := by
  obtain ⟨x⟩ := x; obtain ⟨y⟩ := y
  simp at h; rw [h]
/-- the kinds by the first sign -/
def kd1 : D → Nat
  | .non => 78
  | .bl true => 84
  | .bl false => 70
  | .int _ => 48
  | .str _ => 39
  | .tup _ => 40
  | .lst _ => 91
  | _ => 0
theorem kd1_head {d : D} (h : Smp d) : ∃ c t, sh d = c :: t ∧ (kd1 d = c ∨ (kd1 d = 48 ∧ 48 ≤ c ∧ c ≤ 57)) := by
  cases d with
  | non => exact ⟨_, _, sh_non, .inl rfl⟩
  | bl b => cases b with
    | true => exact ⟨_, _, sh_t, .inl rfl⟩
    | false => exact ⟨_, _, sh_f, .inl rfl⟩
  | int i =>
    have hi : 0 ≤ i ∧ i ≤ 9 := by simpa [Smp] using h
    exact ⟨_, _, sh_int hi, .inr ⟨rfl, by omega, by omega⟩⟩
  | str x => exact ⟨_, _, sh_str (by rw [Smp] at h; exact h.1), .inl rfl⟩
  | tup xs => match xs with
    | [] => exact ⟨_, _, sh_tnil, .inl rfl⟩
    | [x] => exact ⟨_, _, sh_tup1 x, .inl rfl⟩
    | x :: y :: xs => exact ⟨_, _, sh_tup x y xs, .inl rfl⟩
  | lst xs => match xs with
    | [] => exact ⟨_, _, sh_nil, .inl rfl⟩
    | x :: xs => exact ⟨_, _, sh_lst x xs, .inl rfl⟩
  | _ => exact (by simp [Smp] at h)
theorem kd1_vals (d : D) : kd1 d = 78 ∨ kd1 d = 84 ∨ kd1 d = 70 ∨ kd1 d = 48 ∨ kd1 d = 39 ∨ kd1 d = 40 ∨ kd1 d = 91 ∨ kd1 d = 0 := by
  cases d with
  | bl b => cases b <;> simp [kd1]
  | _ => simp [kd1]
theorem kd1_eq {a b : D} {r s : List Nat} (ha : Smp a) (hb : Smp b) (h : sh a ++ r = sh b ++ s) : kd1 a = kd1 b := by
  obtain ⟨c, t, e1, h1⟩ := kd1_head ha
  obtain ⟨c', t', e2, h2⟩ := kd1_head hb
  rw [e1, e2] at h
  simp at h
  obtain ⟨rfl, -⟩ := h
  have v1 := kd1_vals a
  have v2 := kd1_vals b
  omega
mutual
theorem sh_inj : ∀ (a b : D) (r s : List Nat), Smp a → Smp b → End r → End s → sh a ++ r = sh b ++ s → a = b ∧ r = s
  | .non, b, r, s, ha, hb, hr, hs, h => by
    have k := kd1_eq ha hb h
    cases b with
    | non => exact ⟨rfl, List.append_cancel_left h⟩
    | bl q => cases q <;> simp [kd1] at k
    | _ => simp [kd1] at k
  | .bl p, b, r, s, ha, hb, hr, hs, h => by
    have k := kd1_eq ha hb h
    cases b with
    | bl q => cases p <;> cases q <;> first | exact ⟨rfl, List.append_cancel_left h⟩ | simp [kd1] at k
    | _ => cases p <;> simp [kd1] at k
  | .int i, b, r, s, ha, hb, hr, hs, h => by
    have k := kd1_eq ha hb h
    cases b with
    | bl q => cases q <;> simp [kd1] at k
    | int j =>
      have hi : 0 ≤ i ∧ i ≤ 9 := by simpa [Smp] using ha
      have hj : 0 ≤ j ∧ j ≤ 9 := by simpa [Smp] using hb
      rw [sh_int hi, sh_int hj] at h
      simp at h
      have : i = j := by omega
      exact ⟨by rw [this], h.2⟩
    | _ => simp [kd1] at k
  | .str x, b, r, s, ha, hb, hr, hs, h => by
    have k := kd1_eq ha hb h
    cases b with
    | bl q => cases q <;> simp [kd1] at k
    | str y =>
      have hx : PlainS x := by rw [Smp] at ha; exact ha.1
      have hy : PlainS y := by rw [Smp] at hb; exact hb.1
      rw [sh_str hx, sh_str hy] at h
      simp at h
      obtain ⟨e1, e2⟩ := split39 _ _ (no39 hx) (no39 hy) h
      exact ⟨by rw [str_ext e1], e2⟩
    | _ => simp [kd1] at k
  | .tup xs, b, r, s, ha, hb, hr, hs, h => by
    have k := kd1_eq ha hb h
    cases b with
    | bl q => cases q <;> simp [kd1] at k
    | tup ys =>
      rw [Smp] at ha hb
      match xs, ys with
      | [], [] => exact ⟨rfl, List.append_cancel_left h⟩
      | [], y :: ys =>
        rw [SmpL] at hb
        obtain ⟨c, t, e, h1, h2, h3⟩ := sh_head hb.1
        exfalso
        cases ys with
        | nil => rw [sh_tnil, sh_tup1, e] at h; simp at h; exact h2 h.1.symm
        | cons z zs => rw [sh_tnil, sh_tup, e] at h; simp at h; exact h2 h.1.symm
      | x :: xs, [] =>
        rw [SmpL] at ha
        obtain ⟨c, t, e, h1, h2, h3⟩ := sh_head ha.1
        exfalso
        cases xs with
        | nil => rw [sh_tnil, sh_tup1, e] at h; simp at h; exact h2 h.1
        | cons z zs => rw [sh_tnil, sh_tup, e] at h; simp at h; exact h2 h.1
      | [x], [y] =>
        rw [SmpL] at ha hb
        rw [sh_tup1, sh_tup1, List.cons_append, List.cons_append, List.append_assoc, List.append_assoc, List.cons.injEq] at h
        obtain ⟨e1, e2⟩ := sh_inj x y _ _ ha.1 hb.1 (by simp [End]) (by simp [End]) h.2
        simp at e2
        exact ⟨by rw [e1], e2⟩
      | [x], y :: z :: zs =>
        rw [SmpL] at ha hb
        rw [sh_tup1, sh_tup, List.cons_append, List.cons_append, List.append_assoc, List.append_assoc, List.cons.injEq] at h
        obtain ⟨e1, e2⟩ := sh_inj x y _ _ ha.1 hb.1 (by simp [End]) (by simp [End, tl]) h.2
        simp [tl] at e2
      | x :: z :: zs, [y] =>
        rw [SmpL] at ha hb
        rw [sh_tup1, sh_tup, List.cons_append, List.cons_append, List.append_assoc, List.append_assoc, List.cons.injEq] at h
        obtain ⟨e1, e2⟩ := sh_inj x y _ _ ha.1 hb.1 (by simp [End, tl]) (by simp [End]) h.2
        simp [tl] at e2
      | x :: z :: zs, y :: w :: ws =>
        rw [SmpL] at ha hb
        rw [sh_tup, sh_tup, List.cons_append, List.cons_append, List.append_assoc, List.append_assoc, List.cons.injEq] at h
        obtain ⟨e1, e2⟩ := sh_inj x y _ _ ha.1 hb.1 (end_tl (.inr rfl) _ _) (end_tl (.inr rfl) _ _) h.2
        obtain ⟨e3, e4⟩ := tl_inj (z :: zs) (w :: ws) 41 r s (.inr rfl) ha.2 hb.2 e2
        exact ⟨by rw [e1, e3], e4⟩
    | _ => simp [kd1] at k
  | .lst xs, b, r, s, ha, hb, hr, hs, h => by
    have k := kd1_eq ha hb h
    cases b with
    | bl q => cases q <;> simp [kd1] at k
    | lst ys =>
      rw [Smp] at ha hb
      match xs, ys with
      | [], [] => exact ⟨rfl, List.append_cancel_left h⟩
      | [], y :: ys =>
        rw [SmpL] at hb
        obtain ⟨c, t, e, h1, h2, h3⟩ := sh_head hb.1
        exfalso
        rw [sh_nil, sh_lst, e] at h; simp at h; exact h1 h.1.symm
      | x :: xs, [] =>
        rw [SmpL] at ha
        obtain ⟨c, t, e, h1, h2, h3⟩ := sh_head ha.1
        exfalso
        rw [sh_nil, sh_lst, e] at h; simp at h; exact h1 h.1
      | x :: xs, y :: ys =>
        rw [SmpL] at ha hb
        rw [sh_lst, sh_lst, List.cons_append, List.cons_append, List.append_assoc, List.append_assoc, List.cons.injEq] at h
        obtain ⟨e1, e2⟩ := sh_inj x y _ _ ha.1 hb.1 (end_tl (.inl rfl) _ _) (end_tl (.inl rfl) _ _) h.2
        obtain ⟨e3, e4⟩ := tl_inj xs ys 93 r s (.inl rfl) ha.2 hb.2 e2
        exact ⟨by rw [e1, e3], e4⟩
    | _ => simp [kd1] at k
  | .dK _, _, _, _, ha, _, _, _, _ => by simp [Smp] at ha
  | .dT _, _, _, _, ha, _, _, _, _ => by simp [Smp] at ha
  | .ins _ _, _, _, _, ha, _, _, _, _ => by simp [Smp] at ha
  | .ptr _, _, _, _, ha, _, _, _, _ => by simp [Smp] at ha
  | .seq _, _, _, _, ha, _, _, _, _ => by simp [Smp] at ha
  | .tupK _, _, _, _, ha, _, _, _, _ => by simp [Smp] at ha
  | .ty _, _, _, _, ha, _, _, _, _ => by simp [Smp] at ha
  | .cls _, _, _, _, ha, _, _, _, _ => by simp [Smp] at ha
theorem tl_inj : ∀ (xs ys : List D) (c : Nat) (r s : List Nat), c = 93 ∨ c = 41 → SmpL xs → SmpL ys → tl c (xs.map sh) ++ r = tl c (ys.map sh) ++ s → xs = ys ∧ r = s
  | [], [], c, r, s, hc, _, _, h => ⟨rfl, List.append_cancel_left h⟩
  | [], y :: ys, c, r, s, hc, _, _, h => by simp [tl] at h; omega
  | x :: xs, [], c, r, s, hc, _, _, h => by simp [tl] at h; omega
  | x :: xs, y :: ys, c, r, s, hc, ha, hb, h => by
    rw [SmpL] at ha hb
    simp only [List.map_cons, tl, List.cons_append, List.append_assoc, List.cons.injEq, true_and] at h
    obtain ⟨e1, e2⟩ := sh_inj x y _ _ ha.1 hb.1 (end_tl hc _ _) (end_tl hc _ _) h
    obtain ⟨e3, e4⟩ := tl_inj xs ys c r s hc ha.2 hb.2 e2
    exact ⟨by rw [e1, e3], e4⟩
end
theorem shown_inj {a b : D} (ha : Smp a) (hb : Smp b) (h : a.py.shown = b.py.shown) : a = b := by
  have : sh a ++ [] = sh b ++ [] := by unfold sh; rw [h]
  exact (sh_inj a b [] [] ha hb trivial trivial this).1
/-! ### sizes -/
mutual
/-- no less than what is shown -/
def szD : D → Nat
  | .tup xs => 3 + szL xs
  | .lst xs => 2 + szL xs
  | _ => 82
def szL : List D → Nat
  | [] => 0
  | x :: xs => szD x + 2 + szL xs
end
mutual
def dpD : D → Nat
  | .tup xs => dpL xs + 1
  | .lst xs => dpL xs + 1
  | _ => 0
def dpL : List D → Nat
  | [] => 0
  | x :: xs => max (dpD x) (dpL xs)
end
theorem szL_mem : ∀ {xs : List D} {x : D}, x ∈ xs → szD x + 2 ≤ szL xs
  | y :: xs, x, h => by
    rw [szL]
    rcases List.mem_cons.mp h with rfl | h
    · omega
    · have := szL_mem h; omega
theorem szL_len : ∀ (xs : List D), xs.length ≤ szL xs
  | [] => by simp [szL]
  | x :: xs => by rw [szL, List.length_cons]; have := szL_len xs; omega
theorem dpL_mem : ∀ {xs : List D} {x : D}, x ∈ xs → dpD x ≤ dpL xs
  | y :: xs, x, h => by
    rw [dpL]
    rcases List.mem_cons.mp h with rfl | h
    · omega
    · have := dpL_mem h; omega
theorem szL_app : ∀ (xs ys : List D), szL (xs ++ ys) = szL xs + szL ys
  | [], ys => by simp [szL]
  | x :: xs, ys => by rw [List.cons_append, szL, szL, szL_app xs ys]; omega
theorem dpL_app : ∀ (xs ys : List D), dpL (xs ++ ys) = max (dpL xs) (dpL ys)
  | [], ys => by simp [dpL]
  | x :: xs, ys => by rw [List.cons_append, dpL, dpL, dpL_app xs ys]; omega
theorem szL_le {c : Nat} : ∀ {xs : List D}, (∀ x ∈ xs, szD x ≤ c) → szL xs ≤ xs.length * (c + 2)
  | [], _ => by simp [szL]
  | x :: xs, h => by
    have h1 := h x List.mem_cons_self
    have h2 := szL_le (xs := xs) fun y hy => h y (List.mem_cons_of_mem _ hy)
    rw [szL, List.length_cons, Nat.succ_mul]; omega
theorem dpL_le {c : Nat} : ∀ {xs : List D}, (∀ x ∈ xs, dpD x ≤ c) → dpL xs ≤ c
  | [], _ => by simp [dpL]
  | x :: xs, h => by
    have h1 := h x List.mem_cons_self
    have h2 := dpL_le (xs := xs) fun y hy => h y (List.mem_cons_of_mem _ hy)
    rw [dpL]; omega
theorem PlainS.ok {x : Str} (h : PlainS x) : PyData.strOk x = true := by
  rw [str_ok]
  intro c hc
  have := h c hc
  omega
theorem sum_szL : ∀ (xs : List D), (∀ x ∈ xs, x.py.shown.length ≤ szD x) → (xs.map fun x => x.py.shown.length + 2).sum ≤ szL xs
  | [], _ => by simp [szL]
  | x :: xs, h => by
    have h1 := h x List.mem_cons_self
    have h2 := sum_szL xs fun y hy => h y (List.mem_cons_of_mem _ hy)
    rw [szL, List.map_cons, List.sum_cons]; omega
mutual
theorem smp_shw : ∀ d : D, Smp d → Shw (dpD d) (szD d) d
  | .non, _ => ⟨by simp [D.pure], by simp [D.py, PyData.showable], by simp [D.py, PyData.depth], by
      have := sh_non; unfold sh at this
      have : D.non.py.shown.length = 4 := by show D.non.py.shown.cps.size = 4; rw [← Array.length_toList, this]; rfl
      rw [this]; simp [szD]⟩
  | .bl b, _ => ⟨by simp [D.pure], by simp [D.py, PyData.showable], by simp [D.py, PyData.depth], by
      have : (D.bl b).py.shown.length ≤ 5 := by
        show (D.bl b).py.shown.cps.size ≤ 5
        rw [← Array.length_toList]
        cases b with
        | true => have := sh_t; unfold sh at this; rw [this]; decide
        | false => have := sh_f; unfold sh at this; rw [this]; decide
      simp only [szD]; omega⟩
  | .int i, h => ⟨by simp [D.pure], by
      have hi : 0 ≤ i ∧ i ≤ 9 := by simpa [Smp] using h
      simp [D.py, PyData.showable]
      have key : ∀ k : Fin 10, ((k.val : Nat) : Int).natAbs.log2 < 1920 := by decide +kernel
      have := key ⟨i.toNat, by omega⟩
      have e : ((i.toNat : Nat) : Int) = i := by omega
      simp only [e] at this
      exact this, by simp [D.py, PyData.depth], by
      have hi : 0 ≤ i ∧ i ≤ 9 := by simpa [Smp] using h
      have := sh_int hi; unfold sh at this
      have : (D.int i).py.shown.length = 1 := by show (D.int i).py.shown.cps.size = 1; rw [← Array.length_toList, this]; rfl
      rw [this]; simp [szD]⟩
  | .str x, h => by
    rw [Smp] at h
    exact shw_str (n := 8) h.1.ok h.2
  | .tup xs, h => by
    rw [Smp] at h
    have hx := smp_shwL xs h
    have h0 := shw_tup (n := dpL xs) (c := szL xs) (xs := xs) fun x hx' => (hx x hx').mono (dpL_mem hx') (by have := szL_mem hx'; omega)
    refine ⟨h0.1, h0.2.1, by rw [dpD]; exact h0.2.2.1, ?_⟩
    rw [D.py, PyData.shown, shownAll_map, szD]
    refine Nat.le_trans (tupleText_le _) ?_
    rw [List.map_map]
    exact Nat.add_le_add_left (sum_szL xs fun x hx' => (hx x hx').2.2.2) 3
  | .lst xs, h => by
    rw [Smp] at h
    have hx := smp_shwL xs h
    have h0 := shw_lst (n := dpL xs) (c := szL xs) (xs := xs) fun x hx' => (hx x hx').mono (dpL_mem hx') (by have := szL_mem hx'; omega)
    refine ⟨h0.1, h0.2.1, by rw [dpD]; exact h0.2.2.1, ?_⟩
    rw [D.py, PyData.shown, shownAll_map, szD]
    refine Nat.le_trans (listText_le _) ?_
    rw [List.map_map]
    exact Nat.add_le_add_left (sum_szL xs fun x hx' => (hx x hx').2.2.2) 2
  | .dK _, h => by simp [Smp] at h
  | .dT _, h => by simp [Smp] at h
  | .ins _ _, h => by simp [Smp] at h
  | .ptr _, h => by simp [Smp] at h
  | .seq _, h => by simp [Smp] at h
  | .tupK _, h => by simp [Smp] at h
  | .ty _, h => by simp [Smp] at h
  | .cls _, h => by simp [Smp] at h
theorem smp_shwL : ∀ xs : List D, SmpL xs → ∀ x ∈ xs, Shw (dpD x) (szD x) x
  | y :: xs, h, x, hx => by
    rw [SmpL] at h
    rcases List.mem_cons.mp hx with e | hx
    · rw [e]; exact smp_shw y h.1
    · exact smp_shwL xs h.2 x hx
end
theorem smp_repr {d : D} (h : Smp d) (h1 : dpD d ≤ 64) (h2 : szD d ≤ 16777216) : reprOk d = true := (smp_shw d h).ok h1 h2
mutual
theorem smp_fine : ∀ d : D, Smp d → Fine (dpD d) d
  | .non, _ => ⟨by simp [D.pure], by simp [D.py, PyData.canLay0], by simp [D.py, PyData.depth]⟩
  | .bl b, _ => ⟨by simp [D.pure], by simp [D.py, PyData.canLay0], by simp [D.py, PyData.depth]⟩
  | .int i, _ => ⟨by simp [D.pure], by simp [D.py, PyData.canLay0], by simp [D.py, PyData.depth]⟩
  | .str x, h => by rw [Smp] at h; exact fine_str.mpr h.1.ok
  | .tup xs, h => by
    rw [Smp] at h
    rw [dpD]
    exact fine_tup.mpr fun x hx => (smp_fineL xs h x hx).mono (dpL_mem hx)
  | .lst xs, h => by
    rw [Smp] at h
    rw [dpD]
    exact fine_lst.mpr fun x hx => (smp_fineL xs h x hx).mono (dpL_mem hx)
  | .dK _, h => by simp [Smp] at h
  | .dT _, h => by simp [Smp] at h
  | .ins _ _, h => by simp [Smp] at h
  | .ptr _, h => by simp [Smp] at h
  | .seq _, h => by simp [Smp] at h
  | .tupK _, h => by simp [Smp] at h
  | .ty _, h => by simp [Smp] at h
  | .cls _, h => by simp [Smp] at h
theorem smp_fineL : ∀ xs : List D, SmpL xs → ∀ x ∈ xs, Fine (dpD x) x
  | y :: xs, h, x, hx => by
    rw [SmpL] at h
    rcases List.mem_cons.mp hx with e | hx
    · rw [e]; exact smp_fine y h.1
    · exact smp_fineL xs h.2 x hx
end
theorem smp_ok {d : D} (h : Smp d) (h1 : dpD d ≤ 64) : d.ok = true := (smp_fine d h).ok h1
theorem smp_typd {cs : List Str} {d : D} (h : Smp d) : Typd cs d := by
  cases d with
  | str x => rw [Smp] at h; have := h.2; show x.length ≤ 16777216; omega
  | non => trivial
  | bl _ => trivial
  | int _ => trivial
  | tup _ => trivial
  | lst _ => trivial
  | _ => simp [Smp] at h
theorem smp_typ1 {cs : List Str} {d : D} (h : Smp d) : Typ1 cs d := by
  cases d with
  | tup xs => rw [Smp] at h; exact fun _ x hx => smp_typd (smpL_iff.mp h x hx)
  | str x => exact smp_typd (cs := cs) h
  | non => trivial
  | bl _ => trivial
  | int _ => trivial
  | lst _ => trivial
  | _ => simp [Smp] at h
theorem GoodN.plain {x : Str} (h : GoodN x) : PlainS x := fun c hc => .inl (h.1 c hc)
theorem smp_name {x : Str} (h : GoodN x) : Smp (.str x) := by rw [Smp]; exact ⟨h.plain, h.2.2⟩
theorem smp_ans {a : Ans} (h1 : GoodN a.1) (h2 : GoodN a.2.1) : Smp (ansD a) := by
  unfold ansD
  rw [Smp, SmpL, SmpL, SmpL]
  exact ⟨smp_name h1, smp_name h2, by rw [Smp]; trivial, by rw [SmpL]; trivial⟩
theorem sz_ans (a : Ans) : szD (ansD a) = 255 := by simp [ansD, szD, szL]
theorem dp_ans (a : Ans) : dpD (ansD a) = 1 := by simp [ansD, dpD, dpL]
end VI

/-! Books. -/
namespace VI
open PySem PySem.Spec PyProof.Rows L2
theorem inL_strs (x : Str) (ns : List Str) : inL (.str x) (ns.map D.str) = decide (x ∈ ns) := by
  unfold inL
  rw [List.any_map]
  induction ns with
  | nil => rfl
  | cons n ns ih =>
    rw [List.any_cons, ih]
    simp only [Function.comp, eqD_str, List.mem_cons, Bool.decide_or]
    rw [decide_eq_decide.mpr (eq_comm (a := n) (b := x))]
theorem ok_strs {ns : List Str} (h : ∀ x ∈ ns, PyData.strOk x = true) : (D.lst (ns.map D.str)).ok = true := ok_lst (n := 0) (fun x hx => by
  obtain ⟨n, hn, rfl⟩ := List.mem_map.mp hx
  exact fine_str.mpr (h n hn)) (by decide)
theorem ok_str {x : Str} (h : PyData.strOk x = true) : (D.str x).ok = true := (fine_str (n := 0).mpr h).ok (by decide)
theorem ok_bl (b : Bool) : (D.bl b).ok = true := by simp [D.ok, D.pure, D.py, SeqAt.shaped, PyData.canLay0, PyData.depth]
theorem ok_non : D.non.ok = true := by simp [D.ok, D.pure, D.py, SeqAt.shaped, PyData.canLay0, PyData.depth]
theorem eqD_bl (a b : Bool) : eqD (.bl a) (.bl b) = decide (a = b) := by
  cases a <;> cases b <;> simp [eqD, D.py, PyData.eqv]
theorem eqD_nb (b : Bool) : eqD .non (.bl b) = false := by
  cases b <;> simp [eqD, D.py, PyData.eqv]
def keyA (a : Ans) : List Key := [.inr a.1, .inr a.2.1]
def truD (as : List Ans) : List (List Key × D) := as.map fun a => (keyA a, .bl a.2.2)
def bookD (ms : List Str) (ps : List Ans) : D := .ins "Book" [("its_things", .tup (ms.map D.str)), ("its_truths", .dT (truD ps)), ("its_answers", .tup (ps.map ansD))]
theorem keyA_iff {a b : Ans} : keyA a = keyA b ↔ ansP a = ansP b := by
  unfold keyA ansP
  simp
theorem val_none {as : List Ans} {a : Ans} (h : ansP a ∉ as.map ansP) : valD (truD as) (keyA a) = none := by
  unfold valD truD
  rw [Option.map_eq_none_iff, List.find?_eq_none]
  intro e he
  obtain ⟨b, hb, rfl⟩ := List.mem_map.mp he
  simp only [decide_eq_true_eq]
  intro q
  exact h (List.mem_map.mpr ⟨b, hb, keyA_iff.mp q⟩)
theorem val_some {as : List Ans} {a : Ans} (hd : (as.map ansP).Nodup) (h : a ∈ as) : valD (truD as) (keyA a) = some (.bl a.2.2) := by
  induction as with
  | nil => cases h
  | cons b as ih =>
    rw [List.map_cons, List.nodup_cons] at hd
    unfold valD truD
    rw [List.map_cons, List.find?_cons]
    by_cases e : keyA b = keyA a
    · have eb : a = b := by
        rcases List.mem_cons.mp h with rfl | h
        · rfl
        · exact absurd (List.mem_map.mpr ⟨a, h, (keyA_iff.mp e).symm⟩) hd.1
      subst eb
      simp
    · have h' : a ∈ as := by
        rcases List.mem_cons.mp h with rfl | h
        · exact absurd rfl e
        · exact h
      simp only [e, decide_false]
      exact ih hd.2 h'
theorem val_opt {as : List Ans} (x y : Str) : valD (truD as) [.inr x, .inr y] = none ∨ ∃ t, valD (truD as) [.inr x, .inr y] = some (.bl t) ∧ (x, y, t) ∈ as := by
  unfold valD truD
  cases e : (as.map fun a => (keyA a, D.bl a.2.2)).find? fun e => decide (e.1 = [.inr x, .inr y]) with
  | none => exact .inl rfl
  | some f =>
    have h1 := List.mem_of_find?_eq_some e
    have h2 := List.find?_some e
    obtain ⟨a, ha, rfl⟩ := List.mem_map.mp h1
    simp [keyA] at h2
    obtain ⟨a1, a2, a3⟩ := a
    obtain ⟨rfl, rfl⟩ := h2
    exact .inr ⟨a3, rfl, ha⟩
theorem put_new {as : List Ans} {a : Ans} (h : ansP a ∉ as.map ansP) : putD (truD as) (keyA a) (.bl a.2.2) = truD (as ++ [a]) := by
  unfold putD
  rw [if_neg]
  · unfold truD; simp
  · rw [Bool.not_eq_true, List.any_eq_false]
    intro e he
    obtain ⟨b, hb, rfl⟩ := List.mem_map.mp he
    simp only [decide_eq_true_eq]
    intro q
    exact h (List.mem_map.mpr ⟨b, hb, keyA_iff.mp q⟩)
theorem sortOk_pairs {ps : List (Str × Str)} (h : ps.length ≤ 16777216) : sortOk (ps.map pairD) = true := by
  have e : ps.map pairD = (ps.map fun p => [p.1, p.2]).map rowD := by rw [List.map_map]; rfl
  rw [e]
  refine sortOk_rows (by rw [List.length_map]; exact h) ?_
  intro r hr
  obtain ⟨p, hp, rfl⟩ := List.mem_map.mp hr
  simp
theorem nodup_pre {pre post : List Ans} {a : Ans} (h : ((pre ++ a :: post).map ansP).Nodup) : ansP a ∉ pre.map ansP := by
  rw [List.map_append, List.map_cons, List.nodup_append] at h
  intro hm
  exact h.2.2 _ hm _ List.mem_cons_self rfl
theorem len_truD (as : List Ans) : (truD as).length = as.length := by unfold truD; rw [List.length_map]
theorem keys_truD (as : List Ans) : ((truD as).map fun e => D.tup (e.1.map keyD)) = as.map fun a => pairD (ansP a) := by
  unfold truD; rw [List.map_map]; rfl
theorem items_truD (as : List Ans) : ((truD as).map fun e => D.tup [D.tup (e.1.map keyD), e.2]) = as.map fun a => D.tup [pairD (ansP a), .bl a.2.2] := by
  unfold truD; rw [List.map_map]; rfl
abbrev sTh : Str := Str.ofString "its_things"
abbrev sTr : Str := Str.ofString "its_truths"
abbrev sAn : Str := Str.ofString "its_answers"
theorem fn1 : (sTh = sTr) = False := eq_false (by decide +kernel)
theorem fn2 : (sTh = sAn) = False := eq_false (by decide +kernel)
theorem fn3 : (sTr = sAn) = False := eq_false (by decide +kernel)
theorem fb1 : (sTr == sTh) = false := by decide +kernel
theorem fb2 : (sAn == sTh) = false := by decide +kernel
theorem fb3 : (sAn == sTr) = false := by decide +kernel
theorem fb4 : (sTh == sTr) = false := by decide +kernel
/-- a dict comprehension, by what is behind and ahead -/
theorem w_compDY {β : Type} {is : List Nat} {b : MG} {t : MT} {fk fv : ME} {Q : D × Rho → Prop} (E : β → D) (I : List β → D → Rho → Prop) {xs : List β}
    (hs : ∀ (pre : List β) (x : β) (post : List β) acc (ρ : Rho), xs = pre ++ x :: post → I pre acc ρ → wg (b (E x) ρ) fun ρ1 => wT t ρ1 fun c ρ2 => if c = true then wE fk ρ2 fun rk ρ3 => wE fv ρ3 fun rv ρ4 => wg (gSetDc acc rk.d rv.d) fun acc' => I (pre ++ [x]) acc' (wipeR ρ4 is) else I (pre ++ [x]) acc (wipeR ρ2 is))
    (hd : ∀ acc ρ, I xs acc ρ → Q (acc, ρ)) : ∀ {rest pre : List β} {acc : D} {ρ : Rho}, xs = pre ++ rest → I pre acc ρ → wg (compDM is b t fk fv (rest.map E) acc ρ) Q
  | [], pre, acc, ρ, e, h0 => hd acc ρ (by rw [e]; simpa using h0)
  | x :: rest, pre, acc, ρ, e, h0 => by
    rw [List.map_cons]
    unfold compDM
    refine wg_bind.mpr (wg_mono (hs pre x rest acc ρ e h0) fun ρ1 h1 => ?_)
    refine wg_bind.mpr (wg_mono h1 fun y h2 => ?_)
    obtain ⟨c, ρ2⟩ := y
    have go : ∀ acc' ρ', I (pre ++ [x]) acc' ρ' → wg (compDM is b t fk fv (rest.map E) acc' ρ') Q := fun acc' ρ' h => w_compDY E I hs hd (by rw [e]; simp) h
    cases c with
    | false => exact go acc _ h2
    | true =>
      have h2' : wE fk ρ2 fun rk ρ3 => wE fv ρ3 fun rv ρ4 => wg (gSetDc acc rk.d rv.d) fun acc' => I (pre ++ [x]) acc' (wipeR ρ4 is) := h2
      show wg (fk ρ2 >>= _) Q
      refine wg_bind.mpr (wg_mono h2' fun z h3 => ?_)
      refine wg_bind.mpr (wg_mono h3 fun z2 h4 => ?_)
      refine wg_bind.mpr (wg_mono h4 fun z3 h5 => ?_)
      exact go z3 _ h5
/-- Book(things, answers) -/
theorem book_pp {T : TK → TK → Option Bool} {cs : List Str} {ns : List Str} {as : List Ans} {d2 : D} (hT : TOk T cs) (hn : NamesN ns) (hz : ns.length ≤ 6) (ha : AnsOk ns as)
    (hit : itemsA d2 = some (as.map ansD)) (ht : TypA cs d2) (hA : areAnswersD d2 = true) {Q : Sl → List Sl → Prop}
    (q : ∀ ms ps, sortL (ns.map D.str) = ms.map D.str → ms.Perm ns → sortL (as.map fun a => pairD (ansP a)) = ps.map (fun a => pairD (ansP a)) → ps.Perm as → Q ⟨.fz, .non⟩ [⟨.par, bookD ms ps⟩, ⟨.par, namesD ns⟩, ⟨.par, d2⟩]) :
    wM (m_Book_init T) [⟨.par, .ins "Book" []⟩, ⟨.par, namesD ns⟩, ⟨.par, d2⟩] Q := by
  rw [m_Book_init, w_fn, b_Book_init]
  simp only [List.map_cons, List.map_nil, List.cons_append, List.nil_append, List.replicate_succ, List.replicate_zero]
  have hso : ∀ x ∈ ns, PyData.strOk x = true := fun x hx => (hn.1 x hx).ok
  have eN : areNamesD (namesD ns) = true := by
    show areNamesL (ns.map D.str) = true
    unfold areNamesL
    rw [strsD_map]
    simp only [Bool.and_eq_true, List.all_eq_true, decide_eq_true_eq]
    exact ⟨fun d hd => by obtain ⟨x, hx, rfl⟩ := List.mem_map.mp hd; exact isName_good (hn.1 x hx), hn.2⟩
  have tN : TypD cs (namesD ns) := ⟨fun d hd => by obtain ⟨x, hx, rfl⟩ := List.mem_map.mp hd; exact (hn.1 x hx).typd, by rw [List.length_map]; omega, fun _ => by rw [List.length_map]; omega⟩
  simp [nodupS]
  refine are_names_w hT tN ?_ (.inr rfl)
  rw [eN]
  simp [wb, nodupS]
  refine are_answers_w hT ht ?_ (.inr rfl)
  rw [hA]
  simp [wb, hit, lend, back]
  refine w_loopX ansD (fun _ ρ => ∃ x3 x5, frx x3 = true ∧ frx x5 = true ∧ ρ = [some ⟨.par, .ins "Book" []⟩, some ⟨.par, namesD ns⟩, some ⟨.lent, d2⟩, x3, none, x5, none, none]) ⟨none, none, rfl, rfl, rfl⟩ ?_ ?_
  · rintro pre a ρ hx _ ⟨x3, x5, h3, h5, rfl⟩
    obtain ⟨i1, i2, i3⟩ := ha.inn a hx
    simp [h3, nodupS]
    refine pair_of_w ?_
    simp [wb, pairD, ansP, lend, back]
    have key : ∀ {QS : Fl → Rho → Prop}, (∀ x5, frx x5 = true → QS .nx [some ⟨.par, .ins "Book" []⟩, some ⟨.par, namesD ns⟩, some ⟨.lent, d2⟩, some ⟨.fz, ansD a⟩, none, x5, none, none]) →
        wS (loopM (bindN 5) (fIfS (fT (fOp2 gNotInA (.sl 5) (.sl 1))) fNever fNext) ([a.1, a.2.1].map D.str)) [some ⟨.par, .ins "Book" []⟩, some ⟨.par, namesD ns⟩, some ⟨.lent, d2⟩, some ⟨.fz, ansD a⟩, none, x5, none, none] QS := by
      intro QS hq
      refine w_loopX D.str (fun _ ρ => ∃ x5, frx x5 = true ∧ ρ = [some ⟨.par, .ins "Book" []⟩, some ⟨.par, namesD ns⟩, some ⟨.lent, d2⟩, some ⟨.fz, ansD a⟩, none, x5, none, none]) ⟨x5, h5, rfl⟩ ?_ ?_
      · rintro pre x ρ hx _ ⟨x5, h5, rfl⟩
        have hxn : x ∈ ns := by simp at hx; rcases hx with rfl | rfl <;> assumption
        simp [h5, namesD, ok_str (hso x hxn), ok_strs hso, inL_strs, hxn]
      · rintro ρ ⟨x5, h5, rfl⟩; exact hq x5 h5
    refine key fun x5 h5 => ?_
    exact ⟨_, _, rfl, h5, rfl⟩
  · rintro ρ ⟨x3, x5, h3, h5, rfl⟩
    simp [hit, lend, back]
    refine w_loopY ansD (fun pre ρ => ∃ x3 x6, frx x3 = true ∧ frx x6 = true ∧ ρ = [some ⟨.par, .ins "Book" []⟩, some ⟨.par, namesD ns⟩, some ⟨.lent, d2⟩, x3, some ⟨.own, .dT (truD pre)⟩, x5, x6, none]) ⟨x3, none, h3, rfl, rfl⟩ ?_ ?_
    · rintro pre a post ρ hx ⟨x3, x6, h3, h6, rfl⟩
      have hne : ansP a ∉ pre.map ansP := nodup_pre (by rw [← hx]; exact ha.nodup)
      have hl : pre.length < as.length := by rw [hx]; simp
      have hl2 := ha.len
      have e1 : valD (truD pre) [.inr a.1, .inr a.2.1] = none := val_none hne
      have e2 : putD (truD pre) [.inr a.1, .inr a.2.1] (.bl a.2.2) = truD (pre ++ [a]) := put_new hne
      simp [h3, nodupS]
      refine pair_of_w ?_
      simp [wb, h6, ansD, pairD, ansP, e1, ok_bl, eqD_bl, e2, len_truD]
      omega
    · rintro ρ ⟨x3, x6, h3, h6, rfl⟩
      obtain ⟨ms, hp, es⟩ := sort_map D.str ns
      have so : sortOk (ns.map D.str) = true := sortOk_strs (by omega)
      obtain ⟨ps, hp2, es2⟩ := sort_map (fun a => pairD (ansP a)) as
      have so2 : sortOk (as.map fun a => pairD (ansP a)) = true := by
        have := sortOk_pairs (ps := as.map ansP) (by rw [List.length_map]; have := ha.len; omega)
        rwa [List.map_map] at this
      have nd2 : (ps.map ansP).Nodup := (hp2.map ansP).nodup_iff.mpr ha.nodup
      have l2 : ps.length ≤ 36 := by rw [hp2.length_eq]; exact ha.len
      simp [namesD, so, es, keys_truD, so2, es2, lend, back, wipeR, putFD, h6]
      refine w_compDY (fun a => pairD (ansP a)) (fun pre acc ρ => acc = .dT (truD pre) ∧ ρ = [some ⟨.par, .ins "Book" [("its_things", .tup (ms.map D.str))]⟩, some ⟨.par, namesD ns⟩, some ⟨.par, d2⟩, x3, some ⟨.own, .dT (truD as)⟩, x5, none, none]) (xs := ps) ?_ ?_ (pre := []) rfl ⟨rfl, rfl⟩
      · rintro pre a post acc ρ hx ⟨rfl, rfl⟩
        have hne : ansP a ∉ pre.map ansP := nodup_pre (by rw [← hx]; exact nd2)
        have hl : pre.length < ps.length := by rw [hx]; simp
        have ham : a ∈ as := hp2.mem_iff.mp (by rw [hx]; simp)
        have e1 : valD (truD as) [.inr a.1, .inr a.2.1] = some (.bl a.2.2) := val_some ha.nodup ham
        have e2 : putD (truD pre) [.inr a.1, .inr a.2.1] (.bl a.2.2) = truD (pre ++ [a]) := put_new hne
        simp [pairD, ansP, e1, e2, len_truD, wipeR]
        omega
      · rintro acc ρ ⟨rfl, rfl⟩
        simp [putFD, items_truD, wipeR, fn1, fn2, fn3, fb1, List.lookup]
        refine w_compP (fun a => D.tup [pairD (ansP a), .bl a.2.2]) (fun _ => true) ansD ?_ ?_
        · intro a ham
          simp [pairD, ansP, ansD, wipeR]
        · have ef : (ps.filter fun _ => true) = ps := List.filter_eq_self.mpr (by simp)
          rw [ef]
          simp [putFD, outs, fn1, fn2, fn3]
          exact ⟨by omega, q ms ps es hp es2 hp2⟩
/-- the same of values -/
theorem book_ff {T : TK → TK → Option Bool} {cs : List Str} {ns : List Str} {as : List Ans} {d2 : D} (hT : TOk T cs) (hn : NamesN ns) (hz : ns.length ≤ 6) (ha : AnsOk ns as)
    (hit : itemsA d2 = some (as.map ansD)) (ht : TypA cs d2) (hA : areAnswersD d2 = true) {Q : Sl → List Sl → Prop}
    (q : ∀ ms ps, sortL (ns.map D.str) = ms.map D.str → ms.Perm ns → sortL (as.map fun a => pairD (ansP a)) = ps.map (fun a => pairD (ansP a)) → ps.Perm as → Q ⟨.fz, .non⟩ [⟨.par, bookD ms ps⟩, ⟨.fz, namesD ns⟩, ⟨.fz, d2⟩]) :
    wM (m_Book_init T) [⟨.par, .ins "Book" []⟩, ⟨.fz, namesD ns⟩, ⟨.fz, d2⟩] Q := by
  rw [m_Book_init, w_fn, b_Book_init]
  simp only [List.map_cons, List.map_nil, List.cons_append, List.nil_append, List.replicate_succ, List.replicate_zero]
  have hso : ∀ x ∈ ns, PyData.strOk x = true := fun x hx => (hn.1 x hx).ok
  have eN : areNamesD (namesD ns) = true := by
    show areNamesL (ns.map D.str) = true
    unfold areNamesL
    rw [strsD_map]
    simp only [Bool.and_eq_true, List.all_eq_true, decide_eq_true_eq]
    exact ⟨fun d hd => by obtain ⟨x, hx, rfl⟩ := List.mem_map.mp hd; exact isName_good (hn.1 x hx), hn.2⟩
  have tN : TypD cs (namesD ns) := ⟨fun d hd => by obtain ⟨x, hx, rfl⟩ := List.mem_map.mp hd; exact (hn.1 x hx).typd, by rw [List.length_map]; omega, fun _ => by rw [List.length_map]; omega⟩
  simp [nodupS]
  refine are_names_w hT tN ?_ (.inl rfl)
  rw [eN]
  simp [wb, nodupS]
  refine are_answers_w hT ht ?_ (.inl rfl)
  rw [hA]
  simp [wb, hit, lend, back]
  refine w_loopX ansD (fun _ ρ => ∃ x3 x5, frx x3 = true ∧ frx x5 = true ∧ ρ = [some ⟨.par, .ins "Book" []⟩, some ⟨.fz, namesD ns⟩, some ⟨.fz, d2⟩, x3, none, x5, none, none]) ⟨none, none, rfl, rfl, rfl⟩ ?_ ?_
  · rintro pre a ρ hx _ ⟨x3, x5, h3, h5, rfl⟩
    obtain ⟨i1, i2, i3⟩ := ha.inn a hx
    simp [h3, nodupS]
    refine pair_of_w ?_
    simp [wb, pairD, ansP, lend, back]
    have key : ∀ {QS : Fl → Rho → Prop}, (∀ x5, frx x5 = true → QS .nx [some ⟨.par, .ins "Book" []⟩, some ⟨.fz, namesD ns⟩, some ⟨.fz, d2⟩, some ⟨.fz, ansD a⟩, none, x5, none, none]) →
        wS (loopM (bindN 5) (fIfS (fT (fOp2 gNotInA (.sl 5) (.sl 1))) fNever fNext) ([a.1, a.2.1].map D.str)) [some ⟨.par, .ins "Book" []⟩, some ⟨.fz, namesD ns⟩, some ⟨.fz, d2⟩, some ⟨.fz, ansD a⟩, none, x5, none, none] QS := by
      intro QS hq
      refine w_loopX D.str (fun _ ρ => ∃ x5, frx x5 = true ∧ ρ = [some ⟨.par, .ins "Book" []⟩, some ⟨.fz, namesD ns⟩, some ⟨.fz, d2⟩, some ⟨.fz, ansD a⟩, none, x5, none, none]) ⟨x5, h5, rfl⟩ ?_ ?_
      · rintro pre x ρ hx _ ⟨x5, h5, rfl⟩
        have hxn : x ∈ ns := by simp at hx; rcases hx with rfl | rfl <;> assumption
        simp [h5, namesD, ok_str (hso x hxn), ok_strs hso, inL_strs, hxn]
      · rintro ρ ⟨x5, h5, rfl⟩; exact hq x5 h5
    refine key fun x5 h5 => ?_
    exact ⟨_, _, rfl, h5, rfl⟩
  · rintro ρ ⟨x3, x5, h3, h5, rfl⟩
    simp [hit, lend, back]
    refine w_loopY ansD (fun pre ρ => ∃ x3 x6, frx x3 = true ∧ frx x6 = true ∧ ρ = [some ⟨.par, .ins "Book" []⟩, some ⟨.fz, namesD ns⟩, some ⟨.fz, d2⟩, x3, some ⟨.own, .dT (truD pre)⟩, x5, x6, none]) ⟨x3, none, h3, rfl, rfl⟩ ?_ ?_
    · rintro pre a post ρ hx ⟨x3, x6, h3, h6, rfl⟩
      have hne : ansP a ∉ pre.map ansP := nodup_pre (by rw [← hx]; exact ha.nodup)
      have hl : pre.length < as.length := by rw [hx]; simp
      have hl2 := ha.len
      have e1 : valD (truD pre) [.inr a.1, .inr a.2.1] = none := val_none hne
      have e2 : putD (truD pre) [.inr a.1, .inr a.2.1] (.bl a.2.2) = truD (pre ++ [a]) := put_new hne
      simp [h3, nodupS]
      refine pair_of_w ?_
      simp [wb, h6, ansD, pairD, ansP, e1, ok_bl, eqD_bl, e2, len_truD]
      omega
    · rintro ρ ⟨x3, x6, h3, h6, rfl⟩
      obtain ⟨ms, hp, es⟩ := sort_map D.str ns
      have so : sortOk (ns.map D.str) = true := sortOk_strs (by omega)
      obtain ⟨ps, hp2, es2⟩ := sort_map (fun a => pairD (ansP a)) as
      have so2 : sortOk (as.map fun a => pairD (ansP a)) = true := by
        have := sortOk_pairs (ps := as.map ansP) (by rw [List.length_map]; have := ha.len; omega)
        rwa [List.map_map] at this
      have nd2 : (ps.map ansP).Nodup := (hp2.map ansP).nodup_iff.mpr ha.nodup
      have l2 : ps.length ≤ 36 := by rw [hp2.length_eq]; exact ha.len
      simp [namesD, so, es, keys_truD, so2, es2, lend, back, wipeR, putFD, h6]
      refine w_compDY (fun a => pairD (ansP a)) (fun pre acc ρ => acc = .dT (truD pre) ∧ ρ = [some ⟨.par, .ins "Book" [("its_things", .tup (ms.map D.str))]⟩, some ⟨.fz, namesD ns⟩, some ⟨.fz, d2⟩, x3, some ⟨.own, .dT (truD as)⟩, x5, none, none]) (xs := ps) ?_ ?_ (pre := []) rfl ⟨rfl, rfl⟩
      · rintro pre a post acc ρ hx ⟨rfl, rfl⟩
        have hne : ansP a ∉ pre.map ansP := nodup_pre (by rw [← hx]; exact nd2)
        have hl : pre.length < ps.length := by rw [hx]; simp
        have ham : a ∈ as := hp2.mem_iff.mp (by rw [hx]; simp)
        have e1 : valD (truD as) [.inr a.1, .inr a.2.1] = some (.bl a.2.2) := val_some ha.nodup ham
        have e2 : putD (truD pre) [.inr a.1, .inr a.2.1] (.bl a.2.2) = truD (pre ++ [a]) := put_new hne
        simp [pairD, ansP, e1, e2, len_truD, wipeR]
        omega
      · rintro acc ρ ⟨rfl, rfl⟩
        simp [putFD, items_truD, wipeR, fn1, fn2, fn3, fb1, List.lookup]
        refine w_compP (fun a => D.tup [pairD (ansP a), .bl a.2.2]) (fun _ => true) ansD ?_ ?_
        · intro a ham
          simp [pairD, ansP, ansD, wipeR]
        · have ef : (ps.filter fun _ => true) = ps := List.filter_eq_self.mpr (by simp)
          rw [ef]
          simp [putFD, outs, fn1, fn2, fn3]
          exact ⟨by omega, q ms ps es hp es2 hp2⟩
theorem isAns_inv {d : D} (h : isAnswerD d = true) : ∃ a : Ans, d = ansD a := by
  unfold isAnswerD at h
  split at h
  · rename_i a b c
    rw [Bool.and_eq_true] at h
    obtain ⟨h1, h2⟩ := h
    unfold areNamesL at h1
    rw [Bool.and_eq_true] at h1
    obtain ⟨h1, -⟩ := h1
    simp only [List.all_cons, List.all_nil, Bool.and_true, Bool.and_eq_true] at h1
    cases a with
    | str x => cases b with
      | str y => cases c with
        | bl t => exact ⟨(x, y, t), rfl⟩
        | _ => simp [isBlD] at h2
      | _ => simp [isNameD] at h1
    | _ => simp [isNameD] at h1
  · cases h
theorem ansD_inj {a b : Ans} (h : ansD a = ansD b) : a = b := by
  obtain ⟨a1, a2, a3⟩ := a
  obtain ⟨b1, b2, b3⟩ := b
  simp [ansD] at h
  obtain ⟨rfl, rfl, rfl⟩ := h
  rfl
/-- thing in book -/
theorem contains_w {T : TK → TK → Option Bool} {cs : List Str} {ms : List Str} {ps : List Ans} {d : D} {m : Md} (hT : TOk T cs) (hp : (ps.map ansP).Nodup) (hg : ∀ a ∈ ps, isAnswerD (ansD a) = true) (hd : Typ1 cs d)
    {Q : Sl → List Sl → Prop} (q : ∀ b, (b = true ↔ ∃ a ∈ ps, d = ansD a) → Q ⟨.fz, .bl b⟩ [⟨m, bookD ms ps⟩, ⟨.fz, d⟩]) :
    wM (m_Book_contains T) [⟨m, bookD ms ps⟩, ⟨.fz, d⟩] Q := by
  rw [m_Book_contains, w_fn, b_Book_contains]
  simp only [List.map_cons, List.map_nil, List.cons_append, List.nil_append, List.replicate_succ, List.replicate_zero]
  simp [nodupS]
  refine is_answer_w hT hd ?_ (.inl rfl)
  cases e : isAnswerD d with
  | false =>
    simp [wb, outs]
    refine q false ⟨fun h => (by cases h), ?_⟩
    rintro ⟨a, ha, rfl⟩
    rw [hg a ha] at e; cases e
  | true =>
    obtain ⟨a, rfl⟩ := isAns_inv e
    simp [wb, nodupS, bookD, List.lookup, fb1]
    refine pair_of_w ?_
    rcases val_opt (as := ps) a.1 a.2.1 with h | ⟨t, h, ht⟩
    · simp [wb, pairD, ansP, ansD, h, ok_non, ok_bl, eqD_nb, outs]
      refine q false ⟨fun h => (by cases h), ?_⟩
      rintro ⟨b, hb, e2⟩
      have := ansD_inj e2
      subst this
      have := val_some hp hb
      unfold keyA at this
      rw [h] at this; cases this
    · simp [wb, pairD, ansP, ansD, h, ok_bl, eqD_bl, outs]
      refine q _ ⟨?_, ?_⟩
      · intro h'
        simp at h'
        subst h'
        exact ⟨_, ht, rfl⟩
      · rintro ⟨b, hb, e2⟩
        have := ansD_inj e2
        subst this
        have := val_some hp hb
        unfold keyA at this
        rw [h] at this
        simp at this
        simp [this]

end VI

/-! The law machine: picks, answers, walks. -/
namespace VI
open PySem PySem.Spec PyProof.Rows L2
theorem eqOk_of' {a b : D} (h1 : a.ok = true) (h2 : b.ok = true) : eqOk a b = true := by
  cases a <;> cases b <;> first | rfl | (simp only [eqOk, h1, h2, Bool.and_self])
theorem eqD_refl {d : D} (h : d.ok = true) : eqD d d = true := by
  have e0 := D.ok.s h
  exact SeqAt.eqv_refl _ (by unfold SeqAt.shaped at e0; exact (Bool.and_eq_true_iff.mp e0).1)
theorem alike_w {m m' : Md} {d : D} (h1 : d.ok = true) (h2 : reprOk d = true) {Q : Sl → List Sl → Prop} (q : Q ⟨.fz, .bl true⟩ [⟨m, d⟩, ⟨m', d⟩]) : wM m_law_alike [⟨m, d⟩, ⟨m', d⟩] Q := by
  rw [m_law_alike, w_fn, b_law_alike]
  have e2 : ∀ x : Str, eqD (.str x) (.str x) = true := fun x => by simp [eqD, D.py, PyData.eqv]
  simp only [List.map_cons, List.map_nil, List.cons_append, List.nil_append, List.replicate_succ, List.replicate_zero]
  simp [eqOk_of' h1 h1, h2, eqD_refl h1, e2]
  cases m <;> cases m' <;> exact q
theorem bag_w {ns : List Int} (hl : ns.length ≤ 63) {Q : Sl → List Sl → Prop} (q : ∀ b, BagOk b → Q ⟨.own, b⟩ [⟨.fz, .seq (ns.map D.int)⟩]) : wM m_law_bag [⟨.fz, .seq (ns.map D.int)⟩] Q := by
  rw [m_law_bag, w_fn, b_law_bag]
  simp only [List.map_cons, List.map_nil, List.cons_append, List.nil_append, List.replicate_succ, List.replicate_zero]
  simp [cut_hi D.int ns (show (0 : Int) ≤ 63 by decide), -List.map_take]
  refine w_compP D.int (fun _ => true) (fun i => .int (if i < 0 then -i else i)) ?_ ?_
  · intro i _
    simp
  · have ef : ((ns.take 63).filter fun _ => true) = ns.take 63 := List.filter_eq_self.mpr (by simp)
    rw [ef]
    have l1 : (ns.take 63).length ≤ 63 := by rw [List.length_take]; omega
    have hb : BagOk (.lst [.int 0, .int 1234567891, .int 0, .lst ((ns.take 63).map fun i => .int (if i < 0 then -i else i))]) := by
      refine ⟨0, 1234567891, 0, _, rfl, by decide, ?_, by rw [List.length_map]; omega⟩
      intro d hd
      obtain ⟨i, _, rfl⟩ := List.mem_map.mp hd
      refine ⟨_, ?_, rfl⟩
      split <;> omega
    have := q _ hb
    generalize ns.take 63 = cs at l1 this ⊢
    simp
    refine ⟨by omega, this⟩
/-- one of some -/
theorem pick_w {β : Type} (E : β → D) {b : D} {m : Md} {xs : List β} (hb : BagOk b) (hx : xs ≠ []) (hl : xs.length < 1073741824) {Q : Sl → List Sl → Prop}
    (q : ∀ x b', x ∈ xs → BagOk b' → Q ⟨.fz, E x⟩ [⟨.par, b'⟩, ⟨m, .lst (xs.map E)⟩]) : wM m_law_pick [⟨.par, b⟩, ⟨m, .lst (xs.map E)⟩] Q := by
  rw [m_law_pick, w_fn, b_law_pick]
  simp only [List.map_cons, List.map_nil, List.cons_append, List.nil_append, List.replicate_succ, List.replicate_zero]
  have hp : 0 < xs.length := List.length_pos_iff.mpr hx
  simp [nodupS]
  refine take_w hb (by omega) (by omega) fun t b' t0 t1 hb' => ?_
  have e : atI (xs.map E) t = some (E (xs[t.toNat]'(by omega))) := by
    rw [atI_at t0, List.getElem?_map, List.getElem?_eq_getElem (by omega)]; rfl
  simp [wb, e, outs]
  have := q (xs[t.toNat]'(by omega)) b' (List.getElem_mem _) hb'
  cases m <;> exact this
/-! ### answers -/
theorem pairs_ne {ms : List Str} {p : Str × Str} (h : p ∈ pairsOfNames ms ms) : p.1 ≠ p.2 := by
  unfold pairsOfNames at h
  obtain ⟨x, hx, h⟩ := List.mem_flatMap.mp h
  obtain ⟨y, hy, rfl⟩ := List.mem_map.mp h
  have := (List.mem_filter.mp hy).2
  simp at this
  exact fun e => this e.symm
theorem pairs_nodup {ms : List Str} (h : ms.Nodup) : ∀ {xs : List Str}, xs.Nodup → (pairsOfNames ms xs).Nodup
  | [], _ => by simp [pairsOfNames]
  | x :: xs, hx => by
    rw [List.nodup_cons] at hx
    have e : pairsOfNames ms (x :: xs) = ((ms.filter fun y => !decide (y = x)).map fun y => (x, y)) ++ pairsOfNames ms xs := by unfold pairsOfNames; rw [List.flatMap_cons]
    rw [e, List.nodup_append]
    refine ⟨?_, pairs_nodup h hx.2, ?_⟩
    · refine List.pairwise_map.mpr (List.Pairwise.imp ?_ (List.Pairwise.filter _ h))
      intro a b hab e2
      exact hab (by simpa using e2)
    · rintro p hp q hq rfl
      obtain ⟨y, hy, rfl⟩ := List.mem_map.mp hp
      exact hx.1 (pairs_mem hq).1
theorem pairs_ne_nil {ms : List Str} (h : ms.Nodup) (h2 : 2 ≤ ms.length) : pairsOfNames ms ms ≠ [] := by
  match ms, h, h2 with
  | x :: y :: r, h, _ =>
    intro e
    have hxy : y ≠ x := fun e => by rw [List.nodup_cons] at h; exact h.1 (by simp [e])
    have : (x, y) ∈ pairsOfNames (x :: y :: r) (x :: y :: r) := by
      unfold pairsOfNames
      refine List.mem_flatMap.mpr ⟨x, by simp, List.mem_map.mpr ⟨y, List.mem_filter.mpr ⟨by simp, by simp [hxy]⟩, rfl⟩⟩
    rw [e] at this; cases this
theorem fine_pair {p : Str × Str} (h1 : PyData.strOk p.1 = true) (h2 : PyData.strOk p.2 = true) : Fine 9 (pairD p) := by
  unfold pairD
  refine fine_tup.mpr fun x hx => ?_
  simp at hx
  rcases hx with rfl | rfl
  · exact fine_str.mpr h1
  · exact fine_str.mpr h2
/-- answers about drawn pairs -/
theorem any_w {b : D} {ns : List Str} {many : Int} (hb : BagOk b) (hn : NamesN ns) (hz : ns.length ≤ 6) (h0 : 0 ≤ many) {Q : Sl → List Sl → Prop}
    (q : ∀ as b', AnsOk ns as → BagOk b' → Q ⟨.own, .lst (as.map ansD)⟩ [⟨.par, b'⟩, ⟨.par, namesD ns⟩, ⟨.fz, .int many⟩]) : wM m_law_any [⟨.par, b⟩, ⟨.par, namesD ns⟩, ⟨.fz, .int many⟩] Q := by
  rw [m_law_any, w_fn, b_law_any]
  simp only [List.map_cons, List.map_nil, List.cons_append, List.nil_append, List.replicate_succ, List.replicate_zero]
  have hso : ∀ x ∈ ns, PyData.strOk x = true := fun x hx => (hn.1 x hx).ok
  simp [nodupS]
  refine pairs_w hso hz fun ms hp => ?_
  have hm : ∀ p ∈ pairsOfNames ms ms, p.1 ∈ ns ∧ p.2 ∈ ns := fun p hp' => ⟨hp.mem_iff.mp (pairs_mem hp').1, hp.mem_iff.mp (pairs_mem hp').2⟩
  have hl : (pairsOfNames ms ms).length ≤ 36 := pairs_len (k := 6) (by rw [hp.length_eq]; exact hz)
  have nd := pairs_nodup (hp.nodup_iff.mpr hn.2) (hp.nodup_iff.mpr hn.2)
  have ne : ∀ p ∈ pairsOfNames ms ms, p.1 ≠ p.2 := fun p hp' => pairs_ne hp'
  generalize pairsOfNames ms ms = prs at hm hl nd ne
  simp [wb, nodupS, pairsD]
  refine mix_w hb (fun x hx => by obtain ⟨p, hp', rfl⟩ := List.mem_map.mp hx; exact fine_pair (hso _ (hm p hp').1) (hso _ (hm p hp').2)) (by rw [List.length_map]; omega) fun ys b' hy hb' => ?_
  obtain ⟨qs, hq, rfl⟩ := perm_map hy
  simp [wb, cut_hi pairD qs h0, -List.map_take, lend, back, wipeR]
  have nd2 : (qs.take many.toNat).Nodup := List.Sublist.nodup (List.take_sublist _ _) (hq.nodup_iff.mpr nd)
  have hm2 : ∀ p ∈ qs.take many.toNat, p ∈ prs := fun p hp' => hq.mem_iff.mp (List.mem_of_mem_take hp')
  have hl2 : (qs.take many.toNat).length ≤ 36 := by rw [List.length_take, hq.length_eq]; omega
  generalize qs.take many.toNat = ws at nd2 hm2 hl2
  refine w_compX pairD (fun pre acc ρ => ∃ as b, BagOk b ∧ acc = as.map ansD ∧ as.map ansP = pre ∧
    ρ = [some ⟨.par, b⟩, some ⟨.par, .lst (ns.map D.str)⟩, some ⟨.fz, .int many⟩, some ⟨.lent, .lst (ws.map pairD)⟩, none, none]) ⟨[], b', hb', rfl, rfl, rfl⟩ ?_ ?_
  · rintro pre p acc ρ hp' _ ⟨as, b1, hb1, rfl, rfl, rfl⟩
    simp [pairD, nodupS]
    refine take_w hb1 (by decide) (by decide) fun t b2 t0 t1 hb2 => ?_
    simp [wb, wipeR]
    exact ⟨as ++ [(p.1, p.2, decide (t < 3))], b2, hb2, by simp [ansD], by simp [ansP], rfl⟩
  · rintro acc ρ ⟨as, b1, hb1, rfl, e, rfl⟩
    have la : as.length = ws.length := by rw [← e, List.length_map]
    simp [outs]
    refine ⟨by omega, ?_⟩
    refine q as b1 ⟨?_, by rw [e]; exact nd2, by omega⟩ hb1
    intro a ha
    have : ansP a ∈ ws := by rw [← e]; exact List.mem_map.mpr ⟨a, ha, rfl⟩
    have h1 := hm2 _ this
    exact ⟨(hm _ h1).1, (hm _ h1).2, ne _ h1⟩
end VI

/-! Walks. -/
namespace VI
open PySem PySem.Spec PyProof.Rows L2
def betN (ws : List Ans) : Nat := (ws.filter fun a => a.2.2).length
def walkD (ws : List Ans) : D := .lst (ws.map ansD)
theorem law_weight_w {m : Md} {ws : List Ans} (hm : m = .fz ∨ m = .par) (hl : ws.length ≤ 16777216) {Q : Sl → List Sl → Prop}
    (q : Q ⟨.fz, .tup [.int (betN ws - (ws.length - betN ws)), .int (betN ws)]⟩ [⟨m, walkD ws⟩]) : wM m_law_weight [⟨m, walkD ws⟩] Q := by
  rw [m_law_weight, w_fn, b_law_weight]
  simp only [List.map_cons, List.map_nil, List.cons_append, List.nil_append, List.replicate_succ, List.replicate_zero]
  have hb : betN ws ≤ ws.length := List.length_filter_le _ _
  rcases hm with rfl | rfl
  · simp [walkD, lend, back, wipeR]
    refine w_compP ansD (fun a => a.2.2) ansD ?_ ?_
    · intro a ha
      obtain ⟨x, y, t⟩ := a
      cases t <;> simp [ansD, wipeR]
    · have l1 : (ws.filter fun a => a.2.2).length = betN ws := rfl
      simp [outs, l1]
      exact ⟨by omega, q⟩
  · simp [walkD, lend, back, wipeR]
    refine w_compP ansD (fun a => a.2.2) ansD ?_ ?_
    · intro a ha
      obtain ⟨x, y, t⟩ := a
      cases t <;> simp [ansD, wipeR]
    · have l1 : (ws.filter fun a => a.2.2).length = betN ws := rfl
      simp [outs, l1]
      exact ⟨by omega, q⟩
theorem weight_of_w {m : Md} {ws : List Ans} (hm : m = .fz ∨ m = .par) (hl : ws.length ≤ 16777216) {Q : Sl → List Sl → Prop}
    (q : Q ⟨.fz, .tup [.int (betN ws - (ws.length - betN ws)), .int (betN ws)]⟩ [⟨m, walkD ws⟩]) : wM m_weight_of [⟨m, walkD ws⟩] Q := by
  rw [m_weight_of, w_fn, b_weight_of]
  simp only [List.map_cons, List.map_nil, List.cons_append, List.nil_append, List.replicate_succ, List.replicate_zero]
  have hb : betN ws ≤ ws.length := List.length_filter_le _ _
  have e2 : ∀ x : Int, CMul 2 x := fun x => .inl ⟨by decide, by decide⟩
  have e3 : (betN ws : Int) - (ws.length - betN ws) = 2 * betN ws - ws.length := by omega
  rw [e3] at q
  rcases hm with rfl | rfl
  · simp [walkD, lend, back, wipeR]
    refine w_compP ansD (fun a => a.2.2) (fun _ => .int 1) ?_ ?_
    · intro a ha
      obtain ⟨x, y, t⟩ := a
      cases t <;> simp [ansD, wipeR]
    · have l1 : (ws.filter fun a => a.2.2).length = betN ws := rfl
      simp [outs, l1, e2]
      exact ⟨by omega, q⟩
  · simp [walkD, lend, back, wipeR]
    refine w_compP ansD (fun a => a.2.2) (fun _ => .int 1) ?_ ?_
    · intro a ha
      obtain ⟨x, y, t⟩ := a
      cases t <;> simp [ansD, wipeR]
    · have l1 : (ws.filter fun a => a.2.2).length = betN ws := rfl
      simp [outs, l1, e2]
      exact ⟨by omega, q⟩
/-! ### links -/
def linked : List Ans → Bool
  | a :: b :: r => decide ((ansF a).2 = (ansF b).1) && linked (b :: r)
  | _ => true
theorem linked_snoc : ∀ {ws : List Ans} {l a : Ans}, linked (ws ++ [l]) = true → (ansF l).2 = (ansF a).1 → linked (ws ++ [l] ++ [a]) = true
  | [], l, a, _, h => by simp [linked, h]
  | [b], l, a, h1, h2 => by simp [linked] at h1 ⊢; exact ⟨h1, h2⟩
  | b :: c :: ws, l, a, h1, h2 => by
    simp only [List.cons_append, linked, Bool.and_eq_true] at h1 ⊢
    exact ⟨h1.1, linked_snoc (ws := c :: ws) h1.2 h2⟩
theorem linked_iff : ∀ {ws : List Ans}, linked ws = true ↔ ∀ i, i + 1 < ws.length → (ansF (ws.getD i default)).2 = (ansF (ws.getD (i + 1) default)).1
  | [] => by simp [linked]
  | [a] => by simp [linked]
  | a :: b :: r => by
    rw [linked, Bool.and_eq_true, linked_iff (ws := b :: r), decide_eq_true_eq]
    constructor
    · rintro ⟨h1, h2⟩ i hi
      cases i with
      | zero => exact h1
      | succ i => exact h2 i (by simpa using hi)
    · intro h
      exact ⟨h 0 (by simp), fun i hi => h (i + 1) (by simpa using hi)⟩
theorem linked_zip : ∀ ws : List Ans, linked ws = (ws.zip (ws.drop 1)).all fun p => decide ((ansF p.1).2 = (ansF p.2).1)
  | [] => rfl
  | [a] => rfl
  | a :: b :: r => by
    have := linked_zip (b :: r)
    rw [linked, this]
    rfl
theorem zipD_map {α β : Type} (f : α → D) (g : β → D) : ∀ (xs : List α) (ys : List β), zipD (xs.map f) (ys.map g) = (xs.zip ys).map fun p => .tup [f p.1, g p.2]
  | [], ys => by simp [zipD]
  | x :: xs, [] => by simp [zipD]
  | x :: xs, y :: ys => by simp [zipD, zipD_map f g xs ys]
theorem fine_ans {ns : List Str} {a : Ans} (h1 : GoodN a.1) (h2 : GoodN a.2.1) : Fine 9 (ansD a) := (smp_fine _ (smp_ans h1 h2)).mono (by rw [dp_ans]; decide)
def GoodA (as : List Ans) : Prop := ∀ a ∈ as, GoodN a.1 ∧ GoodN a.2.1
theorem ok_walk {ws : List Ans} (h : GoodA ws) : (D.lst (ws.map ansD)).ok = true := ok_lst (n := 9) (fun x hx => by
  obtain ⟨a, ha, rfl⟩ := List.mem_map.mp hx
  exact fine_ans (ns := []) (h a ha).1 (h a ha).2) (by decide)
theorem ansF_mem {a : Ans} (h : GoodN a.1 ∧ GoodN a.2.1) : GoodN (ansF a).1 ∧ GoodN (ansF a).2 := by
  unfold ansF; split
  · exact h
  · exact ⟨h.2, h.1⟩
theorem atI_last (ws : List Ans) (l : Ans) : atI ((ws ++ [l]).map ansD) (-1) = some (ansD l) := by
  have h : ixN ((ws ++ [l]).map ansD).length (-1) = some ws.length := by
    unfold ixN
    rw [List.length_map, List.length_append]
    simp
    omega
  unfold atI
  rw [h]
  simp
/-- a drawn walk -/
theorem law_walk_w {b : D} {as : List Ans} {many : Int} (hb : BagOk b) (hg : GoodA as) (hl : as.length ≤ 36) (h0 : 0 ≤ many) (h1 : many ≤ 100) {Q : Sl → List Sl → Prop}
    (q : ∀ ws b', (∀ a ∈ ws, a ∈ as) → linked ws = true → ws.length ≤ many.toNat → BagOk b' → Q ⟨.own, walkD ws⟩ [⟨.par, b'⟩, ⟨.par, .lst (as.map ansD)⟩, ⟨.fz, .int many⟩]) :
    wM m_law_walk [⟨.par, b⟩, ⟨.par, .lst (as.map ansD)⟩, ⟨.fz, .int many⟩] Q := by
  rw [m_law_walk, w_fn, b_law_walk]
  simp only [List.map_cons, List.map_nil, List.cons_append, List.nil_append, List.replicate_succ, List.replicate_zero]
  simp [nodupS]
  refine take_w hb (by omega) (by omega) fun t b1 t0 t1 hb1 => ?_
  simp [wb, rangeD]
  refine ⟨⟨by omega, by omega⟩, ?_⟩
  obtain ⟨I, hI⟩ : ∃ I : List Nat → Rho → Prop, ∀ pre ρ, I pre ρ ↔ ∃ ws b x4 x5, BagOk b ∧ (∀ a ∈ ws, a ∈ as) ∧ linked ws = true ∧ ws.length ≤ pre.length ∧ frx x4 = true ∧ frx x5 = true ∧
      ρ = [some ⟨.par, b⟩, some ⟨.par, .lst (as.map ansD)⟩, some ⟨.fz, .int many⟩, some ⟨.own, .lst (ws.map ansD)⟩, x4, x5, none] := ⟨_, fun _ _ => Iff.rfl⟩
  refine w_loopX (fun i : Nat => D.int i) I ((hI _ _).mpr ⟨[], b1, none, none, hb1, by simp, rfl, by simp, rfl, rfl, rfl⟩) ?_ ?_
  · rintro pre k ρ hk hpre h
    obtain ⟨ws, b2, x4, x5, hb2, hw, hL, hlen, h4, h5, rfl⟩ := (hI _ _).mp h
    have hgw : GoodA ws := fun a ha => hg a (hw a ha)
    rw [List.length_range] at hpre
    simp [h4, lend, back, wipeR]
    have key : ∀ (p : Ans → Bool), (∀ a ∈ as, p a = true → linked (ws ++ [a]) = true) →
        ∀ {b2 : D} (hb2 : BagOk b2), wS (fIfS (fT (fOp2 gNe (.sl 5) (.ex (fDisp gLst [])))) (fExpr (fMut 3 isL gAppend [(fCall m_law_pick [(.sl 0), (.sl 5)])])) fNext)
          [some ⟨.par, b2⟩, some ⟨.par, .lst (as.map ansD)⟩, some ⟨.fz, .int many⟩, some ⟨.own, .lst (ws.map ansD)⟩, some ⟨.fz, .int k⟩, some ⟨.own, .lst ((as.filter p).map ansD)⟩, none]
          fun fl ρ2 => fl = .nx ∧ I (pre ++ [k]) ρ2 := by
      intro p hp b2 hb2
      have hf : ∀ a ∈ as.filter p, a ∈ as ∧ p a = true := fun a ha => List.mem_filter.mp ha
      have lf : (as.filter p).length ≤ 36 := Nat.le_trans (List.length_filter_le _ _) hl
      generalize as.filter p = fs at hf lf
      have okf : (D.lst (fs.map ansD)).ok = true := ok_walk fun a ha => hg a (hf a ha).1
      cases fs with
      | nil =>
        simp [ok_nil, eqD_nil]
        exact (hI _ _).mpr ⟨ws, b2, _, _, hb2, hw, hL, by simp; omega, rfl, rfl, rfl⟩
      | cons f0 fs =>
        simp only [List.map_cons] at okf
        simp [okf, ok_nil, eqD_nil, nodupS]
        refine pick_w ansD (xs := f0 :: fs) hb2 (by simp) (by omega) fun a b3 ha hb3 => ?_
        simp [wb]
        refine ⟨by omega, (hI _ _).mpr ⟨ws ++ [a], b3, _, _, hb3, ?_, hp a (hf a ha).1 (hf a ha).2, by simp; omega, rfl, rfl, by rw [List.map_append]; rfl⟩⟩
        intro c hc
        rcases List.mem_append.mp hc with h | h
        · exact hw c h
        · simp at h; subst h; exact (hf _ ha).1
    rcases List.eq_nil_or_concat ws with rfl | ⟨wi, l, rfl⟩
    · refine w_compP ansD (fun _ => true) ansD ?_ ?_
      · intro a ha
        simp [ok_nil, eqD_nil, wipeR]
      · have := key (fun _ => true) (fun a _ _ => rfl) hb2
        have lf : (as.filter fun _ => true).length ≤ 36 := Nat.le_trans (List.length_filter_le _ _) hl
        generalize (as.filter fun _ => true) = fs at this lf
        simp [h5, -w_ifS_i]
        refine ⟨by omega, wS_mono this ?_⟩
        rintro fl ρ2 ⟨rfl, h⟩
        exact h
    · simp only [List.concat_eq_append] at *
      have okw := ok_walk hgw
      have hgl := hg l (hw l (by simp))
      refine w_compP ansD (fun a => decide ((ansF a).1 = (ansF l).2)) ansD ?_ ?_
      · intro a ha
        have hga := hg a ha
        have al := atI_last wi l
        have nn : ((wi ++ [l]).map ansD) ≠ [] := by simp
        generalize (wi ++ [l]).map ansD = wd at al okw nn
        have ee : wd.isEmpty = false := by cases wd <;> simp at nn ⊢
        simp [okw, ok_nil, eqD_nil, ee, nodupS]
        refine leads_w ?_
        simp [wb, pairD, nodupS, al]
        refine leads_w ?_
        simp [wb, pairD, eqD_str]
      · have := key (fun a => decide ((ansF a).1 = (ansF l).2)) (fun a _ h => linked_snoc hL (by simpa using (of_decide_eq_true h).symm)) hb2
        have lf : (as.filter fun a => decide ((ansF a).1 = (ansF l).2)).length ≤ 36 := Nat.le_trans (List.length_filter_le _ _) hl
        generalize (as.filter fun a => decide ((ansF a).1 = (ansF l).2)) = fs at this lf
        generalize (wi ++ [l]).map ansD = wd at this ⊢
        simp [h5, -w_ifS_i]
        refine ⟨by omega, wS_mono this ?_⟩
        rintro fl ρ2 ⟨rfl, h⟩
        exact h
  · rintro ρ h
    obtain ⟨ws, b2, x4, x5, hb2, hw, hL, hlen, h4, h5, rfl⟩ := (hI _ _).mp h
    rw [List.length_range] at hlen
    simp [outs]
    exact q ws b2 hw hL (by omega) hb2
end VI

/-! What is a walk. -/
namespace VI
open PySem PySem.Spec PyProof.Rows L2
/-! ### what is shown is plain -/
theorem tl_le {c b : Nat} (hc : c ≤ b) (hb : 44 ≤ b) : ∀ {ts : List (List Nat)}, (∀ t ∈ ts, ∀ x ∈ t, x ≤ b) → ∀ x ∈ tl c ts, x ≤ b
  | [], _, x, hx => by simp [tl] at hx; omega
  | t :: ts, h, x, hx => by
    simp only [tl, List.mem_cons, List.mem_append] at hx
    rcases hx with rfl | rfl | hx | hx
    · exact hb
    · omega
    · exact h t List.mem_cons_self x hx
    · exact tl_le hc hb (fun u hu => h u (List.mem_cons_of_mem _ hu)) x hx
mutual
theorem sh_le : ∀ d : D, Smp d → ∀ c ∈ sh d, c ≤ 122
  | .non, _, c, hc => by rw [sh_non] at hc; simp at hc; omega
  | .bl true, _, c, hc => by rw [sh_t] at hc; simp at hc; omega
  | .bl false, _, c, hc => by rw [sh_f] at hc; simp at hc; omega
  | .int i, h, c, hc => by
    have hi : 0 ≤ i ∧ i ≤ 9 := by simpa [Smp] using h
    rw [sh_int hi] at hc; simp at hc; omega
  | .str x, h, c, hc => by
    rw [Smp] at h
    rw [sh_str h.1] at hc
    simp only [List.mem_cons, List.mem_append, List.not_mem_nil, or_false] at hc
    rcases hc with rfl | hc | rfl
    · decide
    · have := h.1 c hc; omega
    · decide
  | .tup [], _, c, hc => by rw [sh_tnil] at hc; simp at hc; omega
  | .tup [x], h, c, hc => by
    rw [Smp, SmpL] at h
    rw [sh_tup1] at hc
    simp only [List.mem_cons, List.mem_append, List.not_mem_nil, or_false] at hc
    rcases hc with rfl | hc | rfl | rfl
    · decide
    · exact sh_le x h.1 c hc
    · decide
    · decide
  | .tup (x :: y :: xs), h, c, hc => by
    rw [Smp, SmpL] at h
    rw [sh_tup] at hc
    simp only [List.mem_cons, List.mem_append] at hc
    rcases hc with rfl | hc | hc
    · decide
    · exact sh_le x h.1 c hc
    · refine tl_le (by decide) (by decide) ?_ c hc
      intro t ht
      obtain ⟨d, hd, rfl⟩ := List.mem_map.mp ht
      exact sh_leL (y :: xs) h.2 d hd
  | .lst [], _, c, hc => by rw [sh_nil] at hc; simp at hc; omega
  | .lst (x :: xs), h, c, hc => by
    rw [Smp, SmpL] at h
    rw [sh_lst] at hc
    simp only [List.mem_cons, List.mem_append] at hc
    rcases hc with rfl | hc | hc
    · decide
    · exact sh_le x h.1 c hc
    · refine tl_le (by decide) (by decide) ?_ c hc
      intro t ht
      obtain ⟨d, hd, rfl⟩ := List.mem_map.mp ht
      exact sh_leL xs h.2 d hd
  | .dK _, h, _, _ => by simp [Smp] at h
  | .dT _, h, _, _ => by simp [Smp] at h
  | .ins _ _, h, _, _ => by simp [Smp] at h
  | .ptr _, h, _, _ => by simp [Smp] at h
  | .seq _, h, _, _ => by simp [Smp] at h
  | .tupK _, h, _, _ => by simp [Smp] at h
  | .ty _, h, _, _ => by simp [Smp] at h
  | .cls _, h, _, _ => by simp [Smp] at h
theorem sh_leL : ∀ xs : List D, SmpL xs → ∀ x ∈ xs, ∀ c ∈ sh x, c ≤ 122
  | y :: xs, h, x, hx => by
    rw [SmpL] at h
    rcases List.mem_cons.mp hx with e | hx
    · rw [e]; exact sh_le y h.1
    · exact sh_leL xs h.2 x hx
end
theorem shown_ok {d : D} (h : Smp d) : PyData.strOk d.py.shown = true := by
  rw [str_ok]
  intro c hc
  have := sh_le d h c hc
  omega
/-! ### what is a walk -/
def inB (ps : List Ans) : D → Bool
  | .tup [.str x, .str y, .bl t] => decide ((x, y, t) ∈ ps)
  | _ => false
theorem inB_iff {ps : List Ans} {d : D} : inB ps d = true ↔ ∃ a ∈ ps, d = ansD a := by
  constructor
  · intro h
    unfold inB at h
    split at h
    · exact ⟨_, of_decide_eq_true h, rfl⟩
    · cases h
  · rintro ⟨a, ha, rfl⟩
    show decide ((a.1, a.2.1, a.2.2) ∈ ps) = true
    exact decide_eq_true ha
def IsWalk (as : List Ans) (t : D) : Prop := ∃ ws, t = walkD ws ∧ (∀ a ∈ ws, a ∈ as) ∧ linked ws = true
/-- what may be asked about -/
def ThOk (cs : List Str) (t : D) : Prop := t = .dK [] ∨ (Smp t ∧ dpD t ≤ 60 ∧ szD t ≤ 16000000) ∨ ∃ c fs, t = .ins c fs ∧ c ∈ cs
theorem ThOk.typd {cs : List Str} {t : D} (h : ThOk cs t) : Typd cs t := by
  rcases h with rfl | h | ⟨c, fs, rfl, hc⟩
  · trivial
  · exact smp_typd h.1
  · exact hc
theorem ThOk.items {cs : List Str} {ds : List D} (h : ThOk cs (.lst ds)) : (∀ d ∈ ds, Smp d ∧ dpD d ≤ 59 ∧ szD d ≤ 16000000) ∧ ds.length ≤ 16000000 := by
  rcases h with h | h | ⟨c, fs, h, hc⟩
  · cases h
  · rw [Smp, dpD, szD] at h
    refine ⟨fun d hd => ⟨smpL_iff.mp h.1 d hd, ?_, ?_⟩, ?_⟩
    · have := dpL_mem hd; omega
    · have := szL_mem hd; omega
    · have := szL_len ds; omega
  · cases h
theorem all_inB {ps : List Ans} : ∀ {ds : List D}, (∀ d ∈ ds, inB ps d = true) → ∃ ws : List Ans, ds = ws.map ansD ∧ ∀ a ∈ ws, a ∈ ps
  | [], _ => ⟨[], rfl, by simp⟩
  | d :: ds, h => by
    obtain ⟨a, ha, e⟩ := inB_iff.mp (h d List.mem_cons_self)
    obtain ⟨ws, e2, hw⟩ := all_inB (ds := ds) fun x hx => h x (List.mem_cons_of_mem _ hx)
    refine ⟨a :: ws, by rw [e, e2]; rfl, ?_⟩
    intro c hc
    rcases List.mem_cons.mp hc with rfl | hc
    · exact ha
    · exact hw c hc
theorem map_ansD_inj : ∀ {ws vs : List Ans}, ws.map ansD = vs.map ansD → ws = vs
  | [], [], _ => rfl
  | [], _ :: _, h => by cases h
  | _ :: _, [], h => by cases h
  | w :: ws, v :: vs, h => by
    rw [List.map_cons, List.map_cons, List.cons.injEq] at h
    rw [ansD_inj h.1, map_ansD_inj h.2]
theorem inL_strs' (x : Str) (ns : List Str) : inL (.str x) (ns.map D.str) = decide (x ∈ ns) := inL_strs x ns
/-- by what is shown -/
theorem law_is_walk_w {T : TK → TK → Option Bool} {cs : List Str} {as : List Ans} {t : D} (hT : TOk T cs) (hg : GoodA as) (hl : as.length ≤ 36) (ht : ThOk cs t) {Q : Sl → List Sl → Prop}
    (q : ∀ b, (b = true ↔ IsWalk as t) → Q ⟨.fz, .bl b⟩ [⟨.par, .lst (as.map ansD)⟩, ⟨.fz, t⟩]) : wM (m_law_is_walk T) [⟨.par, .lst (as.map ansD)⟩, ⟨.fz, t⟩] Q := by
  rw [m_law_is_walk, w_fn, b_law_is_walk]
  simp only [List.map_cons, List.map_nil, List.cons_append, List.nil_append, List.replicate_succ, List.replicate_zero]
  have e1 : gIsi T [t, .ty "list"] = some ⟨.fz, .bl (decide (knd t = "list"))⟩ := e_isi hT ht.typd (by decide)
  by_cases hk : knd t = "list"
  · obtain ⟨ds, rfl⟩ : ∃ ds, t = .lst ds := by cases t <;> first | exact ⟨_, rfl⟩ | (simp [knd] at hk)
    obtain ⟨hd, hdl⟩ := ht.items
    have sa : ∀ a ∈ as, Smp (ansD a) := fun a ha => smp_ans (hg a ha).1 (hg a ha).2
    have ra : ∀ a ∈ as, reprOk (ansD a) = true := fun a ha => smp_repr (sa a ha) (by rw [dp_ans]; decide) (by rw [sz_ans]; decide)
    simp [e1, hk, lend, back, wipeR]
    refine w_compP ansD (fun _ => true) (fun a => .str (ansD a).py.shown) ?_ ?_
    · intro a ha
      simp [ra a ha, wipeR]
    · have ef : (as.filter fun _ => true) = as := List.filter_eq_self.mpr (by simp)
      rw [ef]
      have em : (as.map fun a => D.str (ansD a).py.shown) = (as.map fun a => (ansD a).py.shown).map D.str := by rw [List.map_map]; rfl
      rw [em]
      have hts : ∀ x ∈ as.map (fun a => (ansD a).py.shown), PyData.strOk x = true := by
        intro x hx
        obtain ⟨a, ha, rfl⟩ := List.mem_map.mp hx
        exact shown_ok (sa a ha)
      have htl : (as.map fun a => (ansD a).py.shown).length ≤ 36 := by rw [List.length_map]; exact hl
      have hin : ∀ d ∈ ds, decide (d.py.shown ∈ as.map fun a => (ansD a).py.shown) = inB as d := by
        intro d hd'
        rw [Bool.eq_iff_iff, decide_eq_true_eq, inB_iff]
        constructor
        · intro h
          obtain ⟨a, ha, e⟩ := List.mem_map.mp h
          exact ⟨a, ha, shown_inj (hd d hd').1 (sa a ha) e.symm⟩
        · rintro ⟨a, ha, rfl⟩
          exact List.mem_map.mpr ⟨a, ha, rfl⟩
      generalize as.map (fun a => (ansD a).py.shown) = ts at hts htl hin
      simp [wipeR, lend, back]
      refine ⟨by omega, ?_⟩
      have ed : ds = ds.map fun d => d := by simp
      have key : ∀ {Q' : List D × Rho → Prop}, Q' (ds.filter fun d => !inB as d, [some ⟨.par, .lst (as.map ansD)⟩, some ⟨.fz, .lst ds⟩, some ⟨.own, .lst (ts.map D.str)⟩, none, none, none]) →
          wg (compM [4] (bindN 4) (fT (fOp2 gNotInA (.ex (fOpN gReprA [(.sl 4)])) (.sl 2))) (fName 4) ds [] [some ⟨.par, .lst (as.map ansD)⟩, some ⟨.fz, .lst ds⟩, some ⟨.own, .lst (ts.map D.str)⟩, none, none, none]) Q' := by
        intro Q' hQ
        have k2 : wg (compM [4] (bindN 4) (fT (fOp2 gNotInA (.ex (fOpN gReprA [(.sl 4)])) (.sl 2))) (fName 4) (ds.map fun d => d) [] [some ⟨.par, .lst (as.map ansD)⟩, some ⟨.fz, .lst ds⟩, some ⟨.own, .lst (ts.map D.str)⟩, none, none, none]) Q' := by
          refine w_compP (fun d : D => d) (fun d => !inB as d) (fun d => d) ?_ (by simpa using hQ)
          intro d hd'
          obtain ⟨h1, h2, h3⟩ := hd d hd'
          have r1 : reprOk d = true := smp_repr h1 (by omega) (by omega)
          have i1 := hin d hd'
          simp [r1, ok_str (shown_ok h1), ok_strs hts, inL_strs, i1]
        rwa [← ed] at k2
      refine key ?_
      have okf : (D.lst (ds.filter fun d => !inB as d)).ok = true := ok_lst (n := 59) (fun x hx => by
        obtain ⟨h1, h2, h3⟩ := hd x (List.mem_filter.mp hx).1
        exact (smp_fine x h1).mono h2) (by decide)
      have lf : (ds.filter fun d => !inB as d).length ≤ 16777216 := Nat.le_trans (List.length_filter_le _ _) (by omega)
      have hfe : (ds.filter fun d => !inB as d) = [] ↔ ∀ d ∈ ds, inB as d = true := by
        rw [List.filter_eq_nil_iff]
        simp
      generalize (ds.filter fun d => !inB as d) = fs at okf lf hfe
      cases fs with
      | cons f0 fs =>
        have hno : ¬ IsWalk as (.lst ds) := by
          rintro ⟨ws, e, hw, -⟩
          unfold walkD at e
          cases e
          have := hfe.mpr fun d hd' => by
            obtain ⟨a, ha, rfl⟩ := List.mem_map.mp hd'
            exact inB_iff.mpr ⟨a, hw a ha, rfl⟩
          cases this
        simp [okf, ok_nil, eqD_nil, outs]
        refine ⟨by simpa using lf, q false ⟨fun h => (by cases h), fun h => (hno h).elim⟩⟩
      | nil =>
        obtain ⟨ws, rfl, hw⟩ := all_inB (hfe.mp rfl)
        have lw : ws.length ≤ 16000000 := by simpa using hdl
        simp [okf, ok_nil, eqD_nil]
        have er : gRng2 [.int 1, .int ws.length] = some ((List.range (ws.length - 1)).map fun i : Nat => D.int (1 + i)) := by
          have e0 : gRng2 [.int 1, .int ws.length] = if -(2 ^ 62) ≤ (1 : Int) ∧ (1 : Int) < 2 ^ 62 ∧ -(2 ^ 62) ≤ (ws.length : Int) ∧ (ws.length : Int) < 2 ^ 62 then some (rangeD 1 ((ws.length : Int) - 1).toNat) else none := rfl
          rw [e0, if_pos ⟨by decide, by decide, by omega, by omega⟩, show ((ws.length : Int) - 1).toNat = ws.length - 1 by omega]
          rfl
        simp [er, wipeR, -List.map_map]
        refine w_compP (fun i : Nat => D.int (1 + i)) (fun i => !decide ((ansF (ws.getD i default)).2 = (ansF (ws.getD (i + 1) default)).1)) (fun i => .int (1 + i)) ?_ ?_
        · intro i hi
          rw [List.mem_range] at hi
          have a1 : atI (ws.map ansD) (1 + (i : Int) - 1) = some (ansD (ws.getD i default)) := by
            rw [atI_at (by omega), List.getElem?_map, show (1 + (i : Int) - 1).toNat = i by omega, List.getElem?_eq_getElem (by omega), List.getD_eq_getElem?_getD, List.getElem?_eq_getElem (by omega)]
            rfl
          have a2 : atI (ws.map ansD) (1 + (i : Int)) = some (ansD (ws.getD (i + 1) default)) := by
            rw [atI_at (by omega), List.getElem?_map, show (1 + (i : Int)).toNat = i + 1 by omega, List.getElem?_eq_getElem (by omega), List.getD_eq_getElem?_getD, List.getElem?_eq_getElem (by omega)]
            rfl
          generalize ws.getD i default = u at a1
          generalize ws.getD (i + 1) default = v at a2
          generalize ws.map ansD = wd at a1 a2
          simp [nodupS, a1]
          refine leads_w ?_
          simp [wb, pairD, nodupS, a2]
          refine leads_w ?_
          simp [wb, pairD, eqD_str]
        · have okz : (D.lst (((List.range (ws.length - 1)).filter fun i => !decide ((ansF (ws.getD i default)).2 = (ansF (ws.getD (i + 1) default)).1)).map fun i : Nat => D.int (1 + i))).ok = true := ok_lst (n := 0) (fun x hx => by
            obtain ⟨i, hi, rfl⟩ := List.mem_map.mp hx
            exact ⟨by simp [D.pure], by simp [D.py, PyData.canLay0], by simp [D.py, PyData.depth]⟩) (by decide)
          have lz : (((List.range (ws.length - 1)).filter fun i => !decide ((ansF (ws.getD i default)).2 = (ansF (ws.getD (i + 1) default)).1)).map fun i : Nat => D.int (1 + i)).length ≤ 16777216 := by
            rw [List.length_map]
            refine Nat.le_trans (List.length_filter_le _ _) ?_
            rw [List.length_range]; omega
          have hz : (((List.range (ws.length - 1)).filter fun i => !decide ((ansF (ws.getD i default)).2 = (ansF (ws.getD (i + 1) default)).1)).map fun i : Nat => D.int (1 + i)).isEmpty = true ↔ IsWalk as (.lst (ws.map ansD)) := by
            rw [List.isEmpty_iff, List.map_eq_nil_iff, List.filter_eq_nil_iff]
            constructor
            · intro h
              refine ⟨ws, rfl, hw, linked_iff.mpr fun i hi => ?_⟩
              have := h i (List.mem_range.mpr (by omega))
              simpa using this
            · rintro ⟨vs, e, hv, hL⟩ i hi
              unfold walkD at e
              have := map_ansD_inj (by simpa using e)
              subst this
              rw [List.mem_range] at hi
              have := linked_iff.mp hL i (by omega)
              rw [decide_eq_true this]
              decide
          generalize (((List.range (ws.length - 1)).filter fun i => !decide ((ansF (ws.getD i default)).2 = (ansF (ws.getD (i + 1) default)).1)).map fun i : Nat => D.int (1 + i)) = zs at okz lz hz
          simp [okz, ok_nil, eqD_nil, outs]
          exact ⟨lz, q _ hz⟩
  · simp [e1, hk, outs]
    refine q false ⟨fun h => (by cases h), ?_⟩
    rintro ⟨ws, rfl, -⟩
    simp [walkD, knd] at hk
end VI

/-! is_walk. -/
namespace VI
open PySem PySem.Spec PyProof.Rows L2
theorem is_walk_w {T : TK → TK → Option Bool} {cs : List Str} {ms : List Str} {ps : List Ans} {t : D} (hT : TOk T cs) (hp : (ps.map ansP).Nodup) (hg : ∀ a ∈ ps, isAnswerD (ansD a) = true) (ht : ThOk cs t) {Q : Sl → List Sl → Prop}
    (q : ∀ b, (b = true ↔ IsWalk ps t) → Q ⟨.fz, .bl b⟩ [⟨.fz, bookD ms ps⟩, ⟨.fz, t⟩]) : wM (m_is_walk T) [⟨.fz, bookD ms ps⟩, ⟨.fz, t⟩] Q := by
  rw [m_is_walk, w_fn, b_is_walk]
  simp only [List.map_cons, List.map_nil, List.cons_append, List.nil_append, List.replicate_succ, List.replicate_zero]
  have e1 : gIsi T [t, .ty "list"] = some ⟨.fz, .bl (decide (knd t = "list"))⟩ := e_isi hT ht.typd (by decide)
  by_cases hk : knd t = "list"
  · obtain ⟨ds, rfl⟩ : ∃ ds, t = .lst ds := by cases t <;> first | exact ⟨_, rfl⟩ | (simp [knd] at hk)
    obtain ⟨hd, hdl⟩ := ht.items
    simp [e1, hk, lend, back, wipeR]
    have ed : ds = ds.map fun d => d := by simp
    have key : ∀ {Q' : List D × Rho → Prop}, Q' (ds.map fun d => D.bl (inB ps d), [some ⟨.fz, bookD ms ps⟩, some ⟨.fz, .lst ds⟩, none, none, none]) →
        wg (compM [4] (bindN 4) fYes (fSp2 true .bool (tb1 "Book" (m_Book_contains T)) (.sl 4) (.sl 0)) ds [] [some ⟨.fz, bookD ms ps⟩, some ⟨.fz, .lst ds⟩, none, none, none]) Q' := by
      intro Q' hQ
      have k2 : wg (compM [4] (bindN 4) fYes (fSp2 true .bool (tb1 "Book" (m_Book_contains T)) (.sl 4) (.sl 0)) (ds.map fun d => d) [] [some ⟨.fz, bookD ms ps⟩, some ⟨.fz, .lst ds⟩, none, none, none]) Q' := by
        refine w_compP (fun d : D => d) (fun _ => true) (fun d => .bl (inB ps d)) ?_ ?_
        · intro d hd'
          simp [rcv, ord2, bookD, nodupS]
          refine contains_w (m := .fz) hT hp hg (smp_typ1 (hd d hd').1) fun b hb => ?_
          have : b = inB ps d := by rw [Bool.eq_iff_iff, hb, inB_iff]
          subst this
          simp [wb, wipeR]
          rfl
        · have ef : (ds.filter fun _ => true) = ds := List.filter_eq_self.mpr (by simp)
          rw [ef]; exact hQ
      rwa [← ed] at k2
    refine key ?_
    have ga := e_all (inB ps) ds
    cases hal : ds.all (inB ps) with
    | false =>
      rw [hal] at ga
      simp [ga, outs]
      refine ⟨by omega, q false ⟨fun h => (by cases h), ?_⟩⟩
      rintro ⟨ws, e, hw, -⟩
      unfold walkD at e
      cases e
      rw [← Bool.not_eq_true, List.all_eq_true] at hal
      exact (hal fun d hd' => by
        obtain ⟨a, ha, rfl⟩ := List.mem_map.mp hd'
        exact inB_iff.mpr ⟨a, hw a ha, rfl⟩).elim
    | true =>
      rw [hal] at ga
      obtain ⟨ws, rfl, hw⟩ := all_inB (List.all_eq_true.mp hal)
      have lw : ws.length ≤ 16000000 := by simpa using hdl
      obtain ⟨zs, ec, lz, gz⟩ : ∃ zs : List (Ans × Ans), zipD (ws.map ansD) (cutD (ws.map ansD) (some 1) none) = zs.map (fun p => D.tup [ansD p.1, ansD p.2]) ∧ zs.length ≤ 16000000 ∧
          gAll [.lst (zs.map fun p => D.bl (decide ((ansF p.1).2 = (ansF p.2).1)))] = some ⟨.fz, .bl (linked ws)⟩ := by
        refine ⟨ws.zip (ws.drop 1), ?_, by rw [List.length_zip]; omega, ?_⟩
        · rw [cut_lo ansD ws (show (0 : Int) ≤ 1 by decide), zipD_map]; rfl
        · rw [linked_zip ws]; exact e_all _ _
      have l3 : ((ws.map ansD).map fun d => D.bl (inB ps d)).length ≤ 16777216 := by rw [List.length_map, List.length_map]; omega
      generalize (ws.map ansD).map (fun d => D.bl (inB ps d)) = zd3 at ga l3 ⊢
      simp [ga, ec, wipeR]
      refine ⟨l3, ?_⟩
      refine w_compP (fun p : Ans × Ans => D.tup [ansD p.1, ansD p.2]) (fun _ => true) (fun p => .bl (decide ((ansF p.1).2 = (ansF p.2).1))) ?_ ?_
      · intro p _
        simp [nodupS]
        refine ends_of_w ?_
        simp [wb, pairD, nodupS]
        refine ends_of_w ?_
        simp [wb, pairD, eqD_str, wipeR]
      · have ef : (zs.filter fun _ => true) = zs := List.filter_eq_self.mpr (by simp)
        rw [ef]
        have lz2 : (zs.map fun p => D.bl (decide ((ansF p.1).2 = (ansF p.2).1))).length ≤ 16777216 := by rw [List.length_map]; omega
        generalize (zs.map fun p => D.bl (decide ((ansF p.1).2 = (ansF p.2).1))) = zd at gz lz2
        simp [gz, outs]
        refine ⟨lz2, q _ ⟨fun h => ⟨ws, rfl, hw, h⟩, ?_⟩⟩
        rintro ⟨vs, e, hv, hL⟩
        unfold walkD at e
        have := map_ansD_inj (by simpa using e)
        subst this
        exact hL
  · simp [e1, hk, outs]
    refine q false ⟨fun h => (by cases h), ?_⟩
    rintro ⟨ws, rfl, -⟩
    simp [walkD, knd] at hk
end VI

/-! Odd walks. -/
namespace VI
open PySem PySem.Spec PyProof.Rows L2
def NS (t : D) : Prop := t = .dK [] ∨ (Smp t ∧ dpD t ≤ 60 ∧ szD t ≤ 1500000)
theorem NS.th {cs : List Str} {t : D} (h : NS t) : ThOk cs t := h.elim .inl fun h => .inr (.inl ⟨h.1, h.2.1, by have := h.2.2; omega⟩)
instance (x : Str) : Decidable (PlainS x) := by unfold PlainS; infer_instance
def ansI (a : Ans) : D := .tup [.str a.1, .str a.2.1, .int (if a.2.2 = true then 1 else 0)]
def Sm1 (d : D) : Prop := Smp d ∧ dpD d ≤ 1 ∧ szD d ≤ 255
theorem sm1_ans {a : Ans} (h : GoodN a.1 ∧ GoodN a.2.1) : Sm1 (ansD a) := ⟨smp_ans h.1 h.2, by rw [dp_ans]; decide, by rw [sz_ans]; decide⟩
theorem sm1_ansI {a : Ans} (h : GoodN a.1 ∧ GoodN a.2.1) : Sm1 (ansI a) := by
  have h1 := smp_name h.1
  have h2 := smp_name h.2
  refine ⟨?_, by simp [ansI, dpD, dpL], by simp [ansI, szD, szL]⟩
  unfold ansI
  rw [Smp, SmpL, SmpL, SmpL, SmpL]
  refine ⟨h1, h2, ?_, trivial⟩
  rw [Smp]; split <;> decide
theorem ns_lst {ds : List D} (h : ∀ d ∈ ds, Sm1 d) (hl : ds.length ≤ 5000) : NS (.lst ds) := by
  refine .inr ⟨?_, ?_, ?_⟩
  · rw [Smp, smpL_iff]; exact fun d hd => (h d hd).1
  · rw [dpD]; have := dpL_le (c := 1) fun d hd => (h d hd).2.1; omega
  · rw [szD]; have := szL_le (c := 255) fun d hd => (h d hd).2.2; omega
theorem ns_tup {ds : List D} (h : ∀ d ∈ ds, Sm1 d) (hl : ds.length ≤ 5000) : NS (.tup ds) := by
  refine .inr ⟨?_, ?_, ?_⟩
  · rw [Smp, smpL_iff]; exact fun d hd => (h d hd).1
  · rw [dpD]; have := dpL_le (c := 1) fun d hd => (h d hd).2.1; omega
  · rw [szD]; have := szL_le (c := 255) fun d hd => (h d hd).2.2; omega
theorem cutA (ws : List Ans) (lo hi : Option Int) : ∃ us : List Ans, cutD (ws.map ansD) lo hi = us.map ansD ∧ (∀ a ∈ us, a ∈ ws) ∧ us.length ≤ ws.length := by
  refine ⟨_, cut_map ansD ws lo hi, fun a ha => List.mem_of_mem_drop (List.mem_of_mem_take ha), ?_⟩
  rw [List.length_take, List.length_drop]; omega
theorem mulN : ∃ nn : List D, gMul (.lst [.non]) (.int 9000) = some ⟨.own, .lst nn⟩ ∧ NS (.lst nn) := by
  refine ⟨(List.replicate 9000 [D.non]).flatten, ?_, ?_⟩
  · unfold gMul
    rw [orG_r rfl]
    show (if -(2 ^ 63) ≤ (9000 : Int) ∧ (9000 : Int) < 2 ^ 63 ∧ [D.non].length * (9000 : Int).toNat ≤ sizeLine then some (⟨.own, .lst (List.replicate (9000 : Int).toNat [D.non]).flatten⟩ : Sl) else none) = _
    rw [if_pos ⟨by decide, by decide, by rw [e_sz]; decide⟩]
    rfl
  · have hm : ∀ d ∈ (List.replicate 9000 [D.non]).flatten, d = .non := fun d hd => by
      rw [List.mem_flatten] at hd
      obtain ⟨l, hl, hd⟩ := hd
      rw [List.mem_replicate] at hl
      rw [hl.2] at hd
      simpa using hd
    have hl : (List.replicate 9000 [D.non]).flatten.length = 9000 := by rw [List.length_flatten, List.map_replicate, List.sum_replicate_nat]; decide
    generalize (List.replicate 9000 [D.non]).flatten = nn at hm hl
    refine .inr ⟨?_, ?_, ?_⟩
    · rw [Smp, smpL_iff]; intro d hd; rw [hm d hd, Smp]; trivial
    · rw [dpD]
      have := dpL_le (c := 0) (xs := nn) fun d hd => by rw [hm d hd]; simp [dpD]
      omega
    · rw [szD]
      have := szL_le (c := 82) (xs := nn) fun d hd => by rw [hm d hd]; simp [szD]
      omega
def OddR (b1 : D) (ws : List Ans) (ns : List Str) (x y : Str) (odd : List D) (x4 x5 : Option Sl) : Rho := [some ⟨.par, b1⟩, some ⟨.fz, walkD ws⟩, some ⟨.par, namesD ns⟩, some ⟨.own, .lst odd⟩, x4, x5, some ⟨.fz, .str x⟩, some ⟨.fz, .str y⟩, none, none, none, none, none]
def OddI (b1 : D) (ws : List Ans) (ns : List Str) (x y : Str) (n : Nat) (x4 x5 : Option Sl) (ρ : Rho) : Prop := ∃ odd : List D, odd.length = n ∧ (∀ d ∈ odd, NS d) ∧ ρ = OddR b1 ws ns x y odd x4 x5
theorem OddI.mk {b1 : D} {ws : List Ans} {ns : List Str} {x y : Str} {n : Nat} {x4 x5 : Option Sl} {ρ : Rho} {odd : List D} (h1 : odd.length = n) (h2 : ∀ d ∈ odd, NS d) (h3 : ρ = [some ⟨.par, b1⟩, some ⟨.fz, walkD ws⟩, some ⟨.par, namesD ns⟩, some ⟨.own, .lst odd⟩, x4, x5, some ⟨.fz, .str x⟩, some ⟨.fz, .str y⟩, none, none, none, none, none]) : OddI b1 ws ns x y n x4 x5 ρ := ⟨odd, h1, h2, h3⟩
theorem OddI.get {b1 : D} {ws : List Ans} {ns : List Str} {x y : Str} {n : Nat} {x4 x5 : Option Sl} {ρ : Rho} (h : OddI b1 ws ns x y n x4 x5 ρ) : ∃ odd : List D, odd.length = n ∧ (∀ d ∈ odd, NS d) ∧ ρ = [some ⟨.par, b1⟩, some ⟨.fz, walkD ws⟩, some ⟨.par, namesD ns⟩, some ⟨.own, .lst odd⟩, x4, x5, some ⟨.fz, .str x⟩, some ⟨.fz, .str y⟩, none, none, none, none, none] := h
section
variable {s0 s1 s2 s3 s4 s5 s6 s7 s8 s9 : Option Sl} {us : List Ans} {Q' : List D × Rho → Prop}
theorem comp_ints (hq : Q' (us.map ansI, [s0, s1, s2, s3, s4, s5, s6, s7, s8, s9, none, none, none])) :
    wg (compM [10, 11, 12] (bindT [10, 11, 12]) fYes (fDisp gTup [(fName 10), (fName 11), (fOpN gInt [(.sl 12)])]) (us.map ansD) [] [s0, s1, s2, s3, s4, s5, s6, s7, s8, s9, none, none, none]) Q' := by
  refine w_compP ansD (fun _ => true) ansI ?_ ?_
  · intro a _
    simp [ansD, ansI, wipeR]
  · have ef : (us.filter fun _ => true) = us := List.filter_eq_self.mpr (by simp)
    rw [ef]; exact hq
def ansN (a : Ans) : Ans := (a.1, a.2.1, !a.2.2)
theorem comp_nots (hq : Q' ((us.map ansN).map ansD, [s0, s1, s2, s3, s4, s5, s6, s7, s8, s9, none, none, none])) :
    wg (compM [10, 11, 12] (bindT [10, 11, 12]) fYes (fDisp gTup [(fName 10), (fName 11), (fNotV (fName 12))]) (us.map ansD) [] [s0, s1, s2, s3, s4, s5, s6, s7, s8, s9, none, none, none]) Q' := by
  refine w_compP ansD (fun _ => true) (fun a => ansD (ansN a)) ?_ ?_
  · intro a _
    simp [ansD, ansN, wipeR]
  · have ef : (us.filter fun _ => true) = us := List.filter_eq_self.mpr (by simp)
    rw [ef]
    rw [List.map_map] at hq
    exact hq
end
theorem law_odd_walk_w {b : D} {ns : List Str} {ws : List Ans} (hb : BagOk b) (hn : NamesN ns) (hz : ns.length ≤ 6) (hz2 : 2 ≤ ns.length) (hg : GoodA ws) (hl : ws.length ≤ 100) {Q : Sl → List Sl → Prop}
    (q : ∀ r b', NS r.d → BagOk b' → Q r [⟨.par, b'⟩, ⟨.fz, walkD ws⟩, ⟨.par, namesD ns⟩]) : wM m_law_odd_walk [⟨.par, b⟩, ⟨.fz, walkD ws⟩, ⟨.par, namesD ns⟩] Q := by
  rw [m_law_odd_walk, w_fn, b_law_odd_walk]
  simp only [List.map_cons, List.map_nil, List.cons_append, List.nil_append, List.replicate_succ, List.replicate_zero]
  have hso : ∀ x ∈ ns, PyData.strOk x = true := fun x hx => (hn.1 x hx).ok
  obtain ⟨nn, en, hnn⟩ := mulN
  generalize gMul = gm at en ⊢
  generalize h30 : (30 : Int) = n30
  -- the pair
  rw [w_seq]
  apply wS_mono (QS := fun fl ρ => fl = .nx ∧ ∃ b x y, BagOk b ∧ GoodN x ∧ GoodN y ∧ ρ = [some ⟨.par, b⟩, some ⟨.fz, walkD ws⟩, some ⟨.par, namesD ns⟩, none, none, none, some ⟨.fz, .str x⟩, some ⟨.fz, .str y⟩, none, none, none, none, none])
  · simp [nodupS]
    refine pairs_w hso hz fun ms hp => ?_
    have hm : ∀ p ∈ pairsOfNames ms ms, p.1 ∈ ns ∧ p.2 ∈ ns := fun p hp' => ⟨hp.mem_iff.mp (pairs_mem hp').1, hp.mem_iff.mp (pairs_mem hp').2⟩
    have hl : (pairsOfNames ms ms).length ≤ 36 := pairs_len (k := 6) (by rw [hp.length_eq]; exact hz)
    have ne : pairsOfNames ms ms ≠ [] := pairs_ne_nil (hp.nodup_iff.mpr hn.2) (by rw [hp.length_eq]; exact hz2)
    generalize pairsOfNames ms ms = prs at hm hl ne
    simp [wb, nodupS, pairsD]
    refine pick_w pairD hb ne (by omega) fun p b1 hp' hb1 => ?_
    simp [wb, pairD]
    exact ⟨b1, hb1, _, hn.1 _ (hm p hp').1, _, hn.1 _ (hm p hp').2, rfl, rfl, rfl⟩
  rintro fl ρ ⟨rfl, b1, x, y, hb1, hx, hy, rfl⟩
  dsimp only
  have px := hx.plain
  have py := hy.plain
  have lx := hx.2.2
  have ly := hy.2.2
  have c1 : PlainS (Str.ofString "walk") := by decide +kernel
  have c2 : PlainS (Str.ofString "True") := by decide +kernel
  have c3 : PlainS (Str.ofString "nobody") := by decide +kernel
  have d1 : (Str.ofString "walk").length ≤ 8 := by decide +kernel
  have d2 : (Str.ofString "True").length ≤ 8 := by decide +kernel
  have d3 : (Str.ofString "nobody").length ≤ 8 := by decide +kernel
  -- eleven odd values
  rw [w_seq]
  apply wS_mono (QS := fun fl ρ => fl = .nx ∧ OddI b1 ws ns x y 11 none none ρ)
  · simp [en]
    refine OddI.mk ?_ ?_ rfl
    · rfl
    simp only [List.forall_mem_cons]
    refine ⟨?_, ?_, ?_, ?_, ?_, ?_, ?_, ?_, ?_, ?_, ?_, by simp⟩ <;> first | exact hnn | exact .inl rfl | (refine .inr ⟨?_, ?_, ?_⟩ <;> simp [Smp, SmpL, dpD, dpL, szD, szL, px, py, lx, ly, c1, c2, c3, d1, d2, d3])
  rintro fl ρ ⟨rfl, h⟩
  obtain ⟨odd, lo, ho, rfl⟩ := h.get
  dsimp only
  -- five more
  rw [w_seq]
  apply wS_mono (QS := fun fl ρ => fl = .nx ∧ OddI b1 ws ns x y 16 none none ρ)
  · simp [lo]
    refine OddI.mk ?_ ?_ rfl
    · simp [lo]
    · refine List.forall_mem_append.mpr ⟨ho, ?_⟩
      simp only [List.forall_mem_cons]
      refine ⟨?_, ?_, ?_, ?_, ?_, by simp⟩ <;> (refine .inr ⟨?_, ?_, ?_⟩ <;> simp [Smp, SmpL, dpD, dpL, szD, szL, px, py, lx, ly, c1, c2, c3, d1, d2, d3])
  rintro fl ρ ⟨rfl, h⟩
  obtain ⟨odd, lo, ho, rfl⟩ := h.get
  dsimp only
  -- the deep one
  rw [w_seq]
  apply wS_mono (QS := fun fl ρ => fl = .nx ∧ ρ = OddR b1 ws ns x y odd (some ⟨.own, .lst [ansD (x, y, true)]⟩) none)
  · simp [OddR, ansD]
  rintro fl ρ ⟨rfl, rfl⟩
  dsimp only
  rw [w_seq]
  apply wS_mono (QS := fun fl ρ => fl = .nx ∧ ∃ deep x5, NS deep ∧ ρ = OddR b1 ws ns x y odd (some ⟨.own, deep⟩) x5)
  · simp [rangeD, OddR]
    refine ⟨⟨by omega, by omega⟩, ?_⟩
    refine w_loopX (fun i : Nat => D.int i) (fun pre ρ => ∃ deep x5, (Smp deep ∧ dpD deep ≤ 2 + pre.length ∧ szD deep ≤ 300 + 4 * pre.length) ∧ frx x5 = true ∧ ρ = OddR b1 ws ns x y odd (some ⟨.own, deep⟩) x5) ?_ ?_ ?_
    · refine ⟨_, none, ⟨?_, ?_, ?_⟩, rfl, rfl⟩
      · simp [ansD, Smp, SmpL, px, py, lx, ly]
      · simp [ansD, dpD, dpL]
      · simp [ansD, szD, szL]
    · rintro pre i ρ _ _ ⟨deep, x5, ⟨h1, h2, h3⟩, h5, rfl⟩
      simp [OddR, h5]
      refine ⟨?_, ?_, ?_⟩
      · simp [Smp, SmpL, h1]
      · simp [dpD, dpL]; omega
      · simp [szD, szL]; omega
    · rintro ρ ⟨deep, x5, ⟨h1, h2, h3⟩, h5, rfl⟩
      refine ⟨rfl, deep, x5, .inr ⟨h1, ?_, ?_⟩, rfl⟩
      · rw [List.length_range] at h2; omega
      · rw [List.length_range] at h3; omega
  rintro fl ρ ⟨rfl, deep, x5, hdeep, rfl⟩
  dsimp only
  -- seven more
  have sw : ∀ d ∈ ws.map ansD, Sm1 d := fun d hd => by
    obtain ⟨a, ha, rfl⟩ := List.mem_map.mp hd
    exact sm1_ans (hg a ha)
  rw [w_seq]
  apply wS_mono (QS := fun fl ρ => fl = .nx ∧ ∃ x4, OddI b1 ws ns x y 23 x4 x5 ρ)
  · have ew : walkD ws = .lst (ws.map ansD) := rfl
    have lw : (ws.map ansD).length ≤ 100 := by rw [List.length_map]; exact hl
    generalize ws.map ansD = wd at ew sw lw
    simp [OddR, lo, ew]
    refine ⟨some ⟨.fz, deep⟩, OddI.mk (odd := odd ++ [.tup wd, .lst [.lst wd], .lst [.str x], deep, .lst [.tup [.str x, .lst [], .bl true]], .lst [.tup [.lst [.str x], .str y, .bl true]], .lst [.tup [.str x, .str y, .lst []]]]) ?_ ?_ ?_⟩
    · simp [lo]
    · refine List.forall_mem_append.mpr ⟨ho, ?_⟩
      simp only [List.forall_mem_cons]
      have hn1 := ns_lst sw (by omega)
      refine ⟨ns_tup sw (by omega), ?_, ?_, hdeep, ?_, ?_, ?_, by simp⟩
      · rcases hn1 with h | ⟨h1, h2, h3⟩
        · cases h
        · refine .inr ⟨?_, ?_, ?_⟩
          · rw [Smp, SmpL, SmpL]; exact ⟨h1, trivial⟩
          · have := dpL_le (c := 1) fun d hd => (sw d hd).2.1
            simp [dpD, dpL]; omega
          · have := szL_le (c := 255) fun d hd => (sw d hd).2.2
            simp [szD, szL]; omega
      all_goals (refine .inr ⟨?_, ?_, ?_⟩ <;> simp [Smp, SmpL, dpD, dpL, szD, szL, px, py, lx, ly, c1, c2, c3, d1, d2, d3])
    · simp [ew]
  rintro fl ρ ⟨rfl, x4, h⟩
  obtain ⟨odd, lo, ho, rfl⟩ := h.get
  dsimp only
  -- two with numbers for truths
  have cut3 : ∀ lo hi, ∃ us : List Ans, cutD (ws.map ansD) lo hi = us.map ansD ∧ GoodA us ∧ us.length ≤ 100 := fun lo hi => by
    obtain ⟨us, e, h1, h2⟩ := cutA ws lo hi
    exact ⟨us, e, fun a ha => hg a (h1 a ha), by omega⟩
  have smA : ∀ {us : List Ans}, GoodA us → ∀ d ∈ us.map ansD, Sm1 d := fun h d hd => by
    obtain ⟨a, ha, rfl⟩ := List.mem_map.mp hd
    exact sm1_ans (h a ha)
  have smI : ∀ {us : List Ans}, GoodA us → ∀ d ∈ us.map ansI, Sm1 d := fun h d hd => by
    obtain ⟨a, ha, rfl⟩ := List.mem_map.mp hd
    exact sm1_ansI (h a ha)
  rw [w_seq]
  apply wS_mono (QS := fun fl ρ => fl = .nx ∧ OddI b1 ws ns x y 24 x4 x5 ρ)
  · obtain ⟨u1, e1, g1, l1⟩ := cut3 none (some 1)
    obtain ⟨u2, e2, g2, l2⟩ := cut3 (some 1) (some 2)
    obtain ⟨u3, e3, g3, l3⟩ := cut3 (some 2) none
    simp [walkD, e1, e2, e3, lend, back, wipeR]
    refine comp_ints ?_
    have k1 := smA g1
    have k2 := smI g2
    have k3 := smA g3
    have m1 : (u1.map ansD).length ≤ 100 := by rw [List.length_map]; exact l1
    have m2 : (u2.map ansI).length ≤ 100 := by rw [List.length_map]; exact l2
    have m3 : (u3.map ansD).length ≤ 100 := by rw [List.length_map]; exact l3
    generalize u1.map ansD = v1 at k1 m1
    generalize u2.map ansI = v2 at k2 m2
    generalize u3.map ansD = v3 at k3 m3 e3
    simp [lo, e3]
    refine ⟨by omega, by omega, by omega, OddI.mk (odd := odd ++ [.lst (v1 ++ (v2 ++ v3))]) ?_ ?_ rfl⟩
    · simp [lo]
    · refine List.forall_mem_append.mpr ⟨ho, ?_⟩
      simp only [List.forall_mem_cons]
      refine ⟨ns_lst ?_ ?_, by simp⟩
      · exact List.forall_mem_append.mpr ⟨k1, List.forall_mem_append.mpr ⟨k2, k3⟩⟩
      · simp; omega
  rintro fl ρ ⟨rfl, h⟩
  obtain ⟨odd, lo, ho, rfl⟩ := h.get
  dsimp only
  rw [w_seq]
  apply wS_mono (QS := fun fl ρ => fl = .nx ∧ OddI b1 ws ns x y 25 x4 x5 ρ)
  · obtain ⟨u2, e2, g2, l2⟩ := cut3 none (some 1)
    obtain ⟨u3, e3, g3, l3⟩ := cut3 (some 1) none
    simp [walkD, e2, e3, lend, back, wipeR]
    refine comp_ints ?_
    have k2 := smI g2
    have k3 := smA g3
    have m2 : (u2.map ansI).length ≤ 100 := by rw [List.length_map]; exact l2
    have m3 : (u3.map ansD).length ≤ 100 := by rw [List.length_map]; exact l3
    generalize u2.map ansI = v2 at k2 m2
    generalize u3.map ansD = v3 at k3 m3 e3
    simp [lo, e3]
    refine ⟨by omega, by omega, OddI.mk (odd := odd ++ [.lst (v2 ++ v3)]) ?_ ?_ rfl⟩
    · simp [lo]
    · refine List.forall_mem_append.mpr ⟨ho, ?_⟩
      simp only [List.forall_mem_cons]
      refine ⟨ns_lst ?_ ?_, by simp⟩
      · exact List.forall_mem_append.mpr ⟨k2, k3⟩
      · simp; omega
  rintro fl ρ ⟨rfl, h⟩
  obtain ⟨odd, lo, ho, rfl⟩ := h.get
  dsimp only
  -- how it is put otherwise
  simp [nodupS]
  refine take_w hb1 (by decide) (by decide) fun way b2 w0 w1 hb2 => ?_
  simp [wb, nodupS, walkD]
  refine take_w hb2 (by omega) (by omega) fun at_ b3 a0 a1 hb3 => ?_
  have lwd : (ws.map ansD).length ≤ 100 := by rw [List.length_map]; exact hl
  have cutw : ∀ lo hi, ∃ v : List D, cutD (ws.map ansD) lo hi = v ∧ (∀ d ∈ v, Sm1 d) ∧ v.length ≤ 100 := fun lo hi => by
    obtain ⟨us, e, h1, h2⟩ := cut3 lo hi
    exact ⟨_, e, smA h1, by rw [List.length_map]; exact h2⟩
  simp [wb, ok_int, eqD_int]
  by_cases c0 : way < 2
  · simp [c0, nodupS]
    refine take_w hb3 (by decide) (by decide) fun t b4 t0 t1 hb4 => ?_
    have e : atI odd t = some (odd[t.toNat]'(by omega)) := by
      rw [atI_at t0, List.getElem?_eq_getElem (by omega)]
    simp [wb, e, outs]
    exact q _ b4 (ho _ (List.getElem_mem _)) hb4
  simp [c0]
  by_cases c2 : way = 2
  · simp [c2, walkD, outs]
    refine q _ b3 (ns_lst (fun d hd => sw d (by simpa using hd)) ?_) hb3
    simp; omega
  simp [c2]
  by_cases c3 : way = 3
  · obtain ⟨v1, e1, k1, m1⟩ := cutw none (some at_)
    obtain ⟨v2, e2, k2, m2⟩ := cutw (some at_) none
    simp [c3, walkD, e1, nodupS]
    refine take_w hb3 (by decide) (by decide) fun t b4 t0 t1 hb4 => ?_
    simp [wb, walkD, e2, outs, ok_int, eqD_int]
    refine ⟨by omega, by omega, q _ b4 (ns_lst ?_ ?_) hb4⟩
    · refine List.forall_mem_append.mpr ⟨k1, List.forall_mem_cons.mpr ⟨?_, k2⟩⟩
      exact sm1_ans (a := (x, y, decide (t = 0))) ⟨hx, hy⟩
    · simp; omega
  simp [c3]
  by_cases c4 : way = 4
  · obtain ⟨v1, e1, k1, m1⟩ := cutw none (some at_)
    obtain ⟨v2, e2, k2, m2⟩ := cutw (some (at_ + 1)) none
    simp [c4, walkD, e1, e2, outs]
    refine ⟨by omega, q _ b3 (ns_lst ?_ ?_) hb3⟩
    · exact List.forall_mem_append.mpr ⟨k1, k2⟩
    · simp; omega
  simp [c4]
  by_cases c5 : way = 5
  · obtain ⟨v1, e1, k1, m1⟩ := cutw none (some at_)
    have sw2 := sw
    simp [c5, walkD, e1, outs]
    refine ⟨by omega, q _ b3 (ns_lst ?_ ?_) hb3⟩
    · exact List.forall_mem_append.mpr ⟨sw2, k1⟩
    · simp; omega
  simp [c5]
  by_cases c6 : way = 6
  · obtain ⟨v1, e1, k1, m1⟩ := cutw none (some at_)
    obtain ⟨u2, e2, g2, l2⟩ := cut3 (some at_) (some (at_ + 1))
    obtain ⟨v3, e3, k3, m3⟩ := cutw (some (at_ + 1)) none
    simp [c6, walkD, e1, e2, lend, back, wipeR]
    refine comp_nots ?_
    have k2 : ∀ d ∈ (u2.map ansN).map ansD, Sm1 d := fun d hd => by
      rw [List.map_map] at hd
      obtain ⟨a, ha, rfl⟩ := List.mem_map.mp hd
      exact sm1_ans (a := ansN a) (g2 a ha)
    have m2 : ((u2.map ansN).map ansD).length ≤ 100 := by rw [List.length_map, List.length_map]; exact l2
    generalize (u2.map ansN).map ansD = v2 at k2 m2
    simp [walkD, e3, outs]
    refine ⟨by omega, by omega, by omega, q _ b3 (ns_lst ?_ ?_) hb3⟩
    · exact List.forall_mem_append.mpr ⟨k1, List.forall_mem_append.mpr ⟨k2, k3⟩⟩
    · simp; omega
  obtain ⟨v1, e1, k1, m1⟩ := cutw (some at_) none
  obtain ⟨v2, e2, k2, m2⟩ := cutw none (some at_)
  simp [c6, walkD, e1, e2, outs]
  refine ⟨by omega, q _ b3 (ns_lst ?_ ?_) hb3⟩
  · exact List.forall_mem_append.mpr ⟨k1, k2⟩
  · simp; omega
end VI

/-! Paths of answers, rings among them; dicts of numbers by pairs. -/
namespace VI
open PySem PySem.Spec PyProof.Rows L2
theorem nodup_len {α : Type} [DecidableEq α] : ∀ {l m : List α}, l.Nodup → (∀ x ∈ l, x ∈ m) → l.length ≤ m.length
  | [], m, _, _ => Nat.zero_le _
  | x :: l, m, h, hs => by
    rw [List.nodup_cons] at h
    have hx := hs x List.mem_cons_self
    have := nodup_len (l := l) (m := m.erase x) h.2 fun y hy => (List.mem_erase_of_ne (fun e => h.1 (by rw [← e]; exact hy))).mpr (hs y (List.mem_cons_of_mem _ hy))
    rw [List.length_erase_of_mem hx] at this
    have := List.length_pos_of_mem hx
    rw [List.length_cons]; omega
def Path (as : List Ans) : Str → List Ans → Str → Prop
  | x, [], y => x = y
  | x, a :: ws, y => a ∈ as ∧ (ansF a).1 = x ∧ Path as (ansF a).2 ws y
def stA (a : Ans) : Int := if a.2.2 = true then 1 else -1
def stW (ws : List Ans) : Int := (ws.map stA).sum
def poA (n : Nat) (a : Ans) : Int := if a.2.2 = true then (n : Int) + 2 else -((n : Int) + 1)
def poW (n : Nat) (ws : List Ans) : Int := (ws.map (poA n)).sum
theorem stW_cons (a : Ans) (ws : List Ans) : stW (a :: ws) = stA a + stW ws := rfl
theorem poW_cons (n : Nat) (a : Ans) (ws : List Ans) : poW n (a :: ws) = poA n a + poW n ws := rfl
theorem poW_app (n : Nat) (u v : List Ans) : poW n (u ++ v) = poW n u + poW n v := by unfold poW; rw [List.map_append, List.sum_append_int]
theorem stW_app (u v : List Ans) : stW (u ++ v) = stW u + stW v := by unfold stW; rw [List.map_append, List.sum_append_int]
theorem Path.app {as : List Ans} : ∀ {u v : List Ans} {x y z : Str}, Path as x u y → Path as y v z → Path as x (u ++ v) z
  | [], v, x, y, z, h1, h2 => by cases h1; exact h2
  | a :: u, v, x, y, z, h1, h2 => ⟨h1.1, h1.2.1, Path.app h1.2.2 h2⟩
theorem Path.split {as : List Ans} : ∀ {u v : List Ans} {x z : Str}, Path as x (u ++ v) z → ∃ y, Path as x u y ∧ Path as y v z
  | [], v, x, z, h => ⟨x, rfl, h⟩
  | a :: u, v, x, z, h => by
    obtain ⟨y, h1, h2⟩ := Path.split (u := u) h.2.2
    exact ⟨y, ⟨h.1, h.2.1, h1⟩, h2⟩
/-- steps and the great numbers of is_possible -/
theorem po_st (n : Nat) : ∀ ws : List Ans, 2 * poW n ws = (2 * n + 3) * stW ws + ws.length
  | [] => by simp [poW, stW]
  | a :: ws => by
    have ih := po_st n ws
    rw [poW_cons, stW_cons, List.length_cons, Int.mul_add, ih, Int.mul_add]
    unfold poA stA
    cases a.2.2 <;> simp <;> omega
theorem st_of_po {n : Nat} {ws : List Ans} (h : 0 < poW n ws) (hl : ws.length ≤ n) : 0 ≤ stW ws := by
  have e := po_st n ws
  rcases Int.lt_or_le (stW ws) 0 with hs | hs
  · have : (2 * (n : Int) + 3) * stW ws ≤ (2 * n + 3) * (-1) := Int.mul_le_mul_of_nonneg_left (by omega) (by omega)
    omega
  · exact hs
/-- the things from which a path goes -/
def froms (ws : List Ans) : List Str := ws.map fun a => (ansF a).1
theorem dup_split {ws : List Ans} (h : ¬ (froms ws).Nodup) : ∃ u a v b w, ws = u ++ a :: v ++ b :: w ∧ (ansF a).1 = (ansF b).1 := by
  induction ws with
  | nil => exact absurd List.nodup_nil h
  | cons c ws ih =>
    unfold froms at h ih
    rw [List.map_cons, List.nodup_cons] at h
    by_cases hc : (ansF c).1 ∈ ws.map fun a => (ansF a).1
    · obtain ⟨b, hb, e⟩ := List.mem_map.mp hc
      obtain ⟨v, w, rfl⟩ := List.append_of_mem hb
      exact ⟨[], c, v, b, w, rfl, e.symm⟩
    · obtain ⟨u, a, v, b, w, e, h2⟩ := ih fun hn => h ⟨hc, hn⟩
      exact ⟨c :: u, a, v, b, w, by rw [e]; rfl, h2⟩
theorem Path.from_mem {as : List Ans} {ms : List Str} (hin : ∀ a ∈ as, a.1 ∈ ms ∧ a.2.1 ∈ ms) : ∀ {ws : List Ans} {x y : Str}, Path as x ws y → ∀ z ∈ froms ws, z ∈ ms
  | [], _, _, _, z, hz => by cases hz
  | a :: ws, x, y, h, z, hz => by
    unfold froms at hz
    rw [List.map_cons, List.mem_cons] at hz
    rcases hz with rfl | hz
    · have := hin a h.1
      unfold ansF; split
      · exact this.1
      · exact this.2
    · exact Path.from_mem hin h.2.2 z hz
/-- a short ring with no steps back -/
theorem short_ring {as : List Ans} {ms : List Str} (hin : ∀ a ∈ as, a.1 ∈ ms ∧ a.2.1 ∈ ms) : ∀ {k : Nat} {ws : List Ans} {x : Str}, ws.length ≤ k → ws ≠ [] → Path as x ws x → 0 < poW ms.length ws →
    ∃ x' cs, cs ≠ [] ∧ Path as x' cs x' ∧ cs.length ≤ ms.length ∧ 0 ≤ stW cs ∧ 0 < poW ms.length cs
  | 0, ws, x, hk, hne, _, _ => absurd (List.length_eq_zero_iff.mp (by omega)) hne
  | k + 1, ws, x, hk, hne, hp, hpos => by
    by_cases hl : ws.length ≤ ms.length
    · exact ⟨x, ws, hne, hp, hl, st_of_po hpos hl, hpos⟩
    · have hd : ¬ (froms ws).Nodup := fun hn => hl (by
        have := nodup_len hn (hp.from_mem hin)
        unfold froms at this
        rwa [List.length_map] at this)
      obtain ⟨u, a, v, b, w, e, hab⟩ := dup_split hd
      subst e
      rw [List.append_assoc] at hp hpos hk
      obtain ⟨y, p1, p2⟩ := hp.split
      obtain ⟨z, p3, p4⟩ := p2.split
      have ey : (ansF a).1 = y := p3.2.1
      have ez : (ansF b).1 = z := p4.2.1
      have eyz : y = z := by rw [← ey, ← ez, hab]
      subst eyz
      rw [poW_app, poW_app] at hpos
      simp only [List.length_append, List.length_cons] at hk
      by_cases hv : 0 < poW ms.length (a :: v)
      · exact short_ring hin (k := k) (by simp only [List.length_cons]; omega) (by simp) p3 hv
      · exact short_ring hin (k := k) (ws := u ++ b :: w) (by simp only [List.length_append, List.length_cons]; omega) (by simp) (p1.app p4) (by rw [poW_app]; omega)
/-! ### dicts of numbers by pairs -/
abbrev KT := List (List Key × D)
abbrev k2 (x y : Str) : List Key := [.inr x, .inr y]
structure KOk (ms : List Str) (es : KT) : Prop where
  ent : ∀ e ∈ es, ∃ x y s, x ∈ ms ∧ y ∈ ms ∧ e = (k2 x y, .int s)
  nd : (es.map Prod.fst).Nodup
theorem k2_inj {x y x' y' : Str} : k2 x y = k2 x' y' ↔ x = x' ∧ y = y' := by unfold k2; simp
theorem KOk.len {ms : List Str} {es : KT} (h : KOk ms es) : es.length ≤ ms.length * ms.length := by
  have h1 : (es.map Prod.fst).length ≤ (ms.flatMap fun x => ms.map fun y => k2 x y).length := nodup_len h.nd fun k hk => by
    obtain ⟨e, he, rfl⟩ := List.mem_map.mp hk
    obtain ⟨x, y, s, hx, hy, rfl⟩ := h.ent e he
    exact List.mem_flatMap.mpr ⟨x, hx, List.mem_map.mpr ⟨y, hy, rfl⟩⟩
  rw [List.length_map] at h1
  exact Nat.le_trans h1 (flat_len fun x _ => by rw [List.length_map]; exact Nat.le_refl _)
theorem KOk.val {ms : List Str} {es : KT} (h : KOk ms es) (x y : Str) : valD es (k2 x y) = none ∨ ∃ s : Int, valD es (k2 x y) = some (.int s) ∧ x ∈ ms ∧ y ∈ ms := by
  unfold valD
  cases e : es.find? fun e => decide (e.1 = k2 x y) with
  | none => exact .inl rfl
  | some f =>
    have h1 := List.mem_of_find?_eq_some e
    have h2 := List.find?_some e
    obtain ⟨x', y', s, hx, hy, rfl⟩ := h.ent f h1
    simp only [decide_eq_true_eq, k2_inj] at h2
    obtain ⟨rfl, rfl⟩ := h2
    exact .inr ⟨s, rfl, hx, hy⟩
theorem val_put {es : KT} (k k' : List Key) (d : D) : valD (putD es k d) k' = if k' = k then some d else valD es k' := by
  unfold putD
  split
  · rename_i h
    induction es with
    | nil => simp at h
    | cons e es ih =>
      unfold valD at ih ⊢
      rw [List.map_cons, List.find?_cons, List.find?_cons]
      by_cases he : e.1 = k
      · rw [if_pos he]
        by_cases hk : k' = k
        · subst hk; simp [he]
        · have hne : ¬ e.1 = k' := fun q => hk (by rw [← q, he])
          have hne2 : ¬ k = k' := fun q => hk q.symm
          simp only [he, hne2, decide_false, hk, if_false]
          clear ih h
          have : ∀ l : KT, ((l.map fun e => if e.1 = k then (e.1, d) else e).find? fun e => decide (e.1 = k')).map (·.2) = (l.find? fun e => decide (e.1 = k')).map (·.2) := by
            intro l
            induction l with
            | nil => rfl
            | cons f l ih =>
              rw [List.map_cons, List.find?_cons, List.find?_cons]
              by_cases hf : f.1 = k
              · simp only [hf, if_true, hne2, decide_false]; exact ih
              · rw [if_neg hf]
                by_cases hf2 : f.1 = k'
                · simp [hf2]
                · simp only [hf2, decide_false]; exact ih
          exact this es
      · rw [if_neg he]
        have h' : (es.any fun e => decide (e.1 = k)) = true := by
          rw [List.any_cons] at h
          simpa [he] using h
        by_cases hk : e.1 = k'
        · have : ¬ k' = k := fun q => he (by rw [hk, q])
          simp [hk, this]
        · simp only [hk, decide_false]
          exact ih h'
  · rename_i h
    unfold valD
    rw [List.find?_append]
    by_cases hk : k' = k
    · subst hk
      have : es.find? (fun e => decide (e.1 = k')) = none := by
        rw [List.find?_eq_none]
        intro e he hq
        exact h (List.any_eq_true.mpr ⟨e, he, hq⟩)
      simp [this]
    · have hne : ¬ k = k' := fun q => hk q.symm
      simp [hk, hne]
theorem put_keys {es : KT} (k : List Key) (d : D) : (k ∈ es.map Prod.fst ∧ (putD es k d).map Prod.fst = es.map Prod.fst) ∨ (k ∉ es.map Prod.fst ∧ (putD es k d).map Prod.fst = es.map Prod.fst ++ [k]) := by
  unfold putD
  by_cases h : (es.any fun e => decide (e.1 = k)) = true
  · have hm : k ∈ es.map Prod.fst := by
      obtain ⟨e, he, q⟩ := List.any_eq_true.mp h
      exact List.mem_map.mpr ⟨e, he, of_decide_eq_true q⟩
    refine .inl ⟨hm, ?_⟩
    rw [if_pos h, List.map_map]
    refine List.map_congr_left fun e he => ?_
    simp only [Function.comp]
    split <;> rfl
  · have hm : k ∉ es.map Prod.fst := fun q => by
      obtain ⟨e, he, q⟩ := List.mem_map.mp q
      exact h (List.any_eq_true.mpr ⟨e, he, decide_eq_true q⟩)
    refine .inr ⟨hm, ?_⟩
    rw [if_neg h, List.map_append]; rfl
theorem KOk.put {ms : List Str} {es : KT} (h : KOk ms es) {x y : Str} {s : Int} (hx : x ∈ ms) (hy : y ∈ ms) : KOk ms (putD es (k2 x y) (.int s)) := by
  refine ⟨?_, ?_⟩
  · intro e he
    unfold putD at he
    split at he
    · obtain ⟨f, hf, rfl⟩ := List.mem_map.mp he
      obtain ⟨x', y', s', hx', hy', rfl⟩ := h.ent f hf
      split
      · exact ⟨x', y', s, hx', hy', rfl⟩
      · exact ⟨x', y', s', hx', hy', rfl⟩
    · rcases List.mem_append.mp he with g | g
      · exact h.ent e g
      · simp at g; subst g; exact ⟨x, y, s, hx, hy, rfl⟩
  · rcases put_keys (es := es) (k2 x y) (.int s) with ⟨hn, e⟩ | ⟨hn, e⟩
    · rw [e]; exact h.nd
    · rw [e]
      refine List.nodup_append.mpr ⟨h.nd, by simp, ?_⟩
      intro a ha b hb
      simp at hb; subst hb
      exact fun e => hn (by rw [← e]; exact ha)
theorem KOk.nil (ms : List Str) : KOk ms [] := ⟨by simp, by simp⟩
end VI

/-! is_possible. -/
namespace VI
open PySem PySem.Spec PyProof.Rows L2
@[simp] theorem e_max2 (i j : Int) : gMaxA [.int i, .int j] = some ⟨.fz, .int (if j > i then j else i)⟩ := rfl
theorem intsOf_map {β : Type} (f : β → Int) : ∀ xs : List β, intsOf (xs.map fun x => D.int (f x)) = some (xs.map f)
  | [] => rfl
  | x :: xs => by simp only [List.map_cons, intsOf, intsOf_map f xs]; rfl
theorem e_maxL {β : Type} (f : β → Int) {xs : List β} (h : xs ≠ []) : gMaxA [.lst (xs.map fun x => D.int (f x))] = some ⟨.fz, .int (maxI (xs.map f))⟩ := by
  show orN gMax2 gMaxL _ = _
  unfold orN gMax2 gMaxL
  simp only [intsOf_map]
  cases xs with
  | nil => exact absurd rfl h
  | cons x xs => rfl
def fieldsB (ms : List Str) (ps : List Ans) : List (Str × D) := [("its_things", .tup (ms.map D.str)), ("its_truths", .dT (truD ps)), ("its_answers", .tup (ps.map ansD))]
theorem bookD_eq (ms : List Str) (ps : List Ans) : bookD ms ps = .ins "Book" (fieldsB ms ps) := rfl
theorem lkB1 (ms : List Str) (ps : List Ans) : (fieldsB ms ps).lookup (Str.ofString "things") = none := by
  have h1 : (Str.ofString "things" == Str.ofString "its_things") = false := by decide +kernel
  have h2 : (Str.ofString "things" == Str.ofString "its_truths") = false := by decide +kernel
  have h3 : (Str.ofString "things" == Str.ofString "its_answers") = false := by decide +kernel
  unfold fieldsB
  simp only [List.lookup, h1, h2, h3]
theorem lkB2 (ms : List Str) (ps : List Ans) : (fieldsB ms ps).lookup (Str.ofString "answers") = none := by
  have h1 : (Str.ofString "answers" == Str.ofString "its_things") = false := by decide +kernel
  have h2 : (Str.ofString "answers" == Str.ofString "its_truths") = false := by decide +kernel
  have h3 : (Str.ofString "answers" == Str.ofString "its_answers") = false := by decide +kernel
  unfold fieldsB
  simp only [List.lookup, h1, h2, h3]
theorem lkB3 (ms : List Str) (ps : List Ans) : (fieldsB ms ps).lookup (Str.ofString "its_things") = some (.tup (ms.map D.str)) := by
  unfold fieldsB
  simp [List.lookup]
theorem lkB4 (ms : List Str) (ps : List Ans) : (fieldsB ms ps).lookup (Str.ofString "its_answers") = some (.tup (ps.map ansD)) := by
  have h1 : (Str.ofString "its_answers" == Str.ofString "its_things") = false := by decide +kernel
  have h2 : (Str.ofString "its_answers" == Str.ofString "its_truths") = false := by decide +kernel
  unfold fieldsB
  simp [List.lookup, h1, h2]
theorem things_w {m : Md} {ms : List Str} {ps : List Ans} {Q : Sl → List Sl → Prop} (q : Q ⟨.own, namesD ms⟩ [⟨m, bookD ms ps⟩]) : wM m_Book_things [⟨m, .ins "Book" (fieldsB ms ps)⟩] Q := by
  rw [m_Book_things, w_fn, b_Book_things]
  simp only [List.map_cons, List.map_nil, List.cons_append, List.nil_append, List.replicate_succ, List.replicate_zero]
  simp [lkB3, outs]
  cases m <;> exact q
theorem answers_w {m : Md} {ms : List Str} {ps : List Ans} {Q : Sl → List Sl → Prop} (q : Q ⟨.own, .lst (ps.map ansD)⟩ [⟨m, bookD ms ps⟩]) : wM m_Book_answers [⟨m, .ins "Book" (fieldsB ms ps)⟩] Q := by
  rw [m_Book_answers, w_fn, b_Book_answers]
  simp only [List.map_cons, List.map_nil, List.cons_append, List.nil_append, List.replicate_succ, List.replicate_zero]
  simp [lkB4, outs]
  cases m <;> exact q
theorem step_of_w {a : Ans} {Q : Sl → List Sl → Prop} (q : Q ⟨.fz, .int (stA a)⟩ [⟨.fz, ansD a⟩]) : wM m_step_of [⟨.fz, ansD a⟩] Q := by
  rw [m_step_of, w_fn, b_step_of]
  simp only [List.map_cons, List.map_nil, List.cons_append, List.nil_append, List.replicate_succ, List.replicate_zero]
  obtain ⟨x, y, t⟩ := a
  cases t with
  | true => simp [ansD, outs]; exact q
  | false => simp [ansD, outs]; exact q
/-! ### is_possible -/
/-- each number is the weight of a path -/
structure KnOk (n : Nat) (ms : List Str) (ps : List Ans) (es : KT) : Prop extends KOk ms es where
  path : ∀ x y s, valD es (k2 x y) = some (.int s) → ∃ ws, Path ps x ws y ∧ s = poW n ws
def HasD (ms : List Str) (es : KT) : Prop := ∀ t ∈ ms, ∃ s : Int, valD es (k2 t t) = some (.int s)
theorem KnOk.putw {n : Nat} {ms : List Str} {ps : List Ans} {es : KT} (h : KnOk n ms ps es) {x y : Str} {s : Int} (hx : x ∈ ms) (hy : y ∈ ms) (hp : ∃ ws, Path ps x ws y ∧ s = poW n ws) : KnOk n ms ps (putD es (k2 x y) (.int s)) := by
  refine ⟨h.toKOk.put hx hy, ?_⟩
  intro x' y' s' hv
  rw [val_put] at hv
  split at hv
  · rename_i e
    obtain ⟨rfl, rfl⟩ := k2_inj.mp e
    cases hv
    exact hp
  · exact h.path _ _ _ hv
theorem HasD.put {ms : List Str} {es : KT} (h : HasD ms es) {x y : Str} {s : Int} : HasD ms (putD es (k2 x y) (.int s)) := by
  intro t ht
  rw [val_put]
  split
  · exact ⟨s, rfl⟩
  · exact h t ht
/-- the greater of what is known and a new weight -/
theorem KnOk.putmax {n : Nat} {ms : List Str} {ps : List Ans} {es : KT} (h : KnOk n ms ps es) {x y : Str} {s r : Int} (hx : x ∈ ms) (hy : y ∈ ms) (hp : ∃ ws, Path ps x ws y ∧ s = poW n ws)
    (hr : valD es (k2 x y) = none ∧ r = s ∨ valD es (k2 x y) = some (.int r)) : KnOk n ms ps (putD es (k2 x y) (.int (if r > s then r else s))) := by
  refine h.putw hx hy ?_
  split
  · rcases hr with ⟨_, rfl⟩ | hr
    · exact hp
    · exact h.path _ _ _ hr
  · exact hp
def valI (es : KT) (x y : Str) : Int := match valD es (k2 x y) with
  | some (.int s) => s
  | _ => 0
theorem valI_eq {es : KT} {x y : Str} {s : Int} (h : valD es (k2 x y) = some (.int s)) : valI es x y = s := by unfold valI; rw [h]
theorem HasD.val {ms : List Str} {es : KT} (h : HasD ms es) {t : Str} (ht : t ∈ ms) : valD es (k2 t t) = some (.int (valI es t t)) := by
  obtain ⟨s, hs⟩ := h t ht
  rw [valI_eq hs]; exact hs
theorem ansF_in {ms : List Str} {a : Ans} (h : a.1 ∈ ms ∧ a.2.1 ∈ ms) : (ansF a).1 ∈ ms ∧ (ansF a).2 ∈ ms := by
  unfold ansF; split
  · exact h
  · exact ⟨h.2, h.1⟩
theorem is_possible_p {ms : List Str} {ps : List Ans} (hin : ∀ a ∈ ps, a.1 ∈ ms ∧ a.2.1 ∈ ms) (hz : ms.length ≤ 6) {Q : Sl → List Sl → Prop}
    (q : ∀ b, (b = false → ∃ x ws, ws ≠ [] ∧ Path ps x ws x ∧ 0 < poW ms.length ws) → Q ⟨.fz, .bl b⟩ [⟨.par, bookD ms ps⟩]) : wM m_is_possible [⟨.par, bookD ms ps⟩] Q := by
  rw [m_is_possible, w_fn, b_is_possible]
  simp only [List.map_cons, List.map_nil, List.cons_append, List.nil_append, List.replicate_succ, List.replicate_zero]
  have hlen : ∀ {es : KT}, KOk ms es → es.length < 16777216 := fun h => by
    have h1 := h.len
    have h2 : ms.length * ms.length ≤ 6 * 6 := Nat.mul_le_mul hz hz
    omega
  rw [w_seq]
  refine wS_mono (QS := fun fl ρ => fl = .nx ∧ ρ = [some ⟨.par, bookD ms ps⟩, none, none, none, some ⟨.own, namesD ms⟩, some ⟨.fz, .int (ms.length + 1)⟩, none, none, none, none]) ?_ ?_
  · simp [bookD_eq, lkB1, nodupS]
    refine things_w ?_
    simp [wb, bookD_eq, lkB1, nodupS]
    refine things_w ?_
    simp [wb, bookD_eq, namesD]
  rintro fl ρ ⟨rfl, rfl⟩
  dsimp only
  rw [w_seq]
  refine wS_mono (QS := fun fl ρ => fl = .nx ∧ ∃ es, KnOk ms.length ms ps es ∧ HasD ms es ∧ ρ = [some ⟨.par, bookD ms ps⟩, some ⟨.own, .dT es⟩, none, none, some ⟨.own, namesD ms⟩, some ⟨.fz, .int (ms.length + 1)⟩, none, none, none, none]) ?_ ?_
  · simp [namesD, lend, back, wipeR]
    refine w_compDY D.str (fun pre acc ρ => ∃ es, acc = .dT es ∧ KnOk ms.length ms ps es ∧ (∀ t ∈ pre, ∃ s : Int, valD es (k2 t t) = some (.int s)) ∧ ρ = [some ⟨.par, bookD ms ps⟩, none, none, none, some ⟨.lent, namesD ms⟩, some ⟨.fz, .int (ms.length + 1)⟩, none, none, none, none]) (xs := ms) ?_ ?_ (pre := []) rfl ⟨[], rfl, ⟨KOk.nil ms, fun x y s h => by simp [valD] at h⟩, by simp, rfl⟩
    · rintro pre t post acc ρ hx ⟨es, rfl, h1, h2, rfl⟩
      have ht : t ∈ ms := by rw [hx]; simp
      have := hlen h1.toKOk
      simp [wipeR, this]
      refine ⟨h1.putw ht ht ⟨[], rfl, rfl⟩, ?_⟩
      intro u hu
      rw [val_put]
      split
      · exact ⟨0, rfl⟩
      · rename_i hne
        rcases hu with hu | rfl
        · exact h2 u hu
        · exact absurd rfl hne
    · rintro acc ρ ⟨es, rfl, h1, h2, rfl⟩
      simp [namesD]
      exact ⟨h1, h2⟩
  rintro fl ρ ⟨rfl, es0, k0, d0, rfl⟩
  dsimp only
  rw [w_seq]
  refine wS_mono (QS := fun fl ρ => fl = .nx ∧ ∃ es x2 x6, KnOk ms.length ms ps es ∧ HasD ms es ∧ frx x6 = true ∧ ρ = [some ⟨.par, bookD ms ps⟩, some ⟨.own, .dT es⟩, x2, none, some ⟨.own, namesD ms⟩, some ⟨.fz, .int (ms.length + 1)⟩, x6, none, none, none]) ?_ ?_
  · simp [bookD_eq, lkB2, nodupS]
    refine answers_w ?_
    simp [wb, lend, back]
    refine w_loopX ansD (fun _ ρ => ∃ es x2 x6, KnOk ms.length ms ps es ∧ HasD ms es ∧ frx x2 = true ∧ frx x6 = true ∧ ρ = [some ⟨.par, bookD ms ps⟩, some ⟨.own, .dT es⟩, x2, none, some ⟨.own, namesD ms⟩, some ⟨.fz, .int (ms.length + 1)⟩, x6, none, none, none]) ⟨es0, none, none, k0, d0, rfl, rfl, rfl⟩ ?_ ?_
    · rintro pre a ρ ha _ ⟨es, x2, x6, h1, h2, f2, f6, rfl⟩
      have hi := ansF_in (hin a ha)
      have hl := hlen h1.toKOk
      have hp : ∃ ws, Path ps (ansF a).1 ws (ansF a).2 ∧ poA ms.length a = poW ms.length ws := ⟨[a], ⟨ha, rfl, rfl⟩, by simp [poW]⟩
      have est : ∀ {QS : Sl → Rho → Prop} {ρ : Rho}, ρ = [some ⟨.par, bookD ms ps⟩, some ⟨.own, .dT es⟩, some ⟨.fz, ansD a⟩, none, some ⟨.own, namesD ms⟩, some ⟨.fz, .int (ms.length + 1)⟩, x6, none, none, none] → QS ⟨.fz, .int (poA ms.length a)⟩ ρ → wE (fIf (fT (fOp2 gSubD (.sl 2) (.ex (fC (.int 2))))) (fOp2 gAddA (.sl 5) (.ex (fC (.int 1)))) (fOp1 gNeg (.sl 5))) ρ QS := by
        rintro QS ρ rfl hq
        obtain ⟨x, y, t⟩ := a
        cases t with
        | true =>
          have e : poA ms.length (x, y, true) = (ms.length : Int) + 1 + 1 := by simp [poA]; omega
          rw [e] at hq
          simp [ansD]; exact hq
        | false =>
          have e : poA ms.length (x, y, false) = -((ms.length : Int) + 1) := by simp [poA]
          rw [e] at hq
          simp [ansD]; exact hq
      have fin : ∀ {r : Int}, (valD es (k2 (ansF a).1 (ansF a).2) = none ∧ r = poA ms.length a ∨ valD es (k2 (ansF a).1 (ansF a).2) = some (.int r)) → KnOk ms.length ms ps (putD es (k2 (ansF a).1 (ansF a).2) (.int (if r > poA ms.length a then r else poA ms.length a))) := fun h => h1.putmax hi.1 hi.2 hp h
      rw [e_bindN]
      simp only [fr_z, fr_s, f2, if_true, wg_some, List.set_cons_succ, List.set_cons_zero]
      rw [w_seq, w_asg]
      refine est rfl ?_
      generalize poA ms.length a = po at fin
      simp [f6, nodupS]
      refine ends_of_w ?_
      rcases h1.toKOk.val (ansF a).1 (ansF a).2 with hv | ⟨r, hv, -, -⟩
      · have hf := fin (r := po) (.inl ⟨hv, rfl⟩)
        simp [wb, pairD, hv, nodupS]
        refine ends_of_w ?_
        simp [wb, pairD, hl]
        rw [if_neg (by omega)] at hf
        exact ⟨_, hf, h2.put, _, rfl, _, rfl, rfl, rfl, rfl⟩
      · have hf := fin (r := r) (.inr hv)
        simp [wb, pairD, hv, nodupS]
        refine ends_of_w ?_
        simp [wb, pairD, hl]
        exact ⟨_, hf, h2.put, _, rfl, _, rfl, rfl, rfl, rfl⟩
    · rintro ρ ⟨es, x2, x6, h1, h2, f2, f6, rfl⟩
      exact ⟨rfl, es, x2, x6, h1, h2, f6, rfl⟩
  rintro fl ρ ⟨rfl, es1, x2, x6, k1, d1, f6, rfl⟩
  dsimp only
  obtain ⟨I, hI⟩ : ∃ I : Md → Rho → Prop, ∀ mt ρ, I mt ρ ↔ ∃ es x3 x6 x7 x8, KnOk ms.length ms ps es ∧ HasD ms es ∧ frx x3 = true ∧ frx x6 = true ∧ frx x7 = true ∧ frx x8 = true ∧
      ρ = [some ⟨.par, bookD ms ps⟩, some ⟨.own, .dT es⟩, x2, x3, some ⟨mt, namesD ms⟩, some ⟨.fz, .int (ms.length + 1)⟩, x6, x7, x8, none] := ⟨_, fun _ _ => Iff.rfl⟩
  -- one turn of the three loops
  have turn : ∀ (mid here there : Str) {es : KT} {x6 : Option Sl}, mid ∈ ms → here ∈ ms → there ∈ ms → KnOk ms.length ms ps es → HasD ms es → frx x6 = true →
      wS (fIfS (fAnd (fT (fOp2 gInA (.ex (fDisp gTup [(fName 7), (fName 3)])) (.sl 1))) (fT (fOp2 gInA (.ex (fDisp gTup [(fName 3), (fName 8)])) (.sl 1)))) (fSeq (fAsg 6 (fOp2 gAddA (.ex (fOp2 gSubD (.sl 1) (.ex (fDisp gTup [(fName 7), (fName 3)])))) (.ex (fOp2 gSubD (.sl 1) (.ex (fDisp gTup [(fName 3), (fName 8)]))))))
        (fSet 1 gSetA (fDisp gTup [(fName 7), (fName 8)]) (fOpN gMaxA [(.sl 6), (.ex (fGet2 (.sl 1) (.ex (fDisp gTup [(fName 7), (fName 8)])) (fName 6)))]))) fNext)
        [some ⟨.par, bookD ms ps⟩, some ⟨.own, .dT es⟩, x2, some ⟨.fz, .str mid⟩, some ⟨.lent, namesD ms⟩, some ⟨.fz, .int (ms.length + 1)⟩, x6, some ⟨.fz, .str here⟩, some ⟨.fz, .str there⟩, none]
        fun fl ρ => fl = .nx ∧ ∃ es x6, KnOk ms.length ms ps es ∧ HasD ms es ∧ frx x6 = true ∧
          ρ = [some ⟨.par, bookD ms ps⟩, some ⟨.own, .dT es⟩, x2, some ⟨.fz, .str mid⟩, some ⟨.lent, namesD ms⟩, some ⟨.fz, .int (ms.length + 1)⟩, x6, some ⟨.fz, .str here⟩, some ⟨.fz, .str there⟩, none] := by
    intro mid here there es x6 hmid hhere hthere h1 h2 f6
    have hl := hlen h1.toKOk
    rcases h1.toKOk.val here mid with hv | ⟨r, hv, -, -⟩
    · simp [hv]
      exact ⟨_, h1, h2, f6, rfl⟩
    rcases h1.toKOk.val mid there with hv2 | ⟨r2, hv2, -, -⟩
    · simp [hv, hv2]
      exact ⟨_, h1, h2, f6, rfl⟩
    have hp : ∃ ws, Path ps here ws there ∧ r + r2 = poW ms.length ws := by
      obtain ⟨u, p1, rfl⟩ := h1.path _ _ _ hv
      obtain ⟨v, p2, rfl⟩ := h1.path _ _ _ hv2
      exact ⟨u ++ v, p1.app p2, by rw [poW_app]⟩
    have fin : ∀ {t : Int}, (valD es (k2 here there) = none ∧ t = r + r2 ∨ valD es (k2 here there) = some (.int t)) → KnOk ms.length ms ps (putD es (k2 here there) (.int (if t > r + r2 then t else r + r2))) := fun h => h1.putmax hhere hthere hp h
    rcases h1.toKOk.val here there with hv3 | ⟨t, hv3, -, -⟩
    · have hf := fin (t := r + r2) (.inl ⟨hv3, rfl⟩)
      rw [if_neg (by omega)] at hf
      simp [hv, hv2, hv3, f6, hl]
      exact ⟨hf, h2.put⟩
    · have hf := fin (t := t) (.inr hv3)
      simp [hv, hv2, hv3, f6, hl]
      exact ⟨hf, h2.put⟩
  -- the two inner loops
  have loops : ∀ (mid : Str) {es : KT} {x6 x7 x8 : Option Sl}, mid ∈ ms → KnOk ms.length ms ps es → HasD ms es → frx x6 = true → frx x7 = true → frx x8 = true →
      wS (fFor itemsA (.sl 4) (bindN 7) (fFor itemsA (.sl 4) (bindN 8) (fIfS (fAnd (fT (fOp2 gInA (.ex (fDisp gTup [(fName 7), (fName 3)])) (.sl 1))) (fT (fOp2 gInA (.ex (fDisp gTup [(fName 3), (fName 8)])) (.sl 1)))) (fSeq (fAsg 6 (fOp2 gAddA (.ex (fOp2 gSubD (.sl 1) (.ex (fDisp gTup [(fName 7), (fName 3)])))) (.ex (fOp2 gSubD (.sl 1) (.ex (fDisp gTup [(fName 3), (fName 8)]))))))
        (fSet 1 gSetA (fDisp gTup [(fName 7), (fName 8)]) (fOpN gMaxA [(.sl 6), (.ex (fGet2 (.sl 1) (.ex (fDisp gTup [(fName 7), (fName 8)])) (fName 6)))]))) fNext)))
        [some ⟨.par, bookD ms ps⟩, some ⟨.own, .dT es⟩, x2, some ⟨.fz, .str mid⟩, some ⟨.lent, namesD ms⟩, some ⟨.fz, .int (ms.length + 1)⟩, x6, x7, x8, none]
        fun fl ρ => fl = .nx ∧ ∃ es x6 x7 x8, KnOk ms.length ms ps es ∧ HasD ms es ∧ frx x6 = true ∧ frx x7 = true ∧ frx x8 = true ∧
          ρ = [some ⟨.par, bookD ms ps⟩, some ⟨.own, .dT es⟩, x2, some ⟨.fz, .str mid⟩, some ⟨.lent, namesD ms⟩, some ⟨.fz, .int (ms.length + 1)⟩, x6, x7, x8, none] := by
    intro mid es x6 x7 x8 hmid h1 h2 f6 f7 f8
    simp [namesD, lend, back]
    refine w_loopX D.str (fun _ ρ => ∃ es x6 x7 x8, KnOk ms.length ms ps es ∧ HasD ms es ∧ frx x6 = true ∧ frx x7 = true ∧ frx x8 = true ∧ ρ = [some ⟨.par, bookD ms ps⟩, some ⟨.own, .dT es⟩, x2, some ⟨.fz, .str mid⟩, some ⟨.lent, namesD ms⟩, some ⟨.fz, .int (ms.length + 1)⟩, x6, x7, x8, none]) ⟨es, x6, x7, x8, h1, h2, f6, f7, f8, rfl⟩ ?_ ?_
    · rintro pre here ρ hhere _ ⟨es, x6, x7, x8, h1, h2, f6, f7, f8, rfl⟩
      simp [namesD, lend, back, f7, -w_ifS_i]
      refine w_loopX D.str (fun _ ρ => ∃ es x6 x8, KnOk ms.length ms ps es ∧ HasD ms es ∧ frx x6 = true ∧ frx x8 = true ∧ ρ = [some ⟨.par, bookD ms ps⟩, some ⟨.own, .dT es⟩, x2, some ⟨.fz, .str mid⟩, some ⟨.lent, namesD ms⟩, some ⟨.fz, .int (ms.length + 1)⟩, x6, some ⟨.fz, .str here⟩, x8, none]) ⟨es, x6, x8, h1, h2, f6, f8, rfl⟩ ?_ ?_
      · rintro pre there ρ hthere _ ⟨es, x6, x8, h1, h2, f6, f8, rfl⟩
        simp only [e_bindN, fr_z, fr_s, f8, if_true, wg_some, List.set_cons_succ, List.set_cons_zero]
        refine wS_mono (turn mid here there hmid hhere hthere h1 h2 f6) ?_
        rintro fl ρ ⟨rfl, es, x6, h1, h2, f6, rfl⟩
        exact ⟨es, x6, _, h1, h2, f6, rfl, rfl⟩
      · rintro ρ ⟨es, x6, x8, h1, h2, f6, f8, rfl⟩
        exact ⟨es, x6, _, x8, h1, h2, f6, rfl, f8, rfl⟩
    · rintro ρ ⟨es, x6, x7, x8, h1, h2, f6, f7, f8, rfl⟩
      exact ⟨rfl, es, x6, x7, x8, h1, h2, f6, f7, f8, rfl⟩
  rw [w_seq, w_for, w_sl]
  simp only [at_z, at_s]
  rw [w_look]
  simp only [at_z, at_s]
  have e4 : itemsA (namesD ms) = some (ms.map D.str) := rfl
  rw [e4, wg_some]
  simp only [lend, List.getElem?_cons_succ, List.getElem?_cons_zero, List.set_cons_succ, List.set_cons_zero]
  refine w_loopX D.str (fun _ ρ => I .lent ρ) ((hI _ _).mpr ⟨es1, _, x6, _, _, k1, d1, rfl, f6, rfl, rfl, rfl⟩) ?_ ?_
  · intro pre mid ρ hmid _ h
    obtain ⟨es, x3, x6, x7, x8, h1, h2, f3, f6, f7, f8, rfl⟩ := (hI _ _).mp h
    simp only [e_bindN, fr_z, fr_s, f3, if_true, wg_some, List.set_cons_succ, List.set_cons_zero]
    rw [w_seq]
    refine wS_mono (loops mid hmid h1 h2 f6 f7 f8) ?_
    rintro fl ρ ⟨rfl, es, x6, x7, x8, h1, h2, f6, f7, f8, rfl⟩
    dsimp only
    simp [namesD, lend, back, wipeR]
    refine w_compP D.str (fun _ => true) (fun t => .int (valI es t t)) ?_ ?_
    · intro t ht
      have hv := h2.val ht
      simp [hv, wipeR]
    · have ef : (ms.filter fun _ => true) = ms := List.filter_eq_self.mpr (by simp)
      rw [ef]
      have ne : ms ≠ [] := List.ne_nil_of_mem hmid
      have em := e_maxL (fun t => valI es t t) ne
      have lm : (ms.map fun t => D.int (valI es t t)).length ≤ 16777216 := by rw [List.length_map]; omega
      generalize (ms.map fun t => D.int (valI es t t)) = md at em lm
      by_cases hp : 0 < maxI (ms.map fun t => valI es t t)
      · simp [em, hp, back, outs]
        refine ⟨lm, q false fun _ => ?_⟩
        have hmem := maxI_mem (xs := ms.map fun t => valI es t t) (by simpa using ne)
        obtain ⟨t, ht, e⟩ := List.mem_map.mp hmem
        obtain ⟨ws, pw, ew⟩ := h1.path _ _ _ (h2.val ht)
        rw [← e, ew] at hp
        refine ⟨t, ws, ?_, pw, hp⟩
        rintro rfl
        simp [poW] at hp
      · simp [em, hp, back]
        exact ⟨lm, (hI _ _).mpr ⟨es, _, x6, x7, x8, h1, h2, rfl, f6, f7, f8, rfl⟩⟩
  · intro ρ h
    obtain ⟨es, x3, x6, x7, x8, h1, h2, f3, f6, f7, f8, rfl⟩ := (hI _ _).mp h
    simp [back, outs]
    exact q true fun h => by cases h
end VI

/-! ring_of. -/
namespace VI
open PySem PySem.Spec PyProof.Rows L2
@[simp ↓] theorem w_brk_i {ρ : Rho} {QS : Fl → Rho → Prop} : wSi (fun ρ => some (.bk, ρ)) ρ (Q := ⟨QS⟩) ↔ QS .bk ρ := Iff.rfl
/-- one answer more -/
structure LRel (ms : List Str) (ps : List Ans) (lv fd : KT) : Prop where
  up : ∀ a ∈ ps, ∀ y ∈ ms, ∀ s' : Int, valD lv (k2 (ansF a).2 y) = some (.int s') → ∃ s : Int, valD fd (k2 (ansF a).1 y) = some (.int s) ∧ stA a + s' ≤ s
  got : ∀ x y d, valD fd (k2 x y) = some d → ∃ a ∈ ps, ∃ s' : Int, (ansF a).1 = x ∧ valD lv (k2 (ansF a).2 y) = some (.int s') ∧ d = .int (stA a + s')
def AInv (lv : KT) (P : Ans → Str → Prop) (fd : KT) : Prop := ∀ a y, P a y → ∀ s' : Int, valD lv (k2 (ansF a).2 y) = some (.int s') → ∃ s : Int, valD fd (k2 (ansF a).1 y) = some (.int s) ∧ stA a + s' ≤ s
def BInv (ps : List Ans) (lv fd : KT) : Prop := ∀ x y d, valD fd (k2 x y) = some d → ∃ a ∈ ps, ∃ s' : Int, (ansF a).1 = x ∧ valD lv (k2 (ansF a).2 y) = some (.int s') ∧ d = .int (stA a + s')
theorem put_up {fd : KT} {k k' : List Key} {v s : Int} (h : ∀ r : Int, valD fd k = some (.int r) → r ≤ v) (hs : valD fd k' = some (.int s)) : ∃ s1 : Int, valD (putD fd k (.int v)) k' = some (.int s1) ∧ s ≤ s1 := by
  rw [val_put]
  split
  · rename_i e
    subst e
    exact ⟨v, rfl, h s hs⟩
  · exact ⟨s, hs, Int.le_refl s⟩
theorem AInv.put {lv fd : KT} {P : Ans → Str → Prop} (h : AInv lv P fd) {k : List Key} {v : Int} (hv : ∀ r : Int, valD fd k = some (.int r) → r ≤ v) : AInv lv P (putD fd k (.int v)) := by
  intro a y hp s' hs
  obtain ⟨s, h1, h2⟩ := h a y hp s' hs
  obtain ⟨s1, h3, h4⟩ := put_up hv h1
  exact ⟨s1, h3, by omega⟩
theorem one_more_w {ms : List Str} {ps : List Ans} {lv : KT} (hin : ∀ a ∈ ps, a.1 ∈ ms ∧ a.2.1 ∈ ms) (hz : ms.length ≤ 6) (hk : KOk ms lv) {Q : Sl → List Sl → Prop}
    (q : ∀ fd, KOk ms fd → LRel ms ps lv fd → Q ⟨.own, .dT fd⟩ [⟨.par, bookD ms ps⟩, ⟨.fz, .dT lv⟩]) : wM m_one_more [⟨.par, bookD ms ps⟩, ⟨.fz, .dT lv⟩] Q := by
  rw [m_one_more, w_fn, b_one_more]
  simp only [List.map_cons, List.map_nil, List.cons_append, List.nil_append, List.replicate_succ, List.replicate_zero]
  have hlen : ∀ {es : KT}, KOk ms es → es.length < 16777216 := fun h => by
    have h1 := h.len
    have h2 : ms.length * ms.length ≤ 6 * 6 := Nat.mul_le_mul hz hz
    omega
  simp [bookD_eq, lkB2, nodupS]
  refine answers_w ?_
  simp [wb, lend, back]
  obtain ⟨I, hI⟩ : ∃ I : (Ans → Str → Prop) → Option Sl → Option Sl → Option Sl → Option Sl → Rho → Prop, ∀ P x3 x4 x5 x6 ρ, I P x3 x4 x5 x6 ρ ↔ ∃ fd x7, KOk ms fd ∧ AInv lv P fd ∧ BInv ps lv fd ∧ frx x7 = true ∧
      ρ = [some ⟨.par, bookD ms ps⟩, some ⟨.fz, .dT lv⟩, some ⟨.own, .dT fd⟩, x3, x4, x5, x6, x7] := ⟨_, fun _ _ _ _ _ _ => Iff.rfl⟩
  refine w_loopX ansD (fun pre ρ => ∃ x3 x4 x5 x6, frx x3 = true ∧ frx x4 = true ∧ frx x5 = true ∧ frx x6 = true ∧ I (fun a y => a ∈ pre ∧ y ∈ ms) x3 x4 x5 x6 ρ) ?_ ?_ ?_
  · exact ⟨none, none, none, none, rfl, rfl, rfl, rfl, (hI _ _ _ _ _ _).mpr ⟨[], none, KOk.nil ms, fun a y h => by simp at h, fun x y d h => by simp [valD] at h, rfl, rfl⟩⟩
  · rintro pre a ρ ha _ ⟨x3, x4, x5, x6, f3, f4, f5, f6, h⟩
    obtain ⟨fd, x7, h1, h2, h3, f7, rfl⟩ := (hI _ _ _ _ _ _).mp h
    have hi := ansF_in (hin a ha)
    simp [f3, nodupS]
    refine ends_of_w ?_
    simp [wb, pairD, f5, f6, bookD_eq, lkB1, nodupS]
    refine things_w ?_
    simp [wb, namesD, lend, back, -w_ifS_i]
    refine w_loopX D.str (fun pre2 ρ => ∃ x4, frx x4 = true ∧ I (fun b y => (b ∈ pre ∧ y ∈ ms) ∨ (b = a ∧ y ∈ pre2)) (some ⟨.fz, ansD a⟩) x4 (some ⟨.fz, .str (ansF a).1⟩) (some ⟨.fz, .str (ansF a).2⟩) ρ) ?_ ?_ ?_
    · refine ⟨x4, f4, (hI _ _ _ _ _ _).mpr ⟨fd, x7, h1, ?_, h3, f7, rfl⟩⟩
      rintro b y (hb | ⟨rfl, hb⟩)
      · exact h2 b y hb
      · cases hb
    · rintro pre2 y ρ hy _ ⟨x4, f4, h⟩
      obtain ⟨fd, x7, h1, h2, h3, f7, rfl⟩ := (hI _ _ _ _ _ _).mp h
      have hl := hlen h1
      simp only [e_bindN, fr_z, fr_s, f4, if_true, wg_some, List.set_cons_succ, List.set_cons_zero]
      rcases hk.val (ansF a).2 y with hv | ⟨s', hv, -, -⟩
      · simp [hv]
        refine ⟨_, ?_, (hI _ _ _ _ _ _).mpr ⟨fd, x7, h1, ?_, h3, f7, rfl⟩⟩
        · rfl
        · rintro b z (hb | ⟨rfl, hb⟩) s'' hs
          · exact h2 b z (.inl hb) s'' hs
          · rcases hb with hb | rfl
            · exact h2 b z (.inr ⟨rfl, hb⟩) s'' hs
            · rw [hv] at hs; cases hs
      · have fin : ∀ v : Int, stA a + s' ≤ v → (∀ r : Int, valD fd (k2 (ansF a).1 y) = some (.int r) → r ≤ v) → (v = stA a + s' ∨ valD fd (k2 (ansF a).1 y) = some (.int v)) →
            I (fun b z => (b ∈ pre ∧ z ∈ ms) ∨ (b = a ∧ (z ∈ pre2 ∨ z = y))) (some ⟨.fz, ansD a⟩) (some ⟨.fz, .str y⟩) (some ⟨.fz, .str (ansF a).1⟩) (some ⟨.fz, .str (ansF a).2⟩)
              [some ⟨.par, bookD ms ps⟩, some ⟨.fz, .dT lv⟩, some ⟨.own, .dT (putD fd (k2 (ansF a).1 y) (.int v))⟩, some ⟨.fz, ansD a⟩, some ⟨.fz, .str y⟩, some ⟨.fz, .str (ansF a).1⟩, some ⟨.fz, .str (ansF a).2⟩, some ⟨.fz, .int (stA a + s')⟩] := by
          intro v hv1 hv2 hv3
          refine (hI _ _ _ _ _ _).mpr ⟨_, _, h1.put hi.1 hy, ?_, ?_, rfl, rfl⟩
          · have hput := h2.put hv2
            rintro b z (hb | ⟨rfl, hb⟩) s'' hs
            · exact hput b z (.inl hb) s'' hs
            · rcases hb with hb | rfl
              · exact hput b z (.inr ⟨rfl, hb⟩) s'' hs
              · rw [hv] at hs; cases hs
                exact ⟨v, by rw [val_put, if_pos rfl], hv1⟩
          · intro x z d hd
            rw [val_put] at hd
            split at hd
            · rename_i e
              obtain ⟨rfl, rfl⟩ := k2_inj.mp e
              cases hd
              rcases hv3 with rfl | hv3
              · exact ⟨a, ha, s', rfl, hv, rfl⟩
              · exact h3 _ _ _ hv3
            · exact h3 _ _ _ hd
        simp [hv, nodupS]
        refine step_of_w ?_
        rcases h1.val (ansF a).1 y with hv2 | ⟨r, hv2, -, -⟩
        · have hf := fin (stA a + s') (Int.le_refl _) (fun r hr => by rw [hv2] at hr; cases hr) (.inl rfl)
          simp [wb, hv, f7, hv2, hl]
          exact ⟨_, rfl, hf⟩
        · simp [wb, hv, f7, hv2, hl]
          by_cases hc : r < stA a + s'
          · have hf := fin (stA a + s') (Int.le_refl _) (fun r' hr => by rw [hv2] at hr; cases hr; omega) (.inl rfl)
            simp only [hc, if_true]
            exact ⟨_, rfl, hf⟩
          · have hf := fin r (by omega) (fun r' hr => by rw [hv2] at hr; cases hr; omega) (.inr hv2)
            simp only [hc, if_false]
            exact ⟨_, rfl, hf⟩
    · rintro ρ ⟨x4, f4, h⟩
      obtain ⟨fd, x7, h1, h2, h3, f7, rfl⟩ := (hI _ _ _ _ _ _).mp h
      refine ⟨_, _, _, _, rfl, f4, rfl, rfl, (hI _ _ _ _ _ _).mpr ⟨fd, x7, h1, ?_, h3, f7, rfl⟩⟩
      rintro b y ⟨hb, hy⟩
      rcases List.mem_append.mp hb with hb | hb
      · exact h2 b y (.inl ⟨hb, hy⟩)
      · simp at hb; subst hb; exact h2 b y (.inr ⟨rfl, hy⟩)
  · rintro ρ ⟨x3, x4, x5, x6, f3, f4, f5, f6, h⟩
    obtain ⟨fd, x7, h1, h2, h3, f7, rfl⟩ := (hI _ _ _ _ _ _).mp h
    simp [outs]
    exact q fd h1 ⟨fun a ha y hy => h2 a y ⟨ha, hy⟩, h3⟩
end VI

/-! ring_of. -/
namespace VI
open PySem PySem.Spec PyProof.Rows L2
/-- an answer with which one comes on -/
def Sat (lv : KT) (here last : Str) (steps : Int) (a : Ans) : Prop := (ansF a).1 = here ∧ ∃ s' : Int, valD lv (k2 (ansF a).2 last) = some (.int s') ∧ 0 ≤ steps + stA a + s'
theorem next_answer_w {ms : List Str} {ps : List Ans} {lv : KT} {here last : Str} {steps : Int} (hk : KOk ms lv) (hs : ∃ a ∈ ps, Sat lv here last steps a) {Q : Sl → List Sl → Prop}
    (q : ∀ pre a post, ps = pre ++ a :: post → Sat lv here last steps a → (∀ b ∈ pre, ¬ Sat lv here last steps b) → Q ⟨.fz, ansD a⟩ [⟨.lent, .lst (ps.map ansD)⟩, ⟨.fz, .dT lv⟩, ⟨.fz, .str here⟩, ⟨.fz, .str last⟩, ⟨.fz, .int steps⟩]) :
    wM m_next_answer [⟨.lent, .lst (ps.map ansD)⟩, ⟨.fz, .dT lv⟩, ⟨.fz, .str here⟩, ⟨.fz, .str last⟩, ⟨.fz, .int steps⟩] Q := by
  rw [m_next_answer, w_fn, b_next_answer]
  simp only [List.map_cons, List.map_nil, List.cons_append, List.nil_append, List.replicate_succ, List.replicate_zero]
  simp [lend, back]
  obtain ⟨I, hI⟩ : ∃ I : List Ans → Rho → Prop, ∀ pre ρ, I pre ρ ↔ (∀ b ∈ pre, ¬ Sat lv here last steps b) ∧ ∃ x5 x6 x7, frx x5 = true ∧ frx x6 = true ∧ frx x7 = true ∧ ρ = [some ⟨.lent, .lst (ps.map ansD)⟩, some ⟨.fz, .dT lv⟩, some ⟨.fz, .str here⟩, some ⟨.fz, .str last⟩, some ⟨.fz, .int steps⟩, x5, x6, x7] := ⟨_, fun _ _ => Iff.rfl⟩
  refine w_loopY ansD I ((hI _ _).mpr ⟨by simp, none, none, none, rfl, rfl, rfl, rfl⟩) ?_ ?_
  · intro pre a post ρ hx h
    obtain ⟨hno, x5, x6, x7, f5, f6, f7, rfl⟩ := (hI _ _).mp h
    clear h
    have qa := q pre a post hx
    have go : ¬ Sat lv here last steps a → (∀ b ∈ pre ++ [a], ¬ Sat lv here last steps b) := by
      intro h b hb
      rcases List.mem_append.mp hb with hb | hb
      · exact hno b hb
      · simp at hb; subst hb; exact h
    generalize pre ++ [a] = pre' at go ⊢
    simp [f5, nodupS]
    refine ends_of_w ?_
    simp [wb, pairD, f6, f7, eqD_str]
    by_cases e1 : (ansF a).1 = here
    · rcases hk.val (ansF a).2 last with hv | ⟨s', hv, -, -⟩
      · simp [e1, hv]
        refine (hI _ _).mpr ⟨go ?_, _, _, _, rfl, rfl, rfl, rfl⟩
        rintro ⟨-, s', h, -⟩
        rw [hv] at h; cases h
      · simp [e1, hv, nodupS]
        refine step_of_w ?_
        by_cases e2 : 0 ≤ steps + stA a + s'
        · simp [wb, hv, e2, outs]
          exact qa ⟨e1, s', hv, e2⟩ hno
        · simp [wb, hv, e2]
          refine (hI _ _).mpr ⟨go ?_, _, _, _, rfl, rfl, rfl, rfl⟩
          rintro ⟨-, s'', h, h'⟩
          rw [hv] at h; cases h
          exact e2 h'
    · simp [e1]
      exact (hI _ _).mpr ⟨go fun h => e1 h.1, _, _, _, rfl, rfl, rfl, rfl⟩
  · intro ρ h
    obtain ⟨hno, x5, x6, x7, f5, f6, f7, rfl⟩ := (hI _ _).mp h
    obtain ⟨a, ha, h⟩ := hs
    exact absurd h (hno a ha)
/-! ### least_ring -/
structure LvOk (ms : List Str) (ps : List Ans) (Ls : List KT) : Prop where
  ok : ∀ lv ∈ Ls, KOk ms lv
  rel : ∀ i lv fd, Ls[i]? = some lv → Ls[i + 1]? = some fd → LRel ms ps lv fd
def lvsD (Ls : List KT) : D := .lst (Ls.map D.dT)
theorem atI_lv {Ls : List KT} {i : Nat} (h : i < Ls.length) {j : Int} (e : j = i) : atI (Ls.map D.dT) j = some (.dT (Ls[i]'h)) := by
  subst e
  rw [atI_at (by omega), List.getElem?_map, show (i : Int).toNat = i by omega, List.getElem?_eq_getElem h]; rfl
theorem least_ring_w {ms : List Str} {ps : List Ans} {Ls : List KT} (hg : GoodA ps) (hl : ps.length ≤ 36) (h1 : LvOk ms ps Ls) (hz : 1 ≤ Ls.length) (hz2 : Ls.length ≤ 10) {Q : Sl → List Sl → Prop}
    (q0 : Q ⟨.fz, .non⟩ [⟨.par, bookD ms ps⟩, ⟨.par, lvsD Ls⟩]) (q1 : ∀ ws, ws ≠ [] → (∀ a ∈ ws, a ∈ ps) → ws.length ≤ 10 → Q ⟨.own, walkD ws⟩ [⟨.par, bookD ms ps⟩, ⟨.par, lvsD Ls⟩]) :
    wM m_least_ring [⟨.par, bookD ms ps⟩, ⟨.par, lvsD Ls⟩] Q := by
  rw [m_least_ring, w_fn, b_least_ring]
  simp only [List.map_cons, List.map_nil, List.cons_append, List.nil_append, List.replicate_succ, List.replicate_zero]
  simp [bookD_eq, lkB2, nodupS, lvsD]
  refine answers_w ?_
  simp [wb, lend, back]
  obtain ⟨many, hmany⟩ : ∃ many : Nat, Ls.length = many + 1 := ⟨Ls.length - 1, by omega⟩
  have em : ((Ls.length : Int) - 1) = many := by omega
  obtain ⟨I, hI⟩ : ∃ I : Rho → Prop, ∀ ρ, I ρ ↔ ∃ x2 x5 x6 x7 x8 x9 x10, frx x2 = true ∧ frx x5 = true ∧ frx x6 = true ∧ frx x7 = true ∧ frx x8 = true ∧ frx x9 = true ∧ frx x10 = true ∧
      ρ = [some ⟨.par, bookD ms ps⟩, some ⟨.par, lvsD Ls⟩, x2, some ⟨.fz, .int many⟩, some ⟨.lent, .lst (ps.map ansD)⟩, x5, x6, x7, x8, x9, x10] := ⟨_, fun _ => Iff.rfl⟩
  refine w_loopX ansD (fun _ ρ => I ρ) ((hI _).mpr ⟨none, none, none, none, none, none, none, rfl, rfl, rfl, rfl, rfl, rfl, rfl, by rw [em]⟩) ?_ ?_
  · intro pre a ρ ha _ h
    obtain ⟨x2, x5, x6, x7, x8, x9, x10, f2, f5, f6, f7, f8, f9, f10, rfl⟩ := (hI _).mp h
    clear h
    simp [f2, nodupS]
    refine ends_of_w ?_
    simp [wb, pairD, f5, f6, nodupS]
    refine step_of_w ?_
    simp [wb, f7, f8]
    obtain ⟨J, hJ⟩ : ∃ J : Nat → Rho → Prop, ∀ n ρ, J n ρ ↔ ∃ ws here steps x9 x10, frx x9 = true ∧ frx x10 = true ∧ ws ≠ [] ∧ (∀ b ∈ ws, b ∈ ps) ∧ ws.length ≤ many + 1 ∧ n + ws.length = many + 2 ∧
      ρ = [some ⟨.par, bookD ms ps⟩, some ⟨.par, lvsD Ls⟩, some ⟨.fz, ansD a⟩, some ⟨.fz, .int many⟩, some ⟨.lent, .lst (ps.map ansD)⟩, some ⟨.fz, .str (ansF a).1⟩, some ⟨.fz, .str here⟩, some ⟨.own, walkD ws⟩, some ⟨.fz, .int steps⟩, x9, x10] := ⟨_, fun _ _ => Iff.rfl⟩
    refine w_while J (m := many + 1) (by unfold fuel; omega) ((hJ _ _).mpr ⟨[a], (ansF a).2, stA a, x9, x10, f9, f10, by simp, by simpa using ha, by simp, by simp, rfl⟩) ?_
    intro n ρ h
    obtain ⟨ws, here, steps, x9, x10, f9, f10, hne, hsub, hlw, hn, rfl⟩ := (hJ _ _).mp h
    clear h
    have hback : I [some ⟨.par, bookD ms ps⟩, some ⟨.par, lvsD Ls⟩, some ⟨.fz, ansD a⟩, some ⟨.fz, .int many⟩, some ⟨.lent, .lst (ps.map ansD)⟩, some ⟨.fz, .str (ansF a).1⟩, some ⟨.fz, .str here⟩, some ⟨.own, walkD ws⟩, some ⟨.fz, .int steps⟩, x9, x10] := (hI _).mpr ⟨_, _, _, _, _, _, _, rfl, rfl, rfl, rfl, rfl, f9, f10, rfl⟩
    have hback2 : ∀ d, I [some ⟨.par, bookD ms ps⟩, some ⟨.par, lvsD Ls⟩, some ⟨.fz, ansD a⟩, some ⟨.fz, .int many⟩, some ⟨.lent, .lst (ps.map ansD)⟩, some ⟨.fz, .str (ansF a).1⟩, some ⟨.fz, .str here⟩, some ⟨.own, walkD ws⟩, some ⟨.fz, .int steps⟩, some ⟨.fz, d⟩, x10] := fun d => (hI _).mpr ⟨_, _, _, _, _, _, _, rfl, rfl, rfl, rfl, rfl, rfl, f10, rfl⟩
    have lw : gLenA [walkD ws] = some ⟨.fz, .int ws.length⟩ := by unfold walkD; rw [e_lenL, List.length_map]
    by_cases hc : (ws.length : Int) ≤ many
    · have hi : many - ws.length < Ls.length := by omega
      have hat : atI (Ls.map D.dT) ((many : Int) - ws.length) = some (.dT (Ls[many - ws.length]'hi)) := atI_lv hi (by omega)
      have hko := h1.ok _ (List.getElem_mem hi)
      rcases hko.val here (ansF a).1 with hv | ⟨r, hv, -, -⟩
      · simp [lw, hc, lvsD, hat, hv, f9]
        exact hback2 _
      · by_cases hs : steps + r < 0
        · simp [lw, hc, lvsD, hat, hv, f9, hs]
          exact hback2 _
        · by_cases he : ws.length = many
          · have he' : (ws.length : Int) = many := by omega
            have hat0 := hat
            rw [he', Int.sub_self] at hat0
            simp [lw, lvsD, hat0, hv, f9, hs, ok_int, eqD_int, he', outs, back]
            exact q1 ws hne hsub (by omega)
          · have he' : ¬ (ws.length : Int) = many := by omega
            have hj : many - ws.length - 1 < Ls.length := by omega
            have hat2 : atI (Ls.map D.dT) ((many : Int) - ws.length - 1) = some (.dT (Ls[many - ws.length - 1]'hj)) := atI_lv hj (by omega)
            have hrel := h1.rel (many - ws.length - 1) _ _ (List.getElem?_eq_getElem hj) (by rw [show many - ws.length - 1 + 1 = many - ws.length by omega]; exact List.getElem?_eq_getElem hi)
            obtain ⟨b, hb, s', e1, e2, e3⟩ := hrel.got _ _ _ hv
            have e4 : r = stA b + s' := by simpa using e3
            have hsat : ∃ a' ∈ ps, Sat (Ls[many - ws.length - 1]'hj) here (ansF a).1 steps a' := ⟨b, hb, e1, s', e2, by omega⟩
            simp [lw, lvsD, hat, hat2, hv, f9, hs, ok_int, eqD_int, he', hc, nodupS]
            refine next_answer_w (h1.ok _ (List.getElem_mem hj)) hsat fun pre' a' post' hps hsa _ => ?_
            have ha' : a' ∈ ps := by rw [hps]; simp
            have hlm : ws.length < 16777216 := by omega
            have hlm2 : (ws.map ansD).length < 16777216 := by rw [List.length_map]; omega
            simp [wb, f10, walkD, hlm, nodupS]
            refine ends_of_w ?_
            simp [wb, pairD, nodupS]
            refine step_of_w ?_
            simp [wb]
            refine ⟨n - 1, by omega, (hJ _ _).mpr ⟨ws ++ [a'], _, _, _, _, rfl, rfl, by simp, ?_, by simp; omega, by simp; omega, by simp [walkD, lvsD]; exact ⟨rfl, rfl, rfl, rfl⟩⟩⟩
            intro c hc
            rcases List.mem_append.mp hc with hc | hc
            · exact hsub c hc
            · simp at hc; subst hc; exact ha'
    · simp [lw, hc]
      exact hback
  · intro ρ h
    obtain ⟨x2, x5, x6, x7, x8, x9, x10, f2, f5, f6, f7, f8, f9, f10, rfl⟩ := (hI _).mp h
    simp [outs]
    exact q0
end VI

/-! ring_of. -/
namespace VI
open PySem PySem.Spec PyProof.Rows L2
def InitOk (ms : List Str) (Ls : List KT) : Prop := ∃ es, Ls[0]? = some es ∧ ∀ t ∈ ms, valD es (k2 t t) = some (.int 0)
theorem lv_path {ms : List Str} {ps : List Ans} {Ls : List KT} (hL : LvOk ms ps Ls) (h0 : InitOk ms Ls) : ∀ {ws : List Ans} {x y : Str} {lv : KT}, y ∈ ms → Path ps x ws y → Ls[ws.length]? = some lv → ∃ s : Int, valD lv (k2 x y) = some (.int s) ∧ stW ws ≤ s
  | [], x, y, lv, hy, hp, hl => by
    obtain ⟨es, he, hv⟩ := h0
    cases hp
    have : es = lv := by
      have h2 : Ls[0]? = some lv := hl
      rw [he] at h2; exact Option.some.inj h2
    subst this
    exact ⟨0, hv x hy, by simp [stW]⟩
  | a :: ws, x, y, lv, hy, hp, hl => by
    obtain ⟨ha, hx, hp⟩ := hp
    subst hx
    have hlt := (List.getElem?_eq_some_iff.mp hl).1
    simp only [List.length_cons] at hlt hl
    have hl2 : Ls[ws.length]? = some (Ls[ws.length]'(by omega)) := List.getElem?_eq_getElem (by omega)
    obtain ⟨s', h1, h2⟩ := lv_path hL h0 hy hp hl2
    obtain ⟨s, h3, h4⟩ := (hL.rel _ _ _ hl2 hl).up a ha y hy s' h1
    exact ⟨s, h3, by rw [stW_cons]; omega⟩
theorem LvOk.snoc {ms : List Str} {ps : List Ans} {Li : List KT} {lv fd : KT} (h : LvOk ms ps (Li ++ [lv])) (hk : KOk ms fd) (hr : LRel ms ps lv fd) : LvOk ms ps (Li ++ [lv] ++ [fd]) := by
  refine ⟨?_, ?_⟩
  · intro l hl
    rcases List.mem_append.mp hl with hl | hl
    · exact h.ok l hl
    · simp at hl; subst hl; exact hk
  · intro i l f h1 h2
    by_cases hi : i + 1 < (Li ++ [lv]).length
    · rw [List.getElem?_append_left (by omega)] at h1
      rw [List.getElem?_append_left hi] at h2
      exact h.rel i l f h1 h2
    · have hlt := (List.getElem?_eq_some_iff.mp h2).1
      simp only [List.length_append, List.length_cons, List.length_nil] at hlt hi
      have ei : i = Li.length := by omega
      subst ei
      have e1 : l = lv := by
        rw [List.append_assoc, List.getElem?_append_right (Nat.le_refl _)] at h1
        simp at h1; exact h1.symm
      have e2 : f = fd := by
        rw [List.getElem?_append_right (by simp)] at h2
        simp at h2; exact h2.symm
      rw [e1, e2]; exact hr
def valG (lv : KT) (t : Str) : Int := match valD lv (k2 t t) with
  | some (.int s) => s
  | _ => -1
theorem atI_lastL (Li : List KT) (lv : KT) : atI ((Li ++ [lv]).map D.dT) (-1) = some (.dT lv) := by
  have h : ixN ((Li ++ [lv]).map D.dT).length (-1) = some Li.length := by
    unfold ixN
    rw [List.length_map, List.length_append]
    simp
    omega
  unfold atI
  rw [h]
  simp
theorem ring_of_w {ms : List Str} {ps : List Ans} (hin : ∀ a ∈ ps, a.1 ∈ ms ∧ a.2.1 ∈ ms) (hg : GoodA ps) (hl : ps.length ≤ 36) (hz : ms.length ≤ 6) {Q : Sl → List Sl → Prop}
    (q0 : Q ⟨.fz, .non⟩ [⟨.par, bookD ms ps⟩]) (q1 : ∀ ws, ws ≠ [] → (∀ a ∈ ws, a ∈ ps) → ws.length ≤ 10 → Q ⟨.own, walkD ws⟩ [⟨.par, bookD ms ps⟩]) : wM m_ring_of [⟨.par, bookD ms ps⟩] Q := by
  rw [m_ring_of, w_fn, b_ring_of]
  simp only [List.map_cons, List.map_nil, List.cons_append, List.nil_append, List.replicate_succ, List.replicate_zero]
  have hlen : ∀ {es : KT}, KOk ms es → es.length < 16777216 := fun h => by
    have h1 := h.len
    have h2 : ms.length * ms.length ≤ 6 * 6 := Nat.mul_le_mul hz hz
    omega
  rw [w_seq]
  simp [nodupS]
  refine is_possible_p hin hz fun b hb => ?_
  cases b with
  | true => simp [wb, outs]; exact q0
  | false =>
    obtain ⟨x0, ws0, ne0, p0, po0⟩ := hb rfl
    obtain ⟨x, cs, nec, pc, lc, sc, -⟩ := short_ring hin (Nat.le_refl _) ne0 p0 po0
    have hxm : x ∈ ms := by
      cases cs with
      | nil => exact absurd rfl nec
      | cons c cs => obtain ⟨hc, rfl, _⟩ := pc; exact (ansF_in (hin c hc)).1
    have hcl : 1 ≤ cs.length := List.length_pos_iff.mpr nec
    have nem : ms ≠ [] := List.ne_nil_of_mem hxm
    simp [wb, bookD_eq, lkB1, nodupS]
    refine things_w ?_
    simp [wb, namesD, lend, back, wipeR]
    refine w_compDY D.str (fun pre acc ρ => ∃ es, acc = .dT es ∧ KOk ms es ∧ (∀ t ∈ pre, valD es (k2 t t) = some (.int 0)) ∧ ρ = [some ⟨.par, bookD ms ps⟩, none, none]) (xs := ms) ?_ ?_ (pre := []) rfl ⟨[], rfl, KOk.nil ms, by simp, rfl⟩
    · rintro pre t post acc ρ hx ⟨es, rfl, h1, h2, rfl⟩
      have ht : t ∈ ms := by rw [hx]; simp
      have := hlen h1
      simp [wipeR, this]
      refine ⟨h1.put ht ht, ?_⟩
      intro u hu
      rw [val_put]
      split
      · rfl
      · rename_i hne
        rcases hu with hu | rfl
        · exact h2 u hu
        · exact absurd rfl hne
    · rintro acc ρ ⟨es, rfl, k0, d0, rfl⟩
      simp
      obtain ⟨J, hJ⟩ : ∃ J : Nat → Rho → Prop, ∀ n ρ, J n ρ ↔ ∃ Li lv, LvOk ms ps (Li ++ [lv]) ∧ InitOk ms (Li ++ [lv]) ∧ Li.length ≤ cs.length ∧ n + Li.length = cs.length + 1 ∧
          ρ = [some ⟨.par, bookD ms ps⟩, some ⟨.own, lvsD (Li ++ [lv])⟩, none] := ⟨_, fun _ _ => Iff.rfl⟩
      refine w_while J (m := cs.length + 1) (by unfold fuel; omega) ((hJ _ _).mpr ⟨[], es, ⟨by simpa using k0, ?_⟩, ⟨es, rfl, d0⟩, by simp, by simp, rfl⟩) ?_
      · intro i l f h1 h2
        simp at h2
      intro n ρ h
      obtain ⟨Li, lv, hL, h0, hll, hn, rfl⟩ := (hJ _ _).mp h
      clear h
      have hk := hL.ok lv (by simp)
      have al := atI_lastL Li lv
      have ll : ((Li ++ [lv]).map D.dT).length = Li.length + 1 := by simp
      -- what the test tells
      have test : ∀ {QT : Bool → Rho → Prop} , QT (decide (maxI (ms.map (valG lv)) < 0) || decide (Li.length = 0)) [some ⟨.par, bookD ms ps⟩, some ⟨.own, lvsD (Li ++ [lv])⟩, none] →
          wT (fOr (fT (fOp2 gLt (.ex (fOpN gMaxA [(.ex (fComp itemsA (.ex (fMeth "things" (tb1 "Book" m_Book_things) (.sl 0) [])) [2] (bindN 2) fYes (fGet2 (.ex (fOp2 gSubD (.sl 1) (.ex (fOp1 gNeg (.ex (fC (.int 1))))))) (.ex (fDisp gTup [(fName 2), (fName 2)])) (fOp1 gNeg (.ex (fC (.int 1)))))))])) (.ex (fC (.int 0))))) (fT (fOp2 gEq (.ex (fOpN gLenA [(.sl 1)])) (.ex (fC (.int 1)))))) [some ⟨.par, bookD ms ps⟩, some ⟨.own, lvsD (Li ++ [lv])⟩, none] QT := by
        intro QT hq
        unfold lvsD at hq ⊢
        generalize (Li ++ [lv]).map D.dT = ld at al ll hq
        simp [bookD_eq, lkB1, nodupS]
        refine things_w ?_
        simp [wb, namesD, wipeR]
        refine w_compP D.str (fun _ => true) (fun t => .int (valG lv t)) ?_ ?_
        · intro t ht
          rcases hk.val t t with hv | ⟨s, hv, -, -⟩
          · have : valG lv t = -1 := by unfold valG; rw [hv]
            rw [this]
            simp [al, hv, wipeR]
          · have : valG lv t = s := by unfold valG; rw [hv]
            rw [this]
            simp [al, hv, wipeR]
        · have ef : (ms.filter fun _ => true) = ms := List.filter_eq_self.mpr (by simp)
          rw [ef]
          have em := e_maxL (valG lv) nem
          have lm : (ms.map fun t => D.int (valG lv t)).length ≤ 16777216 := by rw [List.length_map]; omega
          generalize (ms.map fun t => D.int (valG lv t)) = md at em lm
          by_cases hp : maxI (ms.map (valG lv)) < 0
          · simp [hp] at hq
            simp [em, hp]
            exact ⟨lm, hq⟩
          · simp [hp] at hq
            have e1 : decide ((Li.length : Int) + 1 = 1) = decide (Li.length = 0) := decide_eq_decide.mpr (by omega)
            have e2 : ((ld.length : Nat) : Int) = (Li.length : Int) + 1 := by omega
            simp [em, hp, ok_int, eqD_int, e2, e1]
            exact ⟨lm, hq⟩
      refine test ?_
      by_cases hc : maxI (ms.map (valG lv)) < 0 ∨ Li.length = 0
      · have e : (decide (maxI (ms.map (valG lv)) < 0) || decide (Li.length = 0)) = true := by
          rcases hc with h | h
          · simp [h]
          · simp [h]
        have hlt : Li.length < cs.length := by
          rcases hc with h | h
          · refine Nat.lt_of_le_of_ne hll fun he => ?_
            have hl2 : (Li ++ [lv])[cs.length]? = some lv := by rw [← he]; simp
            obtain ⟨s, h1, h2⟩ := lv_path hL h0 hxm pc hl2
            have h3 : valG lv x = s := by unfold valG; rw [h1]
            have h4 := maxI_le (xs := ms.map (valG lv)) (List.mem_map.mpr ⟨x, hxm, h3⟩)
            omega
          · omega
        have ll2 : ((Li ++ [lv]).map D.dT).length < 16777216 := by rw [ll]; omega
        have al2 := al
        rw [e]
        have fin : ∀ fd, KOk ms fd → LRel ms ps lv fd → J (n - 1) [some ⟨.par, bookD ms ps⟩, some ⟨.own, .lst ((Li ++ [lv]).map D.dT ++ [.dT fd])⟩, none] := by
          intro fd hfk hfr
          refine (hJ _ _).mpr ⟨Li ++ [lv], fd, hL.snoc hfk hfr, ?_, by simp; omega, by simp; omega, by simp [lvsD]⟩
          obtain ⟨es, he, hv⟩ := h0
          refine ⟨es, ?_, hv⟩
          rw [List.getElem?_append_left (by simp)]; exact he
        unfold lvsD
        generalize (Li ++ [lv]).map D.dT = ld at al ll2 fin
        simp [al, nodupS]
        refine one_more_w hin hz hk fun fd hfk hfr => ?_
        simp [wb, ll2]
        exact ⟨n - 1, by omega, fin fd hfk hfr⟩
      · have e : (decide (maxI (ms.map (valG lv)) < 0) || decide (Li.length = 0)) = false := by
          rw [not_or] at hc
          simp [hc.1, hc.2]
        rw [e]
        have hk2 : (Li ++ [lv]).length ≤ 10 := by simp; omega
        simp [nodupS]
        refine least_ring_w hg hl hL (by simp) hk2 ?_ ?_
        · simp [wb, outs]; exact q0
        · intro ws h1 h2 h3
          simp [wb, outs]; exact q1 ws h1 h2 h3
end VI

/-! What is a ring. -/
namespace VI
open PySem PySem.Spec PyProof.Rows L2
/-- the same of a frozen list -/
theorem law_is_walk_f {T : TK → TK → Option Bool} {cs : List Str} {as : List Ans} {t : D} (hT : TOk T cs) (hg : GoodA as) (hl : as.length ≤ 36) (ht : ThOk cs t) {Q : Sl → List Sl → Prop}
    (q : ∀ b, (b = true ↔ IsWalk as t) → Q ⟨.fz, .bl b⟩ [⟨.fz, .lst (as.map ansD)⟩, ⟨.fz, t⟩]) : wM (m_law_is_walk T) [⟨.fz, .lst (as.map ansD)⟩, ⟨.fz, t⟩] Q := by
  rw [m_law_is_walk, w_fn, b_law_is_walk]
  simp only [List.map_cons, List.map_nil, List.cons_append, List.nil_append, List.replicate_succ, List.replicate_zero]
  have e1 : gIsi T [t, .ty "list"] = some ⟨.fz, .bl (decide (knd t = "list"))⟩ := e_isi hT ht.typd (by decide)
  by_cases hk : knd t = "list"
  · obtain ⟨ds, rfl⟩ : ∃ ds, t = .lst ds := by cases t <;> first | exact ⟨_, rfl⟩ | (simp [knd] at hk)
    obtain ⟨hd, hdl⟩ := ht.items
    have sa : ∀ a ∈ as, Smp (ansD a) := fun a ha => smp_ans (hg a ha).1 (hg a ha).2
    have ra : ∀ a ∈ as, reprOk (ansD a) = true := fun a ha => smp_repr (sa a ha) (by rw [dp_ans]; decide) (by rw [sz_ans]; decide)
    simp [e1, hk, lend, back, wipeR]
    refine w_compP ansD (fun _ => true) (fun a => .str (ansD a).py.shown) ?_ ?_
    · intro a ha
      simp [ra a ha, wipeR]
    · have ef : (as.filter fun _ => true) = as := List.filter_eq_self.mpr (by simp)
      rw [ef]
      have em : (as.map fun a => D.str (ansD a).py.shown) = (as.map fun a => (ansD a).py.shown).map D.str := by rw [List.map_map]; rfl
      rw [em]
      have hts : ∀ x ∈ as.map (fun a => (ansD a).py.shown), PyData.strOk x = true := by
        intro x hx
        obtain ⟨a, ha, rfl⟩ := List.mem_map.mp hx
        exact shown_ok (sa a ha)
      have htl : (as.map fun a => (ansD a).py.shown).length ≤ 36 := by rw [List.length_map]; exact hl
      have hin : ∀ d ∈ ds, decide (d.py.shown ∈ as.map fun a => (ansD a).py.shown) = inB as d := by
        intro d hd'
        rw [Bool.eq_iff_iff, decide_eq_true_eq, inB_iff]
        constructor
        · intro h
          obtain ⟨a, ha, e⟩ := List.mem_map.mp h
          exact ⟨a, ha, shown_inj (hd d hd').1 (sa a ha) e.symm⟩
        · rintro ⟨a, ha, rfl⟩
          exact List.mem_map.mpr ⟨a, ha, rfl⟩
      generalize as.map (fun a => (ansD a).py.shown) = ts at hts htl hin
      simp [wipeR, lend, back]
      refine ⟨by omega, ?_⟩
      have ed : ds = ds.map fun d => d := by simp
      have key : ∀ {Q' : List D × Rho → Prop}, Q' (ds.filter fun d => !inB as d, [some ⟨.fz, .lst (as.map ansD)⟩, some ⟨.fz, .lst ds⟩, some ⟨.own, .lst (ts.map D.str)⟩, none, none, none]) →
          wg (compM [4] (bindN 4) (fT (fOp2 gNotInA (.ex (fOpN gReprA [(.sl 4)])) (.sl 2))) (fName 4) ds [] [some ⟨.fz, .lst (as.map ansD)⟩, some ⟨.fz, .lst ds⟩, some ⟨.own, .lst (ts.map D.str)⟩, none, none, none]) Q' := by
        intro Q' hQ
        have k2 : wg (compM [4] (bindN 4) (fT (fOp2 gNotInA (.ex (fOpN gReprA [(.sl 4)])) (.sl 2))) (fName 4) (ds.map fun d => d) [] [some ⟨.fz, .lst (as.map ansD)⟩, some ⟨.fz, .lst ds⟩, some ⟨.own, .lst (ts.map D.str)⟩, none, none, none]) Q' := by
          refine w_compP (fun d : D => d) (fun d => !inB as d) (fun d => d) ?_ (by simpa using hQ)
          intro d hd'
          obtain ⟨h1, h2, h3⟩ := hd d hd'
          have r1 : reprOk d = true := smp_repr h1 (by omega) (by omega)
          have i1 := hin d hd'
          simp [r1, ok_str (shown_ok h1), ok_strs hts, inL_strs, i1]
        rwa [← ed] at k2
      refine key ?_
      have okf : (D.lst (ds.filter fun d => !inB as d)).ok = true := ok_lst (n := 59) (fun x hx => by
        obtain ⟨h1, h2, h3⟩ := hd x (List.mem_filter.mp hx).1
        exact (smp_fine x h1).mono h2) (by decide)
      have lf : (ds.filter fun d => !inB as d).length ≤ 16777216 := Nat.le_trans (List.length_filter_le _ _) (by omega)
      have hfe : (ds.filter fun d => !inB as d) = [] ↔ ∀ d ∈ ds, inB as d = true := by
        rw [List.filter_eq_nil_iff]
        simp
      generalize (ds.filter fun d => !inB as d) = fs at okf lf hfe
      cases fs with
      | cons f0 fs =>
        have hno : ¬ IsWalk as (.lst ds) := by
          rintro ⟨ws, e, hw, -⟩
          unfold walkD at e
          cases e
          have := hfe.mpr fun d hd' => by
            obtain ⟨a, ha, rfl⟩ := List.mem_map.mp hd'
            exact inB_iff.mpr ⟨a, hw a ha, rfl⟩
          cases this
        simp [okf, ok_nil, eqD_nil, outs]
        refine ⟨by simpa using lf, q false ⟨fun h => (by cases h), fun h => (hno h).elim⟩⟩
      | nil =>
        obtain ⟨ws, rfl, hw⟩ := all_inB (hfe.mp rfl)
        have lw : ws.length ≤ 16000000 := by simpa using hdl
        simp [okf, ok_nil, eqD_nil]
        have er : gRng2 [.int 1, .int ws.length] = some ((List.range (ws.length - 1)).map fun i : Nat => D.int (1 + i)) := by
          have e0 : gRng2 [.int 1, .int ws.length] = if -(2 ^ 62) ≤ (1 : Int) ∧ (1 : Int) < 2 ^ 62 ∧ -(2 ^ 62) ≤ (ws.length : Int) ∧ (ws.length : Int) < 2 ^ 62 then some (rangeD 1 ((ws.length : Int) - 1).toNat) else none := rfl
          rw [e0, if_pos ⟨by decide, by decide, by omega, by omega⟩, show ((ws.length : Int) - 1).toNat = ws.length - 1 by omega]
          rfl
        simp [er, wipeR, -List.map_map]
        refine w_compP (fun i : Nat => D.int (1 + i)) (fun i => !decide ((ansF (ws.getD i default)).2 = (ansF (ws.getD (i + 1) default)).1)) (fun i => .int (1 + i)) ?_ ?_
        · intro i hi
          rw [List.mem_range] at hi
          have a1 : atI (ws.map ansD) (1 + (i : Int) - 1) = some (ansD (ws.getD i default)) := by
            rw [atI_at (by omega), List.getElem?_map, show (1 + (i : Int) - 1).toNat = i by omega, List.getElem?_eq_getElem (by omega), List.getD_eq_getElem?_getD, List.getElem?_eq_getElem (by omega)]
            rfl
          have a2 : atI (ws.map ansD) (1 + (i : Int)) = some (ansD (ws.getD (i + 1) default)) := by
            rw [atI_at (by omega), List.getElem?_map, show (1 + (i : Int)).toNat = i + 1 by omega, List.getElem?_eq_getElem (by omega), List.getD_eq_getElem?_getD, List.getElem?_eq_getElem (by omega)]
            rfl
          generalize ws.getD i default = u at a1
          generalize ws.getD (i + 1) default = v at a2
          generalize ws.map ansD = wd at a1 a2
          simp [nodupS, a1]
          refine leads_w ?_
          simp [wb, pairD, nodupS, a2]
          refine leads_w ?_
          simp [wb, pairD, eqD_str]
        · have okz : (D.lst (((List.range (ws.length - 1)).filter fun i => !decide ((ansF (ws.getD i default)).2 = (ansF (ws.getD (i + 1) default)).1)).map fun i : Nat => D.int (1 + i))).ok = true := ok_lst (n := 0) (fun x hx => by
            obtain ⟨i, hi, rfl⟩ := List.mem_map.mp hx
            exact ⟨by simp [D.pure], by simp [D.py, PyData.canLay0], by simp [D.py, PyData.depth]⟩) (by decide)
          have lz : (((List.range (ws.length - 1)).filter fun i => !decide ((ansF (ws.getD i default)).2 = (ansF (ws.getD (i + 1) default)).1)).map fun i : Nat => D.int (1 + i)).length ≤ 16777216 := by
            rw [List.length_map]
            refine Nat.le_trans (List.length_filter_le _ _) ?_
            rw [List.length_range]; omega
          have hz : (((List.range (ws.length - 1)).filter fun i => !decide ((ansF (ws.getD i default)).2 = (ansF (ws.getD (i + 1) default)).1)).map fun i : Nat => D.int (1 + i)).isEmpty = true ↔ IsWalk as (.lst (ws.map ansD)) := by
            rw [List.isEmpty_iff, List.map_eq_nil_iff, List.filter_eq_nil_iff]
            constructor
            · intro h
              refine ⟨ws, rfl, hw, linked_iff.mpr fun i hi => ?_⟩
              have := h i (List.mem_range.mpr (by omega))
              simpa using this
            · rintro ⟨vs, e, hv, hL⟩ i hi
              unfold walkD at e
              have := map_ansD_inj (by simpa using e)
              subst this
              rw [List.mem_range] at hi
              have := linked_iff.mp hL i (by omega)
              rw [decide_eq_true this]
              decide
          generalize (((List.range (ws.length - 1)).filter fun i => !decide ((ansF (ws.getD i default)).2 = (ansF (ws.getD (i + 1) default)).1)).map fun i : Nat => D.int (1 + i)) = zs at okz lz hz
          simp [okz, ok_nil, eqD_nil, outs]
          exact ⟨lz, q _ hz⟩
  · simp [e1, hk, outs]
    refine q false ⟨fun h => (by cases h), ?_⟩
    rintro ⟨ws, rfl, -⟩
    simp [walkD, knd] at hk
theorem law_is_walk_m {T : TK → TK → Option Bool} {cs : List Str} {as : List Ans} {t : D} {m : Md} (hT : TOk T cs) (hg : GoodA as) (hl : as.length ≤ 36) (ht : ThOk cs t) (hm : m = .fz ∨ m = .par) {Q : Sl → List Sl → Prop}
    (q : ∀ b, (b = true ↔ IsWalk as t) → Q ⟨.fz, .bl b⟩ [⟨m, .lst (as.map ansD)⟩, ⟨.fz, t⟩]) : wM (m_law_is_walk T) [⟨m, .lst (as.map ansD)⟩, ⟨.fz, t⟩] Q := by
  rcases hm with rfl | rfl
  · exact law_is_walk_f hT hg hl ht q
  · exact law_is_walk_w hT hg hl ht q
def ringB : List Ans → Bool
  | [] => false
  | w :: ws => decide ((ansF w).1 = (ansF ((w :: ws).getLastD default)).2) && decide ((0 : Int) ≤ (betN (w :: ws) : Int) - ((w :: ws).length - betN (w :: ws)))
def IsRing (as : List Ans) (t : D) : Prop := ∃ ws, t = walkD ws ∧ (∀ a ∈ ws, a ∈ as) ∧ linked ws = true ∧ ringB ws = true
theorem IsRing.perm {as ps : List Ans} {t : D} (h : ps.Perm as) : IsRing ps t ↔ IsRing as t := by
  unfold IsRing
  simp only [h.mem_iff]
theorem walkD_inj {ws vs : List Ans} (h : walkD ws = walkD vs) : ws = vs := map_ansD_inj (by unfold walkD at h; simpa using h)
theorem ring_iff {as : List Ans} {ws : List Ans} (hs : ∀ a ∈ ws, a ∈ as) (hL : linked ws = true) (b : Bool) (h : b = ringB ws) : b = true ↔ IsRing as (walkD ws) := by
  rw [h]
  constructor
  · exact fun h => ⟨ws, rfl, hs, hL, h⟩
  · rintro ⟨vs, e, _, _, h⟩
    rw [walkD_inj e]; exact h
theorem at_ends {w : Ans} {ws : List Ans} : atI ((w :: ws).map ansD) 0 = some (ansD w) ∧ atI ((w :: ws).map ansD) (-1) = some (ansD ((w :: ws).getLastD default)) := by
  refine ⟨by rw [List.map_cons]; exact atI_0, ?_⟩
  rcases List.eq_nil_or_concat (w :: ws) with h | ⟨wi, l, h⟩
  · cases h
  · rw [h, List.concat_eq_append, atI_last]
    simp
theorem is_ring_w {T : TK → TK → Option Bool} {cs : List Str} {ms : List Str} {ps : List Ans} {t : D} (hT : TOk T cs) (hg : GoodA ps) (hp : (ps.map ansP).Nodup) (hga : ∀ a ∈ ps, isAnswerD (ansD a) = true) (ht : ThOk cs t) {Q : Sl → List Sl → Prop}
    (q : ∀ b, (b = true ↔ IsRing ps t) → Q ⟨.fz, .bl b⟩ [⟨.fz, bookD ms ps⟩, ⟨.fz, t⟩]) : wM (m_is_ring T) [⟨.fz, bookD ms ps⟩, ⟨.fz, t⟩] Q := by
  rw [m_is_ring, w_fn, b_is_ring]
  simp only [List.map_cons, List.map_nil, List.cons_append, List.nil_append, List.replicate_succ, List.replicate_zero]
  simp [nodupS]
  refine is_walk_w hT hp hga ht fun b hb => ?_
  cases b with
  | false =>
    simp [wb, outs]
    refine q false ⟨fun h => (by cases h), ?_⟩
    rintro ⟨ws, e, h1, h2, -⟩
    exact absurd (hb.mpr ⟨ws, e, h1, h2⟩) (by simp)
  | true =>
    obtain ⟨ws, rfl, hs, hL⟩ := hb.mp rfl
    have hgw : GoodA ws := fun a ha => hg a (hs a ha)
    have okw : (walkD ws).ok = true := ok_walk hgw
    have eo := eqOk_of' okw ok_nil
    have lw : ws.length ≤ 16777216 := by have := (ThOk.items ht).2; rw [List.length_map] at this; omega
    cases ws with
    | nil =>
      have ee : eqD (walkD []) (.lst []) = true := by unfold walkD; rw [List.map_nil, eqD_nil]; rfl
      simp [wb, eo, ee, outs]
      exact q false ((ring_iff hs hL false rfl))
    | cons w ws =>
      obtain ⟨a0, al⟩ := at_ends (w := w) (ws := ws)
      have ee : eqD (walkD (w :: ws)) (.lst []) = false := by unfold walkD; rw [eqD_nil]; rfl
      have qq := fun b h => q b (ring_iff hs hL b h)
      have er : ringB (w :: ws) = (decide ((ansF w).1 = (ansF ((w :: ws).getLastD default)).2) && decide ((0 : Int) ≤ (betN (w :: ws) : Int) - ((w :: ws).length - betN (w :: ws)))) := rfl
      rw [er] at qq
      generalize (w :: ws).getLastD default = l at al qq
      generalize w :: ws = vs at a0 al ee eo lw qq
      have ew : walkD vs = .lst (vs.map ansD) := rfl
      simp [wb, eo, ee]
      simp [ew, a0, nodupS]
      refine ends_of_w ?_
      simp [wb, pairD, nodupS, ew, al]
      refine ends_of_w ?_
      by_cases e : (ansF w).1 = (ansF l).2
      · simp [wb, pairD, eqD_str, e, nodupS]
        refine weight_of_w (.inl rfl) lw ?_
        simp [wb, outs]
        refine qq _ ?_
        simp [e]
      · simp [wb, pairD, eqD_str, e, outs]
        refine qq _ ?_
        simp [e]
theorem law_is_ring_w {T : TK → TK → Option Bool} {cs : List Str} {as : List Ans} {t : D} {m : Md} (hT : TOk T cs) (hg : GoodA as) (hl : as.length ≤ 36) (ht : ThOk cs t) (hm : m = .fz ∨ m = .par) {Q : Sl → List Sl → Prop}
    (q : ∀ b, (b = true ↔ IsRing as t) → Q ⟨.fz, .bl b⟩ [⟨m, .lst (as.map ansD)⟩, ⟨.fz, t⟩]) : wM (m_law_is_ring T) [⟨m, .lst (as.map ansD)⟩, ⟨.fz, t⟩] Q := by
  rw [m_law_is_ring, w_fn, b_law_is_ring]
  simp only [List.map_cons, List.map_nil, List.cons_append, List.nil_append, List.replicate_succ, List.replicate_zero]
  rcases hm with rfl | rfl
  · simp [nodupS]
    refine law_is_walk_m hT hg hl ht (.inl rfl) fun b hb => ?_
    cases b with
    | false =>
      simp [wb, outs]
      refine q false ⟨fun h => (by cases h), ?_⟩
      rintro ⟨ws, e, h1, h2, -⟩
      exact absurd (hb.mpr ⟨ws, e, h1, h2⟩) (by simp)
    | true =>
      obtain ⟨ws, rfl, hs, hL⟩ := hb.mp rfl
      have hgw : GoodA ws := fun a ha => hg a (hs a ha)
      have okw : (walkD ws).ok = true := ok_walk hgw
      have eo := eqOk_of' okw ok_nil
      have lw : ws.length ≤ 16777216 := by have := (ThOk.items ht).2; rw [List.length_map] at this; omega
      cases ws with
      | nil =>
        have ee : eqD (walkD []) (.lst []) = true := by unfold walkD; rw [List.map_nil, eqD_nil]; rfl
        simp [wb, eo, ee, outs]
        exact q false ((ring_iff hs hL false rfl))
      | cons w ws =>
        obtain ⟨a0, al⟩ := at_ends (w := w) (ws := ws)
        have ee : eqD (walkD (w :: ws)) (.lst []) = false := by unfold walkD; rw [eqD_nil]; rfl
        have qq := fun b h => q b (ring_iff hs hL b h)
        have er : ringB (w :: ws) = (decide ((ansF w).1 = (ansF ((w :: ws).getLastD default)).2) && decide ((0 : Int) ≤ (betN (w :: ws) : Int) - ((w :: ws).length - betN (w :: ws)))) := rfl
        rw [er] at qq
        generalize (w :: ws).getLastD default = l at al qq
        generalize w :: ws = vs at a0 al ee eo lw qq
        have ew : walkD vs = .lst (vs.map ansD) := rfl
        simp [wb, eo, ee]
        simp [ew, a0, nodupS]
        refine leads_w ?_
        simp [wb, pairD, nodupS, ew, al]
        refine leads_w ?_
        by_cases e : (ansF w).1 = (ansF l).2
        · simp [wb, pairD, eqD_str, e, nodupS]
          refine law_weight_w (.inl rfl) lw ?_
          simp [wb, outs]
          refine qq _ ?_
          simp [e]
        · simp [wb, pairD, eqD_str, e, outs]
          refine qq _ ?_
          simp [e]
  · simp [nodupS]
    refine law_is_walk_m hT hg hl ht (.inr rfl) fun b hb => ?_
    cases b with
    | false =>
      simp [wb, outs]
      refine q false ⟨fun h => (by cases h), ?_⟩
      rintro ⟨ws, e, h1, h2, -⟩
      exact absurd (hb.mpr ⟨ws, e, h1, h2⟩) (by simp)
    | true =>
      obtain ⟨ws, rfl, hs, hL⟩ := hb.mp rfl
      have hgw : GoodA ws := fun a ha => hg a (hs a ha)
      have okw : (walkD ws).ok = true := ok_walk hgw
      have eo := eqOk_of' okw ok_nil
      have lw : ws.length ≤ 16777216 := by have := (ThOk.items ht).2; rw [List.length_map] at this; omega
      cases ws with
      | nil =>
        have ee : eqD (walkD []) (.lst []) = true := by unfold walkD; rw [List.map_nil, eqD_nil]; rfl
        simp [wb, eo, ee, outs]
        exact q false ((ring_iff hs hL false rfl))
      | cons w ws =>
        obtain ⟨a0, al⟩ := at_ends (w := w) (ws := ws)
        have ee : eqD (walkD (w :: ws)) (.lst []) = false := by unfold walkD; rw [eqD_nil]; rfl
        have qq := fun b h => q b (ring_iff hs hL b h)
        have er : ringB (w :: ws) = (decide ((ansF w).1 = (ansF ((w :: ws).getLastD default)).2) && decide ((0 : Int) ≤ (betN (w :: ws) : Int) - ((w :: ws).length - betN (w :: ws)))) := rfl
        rw [er] at qq
        generalize (w :: ws).getLastD default = l at al qq
        generalize w :: ws = vs at a0 al ee eo lw qq
        have ew : walkD vs = .lst (vs.map ansD) := rfl
        simp [wb, eo, ee]
        simp [ew, a0, nodupS]
        refine leads_w ?_
        simp [wb, pairD, nodupS, ew, al]
        refine leads_w ?_
        by_cases e : (ansF w).1 = (ansF l).2
        · simp [wb, pairD, eqD_str, e, nodupS]
          refine law_weight_w (.inl rfl) lw ?_
          simp [wb, outs]
          refine qq _ ?_
          simp [e]
        · simp [wb, pairD, eqD_str, e, outs]
          refine qq _ ?_
          simp [e]
end VI

namespace VI
open PySem PySem.Spec PyProof.Rows L2
def topS (i : Nat) : Stmt := PySem.Challenge.pw_barelybetter_k22_rings_judged.main.body.getD i (.Pass ⟨0, 0, 0, 0⟩)
structure Blt (mg : Str → Option Value) : Prop where
  abs : mg "abs" = none
  all : mg "all" = none
  bool : mg "bool" = none
  int : mg "int" = none
  isinstance : mg "isinstance" = none
  len : mg "len" = none
  list : mg "list" = none
  max : mg "max" = none
  range : mg "range" = none
  repr : mg "repr" = none
  set : mg "set" = none
  sorted : mg "sorted" = none
  str : mg "str" = none
  tuple : mg "tuple" = none
  zip : mg "zip" = none
  c_LETTERS : ∃ t, mg "LETTERS" = some (.str "abcdefghijklmnopqrstuvwxyz" t)
  c_LONGEST : ∃ t, mg "LONGEST" = some (.int 8 t)
def isL_ : List ((TK × TK) × Bool) := [((.inl "NoneType", .inl "bool"), false), ((.inl "NoneType", .inl "list"), false), ((.inl "NoneType", .inl "str"), false), ((.inl "NoneType", .inl "tuple"), false), ((.inl "bool", .inl "bool"), true), ((.inl "bool", .inl "list"), false), ((.inl "bool", .inl "str"), false), ((.inl "bool", .inl "tuple"), false), ((.inl "int", .inl "bool"), false), ((.inl "int", .inl "list"), false), ((.inl "int", .inl "str"), false), ((.inl "int", .inl "tuple"), false), ((.inl "str", .inl "bool"), false), ((.inl "str", .inl "list"), false), ((.inl "str", .inl "str"), true), ((.inl "str", .inl "tuple"), false), ((.inl "tuple", .inl "bool"), false), ((.inl "tuple", .inl "list"), false), ((.inl "tuple", .inl "str"), false), ((.inl "tuple", .inl "tuple"), true), ((.inl "list", .inl "bool"), false), ((.inl "list", .inl "list"), true), ((.inl "list", .inl "str"), false), ((.inl "list", .inl "tuple"), false), ((.inl "dict", .inl "bool"), false), ((.inl "dict", .inl "list"), false), ((.inl "dict", .inl "str"), false), ((.inl "dict", .inl "tuple"), false), ((.inr "Book", .inl "bool"), false), ((.inr "Book", .inl "list"), false), ((.inr "Book", .inl "str"), false), ((.inr "Book", .inl "tuple"), false)]
def isT : TK → TK → Option Bool := tabL isL_
structure Kls (K : PySem.W.Frag) (mg : Str → Option Value) : Prop where
  isT : IsTab K isT
  f_its_answers : ClsF K ["Book"] "its_answers"
  f_its_things : ClsF K ["Book"] "its_things"
  f_its_truths : ClsF K ["Book"] "its_truths"
  k_Book : ∃ C, mg "Book" = some (.ref C) ∧ clsA K "Book" = some C
-- _law_alike, level 1, slots 0:_law_found 1:_law_due
abbrev s_law_alike : Stmt := topS 34
theorem sc_law_alike : FnScope ["_law_found", "_law_due"] ["_law_found", "_law_due"] (defScope s_law_alike) :=
  ⟨rfl, rfl, rfl, by decide +kernel, rfl, by decide +kernel, by decide +kernel⟩
theorem ok_law_alike {P : Program} {w : World} {K : PySem.W.Frag} {mg : Str → Option Value} {base : Heap} {f : Addr} {fd : FuncData} (hB : Blt mg) (hK : Kls K mg) 
    (Fn : Fun K "_law_alike" "_law_alike" s_law_alike f fd) (hm : mg "_law_alike" = some (.ref f)) (hb : L2.Binds K fd ["_law_found", "_law_due"] []) : Callee P w K mg base 1 "_law_alike" ["_law_found", "_law_due"] m_law_alike :=
  callee_mk Fn hm sc_law_alike rfl hb fun cdv A outer s H hr hg =>
  (vb_one (vs_ret (ve_and (v_eq hr (vo_sl 0 (pv 0)) (vo_sl 1 (pv 1))) (ve_one (v_eq hr (vo_ex (v_reprA hr hg hB.repr (vo_sl 0 (pv 0)))) (vo_ex (v_reprA hr hg hB.repr (vo_sl 1 (pv 1)))))))))
-- _law_take, level 1, slots 0:_law_bag_here 1:_law_many 2:_law_early 3:_law_second 4:_law_cell 5:_law_mixed 6:_law_drawn
abbrev s_law_take : Stmt := topS 33
theorem sc_law_take : FnScope ["_law_bag_here", "_law_many", "_law_early", "_law_second", "_law_cell", "_law_mixed", "_law_drawn"] ["_law_bag_here", "_law_many"] (defScope s_law_take) :=
  ⟨rfl, rfl, rfl, by decide +kernel, rfl, by decide +kernel, by decide +kernel⟩
theorem ok_law_take {P : Program} {w : World} {K : PySem.W.Frag} {mg : Str → Option Value} {base : Heap} {f : Addr} {fd : FuncData} (hB : Blt mg) (hK : Kls K mg) 
    (Fn : Fun K "_law_take" "_law_take" s_law_take f fd) (hm : mg "_law_take" = some (.ref f)) (hb : L2.Binds K fd ["_law_bag_here", "_law_many"] []) : Callee P w K mg base 1 "_law_take" ["_law_bag_here", "_law_many"] m_law_take :=
  callee_mk Fn hm sc_law_take rfl hb fun cdv A outer s H hr hg =>
  (vb_cons (vs_if (t_eq hr (vo_ex (v_ix hr (vo_sl 0 (pv 0)) (vo_ex ve_int))) (vo_ex ve_int)) (vb_cons (vs_asg (i := 4) sc_law_take.nd rfl (by first | exact .inl rfl | exact .inr rfl) (v_ix hr (vo_ex (v_addA (vo_ex (v_cutA (vo_ex (v_ix hr (vo_sl 0 (pv 0)) (vo_ex ve_int))) (vp_some (v_ix hr (vo_sl 0 (pv 0)) (vo_ex ve_int))) vp_none)) (vo_ex (ve_lst (vz_cons ve_int vz_nil))))) (vo_ex ve_int)))
  (vb_cons (vs_aug (i := 0) (k := 2) (by decide) (pv 0) ve_int)
  (vb_cons (vs_set set_a (set_any hr) (v_mul (vo_sl 4 (pv 4)) (vo_ex (v_int hB.int (vo_ex (v_ge (vo_sl 4 (pv 4)) (vo_ex (v_pow (vo_ex ve_int) (vo_ex ve_int)))))))) (pv 0) ve_int)
  (vb_cons (vs_asg (i := 5) sc_law_take.nd rfl (by first | exact .inl rfl | exact .inr rfl) (v_addA (vo_ex (v_addA (vo_ex (v_mul (vo_ex (v_ix hr (vo_sl 0 (pv 0)) (vo_ex ve_int))) (vo_ex ve_int))) (vo_ex (v_mod (vo_ex (v_int hB.int (vo_sl 4 (pv 4)))) (vo_ex ve_int))))) (vo_ex (v_mul (vo_ex ve_int) (vo_ex (v_ix hr (vo_sl 0 (pv 0)) (vo_ex ve_int)))))))
  (vb_one (vs_set set_a (set_any hr) (v_mod (vo_ex (v_int hB.int (vo_sl 5 (pv 5)))) (vo_ex ve_int)) (pv 0) ve_int)))))) vb_nil)
  (vb_cons (vs_if (t_gt (vo_ex (v_ix hr (vo_sl 0 (pv 0)) (vo_ex ve_int))) (vo_ex ve_int)) (vb_cons (vs_mix (i := 6) (b := 0) (k := 0) rfl sc_law_take.nd rfl (by first | exact .inl rfl | exact .inr rfl) (pv 0) (v_mod (vo_ex (v_int hB.int (vo_ex (v_ix hr (vo_sl 0 (pv 0)) (vo_ex ve_int))))) (vo_sl 1 (pv 1))) (v_fdiv (vo_ex (v_int hB.int (vo_ex (v_ix hr (vo_sl 0 (pv 0)) (vo_ex ve_int))))) (vo_sl 1 (pv 1))))
  (vb_one (vs_retN 6 (pv 6)))) vb_nil)
  (vb_cons (vs_asg (i := 2) sc_law_take.nd rfl (by first | exact .inl rfl | exact .inr rfl) (v_mod (vo_ex (v_int hB.int (vo_ex (v_mul (vo_ex (v_addA (vo_ex (v_ix hr (vo_sl 0 (pv 0)) (vo_ex ve_int))) (vo_ex ve_int))) (vo_ex ve_int))))) (vo_ex ve_int)))
  (vb_cons (vs_asg (i := 3) sc_law_take.nd rfl (by first | exact .inl rfl | exact .inr rfl) (v_mod (vo_ex (v_int hB.int (vo_ex (v_mul (vo_ex (v_mod (vo_ex (v_int hB.int (vo_ex (v_mul (vo_sl 2 (pv 2)) (vo_sl 2 (pv 2)))))) (vo_ex ve_int))) (vo_ex ve_int))))) (vo_ex ve_int)))
  (vb_one (vs_ret (v_mod (vo_ex (v_int hB.int (vo_ex (v_fdiv (vo_sl 3 (pv 3)) (vo_ex ve_int))))) (vo_sl 1 (pv 1)))))))))
-- _law_mix, level 2, slots 0:_law_bag_here 1:_law_some 2:_law_rest 3:_law_found
abbrev s_law_mix : Stmt := topS 36
theorem sc_law_mix : FnScope ["_law_bag_here", "_law_some", "_law_rest", "_law_found"] ["_law_bag_here", "_law_some"] (defScope s_law_mix) :=
  ⟨rfl, rfl, rfl, by decide +kernel, rfl, by decide +kernel, by decide +kernel⟩
theorem ok_law_mix {P : Program} {w : World} {K : PySem.W.Frag} {mg : Str → Option Value} {base : Heap} {f : Addr} {fd : FuncData} (hB : Blt mg) (hK : Kls K mg) (C_law_take : Callee P w K mg base 1 "_law_take" ["_law_bag_here", "_law_many"] m_law_take)
    (Fn : Fun K "_law_mix" "_law_mix" s_law_mix f fd) (hm : mg "_law_mix" = some (.ref f)) (hb : L2.Binds K fd ["_law_bag_here", "_law_some"] []) : Callee P w K mg base 2 "_law_mix" ["_law_bag_here", "_law_some"] m_law_mix :=
  callee_mk Fn hm sc_law_mix rfl hb fun cdv A outer s H hr hg =>
  (vb_cons (vs_par (i := 2) (j := 3) rfl sc_law_mix.nd rfl rfl (by decide) rfl rfl (v_list rfl hB.list (vo_sl 1 (pv 1))) (ve_lst vz_nil) (by rfl))
  (vb_cons (vs_while fuel PassesOwn.never (t_ne hr (vo_sl 2 (pv 2)) (vo_ex (ve_lst vz_nil))) (vb_one (vs_expr (v_append (pv 3) (v_popAt (pv 2) (v_call C_law_take hr hg (by decide) (va_cons (vo_sl 0 (pv 0)) (va_cons (vo_ex (v_len hB.len (vo_sl 2 (pv 2)))) va_nil))))))))
  (vb_one (vs_retN 3 (pv 3)))))
-- _law_pairs, level 1, slots 0:_law_things 1:_law_found 2:_law_x 3:_law_y
abbrev s_law_pairs : Stmt := topS 38
theorem sc_law_pairs : FnScope ["_law_things", "_law_found", "_law_x", "_law_y"] ["_law_things"] (defScope s_law_pairs) :=
  ⟨rfl, rfl, rfl, by decide +kernel, rfl, by decide +kernel, by decide +kernel⟩
theorem ok_law_pairs {P : Program} {w : World} {K : PySem.W.Frag} {mg : Str → Option Value} {base : Heap} {f : Addr} {fd : FuncData} (hB : Blt mg) (hK : Kls K mg) 
    (Fn : Fun K "_law_pairs" "_law_pairs" s_law_pairs f fd) (hm : mg "_law_pairs" = some (.ref f)) (hb : L2.Binds K fd ["_law_things"] []) : Callee P w K mg base 1 "_law_pairs" ["_law_things"] m_law_pairs :=
  callee_mk Fn hm sc_law_pairs rfl hb fun cdv A outer s H hr hg =>
  (vb_cons (vs_asg (i := 1) sc_law_pairs.nd rfl (by first | exact .inl rfl | exact .inr rfl) (ve_lst vz_nil))
  (vb_cons (vs_for walks_anyK PassesOwn.never rfl (pi_anyK (vo_ex (v_sortedA hr rfl hB.sorted (vo_sl 0 (pv 0))))) (vg_name (i := 2) sc_law_pairs.nd rfl (by first | exact .inl rfl | exact .inr rfl)) (vb_one (vs_expr (v_extend (pv 1) (ve_comp [("_law_y", 3)] walks_anyK (nb_name 3) rfl sc_law_pairs.nd (pi_anyK (vo_ex (v_sortedA hr rfl hB.sorted (vo_sl 0 (pv 0))))) (blkOk_by (by kernel_rfl)) (fun _ _ _ _ _ => (vg_name (i := 3) sc_law_pairs.nd rfl (by first | exact .inl rfl | exact .inr rfl))) (fun _ _ _ _ _ => (vts_one (t_ne hr (vo_sl 3 (pv 3)) (vo_sl 2 (pv 2))))) (fun _ _ _ _ _ => (ve_tup (vz_cons (ve_name 2 (pv 2)) (vz_cons (ve_name 3 (pv 3)) vz_nil)))))))))
  (vb_one (vs_retN 1 (pv 1)))))
-- _law_any, level 3, slots 0:_law_bag_here 1:_law_things 2:_law_many 3:_law_told 4:_law_x 5:_law_y
abbrev s_law_any : Stmt := topS 39
theorem sc_law_any : FnScope ["_law_bag_here", "_law_things", "_law_many", "_law_told", "_law_x", "_law_y"] ["_law_bag_here", "_law_things", "_law_many"] (defScope s_law_any) :=
  ⟨rfl, rfl, rfl, by decide +kernel, rfl, by decide +kernel, by decide +kernel⟩
theorem ok_law_any {P : Program} {w : World} {K : PySem.W.Frag} {mg : Str → Option Value} {base : Heap} {f : Addr} {fd : FuncData} (hB : Blt mg) (hK : Kls K mg) (C_law_mix : Callee P w K mg base 2 "_law_mix" ["_law_bag_here", "_law_some"] m_law_mix) (C_law_pairs : Callee P w K mg base 1 "_law_pairs" ["_law_things"] m_law_pairs) (C_law_take : Callee P w K mg base 1 "_law_take" ["_law_bag_here", "_law_many"] m_law_take)
    (Fn : Fun K "_law_any" "_law_any" s_law_any f fd) (hm : mg "_law_any" = some (.ref f)) (hb : L2.Binds K fd ["_law_bag_here", "_law_things", "_law_many"] []) : Callee P w K mg base 3 "_law_any" ["_law_bag_here", "_law_things", "_law_many"] m_law_any :=
  callee_mk Fn hm sc_law_any rfl hb fun cdv A outer s H hr hg =>
  (vb_cons (vs_asg (i := 3) sc_law_any.nd rfl (by first | exact .inl rfl | exact .inr rfl) (v_cutA (vo_ex (v_call C_law_mix hr hg (by decide) (va_cons (vo_sl 0 (pv 0)) (va_cons (vo_ex (v_call C_law_pairs hr hg (by decide) (va_cons (vo_sl 1 (pv 1)) va_nil))) va_nil)))) vp_none (vp_some (ve_name 2 (pv 2)))))
  (vb_one (vs_ret (ve_comp [("_law_x", 4), ("_law_y", 5)] walks_anyK (nb_tup [4, 5]) rfl sc_law_any.nd (pi_anyK (vo_sl 3 (pv 3))) (blkOk_by (by kernel_rfl)) (fun _ _ _ _ _ => (vg_tup rfl (vgs_cons (i := 4) sc_law_any.nd rfl (by first | exact .inl rfl | exact .inr rfl) (vgs_cons (i := 5) sc_law_any.nd rfl (by first | exact .inl rfl | exact .inr rfl) vgs_nil)))) (fun _ _ _ _ _ => vts_nil) (fun _ _ _ _ _ => (ve_tup (vz_cons (ve_name 4 (pv 4)) (vz_cons (ve_name 5 (pv 5)) (vz_cons (v_lt (vo_ex (v_call C_law_take hr hg (by decide) (va_cons (vo_sl 0 (pv 0)) (va_cons (vo_ex ve_int) va_nil)))) (vo_ex ve_int)) vz_nil)))))))))
-- _law_bag, level 1, slots 0:_law_script 1:_law_cell
abbrev s_law_bag : Stmt := topS 32
theorem sc_law_bag : FnScope ["_law_script", "_law_cell"] ["_law_script"] (defScope s_law_bag) :=
  ⟨rfl, rfl, rfl, by decide +kernel, rfl, by decide +kernel, by decide +kernel⟩
theorem ok_law_bag {P : Program} {w : World} {K : PySem.W.Frag} {mg : Str → Option Value} {base : Heap} {f : Addr} {fd : FuncData} (hB : Blt mg) (hK : Kls K mg) 
    (Fn : Fun K "_law_bag" "_law_bag" s_law_bag f fd) (hm : mg "_law_bag" = some (.ref f)) (hb : L2.Binds K fd ["_law_script"] []) : Callee P w K mg base 1 "_law_bag" ["_law_script"] m_law_bag :=
  callee_mk Fn hm sc_law_bag rfl hb fun cdv A outer s H hr hg =>
  (vb_one (vs_ret (ve_lst (vz_cons ve_int (vz_cons ve_int (vz_cons ve_int (vz_cons (ve_comp [("_law_cell", 1)] walks_anyK (nb_name 1) rfl sc_law_bag.nd (pi_anyK (vo_ex (v_cutA (vo_sl 0 (pv 0)) vp_none (vp_some ve_int)))) (blkOk_by (by kernel_rfl)) (fun _ _ _ _ _ => (vg_name (i := 1) sc_law_bag.nd rfl (by first | exact .inl rfl | exact .inr rfl))) (fun _ _ _ _ _ => vts_nil) (fun _ _ _ _ _ => (v_abs hB.abs (vo_sl 1 (pv 1))))) vz_nil)))))))
-- _law_leads, level 1, slots 0:_law_answer
abbrev s_law_leads : Stmt := topS 40
theorem sc_law_leads : FnScope ["_law_answer"] ["_law_answer"] (defScope s_law_leads) :=
  ⟨rfl, rfl, rfl, by decide +kernel, rfl, by decide +kernel, by decide +kernel⟩
theorem ok_law_leads {P : Program} {w : World} {K : PySem.W.Frag} {mg : Str → Option Value} {base : Heap} {f : Addr} {fd : FuncData} (hB : Blt mg) (hK : Kls K mg) 
    (Fn : Fun K "_law_leads" "_law_leads" s_law_leads f fd) (hm : mg "_law_leads" = some (.ref f)) (hb : L2.Binds K fd ["_law_answer"] []) : Callee P w K mg base 1 "_law_leads" ["_law_answer"] m_law_leads :=
  callee_mk Fn hm sc_law_leads rfl hb fun cdv A outer s H hr hg =>
  (vb_one (vs_ret (ve_if (vt_val (v_ix hr (vo_sl 0 (pv 0)) (vo_ex ve_int))) (ve_tup (vz_cons (v_ix hr (vo_sl 0 (pv 0)) (vo_ex ve_int)) (vz_cons (v_ix hr (vo_sl 0 (pv 0)) (vo_ex ve_int)) vz_nil))) (ve_tup (vz_cons (v_ix hr (vo_sl 0 (pv 0)) (vo_ex ve_int)) (vz_cons (v_ix hr (vo_sl 0 (pv 0)) (vo_ex ve_int)) vz_nil))))))
-- _law_is_walk, level 2, slots 0:_law_answers 1:_law_thing 2:_law_texts 3:_law_answer 4:_law_item 5:_law_k
abbrev s_law_is_walk : Stmt := topS 43
theorem sc_law_is_walk : FnScope ["_law_answers", "_law_thing", "_law_texts", "_law_answer", "_law_item", "_law_k"] ["_law_answers", "_law_thing"] (defScope s_law_is_walk) :=
  ⟨rfl, rfl, rfl, by decide +kernel, rfl, by decide +kernel, by decide +kernel⟩
theorem ok_law_is_walk {P : Program} {w : World} {K : PySem.W.Frag} {mg : Str → Option Value} {base : Heap} {f : Addr} {fd : FuncData} (hB : Blt mg) (hK : Kls K mg) (C_law_leads : Callee P w K mg base 1 "_law_leads" ["_law_answer"] m_law_leads)
    (Fn : Fun K "_law_is_walk" "_law_is_walk" s_law_is_walk f fd) (hm : mg "_law_is_walk" = some (.ref f)) (hb : L2.Binds K fd ["_law_answers", "_law_thing"] []) : Callee P w K mg base 2 "_law_is_walk" ["_law_answers", "_law_thing"] (m_law_is_walk isT) :=
  callee_mk Fn hm sc_law_is_walk rfl hb fun cdv A outer s H hr hg =>
  (vb_cons (vs_if (vt_not (vt_val (v_isi hK.isT hB.isinstance (vo_sl 1 (pv 1)) (vo_ex (v_ty hB.list (by decide +kernel)))))) (vb_one (vs_ret ve_bl)) vb_nil)
  (vb_cons (vs_asg (i := 2) sc_law_is_walk.nd rfl (by first | exact .inl rfl | exact .inr rfl) (ve_comp [("_law_answer", 3)] walks_anyK (nb_name 3) rfl sc_law_is_walk.nd (pi_anyK (vo_sl 0 (pv 0))) (blkOk_by (by kernel_rfl)) (fun _ _ _ _ _ => (vg_name (i := 3) sc_law_is_walk.nd rfl (by first | exact .inl rfl | exact .inr rfl))) (fun _ _ _ _ _ => vts_nil) (fun _ _ _ _ _ => (v_reprA hr hg hB.repr (vo_sl 3 (pv 3))))))
  (vb_cons (vs_if (t_ne hr (vo_ex (ve_comp [("_law_item", 4)] walks_anyK (nb_name 4) rfl sc_law_is_walk.nd (pi_anyK (vo_sl 1 (pv 1))) (blkOk_by (by kernel_rfl)) (fun _ _ _ _ _ => (vg_name (i := 4) sc_law_is_walk.nd rfl (by first | exact .inl rfl | exact .inr rfl))) (fun _ _ _ _ _ => (vts_one (t_notinA hr (vo_ex (v_reprA hr hg hB.repr (vo_sl 4 (pv 4)))) (vo_sl 2 (pv 2))))) (fun _ _ _ _ _ => (ve_name 4 (pv 4))))) (vo_ex (ve_lst vz_nil))) (vb_one (vs_ret ve_bl)) vb_nil)
  (vb_one (vs_ret (v_eq hr (vo_ex (ve_compN [("_law_k", 5)] walks_rng2 (nb_name 5) rfl sc_law_is_walk.nd (pi_range2 (by rfl) hB.range (va_cons (vo_ex ve_int) (va_cons (vo_ex (v_len hB.len (vo_sl 1 (pv 1)))) va_nil))) (blkOk_by (by kernel_rfl)) (fun _ _ _ _ _ => (vg_name (i := 5) sc_law_is_walk.nd rfl (by first | exact .inl rfl | exact .inr rfl))) (fun _ _ _ _ _ => (vts_one (t_ne hr (vo_ex (v_ix hr (vo_ex (v_call C_law_leads hr hg (by decide) (va_cons (vo_ex (v_ix hr (vo_sl 1 (pv 1)) (vo_ex (v_sub (vo_sl 5 (pv 5)) (vo_ex ve_int))))) va_nil))) (vo_ex ve_int))) (vo_ex (v_ix hr (vo_ex (v_call C_law_leads hr hg (by decide) (va_cons (vo_ex (v_ix hr (vo_sl 1 (pv 1)) (vo_sl 5 (pv 5)))) va_nil))) (vo_ex ve_int)))))) (fun _ _ _ _ _ => (ve_name 5 (pv 5))))) (vo_ex (ve_lst vz_nil))))))))
-- _law_weight, level 1, slots 0:_law_walk_here 1:_law_betters 2:_law_answer
abbrev s_law_weight : Stmt := topS 41
theorem sc_law_weight : FnScope ["_law_walk_here", "_law_betters", "_law_answer"] ["_law_walk_here"] (defScope s_law_weight) :=
  ⟨rfl, rfl, rfl, by decide +kernel, rfl, by decide +kernel, by decide +kernel⟩
theorem ok_law_weight {P : Program} {w : World} {K : PySem.W.Frag} {mg : Str → Option Value} {base : Heap} {f : Addr} {fd : FuncData} (hB : Blt mg) (hK : Kls K mg) 
    (Fn : Fun K "_law_weight" "_law_weight" s_law_weight f fd) (hm : mg "_law_weight" = some (.ref f)) (hb : L2.Binds K fd ["_law_walk_here"] []) : Callee P w K mg base 1 "_law_weight" ["_law_walk_here"] m_law_weight :=
  callee_mk Fn hm sc_law_weight rfl hb fun cdv A outer s H hr hg =>
  (vb_cons (vs_asg (i := 1) sc_law_weight.nd rfl (by first | exact .inl rfl | exact .inr rfl) (v_len hB.len (vo_ex (ve_comp [("_law_answer", 2)] walks_anyK (nb_name 2) rfl sc_law_weight.nd (pi_anyK (vo_sl 0 (pv 0))) (blkOk_by (by kernel_rfl)) (fun _ _ _ _ _ => (vg_name (i := 2) sc_law_weight.nd rfl (by first | exact .inl rfl | exact .inr rfl))) (fun _ _ _ _ _ => (vts_one (vt_val (v_ix hr (vo_sl 2 (pv 2)) (vo_ex ve_int))))) (fun _ _ _ _ _ => (ve_name 2 (pv 2)))))))
  (vb_one (vs_ret (ve_tup (vz_cons (v_sub (vo_sl 1 (pv 1)) (vo_ex (v_sub (vo_ex (v_len hB.len (vo_sl 0 (pv 0)))) (vo_sl 1 (pv 1))))) (vz_cons (ve_name 1 (pv 1)) vz_nil))))))
-- _law_is_ring, level 3, slots 0:_law_answers 1:_law_thing
abbrev s_law_is_ring : Stmt := topS 45
theorem sc_law_is_ring : FnScope ["_law_answers", "_law_thing"] ["_law_answers", "_law_thing"] (defScope s_law_is_ring) :=
  ⟨rfl, rfl, rfl, by decide +kernel, rfl, by decide +kernel, by decide +kernel⟩
theorem ok_law_is_ring {P : Program} {w : World} {K : PySem.W.Frag} {mg : Str → Option Value} {base : Heap} {f : Addr} {fd : FuncData} (hB : Blt mg) (hK : Kls K mg) (C_law_is_walk : Callee P w K mg base 2 "_law_is_walk" ["_law_answers", "_law_thing"] (m_law_is_walk isT)) (C_law_leads : Callee P w K mg base 1 "_law_leads" ["_law_answer"] m_law_leads) (C_law_weight : Callee P w K mg base 1 "_law_weight" ["_law_walk_here"] m_law_weight)
    (Fn : Fun K "_law_is_ring" "_law_is_ring" s_law_is_ring f fd) (hm : mg "_law_is_ring" = some (.ref f)) (hb : L2.Binds K fd ["_law_answers", "_law_thing"] []) : Callee P w K mg base 3 "_law_is_ring" ["_law_answers", "_law_thing"] (m_law_is_ring isT) :=
  callee_mk Fn hm sc_law_is_ring rfl hb fun cdv A outer s H hr hg =>
  (vb_cons (vs_if (PW.pt (vw_or (vt_not (vt_val (v_call C_law_is_walk hr hg (by decide) (va_cons (vo_sl 0 (pv 0)) (va_cons (vo_sl 1 (pv 1)) va_nil))))) (vw_or1 (t_eq hr (vo_sl 1 (pv 1)) (vo_ex (ve_lst vz_nil)))))) (vb_one (vs_ret ve_bl)) vb_nil)
  (vb_one (vs_ret (ve_and (v_eq hr (vo_ex (v_ix hr (vo_ex (v_call C_law_leads hr hg (by decide) (va_cons (vo_ex (v_ix hr (vo_sl 1 (pv 1)) (vo_ex ve_int))) va_nil))) (vo_ex ve_int))) (vo_ex (v_ix hr (vo_ex (v_call C_law_leads hr hg (by decide) (va_cons (vo_ex (v_ix hr (vo_sl 1 (pv 1)) (vo_ex (v_neg (vo_ex ve_int))))) va_nil))) (vo_ex ve_int)))) (ve_one (v_ge (vo_ex (v_ix hr (vo_ex (v_call C_law_weight hr hg (by decide) (va_cons (vo_sl 1 (pv 1)) va_nil))) (vo_ex ve_int))) (vo_ex ve_int)))))))
-- _law_names, level 3, slots 0:_law_bag_here 1:_law_many 2:_law_letters 3:_law_words 4:_law_stem 5:_law_way 6:_law_turn 7:_law_k
abbrev s_law_names : Stmt := topS 37
theorem sc_law_names : FnScope ["_law_bag_here", "_law_many", "_law_letters", "_law_words", "_law_stem", "_law_way", "_law_turn", "_law_k"] ["_law_bag_here", "_law_many"] (defScope s_law_names) :=
  ⟨rfl, rfl, rfl, by decide +kernel, rfl, by decide +kernel, by decide +kernel⟩
theorem ok_law_names {P : Program} {w : World} {K : PySem.W.Frag} {mg : Str → Option Value} {base : Heap} {f : Addr} {fd : FuncData} (hB : Blt mg) (hK : Kls K mg) (C_law_mix : Callee P w K mg base 2 "_law_mix" ["_law_bag_here", "_law_some"] m_law_mix) (C_law_take : Callee P w K mg base 1 "_law_take" ["_law_bag_here", "_law_many"] m_law_take)
    (Fn : Fun K "_law_names" "_law_names" s_law_names f fd) (hm : mg "_law_names" = some (.ref f)) (hb : L2.Binds K fd ["_law_bag_here", "_law_many"] []) : Callee P w K mg base 3 "_law_names" ["_law_bag_here", "_law_many"] m_law_names :=
  callee_mk Fn hm sc_law_names rfl hb fun cdv A outer s H hr hg =>
  (vb_cons (vs_bind (ve_tup (vz_cons (v_call C_law_take hr hg (by decide) (va_cons (vo_sl 0 (pv 0)) (va_cons (vo_ex ve_int) va_nil))) (vz_cons (v_call C_law_take hr hg (by decide) (va_cons (vo_sl 0 (pv 0)) (va_cons (vo_ex ve_int) va_nil))) vz_nil))) (vg_unp rfl (vgs_cons (i := 5) sc_law_names.nd rfl (by first | exact .inl rfl | exact .inr rfl) (vgs_cons (i := 6) sc_law_names.nd rfl (by first | exact .inl rfl | exact .inr rfl) vgs_nil))))
  (vb_cons (vs_asg (i := 2) sc_law_names.nd rfl (by first | exact .inl rfl | exact .inr rfl) ve_str)
  (vb_cons (vs_asg (i := 3) sc_law_names.nd rfl (by first | exact .inl rfl | exact .inr rfl) (ve_lst (vz_cons ve_str (vz_cons ve_str (vz_cons ve_str (vz_cons ve_str (vz_cons ve_str (vz_cons ve_str (vz_cons ve_str (vz_cons ve_str (vz_cons ve_str (vz_cons ve_str (vz_cons ve_str vz_nil)))))))))))))
  (vb_cons (vs_if (t_eq hr (vo_sl 5 (pv 5)) (vo_ex ve_int)) (vb_one (vs_ret (v_call C_law_mix hr hg (by decide) (va_cons (vo_sl 0 (pv 0)) (va_cons (vo_ex (v_cutA (vo_ex (v_list rfl hB.list (vo_ex ve_str))) vp_none (vp_some (ve_name 1 (pv 1))))) va_nil))))) vb_nil)
  (vb_cons (vs_if (t_eq hr (vo_sl 5 (pv 5)) (vo_ex ve_int)) (vb_one (vs_ret (v_call C_law_mix hr hg (by decide) (va_cons (vo_sl 0 (pv 0)) (va_cons (vo_ex (v_cutA (vo_ex (v_cutA (vo_ex (v_addA (vo_sl 3 (pv 3)) (vo_sl 3 (pv 3)))) (vp_some (v_mod (vo_ex (v_int hB.int (vo_sl 6 (pv 6)))) (vo_ex ve_int))) vp_none)) vp_none (vp_some (ve_name 1 (pv 1))))) va_nil))))) vb_nil)
  (vb_cons (vs_asg (i := 4) sc_law_names.nd rfl (by first | exact .inl rfl | exact .inr rfl) (ve_join (vo_ex ve_str) (vo_ex (ve_compN [("_law_k", 7)] walks_rng1 (nb_name 7) rfl sc_law_names.nd (pi_range1 (by rfl) hB.range (va_cons (vo_ex (v_call C_law_take hr hg (by decide) (va_cons (vo_sl 0 (pv 0)) (va_cons (vo_ex ve_int) va_nil)))) va_nil)) (blkOk_by (by kernel_rfl)) (fun _ _ _ _ _ => (vg_name (i := 7) sc_law_names.nd rfl (by first | exact .inl rfl | exact .inr rfl))) (fun _ _ _ _ _ => vts_nil) (fun _ _ _ _ _ => (v_ix hr (vo_sl 2 (pv 2)) (vo_ex (v_call C_law_take hr hg (by decide) (va_cons (vo_sl 0 (pv 0)) (va_cons (vo_ex ve_int) va_nil))))))))))
  (vb_one (vs_ret (v_call C_law_mix hr hg (by decide) (va_cons (vo_sl 0 (pv 0)) (va_cons (vo_ex (ve_compN [("_law_k", 7)] walks_rng1 (nb_name 7) rfl sc_law_names.nd (pi_range1 (by rfl) hB.range (va_cons (vo_sl 1 (pv 1)) va_nil)) (blkOk_by (by kernel_rfl)) (fun _ _ _ _ _ => (vg_name (i := 7) sc_law_names.nd rfl (by first | exact .inl rfl | exact .inr rfl))) (fun _ _ _ _ _ => vts_nil) (fun _ _ _ _ _ => (v_addA (vo_sl 4 (pv 4)) (vo_ex (v_ix hr (vo_sl 2 (pv 2)) (vo_ex (v_mod (vo_ex (v_int hB.int (vo_ex (v_addA (vo_sl 6 (pv 6)) (vo_ex (v_mul (vo_ex ve_int) (vo_sl 7 (pv 7)))))))) (vo_ex ve_int))))))))) va_nil)))))))))))
-- _law_pick, level 2, slots 0:_law_bag_here 1:_law_some
abbrev s_law_pick : Stmt := topS 35
theorem sc_law_pick : FnScope ["_law_bag_here", "_law_some"] ["_law_bag_here", "_law_some"] (defScope s_law_pick) :=
  ⟨rfl, rfl, rfl, by decide +kernel, rfl, by decide +kernel, by decide +kernel⟩
theorem ok_law_pick {P : Program} {w : World} {K : PySem.W.Frag} {mg : Str → Option Value} {base : Heap} {f : Addr} {fd : FuncData} (hB : Blt mg) (hK : Kls K mg) (C_law_take : Callee P w K mg base 1 "_law_take" ["_law_bag_here", "_law_many"] m_law_take)
    (Fn : Fun K "_law_pick" "_law_pick" s_law_pick f fd) (hm : mg "_law_pick" = some (.ref f)) (hb : L2.Binds K fd ["_law_bag_here", "_law_some"] []) : Callee P w K mg base 2 "_law_pick" ["_law_bag_here", "_law_some"] m_law_pick :=
  callee_mk Fn hm sc_law_pick rfl hb fun cdv A outer s H hr hg =>
  (vb_one (vs_ret (v_ix hr (vo_sl 1 (pv 1)) (vo_ex (v_call C_law_take hr hg (by decide) (va_cons (vo_sl 0 (pv 0)) (va_cons (vo_ex (v_len hB.len (vo_sl 1 (pv 1)))) va_nil)))))))
-- _law_odd_walk, level 3, slots 0:_law_bag_here 1:_law_walk_here 2:_law_things 3:_law_odd 4:_law_deep 5:_law_k 6:_law_x 7:_law_y 8:_law_way 9:_law_at 10:_law_one 11:_law_other 12:_law_truth
abbrev s_law_odd_walk : Stmt := topS 44
theorem sc_law_odd_walk : FnScope ["_law_bag_here", "_law_walk_here", "_law_things", "_law_odd", "_law_deep", "_law_k", "_law_x", "_law_y", "_law_way", "_law_at", "_law_one", "_law_other", "_law_truth"] ["_law_bag_here", "_law_walk_here", "_law_things"] (defScope s_law_odd_walk) :=
  ⟨rfl, rfl, rfl, by decide +kernel, rfl, by decide +kernel, by decide +kernel⟩
theorem ok_law_odd_walk {P : Program} {w : World} {K : PySem.W.Frag} {mg : Str → Option Value} {base : Heap} {f : Addr} {fd : FuncData} (hB : Blt mg) (hK : Kls K mg) (C_law_pairs : Callee P w K mg base 1 "_law_pairs" ["_law_things"] m_law_pairs) (C_law_pick : Callee P w K mg base 2 "_law_pick" ["_law_bag_here", "_law_some"] m_law_pick) (C_law_take : Callee P w K mg base 1 "_law_take" ["_law_bag_here", "_law_many"] m_law_take)
    (Fn : Fun K "_law_odd_walk" "_law_odd_walk" s_law_odd_walk f fd) (hm : mg "_law_odd_walk" = some (.ref f)) (hb : L2.Binds K fd ["_law_bag_here", "_law_walk_here", "_law_things"] []) : Callee P w K mg base 3 "_law_odd_walk" ["_law_bag_here", "_law_walk_here", "_law_things"] m_law_odd_walk :=
  callee_mk Fn hm sc_law_odd_walk rfl hb fun cdv A outer s H hr hg =>
  (vb_cons (vs_bind (v_call C_law_pick hr hg (by decide) (va_cons (vo_sl 0 (pv 0)) (va_cons (vo_ex (v_call C_law_pairs hr hg (by decide) (va_cons (vo_sl 2 (pv 2)) va_nil))) va_nil))) (vg_unp rfl (vgs_cons (i := 6) sc_law_odd_walk.nd rfl (by first | exact .inl rfl | exact .inr rfl) (vgs_cons (i := 7) sc_law_odd_walk.nd rfl (by first | exact .inl rfl | exact .inr rfl) vgs_nil))))
  (vb_cons (vs_asg (i := 3) sc_law_odd_walk.nd rfl (by first | exact .inl rfl | exact .inr rfl) (ve_lst (vz_cons ve_non (vz_cons ve_int (vz_cons ve_bl (vz_cons ve_str (vz_cons (ve_tup vz_nil) (vz_cons (ve_lst (vz_cons (ve_tup vz_nil) vz_nil)) (vz_cons ve_dnewK (vz_cons (v_mul (vo_ex (ve_lst (vz_cons ve_non vz_nil))) (vo_ex ve_int)) (vz_cons (ve_lst (vz_cons (ve_tup (vz_cons (ve_name 6 (pv 6)) (vz_cons (ve_name 7 (pv 7)) vz_nil))) vz_nil)) (vz_cons (ve_lst (vz_cons (ve_tup (vz_cons (ve_name 6 (pv 6)) (vz_cons (ve_name 7 (pv 7)) (vz_cons ve_int vz_nil)))) vz_nil)) (vz_cons (ve_lst (vz_cons (ve_tup (vz_cons (ve_name 6 (pv 6)) (vz_cons (ve_name 7 (pv 7)) (vz_cons ve_str vz_nil)))) vz_nil)) vz_nil)))))))))))))
  (vb_cons (vs_asg (i := 3) sc_law_odd_walk.nd rfl (by first | exact .inl rfl | exact .inr rfl) (v_addA (vo_sl 3 (pv 3)) (vo_ex (ve_lst (vz_cons (ve_lst (vz_cons (ve_lst (vz_cons (ve_name 6 (pv 6)) (vz_cons (ve_name 7 (pv 7)) (vz_cons ve_bl vz_nil)))) vz_nil)) (vz_cons (ve_lst (vz_cons (ve_tup (vz_cons (ve_name 6 (pv 6)) (vz_cons (ve_name 6 (pv 6)) (vz_cons ve_bl vz_nil)))) vz_nil)) (vz_cons (ve_lst (vz_cons (ve_tup (vz_cons (ve_name 6 (pv 6)) (vz_cons ve_str (vz_cons ve_bl vz_nil)))) vz_nil)) (vz_cons (ve_lst (vz_cons (ve_tup (vz_cons (ve_name 6 (pv 6)) (vz_cons (ve_name 7 (pv 7)) (vz_cons ve_bl (vz_cons (ve_name 6 (pv 6)) vz_nil))))) vz_nil)) (vz_cons (ve_lst (vz_cons (ve_tup (vz_cons (ve_name 6 (pv 6)) (vz_cons (ve_name 7 (pv 7)) (vz_cons ve_non vz_nil)))) vz_nil)) vz_nil)))))))))
  (vb_cons (vs_asg (i := 4) sc_law_odd_walk.nd rfl (by first | exact .inl rfl | exact .inr rfl) (ve_lst (vz_cons (ve_tup (vz_cons (ve_name 6 (pv 6)) (vz_cons (ve_name 7 (pv 7)) (vz_cons ve_bl vz_nil)))) vz_nil)))
  (vb_cons (vs_forN walks_rng1 PassesOwn.never rfl (pi_range1 (by rfl) hB.range (va_cons (vo_ex ve_int) va_nil)) (vg_name (i := 5) sc_law_odd_walk.nd rfl (by first | exact .inl rfl | exact .inr rfl)) (vb_one (vs_asg (i := 4) sc_law_odd_walk.nd rfl (by first | exact .inl rfl | exact .inr rfl) (ve_lst (vz_cons (ve_name 4 (pv 4)) vz_nil)))))
  (vb_cons (vs_asg (i := 3) sc_law_odd_walk.nd rfl (by first | exact .inl rfl | exact .inr rfl) (v_addA (vo_sl 3 (pv 3)) (vo_ex (ve_lst (vz_cons (v_tuple hB.tuple (vo_sl 1 (pv 1))) (vz_cons (ve_lst (vz_cons (ve_name 1 (pv 1)) vz_nil)) (vz_cons (ve_lst (vz_cons (ve_name 6 (pv 6)) vz_nil)) (vz_cons (ve_name 4 (pv 4)) (vz_cons (ve_lst (vz_cons (ve_tup (vz_cons (ve_name 6 (pv 6)) (vz_cons (ve_lst vz_nil) (vz_cons ve_bl vz_nil)))) vz_nil)) (vz_cons (ve_lst (vz_cons (ve_tup (vz_cons (ve_lst (vz_cons (ve_name 6 (pv 6)) vz_nil)) (vz_cons (ve_name 7 (pv 7)) (vz_cons ve_bl vz_nil)))) vz_nil)) (vz_cons (ve_lst (vz_cons (ve_tup (vz_cons (ve_name 6 (pv 6)) (vz_cons (ve_name 7 (pv 7)) (vz_cons (ve_lst vz_nil) vz_nil)))) vz_nil)) vz_nil)))))))))))
  (vb_cons (vs_expr (v_append (pv 3) (v_addA (vo_ex (v_addA (vo_ex (v_cutA (vo_sl 1 (pv 1)) vp_none (vp_some ve_int))) (vo_ex (ve_comp [("_law_one", 10), ("_law_other", 11), ("_law_truth", 12)] walks_anyK (nb_tup [10, 11, 12]) rfl sc_law_odd_walk.nd (pi_anyK (vo_ex (v_cutA (vo_sl 1 (pv 1)) (vp_some ve_int) (vp_some ve_int)))) (blkOk_by (by kernel_rfl)) (fun _ _ _ _ _ => (vg_tup rfl (vgs_cons (i := 10) sc_law_odd_walk.nd rfl (by first | exact .inl rfl | exact .inr rfl) (vgs_cons (i := 11) sc_law_odd_walk.nd rfl (by first | exact .inl rfl | exact .inr rfl) (vgs_cons (i := 12) sc_law_odd_walk.nd rfl (by first | exact .inl rfl | exact .inr rfl) vgs_nil))))) (fun _ _ _ _ _ => vts_nil) (fun _ _ _ _ _ => (ve_tup (vz_cons (ve_name 10 (pv 10)) (vz_cons (ve_name 11 (pv 11)) (vz_cons (v_int hB.int (vo_sl 12 (pv 12))) vz_nil))))))))) (vo_ex (v_cutA (vo_sl 1 (pv 1)) (vp_some ve_int) vp_none)))))
  (vb_cons (vs_expr (v_append (pv 3) (v_addA (vo_ex (ve_comp [("_law_one", 10), ("_law_other", 11), ("_law_truth", 12)] walks_anyK (nb_tup [10, 11, 12]) rfl sc_law_odd_walk.nd (pi_anyK (vo_ex (v_cutA (vo_sl 1 (pv 1)) vp_none (vp_some ve_int)))) (blkOk_by (by kernel_rfl)) (fun _ _ _ _ _ => (vg_tup rfl (vgs_cons (i := 10) sc_law_odd_walk.nd rfl (by first | exact .inl rfl | exact .inr rfl) (vgs_cons (i := 11) sc_law_odd_walk.nd rfl (by first | exact .inl rfl | exact .inr rfl) (vgs_cons (i := 12) sc_law_odd_walk.nd rfl (by first | exact .inl rfl | exact .inr rfl) vgs_nil))))) (fun _ _ _ _ _ => vts_nil) (fun _ _ _ _ _ => (ve_tup (vz_cons (ve_name 10 (pv 10)) (vz_cons (ve_name 11 (pv 11)) (vz_cons (v_int hB.int (vo_sl 12 (pv 12))) vz_nil))))))) (vo_ex (v_cutA (vo_sl 1 (pv 1)) (vp_some ve_int) vp_none)))))
  (vb_cons (vs_par (i := 8) (j := 9) rfl sc_law_odd_walk.nd rfl rfl (by decide) rfl rfl (v_call C_law_take hr hg (by decide) (va_cons (vo_sl 0 (pv 0)) (va_cons (vo_ex ve_int) va_nil))) (v_call C_law_take hr hg (by decide) (va_cons (vo_sl 0 (pv 0)) (va_cons (vo_ex (v_addA (vo_ex (v_len hB.len (vo_sl 1 (pv 1)))) (vo_ex ve_int))) va_nil))) (by rfl))
  (vb_cons (vs_if (t_lt (vo_sl 8 (pv 8)) (vo_ex ve_int)) (vb_one (vs_ret (v_ix hr (vo_sl 3 (pv 3)) (vo_ex (v_call C_law_take hr hg (by decide) (va_cons (vo_sl 0 (pv 0)) (va_cons (vo_ex ve_int) va_nil))))))) vb_nil)
  (vb_cons (vs_if (t_eq hr (vo_sl 8 (pv 8)) (vo_ex ve_int)) (vb_one (vs_ret (v_rev (vo_sl 1 (pv 1))))) vb_nil)
  (vb_cons (vs_if (t_eq hr (vo_sl 8 (pv 8)) (vo_ex ve_int)) (vb_one (vs_ret (v_addA (vo_ex (v_addA (vo_ex (v_cutA (vo_sl 1 (pv 1)) vp_none (vp_some (ve_name 9 (pv 9))))) (vo_ex (ve_lst (vz_cons (ve_tup (vz_cons (ve_name 6 (pv 6)) (vz_cons (ve_name 7 (pv 7)) (vz_cons (v_eq hr (vo_ex (v_call C_law_take hr hg (by decide) (va_cons (vo_sl 0 (pv 0)) (va_cons (vo_ex ve_int) va_nil)))) (vo_ex ve_int)) vz_nil)))) vz_nil))))) (vo_ex (v_cutA (vo_sl 1 (pv 1)) (vp_some (ve_name 9 (pv 9))) vp_none))))) vb_nil)
  (vb_cons (vs_if (t_eq hr (vo_sl 8 (pv 8)) (vo_ex ve_int)) (vb_one (vs_ret (v_addA (vo_ex (v_cutA (vo_sl 1 (pv 1)) vp_none (vp_some (ve_name 9 (pv 9))))) (vo_ex (v_cutA (vo_sl 1 (pv 1)) (vp_some (v_addA (vo_sl 9 (pv 9)) (vo_ex ve_int))) vp_none))))) vb_nil)
  (vb_cons (vs_if (t_eq hr (vo_sl 8 (pv 8)) (vo_ex ve_int)) (vb_one (vs_ret (v_addA (vo_sl 1 (pv 1)) (vo_ex (v_cutA (vo_sl 1 (pv 1)) vp_none (vp_some (ve_name 9 (pv 9)))))))) vb_nil)
  (vb_cons (vs_if (t_eq hr (vo_sl 8 (pv 8)) (vo_ex ve_int)) (vb_one (vs_ret (v_addA (vo_ex (v_addA (vo_ex (v_cutA (vo_sl 1 (pv 1)) vp_none (vp_some (ve_name 9 (pv 9))))) (vo_ex (ve_comp [("_law_one", 10), ("_law_other", 11), ("_law_truth", 12)] walks_anyK (nb_tup [10, 11, 12]) rfl sc_law_odd_walk.nd (pi_anyK (vo_ex (v_cutA (vo_sl 1 (pv 1)) (vp_some (ve_name 9 (pv 9))) (vp_some (v_addA (vo_sl 9 (pv 9)) (vo_ex ve_int)))))) (blkOk_by (by kernel_rfl)) (fun _ _ _ _ _ => (vg_tup rfl (vgs_cons (i := 10) sc_law_odd_walk.nd rfl (by first | exact .inl rfl | exact .inr rfl) (vgs_cons (i := 11) sc_law_odd_walk.nd rfl (by first | exact .inl rfl | exact .inr rfl) (vgs_cons (i := 12) sc_law_odd_walk.nd rfl (by first | exact .inl rfl | exact .inr rfl) vgs_nil))))) (fun _ _ _ _ _ => vts_nil) (fun _ _ _ _ _ => (ve_tup (vz_cons (ve_name 10 (pv 10)) (vz_cons (ve_name 11 (pv 11)) (vz_cons (ve_not (ve_name 12 (pv 12))) vz_nil))))))))) (vo_ex (v_cutA (vo_sl 1 (pv 1)) (vp_some (v_addA (vo_sl 9 (pv 9)) (vo_ex ve_int))) vp_none))))) vb_nil)
  (vb_one (vs_ret (v_addA (vo_ex (v_cutA (vo_sl 1 (pv 1)) (vp_some (ve_name 9 (pv 9))) vp_none)) (vo_ex (v_cutA (vo_sl 1 (pv 1)) vp_none (vp_some (ve_name 9 (pv 9)))))))))))))))))))))))
-- _law_walk, level 3, slots 0:_law_bag_here 1:_law_answers 2:_law_many 3:_law_walk_here 4:_law_k 5:_law_after 6:_law_one
abbrev s_law_walk : Stmt := topS 42
theorem sc_law_walk : FnScope ["_law_bag_here", "_law_answers", "_law_many", "_law_walk_here", "_law_k", "_law_after", "_law_one"] ["_law_bag_here", "_law_answers", "_law_many"] (defScope s_law_walk) :=
  ⟨rfl, rfl, rfl, by decide +kernel, rfl, by decide +kernel, by decide +kernel⟩
theorem ok_law_walk {P : Program} {w : World} {K : PySem.W.Frag} {mg : Str → Option Value} {base : Heap} {f : Addr} {fd : FuncData} (hB : Blt mg) (hK : Kls K mg) (C_law_leads : Callee P w K mg base 1 "_law_leads" ["_law_answer"] m_law_leads) (C_law_pick : Callee P w K mg base 2 "_law_pick" ["_law_bag_here", "_law_some"] m_law_pick) (C_law_take : Callee P w K mg base 1 "_law_take" ["_law_bag_here", "_law_many"] m_law_take)
    (Fn : Fun K "_law_walk" "_law_walk" s_law_walk f fd) (hm : mg "_law_walk" = some (.ref f)) (hb : L2.Binds K fd ["_law_bag_here", "_law_answers", "_law_many"] []) : Callee P w K mg base 3 "_law_walk" ["_law_bag_here", "_law_answers", "_law_many"] m_law_walk :=
  callee_mk Fn hm sc_law_walk rfl hb fun cdv A outer s H hr hg =>
  (vb_cons (vs_asg (i := 3) sc_law_walk.nd rfl (by first | exact .inl rfl | exact .inr rfl) (ve_lst vz_nil))
  (vb_cons (vs_forN walks_rng1 PassesOwn.never rfl (pi_range1 (by rfl) hB.range (va_cons (vo_ex (v_call C_law_take hr hg (by decide) (va_cons (vo_sl 0 (pv 0)) (va_cons (vo_ex (v_addA (vo_sl 2 (pv 2)) (vo_ex ve_int))) va_nil)))) va_nil)) (vg_name (i := 4) sc_law_walk.nd rfl (by first | exact .inl rfl | exact .inr rfl)) (vb_cons (vs_setComp (i := 5) [("_law_one", 6)] walks_anyK (nb_name 6) rfl sc_law_walk.nd rfl rfl (sw_true rfl rfl rfl (by decide +kernel)) (pi_anyK (vo_sl 1 (pv 1))) (blkOk_by (by kernel_rfl)) (fun _ _ _ _ _ => (vg_name (i := 6) sc_law_walk.nd rfl (by first | exact .inl rfl | exact .inr rfl))) (fun _ _ _ _ _ => (vts_one (PW.pt (vw_or (t_eq hr (vo_sl 3 (pv 3)) (vo_ex (ve_lst vz_nil))) (vw_or1 (t_eq hr (vo_ex (v_ix hr (vo_ex (v_call C_law_leads hr hg (by decide) (va_cons (vo_sl 6 (pv 6)) va_nil))) (vo_ex ve_int))) (vo_ex (v_ix hr (vo_ex (v_call C_law_leads hr hg (by decide) (va_cons (vo_ex (v_ix hr (vo_sl 3 (pv 3)) (vo_ex (v_neg (vo_ex ve_int))))) va_nil))) (vo_ex ve_int))))))))) (fun _ _ _ _ _ => (ve_name 6 (pv 6))))
  (vb_one (vs_if (t_ne hr (vo_sl 5 (pv 5)) (vo_ex (ve_lst vz_nil))) (vb_one (vs_expr (v_append (pv 3) (v_call C_law_pick hr hg (by decide) (va_cons (vo_sl 0 (pv 0)) (va_cons (vo_sl 5 (pv 5)) va_nil)))))) vb_nil))))
  (vb_one (vs_retN 3 (pv 3)))))
-- _law_rounds, level 4, slots 0:_law_bag_here 1:_law_answers 2:_law_found 3:_law_k 4:_law_walk_here
abbrev s_law_rounds : Stmt := topS 46
theorem sc_law_rounds : FnScope ["_law_bag_here", "_law_answers", "_law_found", "_law_k", "_law_walk_here"] ["_law_bag_here", "_law_answers"] (defScope s_law_rounds) :=
  ⟨rfl, rfl, rfl, by decide +kernel, rfl, by decide +kernel, by decide +kernel⟩
theorem ok_law_rounds {P : Program} {w : World} {K : PySem.W.Frag} {mg : Str → Option Value} {base : Heap} {f : Addr} {fd : FuncData} (hB : Blt mg) (hK : Kls K mg) (C_law_leads : Callee P w K mg base 1 "_law_leads" ["_law_answer"] m_law_leads) (C_law_walk : Callee P w K mg base 3 "_law_walk" ["_law_bag_here", "_law_answers", "_law_many"] m_law_walk)
    (Fn : Fun K "_law_rounds" "_law_rounds" s_law_rounds f fd) (hm : mg "_law_rounds" = some (.ref f)) (hb : L2.Binds K fd ["_law_bag_here", "_law_answers"] []) : Callee P w K mg base 4 "_law_rounds" ["_law_bag_here", "_law_answers"] m_law_rounds :=
  callee_mk Fn hm sc_law_rounds rfl hb fun cdv A outer s H hr hg =>
  (vb_cons (vs_asg (i := 2) sc_law_rounds.nd rfl (by first | exact .inl rfl | exact .inr rfl) (ve_lst vz_nil))
  (vb_cons (vs_forN walks_rng1 PassesOwn.never rfl (pi_range1 (by rfl) hB.range (va_cons (vo_ex ve_int) va_nil)) (vg_name (i := 3) sc_law_rounds.nd rfl (by first | exact .inl rfl | exact .inr rfl)) (vb_cons (vs_asg (i := 4) sc_law_rounds.nd rfl (by first | exact .inl rfl | exact .inr rfl) (v_call C_law_walk hr hg (by decide) (va_cons (vo_sl 0 (pv 0)) (va_cons (vo_sl 1 (pv 1)) (va_cons (vo_ex ve_int) va_nil)))))
  (vb_one (vs_if (PW.pt (vw_and (t_ne hr (vo_sl 4 (pv 4)) (vo_ex (ve_lst vz_nil))) (vw_and1 (t_eq hr (vo_ex (v_ix hr (vo_ex (v_call C_law_leads hr hg (by decide) (va_cons (vo_ex (v_ix hr (vo_sl 4 (pv 4)) (vo_ex ve_int))) va_nil))) (vo_ex ve_int))) (vo_ex (v_ix hr (vo_ex (v_call C_law_leads hr hg (by decide) (va_cons (vo_ex (v_ix hr (vo_sl 4 (pv 4)) (vo_ex (v_neg (vo_ex ve_int))))) va_nil))) (vo_ex ve_int))))))) (vb_one (vs_expr (v_append (pv 2) (ve_name 4 (pv 4))))) vb_nil))))
  (vb_one (vs_retN 2 (pv 2)))))
-- ends_of, level 1, slots 0:answer 1:x 2:y 3:truth
abbrev s_ends_of : Stmt := topS 17
theorem sc_ends_of : FnScope ["answer", "x", "y", "truth"] ["answer"] (defScope s_ends_of) :=
  ⟨rfl, rfl, rfl, by decide +kernel, rfl, by decide +kernel, by decide +kernel⟩
theorem ok_ends_of {P : Program} {w : World} {K : PySem.W.Frag} {mg : Str → Option Value} {base : Heap} {f : Addr} {fd : FuncData} (hB : Blt mg) (hK : Kls K mg) 
    (Fn : Fun K "ends_of" "ends_of" s_ends_of f fd) (hm : mg "ends_of" = some (.ref f)) (hb : L2.Binds K fd ["answer"] []) : Callee P w K mg base 1 "ends_of" ["answer"] m_ends_of :=
  callee_mk Fn hm sc_ends_of rfl hb fun cdv A outer s H hr hg =>
  (vb_cons (vs_bind (ve_name 0 (pv 0)) (vg_unp rfl (vgs_cons (i := 1) sc_ends_of.nd rfl (by first | exact .inl rfl | exact .inr rfl) (vgs_cons (i := 2) sc_ends_of.nd rfl (by first | exact .inl rfl | exact .inr rfl) (vgs_cons (i := 3) sc_ends_of.nd rfl (by first | exact .inl rfl | exact .inr rfl) vgs_nil)))))
  (vb_one (vs_ret (ve_if (vt_val (ve_name 3 (pv 3))) (ve_tup (vz_cons (ve_name 1 (pv 1)) (vz_cons (ve_name 2 (pv 2)) vz_nil))) (ve_tup (vz_cons (ve_name 2 (pv 2)) (vz_cons (ve_name 1 (pv 1)) vz_nil)))))))
-- is_name, level 1, slots 0:thing 1:sign
abbrev s_is_name : Stmt := topS 10
theorem sc_is_name : FnScope ["thing", "sign"] ["thing"] (defScope s_is_name) :=
  ⟨rfl, rfl, rfl, by decide +kernel, rfl, by decide +kernel, by decide +kernel⟩
theorem ok_is_name {P : Program} {w : World} {K : PySem.W.Frag} {mg : Str → Option Value} {base : Heap} {f : Addr} {fd : FuncData} (hB : Blt mg) (hK : Kls K mg) 
    (Fn : Fun K "is_name" "is_name" s_is_name f fd) (hm : mg "is_name" = some (.ref f)) (hb : L2.Binds K fd ["thing"] []) : Callee P w K mg base 1 "is_name" ["thing"] (m_is_name isT) :=
  callee_mk Fn hm sc_is_name rfl hb fun cdv A outer s H hr hg =>
  (vb_cons (vs_if (PW.pt (vw_or (vt_not (vt_val (v_isi hK.isT hB.isinstance (vo_sl 0 (pv 0)) (vo_ex (v_ty hB.str (by decide +kernel)))))) (vw_or1 (vt_not (t_leLe (vo_ex ve_int) (vo_ex (v_len hB.len (vo_sl 0 (pv 0)))) (vo_ex (v_gint hB.c_LONGEST))))))) (vb_one (vs_ret ve_bl)) vb_nil)
  (vb_one (vs_ret (v_all rfl hB.all (vo_ex (ve_comp [("sign", 1)] walks_anyK (nb_name 1) rfl sc_is_name.nd (pi_anyK (vo_sl 0 (pv 0))) (blkOk_by (by kernel_rfl)) (fun _ _ _ _ _ => (vg_name (i := 1) sc_is_name.nd rfl (by first | exact .inl rfl | exact .inr rfl))) (fun _ _ _ _ _ => vts_nil) (fun _ _ _ _ _ => (v_inA hr (vo_sl 1 (pv 1)) (vo_ex (v_gstr hB.c_LETTERS))))))))))
-- are_names, level 2, slots 0:thing 1:one
abbrev s_are_names : Stmt := topS 11
theorem sc_are_names : FnScope ["thing", "one"] ["thing"] (defScope s_are_names) :=
  ⟨rfl, rfl, rfl, by decide +kernel, rfl, by decide +kernel, by decide +kernel⟩
theorem ok_are_names {P : Program} {w : World} {K : PySem.W.Frag} {mg : Str → Option Value} {base : Heap} {f : Addr} {fd : FuncData} (hB : Blt mg) (hK : Kls K mg) (C_is_name : Callee P w K mg base 1 "is_name" ["thing"] (m_is_name isT))
    (Fn : Fun K "are_names" "are_names" s_are_names f fd) (hm : mg "are_names" = some (.ref f)) (hb : L2.Binds K fd ["thing"] []) : Callee P w K mg base 2 "are_names" ["thing"] (m_are_names isT) :=
  callee_mk Fn hm sc_are_names rfl hb fun cdv A outer s H hr hg =>
  (vb_cons (vs_if (PW.pt (vw_or (vt_not (vt_val (v_isi hK.isT hB.isinstance (vo_sl 0 (pv 0)) (vo_ex (ve_tup (vz_cons (v_ty hB.list (by decide +kernel)) (vz_cons (v_ty hB.tuple (by decide +kernel)) vz_nil))))))) (vw_or1 (vt_not (vt_val (v_all rfl hB.all (vo_ex (ve_comp [("one", 1)] walks_anyK (nb_name 1) rfl sc_are_names.nd (pi_anyK (vo_sl 0 (pv 0))) (blkOk_by (by kernel_rfl)) (fun _ _ _ _ _ => (vg_name (i := 1) sc_are_names.nd rfl (by first | exact .inl rfl | exact .inr rfl))) (fun _ _ _ _ _ => vts_nil) (fun _ _ _ _ _ => (v_call C_is_name hr hg (by decide) (va_cons (vo_sl 1 (pv 1)) va_nil))))))))))) (vb_one (vs_ret ve_bl)) vb_nil)
  (vb_one (vs_ret (v_eq hr (vo_ex (v_lenSet rfl hB.len hB.set (vo_sl 0 (pv 0)))) (vo_ex (v_len hB.len (vo_sl 0 (pv 0))))))))
-- is_pair, level 3, slots 0:thing
abbrev s_is_pair : Stmt := topS 12
theorem sc_is_pair : FnScope ["thing"] ["thing"] (defScope s_is_pair) :=
  ⟨rfl, rfl, rfl, by decide +kernel, rfl, by decide +kernel, by decide +kernel⟩
theorem ok_is_pair {P : Program} {w : World} {K : PySem.W.Frag} {mg : Str → Option Value} {base : Heap} {f : Addr} {fd : FuncData} (hB : Blt mg) (hK : Kls K mg) (C_are_names : Callee P w K mg base 2 "are_names" ["thing"] (m_are_names isT))
    (Fn : Fun K "is_pair" "is_pair" s_is_pair f fd) (hm : mg "is_pair" = some (.ref f)) (hb : L2.Binds K fd ["thing"] []) : Callee P w K mg base 3 "is_pair" ["thing"] (m_is_pair isT) :=
  callee_mk Fn hm sc_is_pair rfl hb fun cdv A outer s H hr hg =>
  (vb_one (vs_ret (ve_and (v_isi hK.isT hB.isinstance (vo_sl 0 (pv 0)) (vo_ex (v_ty hB.tuple (by decide +kernel)))) (ve_and (v_eq hr (vo_ex (v_len hB.len (vo_sl 0 (pv 0)))) (vo_ex ve_int)) (ve_one (v_call C_are_names hr hg (by decide) (va_cons (vo_sl 0 (pv 0)) va_nil)))))))
-- is_answer, level 4, slots 0:thing
abbrev s_is_answer : Stmt := topS 13
theorem sc_is_answer : FnScope ["thing"] ["thing"] (defScope s_is_answer) :=
  ⟨rfl, rfl, rfl, by decide +kernel, rfl, by decide +kernel, by decide +kernel⟩
theorem ok_is_answer {P : Program} {w : World} {K : PySem.W.Frag} {mg : Str → Option Value} {base : Heap} {f : Addr} {fd : FuncData} (hB : Blt mg) (hK : Kls K mg) (C_is_pair : Callee P w K mg base 3 "is_pair" ["thing"] (m_is_pair isT))
    (Fn : Fun K "is_answer" "is_answer" s_is_answer f fd) (hm : mg "is_answer" = some (.ref f)) (hb : L2.Binds K fd ["thing"] []) : Callee P w K mg base 4 "is_answer" ["thing"] (m_is_answer isT) :=
  callee_mk Fn hm sc_is_answer rfl hb fun cdv A outer s H hr hg =>
  (vb_one (vs_ret (ve_and (v_isi hK.isT hB.isinstance (vo_sl 0 (pv 0)) (vo_ex (v_ty hB.tuple (by decide +kernel)))) (ve_and (v_eq hr (vo_ex (v_len hB.len (vo_sl 0 (pv 0)))) (vo_ex ve_int)) (ve_and (v_call C_is_pair hr hg (by decide) (va_cons (vo_ex (v_cutA (vo_sl 0 (pv 0)) vp_none (vp_some ve_int))) va_nil)) (ve_one (v_isi hK.isT hB.isinstance (vo_ex (v_ix hr (vo_sl 0 (pv 0)) (vo_ex ve_int))) (vo_ex (v_ty hB.bool (by decide +kernel))))))))))
-- pair_of, level 1, slots 0:answer
abbrev s_pair_of : Stmt := topS 15
theorem sc_pair_of : FnScope ["answer"] ["answer"] (defScope s_pair_of) :=
  ⟨rfl, rfl, rfl, by decide +kernel, rfl, by decide +kernel, by decide +kernel⟩
theorem ok_pair_of {P : Program} {w : World} {K : PySem.W.Frag} {mg : Str → Option Value} {base : Heap} {f : Addr} {fd : FuncData} (hB : Blt mg) (hK : Kls K mg) 
    (Fn : Fun K "pair_of" "pair_of" s_pair_of f fd) (hm : mg "pair_of" = some (.ref f)) (hb : L2.Binds K fd ["answer"] []) : Callee P w K mg base 1 "pair_of" ["answer"] m_pair_of :=
  callee_mk Fn hm sc_pair_of rfl hb fun cdv A outer s H hr hg =>
  (vb_one (vs_ret (v_cutA (vo_sl 0 (pv 0)) vp_none (vp_some ve_int))))
-- Book.__contains__, level 5, slots 0:self 1:thing
abbrev s_Book_contains : Stmt := inClass (topS 30) 11
theorem sc_Book_contains : FnScope ["self", "thing"] ["self", "thing"] (defScope s_Book_contains) :=
  ⟨rfl, rfl, rfl, by decide +kernel, rfl, by decide +kernel, by decide +kernel⟩
theorem ok_Book_contains {P : Program} {w : World} {K : PySem.W.Frag} {mg : Str → Option Value} {base : Heap} {f : Addr} {fd : FuncData} (hB : Blt mg) (hK : Kls K mg) (C_is_answer : Callee P w K mg base 4 "is_answer" ["thing"] (m_is_answer isT)) (C_pair_of : Callee P w K mg base 1 "pair_of" ["answer"] m_pair_of) {C : Addr}
    (Fn : Fun K "__contains__" "Book.__contains__" s_Book_contains f fd) (hC : clsA K "Book" = some C) (h1 : PySem.W.findIn K (.ref C) "__contains__" = some (some (.ref f))) (h2 : PySem.W.isFn K (.ref f) = true) (h3 : PySem.W.fnIn K f = true) (h4 : PySem.W.selfFirst K C = true) (h5 : PySem.W.noSeq K C = true) (hb : L2.Binds K fd ["self", "thing"] []) : Spc P w K mg base 5 2 "__contains__" "Book" (m_Book_contains isT) :=
  spc_mk Fn hC h1 h2 h3 h4 h5 sc_Book_contains rfl hb fun cdv A outer s H hr hg =>
  (vb_one (vs_ret (ve_and (v_call C_is_answer hr hg (by decide) (va_cons (vo_sl 1 (pv 1)) va_nil)) (ve_one (v_eq hr (vo_ex (v_get1 hr (vo_ex (ve_fld hK.f_its_truths (vo_sl 0 (pv 0)))) (vo_ex (v_call C_pair_of hr hg (by decide) (va_cons (vo_sl 1 (pv 1)) va_nil))))) (vo_ex (v_ix hr (vo_sl 1 (pv 1)) (vo_ex ve_int))))))))
-- is_walk, level 6, slots 0:book 1:thing 2:one 3:other 4:item
abbrev s_is_walk : Stmt := topS 19
theorem sc_is_walk : FnScope ["book", "thing", "one", "other", "item"] ["book", "thing"] (defScope s_is_walk) :=
  ⟨rfl, rfl, rfl, by decide +kernel, rfl, by decide +kernel, by decide +kernel⟩
theorem ok_is_walk {P : Program} {w : World} {K : PySem.W.Frag} {mg : Str → Option Value} {base : Heap} {f : Addr} {fd : FuncData} (hB : Blt mg) (hK : Kls K mg) (C_ends_of : Callee P w K mg base 1 "ends_of" ["answer"] m_ends_of) (C_Book_contains : Spc P w K mg base 5 2 "__contains__" "Book" (m_Book_contains isT))
    (Fn : Fun K "is_walk" "is_walk" s_is_walk f fd) (hm : mg "is_walk" = some (.ref f)) (hb : L2.Binds K fd ["book", "thing"] []) : Callee P w K mg base 6 "is_walk" ["book", "thing"] (m_is_walk isT) :=
  callee_mk Fn hm sc_is_walk rfl hb fun cdv A outer s H hr hg =>
  (vb_cons (vs_if (PW.pt (vw_or (vt_not (vt_val (v_isi hK.isT hB.isinstance (vo_sl 1 (pv 1)) (vo_ex (v_ty hB.list (by decide +kernel)))))) (vw_or1 (vt_not (vt_val (v_all rfl hB.all (vo_ex (ve_comp [("item", 4)] walks_anyK (nb_name 4) rfl sc_is_walk.nd (pi_anyK (vo_sl 1 (pv 1))) (blkOk_by (by kernel_rfl)) (fun _ _ _ _ _ => (vg_name (i := 4) sc_is_walk.nd rfl (by first | exact .inl rfl | exact .inr rfl))) (fun _ _ _ _ _ => vts_nil) (fun _ _ _ _ _ => (v_inI (tb1_all C_Book_contains) hr hg (by decide) (vo_sl 4 (pv 4)) (vo_sl 0 (pv 0)))))))))))) (vb_one (vs_ret ve_bl)) vb_nil)
  (vb_one (vs_ret (v_all rfl hB.all (vo_ex (ve_compZ [("one", 2), ("other", 3)] walks_zip (nb_tup [2, 3]) rfl sc_is_walk.nd (pi_zip (by rfl) hB.zip (vz_cons (ve_name 1 (pv 1)) (vz_cons (v_cutA (vo_sl 1 (pv 1)) (vp_some ve_int) vp_none) vz_nil))) (blkOk_by (by kernel_rfl)) (fun _ _ _ _ _ => (vg_tup rfl (vgs_cons (i := 2) sc_is_walk.nd rfl (by first | exact .inl rfl | exact .inr rfl) (vgs_cons (i := 3) sc_is_walk.nd rfl (by first | exact .inl rfl | exact .inr rfl) vgs_nil)))) (fun _ _ _ _ _ => vts_nil) (fun _ _ _ _ _ => (v_eq hr (vo_ex (v_ix hr (vo_ex (v_call C_ends_of hr hg (by decide) (va_cons (vo_sl 2 (pv 2)) va_nil))) (vo_ex ve_int))) (vo_ex (v_ix hr (vo_ex (v_call C_ends_of hr hg (by decide) (va_cons (vo_sl 3 (pv 3)) va_nil))) (vo_ex ve_int)))))))))))
-- weight_of, level 1, slots 0:walk 1:betters 2:answer
abbrev s_weight_of : Stmt := topS 20
theorem sc_weight_of : FnScope ["walk", "betters", "answer"] ["walk"] (defScope s_weight_of) :=
  ⟨rfl, rfl, rfl, by decide +kernel, rfl, by decide +kernel, by decide +kernel⟩
theorem ok_weight_of {P : Program} {w : World} {K : PySem.W.Frag} {mg : Str → Option Value} {base : Heap} {f : Addr} {fd : FuncData} (hB : Blt mg) (hK : Kls K mg) 
    (Fn : Fun K "weight_of" "weight_of" s_weight_of f fd) (hm : mg "weight_of" = some (.ref f)) (hb : L2.Binds K fd ["walk"] []) : Callee P w K mg base 1 "weight_of" ["walk"] m_weight_of :=
  callee_mk Fn hm sc_weight_of rfl hb fun cdv A outer s H hr hg =>
  (vb_cons (vs_asg (i := 1) sc_weight_of.nd rfl (by first | exact .inl rfl | exact .inr rfl) (v_len hB.len (vo_ex (ve_comp [("answer", 2)] walks_anyK (nb_name 2) rfl sc_weight_of.nd (pi_anyK (vo_sl 0 (pv 0))) (blkOk_by (by kernel_rfl)) (fun _ _ _ _ _ => (vg_name (i := 2) sc_weight_of.nd rfl (by first | exact .inl rfl | exact .inr rfl))) (fun _ _ _ _ _ => (vts_one (vt_val (v_ix hr (vo_sl 2 (pv 2)) (vo_ex ve_int))))) (fun _ _ _ _ _ => ve_int)))))
  (vb_one (vs_ret (ve_tup (vz_cons (v_sub (vo_ex (v_mul (vo_ex ve_int) (vo_sl 1 (pv 1)))) (vo_ex (v_len hB.len (vo_sl 0 (pv 0))))) (vz_cons (ve_name 1 (pv 1)) vz_nil))))))
-- is_ring, level 7, slots 0:book 1:thing
abbrev s_is_ring : Stmt := topS 28
theorem sc_is_ring : FnScope ["book", "thing"] ["book", "thing"] (defScope s_is_ring) :=
  ⟨rfl, rfl, rfl, by decide +kernel, rfl, by decide +kernel, by decide +kernel⟩
theorem ok_is_ring {P : Program} {w : World} {K : PySem.W.Frag} {mg : Str → Option Value} {base : Heap} {f : Addr} {fd : FuncData} (hB : Blt mg) (hK : Kls K mg) (C_ends_of : Callee P w K mg base 1 "ends_of" ["answer"] m_ends_of) (C_is_walk : Callee P w K mg base 6 "is_walk" ["book", "thing"] (m_is_walk isT)) (C_weight_of : Callee P w K mg base 1 "weight_of" ["walk"] m_weight_of)
    (Fn : Fun K "is_ring" "is_ring" s_is_ring f fd) (hm : mg "is_ring" = some (.ref f)) (hb : L2.Binds K fd ["book", "thing"] []) : Callee P w K mg base 7 "is_ring" ["book", "thing"] (m_is_ring isT) :=
  callee_mk Fn hm sc_is_ring rfl hb fun cdv A outer s H hr hg =>
  (vb_cons (vs_if (PW.pt (vw_or (vt_not (vt_val (v_call C_is_walk hr hg (by decide) (va_cons (vo_sl 0 (pv 0)) (va_cons (vo_sl 1 (pv 1)) va_nil))))) (vw_or1 (t_eq hr (vo_sl 1 (pv 1)) (vo_ex (ve_lst vz_nil)))))) (vb_one (vs_ret ve_bl)) vb_nil)
  (vb_one (vs_ret (ve_and (v_eq hr (vo_ex (v_ix hr (vo_ex (v_call C_ends_of hr hg (by decide) (va_cons (vo_ex (v_ix hr (vo_sl 1 (pv 1)) (vo_ex ve_int))) va_nil))) (vo_ex ve_int))) (vo_ex (v_ix hr (vo_ex (v_call C_ends_of hr hg (by decide) (va_cons (vo_ex (v_ix hr (vo_sl 1 (pv 1)) (vo_ex (v_neg (vo_ex ve_int))))) va_nil))) (vo_ex ve_int)))) (ve_one (v_ge (vo_ex (v_ix hr (vo_ex (v_call C_weight_of hr hg (by decide) (va_cons (vo_sl 1 (pv 1)) va_nil))) (vo_ex ve_int))) (vo_ex ve_int)))))))
-- Book.answers, level 1, slots 0:self
abbrev s_Book_answers : Stmt := inClass (topS 30) 2
theorem sc_Book_answers : FnScope ["self"] ["self"] (defScope s_Book_answers) :=
  ⟨rfl, rfl, rfl, by decide +kernel, rfl, by decide +kernel, by decide +kernel⟩
theorem ok_Book_answers {P : Program} {w : World} {K : PySem.W.Frag} {mg : Str → Option Value} {base : Heap} {f : Addr} {fd : FuncData} (hB : Blt mg) (hK : Kls K mg)  {C : Addr}
    (Fn : Fun K "answers" "Book.answers" s_Book_answers f fd) (hC : clsA K "Book" = some C) (cl : Cls K C) (hm : Meth K C "answers" f) (hb : L2.Binds K fd ["self"] []) : Mth P w K mg base 1 1 "answers" "Book" m_Book_answers :=
  mth_mk Fn hC cl hm sc_Book_answers rfl hb fun cdv A outer s H hr hg =>
  (vb_one (vs_ret (v_list rfl hB.list (vo_ex (ve_fld hK.f_its_answers (vo_sl 0 (pv 0)))))))
-- Book.things, level 1, slots 0:self
abbrev s_Book_things : Stmt := inClass (topS 30) 1
theorem sc_Book_things : FnScope ["self"] ["self"] (defScope s_Book_things) :=
  ⟨rfl, rfl, rfl, by decide +kernel, rfl, by decide +kernel, by decide +kernel⟩
theorem ok_Book_things {P : Program} {w : World} {K : PySem.W.Frag} {mg : Str → Option Value} {base : Heap} {f : Addr} {fd : FuncData} (hB : Blt mg) (hK : Kls K mg)  {C : Addr}
    (Fn : Fun K "things" "Book.things" s_Book_things f fd) (hC : clsA K "Book" = some C) (cl : Cls K C) (hm : Meth K C "things" f) (hb : L2.Binds K fd ["self"] []) : Mth P w K mg base 1 1 "things" "Book" m_Book_things :=
  mth_mk Fn hC cl hm sc_Book_things rfl hb fun cdv A outer s H hr hg =>
  (vb_one (vs_ret (v_list rfl hB.list (vo_ex (ve_fld hK.f_its_things (vo_sl 0 (pv 0)))))))
-- is_possible, level 2, slots 0:book 1:known 2:answer 3:middle 4:things 5:much 6:steps 7:here 8:there 9:thing
abbrev s_is_possible : Stmt := topS 23
theorem sc_is_possible : FnScope ["book", "known", "answer", "middle", "things", "much", "steps", "here", "there", "thing"] ["book"] (defScope s_is_possible) :=
  ⟨rfl, rfl, rfl, by decide +kernel, rfl, by decide +kernel, by decide +kernel⟩
theorem ok_is_possible {P : Program} {w : World} {K : PySem.W.Frag} {mg : Str → Option Value} {base : Heap} {f : Addr} {fd : FuncData} (hB : Blt mg) (hK : Kls K mg) (C_ends_of : Callee P w K mg base 1 "ends_of" ["answer"] m_ends_of) (C_Book_answers : Mth P w K mg base 1 1 "answers" "Book" m_Book_answers) (C_Book_things : Mth P w K mg base 1 1 "things" "Book" m_Book_things)
    (Fn : Fun K "is_possible" "is_possible" s_is_possible f fd) (hm : mg "is_possible" = some (.ref f)) (hb : L2.Binds K fd ["book"] []) : Callee P w K mg base 2 "is_possible" ["book"] m_is_possible :=
  callee_mk Fn hm sc_is_possible rfl hb fun cdv A outer s H hr hg =>
  (vb_cons (vs_par (i := 4) (j := 5) rfl sc_is_possible.nd rfl rfl (by decide) rfl rfl (ve_meth0 (tb1_all C_Book_things) hr hg (by decide) (vo_sl 0 (pv 0))) (v_addA (vo_ex (v_len hB.len (vo_ex (ve_meth0 (tb1_all C_Book_things) hr hg (by decide) (vo_sl 0 (pv 0)))))) (vo_ex ve_int)) (by rfl))
  (vb_cons (vs_asg (i := 1) sc_is_possible.nd rfl (by first | exact .inl rfl | exact .inr rfl) (ve_dcomp true [("thing", 9)] walks_anyK (nb_name 9) hr rfl sc_is_possible.nd (pi_anyK (vo_sl 4 (pv 4))) (blkOk_by (by kernel_rfl)) (fun _ _ _ _ _ => (vg_name (i := 9) sc_is_possible.nd rfl (by first | exact .inl rfl | exact .inr rfl))) (fun _ _ _ _ _ => vts_nil) (fun _ _ _ _ _ => (ve_tup (vz_cons (ve_name 9 (pv 9)) (vz_cons (ve_name 9 (pv 9)) vz_nil)))) (fun _ _ _ _ _ => ve_int)))
  (vb_cons (vs_for walks_anyK PassesOwn.never rfl (pi_anyK (vo_ex (ve_meth0 (tb1_all C_Book_answers) hr hg (by decide) (vo_sl 0 (pv 0))))) (vg_name (i := 2) sc_is_possible.nd rfl (by first | exact .inl rfl | exact .inr rfl)) (vb_cons (vs_asg (i := 6) sc_is_possible.nd rfl (by first | exact .inl rfl | exact .inr rfl) (ve_if (vt_val (v_ix hr (vo_sl 2 (pv 2)) (vo_ex ve_int))) (v_addA (vo_sl 5 (pv 5)) (vo_ex ve_int)) (v_neg (vo_sl 5 (pv 5)))))
  (vb_one (vs_set set_a (set_any hr) (v_max2 rfl hB.max (vo_sl 6 (pv 6)) (vo_ex (v_get2 hr (vo_sl 1 (pv 1)) (vo_ex (v_call C_ends_of hr hg (by decide) (va_cons (vo_sl 2 (pv 2)) va_nil))) (ve_name 6 (pv 6))))) (pv 1) (v_call C_ends_of hr hg (by decide) (va_cons (vo_sl 2 (pv 2)) va_nil))))))
  (vb_cons (vs_for walks_anyK PassesOwn.never rfl (pi_anyK (vo_sl 4 (pv 4))) (vg_name (i := 3) sc_is_possible.nd rfl (by first | exact .inl rfl | exact .inr rfl)) (vb_cons (vs_for walks_anyK PassesOwn.never rfl (pi_anyK (vo_sl 4 (pv 4))) (vg_name (i := 7) sc_is_possible.nd rfl (by first | exact .inl rfl | exact .inr rfl)) (vb_one (vs_for walks_anyK PassesOwn.never rfl (pi_anyK (vo_sl 4 (pv 4))) (vg_name (i := 8) sc_is_possible.nd rfl (by first | exact .inl rfl | exact .inr rfl)) (vb_one (vs_if (PW.pt (vw_and (t_inA hr (vo_ex (ve_tup (vz_cons (ve_name 7 (pv 7)) (vz_cons (ve_name 3 (pv 3)) vz_nil)))) (vo_sl 1 (pv 1))) (vw_and1 (t_inA hr (vo_ex (ve_tup (vz_cons (ve_name 3 (pv 3)) (vz_cons (ve_name 8 (pv 8)) vz_nil)))) (vo_sl 1 (pv 1)))))) (vb_cons (vs_asg (i := 6) sc_is_possible.nd rfl (by first | exact .inl rfl | exact .inr rfl) (v_addA (vo_ex (v_ix hr (vo_sl 1 (pv 1)) (vo_ex (ve_tup (vz_cons (ve_name 7 (pv 7)) (vz_cons (ve_name 3 (pv 3)) vz_nil)))))) (vo_ex (v_ix hr (vo_sl 1 (pv 1)) (vo_ex (ve_tup (vz_cons (ve_name 3 (pv 3)) (vz_cons (ve_name 8 (pv 8)) vz_nil))))))))
  (vb_one (vs_set set_a (set_any hr) (v_max2 rfl hB.max (vo_sl 6 (pv 6)) (vo_ex (v_get2 hr (vo_sl 1 (pv 1)) (vo_ex (ve_tup (vz_cons (ve_name 7 (pv 7)) (vz_cons (ve_name 8 (pv 8)) vz_nil)))) (ve_name 6 (pv 6))))) (pv 1) (ve_tup (vz_cons (ve_name 7 (pv 7)) (vz_cons (ve_name 8 (pv 8)) vz_nil)))))) vb_nil)))))
  (vb_one (vs_if (t_gt (vo_ex (v_max1 rfl hB.max (vo_ex (ve_comp [("thing", 9)] walks_anyK (nb_name 9) rfl sc_is_possible.nd (pi_anyK (vo_sl 4 (pv 4))) (blkOk_by (by kernel_rfl)) (fun _ _ _ _ _ => (vg_name (i := 9) sc_is_possible.nd rfl (by first | exact .inl rfl | exact .inr rfl))) (fun _ _ _ _ _ => vts_nil) (fun _ _ _ _ _ => (v_ix hr (vo_sl 1 (pv 1)) (vo_ex (ve_tup (vz_cons (ve_name 9 (pv 9)) (vz_cons (ve_name 9 (pv 9)) vz_nil)))))))))) (vo_ex ve_int)) (vb_one (vs_ret ve_bl)) vb_nil))))
  (vb_one (vs_ret ve_bl))))))
-- step_of, level 1, slots 0:answer
abbrev s_step_of : Stmt := topS 22
theorem sc_step_of : FnScope ["answer"] ["answer"] (defScope s_step_of) :=
  ⟨rfl, rfl, rfl, by decide +kernel, rfl, by decide +kernel, by decide +kernel⟩
theorem ok_step_of {P : Program} {w : World} {K : PySem.W.Frag} {mg : Str → Option Value} {base : Heap} {f : Addr} {fd : FuncData} (hB : Blt mg) (hK : Kls K mg) 
    (Fn : Fun K "step_of" "step_of" s_step_of f fd) (hm : mg "step_of" = some (.ref f)) (hb : L2.Binds K fd ["answer"] []) : Callee P w K mg base 1 "step_of" ["answer"] m_step_of :=
  callee_mk Fn hm sc_step_of rfl hb fun cdv A outer s H hr hg =>
  (vb_one (vs_ret (ve_if (vt_val (v_ix hr (vo_sl 0 (pv 0)) (vo_ex ve_int))) ve_int (v_neg (vo_ex ve_int)))))
-- next_answer, level 2, slots 0:answers 1:level 2:here 3:last 4:steps 5:answer 6:begin 7:there
abbrev s_next_answer : Stmt := topS 26
theorem sc_next_answer : FnScope ["answers", "level", "here", "last", "steps", "answer", "begin", "there"] ["answers", "level", "here", "last", "steps"] (defScope s_next_answer) :=
  ⟨rfl, rfl, rfl, by decide +kernel, rfl, by decide +kernel, by decide +kernel⟩
theorem ok_next_answer {P : Program} {w : World} {K : PySem.W.Frag} {mg : Str → Option Value} {base : Heap} {f : Addr} {fd : FuncData} (hB : Blt mg) (hK : Kls K mg) (C_ends_of : Callee P w K mg base 1 "ends_of" ["answer"] m_ends_of) (C_step_of : Callee P w K mg base 1 "step_of" ["answer"] m_step_of)
    (Fn : Fun K "next_answer" "next_answer" s_next_answer f fd) (hm : mg "next_answer" = some (.ref f)) (hb : L2.Binds K fd ["answers", "level", "here", "last", "steps"] []) : Callee P w K mg base 2 "next_answer" ["answers", "level", "here", "last", "steps"] m_next_answer :=
  callee_mk Fn hm sc_next_answer rfl hb fun cdv A outer s H hr hg =>
  (vb_cons (vs_for walks_anyK PassesOwn.never rfl (pi_anyK (vo_sl 0 (pv 0))) (vg_name (i := 5) sc_next_answer.nd rfl (by first | exact .inl rfl | exact .inr rfl)) (vb_cons (vs_bind (v_call C_ends_of hr hg (by decide) (va_cons (vo_sl 5 (pv 5)) va_nil)) (vg_unp rfl (vgs_cons (i := 6) sc_next_answer.nd rfl (by first | exact .inl rfl | exact .inr rfl) (vgs_cons (i := 7) sc_next_answer.nd rfl (by first | exact .inl rfl | exact .inr rfl) vgs_nil))))
  (vb_one (vs_if (PW.pt (vw_and (t_eq hr (vo_sl 6 (pv 6)) (vo_sl 2 (pv 2))) (vw_and (t_inA hr (vo_ex (ve_tup (vz_cons (ve_name 7 (pv 7)) (vz_cons (ve_name 3 (pv 3)) vz_nil)))) (vo_sl 1 (pv 1))) (vw_and1 (t_ge (vo_ex (v_addA (vo_ex (v_addA (vo_sl 4 (pv 4)) (vo_ex (v_call C_step_of hr hg (by decide) (va_cons (vo_sl 5 (pv 5)) va_nil))))) (vo_ex (v_ix hr (vo_sl 1 (pv 1)) (vo_ex (ve_tup (vz_cons (ve_name 7 (pv 7)) (vz_cons (ve_name 3 (pv 3)) vz_nil)))))))) (vo_ex ve_int)))))) (vb_one (vs_retN 5 (pv 5))) vb_nil))))
  (vb_one (vs_ret ve_non)))
-- least_ring, level 3, slots 0:book 1:levels 2:first 3:many 4:answers 5:begin 6:here 7:found 8:steps 9:rest 10:answer
abbrev s_least_ring : Stmt := topS 25
theorem sc_least_ring : FnScope ["book", "levels", "first", "many", "answers", "begin", "here", "found", "steps", "rest", "answer"] ["book", "levels"] (defScope s_least_ring) :=
  ⟨rfl, rfl, rfl, by decide +kernel, rfl, by decide +kernel, by decide +kernel⟩
theorem ok_least_ring {P : Program} {w : World} {K : PySem.W.Frag} {mg : Str → Option Value} {base : Heap} {f : Addr} {fd : FuncData} (hB : Blt mg) (hK : Kls K mg) (C_ends_of : Callee P w K mg base 1 "ends_of" ["answer"] m_ends_of) (C_next_answer : Callee P w K mg base 2 "next_answer" ["answers", "level", "here", "last", "steps"] m_next_answer) (C_step_of : Callee P w K mg base 1 "step_of" ["answer"] m_step_of) (C_Book_answers : Mth P w K mg base 1 1 "answers" "Book" m_Book_answers)
    (Fn : Fun K "least_ring" "least_ring" s_least_ring f fd) (hm : mg "least_ring" = some (.ref f)) (hb : L2.Binds K fd ["book", "levels"] []) : Callee P w K mg base 3 "least_ring" ["book", "levels"] m_least_ring :=
  callee_mk Fn hm sc_least_ring rfl hb fun cdv A outer s H hr hg =>
  (vb_cons (vs_par (i := 3) (j := 4) rfl sc_least_ring.nd rfl rfl (by decide) rfl rfl (v_sub (vo_ex (v_len hB.len (vo_sl 1 (pv 1)))) (vo_ex ve_int)) (ve_meth0 (tb1_all C_Book_answers) hr hg (by decide) (vo_sl 0 (pv 0))) (by rfl))
  (vb_cons (vs_for walks_anyK PassesOwn.never rfl (pi_anyK (vo_sl 4 (pv 4))) (vg_name (i := 2) sc_least_ring.nd rfl (by first | exact .inl rfl | exact .inr rfl)) (vb_cons (vs_bind (v_call C_ends_of hr hg (by decide) (va_cons (vo_sl 2 (pv 2)) va_nil)) (vg_unp rfl (vgs_cons (i := 5) sc_least_ring.nd rfl (by first | exact .inl rfl | exact .inr rfl) (vgs_cons (i := 6) sc_least_ring.nd rfl (by first | exact .inl rfl | exact .inr rfl) vgs_nil))))
  (vb_cons (vs_par (i := 7) (j := 8) rfl sc_least_ring.nd rfl rfl (by decide) rfl rfl (ve_lst (vz_cons (ve_name 2 (pv 2)) vz_nil)) (v_call C_step_of hr hg (by decide) (va_cons (vo_sl 2 (pv 2)) va_nil)) (by rfl))
  (vb_one (vs_while fuel PassesOwn.never (t_le (vo_ex (v_len hB.len (vo_sl 7 (pv 7)))) (vo_sl 3 (pv 3))) (vb_cons (vs_asg (i := 9) sc_least_ring.nd rfl (by first | exact .inl rfl | exact .inr rfl) (v_get1 hr (vo_ex (v_ix hr (vo_sl 1 (pv 1)) (vo_ex (v_sub (vo_sl 3 (pv 3)) (vo_ex (v_len hB.len (vo_sl 7 (pv 7)))))))) (vo_ex (ve_tup (vz_cons (ve_name 6 (pv 6)) (vz_cons (ve_name 5 (pv 5)) vz_nil))))))
  (vb_cons (vs_if (PW.pt (vw_or (t_isN (vo_sl 9 (pv 9))) (vw_or1 (t_lt (vo_ex (v_addA (vo_sl 8 (pv 8)) (vo_sl 9 (pv 9)))) (vo_ex ve_int))))) (vb_one vs_break) vb_nil)
  (vb_cons (vs_if (t_eq hr (vo_ex (v_len hB.len (vo_sl 7 (pv 7)))) (vo_sl 3 (pv 3))) (vb_one (vs_retN 7 (pv 7))) vb_nil)
  (vb_cons (vs_asg (i := 10) sc_least_ring.nd rfl (by first | exact .inl rfl | exact .inr rfl) (v_call C_next_answer hr hg (by decide) (va_cons (vo_sl 4 (pv 4)) (va_cons (vo_ex (v_ix hr (vo_sl 1 (pv 1)) (vo_ex (v_sub (vo_ex (v_sub (vo_sl 3 (pv 3)) (vo_ex (v_len hB.len (vo_sl 7 (pv 7)))))) (vo_ex ve_int))))) (va_cons (vo_sl 6 (pv 6)) (va_cons (vo_sl 5 (pv 5)) (va_cons (vo_sl 8 (pv 8)) va_nil)))))))
  (vb_cons (vs_expr (v_append (pv 7) (ve_name 10 (pv 10))))
  (vb_one (vs_par (i := 6) (j := 8) rfl sc_least_ring.nd rfl rfl (by decide) rfl rfl (v_ix hr (vo_ex (v_call C_ends_of hr hg (by decide) (va_cons (vo_sl 10 (pv 10)) va_nil))) (vo_ex ve_int)) (v_addA (vo_sl 8 (pv 8)) (vo_ex (v_call C_step_of hr hg (by decide) (va_cons (vo_sl 10 (pv 10)) va_nil)))) (by rfl)))))))))))))
  (vb_one (vs_ret ve_non))))
-- one_more, level 2, slots 0:book 1:level 2:found 3:answer 4:last 5:here 6:there 7:more
abbrev s_one_more : Stmt := topS 24
theorem sc_one_more : FnScope ["book", "level", "found", "answer", "last", "here", "there", "more"] ["book", "level"] (defScope s_one_more) :=
  ⟨rfl, rfl, rfl, by decide +kernel, rfl, by decide +kernel, by decide +kernel⟩
theorem ok_one_more {P : Program} {w : World} {K : PySem.W.Frag} {mg : Str → Option Value} {base : Heap} {f : Addr} {fd : FuncData} (hB : Blt mg) (hK : Kls K mg) (C_ends_of : Callee P w K mg base 1 "ends_of" ["answer"] m_ends_of) (C_step_of : Callee P w K mg base 1 "step_of" ["answer"] m_step_of) (C_Book_answers : Mth P w K mg base 1 1 "answers" "Book" m_Book_answers) (C_Book_things : Mth P w K mg base 1 1 "things" "Book" m_Book_things)
    (Fn : Fun K "one_more" "one_more" s_one_more f fd) (hm : mg "one_more" = some (.ref f)) (hb : L2.Binds K fd ["book", "level"] []) : Callee P w K mg base 2 "one_more" ["book", "level"] m_one_more :=
  callee_mk Fn hm sc_one_more rfl hb fun cdv A outer s H hr hg =>
  (vb_cons (vs_asg (i := 2) sc_one_more.nd rfl (by first | exact .inl rfl | exact .inr rfl) ve_dnewT)
  (vb_cons (vs_for walks_anyK PassesOwn.never rfl (pi_anyK (vo_ex (ve_meth0 (tb1_all C_Book_answers) hr hg (by decide) (vo_sl 0 (pv 0))))) (vg_name (i := 3) sc_one_more.nd rfl (by first | exact .inl rfl | exact .inr rfl)) (vb_cons (vs_bind (v_call C_ends_of hr hg (by decide) (va_cons (vo_sl 3 (pv 3)) va_nil)) (vg_unp rfl (vgs_cons (i := 5) sc_one_more.nd rfl (by first | exact .inl rfl | exact .inr rfl) (vgs_cons (i := 6) sc_one_more.nd rfl (by first | exact .inl rfl | exact .inr rfl) vgs_nil))))
  (vb_one (vs_for walks_anyK PassesOwn.never rfl (pi_anyK (vo_ex (ve_meth0 (tb1_all C_Book_things) hr hg (by decide) (vo_sl 0 (pv 0))))) (vg_name (i := 4) sc_one_more.nd rfl (by first | exact .inl rfl | exact .inr rfl)) (vb_one (vs_if (t_inA hr (vo_ex (ve_tup (vz_cons (ve_name 6 (pv 6)) (vz_cons (ve_name 4 (pv 4)) vz_nil)))) (vo_sl 1 (pv 1))) (vb_cons (vs_asg (i := 7) sc_one_more.nd rfl (by first | exact .inl rfl | exact .inr rfl) (v_addA (vo_ex (v_call C_step_of hr hg (by decide) (va_cons (vo_sl 3 (pv 3)) va_nil))) (vo_ex (v_ix hr (vo_sl 1 (pv 1)) (vo_ex (ve_tup (vz_cons (ve_name 6 (pv 6)) (vz_cons (ve_name 4 (pv 4)) vz_nil))))))))
  (vb_one (vs_set set_a (set_any hr) (v_max2 rfl hB.max (vo_ex (v_get2 hr (vo_sl 2 (pv 2)) (vo_ex (ve_tup (vz_cons (ve_name 5 (pv 5)) (vz_cons (ve_name 4 (pv 4)) vz_nil)))) (ve_name 7 (pv 7)))) (vo_sl 7 (pv 7))) (pv 2) (ve_tup (vz_cons (ve_name 5 (pv 5)) (vz_cons (ve_name 4 (pv 4)) vz_nil)))))) vb_nil))))))
  (vb_one (vs_retN 2 (pv 2)))))
-- ring_of, level 4, slots 0:book 1:levels 2:thing
abbrev s_ring_of : Stmt := topS 27
theorem sc_ring_of : FnScope ["book", "levels", "thing"] ["book"] (defScope s_ring_of) :=
  ⟨rfl, rfl, rfl, by decide +kernel, rfl, by decide +kernel, by decide +kernel⟩
theorem ok_ring_of {P : Program} {w : World} {K : PySem.W.Frag} {mg : Str → Option Value} {base : Heap} {f : Addr} {fd : FuncData} (hB : Blt mg) (hK : Kls K mg) (C_is_possible : Callee P w K mg base 2 "is_possible" ["book"] m_is_possible) (C_least_ring : Callee P w K mg base 3 "least_ring" ["book", "levels"] m_least_ring) (C_one_more : Callee P w K mg base 2 "one_more" ["book", "level"] m_one_more) (C_Book_things : Mth P w K mg base 1 1 "things" "Book" m_Book_things)
    (Fn : Fun K "ring_of" "ring_of" s_ring_of f fd) (hm : mg "ring_of" = some (.ref f)) (hb : L2.Binds K fd ["book"] []) : Callee P w K mg base 4 "ring_of" ["book"] m_ring_of :=
  callee_mk Fn hm sc_ring_of rfl hb fun cdv A outer s H hr hg =>
  (vb_cons (vs_if (vt_val (v_call C_is_possible hr hg (by decide) (va_cons (vo_sl 0 (pv 0)) va_nil))) (vb_one (vs_ret ve_non)) vb_nil)
  (vb_cons (vs_asg (i := 1) sc_ring_of.nd rfl (by first | exact .inl rfl | exact .inr rfl) (ve_lst (vz_cons (ve_dcomp true [("thing", 2)] walks_anyK (nb_name 2) hr rfl sc_ring_of.nd (pi_anyK (vo_ex (ve_meth0 (tb1_all C_Book_things) hr hg (by decide) (vo_sl 0 (pv 0))))) (blkOk_by (by kernel_rfl)) (fun _ _ _ _ _ => (vg_name (i := 2) sc_ring_of.nd rfl (by first | exact .inl rfl | exact .inr rfl))) (fun _ _ _ _ _ => vts_nil) (fun _ _ _ _ _ => (ve_tup (vz_cons (ve_name 2 (pv 2)) (vz_cons (ve_name 2 (pv 2)) vz_nil)))) (fun _ _ _ _ _ => ve_int)) vz_nil)))
  (vb_cons (vs_while fuel PassesOwn.never (PW.pt (vw_or (t_lt (vo_ex (v_max1 rfl hB.max (vo_ex (ve_comp [("thing", 2)] walks_anyK (nb_name 2) rfl sc_ring_of.nd (pi_anyK (vo_ex (ve_meth0 (tb1_all C_Book_things) hr hg (by decide) (vo_sl 0 (pv 0))))) (blkOk_by (by kernel_rfl)) (fun _ _ _ _ _ => (vg_name (i := 2) sc_ring_of.nd rfl (by first | exact .inl rfl | exact .inr rfl))) (fun _ _ _ _ _ => vts_nil) (fun _ _ _ _ _ => (v_get2 hr (vo_ex (v_ix hr (vo_sl 1 (pv 1)) (vo_ex (v_neg (vo_ex ve_int))))) (vo_ex (ve_tup (vz_cons (ve_name 2 (pv 2)) (vz_cons (ve_name 2 (pv 2)) vz_nil)))) (v_neg (vo_ex ve_int)))))))) (vo_ex ve_int)) (vw_or1 (t_eq hr (vo_ex (v_len hB.len (vo_sl 1 (pv 1)))) (vo_ex ve_int))))) (vb_one (vs_expr (v_append (pv 1) (v_call C_one_more hr hg (by decide) (va_cons (vo_sl 0 (pv 0)) (va_cons (vo_ex (v_ix hr (vo_sl 1 (pv 1)) (vo_ex (v_neg (vo_ex ve_int))))) va_nil)))))))
  (vb_one (vs_ret (v_call C_least_ring hr hg (by decide) (va_cons (vo_sl 0 (pv 0)) (va_cons (vo_sl 1 (pv 1)) va_nil))))))))
-- are_answers, level 5, slots 0:thing 1:one
abbrev s_are_answers : Stmt := topS 14
theorem sc_are_answers : FnScope ["thing", "one"] ["thing"] (defScope s_are_answers) :=
  ⟨rfl, rfl, rfl, by decide +kernel, rfl, by decide +kernel, by decide +kernel⟩
theorem ok_are_answers {P : Program} {w : World} {K : PySem.W.Frag} {mg : Str → Option Value} {base : Heap} {f : Addr} {fd : FuncData} (hB : Blt mg) (hK : Kls K mg) (C_is_answer : Callee P w K mg base 4 "is_answer" ["thing"] (m_is_answer isT))
    (Fn : Fun K "are_answers" "are_answers" s_are_answers f fd) (hm : mg "are_answers" = some (.ref f)) (hb : L2.Binds K fd ["thing"] []) : Callee P w K mg base 5 "are_answers" ["thing"] (m_are_answers isT) :=
  callee_mk Fn hm sc_are_answers rfl hb fun cdv A outer s H hr hg =>
  (vb_one (vs_ret (ve_and (v_isi hK.isT hB.isinstance (vo_sl 0 (pv 0)) (vo_ex (ve_tup (vz_cons (v_ty hB.list (by decide +kernel)) (vz_cons (v_ty hB.tuple (by decide +kernel)) vz_nil))))) (ve_one (v_all rfl hB.all (vo_ex (ve_comp [("one", 1)] walks_anyK (nb_name 1) rfl sc_are_answers.nd (pi_anyK (vo_sl 0 (pv 0))) (blkOk_by (by kernel_rfl)) (fun _ _ _ _ _ => (vg_name (i := 1) sc_are_answers.nd rfl (by first | exact .inl rfl | exact .inr rfl))) (fun _ _ _ _ _ => vts_nil) (fun _ _ _ _ _ => (v_call C_is_answer hr hg (by decide) (va_cons (vo_sl 1 (pv 1)) va_nil))))))))))
-- Book.__init__, level 6, slots 0:self 1:things 2:answers 3:answer 4:truths 5:name 6:pair 7:truth
abbrev s_Book_init : Stmt := inClass (topS 30) 0
theorem sc_Book_init : FnScope ["self", "things", "answers", "answer", "truths", "name", "pair", "truth"] ["self", "things", "answers"] (defScope s_Book_init) :=
  ⟨rfl, rfl, rfl, by decide +kernel, rfl, by decide +kernel, by decide +kernel⟩
theorem ok_Book_init {P : Program} {w : World} {K : PySem.W.Frag} {mg : Str → Option Value} {base : Heap} {f : Addr} {fd : FuncData} (hB : Blt mg) (hK : Kls K mg) (C_are_answers : Callee P w K mg base 5 "are_answers" ["thing"] (m_are_answers isT)) (C_are_names : Callee P w K mg base 2 "are_names" ["thing"] (m_are_names isT)) (C_pair_of : Callee P w K mg base 1 "pair_of" ["answer"] m_pair_of) {C : Addr} {ds : List Value} {dvs : List V} {dd : List D}
    (Fn : FunA K "__init__" "Book.__init__" s_Book_init f fd) (hC : clsA K "Book" = some C) (hg0 : mg "Book" = some (.ref C)) (mk : Mk K C f) (hb : L2.Binds K fd ["self", "things", "answers"] ds) (hd : Vals dvs ds) (hrd : ∀ F, RepL K F dvs dd) : Mak P w K mg base 6 3 "Book" dd (m_Book_init isT) :=
  mak_mk Fn hC hg0 mk sc_Book_init rfl hb hd hrd fun cdv A outer s H hr hg =>
  (vb_cons (vs_if (vt_not (vt_val (v_call C_are_names hr hg (by decide) (va_cons (vo_sl 1 (pv 1)) va_nil)))) (vb_one vs_never) vb_nil)
  (vb_cons (vs_if (vt_not (vt_val (v_call C_are_answers hr hg (by decide) (va_cons (vo_sl 2 (pv 2)) va_nil)))) (vb_one vs_never) vb_nil)
  (vb_cons (vs_for walks_anyK PassesOwn.never rfl (pi_anyK (vo_sl 2 (pv 2))) (vg_name (i := 3) sc_Book_init.nd rfl (by first | exact .inl rfl | exact .inr rfl)) (vb_one (vs_for walks_anyK PassesOwn.never rfl (pi_anyK (vo_ex (v_call C_pair_of hr hg (by decide) (va_cons (vo_sl 3 (pv 3)) va_nil)))) (vg_name (i := 5) sc_Book_init.nd rfl (by first | exact .inl rfl | exact .inr rfl)) (vb_one (vs_if (t_notinA hr (vo_sl 5 (pv 5)) (vo_sl 1 (pv 1))) (vb_one vs_never) vb_nil)))))
  (vb_cons (vs_asg (i := 4) sc_Book_init.nd rfl (by first | exact .inl rfl | exact .inr rfl) ve_dnewT)
  (vb_cons (vs_for walks_anyK PassesOwn.never rfl (pi_anyK (vo_sl 2 (pv 2))) (vg_name (i := 3) sc_Book_init.nd rfl (by first | exact .inl rfl | exact .inr rfl)) (vb_cons (vs_asg (i := 6) sc_Book_init.nd rfl (by first | exact .inl rfl | exact .inr rfl) (v_call C_pair_of hr hg (by decide) (va_cons (vo_sl 3 (pv 3)) va_nil)))
  (vb_cons (vs_if (t_ne hr (vo_ex (v_get2 hr (vo_sl 4 (pv 4)) (vo_sl 6 (pv 6)) (v_ix hr (vo_sl 3 (pv 3)) (vo_ex ve_int)))) (vo_ex (v_ix hr (vo_sl 3 (pv 3)) (vo_ex ve_int)))) (vb_one vs_never) vb_nil)
  (vb_one (vs_set set_a (set_any hr) (v_ix hr (vo_sl 3 (pv 3)) (vo_ex ve_int)) (pv 4) (ve_name 6 (pv 6)))))))
  (vb_cons (vs_setF hK.f_its_things (pv 0) (v_tuple hB.tuple (vo_ex (v_sortedA hr rfl hB.sorted (vo_sl 1 (pv 1))))))
  (vb_cons (vs_setF hK.f_its_truths (pv 0) (ve_dcomp true [("pair", 6)] walks_anyK (nb_name 6) hr rfl sc_Book_init.nd (pi_anyK (vo_ex (v_sortedA hr rfl hB.sorted (vo_sl 4 (pv 4))))) (blkOk_by (by kernel_rfl)) (fun _ _ _ _ _ => (vg_name (i := 6) sc_Book_init.nd rfl (by first | exact .inl rfl | exact .inr rfl))) (fun _ _ _ _ _ => vts_nil) (fun _ _ _ _ _ => (ve_name 6 (pv 6))) (fun _ _ _ _ _ => (v_ix hr (vo_sl 4 (pv 4)) (vo_sl 6 (pv 6))))))
  (vb_one (vs_setF hK.f_its_answers (pv 0) (v_tuple hB.tuple (vo_ex (ve_compD [("pair", 6), ("truth", 7)] lkw_items (s := (.fd ["Book"] "its_truths" 0)) hK.f_its_truths (nb_tup [6, 7]) rfl sc_Book_init.nd (pi_itemsA (ds_fd (pv 0))) (blkOk_by (by kernel_rfl)) (fun _ _ _ _ _ => (vg_tup rfl (vgs_cons (i := 6) sc_Book_init.nd rfl (by first | exact .inl rfl | exact .inr rfl) (vgs_cons (i := 7) sc_Book_init.nd rfl (by first | exact .inl rfl | exact .inr rfl) vgs_nil)))) (fun _ _ _ _ _ => vts_nil) (fun _ _ _ _ _ => (ve_tupS (vzs_star (ve_name 6 (pv 6)) (vzs_cons (ve_name 7 (pv 7)) vzs_nil))))))))))))))))
-- law, level 8, slots 0:_law_script 1:_law_bag_here 2:_law_turn 3:_law_things 4:_law_answers 5:_law_book 6:_law_some 7:_law_first 8:_law_walk_here 9:_law_at 10:_law_thing 11:_law_again 12:_law_shown 13:_law_due
abbrev s_law : Stmt := topS 47
theorem sc_law : FnScope ["_law_script", "_law_bag_here", "_law_turn", "_law_things", "_law_answers", "_law_book", "_law_some", "_law_first", "_law_walk_here", "_law_at", "_law_thing", "_law_again", "_law_shown", "_law_due"] ["_law_script"] (defScope s_law) :=
  ⟨rfl, rfl, rfl, by decide +kernel, rfl, by decide +kernel, by decide +kernel⟩
def b_law : MS :=
  (fSeq (fAsg 1 (fCall m_law_bag [(.sl 0)]))
  (fSeq (fForN gRng1 [(.ex (fC (.int 4)))] (bindN 2) (fSeq (fAsg 3 (fCall m_law_names [(.sl 1), (.ex (fOp2 gAddA (.ex (fC (.int 2))) (.ex (fCall m_law_take [(.sl 1), (.ex (fC (.int 5)))]))))]))
  (fSeq (fAsg 4 (fCall m_law_any [(.sl 1), (.sl 3), (.ex (fOp2 gAddA (.ex (fC (.int 3))) (.ex (fCall m_law_take [(.sl 1), (.ex (fC (.int 16)))]))))]))
  (fSeq (fAsg 5 (fMake "Book" (m_Book_init isT) [] [(.sl 3), (.sl 4)]))
  (fSeq (fAsg 6 (fOp2 gAddA (.ex (fCall m_law_rounds [(.sl 1), (.sl 4)])) (.ex (fDisp gLst [(fCall m_law_walk [(.sl 1), (.sl 4), (.ex (fC (.int 8)))])]))))
  (fSeq (fAsg 7 (fCall m_ring_of [(.sl 5)]))
  (fSeq (fIfS (fT (fOp1 gNotN (.sl 7))) (fSeq (fAsg 9 (fCall m_law_take [(.sl 1), (.ex (fOpN gLenA [(.sl 7)]))]))
  (fAsg 6 (fOp2 gAddA (.sl 6) (.ex (fDisp gLst [(fName 7), (fOp2 gAddA (.ex (fSl gSlA (.sl 7) (some (fName 9)) none)) (.ex (fSl gSlA (.sl 7) none (some (fName 9))))), (fOp2 gAddA (.sl 7) (.sl 7)), (fSl gSlA (.sl 7) none (some (fName 9)))]))))) fNext)
  (fSeq (fFor itemsA (.sl 6) (bindN 8) (fFor itemsA (.ex (fDisp gTup [(fName 8), (fCall m_law_odd_walk [(.sl 1), (.sl 8), (.sl 3)])])) (bindN 10) (fSeq (fPar 12 13 (fOpN gReprA [(.sl 10)]) (fCall (m_law_is_ring isT) [(.sl 4), (.sl 10)]))
  (fForN gRng1 [(.ex (fC (.int 2)))] (bindN 11) (fIfS (fNot (fT (fCall m_law_alike [(.ex (fDisp gLst [(fCall (m_is_ring isT) [(.ex (fName 5)), (.ex (fName 10))]), (fOpN gReprA [(.sl 10)])])), (.ex (fDisp gLst [(fName 13), (fName 12)]))]))) (fRet (fC (.bl false))) fNext)))))
  (fIfS (fNot (fT (fCall m_law_alike [(.ex (fDisp gLst [(fCall (m_is_ring isT) [(.ex (fName 5)), (.ex (fName 5))]), (fCall (m_is_ring isT) [(.ex (fName 5)), (.ex (fName 4))])])), (.ex (fDisp gLst [(fC (.bl false)), (fCall (m_law_is_ring isT) [(.sl 4), (.sl 4)])]))]))) (fRet (fC (.bl false))) fNext)))))))))
  (fRet (fC (.bl true)))))
def m_law : FnM := fnM 13 b_law
theorem ok_law {P : Program} {w : World} {K : PySem.W.Frag} {mg : Str → Option Value} {base : Heap} {f : Addr} {fd : FuncData} (hB : Blt mg) (hK : Kls K mg) (C_law_alike : Callee P w K mg base 1 "_law_alike" ["_law_found", "_law_due"] m_law_alike) (C_law_any : Callee P w K mg base 3 "_law_any" ["_law_bag_here", "_law_things", "_law_many"] m_law_any) (C_law_bag : Callee P w K mg base 1 "_law_bag" ["_law_script"] m_law_bag) (C_law_is_ring : Callee P w K mg base 3 "_law_is_ring" ["_law_answers", "_law_thing"] (m_law_is_ring isT)) (C_law_names : Callee P w K mg base 3 "_law_names" ["_law_bag_here", "_law_many"] m_law_names) (C_law_odd_walk : Callee P w K mg base 3 "_law_odd_walk" ["_law_bag_here", "_law_walk_here", "_law_things"] m_law_odd_walk) (C_law_rounds : Callee P w K mg base 4 "_law_rounds" ["_law_bag_here", "_law_answers"] m_law_rounds) (C_law_take : Callee P w K mg base 1 "_law_take" ["_law_bag_here", "_law_many"] m_law_take) (C_law_walk : Callee P w K mg base 3 "_law_walk" ["_law_bag_here", "_law_answers", "_law_many"] m_law_walk) (C_is_ring : Callee P w K mg base 7 "is_ring" ["book", "thing"] (m_is_ring isT)) (C_ring_of : Callee P w K mg base 4 "ring_of" ["book"] m_ring_of) (C_Book_init_0 : Mak P w K mg base 6 3 "Book" [] (m_Book_init isT))
    (Fn : Fun K "law" "law" s_law f fd) : FnG P w K mg base 8 f fd ["_law_script"] (spG K 1 m_law) :=
  fn_ok Fn sc_law rfl fun cdv A outer s H hr hg =>
  (vb_cons (vs_asg (i := 1) sc_law.nd rfl (by first | exact .inl rfl | exact .inr rfl) (v_call C_law_bag hr hg (by decide) (va_cons (vo_sl 0 (pv 0)) va_nil)))
  (vb_cons (vs_forN walks_rng1 PassesOwn.never rfl (pi_range1 (by rfl) hB.range (va_cons (vo_ex ve_int) va_nil)) (vg_name (i := 2) sc_law.nd rfl (by first | exact .inl rfl | exact .inr rfl)) (vb_cons (vs_asg (i := 3) sc_law.nd rfl (by first | exact .inl rfl | exact .inr rfl) (v_call C_law_names hr hg (by decide) (va_cons (vo_sl 1 (pv 1)) (va_cons (vo_ex (v_addA (vo_ex ve_int) (vo_ex (v_call C_law_take hr hg (by decide) (va_cons (vo_sl 1 (pv 1)) (va_cons (vo_ex ve_int) va_nil)))))) va_nil))))
  (vb_cons (vs_asg (i := 4) sc_law.nd rfl (by first | exact .inl rfl | exact .inr rfl) (v_call C_law_any hr hg (by decide) (va_cons (vo_sl 1 (pv 1)) (va_cons (vo_sl 3 (pv 3)) (va_cons (vo_ex (v_addA (vo_ex ve_int) (vo_ex (v_call C_law_take hr hg (by decide) (va_cons (vo_sl 1 (pv 1)) (va_cons (vo_ex ve_int) va_nil)))))) va_nil)))))
  (vb_cons (vs_asg (i := 5) sc_law.nd rfl (by first | exact .inl rfl | exact .inr rfl) (ve_make C_Book_init_0 hr hg (by decide) (va_cons (vo_sl 3 (pv 3)) (va_cons (vo_sl 4 (pv 4)) va_nil))))
  (vb_cons (vs_asg (i := 6) sc_law.nd rfl (by first | exact .inl rfl | exact .inr rfl) (v_addA (vo_ex (v_call C_law_rounds hr hg (by decide) (va_cons (vo_sl 1 (pv 1)) (va_cons (vo_sl 4 (pv 4)) va_nil)))) (vo_ex (ve_lst (vz_cons (v_call C_law_walk hr hg (by decide) (va_cons (vo_sl 1 (pv 1)) (va_cons (vo_sl 4 (pv 4)) (va_cons (vo_ex ve_int) va_nil)))) vz_nil)))))
  (vb_cons (vs_asg (i := 7) sc_law.nd rfl (by first | exact .inl rfl | exact .inr rfl) (v_call C_ring_of hr hg (by decide) (va_cons (vo_sl 5 (pv 5)) va_nil)))
  (vb_cons (vs_if (t_notN (vo_sl 7 (pv 7))) (vb_cons (vs_asg (i := 9) sc_law.nd rfl (by first | exact .inl rfl | exact .inr rfl) (v_call C_law_take hr hg (by decide) (va_cons (vo_sl 1 (pv 1)) (va_cons (vo_ex (v_len hB.len (vo_sl 7 (pv 7)))) va_nil))))
  (vb_one (vs_asg (i := 6) sc_law.nd rfl (by first | exact .inl rfl | exact .inr rfl) (v_addA (vo_sl 6 (pv 6)) (vo_ex (ve_lst (vz_cons (ve_name 7 (pv 7)) (vz_cons (v_addA (vo_ex (v_cutA (vo_sl 7 (pv 7)) (vp_some (ve_name 9 (pv 9))) vp_none)) (vo_ex (v_cutA (vo_sl 7 (pv 7)) vp_none (vp_some (ve_name 9 (pv 9)))))) (vz_cons (v_addA (vo_sl 7 (pv 7)) (vo_sl 7 (pv 7))) (vz_cons (v_cutA (vo_sl 7 (pv 7)) vp_none (vp_some (ve_name 9 (pv 9)))) vz_nil)))))))))) vb_nil)
  (vb_cons (vs_for walks_anyK PassesOwn.never rfl (pi_anyK (vo_sl 6 (pv 6))) (vg_name (i := 8) sc_law.nd rfl (by first | exact .inl rfl | exact .inr rfl)) (vb_one (vs_for walks_anyK PassesOwn.never rfl (pi_anyK (vo_ex (ve_tup (vz_cons (ve_name 8 (pv 8)) (vz_cons (v_call C_law_odd_walk hr hg (by decide) (va_cons (vo_sl 1 (pv 1)) (va_cons (vo_sl 8 (pv 8)) (va_cons (vo_sl 3 (pv 3)) va_nil)))) vz_nil))))) (vg_name (i := 10) sc_law.nd rfl (by first | exact .inl rfl | exact .inr rfl)) (vb_cons (vs_par (i := 12) (j := 13) rfl sc_law.nd rfl rfl (by decide) rfl rfl (v_reprA hr hg hB.repr (vo_sl 10 (pv 10))) (v_call C_law_is_ring hr hg (by decide) (va_cons (vo_sl 4 (pv 4)) (va_cons (vo_sl 10 (pv 10)) va_nil))) (by rfl))
  (vb_one (vs_forN walks_rng1 PassesOwn.never rfl (pi_range1 (by rfl) hB.range (va_cons (vo_ex ve_int) va_nil)) (vg_name (i := 11) sc_law.nd rfl (by first | exact .inl rfl | exact .inr rfl)) (vb_one (vs_if (vt_not (vt_val (v_call C_law_alike hr hg (by decide) (va_cons (vo_ex (ve_lst (vz_cons (v_call C_is_ring hr hg (by decide) (va_cons (vo_ex (ve_name 5 (pv 5))) (va_cons (vo_ex (ve_name 10 (pv 10))) va_nil))) (vz_cons (v_reprA hr hg hB.repr (vo_sl 10 (pv 10))) vz_nil)))) (va_cons (vo_ex (ve_lst (vz_cons (ve_name 13 (pv 13)) (vz_cons (ve_name 12 (pv 12)) vz_nil)))) va_nil))))) (vb_one (vs_ret ve_bl)) vb_nil))))))))
  (vb_one (vs_if (vt_not (vt_val (v_call C_law_alike hr hg (by decide) (va_cons (vo_ex (ve_lst (vz_cons (v_call C_is_ring hr hg (by decide) (va_cons (vo_ex (ve_name 5 (pv 5))) (va_cons (vo_ex (ve_name 5 (pv 5))) va_nil))) (vz_cons (v_call C_is_ring hr hg (by decide) (va_cons (vo_ex (ve_name 5 (pv 5))) (va_cons (vo_ex (ve_name 4 (pv 4))) va_nil))) vz_nil)))) (va_cons (vo_ex (ve_lst (vz_cons ve_bl (vz_cons (v_call C_law_is_ring hr hg (by decide) (va_cons (vo_sl 4 (pv 4)) (va_cons (vo_sl 4 (pv 4)) va_nil))) vz_nil)))) va_nil))))) (vb_one (vs_ret ve_bl)) vb_nil))))))))))
  (vb_one (vs_ret ve_bl))))
theorem all_mk {l : PySem.W.OpenLaw} {w : World} {K : PySem.W.Frag} {h : Heap} {mg : Str → Option Value} {fa : Addr} (X : K.In h) (G : h.Ns mainGlobals mg) (hfa : mg "law" = some (.ref fa))
    (z_abs : PySem.W.nsIn K mainGlobals "abs" = some none)
    (z_all : PySem.W.nsIn K mainGlobals "all" = some none)
    (z_bool : PySem.W.nsIn K mainGlobals "bool" = some none)
    (z_int : PySem.W.nsIn K mainGlobals "int" = some none)
    (z_isinstance : PySem.W.nsIn K mainGlobals "isinstance" = some none)
    (z_len : PySem.W.nsIn K mainGlobals "len" = some none)
    (z_list : PySem.W.nsIn K mainGlobals "list" = some none)
    (z_max : PySem.W.nsIn K mainGlobals "max" = some none)
    (z_range : PySem.W.nsIn K mainGlobals "range" = some none)
    (z_repr : PySem.W.nsIn K mainGlobals "repr" = some none)
    (z_set : PySem.W.nsIn K mainGlobals "set" = some none)
    (z_sorted : PySem.W.nsIn K mainGlobals "sorted" = some none)
    (z_str : PySem.W.nsIn K mainGlobals "str" = some none)
    (z_tuple : PySem.W.nsIn K mainGlobals "tuple" = some none)
    (z_zip : PySem.W.nsIn K mainGlobals "zip" = some none)
    {t_LETTERS : Tok}
    (g_LETTERS : PySem.W.nsIn K mainGlobals "LETTERS" = some (some (.str "abcdefghijklmnopqrstuvwxyz" t_LETTERS)))
    {t_LONGEST : Tok}
    (g_LONGEST : PySem.W.nsIn K mainGlobals "LONGEST" = some (some (.int 8 t_LONGEST)))
    {CBook : Addr}
    (a_Book : PySem.W.nsIn K mainGlobals "Book" = some (some (.ref CBook)))
    (pg_Book : PySem.W.plainGet K CBook Str.empty = true)
    (hd_Book : PySem.W.hasDictIn K CBook = true)
    (po_Book : PySem.W.plainOver K CBook = true)
    (sa_Book : PySem.W.findIn K (.ref CBook) "__setattr__" = some (some (.builtin "object.__setattr__")))
    (mk_Book : PySem.W.makesIn K CBook = true)
    (kc_Book : PySem.W.keepIn K (.ref CBook) = true)
    (c1_Book : PySem.W.findIn K (.ref CBook) "__class__" = some (some (.builtin "object.__class__")))
    (c4_Book : PySem.W.mroIn K CBook (.type "object") = some true)
    (n_Book_its_answers : PySem.W.findIn K (.ref CBook) "its_answers" = some none)
    (n_Book_its_things : PySem.W.findIn K (.ref CBook) "its_things" = some none)
    (n_Book_its_truths : PySem.W.findIn K (.ref CBook) "its_truths" = some none)
    (sf_Book : PySem.W.selfFirst K CBook = true)
    (ns_Book : PySem.W.noSeq K CBook = true)
    (cx2 : PySem.W.specialIn K (.builtin "object.__class__") "__get__" = some (some (.builtin "getset_descriptor.__get__")))
    (cx3 : PySem.W.takesIn K (.builtin "object.__class__") = some true)
    (e0 : PySem.W.kitOne K (.type "NoneType") (.type "bool") = some false)
    (e1 : PySem.W.kitOne K (.type "NoneType") (.type "list") = some false)
    (e2 : PySem.W.kitOne K (.type "NoneType") (.type "str") = some false)
    (e3 : PySem.W.kitOne K (.type "NoneType") (.type "tuple") = some false)
    (e4 : PySem.W.kitOne K (.type "bool") (.type "bool") = some true)
    (e5 : PySem.W.kitOne K (.type "bool") (.type "list") = some false)
    (e6 : PySem.W.kitOne K (.type "bool") (.type "str") = some false)
    (e7 : PySem.W.kitOne K (.type "bool") (.type "tuple") = some false)
    (e8 : PySem.W.kitOne K (.type "int") (.type "bool") = some false)
    (e9 : PySem.W.kitOne K (.type "int") (.type "list") = some false)
    (e10 : PySem.W.kitOne K (.type "int") (.type "str") = some false)
    (e11 : PySem.W.kitOne K (.type "int") (.type "tuple") = some false)
    (e12 : PySem.W.kitOne K (.type "str") (.type "bool") = some false)
    (e13 : PySem.W.kitOne K (.type "str") (.type "list") = some false)
    (e14 : PySem.W.kitOne K (.type "str") (.type "str") = some true)
    (e15 : PySem.W.kitOne K (.type "str") (.type "tuple") = some false)
    (e16 : PySem.W.kitOne K (.type "tuple") (.type "bool") = some false)
    (e17 : PySem.W.kitOne K (.type "tuple") (.type "list") = some false)
    (e18 : PySem.W.kitOne K (.type "tuple") (.type "str") = some false)
    (e19 : PySem.W.kitOne K (.type "tuple") (.type "tuple") = some true)
    (e20 : PySem.W.kitOne K (.type "list") (.type "bool") = some false)
    (e21 : PySem.W.kitOne K (.type "list") (.type "list") = some true)
    (e22 : PySem.W.kitOne K (.type "list") (.type "str") = some false)
    (e23 : PySem.W.kitOne K (.type "list") (.type "tuple") = some false)
    (e24 : PySem.W.kitOne K (.type "dict") (.type "bool") = some false)
    (e25 : PySem.W.kitOne K (.type "dict") (.type "list") = some false)
    (e26 : PySem.W.kitOne K (.type "dict") (.type "str") = some false)
    (e27 : PySem.W.kitOne K (.type "dict") (.type "tuple") = some false)
    (e28 : PySem.W.kitOne K (.ref CBook) (.type "bool") = some false)
    (e29 : PySem.W.kitOne K (.ref CBook) (.type "list") = some false)
    (e30 : PySem.W.kitOne K (.ref CBook) (.type "str") = some false)
    (e31 : PySem.W.kitOne K (.ref CBook) (.type "tuple") = some false)
    {f0 : Addr} {od0 an0 : Option Addr} {sl0 : Array (Option Value)} {oc0 kV0 dc0 pm0 cd0 ct0 : Value}
    (a0 : PySem.W.nsIn K mainGlobals "_law_alike" = some (some (.ref f0)))
    (l0 : K.lookup f0 = some ⟨oc0, od0, .func (PySem.W.fnOf "_law_alike" "_law_alike" (defArgs s_law_alike) (defBody s_law_alike) (defScope s_law_alike) .none kV0 dc0 pm0 an0 cd0 ct0), sl0⟩)
    (c0 : PySem.W.codeIn K cd0 "_law_alike" = true)
    (k0 : PySem.W.keepIn K (.ref f0) = true)
    {f1 : Addr} {od1 an1 : Option Addr} {sl1 : Array (Option Value)} {oc1 kV1 dc1 pm1 cd1 ct1 : Value}
    (a1 : PySem.W.nsIn K mainGlobals "_law_take" = some (some (.ref f1)))
    (l1 : K.lookup f1 = some ⟨oc1, od1, .func (PySem.W.fnOf "_law_take" "_law_take" (defArgs s_law_take) (defBody s_law_take) (defScope s_law_take) .none kV1 dc1 pm1 an1 cd1 ct1), sl1⟩)
    (c1 : PySem.W.codeIn K cd1 "_law_take" = true)
    (k1 : PySem.W.keepIn K (.ref f1) = true)
    {f2 : Addr} {od2 an2 : Option Addr} {sl2 : Array (Option Value)} {oc2 kV2 dc2 pm2 cd2 ct2 : Value}
    (a2 : PySem.W.nsIn K mainGlobals "_law_mix" = some (some (.ref f2)))
    (l2 : K.lookup f2 = some ⟨oc2, od2, .func (PySem.W.fnOf "_law_mix" "_law_mix" (defArgs s_law_mix) (defBody s_law_mix) (defScope s_law_mix) .none kV2 dc2 pm2 an2 cd2 ct2), sl2⟩)
    (c2 : PySem.W.codeIn K cd2 "_law_mix" = true)
    (k2 : PySem.W.keepIn K (.ref f2) = true)
    {f3 : Addr} {od3 an3 : Option Addr} {sl3 : Array (Option Value)} {oc3 kV3 dc3 pm3 cd3 ct3 : Value}
    (a3 : PySem.W.nsIn K mainGlobals "_law_pairs" = some (some (.ref f3)))
    (l3 : K.lookup f3 = some ⟨oc3, od3, .func (PySem.W.fnOf "_law_pairs" "_law_pairs" (defArgs s_law_pairs) (defBody s_law_pairs) (defScope s_law_pairs) .none kV3 dc3 pm3 an3 cd3 ct3), sl3⟩)
    (c3 : PySem.W.codeIn K cd3 "_law_pairs" = true)
    (k3 : PySem.W.keepIn K (.ref f3) = true)
    {f4 : Addr} {od4 an4 : Option Addr} {sl4 : Array (Option Value)} {oc4 kV4 dc4 pm4 cd4 ct4 : Value}
    (a4 : PySem.W.nsIn K mainGlobals "_law_any" = some (some (.ref f4)))
    (l4 : K.lookup f4 = some ⟨oc4, od4, .func (PySem.W.fnOf "_law_any" "_law_any" (defArgs s_law_any) (defBody s_law_any) (defScope s_law_any) .none kV4 dc4 pm4 an4 cd4 ct4), sl4⟩)
    (c4 : PySem.W.codeIn K cd4 "_law_any" = true)
    (k4 : PySem.W.keepIn K (.ref f4) = true)
    {f5 : Addr} {od5 an5 : Option Addr} {sl5 : Array (Option Value)} {oc5 kV5 dc5 pm5 cd5 ct5 : Value}
    (a5 : PySem.W.nsIn K mainGlobals "_law_bag" = some (some (.ref f5)))
    (l5 : K.lookup f5 = some ⟨oc5, od5, .func (PySem.W.fnOf "_law_bag" "_law_bag" (defArgs s_law_bag) (defBody s_law_bag) (defScope s_law_bag) .none kV5 dc5 pm5 an5 cd5 ct5), sl5⟩)
    (c5 : PySem.W.codeIn K cd5 "_law_bag" = true)
    (k5 : PySem.W.keepIn K (.ref f5) = true)
    {f6 : Addr} {od6 an6 : Option Addr} {sl6 : Array (Option Value)} {oc6 kV6 dc6 pm6 cd6 ct6 : Value}
    (a6 : PySem.W.nsIn K mainGlobals "_law_leads" = some (some (.ref f6)))
    (l6 : K.lookup f6 = some ⟨oc6, od6, .func (PySem.W.fnOf "_law_leads" "_law_leads" (defArgs s_law_leads) (defBody s_law_leads) (defScope s_law_leads) .none kV6 dc6 pm6 an6 cd6 ct6), sl6⟩)
    (c6 : PySem.W.codeIn K cd6 "_law_leads" = true)
    (k6 : PySem.W.keepIn K (.ref f6) = true)
    {f7 : Addr} {od7 an7 : Option Addr} {sl7 : Array (Option Value)} {oc7 kV7 dc7 pm7 cd7 ct7 : Value}
    (a7 : PySem.W.nsIn K mainGlobals "_law_is_walk" = some (some (.ref f7)))
    (l7 : K.lookup f7 = some ⟨oc7, od7, .func (PySem.W.fnOf "_law_is_walk" "_law_is_walk" (defArgs s_law_is_walk) (defBody s_law_is_walk) (defScope s_law_is_walk) .none kV7 dc7 pm7 an7 cd7 ct7), sl7⟩)
    (c7 : PySem.W.codeIn K cd7 "_law_is_walk" = true)
    (k7 : PySem.W.keepIn K (.ref f7) = true)
    {f8 : Addr} {od8 an8 : Option Addr} {sl8 : Array (Option Value)} {oc8 kV8 dc8 pm8 cd8 ct8 : Value}
    (a8 : PySem.W.nsIn K mainGlobals "_law_weight" = some (some (.ref f8)))
    (l8 : K.lookup f8 = some ⟨oc8, od8, .func (PySem.W.fnOf "_law_weight" "_law_weight" (defArgs s_law_weight) (defBody s_law_weight) (defScope s_law_weight) .none kV8 dc8 pm8 an8 cd8 ct8), sl8⟩)
    (c8 : PySem.W.codeIn K cd8 "_law_weight" = true)
    (k8 : PySem.W.keepIn K (.ref f8) = true)
    {f9 : Addr} {od9 an9 : Option Addr} {sl9 : Array (Option Value)} {oc9 kV9 dc9 pm9 cd9 ct9 : Value}
    (a9 : PySem.W.nsIn K mainGlobals "_law_is_ring" = some (some (.ref f9)))
    (l9 : K.lookup f9 = some ⟨oc9, od9, .func (PySem.W.fnOf "_law_is_ring" "_law_is_ring" (defArgs s_law_is_ring) (defBody s_law_is_ring) (defScope s_law_is_ring) .none kV9 dc9 pm9 an9 cd9 ct9), sl9⟩)
    (c9 : PySem.W.codeIn K cd9 "_law_is_ring" = true)
    (k9 : PySem.W.keepIn K (.ref f9) = true)
    {f10 : Addr} {od10 an10 : Option Addr} {sl10 : Array (Option Value)} {oc10 kV10 dc10 pm10 cd10 ct10 : Value}
    (a10 : PySem.W.nsIn K mainGlobals "_law_names" = some (some (.ref f10)))
    (l10 : K.lookup f10 = some ⟨oc10, od10, .func (PySem.W.fnOf "_law_names" "_law_names" (defArgs s_law_names) (defBody s_law_names) (defScope s_law_names) .none kV10 dc10 pm10 an10 cd10 ct10), sl10⟩)
    (c10 : PySem.W.codeIn K cd10 "_law_names" = true)
    (k10 : PySem.W.keepIn K (.ref f10) = true)
    {f11 : Addr} {od11 an11 : Option Addr} {sl11 : Array (Option Value)} {oc11 kV11 dc11 pm11 cd11 ct11 : Value}
    (a11 : PySem.W.nsIn K mainGlobals "_law_pick" = some (some (.ref f11)))
    (l11 : K.lookup f11 = some ⟨oc11, od11, .func (PySem.W.fnOf "_law_pick" "_law_pick" (defArgs s_law_pick) (defBody s_law_pick) (defScope s_law_pick) .none kV11 dc11 pm11 an11 cd11 ct11), sl11⟩)
    (c11 : PySem.W.codeIn K cd11 "_law_pick" = true)
    (k11 : PySem.W.keepIn K (.ref f11) = true)
    {f12 : Addr} {od12 an12 : Option Addr} {sl12 : Array (Option Value)} {oc12 kV12 dc12 pm12 cd12 ct12 : Value}
    (a12 : PySem.W.nsIn K mainGlobals "_law_odd_walk" = some (some (.ref f12)))
    (l12 : K.lookup f12 = some ⟨oc12, od12, .func (PySem.W.fnOf "_law_odd_walk" "_law_odd_walk" (defArgs s_law_odd_walk) (defBody s_law_odd_walk) (defScope s_law_odd_walk) .none kV12 dc12 pm12 an12 cd12 ct12), sl12⟩)
    (c12 : PySem.W.codeIn K cd12 "_law_odd_walk" = true)
    (k12 : PySem.W.keepIn K (.ref f12) = true)
    {f13 : Addr} {od13 an13 : Option Addr} {sl13 : Array (Option Value)} {oc13 kV13 dc13 pm13 cd13 ct13 : Value}
    (a13 : PySem.W.nsIn K mainGlobals "_law_walk" = some (some (.ref f13)))
    (l13 : K.lookup f13 = some ⟨oc13, od13, .func (PySem.W.fnOf "_law_walk" "_law_walk" (defArgs s_law_walk) (defBody s_law_walk) (defScope s_law_walk) .none kV13 dc13 pm13 an13 cd13 ct13), sl13⟩)
    (c13 : PySem.W.codeIn K cd13 "_law_walk" = true)
    (k13 : PySem.W.keepIn K (.ref f13) = true)
    {f14 : Addr} {od14 an14 : Option Addr} {sl14 : Array (Option Value)} {oc14 kV14 dc14 pm14 cd14 ct14 : Value}
    (a14 : PySem.W.nsIn K mainGlobals "_law_rounds" = some (some (.ref f14)))
    (l14 : K.lookup f14 = some ⟨oc14, od14, .func (PySem.W.fnOf "_law_rounds" "_law_rounds" (defArgs s_law_rounds) (defBody s_law_rounds) (defScope s_law_rounds) .none kV14 dc14 pm14 an14 cd14 ct14), sl14⟩)
    (c14 : PySem.W.codeIn K cd14 "_law_rounds" = true)
    (k14 : PySem.W.keepIn K (.ref f14) = true)
    {f15 : Addr} {od15 an15 : Option Addr} {sl15 : Array (Option Value)} {oc15 kV15 dc15 pm15 cd15 ct15 : Value}
    (a15 : PySem.W.nsIn K mainGlobals "ends_of" = some (some (.ref f15)))
    (l15 : K.lookup f15 = some ⟨oc15, od15, .func (PySem.W.fnOf "ends_of" "ends_of" (defArgs s_ends_of) (defBody s_ends_of) (defScope s_ends_of) .none kV15 dc15 pm15 an15 cd15 ct15), sl15⟩)
    (c15 : PySem.W.codeIn K cd15 "ends_of" = true)
    (k15 : PySem.W.keepIn K (.ref f15) = true)
    {f16 : Addr} {od16 an16 : Option Addr} {sl16 : Array (Option Value)} {oc16 kV16 dc16 pm16 cd16 ct16 : Value}
    (a16 : PySem.W.nsIn K mainGlobals "is_name" = some (some (.ref f16)))
    (l16 : K.lookup f16 = some ⟨oc16, od16, .func (PySem.W.fnOf "is_name" "is_name" (defArgs s_is_name) (defBody s_is_name) (defScope s_is_name) .none kV16 dc16 pm16 an16 cd16 ct16), sl16⟩)
    (c16 : PySem.W.codeIn K cd16 "is_name" = true)
    (k16 : PySem.W.keepIn K (.ref f16) = true)
    {f17 : Addr} {od17 an17 : Option Addr} {sl17 : Array (Option Value)} {oc17 kV17 dc17 pm17 cd17 ct17 : Value}
    (a17 : PySem.W.nsIn K mainGlobals "are_names" = some (some (.ref f17)))
    (l17 : K.lookup f17 = some ⟨oc17, od17, .func (PySem.W.fnOf "are_names" "are_names" (defArgs s_are_names) (defBody s_are_names) (defScope s_are_names) .none kV17 dc17 pm17 an17 cd17 ct17), sl17⟩)
    (c17 : PySem.W.codeIn K cd17 "are_names" = true)
    (k17 : PySem.W.keepIn K (.ref f17) = true)
    {f18 : Addr} {od18 an18 : Option Addr} {sl18 : Array (Option Value)} {oc18 kV18 dc18 pm18 cd18 ct18 : Value}
    (a18 : PySem.W.nsIn K mainGlobals "is_pair" = some (some (.ref f18)))
    (l18 : K.lookup f18 = some ⟨oc18, od18, .func (PySem.W.fnOf "is_pair" "is_pair" (defArgs s_is_pair) (defBody s_is_pair) (defScope s_is_pair) .none kV18 dc18 pm18 an18 cd18 ct18), sl18⟩)
    (c18 : PySem.W.codeIn K cd18 "is_pair" = true)
    (k18 : PySem.W.keepIn K (.ref f18) = true)
    {f19 : Addr} {od19 an19 : Option Addr} {sl19 : Array (Option Value)} {oc19 kV19 dc19 pm19 cd19 ct19 : Value}
    (a19 : PySem.W.nsIn K mainGlobals "is_answer" = some (some (.ref f19)))
    (l19 : K.lookup f19 = some ⟨oc19, od19, .func (PySem.W.fnOf "is_answer" "is_answer" (defArgs s_is_answer) (defBody s_is_answer) (defScope s_is_answer) .none kV19 dc19 pm19 an19 cd19 ct19), sl19⟩)
    (c19 : PySem.W.codeIn K cd19 "is_answer" = true)
    (k19 : PySem.W.keepIn K (.ref f19) = true)
    {f20 : Addr} {od20 an20 : Option Addr} {sl20 : Array (Option Value)} {oc20 kV20 dc20 pm20 cd20 ct20 : Value}
    (a20 : PySem.W.nsIn K mainGlobals "pair_of" = some (some (.ref f20)))
    (l20 : K.lookup f20 = some ⟨oc20, od20, .func (PySem.W.fnOf "pair_of" "pair_of" (defArgs s_pair_of) (defBody s_pair_of) (defScope s_pair_of) .none kV20 dc20 pm20 an20 cd20 ct20), sl20⟩)
    (c20 : PySem.W.codeIn K cd20 "pair_of" = true)
    (k20 : PySem.W.keepIn K (.ref f20) = true)
    {f21 : Addr} {od21 an21 : Option Addr} {sl21 : Array (Option Value)} {oc21 kV21 dc21 pm21 cd21 ct21 : Value}
    (a21 : PySem.W.findIn K (.ref CBook) "__contains__" = some (some (.ref f21)))
    (i21 : PySem.W.isFn K (.ref f21) = true)
    (l21 : K.lookup f21 = some ⟨oc21, od21, .func (PySem.W.fnOf "__contains__" "Book.__contains__" (defArgs s_Book_contains) (defBody s_Book_contains) (defScope s_Book_contains) .none kV21 dc21 pm21 an21 cd21 ct21), sl21⟩)
    (c21 : PySem.W.codeIn K cd21 "Book.__contains__" = true)
    (k21 : PySem.W.keepIn K (.ref f21) = true)
    (q21 : PySem.W.fnIn K f21 = true)
    {f22 : Addr} {od22 an22 : Option Addr} {sl22 : Array (Option Value)} {oc22 kV22 dc22 pm22 cd22 ct22 : Value}
    (a22 : PySem.W.nsIn K mainGlobals "is_walk" = some (some (.ref f22)))
    (l22 : K.lookup f22 = some ⟨oc22, od22, .func (PySem.W.fnOf "is_walk" "is_walk" (defArgs s_is_walk) (defBody s_is_walk) (defScope s_is_walk) .none kV22 dc22 pm22 an22 cd22 ct22), sl22⟩)
    (c22 : PySem.W.codeIn K cd22 "is_walk" = true)
    (k22 : PySem.W.keepIn K (.ref f22) = true)
    {f23 : Addr} {od23 an23 : Option Addr} {sl23 : Array (Option Value)} {oc23 kV23 dc23 pm23 cd23 ct23 : Value}
    (a23 : PySem.W.nsIn K mainGlobals "weight_of" = some (some (.ref f23)))
    (l23 : K.lookup f23 = some ⟨oc23, od23, .func (PySem.W.fnOf "weight_of" "weight_of" (defArgs s_weight_of) (defBody s_weight_of) (defScope s_weight_of) .none kV23 dc23 pm23 an23 cd23 ct23), sl23⟩)
    (c23 : PySem.W.codeIn K cd23 "weight_of" = true)
    (k23 : PySem.W.keepIn K (.ref f23) = true)
    {f24 : Addr} {od24 an24 : Option Addr} {sl24 : Array (Option Value)} {oc24 kV24 dc24 pm24 cd24 ct24 : Value}
    (a24 : PySem.W.nsIn K mainGlobals "is_ring" = some (some (.ref f24)))
    (l24 : K.lookup f24 = some ⟨oc24, od24, .func (PySem.W.fnOf "is_ring" "is_ring" (defArgs s_is_ring) (defBody s_is_ring) (defScope s_is_ring) .none kV24 dc24 pm24 an24 cd24 ct24), sl24⟩)
    (c24 : PySem.W.codeIn K cd24 "is_ring" = true)
    (k24 : PySem.W.keepIn K (.ref f24) = true)
    {f25 : Addr} {od25 an25 : Option Addr} {sl25 : Array (Option Value)} {oc25 kV25 dc25 pm25 cd25 ct25 : Value}
    (a25 : PySem.W.findIn K (.ref CBook) "answers" = some (some (.ref f25)))
    (i25 : PySem.W.isFn K (.ref f25) = true)
    (l25 : K.lookup f25 = some ⟨oc25, od25, .func (PySem.W.fnOf "answers" "Book.answers" (defArgs s_Book_answers) (defBody s_Book_answers) (defScope s_Book_answers) .none kV25 dc25 pm25 an25 cd25 ct25), sl25⟩)
    (c25 : PySem.W.codeIn K cd25 "Book.answers" = true)
    (k25 : PySem.W.keepIn K (.ref f25) = true)
    {f26 : Addr} {od26 an26 : Option Addr} {sl26 : Array (Option Value)} {oc26 kV26 dc26 pm26 cd26 ct26 : Value}
    (a26 : PySem.W.findIn K (.ref CBook) "things" = some (some (.ref f26)))
    (i26 : PySem.W.isFn K (.ref f26) = true)
    (l26 : K.lookup f26 = some ⟨oc26, od26, .func (PySem.W.fnOf "things" "Book.things" (defArgs s_Book_things) (defBody s_Book_things) (defScope s_Book_things) .none kV26 dc26 pm26 an26 cd26 ct26), sl26⟩)
    (c26 : PySem.W.codeIn K cd26 "Book.things" = true)
    (k26 : PySem.W.keepIn K (.ref f26) = true)
    {f27 : Addr} {od27 an27 : Option Addr} {sl27 : Array (Option Value)} {oc27 kV27 dc27 pm27 cd27 ct27 : Value}
    (a27 : PySem.W.nsIn K mainGlobals "is_possible" = some (some (.ref f27)))
    (l27 : K.lookup f27 = some ⟨oc27, od27, .func (PySem.W.fnOf "is_possible" "is_possible" (defArgs s_is_possible) (defBody s_is_possible) (defScope s_is_possible) .none kV27 dc27 pm27 an27 cd27 ct27), sl27⟩)
    (c27 : PySem.W.codeIn K cd27 "is_possible" = true)
    (k27 : PySem.W.keepIn K (.ref f27) = true)
    {f28 : Addr} {od28 an28 : Option Addr} {sl28 : Array (Option Value)} {oc28 kV28 dc28 pm28 cd28 ct28 : Value}
    (a28 : PySem.W.nsIn K mainGlobals "step_of" = some (some (.ref f28)))
    (l28 : K.lookup f28 = some ⟨oc28, od28, .func (PySem.W.fnOf "step_of" "step_of" (defArgs s_step_of) (defBody s_step_of) (defScope s_step_of) .none kV28 dc28 pm28 an28 cd28 ct28), sl28⟩)
    (c28 : PySem.W.codeIn K cd28 "step_of" = true)
    (k28 : PySem.W.keepIn K (.ref f28) = true)
    {f29 : Addr} {od29 an29 : Option Addr} {sl29 : Array (Option Value)} {oc29 kV29 dc29 pm29 cd29 ct29 : Value}
    (a29 : PySem.W.nsIn K mainGlobals "next_answer" = some (some (.ref f29)))
    (l29 : K.lookup f29 = some ⟨oc29, od29, .func (PySem.W.fnOf "next_answer" "next_answer" (defArgs s_next_answer) (defBody s_next_answer) (defScope s_next_answer) .none kV29 dc29 pm29 an29 cd29 ct29), sl29⟩)
    (c29 : PySem.W.codeIn K cd29 "next_answer" = true)
    (k29 : PySem.W.keepIn K (.ref f29) = true)
    {f30 : Addr} {od30 an30 : Option Addr} {sl30 : Array (Option Value)} {oc30 kV30 dc30 pm30 cd30 ct30 : Value}
    (a30 : PySem.W.nsIn K mainGlobals "least_ring" = some (some (.ref f30)))
    (l30 : K.lookup f30 = some ⟨oc30, od30, .func (PySem.W.fnOf "least_ring" "least_ring" (defArgs s_least_ring) (defBody s_least_ring) (defScope s_least_ring) .none kV30 dc30 pm30 an30 cd30 ct30), sl30⟩)
    (c30 : PySem.W.codeIn K cd30 "least_ring" = true)
    (k30 : PySem.W.keepIn K (.ref f30) = true)
    {f31 : Addr} {od31 an31 : Option Addr} {sl31 : Array (Option Value)} {oc31 kV31 dc31 pm31 cd31 ct31 : Value}
    (a31 : PySem.W.nsIn K mainGlobals "one_more" = some (some (.ref f31)))
    (l31 : K.lookup f31 = some ⟨oc31, od31, .func (PySem.W.fnOf "one_more" "one_more" (defArgs s_one_more) (defBody s_one_more) (defScope s_one_more) .none kV31 dc31 pm31 an31 cd31 ct31), sl31⟩)
    (c31 : PySem.W.codeIn K cd31 "one_more" = true)
    (k31 : PySem.W.keepIn K (.ref f31) = true)
    {f32 : Addr} {od32 an32 : Option Addr} {sl32 : Array (Option Value)} {oc32 kV32 dc32 pm32 cd32 ct32 : Value}
    (a32 : PySem.W.nsIn K mainGlobals "ring_of" = some (some (.ref f32)))
    (l32 : K.lookup f32 = some ⟨oc32, od32, .func (PySem.W.fnOf "ring_of" "ring_of" (defArgs s_ring_of) (defBody s_ring_of) (defScope s_ring_of) .none kV32 dc32 pm32 an32 cd32 ct32), sl32⟩)
    (c32 : PySem.W.codeIn K cd32 "ring_of" = true)
    (k32 : PySem.W.keepIn K (.ref f32) = true)
    {f33 : Addr} {od33 an33 : Option Addr} {sl33 : Array (Option Value)} {oc33 kV33 dc33 pm33 cd33 ct33 : Value}
    (a33 : PySem.W.nsIn K mainGlobals "are_answers" = some (some (.ref f33)))
    (l33 : K.lookup f33 = some ⟨oc33, od33, .func (PySem.W.fnOf "are_answers" "are_answers" (defArgs s_are_answers) (defBody s_are_answers) (defScope s_are_answers) .none kV33 dc33 pm33 an33 cd33 ct33), sl33⟩)
    (c33 : PySem.W.codeIn K cd33 "are_answers" = true)
    (k33 : PySem.W.keepIn K (.ref f33) = true)
    {f34 : Addr} {od34 an34 : Option Addr} {sl34 : Array (Option Value)} {oc34 kV34 dc34 pm34 cd34 ct34 : Value}
    (a34 : PySem.W.findIn K (.ref CBook) "__init__" = some (some (.ref f34)))
    (i34 : PySem.W.isFn K (.ref f34) = true)
    {T34 U34 : Addr} {tc34 : Value} {td34 ud34 : Option Addr} {ts34 us34 : Array (Option Value)} {tn34 un34 : Nat}
    (l34 : K.lookup f34 = some ⟨oc34, od34, .func (PySem.W.fnOf "__init__" "Book.__init__" (defArgs s_Book_init) (defBody s_Book_init) (defScope s_Book_init) (.ref T34) kV34 dc34 pm34 an34 cd34 ct34), sl34⟩)
    (lT34 : K.lookup T34 = some ⟨tc34, td34, .seq #[.ref U34] tn34, ts34⟩)
    (lU34 : K.lookup U34 = some ⟨.type "tuple", ud34, .seq #[] un34, us34⟩)
    (c34 : PySem.W.codeIn K cd34 "Book.__init__" = true)
    (k34 : PySem.W.keepIn K (.ref f34) = true)
    {f35 : Addr} {od35 an35 : Option Addr} {sl35 : Array (Option Value)} {oc35 kV35 dc35 pm35 cd35 ct35 : Value}
    (a35 : PySem.W.nsIn K mainGlobals "law" = some (some (.ref f35)))
    (l35 : K.lookup f35 = some ⟨oc35, od35, .func (PySem.W.fnOf "law" "law" (defArgs s_law) (defBody s_law) (defScope s_law) .none kV35 dc35 pm35 an35 cd35 ct35), sl35⟩)
    (c35 : PySem.W.codeIn K cd35 "law" = true)
    (k35 : PySem.W.keepIn K (.ref f35) = true) :
    ∃ fd : FuncData, (∀ (s : Shared) (v : Value), BindsTo s fd ⟨[v], []⟩ [("_law_script", v)]) ∧ ∀ base : Heap, K.In base → base.Ns mainGlobals mg → FnG l.prog w K mg base 8 fa fd ["_law_script"] (spG K 1 m_law) := by
  have e := hfa.symm.trans (PySem.W.mg_of X G a35)
  cases e
  have hB : Blt mg := ⟨PySem.W.mg_none_of X G z_abs, PySem.W.mg_none_of X G z_all, PySem.W.mg_none_of X G z_bool, PySem.W.mg_none_of X G z_int, PySem.W.mg_none_of X G z_isinstance, PySem.W.mg_none_of X G z_len, PySem.W.mg_none_of X G z_list, PySem.W.mg_none_of X G z_max, PySem.W.mg_none_of X G z_range, PySem.W.mg_none_of X G z_repr, PySem.W.mg_none_of X G z_set, PySem.W.mg_none_of X G z_sorted, PySem.W.mg_none_of X G z_str, PySem.W.mg_none_of X G z_tuple, PySem.W.mg_none_of X G z_zip, ⟨_, PySem.W.mg_of X G g_LETTERS⟩, ⟨_, PySem.W.mg_of X G g_LONGEST⟩⟩
  have hC_Book : clsA K "Book" = some CBook := clsA_of a_Book
  have cl_Book : Cls K CBook := ⟨pg_Book, hd_Book, po_Book, sa_Book⟩
  have ci_Book : ClsI K CBook := ⟨cl_Book, c1_Book, cx2, cx3, c4_Book⟩
  have isT_ : IsTab K isT := isTab_of (l := isL_) (by
    intro e he
    simp only [isL_, List.mem_cons, List.not_mem_nil, or_false] at he
    rcases he with rfl | rfl | rfl | rfl | rfl | rfl | rfl | rfl | rfl | rfl | rfl | rfl | rfl | rfl | rfl | rfl | rfl | rfl | rfl | rfl | rfl | rfl | rfl | rfl | rfl | rfl | rfl | rfl | rfl | rfl | rfl | rfl
    · exact ent_bb e0
    · exact ent_bb e1
    · exact ent_bb e2
    · exact ent_bb e3
    · exact ent_bb e4
    · exact ent_bb e5
    · exact ent_bb e6
    · exact ent_bb e7
    · exact ent_bb e8
    · exact ent_bb e9
    · exact ent_bb e10
    · exact ent_bb e11
    · exact ent_bb e12
    · exact ent_bb e13
    · exact ent_bb e14
    · exact ent_bb e15
    · exact ent_bb e16
    · exact ent_bb e17
    · exact ent_bb e18
    · exact ent_bb e19
    · exact ent_bb e20
    · exact ent_bb e21
    · exact ent_bb e22
    · exact ent_bb e23
    · exact ent_bb e24
    · exact ent_bb e25
    · exact ent_bb e26
    · exact ent_bb e27
    · exact ent_cb hC_Book ci_Book e28
    · exact ent_cb hC_Book ci_Book e29
    · exact ent_cb hC_Book ci_Book e30
    · exact ent_cb hC_Book ci_Book e31)
  have hK : Kls K mg := ⟨isT_, (clsF_cons (clsF_one hC_Book cl_Book n_Book_its_answers) clsF_nil), (clsF_cons (clsF_one hC_Book cl_Book n_Book_its_things) clsF_nil), (clsF_cons (clsF_one hC_Book cl_Book n_Book_its_truths) clsF_nil), ⟨CBook, PySem.W.mg_of X G a_Book, hC_Book⟩⟩
  refine ⟨PySem.W.fnOf "law" "law" (defArgs s_law) (defBody s_law) (defScope s_law) .none kV35 dc35 pm35 an35 cd35 ct35, fun s v => .of_eq rfl, fun base _ _ => ?_⟩
  have F0 := fun_mk (st := s_law_alike) l0 c0 k0
  have B0 := F0.binds (ps := ["_law_found", "_law_due"]) fun _ _ _ _ _ _ us hl => match us, hl with | [_, _], _ => rfl
  have C_law_alike : Callee l.prog w K mg base 1 "_law_alike" ["_law_found", "_law_due"] m_law_alike := ok_law_alike hB hK  F0 (PySem.W.mg_of X G a0) B0
  have F1 := fun_mk (st := s_law_take) l1 c1 k1
  have B1 := F1.binds (ps := ["_law_bag_here", "_law_many"]) fun _ _ _ _ _ _ us hl => match us, hl with | [_, _], _ => rfl
  have C_law_take : Callee l.prog w K mg base 1 "_law_take" ["_law_bag_here", "_law_many"] m_law_take := ok_law_take hB hK  F1 (PySem.W.mg_of X G a1) B1
  have F2 := fun_mk (st := s_law_mix) l2 c2 k2
  have B2 := F2.binds (ps := ["_law_bag_here", "_law_some"]) fun _ _ _ _ _ _ us hl => match us, hl with | [_, _], _ => rfl
  have C_law_mix : Callee l.prog w K mg base 2 "_law_mix" ["_law_bag_here", "_law_some"] m_law_mix := ok_law_mix hB hK C_law_take F2 (PySem.W.mg_of X G a2) B2
  have F3 := fun_mk (st := s_law_pairs) l3 c3 k3
  have B3 := F3.binds (ps := ["_law_things"]) fun _ _ _ _ _ _ us hl => match us, hl with | [_], _ => rfl
  have C_law_pairs : Callee l.prog w K mg base 1 "_law_pairs" ["_law_things"] m_law_pairs := ok_law_pairs hB hK  F3 (PySem.W.mg_of X G a3) B3
  have F4 := fun_mk (st := s_law_any) l4 c4 k4
  have B4 := F4.binds (ps := ["_law_bag_here", "_law_things", "_law_many"]) fun _ _ _ _ _ _ us hl => match us, hl with | [_, _, _], _ => rfl
  have C_law_any : Callee l.prog w K mg base 3 "_law_any" ["_law_bag_here", "_law_things", "_law_many"] m_law_any := ok_law_any hB hK C_law_mix C_law_pairs C_law_take F4 (PySem.W.mg_of X G a4) B4
  have F5 := fun_mk (st := s_law_bag) l5 c5 k5
  have B5 := F5.binds (ps := ["_law_script"]) fun _ _ _ _ _ _ us hl => match us, hl with | [_], _ => rfl
  have C_law_bag : Callee l.prog w K mg base 1 "_law_bag" ["_law_script"] m_law_bag := ok_law_bag hB hK  F5 (PySem.W.mg_of X G a5) B5
  have F6 := fun_mk (st := s_law_leads) l6 c6 k6
  have B6 := F6.binds (ps := ["_law_answer"]) fun _ _ _ _ _ _ us hl => match us, hl with | [_], _ => rfl
  have C_law_leads : Callee l.prog w K mg base 1 "_law_leads" ["_law_answer"] m_law_leads := ok_law_leads hB hK  F6 (PySem.W.mg_of X G a6) B6
  have F7 := fun_mk (st := s_law_is_walk) l7 c7 k7
  have B7 := F7.binds (ps := ["_law_answers", "_law_thing"]) fun _ _ _ _ _ _ us hl => match us, hl with | [_, _], _ => rfl
  have C_law_is_walk : Callee l.prog w K mg base 2 "_law_is_walk" ["_law_answers", "_law_thing"] (m_law_is_walk isT) := ok_law_is_walk hB hK C_law_leads F7 (PySem.W.mg_of X G a7) B7
  have F8 := fun_mk (st := s_law_weight) l8 c8 k8
  have B8 := F8.binds (ps := ["_law_walk_here"]) fun _ _ _ _ _ _ us hl => match us, hl with | [_], _ => rfl
  have C_law_weight : Callee l.prog w K mg base 1 "_law_weight" ["_law_walk_here"] m_law_weight := ok_law_weight hB hK  F8 (PySem.W.mg_of X G a8) B8
  have F9 := fun_mk (st := s_law_is_ring) l9 c9 k9
  have B9 := F9.binds (ps := ["_law_answers", "_law_thing"]) fun _ _ _ _ _ _ us hl => match us, hl with | [_, _], _ => rfl
  have C_law_is_ring : Callee l.prog w K mg base 3 "_law_is_ring" ["_law_answers", "_law_thing"] (m_law_is_ring isT) := ok_law_is_ring hB hK C_law_is_walk C_law_leads C_law_weight F9 (PySem.W.mg_of X G a9) B9
  have F10 := fun_mk (st := s_law_names) l10 c10 k10
  have B10 := F10.binds (ps := ["_law_bag_here", "_law_many"]) fun _ _ _ _ _ _ us hl => match us, hl with | [_, _], _ => rfl
  have C_law_names : Callee l.prog w K mg base 3 "_law_names" ["_law_bag_here", "_law_many"] m_law_names := ok_law_names hB hK C_law_mix C_law_take F10 (PySem.W.mg_of X G a10) B10
  have F11 := fun_mk (st := s_law_pick) l11 c11 k11
  have B11 := F11.binds (ps := ["_law_bag_here", "_law_some"]) fun _ _ _ _ _ _ us hl => match us, hl with | [_, _], _ => rfl
  have C_law_pick : Callee l.prog w K mg base 2 "_law_pick" ["_law_bag_here", "_law_some"] m_law_pick := ok_law_pick hB hK C_law_take F11 (PySem.W.mg_of X G a11) B11
  have F12 := fun_mk (st := s_law_odd_walk) l12 c12 k12
  have B12 := F12.binds (ps := ["_law_bag_here", "_law_walk_here", "_law_things"]) fun _ _ _ _ _ _ us hl => match us, hl with | [_, _, _], _ => rfl
  have C_law_odd_walk : Callee l.prog w K mg base 3 "_law_odd_walk" ["_law_bag_here", "_law_walk_here", "_law_things"] m_law_odd_walk := ok_law_odd_walk hB hK C_law_pairs C_law_pick C_law_take F12 (PySem.W.mg_of X G a12) B12
  have F13 := fun_mk (st := s_law_walk) l13 c13 k13
  have B13 := F13.binds (ps := ["_law_bag_here", "_law_answers", "_law_many"]) fun _ _ _ _ _ _ us hl => match us, hl with | [_, _, _], _ => rfl
  have C_law_walk : Callee l.prog w K mg base 3 "_law_walk" ["_law_bag_here", "_law_answers", "_law_many"] m_law_walk := ok_law_walk hB hK C_law_leads C_law_pick C_law_take F13 (PySem.W.mg_of X G a13) B13
  have F14 := fun_mk (st := s_law_rounds) l14 c14 k14
  have B14 := F14.binds (ps := ["_law_bag_here", "_law_answers"]) fun _ _ _ _ _ _ us hl => match us, hl with | [_, _], _ => rfl
  have C_law_rounds : Callee l.prog w K mg base 4 "_law_rounds" ["_law_bag_here", "_law_answers"] m_law_rounds := ok_law_rounds hB hK C_law_leads C_law_walk F14 (PySem.W.mg_of X G a14) B14
  have F15 := fun_mk (st := s_ends_of) l15 c15 k15
  have B15 := F15.binds (ps := ["answer"]) fun _ _ _ _ _ _ us hl => match us, hl with | [_], _ => rfl
  have C_ends_of : Callee l.prog w K mg base 1 "ends_of" ["answer"] m_ends_of := ok_ends_of hB hK  F15 (PySem.W.mg_of X G a15) B15
  have F16 := fun_mk (st := s_is_name) l16 c16 k16
  have B16 := F16.binds (ps := ["thing"]) fun _ _ _ _ _ _ us hl => match us, hl with | [_], _ => rfl
  have C_is_name : Callee l.prog w K mg base 1 "is_name" ["thing"] (m_is_name isT) := ok_is_name hB hK  F16 (PySem.W.mg_of X G a16) B16
  have F17 := fun_mk (st := s_are_names) l17 c17 k17
  have B17 := F17.binds (ps := ["thing"]) fun _ _ _ _ _ _ us hl => match us, hl with | [_], _ => rfl
  have C_are_names : Callee l.prog w K mg base 2 "are_names" ["thing"] (m_are_names isT) := ok_are_names hB hK C_is_name F17 (PySem.W.mg_of X G a17) B17
  have F18 := fun_mk (st := s_is_pair) l18 c18 k18
  have B18 := F18.binds (ps := ["thing"]) fun _ _ _ _ _ _ us hl => match us, hl with | [_], _ => rfl
  have C_is_pair : Callee l.prog w K mg base 3 "is_pair" ["thing"] (m_is_pair isT) := ok_is_pair hB hK C_are_names F18 (PySem.W.mg_of X G a18) B18
  have F19 := fun_mk (st := s_is_answer) l19 c19 k19
  have B19 := F19.binds (ps := ["thing"]) fun _ _ _ _ _ _ us hl => match us, hl with | [_], _ => rfl
  have C_is_answer : Callee l.prog w K mg base 4 "is_answer" ["thing"] (m_is_answer isT) := ok_is_answer hB hK C_is_pair F19 (PySem.W.mg_of X G a19) B19
  have F20 := fun_mk (st := s_pair_of) l20 c20 k20
  have B20 := F20.binds (ps := ["answer"]) fun _ _ _ _ _ _ us hl => match us, hl with | [_], _ => rfl
  have C_pair_of : Callee l.prog w K mg base 1 "pair_of" ["answer"] m_pair_of := ok_pair_of hB hK  F20 (PySem.W.mg_of X G a20) B20
  have F21 := fun_mk (st := s_Book_contains) l21 c21 k21
  have B21 := F21.binds (ps := ["self", "thing"]) fun _ _ _ _ _ _ us hl => match us, hl with | [_, _], _ => rfl
  have C_Book_contains : Spc l.prog w K mg base 5 2 "__contains__" "Book" (m_Book_contains isT) := ok_Book_contains hB hK C_is_answer C_pair_of F21 hC_Book a21 i21 q21 sf_Book ns_Book B21
  have F22 := fun_mk (st := s_is_walk) l22 c22 k22
  have B22 := F22.binds (ps := ["book", "thing"]) fun _ _ _ _ _ _ us hl => match us, hl with | [_, _], _ => rfl
  have C_is_walk : Callee l.prog w K mg base 6 "is_walk" ["book", "thing"] (m_is_walk isT) := ok_is_walk hB hK C_ends_of C_Book_contains F22 (PySem.W.mg_of X G a22) B22
  have F23 := fun_mk (st := s_weight_of) l23 c23 k23
  have B23 := F23.binds (ps := ["walk"]) fun _ _ _ _ _ _ us hl => match us, hl with | [_], _ => rfl
  have C_weight_of : Callee l.prog w K mg base 1 "weight_of" ["walk"] m_weight_of := ok_weight_of hB hK  F23 (PySem.W.mg_of X G a23) B23
  have F24 := fun_mk (st := s_is_ring) l24 c24 k24
  have B24 := F24.binds (ps := ["book", "thing"]) fun _ _ _ _ _ _ us hl => match us, hl with | [_, _], _ => rfl
  have C_is_ring : Callee l.prog w K mg base 7 "is_ring" ["book", "thing"] (m_is_ring isT) := ok_is_ring hB hK C_ends_of C_is_walk C_weight_of F24 (PySem.W.mg_of X G a24) B24
  have F25 := fun_mk (st := s_Book_answers) l25 c25 k25
  have B25 := F25.binds (ps := ["self"]) fun _ _ _ _ _ _ us hl => match us, hl with | [_], _ => rfl
  have C_Book_answers : Mth l.prog w K mg base 1 1 "answers" "Book" m_Book_answers := ok_Book_answers hB hK  F25 hC_Book cl_Book ⟨a25, i25, k25⟩ B25
  have F26 := fun_mk (st := s_Book_things) l26 c26 k26
  have B26 := F26.binds (ps := ["self"]) fun _ _ _ _ _ _ us hl => match us, hl with | [_], _ => rfl
  have C_Book_things : Mth l.prog w K mg base 1 1 "things" "Book" m_Book_things := ok_Book_things hB hK  F26 hC_Book cl_Book ⟨a26, i26, k26⟩ B26
  have F27 := fun_mk (st := s_is_possible) l27 c27 k27
  have B27 := F27.binds (ps := ["book"]) fun _ _ _ _ _ _ us hl => match us, hl with | [_], _ => rfl
  have C_is_possible : Callee l.prog w K mg base 2 "is_possible" ["book"] m_is_possible := ok_is_possible hB hK C_ends_of C_Book_answers C_Book_things F27 (PySem.W.mg_of X G a27) B27
  have F28 := fun_mk (st := s_step_of) l28 c28 k28
  have B28 := F28.binds (ps := ["answer"]) fun _ _ _ _ _ _ us hl => match us, hl with | [_], _ => rfl
  have C_step_of : Callee l.prog w K mg base 1 "step_of" ["answer"] m_step_of := ok_step_of hB hK  F28 (PySem.W.mg_of X G a28) B28
  have F29 := fun_mk (st := s_next_answer) l29 c29 k29
  have B29 := F29.binds (ps := ["answers", "level", "here", "last", "steps"]) fun _ _ _ _ _ _ us hl => match us, hl with | [_, _, _, _, _], _ => rfl
  have C_next_answer : Callee l.prog w K mg base 2 "next_answer" ["answers", "level", "here", "last", "steps"] m_next_answer := ok_next_answer hB hK C_ends_of C_step_of F29 (PySem.W.mg_of X G a29) B29
  have F30 := fun_mk (st := s_least_ring) l30 c30 k30
  have B30 := F30.binds (ps := ["book", "levels"]) fun _ _ _ _ _ _ us hl => match us, hl with | [_, _], _ => rfl
  have C_least_ring : Callee l.prog w K mg base 3 "least_ring" ["book", "levels"] m_least_ring := ok_least_ring hB hK C_ends_of C_next_answer C_step_of C_Book_answers F30 (PySem.W.mg_of X G a30) B30
  have F31 := fun_mk (st := s_one_more) l31 c31 k31
  have B31 := F31.binds (ps := ["book", "level"]) fun _ _ _ _ _ _ us hl => match us, hl with | [_, _], _ => rfl
  have C_one_more : Callee l.prog w K mg base 2 "one_more" ["book", "level"] m_one_more := ok_one_more hB hK C_ends_of C_step_of C_Book_answers C_Book_things F31 (PySem.W.mg_of X G a31) B31
  have F32 := fun_mk (st := s_ring_of) l32 c32 k32
  have B32 := F32.binds (ps := ["book"]) fun _ _ _ _ _ _ us hl => match us, hl with | [_], _ => rfl
  have C_ring_of : Callee l.prog w K mg base 4 "ring_of" ["book"] m_ring_of := ok_ring_of hB hK C_is_possible C_least_ring C_one_more C_Book_things F32 (PySem.W.mg_of X G a32) B32
  have F33 := fun_mk (st := s_are_answers) l33 c33 k33
  have B33 := F33.binds (ps := ["thing"]) fun _ _ _ _ _ _ us hl => match us, hl with | [_], _ => rfl
  have C_are_answers : Callee l.prog w K mg base 5 "are_answers" ["thing"] (m_are_answers isT) := ok_are_answers hB hK C_is_answer F33 (PySem.W.mg_of X G a33) B33
  have F34 := funD_mk (st := s_Book_init) l34 lT34 c34 k34
  obtain ⟨ds34_0, vd34_0, B34_0⟩ := F34.binds1 (ps := ["self", "things", "answers"]) 3 1 (by simp) rfl fun _ _ _ _ _ _ _ us its hu hi => match us, its, hu, hi with | [_, _, _], [_], _, _ => ⟨_, rfl, rfl⟩
  have C_Book_init_0 : Mak l.prog w K mg base 6 3 "Book" [] (m_Book_init isT) := ok_Book_init hB hK C_are_answers C_are_names C_pair_of (funD_A F34) hC_Book (PySem.W.mg_of X G a_Book) ⟨mk_Book, a34, i34, kc_Book⟩ B34_0 vd34_0 fun _ => .nil
  have F35 := fun_mk (st := s_law) l35 c35 k35
  have B35 := F35.binds (ps := ["_law_script"]) fun _ _ _ _ _ _ us hl => match us, hl with | [_], _ => rfl
  exact ok_law hB hK C_law_alike C_law_any C_law_bag C_law_is_ring C_law_names C_law_odd_walk C_law_rounds C_law_take C_law_walk C_is_ring C_ring_of C_Book_init_0 F35
end VI

/-! k22: the law. -/
namespace VI
open PySem PySem.Spec PyProof.Rows L2
theorem tok : TOk isT ["Book"] := ⟨by decide +kernel, by decide +kernel⟩
theorem law_rounds_w {b : D} {as : List Ans} (hb : BagOk b) (hg : GoodA as) (hl : as.length ≤ 36) {Q : Sl → List Sl → Prop}
    (q : ∀ (Ws : List (List Ans)) b', (∀ W ∈ Ws, (∀ a ∈ W, a ∈ as) ∧ W.length ≤ 9) → Ws.length ≤ 6 → BagOk b' → Q ⟨.own, .lst (Ws.map walkD)⟩ [⟨.par, b'⟩, ⟨.par, .lst (as.map ansD)⟩]) :
    wM m_law_rounds [⟨.par, b⟩, ⟨.par, .lst (as.map ansD)⟩] Q := by
  rw [m_law_rounds, w_fn, b_law_rounds]
  simp only [List.map_cons, List.map_nil, List.cons_append, List.nil_append, List.replicate_succ, List.replicate_zero]
  obtain ⟨I, hI⟩ : ∃ I : List Nat → Rho → Prop, ∀ pre ρ, I pre ρ ↔ ∃ (Ws : List (List Ans)) (b : D) (x3 x4 : Option Sl), BagOk b ∧ (∀ W ∈ Ws, (∀ a ∈ W, a ∈ as) ∧ W.length ≤ 9) ∧ Ws.length ≤ pre.length ∧ frx x3 = true ∧ frx x4 = true ∧
      ρ = [some ⟨.par, b⟩, some ⟨.par, .lst (as.map ansD)⟩, some ⟨.own, .lst (Ws.map walkD)⟩, x3, x4] := ⟨_, fun _ _ => Iff.rfl⟩
  simp [rangeD, -List.map_map]
  refine w_loopX (fun i : Nat => D.int i) I (xs := List.range 6) ((hI _ _).mpr ⟨[], b, none, none, hb, by simp, by simp, rfl, rfl, rfl⟩) ?_ ?_
  · intro pre k ρ _ hpre h
    obtain ⟨Ws, b1, x3, x4, hb1, hW, hlW, f3, f4, rfl⟩ := (hI _ _).mp h
    clear h
    rw [List.length_range] at hpre
    simp [f3, nodupS]
    refine law_walk_w hb1 hg hl (by decide) (by decide) fun ws b2 hw hL hlw hb2 => ?_
    have hlw7 : ws.length ≤ 7 := hlw
    have hgw : GoodA ws := fun a ha => hg a (hw a ha)
    have okw : (walkD ws).ok = true := ok_walk hgw
    have eo := eqOk_of' okw ok_nil
    have no : I (pre ++ [k]) [some ⟨.par, b2⟩, some ⟨.par, .lst (as.map ansD)⟩, some ⟨.own, .lst (Ws.map walkD)⟩, some ⟨.fz, .int k⟩, some ⟨.own, walkD ws⟩] := (hI _ _).mpr ⟨Ws, b2, _, _, hb2, hW, by simp; omega, rfl, rfl, rfl⟩
    have yes : I (pre ++ [k]) [some ⟨.par, b2⟩, some ⟨.par, .lst (as.map ansD)⟩, some ⟨.own, .lst (Ws.map walkD ++ [walkD ws])⟩, some ⟨.fz, .int k⟩, some ⟨.fz, walkD ws⟩] := by
      refine (hI _ _).mpr ⟨Ws ++ [ws], b2, some ⟨.fz, .int k⟩, some ⟨.fz, walkD ws⟩, hb2, ?_, by simp; omega, rfl, rfl, by simp⟩
      intro W hWm
      rcases List.mem_append.mp hWm with h | h
      · exact hW W h
      · simp at h; subst h; exact ⟨hw, by omega⟩
    have lws : (Ws.map walkD).length < 16777216 := by rw [List.length_map]; omega
    generalize pre ++ [k] = pre' at no yes ⊢
    generalize Ws.map walkD = Wd at no yes lws ⊢
    cases ws with
    | nil =>
      have ee : eqD (walkD []) (.lst []) = true := by unfold walkD; rw [List.map_nil, eqD_nil]; rfl
      simp [wb, f4, eo, ee]
      exact no
    | cons w ws =>
      obtain ⟨a0, al⟩ := at_ends (w := w) (ws := ws)
      have ee : eqD (walkD (w :: ws)) (.lst []) = false := by unfold walkD; rw [eqD_nil]; rfl
      generalize (w :: ws).getLastD default = l at al
      generalize w :: ws = vs at a0 al ee eo no yes
      have i0 : gSubD (walkD vs) (.int 0) = some ⟨.fz, ansD w⟩ := by
        have : wg (gSubD (walkD vs) (.int 0)) fun s => s = ⟨.fz, ansD w⟩ := by unfold walkD; rw [w_sub_l, a0]; rfl
        obtain ⟨s, e, rfl⟩ := wg_out this
        exact e
      have il : gSubD (walkD vs) (.int (-1)) = some ⟨.fz, ansD l⟩ := by
        have : wg (gSubD (walkD vs) (.int (-1))) fun s => s = ⟨.fz, ansD l⟩ := by unfold walkD; rw [w_sub_l, al]; rfl
        obtain ⟨s, e, rfl⟩ := wg_out this
        exact e
      simp [wb, f4, eo, ee, i0, nodupS]
      refine leads_w ?_
      simp [wb, pairD, nodupS, il]
      refine leads_w ?_
      by_cases e : (ansF w).1 = (ansF l).2
      · simp [wb, pairD, eqD_str, e, lws]
        exact yes
      · simp [wb, pairD, eqD_str, e]
        exact no
  · intro ρ h
    obtain ⟨Ws, b1, x3, x4, hb1, hW, hlW, f3, f4, rfl⟩ := (hI _ _).mp h
    rw [List.length_range] at hlW
    simp [outs]
    exact q Ws b1 hW hlW hb1
/-! ### what is shown of what is shown -/
theorem AnsOk.good {ns : List Str} {as : List Ans} (h : AnsOk ns as) (hn : NamesN ns) : GoodA as := fun a ha => ⟨hn.1 _ (h.inn a ha).1, hn.1 _ (h.inn a ha).2.1⟩
theorem th_repr {t : D} (h : NS t) : ∃ s, gReprA [t] = some ⟨.fz, .str s⟩ ∧ PyData.strOk s = true ∧ s.length ≤ 1500000 := by
  rcases h with rfl | ⟨h1, h2, h3⟩
  · exact ⟨"{}", rfl, by decide +kernel, by decide +kernel⟩
  · refine ⟨_, by rw [e_reprA, if_pos (smp_repr h1 (by omega) (by omega))], shown_ok h1, ?_⟩
    have := (smp_shw t h1).2.2.2
    omega
theorem ok_pr (b : Bool) {s : Str} (h : PyData.strOk s = true) (hl : s.length ≤ 1500000) : (D.lst [.bl b, .str s]).ok = true ∧ reprOk (.lst [.bl b, .str s]) = true := by
  refine ⟨ok_lst (n := 0) ?_ (by decide), ?_⟩
  · intro x hx
    simp at hx
    rcases hx with rfl | rfl
    · exact ⟨by simp [D.pure], by simp [D.py, PyData.canLay0], by simp [D.py, PyData.depth]⟩
    · exact fine_str.mpr h
  · have h1 : (D.lst [.bl b, .str s]).py.shown.length ≤ 16777216 := by
      rw [D.py, PyData.shown, shownAll_map]
      refine Nat.le_trans (listText_le _) ?_
      have a1 : (D.bl b).py.shown.length ≤ 82 := (smp_shw (.bl b) (by rw [Smp]; trivial)).2.2.2
      have a2 := shown_str h hl
      simp only [List.map_cons, List.map_nil, List.sum_cons, List.sum_nil]
      omega
    unfold reprOk
    simp only [Bool.and_eq_true, decide_eq_true_eq]
    refine ⟨⟨⟨by simp [D.pure, pureL], by simp [D.py, pyL, PyData.showable, PyData.showableAll]⟩, by simp [D.py, pyL, PyData.depth, PyData.depthAll]⟩, by rw [e_sz]; exact h1⟩
theorem ok_bb (b c : Bool) : (D.lst [.bl b, .bl c]).ok = true ∧ reprOk (.lst [.bl b, .bl c]) = true := by
  have hs : Smp (.lst [.bl b, .bl c]) := by simp [Smp, SmpL]
  exact ⟨smp_ok hs (by simp [dpD, dpL]), smp_repr hs (by simp [dpD, dpL]) (by simp [szD, szL])⟩
end VI

/-! k22: the law. -/
namespace VI
open PySem PySem.Spec PyProof.Rows L2
abbrev bTh : MS := (fSeq (fPar 12 13 (fOpN gReprA [(.sl 10)]) (fCall (m_law_is_ring isT) [(.sl 4), (.sl 10)]))
  (fForN gRng1 [(.ex (fC (.int 2)))] (bindN 11) (fIfS (fNot (fT (fCall m_law_alike [(.ex (fDisp gLst [(fCall (m_is_ring isT) [(.ex (fName 5)), (.ex (fName 10))]), (fOpN gReprA [(.sl 10)])])), (.ex (fDisp gLst [(fName 13), (fName 12)]))]))) (fRet (fC (.bl false))) fNext)))
theorem thing_w {s0 s1 s2 s3 s6 s7 s8 s9 s11 s12 s13 : Option Sl} {m5 : Md} {as ps : List Ans} {ms : List Str} {t : D} (hg : GoodA as) (hl : as.length ≤ 36) (hp : ps.Perm as) (nd : (ps.map ansP).Nodup) (hga : ∀ a ∈ ps, isAnswerD (ansD a) = true)
    (ht : NS t) (h5 : m5 = .own ∨ m5 = .fz) (f11 : frx s11 = true) (f12 : frx s12 = true) (f13 : frx s13 = true) {QS : Fl → Rho → Prop}
    (q : ∀ m5 s11 s12 s13, (m5 = Md.own ∨ m5 = Md.fz) → frx s11 = true → frx s12 = true → frx s13 = true → QS .nx [s0, s1, s2, s3, some ⟨.own, .lst (as.map ansD)⟩, some ⟨m5, bookD ms ps⟩, s6, s7, s8, s9, some ⟨.fz, t⟩, s11, s12, s13]) :
    wS bTh [s0, s1, s2, s3, some ⟨.own, .lst (as.map ansD)⟩, some ⟨m5, bookD ms ps⟩, s6, s7, s8, s9, some ⟨.fz, t⟩, s11, s12, s13] QS := by
  obtain ⟨s, hs, ok1, ok2⟩ := th_repr ht
  have th : ThOk ["Book"] t := ht.th
  have hgp : GoodA ps := fun a ha => hg a (hp.mem_iff.mp ha)
  unfold bTh
  simp [hs, nodupS, -e_reprA]
  refine law_is_ring_w tok hg hl th (.inr rfl) fun b hb => ?_
  simp [wb, f12, f13, rangeD, -List.map_map]
  refine w_loopX (fun i : Nat => D.int i) (fun _ ρ => ∃ m5 s11, (m5 = Md.own ∨ m5 = Md.fz) ∧ frx s11 = true ∧ ρ = [s0, s1, s2, s3, some ⟨.own, .lst (as.map ansD)⟩, some ⟨m5, bookD ms ps⟩, s6, s7, s8, s9, some ⟨.fz, t⟩, s11, some ⟨.fz, .str s⟩, some ⟨.fz, .bl b⟩]) (xs := List.range 2) ⟨m5, s11, h5, f11, rfl⟩ ?_ ?_
  · rintro pre i ρ _ _ ⟨m5, s11, h5, f11, rfl⟩
    obtain ⟨k1, k2⟩ := ok_pr b ok1 ok2
    rcases h5 with rfl | rfl
    · simp [f11, nodupS]
      refine is_ring_w tok hgp nd hga th fun b2 hb2 => ?_
      have eb : b2 = b := by rw [Bool.eq_iff_iff, hb2, hb, IsRing.perm hp]
      subst eb
      simp [wb, hs, nodupS, -e_reprA]
      refine alike_w k1 k2 ?_
      simp [wb]
    · simp [f11, nodupS]
      refine is_ring_w tok hgp nd hga th fun b2 hb2 => ?_
      have eb : b2 = b := by rw [Bool.eq_iff_iff, hb2, hb, IsRing.perm hp]
      subst eb
      simp [wb, hs, nodupS, -e_reprA]
      refine alike_w k1 k2 ?_
      simp [wb]
  · rintro ρ ⟨m5, s11, h5, f11, rfl⟩
    exact q m5 s11 _ _ h5 f11 rfl rfl
abbrev bWk : MS := (fFor itemsA (.ex (fDisp gTup [(fName 8), (fCall m_law_odd_walk [(.sl 1), (.sl 8), (.sl 3)])])) (bindN 10) bTh)
theorem walk_ok {ws : List Ans} (h : GoodA ws) (hl : ws.length ≤ 100) : NS (walkD ws) := ns_lst (fun d hd => by
    obtain ⟨a, ha, rfl⟩ := List.mem_map.mp hd
    exact sm1_ans (h a ha)) (by rw [List.length_map]; omega)
theorem wk_w {s0 s2 s6 s7 s9 s10 s11 s12 s13 : Option Sl} {b : D} {m5 : Md} {as ps W : List Ans} {ns ms : List Str} (hb : BagOk b) (hn : NamesN ns) (hz : ns.length ≤ 6) (hz2 : 2 ≤ ns.length) (hg : GoodA as) (hl : as.length ≤ 36) (hp : ps.Perm as) (nd : (ps.map ansP).Nodup) (hga : ∀ a ∈ ps, isAnswerD (ansD a) = true)
    (hW : ∀ a ∈ W, a ∈ as) (hWl : W.length ≤ 100) (h5 : m5 = .own ∨ m5 = .fz) (f10 : frx s10 = true) (f11 : frx s11 = true) (f12 : frx s12 = true) (f13 : frx s13 = true) {QS : Fl → Rho → Prop}
    (q : ∀ b m5 s10 s11 s12 s13, BagOk b → (m5 = Md.own ∨ m5 = Md.fz) → frx s10 = true → frx s11 = true → frx s12 = true → frx s13 = true → QS .nx [s0, some ⟨.own, b⟩, s2, some ⟨.own, namesD ns⟩, some ⟨.own, .lst (as.map ansD)⟩, some ⟨m5, bookD ms ps⟩, s6, s7, some ⟨.fz, walkD W⟩, s9, s10, s11, s12, s13]) :
    wS bWk [s0, some ⟨.own, b⟩, s2, some ⟨.own, namesD ns⟩, some ⟨.own, .lst (as.map ansD)⟩, some ⟨m5, bookD ms ps⟩, s6, s7, some ⟨.fz, walkD W⟩, s9, s10, s11, s12, s13] QS := by
  have hgW : GoodA W := fun a ha => hg a (hW a ha)
  have nsw := walk_ok hgW hWl
  unfold bWk
  simp [nodupS]
  refine law_odd_walk_w hb hn hz hz2 hgW hWl fun r1 b2 n1 hb2 => ?_
  obtain ⟨t1, et1⟩ : ∃ t, r1.d = t := ⟨_, rfl⟩
  rw [et1] at n1
  have fin : wS (loopM (bindN 10) bTh ([walkD W, t1].map fun d => d)) [s0, some ⟨.own, b2⟩, s2, some ⟨.own, namesD ns⟩, some ⟨.own, .lst (as.map ansD)⟩, some ⟨m5, bookD ms ps⟩, s6, s7, some ⟨.fz, walkD W⟩, s9, s10, s11, s12, s13] QS := by
    refine w_loopX (fun d : D => d) (fun _ ρ => ∃ m5 s10 s11 s12 s13, (m5 = Md.own ∨ m5 = Md.fz) ∧ frx s10 = true ∧ frx s11 = true ∧ frx s12 = true ∧ frx s13 = true ∧ ρ = [s0, some ⟨.own, b2⟩, s2, some ⟨.own, namesD ns⟩, some ⟨.own, .lst (as.map ansD)⟩, some ⟨m5, bookD ms ps⟩, s6, s7, some ⟨.fz, walkD W⟩, s9, s10, s11, s12, s13]) ⟨m5, s10, s11, s12, s13, h5, f10, f11, f12, f13, rfl⟩ ?_ ?_
    · rintro pre t ρ hm _ ⟨m5, s10, s11, s12, s13, h5, f10, f11, f12, f13, rfl⟩
      have ht : NS t := by
        simp only [List.mem_cons, List.not_mem_nil, or_false] at hm
        rcases hm with rfl | rfl
        · exact nsw
        · exact n1
      simp only [e_bindN, fr_z, fr_s, f10, if_true, wg_some, List.set_cons_succ, List.set_cons_zero]
      refine thing_w hg hl hp nd hga ht h5 f11 f12 f13 ?_
      intro m5 s11 s12 s13 h5 f11 f12 f13
      exact ⟨m5, _, s11, s12, s13, h5, rfl, f11, f12, f13, rfl⟩
    · rintro ρ ⟨m5, s10, s11, s12, s13, h5, f10, f11, f12, f13, rfl⟩
      exact q b2 m5 s10 s11 s12 s13 hb2 h5 f10 f11 f12 f13
  simp only [List.map_cons, List.map_nil] at fin
  simp [wb, et1, lend, back, -w_seq_i]
  exact fin
end VI

/-! k22: the law. -/
namespace VI
open PySem PySem.Spec PyProof.Rows L2
def InvT (sc : Sl) (ρ : Rho) : Prop := ∃ b s2 s3 s4 s5 s6 s7 s8 s9 s10 s11 s12 s13, BagOk b ∧ frx s2 = true ∧ frx s3 = true ∧ frx s4 = true ∧ frx s5 = true ∧ frx s6 = true ∧ frx s7 = true ∧ frx s8 = true ∧ frx s9 = true ∧ frx s10 = true ∧ frx s11 = true ∧ frx s12 = true ∧ frx s13 = true ∧
  ρ = [some sc, some ⟨.own, b⟩, s2, s3, s4, s5, s6, s7, s8, s9, s10, s11, s12, s13]
theorem typA_ans {cs : List Str} {ns : List Str} {as : List Ans} (hn : NamesN ns) (ha : AnsOk ns as) : TypA cs (.lst (as.map ansD)) ∧ areAnswersD (.lst (as.map ansD)) = true := by
  have hg := ha.good hn
  refine ⟨⟨?_, by rw [List.length_map]; have := ha.len; omega⟩, ?_⟩
  · intro d hd
    obtain ⟨a, h, rfl⟩ := List.mem_map.mp hd
    exact smp_typ1 (smp_ans (hg a h).1 (hg a h).2)
  · show (as.map ansD).all isAnswerD = true
    rw [List.all_eq_true]
    intro d hd
    obtain ⟨a, h, rfl⟩ := List.mem_map.mp hd
    exact isAns_good (hg a h).1 (hg a h).2 (ha.inn a h).2.2
def WsOk (as : List Ans) (Ws : List (List Ans)) : Prop := (∀ W ∈ Ws, (∀ a ∈ W, a ∈ as) ∧ W.length ≤ 100) ∧ Ws.length ≤ 100
abbrev bTail : MS := (fSeq (fFor itemsA (.sl 6) (bindN 8) bWk)
  (fIfS (fNot (fT (fCall m_law_alike [(.ex (fDisp gLst [(fCall (m_is_ring isT) [(.ex (fName 5)), (.ex (fName 5))]), (fCall (m_is_ring isT) [(.ex (fName 5)), (.ex (fName 4))])])), (.ex (fDisp gLst [(fC (.bl false)), (fCall (m_law_is_ring isT) [(.sl 4), (.sl 4)])]))]))) (fRet (fC (.bl false))) fNext))
theorem tail_w {s0 s2 s7 s8 s9 s10 s11 s12 s13 : Option Sl} {b : D} {as ps : List Ans} {ns ms : List Str} {Ws : List (List Ans)} (hb : BagOk b) (hn : NamesN ns) (hz : ns.length ≤ 6) (hz2 : 2 ≤ ns.length) (ha : AnsOk ns as) (hp : ps.Perm as) (hW : WsOk as Ws)
    (f8 : frx s8 = true) (f10 : frx s10 = true) (f11 : frx s11 = true) (f12 : frx s12 = true) (f13 : frx s13 = true) {QS : Fl → Rho → Prop}
    (q : ∀ b s3 s4 s5 s6 s8 s10 s11 s12 s13, BagOk b → frx s3 = true → frx s4 = true → frx s5 = true → frx s6 = true → frx s8 = true → frx s10 = true → frx s11 = true → frx s12 = true → frx s13 = true → QS .nx [s0, some ⟨.own, b⟩, s2, s3, s4, s5, s6, s7, s8, s9, s10, s11, s12, s13]) :
    wS bTail [s0, some ⟨.own, b⟩, s2, some ⟨.own, namesD ns⟩, some ⟨.own, .lst (as.map ansD)⟩, some ⟨.own, bookD ms ps⟩, some ⟨.own, .lst (Ws.map walkD)⟩, s7, s8, s9, s10, s11, s12, s13] QS := by
  have hg := ha.good hn
  have nd : (ps.map ansP).Nodup := (hp.map ansP).nodup_iff.mpr ha.nodup
  have hga : ∀ a ∈ ps, isAnswerD (ansD a) = true := fun a h => by
    have h1 := ha.inn a (hp.mem_iff.mp h)
    exact isAns_good (hn.1 _ h1.1) (hn.1 _ h1.2.1) h1.2.2
  have hgp : GoodA ps := fun a h => hg a (hp.mem_iff.mp h)
  unfold bTail
  rw [w_seq, w_for, w_sl]
  simp only [at_z, at_s]
  rw [w_look]
  simp only [at_z, at_s]
  rw [e_itA_l, wg_some]
  simp only [lend, List.getElem?_cons_succ, List.getElem?_cons_zero, List.set_cons_succ, List.set_cons_zero]
  refine w_loopX walkD (fun _ ρ => ∃ b m5 s8 s10 s11 s12 s13, BagOk b ∧ (m5 = Md.own ∨ m5 = Md.fz) ∧ frx s8 = true ∧ frx s10 = true ∧ frx s11 = true ∧ frx s12 = true ∧ frx s13 = true ∧ ρ = [s0, some ⟨.own, b⟩, s2, some ⟨.own, namesD ns⟩, some ⟨.own, .lst (as.map ansD)⟩, some ⟨m5, bookD ms ps⟩, some ⟨.lent, .lst (Ws.map walkD)⟩, s7, s8, s9, s10, s11, s12, s13]) ⟨b, .own, s8, s10, s11, s12, s13, hb, .inl rfl, f8, f10, f11, f12, f13, rfl⟩ ?_ ?_
  · rintro pre W ρ hm _ ⟨b, m5, s8, s10, s11, s12, s13, hb, h5, f8, f10, f11, f12, f13, rfl⟩
    simp only [e_bindN, fr_z, fr_s, f8, if_true, wg_some, List.set_cons_succ, List.set_cons_zero]
    refine wk_w hb hn hz hz2 hg ha.len hp nd hga (hW.1 W hm).1 (hW.1 W hm).2 h5 f10 f11 f12 f13 ?_
    intro b m5 s10 s11 s12 s13 hb h5 f10 f11 f12 f13
    exact ⟨b, m5, _, s10, s11, s12, s13, hb, h5, rfl, f10, f11, f12, f13, rfl⟩
  · rintro ρ ⟨b, m5, s8, s10, s11, s12, s13, hb, h5, f8, f10, f11, f12, f13, rfl⟩
    have tb : ThOk ["Book"] (bookD ms ps) := .inr (.inr ⟨_, _, rfl, by simp⟩)
    have ta : ThOk ["Book"] (.lst (as.map ansD)) := (walk_ok hg (by have := ha.len; omega)).th
    have last : wS (fIfS (fNot (fT (fCall m_law_alike [(.ex (fDisp gLst [(fCall (m_is_ring isT) [(.ex (fName 5)), (.ex (fName 5))]), (fCall (m_is_ring isT) [(.ex (fName 5)), (.ex (fName 4))])])), (.ex (fDisp gLst [(fC (.bl false)), (fCall (m_law_is_ring isT) [(.sl 4), (.sl 4)])]))]))) (fRet (fC (.bl false))) fNext)
        [s0, some ⟨.own, b⟩, s2, some ⟨.own, namesD ns⟩, some ⟨.own, .lst (as.map ansD)⟩, some ⟨m5, bookD ms ps⟩, some ⟨.own, .lst (Ws.map walkD)⟩, s7, s8, s9, s10, s11, s12, s13] QS := by
      have fin : ∀ m4, (m4 = Md.fz) → QS .nx [s0, some ⟨.own, b⟩, s2, some ⟨.own, namesD ns⟩, some ⟨m4, .lst (as.map ansD)⟩, some ⟨.fz, bookD ms ps⟩, some ⟨.own, .lst (Ws.map walkD)⟩, s7, s8, s9, s10, s11, s12, s13] := by
        rintro _ rfl
        exact q _ _ _ _ _ _ _ _ _ _ hb rfl rfl rfl rfl f8 f10 f11 f12 f13
      have step : ∀ {Q : Sl → List Sl → Prop}, (Q ⟨.fz, .bl false⟩ [⟨.fz, bookD ms ps⟩, ⟨.fz, bookD ms ps⟩]) → wM (m_is_ring isT) [⟨.fz, bookD ms ps⟩, ⟨.fz, bookD ms ps⟩] Q := by
        intro Q hq
        refine is_ring_w tok hgp nd hga tb fun b1 hb1 => ?_
        have e1 : b1 = false := by
          rw [← Bool.not_eq_true, hb1]
          rintro ⟨ws, e, -⟩
          cases e
        subst e1
        exact hq
      rcases h5 with rfl | rfl
      · simp [nodupS]
        refine step ?_
        simp [wb, nodupS]
        refine is_ring_w tok hgp nd hga ta fun b2 hb2 => ?_
        simp [wb, nodupS]
        refine law_is_ring_w tok hg ha.len ta (.inl rfl) fun b3 hb3 => ?_
        have eb : b2 = b3 := by rw [Bool.eq_iff_iff, hb2, hb3, IsRing.perm hp]
        subst eb
        simp [wb, nodupS]
        refine alike_w (ok_bb _ _).1 (ok_bb _ _).2 ?_
        simp [wb]
        exact fin _ rfl
      · simp [nodupS]
        refine step ?_
        simp [wb, nodupS]
        refine is_ring_w tok hgp nd hga ta fun b2 hb2 => ?_
        simp [wb, nodupS]
        refine law_is_ring_w tok hg ha.len ta (.inl rfl) fun b3 hb3 => ?_
        have eb : b2 = b3 := by rw [Bool.eq_iff_iff, hb2, hb3, IsRing.perm hp]
        subst eb
        simp [wb, nodupS]
        refine alike_w (ok_bb _ _).1 (ok_bb _ _).2 ?_
        simp [wb]
        exact fin _ rfl
    exact last
theorem law_w {ns : List Int} (hl : ns.length ≤ 63) : wM m_law [⟨.fz, .seq (ns.map D.int)⟩] fun r _ => r = ⟨.fz, .bl true⟩ := by
  rw [m_law, w_fn, b_law]
  simp only [List.map_cons, List.map_nil, List.cons_append, List.nil_append, List.replicate_succ, List.replicate_zero]
  simp [nodupS]
  refine bag_w hl fun b0 hb0 => ?_
  generalize (D.seq (ns.map D.int)) = sd
  simp [wb, rangeD, -List.map_map]
  refine w_loopX (fun i : Nat => D.int i) (fun _ ρ => InvT ⟨.fz, sd⟩ ρ) (xs := List.range 4) ?_ ?_ ?_
  · exact ⟨b0, _, _, _, _, _, _, _, _, _, _, _, _, hb0, rfl, rfl, rfl, rfl, rfl, rfl, rfl, rfl, rfl, rfl, rfl, rfl, rfl⟩
  · rintro pre i ρ _ _ ⟨b, s2, s3, s4, s5, s6, s7, s8, s9, s10, s11, s12, s13, hb, f2, f3, f4, f5, f6, f7, f8, f9, f10, f11, f12, f13, rfl⟩
    simp [f2, nodupS]
    refine take_w hb (by decide) (by decide) fun t b1 t0 t1 hb1 => ?_
    simp [wb, nodupS]
    refine names_w hb1 (by omega) (by omega) fun nms b2 hnn hln hb2 => ?_
    have hz : nms.length ≤ 6 := by omega
    have hz2 : 2 ≤ nms.length := by omega
    simp [wb, f3, nodupS]
    refine take_w hb2 (by decide) (by decide) fun u b3 u0 u1 hb3 => ?_
    simp [wb, nodupS]
    refine any_w hb3 hnn hz (by omega) fun as b4 ha hb4 => ?_
    obtain ⟨ta, aa⟩ := typA_ans (cs := ["Book"]) hnn ha
    have hg := ha.good hnn
    simp [wb, f4, nodupS]
    refine book_pp tok hnn hz ha rfl ta aa fun ms ps _ hms _ hps => ?_
    have nd : (ps.map ansP).Nodup := (hps.map ansP).nodup_iff.mpr ha.nodup
    have hga : ∀ a ∈ ps, isAnswerD (ansD a) = true := fun a h => by
      have h1 := ha.inn a (hps.mem_iff.mp h)
      exact isAns_good (hnn.1 _ h1.1) (hnn.1 _ h1.2.1) h1.2.2
    have hin : ∀ a ∈ ps, a.1 ∈ ms ∧ a.2.1 ∈ ms := fun a h => by
      have h1 := ha.inn a (hps.mem_iff.mp h)
      exact ⟨hms.mem_iff.mpr h1.1, hms.mem_iff.mpr h1.2.1⟩
    have hgp : GoodA ps := fun a h => hg a (hps.mem_iff.mp h)
    simp [wb, f5, nodupS]
    refine law_rounds_w hb4 hg ha.len fun Ws b5 hW hWl hb5 => ?_
    simp [wb, nodupS]
    refine law_walk_w hb5 hg ha.len (by decide) (by decide) fun w8 b6 hw8 _ hl8 hb6 => ?_
    have hl8' : w8.length ≤ 8 := hl8
    -- the walks that are asked about
    have hW1 : WsOk as (Ws ++ [w8]) := by
      refine ⟨?_, by simp; omega⟩
      intro W hm
      rcases List.mem_append.mp hm with h | h
      · exact ⟨(hW W h).1, by have := (hW W h).2; omega⟩
      · simp at h; subst h; exact ⟨hw8, by omega⟩
    have e6 : Ws.map walkD ++ [walkD w8] = (Ws ++ [w8]).map walkD := by simp
    have l6 : (Ws.map walkD).length + 1 ≤ 16777216 := by rw [List.length_map]; omega
    have ham : ms.length ≤ 6 := by rw [hms.length_eq]; exact hz
    -- what comes behind
    have post : ∀ {b : D} {Ws : List (List Ans)} {s7 s9 : Option Sl}, BagOk b → WsOk as Ws → frx s7 = true → frx s9 = true →
        wS bTail [some ⟨.fz, sd⟩, some ⟨.own, b⟩, some ⟨.fz, .int i⟩, some ⟨.own, namesD nms⟩, some ⟨.own, .lst (as.map ansD)⟩, some ⟨.own, bookD ms ps⟩, some ⟨.own, .lst (Ws.map walkD)⟩, s7, s8, s9, s10, s11, s12, s13]
          fun fl ρ => fl = .nx ∧ InvT ⟨.fz, sd⟩ ρ := by
      intro b Ws s7 s9 hb hW f7 f9
      refine tail_w hb hnn hz hz2 ha hps hW f8 f10 f11 f12 f13 ?_
      intro b s3 s4 s5 s6 s8 s10 s11 s12 s13 hb f3 f4 f5 f6 f8 f10 f11 f12 f13
      exact ⟨rfl, b, _, s3, s4, s5, s6, s7, s8, s9, s10, s11, s12, s13, hb, rfl, f3, f4, f5, f6, f7, f8, f9, f10, f11, f12, f13, rfl⟩
    generalize hwd : Ws.map walkD = Wd at e6 l6 ⊢
    simp [wb, f6, nodupS]
    refine ⟨by omega, ?_⟩
    rw [e6]
    clear e6 l6 hwd
    have hVl : (Ws ++ [w8]).length ≤ 7 := by simp; omega
    generalize Ws ++ [w8] = Vs at hW1 hVl ⊢
    refine ring_of_w hin hgp (by rw [hps.length_eq]; exact ha.len) ham ?_ ?_
    · simp [wb, f7, -w_for_i]
      refine (w_seq (g := fFor itemsA (.sl 6) (bindN 8) bWk)).mp ?_
      exact wS_mono (post hb6 hW1 rfl f9) fun fl ρ h => by obtain ⟨rfl, h⟩ := h; exact h
    · intro fs hne hfs hlf
      have n7 : gNotN (walkD fs) = some ⟨.fz, .bl true⟩ := rfl
      have lw : gLenA [walkD fs] = some ⟨.fz, .int fs.length⟩ := by unfold walkD; rw [e_lenL, List.length_map]
      have hfa : ∀ a ∈ fs, a ∈ as := fun a h => hps.mem_iff.mp (hfs a h)
      have hf1 : 1 ≤ fs.length := List.length_pos_iff.mpr hne
      simp [wb, f7, n7, lw, nodupS, -w_for_i]
      refine take_w hb6 (by omega) (by omega) fun at_ b7 a0 a1 hb7 => ?_
      obtain ⟨u1, c1, g1, l1⟩ := cutA fs (some at_) none
      obtain ⟨u2, c2, g2, l2⟩ := cutA fs none (some at_)
      have k1 : gSlA (walkD fs) (some at_) none = some ⟨.own, walkD u1⟩ := by unfold walkD; rw [e_slA_l, c1]
      have k2 : gSlA (walkD fs) none (some at_) = some ⟨.own, walkD u2⟩ := by unfold walkD; rw [e_slA_l, c2]
      have k3 : gAddA (walkD u1) (walkD u2) = some ⟨.own, walkD (u1 ++ u2)⟩ := by unfold walkD; rw [e_addA_l, if_pos (by rw [e_sz]; simp; omega), List.map_append]
      have k4 : gAddA (walkD fs) (walkD fs) = some ⟨.own, walkD (fs ++ fs)⟩ := by unfold walkD; rw [e_addA_l, if_pos (by rw [e_sz]; simp; omega), List.map_append]
      have hV2 : WsOk as (Vs ++ [fs, u1 ++ u2, fs ++ fs, u2]) := by
        have hs1 : ∀ a ∈ u1, a ∈ as := fun a h => hfa a (g1 a h)
        have hs2 : ∀ a ∈ u2, a ∈ as := fun a h => hfa a (g2 a h)
        have app : ∀ {u v : List Ans}, (∀ a ∈ u, a ∈ as) → (∀ a ∈ v, a ∈ as) → ∀ a ∈ u ++ v, a ∈ as := fun h1 h2 => List.forall_mem_append.mpr ⟨h1, h2⟩
        refine ⟨List.forall_mem_append.mpr ⟨hW1.1, ?_⟩, by have := hVl; simp; omega⟩
        intro W hm
        simp only [List.mem_cons, List.not_mem_nil, or_false] at hm
        rcases hm with rfl | rfl | rfl | rfl
        · exact ⟨hfa, by omega⟩
        · exact ⟨app hs1 hs2, by simp; omega⟩
        · exact ⟨app hfa hfa, by simp; omega⟩
        · exact ⟨hs2, by omega⟩
      have e7 : Vs.map walkD ++ [walkD fs, walkD (u1 ++ u2), walkD (fs ++ fs), walkD u2] = (Vs ++ [fs, u1 ++ u2, fs ++ fs, u2]).map walkD := by simp
      have l7 : (Vs.map walkD).length + 4 ≤ 16777216 := by rw [List.length_map]; have := hW1.2; omega
      have pst := post (s7 := some ⟨.fz, walkD fs⟩) (s9 := some ⟨.fz, .int at_⟩) hb7 hV2 rfl rfl
      rw [← e7] at pst
      generalize Vs.map walkD = Vd at l7 pst
      simp [wb, f9, k1, k2, k3, k4, l7, -w_for_i]
      refine (w_seq (g := fFor itemsA (.sl 6) (bindN 8) bWk)).mp ?_
      exact wS_mono pst fun fl ρ h => by obtain ⟨rfl, h⟩ := h; exact h
  · rintro ρ ⟨b, s2, s3, s4, s5, s6, s7, s8, s9, s10, s11, s12, s13, hb, f2, f3, f4, f5, f6, f7, f8, f9, f10, f11, f12, f13, rfl⟩
    simp
theorem law_holds (K : PySem.W.Frag) (H : Hp) (a : Addr) (ns : List Int) (hl : ns.length ≤ 63) (hS : SqL K H a (ns.map V.int)) : spG K 1 m_law [.ref a] H fun v _ => v = .bl true := law_of (law_w hl) K H a hS
end VI

open PySem PySem.W PyProof.Rows
set_option maxRecDepth 100000 in
set_option maxHeartbeats 8000000 in
theorem PySem.Challenge.cw_barelybetter_k22_rings_judged_holds : PySem.Challenge.rw_barelybetter_k22_rings_judged.Holds := by
  w_on; o_law; k_head; (case hw => w_witness2)
  k_fill
  refine VI.walk_law (l := PySem.Challenge.rw_barelybetter_k22_rings_judged) (n := 63) (k := 8) (x := "_law_script") (sp := fun K => VI.spG K 1 VI.m_law) rfl (by decide) rfl ⟨rfl, by decide, by decide⟩ (fun w h Y => PySem.W.kIn_of Y) ?F (fun K H a ns hl hS => VI.law_holds K H a ns hl hS)
  case F =>
    intro w mg fa h KX G hmg
    refine' VI.all_mk KX G hmg ?z_abs ?z_all ?z_bool ?z_int ?z_isinstance ?z_len ?z_list ?z_max ?z_range ?z_repr ?z_set ?z_sorted ?z_str ?z_tuple ?z_zip ?g_LETTERS ?g_LONGEST ?a_Book ?pg_Book ?hd_Book ?po_Book ?sa_Book ?mk_Book ?kc_Book ?c1_Book ?c4_Book ?n_Book_its_answers ?n_Book_its_things ?n_Book_its_truths ?sf_Book ?ns_Book ?cx2 ?cx3 ?e0 ?e1 ?e2 ?e3 ?e4 ?e5 ?e6 ?e7 ?e8 ?e9 ?e10 ?e11 ?e12 ?e13 ?e14 ?e15 ?e16 ?e17 ?e18 ?e19 ?e20 ?e21 ?e22 ?e23 ?e24 ?e25 ?e26 ?e27 ?e28 ?e29 ?e30 ?e31 ?a0 ?l0 ?c0 ?k0 ?a1 ?l1 ?c1 ?k1 ?a2 ?l2 ?c2 ?k2 ?a3 ?l3 ?c3 ?k3 ?a4 ?l4 ?c4 ?k4 ?a5 ?l5 ?c5 ?k5 ?a6 ?l6 ?c6 ?k6 ?a7 ?l7 ?c7 ?k7 ?a8 ?l8 ?c8 ?k8 ?a9 ?l9 ?c9 ?k9 ?a10 ?l10 ?c10 ?k10 ?a11 ?l11 ?c11 ?k11 ?a12 ?l12 ?c12 ?k12 ?a13 ?l13 ?c13 ?k13 ?a14 ?l14 ?c14 ?k14 ?a15 ?l15 ?c15 ?k15 ?a16 ?l16 ?c16 ?k16 ?a17 ?l17 ?c17 ?k17 ?a18 ?l18 ?c18 ?k18 ?a19 ?l19 ?c19 ?k19 ?a20 ?l20 ?c20 ?k20 ?a21 ?i21 ?l21 ?c21 ?k21 ?q21 ?a22 ?l22 ?c22 ?k22 ?a23 ?l23 ?c23 ?k23 ?a24 ?l24 ?c24 ?k24 ?a25 ?i25 ?l25 ?c25 ?k25 ?a26 ?i26 ?l26 ?c26 ?k26 ?a27 ?l27 ?c27 ?k27 ?a28 ?l28 ?c28 ?k28 ?a29 ?l29 ?c29 ?k29 ?a30 ?l30 ?c30 ?k30 ?a31 ?l31 ?c31 ?k31 ?a32 ?l32 ?c32 ?k32 ?a33 ?l33 ?c33 ?k33 ?a34 ?i34 ?l34 ?lT34 ?lU34 ?c34 ?k34 ?a35 ?l35 ?c35 ?k35
    case z_abs => first | k_is | rfl
    case z_all => first | k_is | rfl
    case z_bool => first | k_is | rfl
    case z_int => first | k_is | rfl
    case z_isinstance => first | k_is | rfl
    case z_len => first | k_is | rfl
    case z_list => first | k_is | rfl
    case z_max => first | k_is | rfl
    case z_range => first | k_is | rfl
    case z_repr => first | k_is | rfl
    case z_set => first | k_is | rfl
    case z_sorted => first | k_is | rfl
    case z_str => first | k_is | rfl
    case z_tuple => first | k_is | rfl
    case z_zip => first | k_is | rfl
    case g_LETTERS => first | k_is | rfl
    case g_LONGEST => first | k_is | rfl
    case a_Book => first | k_is | rfl
    case pg_Book => first | k_is | rfl
    case hd_Book => first | k_is | rfl
    case po_Book => first | k_is | rfl
    case sa_Book => first | k_is | rfl
    case mk_Book => first | k_is | rfl
    case kc_Book => first | k_is | rfl
    case c1_Book => first | k_is | rfl
    case c4_Book => first | k_is | rfl
    case n_Book_its_answers => first | k_is | rfl
    case n_Book_its_things => first | k_is | rfl
    case n_Book_its_truths => first | k_is | rfl
    case sf_Book => first | k_is | rfl
    case ns_Book => first | k_is | rfl
    case cx2 => first | k_is | rfl
    case cx3 => first | k_is | rfl
    case e0 => first | k_is | rfl
    case e1 => first | k_is | rfl
    case e2 => first | k_is | rfl
    case e3 => first | k_is | rfl
    case e4 => first | k_is | rfl
    case e5 => first | k_is | rfl
    case e6 => first | k_is | rfl
    case e7 => first | k_is | rfl
    case e8 => first | k_is | rfl
    case e9 => first | k_is | rfl
    case e10 => first | k_is | rfl
    case e11 => first | k_is | rfl
    case e12 => first | k_is | rfl
    case e13 => first | k_is | rfl
    case e14 => first | k_is | rfl
    case e15 => first | k_is | rfl
    case e16 => first | k_is | rfl
    case e17 => first | k_is | rfl
    case e18 => first | k_is | rfl
    case e19 => first | k_is | rfl
    case e20 => first | k_is | rfl
    case e21 => first | k_is | rfl
    case e22 => first | k_is | rfl
    case e23 => first | k_is | rfl
    case e24 => first | k_is | rfl
    case e25 => first | k_is | rfl
    case e26 => first | k_is | rfl
    case e27 => first | k_is | rfl
    case e28 => first | k_is | rfl
    case e29 => first | k_is | rfl
    case e30 => first | k_is | rfl
    case e31 => first | k_is | rfl
    case a0 => first | k_is | rfl
    case l0 => first | k_is | rfl
    case c0 => first | k_is | rfl
    case k0 => first | k_is | rfl
    case a1 => first | k_is | rfl
    case l1 => first | k_is | rfl
    case c1 => first | k_is | rfl
    case k1 => first | k_is | rfl
    case a2 => first | k_is | rfl
    case l2 => first | k_is | rfl
    case c2 => first | k_is | rfl
    case k2 => first | k_is | rfl
    case a3 => first | k_is | rfl
    case l3 => first | k_is | rfl
    case c3 => first | k_is | rfl
    case k3 => first | k_is | rfl
    case a4 => first | k_is | rfl
    case l4 => first | k_is | rfl
    case c4 => first | k_is | rfl
    case k4 => first | k_is | rfl
    case a5 => first | k_is | rfl
    case l5 => first | k_is | rfl
    case c5 => first | k_is | rfl
    case k5 => first | k_is | rfl
    case a6 => first | k_is | rfl
    case l6 => first | k_is | rfl
    case c6 => first | k_is | rfl
    case k6 => first | k_is | rfl
    case a7 => first | k_is | rfl
    case l7 => first | k_is | rfl
    case c7 => first | k_is | rfl
    case k7 => first | k_is | rfl
    case a8 => first | k_is | rfl
    case l8 => first | k_is | rfl
    case c8 => first | k_is | rfl
    case k8 => first | k_is | rfl
    case a9 => first | k_is | rfl
    case l9 => first | k_is | rfl
    case c9 => first | k_is | rfl
    case k9 => first | k_is | rfl
    case a10 => first | k_is | rfl
    case l10 => first | k_is | rfl
    case c10 => first | k_is | rfl
    case k10 => first | k_is | rfl
    case a11 => first | k_is | rfl
    case l11 => first | k_is | rfl
    case c11 => first | k_is | rfl
    case k11 => first | k_is | rfl
    case a12 => first | k_is | rfl
    case l12 => first | k_is | rfl
    case c12 => first | k_is | rfl
    case k12 => first | k_is | rfl
    case a13 => first | k_is | rfl
    case l13 => first | k_is | rfl
    case c13 => first | k_is | rfl
    case k13 => first | k_is | rfl
    case a14 => first | k_is | rfl
    case l14 => first | k_is | rfl
    case c14 => first | k_is | rfl
    case k14 => first | k_is | rfl
    case a15 => first | k_is | rfl
    case l15 => first | k_is | rfl
    case c15 => first | k_is | rfl
    case k15 => first | k_is | rfl
    case a16 => first | k_is | rfl
    case l16 => first | k_is | rfl
    case c16 => first | k_is | rfl
    case k16 => first | k_is | rfl
    case a17 => first | k_is | rfl
    case l17 => first | k_is | rfl
    case c17 => first | k_is | rfl
    case k17 => first | k_is | rfl
    case a18 => first | k_is | rfl
    case l18 => first | k_is | rfl
    case c18 => first | k_is | rfl
    case k18 => first | k_is | rfl
    case a19 => first | k_is | rfl
    case l19 => first | k_is | rfl
    case c19 => first | k_is | rfl
    case k19 => first | k_is | rfl
    case a20 => first | k_is | rfl
    case l20 => first | k_is | rfl
    case c20 => first | k_is | rfl
    case k20 => first | k_is | rfl
    case a21 => first | k_is | rfl
    case i21 => first | k_is | rfl
    case l21 => first | k_is | rfl
    case c21 => first | k_is | rfl
    case k21 => first | k_is | rfl
    case q21 => first | k_is | rfl
    case a22 => first | k_is | rfl
    case l22 => first | k_is | rfl
    case c22 => first | k_is | rfl
    case k22 => first | k_is | rfl
    case a23 => first | k_is | rfl
    case l23 => first | k_is | rfl
    case c23 => first | k_is | rfl
    case k23 => first | k_is | rfl
    case a24 => first | k_is | rfl
    case l24 => first | k_is | rfl
    case c24 => first | k_is | rfl
    case k24 => first | k_is | rfl
    case a25 => first | k_is | rfl
    case i25 => first | k_is | rfl
    case l25 => first | k_is | rfl
    case c25 => first | k_is | rfl
    case k25 => first | k_is | rfl
    case a26 => first | k_is | rfl
    case i26 => first | k_is | rfl
    case l26 => first | k_is | rfl
    case c26 => first | k_is | rfl
    case k26 => first | k_is | rfl
    case a27 => first | k_is | rfl
    case l27 => first | k_is | rfl
    case c27 => first | k_is | rfl
    case k27 => first | k_is | rfl
    case a28 => first | k_is | rfl
    case l28 => first | k_is | rfl
    case c28 => first | k_is | rfl
    case k28 => first | k_is | rfl
    case a29 => first | k_is | rfl
    case l29 => first | k_is | rfl
    case c29 => first | k_is | rfl
    case k29 => first | k_is | rfl
    case a30 => first | k_is | rfl
    case l30 => first | k_is | rfl
    case c30 => first | k_is | rfl
    case k30 => first | k_is | rfl
    case a31 => first | k_is | rfl
    case l31 => first | k_is | rfl
    case c31 => first | k_is | rfl
    case k31 => first | k_is | rfl
    case a32 => first | k_is | rfl
    case l32 => first | k_is | rfl
    case c32 => first | k_is | rfl
    case k32 => first | k_is | rfl
    case a33 => first | k_is | rfl
    case l33 => first | k_is | rfl
    case c33 => first | k_is | rfl
    case k33 => first | k_is | rfl
    case a34 => first | k_is | rfl
    case i34 => first | k_is | rfl
    case l34 => first | k_is | rfl
    case lT34 => first | k_is | rfl
    case lU34 => first | k_is | rfl
    case c34 => first | k_is | rfl
    case k34 => first | k_is | rfl
    case a35 => first | k_is | rfl
    case l35 => first | k_is | rfl
    case c35 => first | k_is | rfl
    case k35 => first | k_is | rfl
